import PyProof.Rows.All
import HandS.HeadHook4
import Wide.All
import OpenK.AllK
import Wide.FinOn
import HandS.Base
import HandS.Call
import HandS.Exc
import HandS.ExcInit
import HandS.ExcField
import HandS.NestedK
import HandS.Codes
import HandS.More
import HandS.Words
import HandS.HeadWalk
import HandS.HeadEnd
import HandS.Head2
import PySem.Challenge.RW_postriders_k34_whole_letters_without_sta
import HandS.List
import HandS.Comp
import HandS.Dict
import HandS.Iter
import HandS.Zip
import HandS.IsInst
import HandS.Ends
import HandS.WordsExc
import HandS.Defaults
import HandS.Lambda
import HandS.TupAny
import HandS.TupMul
import HandS.Conv
import HandS.NoneIn
import PyProof.Rows.RuleB_pow
import HandS.TryOnly
import HandS.MakeKwOnly
import PyProof.ReprRoads
import PyProof.CallFns
import PyProof.StrLawsRepr
import PyProof.FitsInt
import PyProof.DictList
import PyProof.Rows.RegStrFacts
import HandS.EndTab
import HandS.Style
import HandS.SortInts
import HandS.ListItems
import KE.KRevSl
import KE.SortData
import KE.GoesEnum
import HandS.DictComp
import HandS.Star
import KE.KDictSum
import HandS.Text
/-! DL, part 0: the defs that make lambdas (each law has its own list). -/
namespace DL
open PySem
def lamDefs : List Str := ["law"]
/-- their tables of code objects, the lambdas' names -/
def tabK (K : PySem.W.Frag) : List (Addr × Str) := lamDefs.map fun d => (He.tabOf K (He.codeOf K (d, none)), d ++ ".<locals>." ++ "<lambda>")
end DL

set_option Elab.async false
set_option linter.all false
set_option maxRecDepth 100000
set_option maxHeartbeats 4000000
/-! DL, part hk: what the head is asked. -/
namespace DL
open PySem PySem.Spec PyProof.Rows L2

/-- the class object at C, as an own exception class beneath ValueError has it -/
def isExcO (C : Addr) : Obj → Bool
  | ⟨ty, _, .cls c, sl⟩ => decide (ty = .type "type") && (c.hasDict && (!c.hasDel &&
      ((match sl.toList with
        | [_, _, _, _, some (.builtin n), _] => decide (n = "ValueError.__new__")
        | _ => false) &&
       (match c.mro with
        | .ref D :: r => decide (D = C) && PySem.HandSPX.refsVE r
        | _ => false))))
  | _ => false
theorem isExcO_ok {C : Addr} {o : Obj} (h : isExcO C o = true) : ∃ nm q N bs bm sn sub ab col dd k0 k1 k2 k3 k5, o = excClassObj nm q C N bs bm true sn sub ab col dd k0 k1 k2 k3 k5 "ValueError.__new__" ∧ PySem.HandSPX.refsVE bm = true := by
  obtain ⟨ty, dd, dt, sl⟩ := o
  cases dt with
  | cls c =>
    obtain ⟨nm, bs, mro, ns, qn, hd, sn, sub, ab, col, del⟩ := c
    obtain ⟨h1, r1⟩ := He.ba h
    obtain ⟨h2, r2⟩ := He.ba r1
    obtain ⟨h3, r3⟩ := He.ba r2
    obtain ⟨h4, h5⟩ := He.ba r3
    clear r1 r2 r3 h
    have e1 := of_decide_eq_true h1
    have e2 : hd = true := h2
    have e3 : del = false := by
      have h3 : (!del) = true := h3
      cases del with
      | false => rfl
      | true => cases h3
    subst e1 e2 e3
    obtain ⟨sl⟩ := sl
    dsimp only at h4 h5
    split at h4
    · rename_i k0 k1 k2 k3 n k5
      have en := of_decide_eq_true h4
      subst en
      split at h5
      · rename_i D r
        obtain ⟨h6, h7⟩ := He.ba h5
        have eD := of_decide_eq_true h6
        subst eD
        exact ⟨_, _, _, _, _, _, _, _, _, _, _, _, _, _, _, rfl, h7⟩
      · cases h5
    · cases h4
  | _ => cases h
/-- an own exception class of one field, as the written part tells it -/
def excB (x fld : Str) (K : PySem.W.Frag) : Bool :=
  let C := He.ga K x
  (match K.lookup C with
   | some o => isExcO C o
   | none => false) &&
  ((He.Fa.meth x "__init__").ok K && ((He.Fa.noat x fld).ok K && ((He.Fa.exm x x true).ok K && (L2.xfB K C && (He.eqO (PySem.W.findIn K (.ref C) "__setattr__") (some (some (.builtin "object.__setattr__"))) &&
    (decide (PySem.W.typeIn K (.ref C) = some (.type "type")) && (PySem.W.keepIn K (.ref C) && decide (PySem.W.typeIn K (.ref (He.ma K C "__init__")) = some (.type "function")))))))))
/-! ### the hook -/
/-- what the head looks at: all that the top's names reach in n steps, and sys.modules -/
def lookK (n : Nat) (g : Addr → Option Obj) : PySem.W.Frag := He.frT g (sysModules :: He.asD g n)
abbrev SeenT : Type := He.AlD × Bool
def seeH (n : Nat) (fa : List He.Fa) (fn : List He.DefD) (tf : List He.Defn) (ex : PySem.W.Frag → Bool) (g : Addr → Option Obj) : SeenT :=
  (He.obsD fa fn (lookK n g), ((lookK n g).lookup sysModules).isSome && ex (lookK n g) && He.tabsB g tf (lookK n g))
structure Told (fa : List He.Fa) (fn : List He.DefD) (tf : List He.Defn) (ex : PySem.W.Frag → Bool) (h : Heap) (K : PySem.W.Frag) : Prop where
  d : He.SaysD fa fn K
  sm : ∃ o, K.lookup sysModules = some o
  ex : ex K = true
  cd : ∀ p ∈ tf, PySem.W.codeHdIn K (He.cT K p).1 (He.cT K p).2 = true
  no : ∀ p ∈ tf, K.lookup (He.cT K p).2 = none
  em : ∀ p ∈ tf, h.get? (He.cT K p).2 = some { cls := .none, data := .fields #[] }
theorem told_of {n : Nat} {fa : List He.Fa} {fn : List He.DefD} {tf : List He.Defn} {ex : PySem.W.Frag → Bool} {h : Heap} (e : seeH n fa fn tf ex h.get? = (He.valD fn, true)) : Told fa fn tf ex h (lookK n h.get?) := by
  have e1 : He.obsD fa fn (lookK n h.get?) = He.valD fn := congrArg Prod.fst e
  obtain ⟨h12, h3⟩ := He.ba (congrArg Prod.snd e)
  obtain ⟨h1, h2⟩ := He.ba h12
  have tb : ∀ p ∈ tf, PySem.W.codeHdIn (lookK n h.get?) (He.cT (lookK n h.get?) p).1 (He.cT (lookK n h.get?) p).2 = true ∧ ∃ o, h.get? (He.cT (lookK n h.get?) p).2 = some o ∧ He.emptyTab o = true := fun p hp => by
    obtain ⟨a1, a2⟩ := He.ba (List.all_eq_true.mp h3 p hp)
    refine ⟨a1, ?_⟩
    revert a2
    cases h.get? (He.cT (lookK n h.get?) p).2 with
    | none => exact fun z => nomatch z
    | some o => exact fun z => ⟨o, rfl, z⟩
  exact ⟨e1, Option.isSome_iff_exists.mp h1, h2, fun p hp => (tb p hp).1, fun p hp => (let ⟨_, o, q, z⟩ := tb p hp; He.frT_none q z), fun p hp => by
    obtain ⟨_, o, q, z⟩ := tb p hp
    exact q.trans (congrArg some (He.emptyTab_eq z))⟩
def hookH (n : Nat) (fa : List He.Fa) (fn : List He.DefD) (tf : List He.Defn) (ex : PySem.W.Frag → Bool) : PySem.W.Hook where
  α := SeenT
  obs := fun s => seeH n fa fn tf ex s.heap.get?
  val := fun _ => (He.valD fn, true)
  says := fun _ h => ∃ K : PySem.W.Frag, K.In h ∧ Told fa fn tf ex h K
  of := fun _ _ e => ⟨_, He.frT_in, told_of e⟩
  keeps := fun _ _ _ ⟨K, i, t⟩ k => ⟨K, PySem.W.Frag.In.keeps i k, ⟨t.d, t.sm, t.ex, t.cd, t.no, fun p hp => k _ _ (t.em p hp)⟩⟩
theorem seeH_eq {n : Nat} {fa : List He.Fa} {fn : List He.DefD} {tf : List He.Defn} {ex : PySem.W.Frag → Bool} {g : Addr → Option Obj} {s : Shared} (h : ∀ a, g a = s.heap.get? a) : seeH n fa fn tf ex g = (hookH n fa fn tf ex).obs s := congrArg (seeH n fa fn tf ex) (funext h)

def insB (K : PySem.W.Frag) (x : Str) : Bool := (He.Fa.cls x).ok K && (He.eqO (PySem.W.findIn K (.ref (He.ga K x)) "__class__") (some (some (.builtin "object.__class__"))) && (He.eqO (PySem.W.specialIn K (.builtin "object.__class__") "__get__") (some (some (.builtin "getset_descriptor.__get__"))) &&
  (decide (PySem.W.takesIn K (.builtin "object.__class__") = some true) && (decide (PySem.W.mroIn K (He.ga K x) (.type "object") = some true) && decide (PySem.W.kitOne K (.ref (He.ga K x)) (.ref (He.ga K x)) = some true)))))
theorem insB_ok {K : PySem.W.Frag} {x : Str} (h : insB K x = true) : C8.InsC K (He.ga K x) := by
  obtain ⟨h1, h⟩ := He.ba h
  obtain ⟨h2, h⟩ := He.ba h
  obtain ⟨h3, h⟩ := He.ba h
  obtain ⟨h4, h⟩ := He.ba h
  obtain ⟨h5, h6⟩ := He.ba h
  exact ⟨He.cls_ok h1, He.eqO_ok h2, He.eqO_ok h3, of_decide_eq_true h4, of_decide_eq_true h5, of_decide_eq_true h6⟩
def clB (K : PySem.W.Frag) (x : Str) (fs : List Str) : Bool := insB K x && fs.all fun f => (He.Fa.noat x f).ok K
def bmB (K : PySem.W.Frag) (x m : Str) : Bool := (He.Fa.meth x m).ok K && (He.eqO (PySem.W.specialIn K (.ref (He.ma K (He.ga K x) m)) "__get__") (some (some (.builtin "function.__get__"))) && (decide (PySem.W.takesIn K (.ref (He.ma K (He.ga K x) m)) = some false) && PySem.W.fnIn K (He.ma K (He.ga K x) m)))
theorem bmB_ok {K : PySem.W.Frag} {x m : Str} (h : bmB K x m = true) (hc : PySem.W.copiedNames.contains m = false) : BMeth K (He.ga K x) m (He.ma K (He.ga K x) m) := by
  obtain ⟨h1, h⟩ := He.ba h
  obtain ⟨h2, h⟩ := He.ba h
  obtain ⟨h3, h4⟩ := He.ba h
  exact ⟨He.meth_ok h1, He.eqO_ok h2, of_decide_eq_true h3, hc, h4⟩
end DL

set_option Elab.async false
set_option linter.all false
set_option maxRecDepth 100000
set_option maxHeartbeats 0
namespace My
open PySem PySem.Spec PyProof.Rows L2 DL
def top (i : Nat) : Stmt := PySem.Challenge.pw_postriders_k34_whole_letters_without_sta.main.body.getD i (.Pass ⟨0, 0, 0, 0⟩)
abbrev s__wall : Stmt := top 0
abbrev s_is_list : Stmt := top 3
abbrev s_is_whole : Stmt := top 4
abbrev s_is_number : Stmt := top 5
abbrev s_is_row : Stmt := top 6
abbrev s_is_name : Stmt := top 7
abbrev s_first_bad : Stmt := top 8
abbrev s_first_bad_index : Stmt := top 9
abbrev s_first_bad_road : Stmt := top 19
abbrev s_is_post : Stmt := top 21
abbrev s_check_plan : Stmt := top 22
abbrev s_check_gone : Stmt := top 23
abbrev s_check_holds : Stmt := top 28
abbrev s_check_brings : Stmt := top 29
abbrev s_letters_at : Stmt := top 30
abbrev s_riders_at : Stmt := top 31
abbrev s_unstamped_at : Stmt := top 32
abbrev s_unstamped : Stmt := top 33
abbrev s__law_stream : Stmt := top 35
abbrev s__law_draw : Stmt := top 36
abbrev s__law_pick : Stmt := top 37
abbrev s__law_mixed : Stmt := top 38
abbrev s__law_same : Stmt := top 39
abbrev s__law_loose : Stmt := top 40
abbrev s__law_names : Stmt := top 41
abbrev s__law_spoilt : Stmt := top 42
abbrev s__law_tree : Stmt := top 43
abbrev s__law_made : Stmt := top 44
abbrev s__law_s_plan : Stmt := top 45
abbrev s__law_s_holds : Stmt := top 46
abbrev s__law_s_brings : Stmt := top 47
abbrev s__law_unstamped : Stmt := top 48
abbrev s__law_asked_right : Stmt := top 49
abbrev s__law_great_right : Stmt := top 50
abbrev s_law : Stmt := top 51
abbrev s_BadOffice___init__ : Stmt := inClass (top 12) 0
abbrev s_BadRoads___init__ : Stmt := inClass (top 13) 0
abbrev s_BadRiders___init__ : Stmt := inClass (top 14) 0
abbrev s_BadLetters___init__ : Stmt := inClass (top 15) 0
abbrev s_BadPlan___init__ : Stmt := inClass (top 16) 0
abbrev s_BadGone___init__ : Stmt := inClass (top 17) 0
abbrev s_Plan___init__ : Stmt := inClass (top 20) 0
abbrev s_Plan_is_rider : Stmt := inClass (top 20) 1
abbrev s_Plan_is_letter : Stmt := inClass (top 20) 2
abbrev s_Plan_office : Stmt := inClass (top 20) 3
abbrev s_Plan_posts : Stmt := inClass (top 20) 4
abbrev s_Plan_next_of : Stmt := inClass (top 20) 5
abbrev s_Plan_hours_of : Stmt := inClass (top 20) 6
abbrev s_Plan_riders : Stmt := inClass (top 20) 7
abbrev s_Plan_letters : Stmt := inClass (top 20) 8
abbrev s_Plan___eq__ : Stmt := inClass (top 20) 9
abbrev s_BadHolds___init__ : Stmt := inClass (top 25) 0
abbrev s_BadBrings___init__ : Stmt := inClass (top 26) 0
def d0 : He.DefD := ⟨("is_list", none), "is_list", "is_list", defArgs s_is_list, defBody s_is_list, defScope s_is_list, [], []⟩
def d1 : He.DefD := ⟨("is_whole", none), "is_whole", "is_whole", defArgs s_is_whole, defBody s_is_whole, defScope s_is_whole, [], []⟩
def d2 : He.DefD := ⟨("is_number", none), "is_number", "is_number", defArgs s_is_number, defBody s_is_number, defScope s_is_number, [], []⟩
def d3 : He.DefD := ⟨("is_row", none), "is_row", "is_row", defArgs s_is_row, defBody s_is_row, defScope s_is_row, [], []⟩
def d4 : He.DefD := ⟨("is_name", none), "is_name", "is_name", defArgs s_is_name, defBody s_is_name, defScope s_is_name, [], []⟩
def d5 : He.DefD := ⟨("first_bad", none), "first_bad", "first_bad", defArgs s_first_bad, defBody s_first_bad, defScope s_first_bad, [], []⟩
def d6 : He.DefD := ⟨("first_bad_index", none), "first_bad_index", "first_bad_index", defArgs s_first_bad_index, defBody s_first_bad_index, defScope s_first_bad_index, [], []⟩
def d7 : He.DefD := ⟨("first_bad_road", none), "first_bad_road", "first_bad_road", defArgs s_first_bad_road, defBody s_first_bad_road, defScope s_first_bad_road, [], []⟩
def d8 : He.DefD := ⟨("is_post", none), "is_post", "is_post", defArgs s_is_post, defBody s_is_post, defScope s_is_post, [], []⟩
def d9 : He.DefD := ⟨("check_plan", none), "check_plan", "check_plan", defArgs s_check_plan, defBody s_check_plan, defScope s_check_plan, [], []⟩
def d10 : He.DefD := ⟨("check_gone", none), "check_gone", "check_gone", defArgs s_check_gone, defBody s_check_gone, defScope s_check_gone, [], []⟩
def d11 : He.DefD := ⟨("check_holds", none), "check_holds", "check_holds", defArgs s_check_holds, defBody s_check_holds, defScope s_check_holds, [], []⟩
def d12 : He.DefD := ⟨("check_brings", none), "check_brings", "check_brings", defArgs s_check_brings, defBody s_check_brings, defScope s_check_brings, [], []⟩
def d13 : He.DefD := ⟨("letters_at", none), "letters_at", "letters_at", defArgs s_letters_at, defBody s_letters_at, defScope s_letters_at, [], []⟩
def d14 : He.DefD := ⟨("riders_at", none), "riders_at", "riders_at", defArgs s_riders_at, defBody s_riders_at, defScope s_riders_at, [], []⟩
def d15 : He.DefD := ⟨("unstamped_at", none), "unstamped_at", "unstamped_at", defArgs s_unstamped_at, defBody s_unstamped_at, defScope s_unstamped_at, [], []⟩
def d16 : He.DefD := ⟨("unstamped", none), "unstamped", "unstamped", defArgs s_unstamped, defBody s_unstamped, defScope s_unstamped, [], []⟩
def d17 : He.DefD := ⟨("_law_stream", none), "_law_stream", "_law_stream", defArgs s__law_stream, defBody s__law_stream, defScope s__law_stream, [], []⟩
def d18 : He.DefD := ⟨("_law_draw", none), "_law_draw", "_law_draw", defArgs s__law_draw, defBody s__law_draw, defScope s__law_draw, [], []⟩
def d19 : He.DefD := ⟨("_law_pick", none), "_law_pick", "_law_pick", defArgs s__law_pick, defBody s__law_pick, defScope s__law_pick, [], []⟩
def d20 : He.DefD := ⟨("_law_mixed", none), "_law_mixed", "_law_mixed", defArgs s__law_mixed, defBody s__law_mixed, defScope s__law_mixed, [], []⟩
def d21 : He.DefD := ⟨("_law_same", none), "_law_same", "_law_same", defArgs s__law_same, defBody s__law_same, defScope s__law_same, [], []⟩
def d22 : He.DefD := ⟨("_law_loose", none), "_law_loose", "_law_loose", defArgs s__law_loose, defBody s__law_loose, defScope s__law_loose, [], []⟩
def d23 : He.DefD := ⟨("_law_names", none), "_law_names", "_law_names", defArgs s__law_names, defBody s__law_names, defScope s__law_names, [], []⟩
def d24 : He.DefD := ⟨("_law_spoilt", none), "_law_spoilt", "_law_spoilt", defArgs s__law_spoilt, defBody s__law_spoilt, defScope s__law_spoilt, [], []⟩
def d25 : He.DefD := ⟨("_law_tree", none), "_law_tree", "_law_tree", defArgs s__law_tree, defBody s__law_tree, defScope s__law_tree, [], []⟩
def d26 : He.DefD := ⟨("_law_made", none), "_law_made", "_law_made", defArgs s__law_made, defBody s__law_made, defScope s__law_made, [], []⟩
def d27 : He.DefD := ⟨("_law_s_plan", none), "_law_s_plan", "_law_s_plan", defArgs s__law_s_plan, defBody s__law_s_plan, defScope s__law_s_plan, [], []⟩
def d28 : He.DefD := ⟨("_law_s_holds", none), "_law_s_holds", "_law_s_holds", defArgs s__law_s_holds, defBody s__law_s_holds, defScope s__law_s_holds, [], []⟩
def d29 : He.DefD := ⟨("_law_s_brings", none), "_law_s_brings", "_law_s_brings", defArgs s__law_s_brings, defBody s__law_s_brings, defScope s__law_s_brings, [], []⟩
def d30 : He.DefD := ⟨("_law_unstamped", none), "_law_unstamped", "_law_unstamped", defArgs s__law_unstamped, defBody s__law_unstamped, defScope s__law_unstamped, [], []⟩
def d31 : He.DefD := ⟨("_law_asked_right", none), "_law_asked_right", "_law_asked_right", defArgs s__law_asked_right, defBody s__law_asked_right, defScope s__law_asked_right, [], []⟩
def d32 : He.DefD := ⟨("_law_great_right", none), "_law_great_right", "_law_great_right", defArgs s__law_great_right, defBody s__law_great_right, defScope s__law_great_right, [], []⟩
def d33 : He.DefD := ⟨("law", none), "law", "law", defArgs s_law, defBody s_law, defScope s_law, [], []⟩
def d34 : He.DefD := ⟨("Plan", some "__init__"), "__init__", "Plan.__init__", defArgs s_Plan___init__, defBody s_Plan___init__, defScope s_Plan___init__, [], []⟩
def d35 : He.DefD := ⟨("Plan", some "is_rider"), "is_rider", "Plan.is_rider", defArgs s_Plan_is_rider, defBody s_Plan_is_rider, defScope s_Plan_is_rider, [], []⟩
def d36 : He.DefD := ⟨("Plan", some "is_letter"), "is_letter", "Plan.is_letter", defArgs s_Plan_is_letter, defBody s_Plan_is_letter, defScope s_Plan_is_letter, [], []⟩
def fn : List He.DefD := [d0, d1, d2, d3, d4, d5, d6, d7, d8, d9, d10, d11, d12, d13, d14, d15, d16, d17, d18, d19, d20, d21, d22, d23, d24, d25, d26, d27, d28, d29, d30, d31, d32, d33, d34, d35, d36]
def fa : List He.Fa := [.glo "is_list", .glo "is_whole", .glo "is_number", .glo "is_row", .glo "is_name", .glo "first_bad", .glo "first_bad_index", .glo "first_bad_road", .glo "is_post", .glo "check_plan", .glo "check_gone", .glo "check_holds", .glo "check_brings", .glo "letters_at", .glo "riders_at", .glo "unstamped_at", .glo "unstamped", .glo "_law_stream", .glo "_law_draw", .glo "_law_pick", .glo "_law_mixed", .glo "_law_same", .glo "_law_loose", .glo "_law_names", .glo "_law_spoilt", .glo "_law_tree", .glo "_law_made", .glo "_law_s_plan", .glo "_law_s_holds", .glo "_law_s_brings", .glo "_law_unstamped", .glo "_law_asked_right", .glo "_law_great_right", .glo "law", .free "ValueError", .free "abs", .free "all", .free "bool", .free "dict", .free "enumerate", .free "int", .free "isinstance", .free "len", .free "list", .free "max", .free "min", .free "range", .free "repr", .free "sorted", .free "str", .free "tuple", .free "zip", .glo "Plan", .mkr "Plan", .str "LETTERS" "abcdefghijklmnopqrstuvwxyz"]
def names0 : List PySem.Str := ["_wall", "LETTERS", "is_list", "is_whole", "is_number", "is_row", "is_name", "first_bad", "first_bad_index", "PostError", "BadOffice", "BadRoads", "BadRiders", "BadLetters", "BadPlan", "BadGone", "first_bad_road", "Plan", "is_post", "check_plan", "check_gone", "BadHolds", "BadBrings", "check_holds", "check_brings", "letters_at", "riders_at", "unstamped_at", "unstamped", "_law_stream"]
def names1 : List PySem.Str := ["_law_draw", "_law_pick", "_law_mixed", "_law_same", "_law_loose", "_law_names", "_law_spoilt", "_law_tree", "_law_made", "_law_s_plan", "_law_s_holds", "_law_s_brings", "_law_unstamped", "_law_asked_right", "_law_great_right"]
def names : List PySem.Str := names0 ++ names1
def tf : List He.Defn := lamDefs.map fun d => (d, none)
def ex (K : PySem.W.Frag) : Bool := clB K "Plan" ["own_office", "own_roads", "own_riders", "own_letters", "own_behind"] && bmB K "Plan" "is_rider" && bmB K "Plan" "is_letter"
abbrev R : PySem.W.OpenRow := PySem.W.OpenLaw.row PySem.Challenge.rw_postriders_k34_whole_letters_without_sta
abbrev hk : PySem.W.Hook := hookH 4 fa fn tf ex
def ob (s : PySem.W.SharedT) : SeenT := seeH 4 fa fn tf ex (HandSHeadRun.getT s)
theorem ob_eq (s : PySem.W.SharedT) : ob s = hk.obs s.abs := seeH_eq (HandSHeadRun.getT_eq s)
theorem run (w : World) : HandSHeadRun.RunEq R (PySem.W.view R.prog [51]) hk ob 20000 names w := by
  intro os
  kernel_rfl
end My

set_option Elab.async false
set_option linter.all false
set_option maxRecDepth 100000
set_option maxHeartbeats 4000000
/-! DL, part a: deep data by value over the hand layer: data, what a value stands for, extension of the heap. -/
namespace DL
/-- more draws than this are never made -/
@[irreducible] def LIM : Nat := 2 ^ 100000
open PySem PySem.Spec PyProof.Rows L2

inductive D where
  | non | bl (b : Bool) | int (i : Int) | str (x : Str)
  | lst (xs : List D) | tup (xs : List D) | dct (kvs : List (D × D)) | strm | vee (v : V) | obj (c : Nat) (fs : List D) | bm (g : Addr) (d : D)
/-- own classes whose instances are told by value: where the class stands, its attributes' names; a code of 16 on tells the address, too -/
def objCr (K : PySem.W.Frag) : Nat → Addr
  | 6 => He.ga K "Desk"
  | _ => He.ga K "Plan"
def objNr : Nat → List Str
  | 0 => ["own_office", "own_roads", "own_riders", "own_letters", "own_behind"]
  | 2 => ["own_office"]
  | 3 => ["own_office", "own_roads"]
  | 4 => ["own_office", "own_roads", "own_riders"]
  | 5 => ["own_office", "own_roads", "own_riders", "own_letters"]
  | _ => []
def objC (K : PySem.W.Frag) (k : Nat) : Addr := objCr K (k % 16)
def objN (k : Nat) : List Str := objNr (k % 16)
/-- a code that tells where the instance stands -/
def Pin (k : Nat) (a : Addr) : Prop := 16 ≤ k → k / 16 = a + 1
def pk (a : Addr) (j : Nat) : Nat := 16 * (a + 1) + j
theorem pk_mod {a : Addr} {j : Nat} (h : j < 16) : pk a j % 16 = j := by unfold pk; omega
theorem pin_aux (a b j : Nat) (h : j < 16) (q : (16 * (a + 1) + j) / 16 = b + 1) : a = b := by
  have h1 : 16 * (a + 1) + j < 16 * (b + 1) + 16 := by omega
  have h2 : 16 * (b + 1) ≤ 16 * (a + 1) + j := by omega
  rcases Nat.lt_trichotomy a b with h | h | h
  · omega
  · exact h
  · omega
theorem pin_pk {a b : Addr} {j : Nat} (h : j < 16) : Pin (pk a j) b ↔ a = b := by
  unfold Pin pk
  constructor
  · intro q
    exact pin_aux a b j h (q (by omega))
  · rintro rfl _
    omega
theorem pin_lt {k : Nat} {a : Addr} (h : k < 16) : Pin k a := fun z => absurd z (by omega)
theorem objN_pk {a : Addr} {j : Nat} (h : j < 16) : objN (pk a j) = objNr j := by unfold objN; rw [pk_mod h]
theorem objC_pk {K : PySem.W.Frag} {a : Addr} {j : Nat} (h : j < 16) : objC K (pk a j) = objCr K j := by unfold objC; rw [pk_mod h]
theorem objC_plan {K : PySem.W.Frag} {k : Nat} (h : k % 16 ≤ 5) : objC K k = objC K 0 := by
  unfold objC
  generalize k % 16 = r at h
  match r, h with
  | 0, _ => rfl
  | 1, _ => rfl
  | 2, _ => rfl
  | 3, _ => rfl
  | 4, _ => rfl
  | 5, _ => rfl
  | r + 6, h => omega

/-- frozen places: never changed again by the def that runs -/
abbrev Reg := Addr → Prop
/-- the written part, the heap at the def's entry, the drawing stream (its list, its list of cells) -/
structure Fx where
  K : PySem.W.Frag
  H0 : Hp
  R0 : Reg
  st : Option (Addr × Addr)
  L : Nat
  P : Addr → Prop
def Fx.T (F : Fx) : List (Addr × Str) := tabK F.K
def Fx.mx (F : Fx) (a : Addr) : Prop := ∃ p, F.st = some p ∧ (a = p.1 ∨ a = p.2)
/-- more than any cell of a script -/
@[irreducible] def CBIT : Nat := 2 ^ 1048576
theorem cbit_eq : CBIT = 2 ^ 1048576 := by unfold CBIT; rfl
/-- the cells that are left, the great number -/
def CellsOk (xs : List Int) (c : Int) : Prop := xs.length ≤ 1000 ∧ (∀ x ∈ xs, x.natAbs < CBIT) ∧ c.natAbs < CBIT
/-- the stream's state, at most B draws so far -/
def StrmOk (H : Hp) (p : Addr × Addr) (B : Nat) : Prop := p.1 ≠ p.2 ∧ ∃ (xs : List Int) (c n s : Int), H p.1 = some (.lst [.ref p.2, .int c, .int n, .int s]) ∧ H p.2 = some (.lst (xs.map V.int)) ∧
  0 ≤ c ∧ 0 ≤ n ∧ n ≤ (B : Int) ∧ 0 ≤ s ∧ s < 2147483629 ∧ CellsOk xs c
theorem StrmOk.mono {H : Hp} {p : Addr × Addr} {B B' : Nat} (h : StrmOk H p B) (l : B ≤ B') : StrmOk H p B' := by
  obtain ⟨a, xs, c, n, s, h1, h2, h3, h4, h5, h6, h7⟩ := h
  exact ⟨a, xs, c, n, s, h1, h2, h3, h4, by omega, h6, h7⟩
def Fx.inv (F : Fx) (B : Nat) (H : Hp) : Prop := ∀ p, F.st = some p → StrmOk H p B
theorem Fx.inv.mono {F : Fx} {B B' : Nat} {H : Hp} (h : F.inv B H) (l : B ≤ B') : F.inv B' H := fun p e => (h p e).mono l
/-- not a table of code objects -/
def NoTbl (o : HO) : Prop := ∀ ps, o ≠ .tbl ps
/-- nothing there but, at most, a table of code objects -/
def Nn (H : Hp) (a : Addr) : Prop := ∀ o, H a = some o → ¬ NoTbl o
theorem Nn.of {H : Hp} {a : Addr} (h : H a = none) : Nn H a := fun o e => by rw [h] at e; cases e
theorem NoTbl.lst {xs : List V} : NoTbl (.lst xs) := fun _ z => nomatch z
theorem NoTbl.tup {xs : List V} : NoTbl (.tup xs) := fun _ z => nomatch z
theorem NoTbl.dK {xs : List (Key × V)} : NoTbl (.dK xs) := fun _ z => nomatch z
theorem NoTbl.dT {xs : List (List Key × V)} : NoTbl (.dT xs) := fun _ z => nomatch z
theorem NoTbl.ins {C dx : Addr} {fs : List (Str × V)} : NoTbl (.ins C dx fs) := fun _ z => nomatch z
theorem NoTbl.met {g a : Addr} : NoTbl (.met g a) := fun _ z => nomatch z
theorem NoTbl.frz {o : Obj} {u : HO} : NoTbl (.frz o u) := fun _ z => nomatch z

theorem mx_lst {F : Fx} {B : Nat} {H : Hp} (I : F.inv B H) {a : Addr} (m : F.mx a) : ∃ xs, H a = some (.lst xs) := by
  obtain ⟨p, e, m⟩ := m
  obtain ⟨_, xs, c, n, s, h1, h2, _⟩ := I p e
  rcases m with m | m <;> subst m
  · exact ⟨_, h1⟩
  · exact ⟨_, h2⟩

structure HpOk (F : Fx) (B : Nat) (R : Reg) (H : Hp) : Prop where
  inv : F.inv B H
  good : ∀ a, R a → ¬ F.mx a ∧ ∃ o, H a = some o ∧ NoTbl o
  ent : ∀ a o, ¬ F.mx a → F.H0 a = some o → NoTbl o → H a = some o
  ent2 : ∀ a, Nn H a → Nn F.H0 a
  reg0 : ∀ a, R a → F.R0 a ∨ Nn F.H0 a
  tab : LamX.Tabs F.T H
  lim : F.L ≤ LIM
  pn : ∀ a, Nn H a → F.P a

structure Ext (F : Fx) (R : Reg) (H : Hp) (R' : Reg) (H' : Hp) : Prop where
  reg : ∀ a, R a → R' a
  keep : ∀ a o, ¬ F.mx a → H a = some o → NoTbl o → H' a = some o
  new : ∀ a, R' a → R a ∨ Nn H a
  there : ∀ a, Nn H' a → Nn H a
theorem Ext.refl {F : Fx} {R : Reg} {H : Hp} : Ext F R H R H := ⟨fun _ h => h, fun _ _ _ h _ => h, fun _ h => .inl h, fun _ h => h⟩
theorem Ext.trans {F : Fx} {R R1 R2 : Reg} {H H1 H2 : Hp} (a : Ext F R H R1 H1) (b : Ext F R1 H1 R2 H2) : Ext F R H R2 H2 :=
  ⟨fun x h => b.reg x (a.reg x h), fun x o m h n => b.keep x o m (a.keep x o m h n) n, fun x h => (b.new x h).elim (a.new x) fun z => .inr (a.there x z), fun x h => a.there x (b.there x h)⟩

/-! ### what a value stands for -/
/-- a dict with plain keys, locked or not -/
@[irreducible] def DkAt (H : Hp) (a : Addr) (kvs : List (Key × V)) : Prop := Rd H a (.dK kvs)
theorem DkAt.rd {H : Hp} {a : Addr} {kvs : List (Key × V)} (h : DkAt H a kvs) : Rd H a (.dK kvs) := by unfold DkAt at h; exact h
theorem DkAt.mk {H : Hp} {a : Addr} {kvs : List (Key × V)} (h : Rd H a (.dK kvs)) : DkAt H a kvs := by unfold DkAt; exact h
theorem DkAt.ne {H : Hp} {a : Addr} {kvs : List (Key × V)} (h : DkAt H a kvs) : H a ≠ none := by
  rcases h.rd with h | ⟨o, h⟩ <;> (rw [h]; exact fun z => nomatch z)
theorem DkAt.of {H : Hp} {a : Addr} {kvs : List (Key × V)} (h : H a = some (.dK kvs)) : DkAt H a kvs := .mk (.inl h)
mutual
inductive RpD (F : Fx) (H : Hp) (R : Reg) : Bool → V → D → Prop
  | non {n : Bool} : RpD F H R n .non .non
  | bl {n : Bool} (b : Bool) : RpD F H R n (.bl b) (.bl b)
  | int {n : Bool} (i : Int) : RpD F H R n (.int i) (.int i)
  | str {n : Bool} (x : Str) : RpD F H R n (.str x) (.str x)
  | lst {n : Bool} {a : Addr} {vs : List V} {ds : List D} : H a = some (.lst vs) → R a → (n = true → F.P a) → RpL F H R n vs ds → RpD F H R n (.ref a) (.lst ds)
  | tup {n : Bool} {a : Addr} {vs : List V} {ds : List D} : SqT F.K H a vs → RpL F H R n vs ds → RpD F H R n (.ref a) (.tup ds)
  | dK {n : Bool} {a : Addr} {kvs : List (Key × V)} {ds : List (D × D)} : DkAt H a kvs → R a → (n = true → F.P a) → RpK F H R n kvs ds → RpD F H R n (.ref a) (.dct ds)
  | dT {n : Bool} {a : Addr} {kvs : List (List Key × V)} {ds : List (D × D)} : H a = some (.dT kvs) → R a → (n = true → F.P a) → RpT F H R n kvs ds → RpD F H R n (.ref a) (.dct ds)
  | strm {n : Bool} {p : Addr × Addr} : F.st = some p → RpD F H R n (.ref p.1) .strm
  | vee {n : Bool} (v : V) : RpD F H R n v (.vee v)
  | obj {n : Bool} {a dx : Addr} {ns : List Str} {vs : List V} {k : Nat} {ds : List D} : H a = some (.ins (objC F.K k) dx (ns.zip vs)) → R a → (n = true → F.P a) → ns = objN k → ns.length = vs.length → RpL F H R n vs ds → RpD F H R n (.ref a) (.obj k ds)
  | bm {n : Bool} {q a g : Addr} {d : D} : H q = some (.met g a) → R q → (n = true → F.P q) → RpD F H R n (.ref a) d → RpD F H R n (.ref q) (.bm g d)
inductive RpL (F : Fx) (H : Hp) (R : Reg) : Bool → List V → List D → Prop
  | nil {n : Bool} : RpL F H R n [] []
  | cons {n : Bool} {v : V} {vs : List V} {d : D} {ds : List D} : RpD F H R n v d → RpL F H R n vs ds → RpL F H R n (v :: vs) (d :: ds)
inductive RpK (F : Fx) (H : Hp) (R : Reg) : Bool → List (Key × V) → List (D × D) → Prop
  | nil {n : Bool} : RpK F H R n [] []
  | consI {n : Bool} {i : Int} {v : V} {vs : List (Key × V)} {d : D} {ds : List (D × D)} : RpD F H R n v d → RpK F H R n vs ds → RpK F H R n ((.inl i, v) :: vs) ((.int i, d) :: ds)
  | consS {n : Bool} {x : Str} {v : V} {vs : List (Key × V)} {d : D} {ds : List (D × D)} : RpD F H R n v d → RpK F H R n vs ds → RpK F H R n ((.inr x, v) :: vs) ((.str x, d) :: ds)
inductive RpT (F : Fx) (H : Hp) (R : Reg) : Bool → List (List Key × V) → List (D × D) → Prop
  | one {n : Bool} {k : List Key} {v : V} {ks : List D} {d : D} : RpL F H R true (k.map kV) ks → RpD F H R n v d → RpT F H R n [(k, v)] [(.tup ks, d)]
  | cons {n : Bool} {k : List Key} {v : V} {vs : List (List Key × V)} {ks : List D} {d : D} {ds : List (D × D)} : RpL F H R true (k.map kV) ks → RpD F H R n v d → RpT F H R n vs ds → RpT F H R n ((k, v) :: vs) ((.tup ks, d) :: ds)
end

/-- a value: its data, whether all lists and dicts in it are new since the entry, the concrete value where it is known -/
structure Dv where
  d : D
  n : Bool := true
  v : Option V := none
def Rp (F : Fx) (H : Hp) (R : Reg) (x : Dv) (v : V) : Prop := RpD F H R x.n v x.d ∧ ∀ u, x.v = some u → u = v

/-- what a change of heap, of frozen places, of the entry must keep for a value's data -/
structure Mv (F : Fx) (R : Reg) (H : Hp) (F' : Fx) (R' : Reg) (H' : Hp) (n n' : Bool) : Prop where
  K : F'.K = F.K
  st : ∀ p, F.st = some p → F'.st = some p
  reg : ∀ a o, R a → H a = some o → NoTbl o → R' a ∧ H' a = some o
  tup : ∀ a vs, SqT F.K H a vs → SqT F.K H' a vs
  new : n' = true → ∀ a o, R a → H a = some o → NoTbl o → (n = true → F.P a) → F'.P a

theorem Mv.rd {F F' : Fx} {R R' : Reg} {H H' : Hp} {n n' : Bool} (m : Mv F R H F' R' H' n n') {a : Addr} {u : HO} (r : R a) (h : Rd H a u) (t : NoTbl u) : R' a ∧ Rd H' a u := by
  rcases h with h | ⟨o, h⟩
  · exact ⟨(m.reg _ _ r h t).1, .inl (m.reg _ _ r h t).2⟩
  · exact ⟨(m.reg _ _ r h .frz).1, .inr ⟨o, (m.reg _ _ r h .frz).2⟩⟩
theorem Mv.rdn {F F' : Fx} {R R' : Reg} {H H' : Hp} {n n' : Bool} (m : Mv F R H F' R' H' n n') (z : n' = true) {a : Addr} {u : HO} (r : R a) (h : Rd H a u) (t : NoTbl u) (w : n = true → F.P a) : F'.P a := by
  rcases h with h | ⟨o, h⟩
  · exact m.new z _ _ r h t w
  · exact m.new z _ _ r h .frz w
mutual
theorem RpD.mv {F F' : Fx} {R R' : Reg} {H H' : Hp} : ∀ {n n' : Bool} {d : D} {v : V}, Mv F R H F' R' H' n n' → RpD F H R n v d → RpD F' H' R' n' v d
  | _, _, _, _, _, .non => .non
  | _, _, _, _, _, .bl b => .bl b
  | _, _, _, _, _, .int i => .int i
  | _, _, _, _, _, .str x => .str x
  | _, _, _, _, m, .lst h r w t => .lst (m.reg _ _ r h .lst).2 (m.reg _ _ r h .lst).1 (fun z => m.new z _ _ r h .lst w) (RpL.mv m t)
  | _, _, _, _, m, .tup h t => .tup (by rw [m.K]; exact m.tup _ _ h) (RpL.mv m t)
  | _, _, _, _, m, .dK h r w t => .dK (.mk (m.rd r h.rd .dK).2) (m.rd r h.rd .dK).1 (fun z => m.rdn z r h.rd .dK w) (RpK.mv m t)
  | _, _, _, _, m, .dT h r w t => .dT (m.reg _ _ r h .dT).2 (m.reg _ _ r h .dT).1 (fun z => m.new z _ _ r h .dT w) (RpT.mv m t)
  | _, _, _, _, m, .strm e => .strm (m.st _ e)
  | _, _, _, _, _, .vee v => .vee v
  | _, _, _, _, m, .obj h r w c e t => .obj (by rw [m.K]; exact (m.reg _ _ r h .ins).2) (m.reg _ _ r h .ins).1 (fun z => m.new z _ _ r h .ins w) c e (RpL.mv m t)
  | _, _, _, _, m, .bm h r w t => .bm (m.reg _ _ r h .met).2 (m.reg _ _ r h .met).1 (fun z => m.new z _ _ r h .met w) (RpD.mv m t)
theorem RpL.mv {F F' : Fx} {R R' : Reg} {H H' : Hp} : ∀ {n n' : Bool} {ds : List D} {vs : List V}, Mv F R H F' R' H' n n' → RpL F H R n vs ds → RpL F' H' R' n' vs ds
  | _, _, _, _, _, .nil => .nil
  | _, _, _, _, m, .cons a b => .cons (RpD.mv m a) (RpL.mv m b)
theorem RpK.mv {F F' : Fx} {R R' : Reg} {H H' : Hp} : ∀ {n n' : Bool} {ds : List (D × D)} {vs : List (Key × V)}, Mv F R H F' R' H' n n' → RpK F H R n vs ds → RpK F' H' R' n' vs ds
  | _, _, _, _, _, .nil => .nil
  | _, _, _, _, m, .consI a b => .consI (RpD.mv m a) (RpK.mv m b)
  | _, _, _, _, m, .consS a b => .consS (RpD.mv m a) (RpK.mv m b)
theorem RpT.mv {F F' : Fx} {R R' : Reg} {H H' : Hp} : ∀ {n n' : Bool} {ds : List (D × D)} {vs : List (List Key × V)}, Mv F R H F' R' H' n n' → RpT F H R n vs ds → RpT F' H' R' n' vs ds
  | _, _, _, _, m, .one k a => .one (RpL.mv0 m k) (RpD.mv m a)
  | _, _, _, _, m, .cons k a b => .cons (RpL.mv0 m k) (RpD.mv m a) (RpT.mv m b)
/-- keys: flat -/
theorem RpL.mv0 {F F' : Fx} {R R' : Reg} {H H' : Hp} : ∀ {n n' : Bool} {k : List Key} {ks : List D}, Mv F R H F' R' H' n n' → RpL F H R true (k.map kV) ks → RpL F' H' R' true (k.map kV) ks
  | _, _, [], _, _, .nil => .nil
  | _, _, .inl i :: k, _, m, .cons a b => by
    refine .cons ?_ (RpL.mv0 m b)
    cases a with
    | int => exact .int i
    | vee => exact .vee _
  | _, _, .inr x :: k, _, m, .cons a b => by
    refine .cons ?_ (RpL.mv0 m b)
    cases a with
    | str => exact .str x
    | vee => exact .vee _
end

theorem sqT_keep {F : Fx} {B : Nat} {H H' : Hp} (I : F.inv B H) (k : ∀ a o, ¬ F.mx a → H a = some o → NoTbl o → H' a = some o) {a : Addr} {vs : List V} (h : SqT F.K H a vs) : SqT F.K H' a vs := by
  have nm : ∀ o, H a = some o → (∀ xs, o ≠ .lst xs) → ¬ F.mx a := fun o e n m => by
    obtain ⟨xs, z⟩ := mx_lst I m
    rw [e] at z
    exact n xs (Option.some.inj z)
  rcases h with (h | ⟨o, h⟩) | h
  · exact .inl (.inl (k a _ (nm _ h fun _ z => nomatch z) h .tup))
  · exact .inl (.inr ⟨o, k a _ (nm _ h fun _ z => nomatch z) h .frz⟩)
  · exact .inr h

theorem Ext.mv {F : Fx} {B : Nat} {R R' : Reg} {H H' : Hp} (I : HpOk F B R H) (e : Ext F R H R' H') {n n' : Bool} (h : n' = true → n = true) : Mv F R H F R' H' n n' :=
  ⟨rfl, fun _ z => z, fun a o r ha nt => ⟨e.reg a r, e.keep a o (I.good a r).1 ha nt⟩, fun _ _ h => sqT_keep I.inv e.keep h, fun z _ _ _ _ _ q => q (h z)⟩
theorem RpD.ext {F : Fx} {B : Nat} {R R' : Reg} {H H' : Hp} {n : Bool} {v : V} {d : D} (h : RpD F H R n v d) (I : HpOk F B R H) (e : Ext F R H R' H') : RpD F H' R' n v d := h.mv (e.mv I fun z => z)
theorem RpL.ext {F : Fx} {B : Nat} {R R' : Reg} {H H' : Hp} {n : Bool} {v : List V} {d : List D} (h : RpL F H R n v d) (I : HpOk F B R H) (e : Ext F R H R' H') : RpL F H' R' n v d := h.mv (e.mv I fun z => z)
theorem Rp.ext {F : Fx} {B : Nat} {R R' : Reg} {H H' : Hp} {x : Dv} {v : V} (h : Rp F H R x v) (I : HpOk F B R H) (e : Ext F R H R' H') : Rp F H' R' x v := ⟨h.1.ext I e, h.2⟩
theorem mv_weak {F : Fx} {R : Reg} {H : Hp} {n n' : Bool} (h : n' = true → n = true) : Mv F R H F R H n n' := ⟨rfl, fun _ z => z, fun _ _ r h _ => ⟨r, h⟩, fun _ _ h => h, fun z _ _ _ _ _ q => q (h z)⟩
theorem RpD.weak {F : Fx} {R : Reg} {H : Hp} {n n' : Bool} {v : V} {d : D} (h : RpD F H R n v d) (w : n' = true → n = true) : RpD F H R n' v d := h.mv (mv_weak w)
theorem RpL.weak {F : Fx} {R : Reg} {H : Hp} {n n' : Bool} {v : List V} {d : List D} (h : RpL F H R n v d) (w : n' = true → n = true) : RpL F H R n' v d := h.mv (mv_weak w)

theorem RpL.len {F : Fx} {R : Reg} {H : Hp} : ∀ {n : Bool} {vs : List V} {ds : List D}, RpL F H R n vs ds → vs.length = ds.length
  | _, _, _, .nil => rfl
  | _, _, _, .cons _ b => by rw [List.length_cons, List.length_cons, b.len]
theorem RpL.get {F : Fx} {R : Reg} {H : Hp} : ∀ {n : Bool} {vs : List V} {ds : List D} {i : Nat} {d : D}, RpL F H R n vs ds → ds[i]? = some d → ∃ v, vs[i]? = some v ∧ RpD F H R n v d
  | _, _, _, _, _, .nil, e => by simp at e
  | _, _, _, 0, _, .cons a _, e => by simp at e; subst e; exact ⟨_, rfl, a⟩
  | _, _, _, i + 1, _, .cons _ b, e => by
    obtain ⟨v, h1, h2⟩ := RpL.get (i := i) b (by simpa using e)
    exact ⟨v, by simpa using h1, h2⟩
theorem RpL.get' {F : Fx} {R : Reg} {H : Hp} : ∀ {n : Bool} {vs : List V} {ds : List D} {i : Nat} {v : V}, RpL F H R n vs ds → vs[i]? = some v → ∃ d, ds[i]? = some d ∧ RpD F H R n v d
  | _, _, _, _, _, .nil, e => by simp at e
  | _, _, _, 0, _, .cons a _, e => by simp at e; subst e; exact ⟨_, rfl, a⟩
  | _, _, _, i + 1, _, .cons _ b, e => by
    obtain ⟨v, h1, h2⟩ := RpL.get' (i := i) b (by simpa using e)
    exact ⟨v, by simpa using h1, h2⟩
theorem RpL.app {F : Fx} {R : Reg} {H : Hp} : ∀ {n : Bool} {vs us : List V} {ds es : List D}, RpL F H R n vs ds → RpL F H R n us es → RpL F H R n (vs ++ us) (ds ++ es)
  | _, _, _, _, _, .nil, b => b
  | _, _, _, _, _, .cons a t, b => .cons a (t.app b)
theorem RpL.take {F : Fx} {R : Reg} {H : Hp} : ∀ {n : Bool} {vs : List V} {ds : List D} (k : Nat), RpL F H R n vs ds → RpL F H R n (vs.take k) (ds.take k)
  | _, _, _, 0, _ => .nil
  | _, _, _, k + 1, .nil => .nil
  | _, _, _, k + 1, .cons a t => .cons a (RpL.take k t)
theorem RpL.drop {F : Fx} {R : Reg} {H : Hp} : ∀ {n : Bool} {vs : List V} {ds : List D} (k : Nat), RpL F H R n vs ds → RpL F H R n (vs.drop k) (ds.drop k)
  | _, _, _, 0, h => h
  | _, _, _, k + 1, .nil => .nil
  | _, _, _, k + 1, .cons a t => RpL.drop k t
theorem RpL.set {F : Fx} {R : Reg} {H : Hp} {v : V} {d : D} : ∀ {n : Bool} {vs : List V} {ds : List D} (k : Nat), RpD F H R n v d → RpL F H R n vs ds → RpL F H R n (vs.set k v) (ds.set k d)
  | _, _, _, _, _, .nil => .nil
  | _, _, _, 0, a, .cons _ t => .cons a t
  | _, _, _, k + 1, a, .cons b t => .cons b (RpL.set k a t)
theorem RpL.rev {F : Fx} {R : Reg} {H : Hp} {n : Bool} {vs : List V} {ds : List D} (h : RpL F H R n vs ds) : RpL F H R n vs.reverse ds.reverse := by
  induction vs generalizing ds with
  | nil => cases h; exact .nil
  | cons v vs ih =>
    cases h with
    | cons a t => rw [List.reverse_cons, List.reverse_cons]; exact (ih t).app (.cons a .nil)

/-! ### data that holds no list, no dict -/
mutual
def D.imm : D → Bool
  | .lst _ => false
  | .dct _ => false
  | .vee _ => false
  | .obj _ _ => false
  | .bm _ _ => false
  | .tup ds => D.immL ds
  | _ => true
def D.immL : List D → Bool
  | [] => true
  | d :: ds => D.imm d && D.immL ds
end
mutual
theorem RpD.imm {F : Fx} {R : Reg} {H : Hp} : ∀ {n : Bool} {v : V} {d : D}, RpD F H R n v d → D.imm d = true → RpD F H R true v d
  | _, _, _, .non, _ => .non
  | _, _, _, .bl b, _ => .bl b
  | _, _, _, .int i, _ => .int i
  | _, _, _, .str x, _ => .str x
  | _, _, _, .tup h t, e => .tup h (RpL.imm t (by simpa [D.imm] using e))
  | _, _, _, .strm h, _ => .strm h
theorem RpL.imm {F : Fx} {R : Reg} {H : Hp} : ∀ {n : Bool} {v : List V} {d : List D}, RpL F H R n v d → D.immL d = true → RpL F H R true v d
  | _, _, _, .nil, _ => .nil
  | _, _, _, .cons a b, e => by
    simp only [D.immL, Bool.and_eq_true] at e
    exact .cons (a.imm e.1) (b.imm e.2)
end
/-- new, or holds nothing that changes -/
def Dv.fr (x : Dv) : Bool := x.n || x.d.imm
theorem Rp.fr {F : Fx} {R : Reg} {H : Hp} {x : Dv} {v : V} (h : Rp F H R x v) : RpD F H R x.fr v x.d := by
  cases e : x.n with
  | true => have := h.1; rw [e] at this; exact this.weak fun _ => rfl
  | false =>
    unfold Dv.fr
    rw [e, Bool.false_or]
    cases e2 : x.d.imm with
    | true => exact h.1.imm e2
    | false => exact h.1.weak fun z => nomatch z
/-- scalars -/
def D.sca : D → Bool
  | .non => true
  | .bl _ => true
  | .int _ => true
  | .str _ => true
  | _ => false
theorem RpD.sca {F F' : Fx} {R R' : Reg} {H H' : Hp} {n n' : Bool} {v : V} {d : D} (h : RpD F H R n v d) (s : d.sca = true) : RpD F' H' R' n' v d := by
  cases h with
  | non => exact .non
  | bl b => exact .bl b
  | int i => exact .int i
  | str x => exact .str x
  | _ => cases s
end DL

set_option Elab.async false
set_option linter.all false
set_option maxRecDepth 100000
set_option maxHeartbeats 4000000
/-! DL, part b: the judgements; names, constants, operators, displays. -/
namespace DL
open PySem PySem.Spec PyProof.Rows L2

abbrev XQT := Value → Str → V → Prop
inductive Sl where
  | un | va (x : Dv) | ow (d : D) (n : Bool)
abbrev Ro := List Sl
abbrev TD := Ro → XQT → (Dv → Prop) → Prop
abbrev TDs := Ro → XQT → (List Dv → Prop) → Prop
abbrev TDt := Ro → XQT → (Bool → Prop) → Prop

theorem RpK.ext {F : Fx} {B : Nat} {R R' : Reg} {H H' : Hp} {n : Bool} {v : List (Key × V)} {d : List (D × D)} (h : RpK F H R n v d) (I : HpOk F B R H) (e : Ext F R H R' H') : RpK F H' R' n v d := h.mv (e.mv I fun z => z)
theorem RpT.ext {F : Fx} {B : Nat} {R R' : Reg} {H H' : Hp} {n : Bool} {v : List (List Key × V)} {d : List (D × D)} (h : RpT F H R n v d) (I : HpOk F B R H) (e : Ext F R H R' H') : RpT F H' R' n v d := h.mv (e.mv I fun z => z)

/-- an own list or dict: nobody else knows it -/
def OwAt (F : Fx) (H : Hp) (R : Reg) (a : Addr) (n : Bool) : D → Prop
  | .lst ds => ∃ vs, H a = some (.lst vs) ∧ RpL F H R n vs ds
  | .dct ds => (∃ kvs, H a = some (.dK kvs) ∧ RpK F H R n kvs ds) ∨ ∃ kvs, H a = some (.dT kvs) ∧ RpT F H R n kvs ds
  | .obj k ds => ∃ dx vs, H a = some (.ins (objC F.K k) dx ((objN k).zip vs)) ∧ ((objN k).length = vs.length ∧ Pin k a) ∧ RpL F H R n vs ds
  | _ => False
structure Own (F : Fx) (H : Hp) (R : Reg) (a : Addr) (d : D) (n : Bool) : Prop where
  nr : ¬ R a
  nm : ¬ F.mx a
  n0 : Nn F.H0 a
  p0 : F.P a
  at_ : OwAt F H R a n d
theorem Own.some {F : Fx} {H : Hp} {R : Reg} {a : Addr} {d : D} {n : Bool} (h : Own F H R a d n) : ∃ o, H a = some o ∧ NoTbl o := by
  have z := h.at_
  cases d with
  | lst ds => obtain ⟨vs, e, _⟩ := z; exact ⟨_, e, .lst⟩
  | dct ds =>
    rcases z with ⟨_, e, _⟩ | ⟨_, e, _⟩
    · exact ⟨_, e, .dK⟩
    · exact ⟨_, e, .dT⟩
  | obj k ds => obtain ⟨_, _, e, _⟩ := z; exact ⟨_, e, .ins⟩
  | _ => exact z.elim
theorem Own.ext {F : Fx} {B : Nat} {R R' : Reg} {H H' : Hp} {a : Addr} {d : D} {n : Bool} (h : Own F H R a d n) (I : HpOk F B R H) (e : Ext F R H R' H') : Own F H' R' a d n := by
  obtain ⟨o, ho, nt⟩ := h.some
  refine ⟨fun z => ?_, h.nm, h.n0, h.p0, ?_⟩
  · rcases e.new a z with z | z
    · exact h.nr z
    · exact z o ho nt
  · have z := h.at_
    cases d with
    | lst ds => obtain ⟨vs, q, r⟩ := z; exact ⟨vs, e.keep _ _ h.nm q .lst, r.ext I e⟩
    | dct ds =>
      rcases z with ⟨kvs, q, r⟩ | ⟨kvs, q, r⟩
      · exact .inl ⟨kvs, e.keep _ _ h.nm q .dK, r.ext I e⟩
      · exact .inr ⟨kvs, e.keep _ _ h.nm q .dT, r.ext I e⟩
    | obj k ds => obtain ⟨dx, vs, q, l, r⟩ := z; exact ⟨dx, vs, e.keep _ _ h.nm q .ins, l, r.ext I e⟩
    | _ => exact z.elim

structure StOk (F : Fx) (B : Nat) (R : Reg) (H : Hp) (σ : L2.St) (ρ : Ro) (α : Nat → Addr) : Prop where
  hp : HpOk F B R H
  len : σ.length = ρ.length
  va : ∀ (i : Nat) x, ρ[i]? = some (.va x) → ∃ v, σ[i]? = some (some v) ∧ Rp F H R x v
  ow : ∀ (i : Nat) d n, ρ[i]? = some (.ow d n) → σ[i]? = some (some (.ref (α i))) ∧ Own F H R (α i) d n
  dis : ∀ (i j : Nat) d n d' n', ρ[i]? = some (.ow d n) → ρ[j]? = some (.ow d' n') → α i = α j → i = j
theorem StOk.ext {F : Fx} {B B' : Nat} {R R' : Reg} {H H' : Hp} {σ : L2.St} {ρ : Ro} {α : Nat → Addr} (S : StOk F B R H σ ρ α) (e : Ext F R H R' H') (o : HpOk F B' R' H') : StOk F B' R' H' σ ρ α :=
  ⟨o, S.len, fun i x h => let ⟨v, a, b⟩ := S.va i x h; ⟨v, a, b.ext S.hp e⟩, fun i d n h => let ⟨a, b⟩ := S.ow i d n h; ⟨a, b.ext S.hp e⟩, S.dis⟩
theorem HpOk.mono {F : Fx} {B B' : Nat} {R : Reg} {H : Hp} (h : HpOk F B R H) (l : B ≤ B') : HpOk F B' R H := ⟨h.inv.mono l, h.good, h.ent, h.ent2, h.reg0, h.tab, h.lim, h.pn⟩
theorem StOk.mono {F : Fx} {B B' : Nat} {R : Reg} {H : Hp} {σ : L2.St} {ρ : Ro} {α : Nat → Addr} (S : StOk F B R H σ ρ α) (l : B ≤ B') : StOk F B' R H σ ρ α := ⟨S.hp.mono l, S.len, S.va, S.ow, S.dis⟩

/-! ### a new object -/
def Reg.add (R : Reg) (p : Addr) : Reg := fun a => R a ∨ a = p
theorem mx_none {F : Fx} {B : Nat} {H : Hp} (I : F.inv B H) {p : Addr} (h : H p = none) : ¬ F.mx p := fun m => by
  obtain ⟨xs, z⟩ := mx_lst I m
  rw [h] at z; cases z
theorem inv_upd {F : Fx} {B : Nat} {H : Hp} {p : Addr} {o : HO} (I : F.inv B H) (h : ¬ F.mx p) : F.inv B (upd H p o) := fun q e => by
  obtain ⟨a, xs, c, n, s, h1, h2, r⟩ := I q e
  have n1 : q.1 ≠ p := fun z => h ⟨q, e, .inl z.symm⟩
  have n2 : q.2 ≠ p := fun z => h ⟨q, e, .inr z.symm⟩
  exact ⟨a, xs, c, n, s, by rw [upd_ne n1]; exact h1, by rw [upd_ne n2]; exact h2, r⟩
theorem nn_upd {H : Hp} {p a : Addr} {o : HO} (h : Nn H p) (e : Nn (upd H p o) a) : Nn H a := by
  by_cases z : a = p
  · rw [z]; exact h
  · exact fun u q => e u (by rw [upd_ne z]; exact q)
theorem none_upd {H : Hp} {p a : Addr} {o : HO} (e : upd H p o a = none) : H a = none := by
  by_cases z : a = p
  · subst z; rw [upd_same] at e; cases e
  · rwa [upd_ne z] at e
theorem ne_of_nn {H : Hp} {a b : Addr} {o : HO} (e : H b = some o) (t : NoTbl o) (n : Nn H a) : b ≠ a := fun z => n o (z ▸ e) t
theorem tab_new {T : List (Addr × Str)} {H : Hp} {p : Addr} {o : HO} (t : LamX.Tabs T H) (h : H p = none) : LamX.Tabs T (upd H p o) := t.ext fun b u e => by rw [upd_ne (ne_of_none e h)]; exact e
/-- neither a table nor a code object -/
def Plain (u : HO) : Prop := (∀ ps, u ≠ .tbl ps) ∧ ∀ f, u ≠ .ext f
theorem Plain.lst {xs : List V} : Plain (.lst xs) := ⟨fun _ z => (nomatch z), fun _ z => (nomatch z)⟩
theorem Plain.dK {xs : List (Key × V)} : Plain (.dK xs) := ⟨fun _ z => (nomatch z), fun _ z => (nomatch z)⟩
theorem Plain.dT {xs : List (List Key × V)} : Plain (.dT xs) := ⟨fun _ z => (nomatch z), fun _ z => (nomatch z)⟩
theorem tab_keep {T : List (Addr × Str)} {H H' : Hp} (t : LamX.Tabs T H) (k : ∀ b o, ¬ Plain o → H b = some o → H' b = some o) : LamX.Tabs T H' := fun p hp => by
  obtain ⟨ps, h1, h2, h3⟩ := t p hp
  refine ⟨ps, k _ _ (fun z => z.1 ps rfl) h1, h2, fun pos cv hc => ?_⟩
  obtain ⟨c, e1, e2⟩ := h3 pos cv hc
  exact ⟨c, e1, k _ _ (fun z => z.2 _ rfl) e2⟩
theorem tab_put {T : List (Addr × Str)} {H : Hp} {a : Addr} {o u : HO} (t : LamX.Tabs T H) (h : H a = some u) (p : Plain u) : LamX.Tabs T (upd H a o) := tab_keep t fun b w n e => by
  rw [upd_ne (fun z => by subst z; rw [h] at e; cases e; exact n p)]
  exact e
section
variable {F : Fx} {B : Nat} {R : Reg} {H : Hp} {p : Addr} {o : HO}
theorem Rp.of {n : Bool} {v : V} {d : D} (h : RpD F H R n v d) : Rp F H R ⟨d, n, none⟩ v := ⟨h, fun _ z => by cases z⟩
theorem HpOk.new0 (I : HpOk F B R H) (h : H p = none) (nt : NoTbl o) : HpOk F B R (upd H p o) :=
  ⟨inv_upd I.inv (mx_none I.inv h), fun a r => let ⟨m, u, e, t⟩ := I.good a r; ⟨m, u, by rw [upd_ne (ne_of_none e h)]; exact e, t⟩, fun a u m e t => by
    have q := I.ent a u m e t
    rw [upd_ne (ne_of_none q h)]; exact q, fun a e => I.ent2 a (nn_upd (.of h) e), I.reg0, tab_new I.tab h, I.lim, fun a e => I.pn a (nn_upd (.of h) e)⟩
theorem HpOk.new (I : HpOk F B R H) (h : H p = none) (nt : NoTbl o) : HpOk F B (R.add p) (upd H p o) := by
  have J := I.new0 h nt
  refine ⟨J.inv, fun a r => ?_, J.ent, J.ent2, fun a r => r.elim (I.reg0 a) fun z => .inr (by rw [z]; exact I.ent2 p (.of h)), J.tab, J.lim, J.pn⟩
  rcases r with r | r
  · exact J.good a r
  · subst r; exact ⟨mx_none I.inv h, o, upd_same, nt⟩
theorem Ext.new0 (h : H p = none) : Ext F R H R (upd H p o) :=
  ⟨fun _ r => r, fun a u _ e _ => by rw [upd_ne (ne_of_none e h)]; exact e, fun _ r => .inl r, fun a e => nn_upd (.of h) e⟩
theorem Ext.new1 (h : H p = none) : Ext F R H (R.add p) (upd H p o) :=
  ⟨fun _ r => .inl r, (Ext.new0 (F := F) (R := R) h).keep, fun a r => r.elim .inl fun z => .inr (by rw [z]; exact .of h), (Ext.new0 (F := F) (R := R) h).there⟩
theorem Ext.frz {F : Fx} {R : Reg} {H : Hp} {p : Addr} (h : H p = none) {H' : Hp} (e : Ext F R H R H') : Ext F R H (R.add p) H' :=
  ⟨fun _ r => .inl r, e.keep, fun a r => r.elim .inl fun z => .inr (by rw [z]; exact .of h), e.there⟩
end

/-! ### exceptions -/
/-- a list that the written part holds, or that is never changed -/
def SqF (K : PySem.W.Frag) (H : Hp) (a : Addr) (xs : List V) : Prop := (∃ o, H a = some (.frz o (.lst xs))) ∨
  ∃ (o : Obj) (its : Array Value) (n : Nat), K.lookup a = some o ∧ o.cls = .type "list" ∧ o.dict = none ∧ o.data = .seq its n ∧ its.size ≤ sizeLine ∧ Vals xs its.toList
theorem SqF.sql {K : PySem.W.Frag} {H : Hp} {a : Addr} {xs : List V} (h : SqF K H a xs) : SqL K H a xs := h.elim (fun h => .inl (.inr h)) .inr
theorem SqF.keep {K : PySem.W.Frag} {H H' : Hp} {a : Addr} {xs : List V} (h : SqF K H a xs) (k : ∀ o u, H a = some (.frz o u) → H' a = some (.frz o u)) : SqF K H' a xs := h.elim (fun ⟨o, z⟩ => .inl ⟨o, k _ _ z⟩) .inr
/-- what may be asked of no class: no stream is drawn from; the script -/
def XLk (F : Fx) (x : Str) (v : V) : Prop := (x = "" → F.st = none) ∧ (x = "script" → F.st = none ∧ ∃ (a : Addr) (ns : List Int), v = .ref a ∧ SqF F.K F.H0 a (ns.map V.int) ∧ ns.length ≤ 63 ∧ ∀ z ∈ ns, z.natAbs < CBIT)
/-- what is raised: its class, its one field, the field's value; all is kept till then -/
def XLink (F : Fx) (E : XK) (XQ : XQT) : Prop := (∀ x v, XQ .none x v → XLk F x v) ∧ ∀ C f v dx H', XQ (.ref C) f v → (∀ a o, ¬ F.mx a → F.H0 a = some o → NoTbl o → H' a = some o) → (∀ a, Nn H' a → Nn F.H0 a) → F.inv F.L H' → LamX.Tabs F.T H' → H' dx = some (.xd [(f, v)]) → E (.ref C) (some dx) H'

/-! ### the judgements -/
def DE (X : Cx) (E : XK) (c : Nat) (e : Expr) (f : TD) : Prop := ∃ t : TE, PE X e t ∧ ∀ F B R H σ ρ α XQ Q (K : VK), F.K = X.K → XLink F E XQ → B + c ≤ F.L → StOk F B R H σ ρ α → f ρ XQ Q →
  (∀ v x R' H', Ext F R H R' H' → HpOk F (B + c) R' H' → Rp F H' R' x v → Q x → K v H') → t σ H K
def DA (X : Cx) (E : XK) (c : Nat) (es : List Expr) (f : TDs) : Prop := ∃ t : TA, PA X es t ∧ ∀ F B R H σ ρ α XQ Q (K : List V → Hp → Prop), F.K = X.K → XLink F E XQ → B + c ≤ F.L → StOk F B R H σ ρ α → f ρ XQ Q →
  (∀ vs xs R' H', Ext F R H R' H' → HpOk F (B + c) R' H' → Paired (fun x v => Rp F H' R' x v) xs vs → Q xs → K vs H') → t σ H K
def DT (X : Cx) (E : XK) (c : Nat) (e : Expr) (f : TDt) : Prop := ∃ t : TT, PT X e t ∧ ∀ F B R H σ ρ α XQ Q (K : Bool → Hp → Prop), F.K = X.K → XLink F E XQ → B + c ≤ F.L → StOk F B R H σ ρ α → f ρ XQ Q →
  (∀ b R' H', Ext F R H R' H' → HpOk F (B + c) R' H' → Q b → K b H') → t σ H K
def DW (X : Cx) (E : XK) (c : Nat) (e : Expr) (f : TDt) : Prop := ∃ t : TT, PW X e t ∧ ∀ F B R H σ ρ α XQ Q (K : Bool → Hp → Prop), F.K = X.K → XLink F E XQ → B + c ≤ F.L → StOk F B R H σ ρ α → f ρ XQ Q →
  (∀ b R' H', Ext F R H R' H' → HpOk F (B + c) R' H' → Q b → K b H') → t σ H K
/-- an expression that makes a list or a dict that nobody else knows -/
def DN (X : Cx) (E : XK) (c : Nat) (e : Expr) (f : TD) : Prop := ∃ t : TE, PE X e t ∧ ∀ F B R H σ ρ α XQ Q (K : VK), F.K = X.K → XLink F E XQ → B + c ≤ F.L → StOk F B R H σ ρ α → f ρ XQ Q →
  (∀ a d n R' H', Ext F R H R' H' → HpOk F (B + c) R' H' → Own F H' R' a d n → Nn H a → Q ⟨d, n, none⟩ → K (.ref a) H') → t σ H K

theorem Ow.rp {F : Fx} {R : Reg} {H : Hp} {a : Addr} {d : D} {n : Bool} (h : Own F H R a d n) : RpD F H (R.add a) n (.ref a) d := by
  have z := h.at_
  have m : Mv F R H F (R.add a) H n n := ⟨rfl, fun _ z => z, fun _ _ r h _ => ⟨.inl r, h⟩, fun _ _ h => h, fun z _ _ _ _ _ q => q z⟩
  cases d with
  | lst ds => obtain ⟨vs, q, r⟩ := z; exact .lst q (.inr rfl) (fun _ => h.p0) (r.mv m)
  | dct ds =>
    rcases z with ⟨kvs, q, r⟩ | ⟨kvs, q, r⟩
    · exact .dK (.of q) (.inr rfl) (fun _ => h.p0) (r.mv m)
    · exact .dT q (.inr rfl) (fun _ => h.p0) (r.mv m)
  | obj k ds => obtain ⟨dx, vs, q, l, r⟩ := z; exact .obj q (.inr rfl) (fun _ => h.p0) rfl l.1 (r.mv m)
  | _ => exact z.elim
theorem HpOk.frz {F : Fx} {B : Nat} {R : Reg} {H : Hp} {a : Addr} {d : D} {n : Bool} (I : HpOk F B R H) (h : Own F H R a d n) : HpOk F B (R.add a) H :=
  ⟨I.inv, fun b r => r.elim (I.good b) fun z => by subst z; exact ⟨h.nm, h.some⟩, I.ent, I.ent2, fun b r => r.elim (I.reg0 b) fun z => .inr (by rw [z]; exact h.n0), I.tab, I.lim, I.pn⟩
/-- a new one is a value like others -/
theorem DN.de {X : Cx} {E : XK} {c : Nat} {e : Expr} {f : TD} (h : DN X E c e f) : DE X E c e f := by
  obtain ⟨t, p, s⟩ := h
  refine ⟨t, p, fun F B R H σ ρ α XQ Q K hK hX hB S hf k => s F B R H σ ρ α XQ Q K hK hX hB S hf fun a d n R' H' e' o' w hn q => ?_⟩
  refine k _ _ (R'.add a) H' ⟨fun x r => .inl (e'.reg x r), e'.keep, fun x r => r.elim (e'.new x) fun z => .inr (by rw [z]; exact hn), e'.there⟩ (o'.frz w) (.of (Ow.rp w)) q

section
variable {X : Cx} {E : XK} {c ca cb cc : Nat} {a b : Expr} {fa fb : TD} {pos : Pos}

/-- a slot's value -/
def getV : Option Sl → (Dv → Prop) → Prop
  | some (.va x), Q => Q x
  | _, _ => False
theorem getV_some {o : Option Sl} {Q : Dv → Prop} (h : getV o Q) : ∃ x, o = some (.va x) ∧ Q x := by
  match o, h with
  | some (.va x), h => exact ⟨x, rfl, h⟩
theorem de_var {i : Nat} {x : Str} (h : PE X (.Name x pos) (tVar i)) : DE X E 0 (.Name x pos) (fun ρ _ Q => getV ρ[i]? Q) :=
  ⟨_, h, fun F B R H σ ρ α XQ Q K _ _ _ S q k => by
    obtain ⟨x, e, q⟩ := getV_some q
    obtain ⟨v, e2, r⟩ := S.va i x e
    exact ⟨v, e2, k v x R H .refl S.hp r q⟩⟩
theorem de_c {e : Expr} {v : V} {d : D} (h : PE X e (tC v)) (r : ∀ F H R n, RpD F H R n v d) : DE X E 0 e (fun _ _ Q => Q ⟨d, true, some v⟩) :=
  ⟨_, h, fun F B R H σ ρ α XQ Q K _ _ _ S q k => k v _ R H .refl S.hp ⟨r F H R true, fun u z => (Option.some.inj z).symm⟩ q⟩
theorem de_int {i : Int} {j : Nat} : DE X E 0 (.Constant (.int i) j pos) (fun _ _ Q => Q ⟨.int i, true, some (.int i)⟩) := de_c pe_int fun _ _ _ _ => .int i
theorem de_str {x : Str} {j : Nat} : DE X E 0 (.Constant (.str x) j pos) (fun _ _ Q => Q ⟨.str x, true, some (.str x)⟩) := de_c pe_str fun _ _ _ _ => .str x
theorem de_bl {x : Bool} {j : Nat} : DE X E 0 (.Constant (.bool x) j pos) (fun _ _ Q => Q ⟨.bl x, true, some (.bl x)⟩) := de_c pe_bl fun _ _ _ _ => .bl x
theorem de_non {j : Nat} : DE X E 0 (.Constant .none j pos) (fun _ _ Q => Q ⟨.non, true, some .non⟩) := de_c pe_non fun _ _ _ _ => .non

/-! ### two values -/
abbrev GD2 := Dv → Dv → (Dv → Prop) → Prop
def DOp (X : Cx) (f : Value → Value → Sem Value) (g : GD2) : Prop := ∃ r : R2, OpR X f r ∧ ∀ F B R H v u x y Q (K : VK), F.K = X.K → HpOk F B R H → Rp F H R x v → Rp F H R y u → g x y Q →
  (∀ w z R' H', Ext F R H R' H' → HpOk F B R' H' → Rp F H' R' z w → Q z → K w H') → r v u H K
theorem de_two {r : R2} {t : TE → TE → TE} {e : Expr} {g : GD2} (ht : ∀ ta tb, t ta tb = tOp r ta tb) (pe : ∀ ta tb, PE X a ta → PE X b tb → PE X e (t ta tb))
    (sr : ∀ F B R H v u x y Q (K : VK), F.K = X.K → HpOk F B R H → Rp F H R x v → Rp F H R y u → g x y Q → (∀ w z R' H', Ext F R H R' H' → HpOk F B R' H' → Rp F H' R' z w → Q z → K w H') → r v u H K)
    (ha : DE X E ca a fa) (hb : DE X E cb b fb) : DE X E (ca + cb) e (fun ρ XQ Q => fa ρ XQ fun x => fb ρ XQ fun y => g x y Q) := by
  obtain ⟨ta, pa, sa⟩ := ha
  obtain ⟨tb, pb, sb⟩ := hb
  refine ⟨_, pe ta tb pa pb, fun F B R H σ ρ α XQ Q K hK hX hB S h k => ?_⟩
  rw [ht]
  refine sa F B R H σ ρ α XQ _ _ hK hX (by omega) S h fun v x R1 H1 e1 o1 r1 q1 => ?_
  refine sb F (B + ca) R1 H1 σ ρ α XQ _ _ hK hX (by omega) (S.ext e1 o1) q1 fun u y R2 H2 e2 o2 r2 q2 => ?_
  refine sr F (B + ca + cb) R2 H2 v u x y Q K hK o2 (r1.ext o1 e2) r2 q2 fun w z R3 H3 e3 o3 r3 q3 => ?_
  exact k w z R3 H3 ((e1.trans e2).trans e3) (by rw [← Nat.add_assoc]; exact o3) r3 q3
theorem de_op {op : Operator} {g : GD2} (ho : DOp X (binaryOp op) g) (ha : DE X E ca a fa) (hb : DE X E cb b fb) : DE X E (ca + cb) (.BinOp a op b pos) (fun ρ XQ Q => fa ρ XQ fun x => fb ρ XQ fun y => g x y Q) := by
  obtain ⟨r, hr, sr⟩ := ho
  exact de_two (t := fun ta tb => tOp r ta tb) (fun _ _ => rfl) (fun _ _ pa pb => pe_op hr pa pb) sr ha hb
theorem de_cmp {op : CmpOp} {g : GD2} (ho : DOp X (compareOp op) g) (ha : DE X E ca a fa) (hb : DE X E cb b fb) (hm : behindInMarks op b = false) : DE X E (ca + cb) (.Compare a [op] [b] pos) (fun ρ XQ Q => fa ρ XQ fun x => fb ρ XQ fun y => g x y Q) := by
  obtain ⟨r, hr, sr⟩ := ho
  exact de_two (t := fun ta tb => tOp r ta tb) (fun _ _ => rfl) (fun _ _ pa pb => pe_cmpR hr pa pb hm) sr ha hb
/-- as a test -/
theorem dt_cmp {op : CmpOp} {g : GD2} (ho : DOp X (compareOp op) g) (ha : DE X E ca a fa) (hb : DE X E cb b fb) (hm : behindInMarks op b = false) : DT X E (ca + cb) (.Compare a [op] [b] pos) (fun ρ XQ Q => fa ρ XQ fun x => fb ρ XQ fun y => g x y fun z => ∃ c, z.d = .bl c ∧ Q c) := by
  obtain ⟨r, hr, sr⟩ := ho
  obtain ⟨ta, pa, sa⟩ := ha
  obtain ⟨tb, pb, sb⟩ := hb
  refine ⟨_, pt_cmpR hr pa pb hm, fun F B R H σ ρ α XQ Q K hK hX hB S h k => ?_⟩
  refine sa F B R H σ ρ α XQ _ _ hK hX (by omega) S h fun v x R1 H1 e1 o1 r1 q1 => ?_
  refine sb F (B + ca) R1 H1 σ ρ α XQ _ _ hK hX (by omega) (S.ext e1 o1) q1 fun u y R2 H2 e2 o2 r2 q2 => ?_
  refine sr F (B + ca + cb) R2 H2 v u x y _ _ hK o2 (r1.ext o1 e2) r2 q2 fun w z R3 H3 e3 o3 r3 q3 => ?_
  obtain ⟨c, ec, q3⟩ := q3
  have r4 := r3.1
  rw [ec] at r4
  cases r4
  exact ⟨c, rfl, k c R3 H3 ((e1.trans e2).trans e3) (by rw [← Nat.add_assoc]; exact o3) q3⟩
/-- a value that is a truth value, as a test -/
theorem dt_val (ha : DE X E ca a fa) (he : ∀ whole, isTrue a X.env whole = (do let v ← whole; standAt a.pos; holding [v] (truthy v)) := by intro _; rfl) : DT X E ca a (fun ρ XQ Q => fa ρ XQ fun x => ∃ c, x.d = .bl c ∧ Q c) := by
  obtain ⟨ta, pa, sa⟩ := ha
  refine ⟨_, pt_val pa he, fun F B R H σ ρ α XQ Q K hK hX hB S h k => ?_⟩
  refine sa F B R H σ ρ α XQ _ _ hK hX hB S h fun v x R1 H1 e1 o1 r1 q1 => ?_
  obtain ⟨c, ec, q1⟩ := q1
  have r4 := r1.1
  rw [ec] at r4
  cases r4
  exact ⟨c, rfl, k c R1 H1 e1 o1 q1⟩

/-! ### and, or, not, if else -/
theorem dw_and1 {ta : TDt} (ha : DT X E ca a ta) : DW X E ca (.BoolOp .And [a] pos) ta := by
  obtain ⟨t, p, s⟩ := ha
  exact ⟨t, pw_and1 p, s⟩
theorem dw_or1 {ta : TDt} (ha : DT X E ca a ta) : DW X E ca (.BoolOp .Or [a] pos) ta := by
  obtain ⟨t, p, s⟩ := ha
  exact ⟨t, pw_or1 p, s⟩
theorem dw_and {ta tb : TDt} {rest : List Expr} (ha : DT X E ca a ta) (hb : DW X E cb (.BoolOp .And (b :: rest) pos) tb) : DW X E (ca + cb) (.BoolOp .And (a :: b :: rest) pos) (fun ρ XQ Q => ta ρ XQ fun k => if k = true then tb ρ XQ Q else Q false) := by
  obtain ⟨t, p, s⟩ := ha
  obtain ⟨u, p2, s2⟩ := hb
  refine ⟨_, pw_and p p2, fun F B R H σ ρ α XQ Q K hK hX hB S h k => ?_⟩
  refine s F B R H σ ρ α XQ _ _ hK hX (by omega) S h fun z R1 H1 e1 o1 q1 => ?_
  cases z with
  | true => exact s2 F (B + ca) R1 H1 σ ρ α XQ _ _ hK hX (by omega) (S.ext e1 o1) q1 fun z R2 H2 e2 o2 q2 => k z R2 H2 (e1.trans e2) (by rw [← Nat.add_assoc]; exact o2) q2
  | false => exact k false R1 H1 e1 (o1.mono (by omega)) q1
theorem dw_or {ta tb : TDt} {rest : List Expr} (ha : DT X E ca a ta) (hb : DW X E cb (.BoolOp .Or (b :: rest) pos) tb) : DW X E (ca + cb) (.BoolOp .Or (a :: b :: rest) pos) (fun ρ XQ Q => ta ρ XQ fun k => if k = true then Q true else tb ρ XQ Q) := by
  obtain ⟨t, p, s⟩ := ha
  obtain ⟨u, p2, s2⟩ := hb
  refine ⟨_, pw_or p p2, fun F B R H σ ρ α XQ Q K hK hX hB S h k => ?_⟩
  refine s F B R H σ ρ α XQ _ _ hK hX (by omega) S h fun z R1 H1 e1 o1 q1 => ?_
  cases z with
  | false => exact s2 F (B + ca) R1 H1 σ ρ α XQ _ _ hK hX (by omega) (S.ext e1 o1) q1 fun z R2 H2 e2 o2 q2 => k z R2 H2 (e1.trans e2) (by rw [← Nat.add_assoc]; exact o2) q2
  | true => exact k true R1 H1 e1 (o1.mono (by omega)) q1
theorem DW.dt {ta : TDt} (h : DW X E ca a ta) : DT X E ca a ta := by
  obtain ⟨t, p, s⟩ := h
  exact ⟨t, p.pt, s⟩
theorem dt_not {ta : TDt} (ha : DT X E ca a ta) : DT X E ca (.UnaryOp .Not a pos) (fun ρ XQ Q => ta ρ XQ fun k => Q (!k)) := by
  obtain ⟨t, p, s⟩ := ha
  exact ⟨_, pt_not p, fun F B R H σ ρ α XQ Q K hK hX hB S h k => s F B R H σ ρ α XQ _ _ hK hX hB S h fun z R1 H1 e1 o1 q1 => k (!z) R1 H1 e1 o1 q1⟩
/-- as values -/
theorem de_one {op : BoolOp} (ha : DE X E ca a fa) : DE X E ca (.BoolOp op [a] pos) fa := by
  obtain ⟨t, p, s⟩ := ha
  exact ⟨t, pe_one p, s⟩
theorem de_and {rest : List Expr} (ha : DE X E ca a fa) (hb : DE X E cb (.BoolOp .And (b :: rest) pos) fb) : DE X E (ca + cb) (.BoolOp .And (a :: b :: rest) pos) (fun ρ XQ Q => fa ρ XQ fun x => ∃ k, x.d = .bl k ∧ if k = true then fb ρ XQ Q else Q ⟨.bl false, true, none⟩) := by
  obtain ⟨t, p, s⟩ := ha
  obtain ⟨u, p2, s2⟩ := hb
  refine ⟨_, pe_and p p2, fun F B R H σ ρ α XQ Q K hK hX hB S h k => ?_⟩
  refine s F B R H σ ρ α XQ _ _ hK hX (by omega) S h fun v x R1 H1 e1 o1 r1 q1 => ?_
  obtain ⟨z, ez, q1⟩ := q1
  have r4 := r1.1
  rw [ez] at r4
  cases r4
  refine ⟨z, rfl, ?_⟩
  cases z with
  | true => exact s2 F (B + ca) R1 H1 σ ρ α XQ _ _ hK hX (by omega) (S.ext e1 o1) q1 fun v z R2 H2 e2 o2 r2 q2 => k v z R2 H2 (e1.trans e2) (by rw [← Nat.add_assoc]; exact o2) r2 q2
  | false => exact k _ _ R1 H1 e1 (o1.mono (by omega)) (.of (.bl false)) q1
theorem de_or {rest : List Expr} (ha : DE X E ca a fa) (hb : DE X E cb (.BoolOp .Or (b :: rest) pos) fb) : DE X E (ca + cb) (.BoolOp .Or (a :: b :: rest) pos) (fun ρ XQ Q => fa ρ XQ fun x => ∃ k, x.d = .bl k ∧ if k = true then Q ⟨.bl true, true, none⟩ else fb ρ XQ Q) := by
  obtain ⟨t, p, s⟩ := ha
  obtain ⟨u, p2, s2⟩ := hb
  refine ⟨_, pe_or p p2, fun F B R H σ ρ α XQ Q K hK hX hB S h k => ?_⟩
  refine s F B R H σ ρ α XQ _ _ hK hX (by omega) S h fun v x R1 H1 e1 o1 r1 q1 => ?_
  obtain ⟨z, ez, q1⟩ := q1
  have r4 := r1.1
  rw [ez] at r4
  cases r4
  refine ⟨z, rfl, ?_⟩
  cases z with
  | false => exact s2 F (B + ca) R1 H1 σ ρ α XQ _ _ hK hX (by omega) (S.ext e1 o1) q1 fun v z R2 H2 e2 o2 r2 q2 => k v z R2 H2 (e1.trans e2) (by rw [← Nat.add_assoc]; exact o2) r2 q2
  | true => exact k _ _ R1 H1 e1 (o1.mono (by omega)) (.of (.bl true)) q1
theorem de_not (ha : DE X E ca a fa) : DE X E ca (.UnaryOp .Not a pos) (fun ρ XQ Q => fa ρ XQ fun x => ∃ k, x.d = .bl k ∧ Q ⟨.bl (!k), true, none⟩) := by
  obtain ⟨t, p, s⟩ := ha
  refine ⟨_, pe_not p, fun F B R H σ ρ α XQ Q K hK hX hB S h k => ?_⟩
  refine s F B R H σ ρ α XQ _ _ hK hX hB S h fun v x R1 H1 e1 o1 r1 q1 => ?_
  obtain ⟨z, ez, q1⟩ := q1
  have r4 := r1.1
  rw [ez] at r4
  cases r4
  exact ⟨z, rfl, k _ _ R1 H1 e1 o1 (.of (.bl (!z))) q1⟩
theorem de_if {t : TDt} {e : Expr} (hc : DT X E cc e t) (ha : DE X E ca a fa) (hb : DE X E cb b fb) : DE X E (cc + (ca + cb)) (.IfExp e a b pos) (fun ρ XQ Q => t ρ XQ fun k => if k = true then fa ρ XQ Q else fb ρ XQ Q) := by
  obtain ⟨tc, pc, sc⟩ := hc
  obtain ⟨ta, pa, sa⟩ := ha
  obtain ⟨tb, pb, sb⟩ := hb
  refine ⟨_, pe_ifExp pc pa pb, fun F B R H σ ρ α XQ Q K hK hX hB S h k => ?_⟩
  refine sc F B R H σ ρ α XQ _ _ hK hX (by omega) S h fun z R1 H1 e1 o1 q1 => ?_
  cases z with
  | true => exact sa F (B + cc) R1 H1 σ ρ α XQ _ _ hK hX (by omega) (S.ext e1 o1) q1 fun v z R2 H2 e2 o2 r2 q2 => k v z R2 H2 (e1.trans e2) (o2.mono (by omega)) r2 q2
  | false => exact sb F (B + cc) R1 H1 σ ρ α XQ _ _ hK hX (by omega) (S.ext e1 o1) q1 fun v z R2 H2 e2 o2 r2 q2 => k v z R2 H2 (e1.trans e2) (o2.mono (by omega)) r2 q2

/-! ### argument lists, displays -/
theorem da_nil : DA X E 0 [] (fun _ _ Q => Q []) := ⟨_, pa_nil, fun F B R H σ ρ α XQ Q K _ _ _ S h k => k [] [] R H .refl S.hp .nil h⟩
theorem Paired.imp {α β : Type} {P P' : α → β → Prop} (h : ∀ a b, P a b → P' a b) : ∀ {xs : List α} {ys : List β}, Paired P xs ys → Paired P' xs ys
  | _, _, .nil => .nil
  | _, _, .cons a t => .cons (h _ _ a) (Paired.imp h t)
theorem da_cons {es : List Expr} {fs : TDs} (ha : DE X E ca a fa) (hr : DA X E cb es fs) (hs : starEach (a :: es) X.env = (false, eval a X.env) :: starEach es X.env := by rfl) : DA X E (ca + cb) (a :: es) (fun ρ XQ Q => fa ρ XQ fun x => fs ρ XQ fun xs => Q (x :: xs)) := by
  obtain ⟨t, p, s⟩ := ha
  obtain ⟨u, p2, s2⟩ := hr
  refine ⟨_, pa_cons p p2 hs, fun F B R H σ ρ α XQ Q K hK hX hB S h k => ?_⟩
  refine s F B R H σ ρ α XQ _ _ hK hX (by omega) S h fun v x R1 H1 e1 o1 r1 q1 => ?_
  exact s2 F (B + ca) R1 H1 σ ρ α XQ _ _ hK hX (by omega) (S.ext e1 o1) q1 fun vs xs R2 H2 e2 o2 r2 q2 => k (v :: vs) (x :: xs) R2 H2 (e1.trans e2) (by rw [← Nat.add_assoc]; exact o2) (.cons (r1.ext o1 e2) r2) q2
/-- all are new -/
def allFr : List Dv → Bool
  | [] => true
  | x :: xs => x.fr && allFr xs
theorem rpl_of {F : Fx} {H : Hp} {R : Reg} : ∀ {xs : List Dv} {vs : List V}, Paired (fun x v => Rp F H R x v) xs vs → RpL F H R (allFr xs) vs (xs.map (·.d))
  | _, _, .nil => .nil
  | _, _, .cons a t => .cons (a.fr.weak fun z => (Bool.and_eq_true_iff.mp z).1) ((rpl_of t).weak fun z => (Bool.and_eq_true_iff.mp z).2)
theorem de_tup {es : List Expr} {fs : TDs} {x1 : Nat} (h : DA X E c es fs) : DE X E c (.Tuple es x1 pos) (fun ρ XQ Q => fs ρ XQ fun xs => xs.length ≤ 1000 ∧ Q ⟨.tup (xs.map (·.d)), allFr xs, none⟩) := by
  obtain ⟨t, p, s⟩ := h
  refine ⟨_, pe_tup p, fun F B R H σ ρ α XQ Q K hK hX hB S h k => ?_⟩
  refine s F B R H σ ρ α XQ _ _ hK hX hB S h fun vs xs R1 H1 e1 o1 r1 ⟨hl, q1⟩ => ?_
  have l := rpl_of r1
  refine ⟨by rw [l.len, List.length_map, sizeLine_eq]; omega, fun q hq => ?_⟩
  have e2 : Ext F R1 H1 R1 (upd H1 q (.tup vs)) := .new0 hq
  exact k _ _ R1 _ (e1.trans e2) (o1.new0 hq .tup) (.of (.tup (SqT.of upd_same) (l.ext o1 e2))) q1
theorem dn_lst {es : List Expr} {fs : TDs} (h : DA X E c es fs) : DN X E c (.List es pos) (fun ρ XQ Q => fs ρ XQ fun xs => xs.length ≤ 1000 ∧ Q ⟨.lst (xs.map (·.d)), allFr xs, none⟩) := by
  obtain ⟨t, p, s⟩ := h
  refine ⟨_, pe_lst p, fun F B R H σ ρ α XQ Q K hK hX hB S h k => ?_⟩
  refine s F B R H σ ρ α XQ _ _ hK hX hB S h fun vs xs R1 H1 e1 o1 r1 ⟨hl, q1⟩ => ?_
  have l := rpl_of r1
  refine ⟨by rw [l.len, List.length_map, sizeLine_eq]; omega, fun q hq => ?_⟩
  have e2 : Ext F R1 H1 R1 (upd H1 q (.lst vs)) := .new0 hq
  refine k q (.lst (xs.map (·.d))) (allFr xs) R1 _ (e1.trans e2) (o1.new0 hq .lst) ⟨fun r => ?_, mx_none o1.inv hq, o1.ent2 q (.of hq), o1.pn q (.of hq), ⟨vs, upd_same, l.ext o1 e2⟩⟩ (e1.there q (.of hq)) q1
  obtain ⟨_, o, z, _⟩ := o1.good q r
  rw [hq] at z; cases z
theorem de_lst {es : List Expr} {fs : TDs} (h : DA X E c es fs) : DE X E c (.List es pos) (fun ρ XQ Q => fs ρ XQ fun xs => xs.length ≤ 1000 ∧ Q ⟨.lst (xs.map (·.d)), allFr xs, none⟩) := (dn_lst h).de
end
end DL

set_option Elab.async false
set_option linter.all false
set_option maxRecDepth 100000
set_option maxHeartbeats 4000000
/-! DL, part v: a tuple times a number, where the tuple itself is told. -/
namespace DL
open PySem PySem.Spec PyProof.Rows L2
theorem tuple_mulS (l : Addr) (items : Array Value) (n : Nat) (dd : Option Addr) (sl : Array (Option Value)) (x : Int) (u : Tok) (h0 : 0 ≤ x) (h1 : x ≤ 1000) (c1 : (items.isEmpty || x == 1) = true) :
    Meets (Builtin.«tuple.__mul__» ⟨[.ref l, .int x u], []⟩) (fun _ R s => s.heap.get? l = some { cls := .type "tuple", dict := dd, data := .seq items n, slots := sl } ∧ R (.ok (.ret (.ref l))) { s with heap := s.heap, toks := s.toks }) :=
  .of_wp fun prog w A R s h => by
    obtain ⟨hp, g, d, tk, os⟩ := s
    obtain ⟨hl, h⟩ := h
    have f1 := AutoSeq1.idx_int
    have c0 : (decide (x < -(2 ^ 63)) || decide (x ≥ 2 ^ 63)) = false := by
      rw [decide_eq_false (by omega), decide_eq_false (by omega)] <;> rfl
    wp_walk using wpAny_loadPart' hl
    repeat (first
      | (refine wpAny_ite_false (decide_eq_false (by rw [c0]; exact Bool.false_ne_true)) ?_; wp_walk using wpAny_loadPart' hl)
      | (refine wpAny_ite_true (decide_eq_true c1) ?_; wp_walk using wpAny_loadPart' hl))
    exact ⟨_, rfl, h⟩
def rRepS (K : PySem.W.Frag) : R2 := fun x y H Q => ∃ l k xs, x = .ref l ∧ y = .int k ∧ SqT K H l xs ∧ (xs = [] ∨ k = 1) ∧ 0 ≤ k ∧ k ≤ 1000 ∧ Q (.ref l) H
theorem op_repS {X : Cx} : OpR X (binaryOp .Mult) (rRepS X.K) := by
  intro pins s σ H x y v u Q I rx ry h
  obtain ⟨l, k, xs, rfl, rfl, hT, hne, h1, h2, q⟩ := h
  cases rx
  obtain ⟨t, rfl⟩ := ry
  obtain ⟨its, r, ⟨⟨cls, dd, data, sl⟩, ho, hc, n, hd⟩, hs⟩ := I.tuple hT
  simp only at hc hd
  subst hc hd
  have c1 : (its.toArray.isEmpty || k == 1) = true := by
    rcases hne with e | e
    · subst e
      have : its = [] := by cases r; rfl
      rw [this]; rfl
    · rw [e]; simp
  refine wpAny_binaryOp_repeat_ref (T := "tuple") (U := "int") (by decide) ⟨_, ho, rfl⟩ (fun s' => typeIs_int s' k t) noFill_tuple_mul F.fills_int_mul F.slot_int_rmul repeat_tuple F.slot_int_index.lookup
    (call_meets F.slot_int_rmul (typeIs_int s k t) F.entry_int_rmul (F.args_int_rmul_2 _ _) (int_rmul_tuple k t l its.toArray n dd sl)
      ⟨ho, rfl, ⟨_, ho, rfl⟩, call_meets F.slot_tuple_mul ⟨_, ho, rfl⟩ F.entry_tuple_mul (F.args_tuple_mul_2 _ _) (tuple_mulS l its.toArray n dd sl k t h1 h2 c1) ⟨ho, ?_⟩⟩)
  exact ⟨.ref l, H, I, rfl, q⟩
end DL

set_option Elab.async false
set_option linter.all false
set_option maxRecDepth 100000
set_option maxHeartbeats 4000000
/-! DL, part c: operators on data. -/
namespace DL
open PySem PySem.Spec PyProof.Rows L2

/-- the greatest length -/
abbrev BIG : Nat := 16777216
theorem le_line {n : Nat} (h : n ≤ BIG) : n ≤ sizeLine := by rw [sizeLine_eq]; exact h
theorem lt_line {n : Nat} (h : n < BIG) : n < sizeLine := by rw [sizeLine_eq]; exact h

/-! ### equality of data -/
mutual
def D.eqv : D → D → Bool
  | .non, .non => true
  | .bl a, .bl b => a == b
  | .bl a, .int j => (if a then 1 else 0) == j
  | .int i, .bl b => i == (if b then 1 else 0)
  | .int i, .int j => i == j
  | .str x, .str y => x == y
  | .lst xs, .lst ys => D.eqvL xs ys
  | .tup xs, .tup ys => D.eqvL xs ys
  | _, _ => false
def D.eqvL : List D → List D → Bool
  | [], [] => true
  | x :: xs, y :: ys => D.eqv x y && D.eqvL xs ys
  | _, _ => false
end
mutual
def D.py : D → PyData
  | .non => .none
  | .bl b => .bool b
  | .int i => .int i
  | .str x => .str x
  | .lst xs => .list (D.pyL xs)
  | .tup xs => .tuple (D.pyL xs)
  | _ => .none
def D.pyL : List D → List PyData
  | [] => []
  | x :: xs => D.py x :: D.pyL xs
end
mutual
/-- data of None, truth values, ints, texts, lists and tuples -/
def D.pln : D → Bool
  | .lst xs => D.plnL xs
  | .tup xs => D.plnL xs
  | .dct _ => false
  | .strm => false
  | .vee _ => false
  | .obj _ _ => false
  | .bm _ _ => false
  | .str x => PyData.strOk x
  | _ => true
def D.plnL : List D → Bool
  | [] => true
  | x :: xs => D.pln x && D.plnL xs
end
mutual
def D.dep : D → Nat
  | .lst xs => D.depL xs + 1
  | .tup xs => D.depL xs + 1
  | _ => 0
def D.depL : List D → Nat
  | [] => 0
  | x :: xs => max (D.dep x) (D.depL xs)
end
mutual
theorem pln_lay : ∀ d : D, d.pln = true → d.py.canLay0 = true
  | .non, _ => rfl
  | .bl _, _ => rfl
  | .int _, _ => rfl
  | .str x, h => by simpa [D.pln, D.py, PyData.canLay0] using h
  | .lst xs, h => by simpa [D.py, PyData.canLay0] using plnL_lay xs (by simpa [D.pln] using h)
  | .tup xs, h => by simpa [D.py, PyData.canLay0] using plnL_lay xs (by simpa [D.pln] using h)
theorem plnL_lay : ∀ d : List D, D.plnL d = true → PyData.canLayAll0 (D.pyL d) = true
  | [], _ => rfl
  | x :: xs, h => by
    simp only [D.plnL, Bool.and_eq_true] at h
    simp only [D.pyL, PyData.canLayAll0, pln_lay x h.1, plnL_lay xs h.2, Bool.and_self]
end
mutual
theorem dep_py : ∀ d : D, d.py.depth = d.dep
  | .non => rfl
  | .bl _ => rfl
  | .int _ => rfl
  | .str _ => rfl
  | .dct _ => rfl
  | .strm => rfl
  | .vee _ => rfl
  | .obj _ _ => rfl
  | .bm _ _ => rfl
  | .lst xs => by simp only [D.py, PyData.depth, D.dep, depL_py xs]
  | .tup xs => by simp only [D.py, PyData.depth, D.dep, depL_py xs]
theorem depL_py : ∀ d : List D, PyData.depthAll (D.pyL d) = D.depL d
  | [] => rfl
  | x :: xs => by simp only [D.pyL, PyData.depthAll, D.depL, dep_py x, depL_py xs]
end
/-- data that == looks through -/
def D.shp (d : D) : Bool := d.pln && decide (d.dep ≤ 64)
theorem shp_shaped {d : D} (h : d.shp = true) : SeqAt.shaped d.py = true := by
  unfold D.shp at h
  unfold SeqAt.shaped
  simp only [Bool.and_eq_true, decide_eq_true_eq] at h ⊢
  exact ⟨pln_lay d h.1, by rw [dep_py]; exact h.2⟩
mutual
theorem eqv_py : ∀ d e : D, d.pln = true → e.pln = true → PyData.eqv d.py e.py = D.eqv d e
  | .lst xs, .lst ys, h, k => by simpa [D.py, PyData.eqv, D.eqv] using eqvL_py xs ys (by simpa [D.pln] using h) (by simpa [D.pln] using k)
  | .tup xs, .tup ys, h, k => by simpa [D.py, PyData.eqv, D.eqv] using eqvL_py xs ys (by simpa [D.pln] using h) (by simpa [D.pln] using k)
  | .non, e, _, k => by cases e <;> simp_all [D.py, PyData.eqv, D.eqv, D.pln]
  | .bl _, e, _, k => by cases e <;> simp_all [D.py, PyData.eqv, D.eqv, D.pln]
  | .int _, e, _, k => by cases e <;> simp_all [D.py, PyData.eqv, D.eqv, D.pln]
  | .str _, e, _, k => by cases e <;> simp_all [D.py, PyData.eqv, D.eqv, D.pln]
  | .lst _, .non, _, _ => rfl
  | .lst _, .bl _, _, _ => rfl
  | .lst _, .int _, _, _ => rfl
  | .lst _, .str _, _, _ => rfl
  | .lst _, .tup _, _, _ => rfl
  | .tup _, .non, _, _ => rfl
  | .tup _, .bl _, _, _ => rfl
  | .tup _, .int _, _, _ => rfl
  | .tup _, .str _, _, _ => rfl
  | .tup _, .lst _, _, _ => rfl
theorem eqvL_py : ∀ d e : List D, D.plnL d = true → D.plnL e = true → PyData.eqvAll (D.pyL d) (D.pyL e) = D.eqvL d e
  | [], [], _, _ => rfl
  | [], _ :: _, _, _ => rfl
  | _ :: _, [], _, _ => rfl
  | x :: xs, y :: ys, h, k => by
    simp only [D.plnL, Bool.and_eq_true] at h k
    simp only [D.pyL, PyData.eqvAll, D.eqvL, eqv_py x y h.1 k.1, eqvL_py xs ys h.2 k.2]
end
mutual
theorem RpD.dp {F : Fx} {H : Hp} {R : Reg} : ∀ {n : Bool} {v : V} {d : D}, RpD F H R n v d → d.pln = true → Dp F.K H v d.py
  | _, _, _, .non, _ => .non
  | _, _, _, .bl b, _ => .bl b
  | _, _, _, .int i, _ => .int i
  | _, _, _, .str x, _ => .str x
  | _, _, _, .lst h _ _ t, e => .lst (.of h) (t.dp (by simpa [D.pln] using e))
  | _, _, _, .tup h t, e => .tup h (t.dp (by simpa [D.pln] using e))
theorem RpL.dp {F : Fx} {H : Hp} {R : Reg} : ∀ {n : Bool} {v : List V} {d : List D}, RpL F H R n v d → D.plnL d = true → DpAll F.K H v (D.pyL d)
  | _, _, _, .nil, _ => .nil
  | _, _, _, .cons a t, e => by
    simp only [D.plnL, Bool.and_eq_true] at e
    exact .cons (a.dp e.1) (t.dp e.2)
end
section
variable {X : Cx}
def gEq (neg : Bool) : GD2 := fun x y Q => x.d.shp = true ∧ y.d.shp = true ∧ Q ⟨.bl (if neg then !D.eqv x.d y.d else D.eqv x.d y.d), true, none⟩
theorem shp_pln {d : D} (h : d.shp = true) : d.pln = true := (Bool.and_eq_true_iff.mp h).1
theorem dop_eq (hu : X.A.units + 64 < cLine) : DOp X (compareOp .Eq) (gEq false) :=
  ⟨_, op_eqD hu, fun F B R H v u x y Q K hK I rx ry ⟨hx, hy, q⟩ k => ⟨x.d.py, y.d.py, by rw [← hK]; exact rx.1.dp (shp_pln hx), by rw [← hK]; exact ry.1.dp (shp_pln hy), shp_shaped hx, shp_shaped hy, by
    rw [eqv_py _ _ (shp_pln hx) (shp_pln hy)]
    exact k _ _ R H .refl I (.of (.bl _)) q⟩⟩
theorem dop_ne (hu : X.A.units + 64 < cLine) : DOp X (compareOp .NotEq) (gEq true) :=
  ⟨_, op_neD hu, fun F B R H v u x y Q K hK I rx ry ⟨hx, hy, q⟩ k => ⟨x.d.py, y.d.py, by rw [← hK]; exact rx.1.dp (shp_pln hx), by rw [← hK]; exact ry.1.dp (shp_pln hy), shp_shaped hx, shp_shaped hy, by
    rw [eqv_py _ _ (shp_pln hx) (shp_pln hy)]
    exact k _ _ R H .refl I (.of (.bl _)) q⟩⟩

/-! ### ints -/
/-- two ints in, a scalar out -/
def gI (C : Int → Int → Prop) (g : Int → Int → D) : GD2 := fun x y Q => match x.d, y.d with
  | .int i, .int j => C i j ∧ Q ⟨g i j, true, none⟩
  | _, _ => False
theorem dop_I {f : Value → Value → Sem Value} {C : Int → Int → Prop} {gv : Int → Int → V} {g : Int → Int → D} (h : OpR X f (rI C gv)) (hg : ∀ F H R i j, RpD F H R true (gv i j) (g i j)) : DOp X f (gI C g) :=
  ⟨_, h, fun F B R H v u x y Q K hK I rx ry q k => by
    obtain ⟨dx, nx, vx⟩ := x
    obtain ⟨dy, ny, vy⟩ := y
    cases dx <;> cases dy <;> try exact q.elim
    have r1 := rx.1
    have r2 := ry.1
    cases r1
    cases r2
    exact ⟨_, _, rfl, rfl, q.1, k _ _ R H .refl I (.of (hg F H R _ _)) q.2⟩⟩
theorem rI0_I {gv : Int → Int → V} {f : Value → Value → Sem Value} (h : OpR X f (rI0 gv)) : OpR X f (rI (fun _ _ => True) gv) := fun pins s σ H x y v u Q I rx ry ⟨i, j, e1, e2, _, q⟩ => h pins s σ H x y v u Q I rx ry ⟨i, j, e1, e2, q⟩
theorem dop_lt : DOp X (compareOp .Lt) (gI (fun _ _ => True) fun i j => .bl (decide (i < j))) := dop_I (rI0_I op_lt) fun _ _ _ _ _ => .bl _
theorem dop_le : DOp X (compareOp .LtE) (gI (fun _ _ => True) fun i j => .bl (decide (i ≤ j))) := dop_I (rI0_I op_le) fun _ _ _ _ _ => .bl _
theorem dop_gt : DOp X (compareOp .Gt) (gI (fun _ _ => True) fun i j => .bl (decide (j < i))) := dop_I (rI0_I op_gt) fun _ _ _ _ _ => .bl _
theorem dop_ge : DOp X (compareOp .GtE) (gI (fun _ _ => True) fun i j => .bl (decide (j ≤ i))) := dop_I (rI0_I op_ge) fun _ _ _ _ _ => .bl _
theorem dop_sub : DOp X (binaryOp .Sub) (gI (fun _ _ => True) fun i j => .int (i - j)) := dop_I (rI0_I op_sub) fun _ _ _ _ _ => .int _
theorem dop_mod : DOp X (binaryOp .Mod) (gI (fun _ j => 0 < j) fun i j => .int (i % j)) := dop_I op_mod fun _ _ _ _ _ => .int _
theorem dop_fdiv : DOp X (binaryOp .FloorDiv) (gI CDiv fun i j => .int (i / j)) := dop_I op_fdiv fun _ _ _ _ _ => .int _
theorem dop_pow : DOp X (binaryOp .Pow) (gI CPow fun i j => .int (i ^ j.toNat)) := dop_I op_pow fun _ _ _ _ _ => .int _

/-! ### +, * -/
def gAdd : GD2 := fun x y Q => match x.d, y.d with
  | .int i, .int j => Q ⟨.int (i + j), true, none⟩
  | .int i, .bl j => Q ⟨.int (i + b2i j), true, none⟩
  | .str i, .str j => i.length + j.length ≤ BIG ∧ Q ⟨.str (i ++ j), true, none⟩
  | .lst xs, .lst ys => xs.length + ys.length ≤ BIG ∧ Q ⟨.lst (xs ++ ys), x.fr && y.fr, none⟩
  | .tup xs, .tup ys => xs.length + ys.length ≤ BIG ∧ Q ⟨.tup (xs ++ ys), x.fr && y.fr, none⟩
  | _, _ => False
theorem not_frozen {F : Fx} {B : Nat} {R : Reg} {H : Hp} (o : HpOk F B R H) {q : Addr} (hq : H q = none) : ¬ R q := fun r => by
  obtain ⟨_, u, z, _⟩ := o.good q r
  rw [hq] at z; cases z
/-- a new list is told -/
theorem new_lst {F : Fx} {B : Nat} {R : Reg} {H : Hp} {n : Bool} {vs : List V} {ds : List D} {q : Addr} (I : HpOk F B R H) (hq : H q = none) (l : RpL F H R n vs ds) : Ext F R H (R.add q) (upd H q (.lst vs)) ∧ HpOk F B (R.add q) (upd H q (.lst vs)) ∧ RpD F (upd H q (.lst vs)) (R.add q) n (.ref q) (.lst ds) :=
  ⟨.new1 hq, I.new hq .lst, .lst upd_same (.inr rfl) (fun _ => I.pn q (.of hq)) (l.ext I (.new1 hq))⟩
theorem new_tup {F : Fx} {B : Nat} {R : Reg} {H : Hp} {n : Bool} {vs : List V} {ds : List D} {q : Addr} (I : HpOk F B R H) (hq : H q = none) (l : RpL F H R n vs ds) : Ext F R H R (upd H q (.tup vs)) ∧ HpOk F B R (upd H q (.tup vs)) ∧ RpD F (upd H q (.tup vs)) R n (.ref q) (.tup ds) :=
  ⟨.new0 hq, I.new0 hq .tup, .tup (.of upd_same) (l.ext I (.new0 hq))⟩
theorem and_l {a b : Bool} : (a && b) = true → a = true := fun h => (Bool.and_eq_true_iff.mp h).1
theorem and_r {a b : Bool} : (a && b) = true → b = true := fun h => (Bool.and_eq_true_iff.mp h).2
/-- the items of a list as they are known to be new -/
theorem Rp.lstL {F : Fx} {R : Reg} {H : Hp} {x : Dv} {v : V} {ds : List D} (h : Rp F H R x v) (e : x.d = .lst ds) : ∃ a vs, v = .ref a ∧ H a = some (.lst vs) ∧ RpL F H R x.fr vs ds := by
  have r := h.fr
  rw [e] at r
  cases r with
  | lst h1 _ _ t => exact ⟨_, _, rfl, h1, t⟩
theorem Rp.tupL {F : Fx} {R : Reg} {H : Hp} {x : Dv} {v : V} {ds : List D} (h : Rp F H R x v) (e : x.d = .tup ds) : ∃ a vs, v = .ref a ∧ SqT F.K H a vs ∧ RpL F H R x.fr vs ds := by
  have r := h.fr
  rw [e] at r
  cases r with
  | tup h1 t => exact ⟨_, _, rfl, h1, t⟩
theorem dop_add : DOp X (binaryOp .Add) gAdd :=
  ⟨_, ((op_add.or op_add_ib).or op_add_str).or (op_cat.or op_catA), fun F B R H v u x y Q K hK I rx ry q k => by
    obtain ⟨dx, nx, vx⟩ := x
    obtain ⟨dy, ny, vy⟩ := y
    cases dx <;> cases dy <;> try exact q.elim
    case int.int =>
      have r1 := rx.1; have r2 := ry.1
      cases r1; cases r2
      exact .inl (.inl (.inl ⟨_, _, rfl, rfl, k _ _ R H .refl I (.of (.int _)) q⟩))
    case int.bl =>
      have r1 := rx.1; have r2 := ry.1
      cases r1; cases r2
      exact .inl (.inl (.inr ⟨_, _, rfl, rfl, k _ _ R H .refl I (.of (.int _)) q⟩))
    case str.str =>
      have r1 := rx.1; have r2 := ry.1
      cases r1; cases r2
      exact .inl (.inr ⟨_, _, rfl, rfl, le_line q.1, k _ _ R H .refl I (.of (.str _)) q.2⟩)
    case lst.lst xs ys =>
      obtain ⟨a, vs, rfl, ha, la⟩ := rx.lstL rfl
      obtain ⟨b, us, rfl, hb, lb⟩ := ry.lstL rfl
      refine .inr (.inl ⟨a, b, vs, us, rfl, rfl, ha, hb, le_line (by rw [la.len, lb.len]; exact q.1), fun p hp => ?_⟩)
      obtain ⟨e, o, r⟩ := new_lst I hp ((la.weak and_l).app (lb.weak and_r))
      exact k _ _ _ _ e o (.of r) q.2
    case tup.tup xs ys =>
      obtain ⟨a, vs, rfl, ha, la⟩ := rx.tupL rfl
      obtain ⟨b, us, rfl, hb, lb⟩ := ry.tupL rfl
      refine .inr (.inr ⟨a, b, vs, us, rfl, rfl, hK ▸ ha, hK ▸ hb, le_line (by rw [la.len, lb.len]; exact q.1), fun z => ?_, fun z1 z2 => ?_, fun _ _ p hp => ?_⟩)
      · subst z
        cases la
        refine k _ ⟨.tup ys, _, none⟩ R H .refl I (.of (.tup hb (lb.weak and_r))) q.2
      · subst z2
        cases lb
        refine k _ ⟨.tup xs, _, none⟩ R H .refl I (.of (.tup ha (la.weak and_l))) (by have := q.2; rw [List.append_nil] at this; exact this)
      · obtain ⟨e, o, r⟩ := new_tup I hp ((la.weak and_l).app (lb.weak and_r))
        exact k _ _ _ _ e o (.of r) q.2⟩
theorem rep_rpl {F : Fx} {H : Hp} {R : Reg} {n : Bool} {vs : List V} {ds : List D} (h : RpL F H R n vs ds) : ∀ k : Nat, RpL F H R n (List.replicate k vs).flatten (List.replicate k ds).flatten
  | 0 => .nil
  | k + 1 => by rw [List.replicate_succ, List.flatten_cons, List.replicate_succ, List.flatten_cons]; exact h.app (rep_rpl h k)
def gMul : GD2 := fun x y Q => match x.d, y.d with
  | .int i, .int j => CMul i j ∧ Q ⟨.int (i * j), true, none⟩
  | .lst xs, .int k => -(2 ^ 63) ≤ k ∧ k < 2 ^ 63 ∧ xs.length * k.toNat ≤ BIG ∧ Q ⟨.lst (List.replicate k.toNat xs).flatten, x.fr, none⟩
  | .tup xs, .int k => 1 ≤ k ∧ k ≤ 1000 ∧ xs.length ≤ 1000 ∧ Q ⟨.tup (List.replicate k.toNat xs).flatten, x.fr, none⟩
  | _, _ => False
theorem dop_mul : DOp X (binaryOp .Mult) gMul :=
  ⟨_, op_mul.or (op_rep.or (op_repS.or op_repT)), fun F B R H v u x y Q K hK I rx ry q k => by
    obtain ⟨dx, nx, vx⟩ := x
    obtain ⟨dy, ny, vy⟩ := y
    cases dx <;> cases dy <;> try exact q.elim
    case int.int =>
      have r1 := rx.1; have r2 := ry.1
      cases r1; cases r2
      exact .inl ⟨_, _, rfl, rfl, q.1, k _ _ R H .refl I (.of (.int _)) q.2⟩
    case lst.int xs j =>
      obtain ⟨a, vs, rfl, ha, la⟩ := rx.lstL rfl
      have r2 := ry.1
      cases r2
      obtain ⟨q1, q2, q3, q4⟩ := q
      refine .inr (.inl ⟨a, j, vs, rfl, rfl, ha, q1, q2, le_line (by rw [la.len]; exact q3), fun p hp => ?_⟩)
      obtain ⟨e, o, r⟩ := new_lst I hp (rep_rpl la j.toNat)
      exact k _ _ _ _ e o (.of r) q4
    case tup.int xs j =>
      obtain ⟨a, vs, rfl, ha, la⟩ := rx.tupL rfl
      have r2 := ry.1
      cases r2
      obtain ⟨q1, q2, q3, q4⟩ := q
      by_cases z : vs = [] ∨ j = 1
      · refine .inr (.inr (.inl ⟨a, j, vs, rfl, rfl, hK ▸ ha, z, by omega, q2, ?_⟩))
        have ef : (List.replicate j.toNat xs).flatten = xs := by
          rcases z with z | z
          · subst z
            cases la
            simp
          · subst z
            simp
        rw [ef] at q4
        exact k _ ⟨.tup xs, _, none⟩ R H .refl I (.of (.tup ha la)) q4
      · have z1 : vs ≠ [] := fun e => z (.inl e)
        have z2 : j ≠ 1 := fun e => z (.inr e)
        refine .inr (.inr (.inr ⟨a, j, vs, rfl, rfl, hK ▸ ha, z1, by omega, q2, by rw [la.len]; exact q3, fun p hp => ?_⟩))
        obtain ⟨e, o, r⟩ := new_tup I hp (rep_rpl la j.toNat)
        exact k _ _ _ _ e o (.of r) q4⟩

/-! ### is None, in -/
theorem dop_isN : DOp X (compareOp .Is) (fun x y Q => y.d = .non ∧ Q ⟨.bl (match x.d with | .non => true | _ => false), true, none⟩ ∧ ∀ v, x.d ≠ .vee v) :=
  ⟨_, op_isN, fun F B R H v u x y Q K hK I rx ry ⟨e, q, nv⟩ k => by
    have r2 := ry.1
    rw [e] at r2
    cases r2
    refine ⟨rfl, ?_⟩
    have w : decide (v = .non) = (match x.d with | .non => true | _ => false) := by
      have r1 := rx.1
      obtain ⟨dx, nx, vx⟩ := x
      cases r1 <;> first | rfl | exact absurd rfl (nv _)
    rw [w]
    exact k _ _ R H .refl I (.of (.bl _)) q⟩
theorem dop_notN : DOp X (compareOp .IsNot) (fun x y Q => y.d = .non ∧ Q ⟨.bl (match x.d with | .non => false | _ => true), true, none⟩ ∧ ∀ v, x.d ≠ .vee v) :=
  ⟨_, op_notN, fun F B R H v u x y Q K hK I rx ry ⟨e, q, nv⟩ k => by
    have r2 := ry.1
    rw [e] at r2
    cases r2
    refine ⟨rfl, ?_⟩
    have w : (!decide (v = .non)) = (match x.d with | .non => false | _ => true) := by
      have r1 := rx.1
      obtain ⟨dx, nx, vx⟩ := x
      cases r1 <;> first | rfl | exact absurd rfl (nv _)
    rw [w]
    exact k _ _ R H .refl I (.of (.bl _)) q⟩
/-- x in a list or a tuple of scalars -/
def D.scaL : List D → Bool
  | [] => true
  | x :: xs => x.sca && D.scaL xs
def D.isIn (x : D) : List D → Bool
  | [] => false
  | y :: ys => D.eqv y x || D.isIn x ys
theorem sca_flat {F : Fx} {H : Hp} {R : Reg} {n : Bool} {v : V} {d : D} (h : RpD F H R n v d) (s : d.sca = true) : flatV v = true := by
  cases h <;> first | rfl | cases s
theorem sca_eq {F : Fx} {H : Hp} {R : Reg} {n m : Bool} {v u : V} {d e : D} (h : RpD F H R n v d) (k : RpD F H R m u e) (s : d.sca = true) (s2 : e.sca = true) : eqV v u = D.eqv d e := by
  cases h <;> cases k <;> first | rfl | (simp [D.sca] at s; done) | (simp [D.sca] at s2; done) | simp [eqV, D.eqv]
theorem scaL_flat {F : Fx} {H : Hp} {R : Reg} : ∀ {n : Bool} {vs : List V} {ds : List D}, RpL F H R n vs ds → D.scaL ds = true → vs.all flatV = true
  | _, _, _, .nil, _ => rfl
  | _, _, _, .cons a t, e => by
    simp only [D.scaL, Bool.and_eq_true] at e
    rw [List.all_cons, sca_flat a e.1, scaL_flat t e.2, Bool.and_self]
theorem isIn_eq {F : Fx} {H : Hp} {R : Reg} {m : Bool} {u : V} {e : D} (k : RpD F H R m u e) (s2 : e.sca = true) : ∀ {n : Bool} {vs : List V} {ds : List D}, RpL F H R n vs ds → D.scaL ds = true → inV u vs = D.isIn e ds
  | _, _, _, .nil, _ => rfl
  | _, _, _, .cons a t, z => by
    simp only [D.scaL, Bool.and_eq_true] at z
    show (eqV _ u || inV u _) = _
    rw [sca_eq a k z.1 s2, isIn_eq k s2 t z.2]
    rfl
def gIn (neg : Bool) : GD2 := fun x y Q => x.d.sca = true ∧ match y.d with
  | .lst ds => D.scaL ds = true ∧ Q ⟨.bl (if neg then !D.isIn x.d ds else D.isIn x.d ds), true, none⟩
  | .tup ds => D.scaL ds = true ∧ Q ⟨.bl (if neg then !D.isIn x.d ds else D.isIn x.d ds), true, none⟩
  | _ => False
theorem gIn_of {neg : Bool} (F B R H v u x y) (Q : Dv → Prop) (K : VK) (hK : F.K = X.K) (I : HpOk F B R H) (rx : Rp F H R x v) (ry : Rp F H R y u) (q : gIn neg x y Q)
    (k : ∀ w z R' H', Ext F R H R' H' → HpOk F B R' H' → Rp F H' R' z w → Q z → K w H') : rIn X.K neg v u H K := by
  obtain ⟨dy, ny, vy⟩ := y
  obtain ⟨sx, q⟩ := q
  cases dy <;> try exact q.elim
  case lst ds =>
    obtain ⟨a, vs, rfl, ha, la⟩ := ry.lstL rfl
    refine ⟨a, vs, rfl, .inl (.of ha), sca_flat rx.1 sx, scaL_flat la q.1, ?_⟩
    rw [isIn_eq rx.1 sx la q.1]
    exact k _ _ R H .refl I (.of (.bl _)) q.2
  case tup ds =>
    obtain ⟨a, vs, rfl, ha, la⟩ := ry.tupL rfl
    refine ⟨a, vs, rfl, .inr (hK ▸ ha), sca_flat rx.1 sx, scaL_flat la q.1, ?_⟩
    rw [isIn_eq rx.1 sx la q.1]
    exact k _ _ R H .refl I (.of (.bl _)) q.2
theorem dop_in : DOp X (compareOp .In) (gIn false) := ⟨_, op_in_seq, gIn_of⟩
theorem dop_notIn : DOp X (compareOp .NotIn) (gIn true) := ⟨_, op_notIn_seq, gIn_of⟩
end
end DL

set_option Elab.async false
set_option linter.all false
set_option maxRecDepth 100000
set_option maxHeartbeats 4000000
/-! DL, part d: calls of built-ins, subscripts, slices, isinstance, calls of defs. -/
namespace DL
open PySem PySem.Spec PyProof.Rows L2

/-! ### built-ins on data -/
abbrev GDs := List Dv → (Dv → Prop) → Prop
def DCl (X : Cx) (f : Value) (g : GDs) : Prop := ∃ r : List V → Hp → VK → Prop, CallR X f r ∧ ∀ F B R H vs xs Q (K : VK), F.K = X.K → HpOk F B R H → Paired (fun x v => Rp F H R x v) xs vs → g xs Q →
  (∀ w z R' H', Ext F R H R' H' → HpOk F B R' H' → Rp F H' R' z w → Q z → K w H') → r vs H K
section
variable {X : Cx} {E : XK} {c ca cb cc : Nat} {a b e : Expr} {es : List Expr} {fa fb fe : TD} {fs : TDs} {pos p : Pos} {x : Str}
theorem dcl_use {r : List V → Hp → VK → Prop} {g : GDs} (sr : ∀ F B R H vs xs Q (K : VK), F.K = X.K → HpOk F B R H → Paired (fun x v => Rp F H R x v) xs vs → g xs Q →
    (∀ w z R' H', Ext F R H R' H' → HpOk F B R' H' → Rp F H' R' z w → Q z → K w H') → r vs H K) (pe : ∀ t, PA X es t → PE X e (tCB r t)) (ha : DA X E c es fs) : DE X E c e (fun ρ XQ Q => fs ρ XQ fun xs => g xs Q) := by
  obtain ⟨t, p, s⟩ := ha
  refine ⟨_, pe t p, fun F B R H σ ρ α XQ Q K hK hX hB S h k => ?_⟩
  refine s F B R H σ ρ α XQ _ _ hK hX hB S h fun vs xs R1 H1 e1 o1 r1 q1 => ?_
  exact sr F _ R1 H1 vs xs Q K hK o1 r1 q1 fun w z R2 H2 e2 o2 r2 q2 => k w z R2 H2 (e1.trans e2) o2 r2 q2
theorem de_callB {id : String} {g : GDs} (hc : DCl X (.builtin id) g) (hg : Gl X x) (hm : X.mg x = none) (hv : bootBuiltins x = some (.builtin id)) (ha : DA X E c (e :: es) fs) (hn : x ≠ "__name__" := by decide) (hdb : (x == ("__debug__" : Str)) = false := by decide)
    (he : starEach (e :: es) X.env = (false, eval e X.env) :: starEach es X.env := by rfl) (hpl : (backTo pos (starEach es X.env)).any (·.1) = false := by rfl) : DE X E c (.Call (.Name x p) (e :: es) [] pos) (fun ρ XQ Q => fs ρ XQ fun xs => g xs Q) := by
  obtain ⟨r, hr, sr⟩ := hc
  exact dcl_use sr (fun t pa => pe_callB hr hg hm hv pa hn hdb he hpl) ha
theorem de_callTy {T : String} {g : GDs} (hc : DCl X (.type T) g) (hg : Gl X x) (hm : X.mg x = none) (hv : bootBuiltins x = some (.type T)) (ha : DA X E c (e :: es) fs) (hn : x ≠ "__name__" := by decide) (hdb : (x == ("__debug__" : Str)) = false := by decide)
    (he : starEach (e :: es) X.env = (false, eval e X.env) :: starEach es X.env := by rfl) (hpl : (backTo pos (starEach es X.env)).any (·.1) = false := by rfl) : DE X E c (.Call (.Name x p) (e :: es) [] pos) (fun ρ XQ Q => fs ρ XQ fun xs => g xs Q) := by
  obtain ⟨r, hr, sr⟩ := hc
  exact dcl_use sr (fun t pa => pe_callTy hr hg hm hv pa hn hdb he hpl) ha
/-- one argument -/
def g1 (g : Dv → (Dv → Prop) → Prop) : GDs := fun xs Q => match xs with
  | [x] => g x Q
  | _ => False
theorem dcl1 {f : Value} {g : Dv → (Dv → Prop) → Prop} {r : List V → Hp → VK → Prop} (hr : CallR X f r)
    (h : ∀ F B R H v x Q (K : VK), F.K = X.K → HpOk F B R H → Rp F H R x v → g x Q → (∀ w z R' H', Ext F R H R' H' → HpOk F B R' H' → Rp F H' R' z w → Q z → K w H') → r [v] H K) : DCl X f (g1 g) :=
  ⟨r, hr, fun F B R H vs xs Q K hK I rs q k => by
    match xs, vs, rs, q with
    | [x], [v], .cons r1 .nil, q => exact h F B R H v x Q K hK I r1 q k⟩
def gLen : Dv → (Dv → Prop) → Prop := fun x Q => match x.d with
  | .lst ds => Q ⟨.int ds.length, true, none⟩
  | .tup ds => Q ⟨.int ds.length, true, none⟩
  | .str s => s.length ≤ BIG ∧ Q ⟨.int s.length, true, none⟩
  | _ => False
theorem dcl_len : DCl X (.builtin "len") (g1 gLen) := dcl1 call_len fun F B R H v x Q K hK I r q k => by
  obtain ⟨d, n, vo⟩ := x
  cases d <;> try exact q.elim
  case lst ds =>
    obtain ⟨a, vs, rfl, ha, la⟩ := r.lstL rfl
    refine ⟨_, vs.length, rfl, .inl ⟨vs, .of ha, rfl⟩, k _ _ R H .refl I (.of ?_) q⟩
    rw [la.len]; exact .int _
  case tup ds =>
    obtain ⟨a, vs, rfl, ha, la⟩ := r.tupL rfl
    refine ⟨_, vs.length, rfl, .inr ⟨vs, hK ▸ ha, rfl⟩, k _ _ R H .refl I (.of ?_) q⟩
    rw [la.len]; exact .int _
  case str s =>
    have r1 := r.1
    cases r1
    exact ⟨_, s.length, rfl, ⟨le_line q.1, rfl⟩, k _ _ R H .refl I (.of (.int _)) q.2⟩
theorem rpl_bls {F : Fx} {H : Hp} {R : Reg} : ∀ {n : Bool} {bs : List Bool} {vs : List V}, RpL F H R n vs (bs.map D.bl) → vs = bs.map V.bl
  | _, [], _, .nil => rfl
  | _, b :: bs, _, .cons a t => by
    cases a
    rw [rpl_bls t]
    rfl
theorem rpl_ints {F : Fx} {H : Hp} {R : Reg} : ∀ {n : Bool} {bs : List Int} {vs : List V}, RpL F H R n vs (bs.map D.int) → vs = bs.map V.int
  | _, [], _, .nil => rfl
  | _, b :: bs, _, .cons a t => by
    cases a
    rw [rpl_ints t]
    rfl
theorem rpl_of_ints {F : Fx} {H : Hp} {R : Reg} {n : Bool} : ∀ bs : List Int, RpL F H R n (bs.map V.int) (bs.map D.int)
  | [] => .nil
  | b :: bs => .cons (.int b) (rpl_of_ints bs)
theorem dcl_all (hc : X.calm = true) : DCl X (.builtin "all") (g1 fun x Q => ∃ bs : List Bool, x.d = .lst (bs.map D.bl) ∧ Q ⟨.bl (bs.all id), true, none⟩) := dcl1 (cr_all hc) fun F B R H v x Q K hK I r ⟨bs, e, q⟩ k => by
  obtain ⟨a, vs, rfl, ha, la⟩ := r.lstL e
  rw [rpl_bls la] at ha
  exact ⟨a, bs, rfl, .of ha, k _ _ R H .refl I (.of (.bl _)) q⟩
theorem dcl_any (hc : X.calm = true) : DCl X (.builtin "any") (g1 fun x Q => ∃ bs : List Bool, x.d = .lst (bs.map D.bl) ∧ Q ⟨.bl (bs.any id), true, none⟩) := dcl1 (cr_any hc) fun F B R H v x Q K hK I r ⟨bs, e, q⟩ k => by
  obtain ⟨a, vs, rfl, ha, la⟩ := r.lstL e
  rw [rpl_bls la] at ha
  exact ⟨a, bs, rfl, .of ha, k _ _ R H .refl I (.of (.bl _)) q⟩
theorem dcl_int : DCl X (.type "int") (g1 fun x Q => match x.d with | .int i => Q ⟨.int i, true, none⟩ | .bl b => Q ⟨.int (if b then 1 else 0), true, none⟩ | _ => False) := dcl1 call_int1 fun F B R H v x Q K hK I r q k => by
  obtain ⟨d, n, vo⟩ := x
  have r1 := r.1
  cases d <;> try exact q.elim
  case int i => cases r1; exact .inl ⟨i, rfl, k _ _ R H .refl I (.of (.int _)) q⟩
  case bl i => cases r1; exact .inr ⟨i, rfl, k _ _ R H .refl I (.of (.int _)) q⟩
theorem dcl_abs : DCl X (.builtin "abs") (g1 fun x Q => match x.d with | .int i => Q ⟨.int (if i < 0 then -i else i), true, none⟩ | _ => False) := dcl1 call_abs fun F B R H v x Q K hK I r q k => by
  obtain ⟨d, n, vo⟩ := x
  have r1 := r.1
  cases d <;> try exact q.elim
  case int i => cases r1; exact ⟨i, rfl, k _ _ R H .refl I (.of (.int _)) q⟩
/-- list(x), tuple(x) of a list or a tuple -/
theorem dcl_list : DCl X (.type "list") (g1 fun x Q => match x.d with | .lst ds => Q ⟨.lst ds, x.fr, none⟩ | .tup ds => Q ⟨.lst ds, x.fr, none⟩ | _ => False) := dcl1 call_list_of fun F B R H v x Q K hK I r q k => by
  obtain ⟨d, n, vo⟩ := x
  cases d <;> try exact q.elim
  case lst ds =>
    obtain ⟨a, vs, rfl, ha, la⟩ := r.lstL rfl
    refine ⟨a, vs, rfl, .inl (.of ha), fun l hl => ?_⟩
    obtain ⟨e, o, r⟩ := new_lst I hl la
    exact k _ _ _ _ e o (.of r) q
  case tup ds =>
    obtain ⟨a, vs, rfl, ha, la⟩ := r.tupL rfl
    refine ⟨a, vs, rfl, .inr (hK ▸ ha), fun l hl => ?_⟩
    obtain ⟨e, o, r⟩ := new_lst I hl la
    exact k _ _ _ _ e o (.of r) q
theorem dcl_tuple : DCl X (.type "tuple") (g1 fun x Q => match x.d with | .lst ds => Q ⟨.tup ds, x.fr, none⟩ | .tup ds => Q ⟨.tup ds, x.fr, none⟩ | _ => False) := dcl1 call_tuple_of fun F B R H v x Q K hK I r q k => by
  obtain ⟨d, n, vo⟩ := x
  cases d <;> try exact q.elim
  case lst ds =>
    obtain ⟨a, vs, rfl, ha, la⟩ := r.lstL rfl
    refine ⟨a, vs, rfl, .inl ⟨.of ha, fun l hl => ?_⟩⟩
    obtain ⟨e, o, r⟩ := new_tup I hl la
    exact k _ _ _ _ e o (.of r) q
  case tup ds =>
    obtain ⟨a, vs, rfl, ha, la⟩ := r.tupL rfl
    exact ⟨a, vs, rfl, .inr ⟨hK ▸ ha, k _ _ R H .refl I (.of (.tup ha la)) q⟩⟩
/-- max, min of two ints -/
def g2I (g : Int → Int → Int) : GDs := fun xs Q => match xs with
  | [x, y] => match x.d, y.d with
    | .int i, .int j => Q ⟨.int (g i j), true, none⟩
    | _, _ => False
  | _ => False
theorem dcl_2I {f : Value} {g : Int → Int → Int} (hr : CallR X f (fun xs H Q => ∃ i j, xs = [.int i, .int j] ∧ Q (.int (g i j)) H)) : DCl X f (g2I g) :=
  ⟨_, hr, fun F B R H vs xs Q K hK I rs q k => by
    match xs, vs, rs, q with
    | [x, y], [v, u], .cons r1 (.cons r2 .nil), q =>
      obtain ⟨dx, nx, vx⟩ := x
      obtain ⟨dy, ny, vy⟩ := y
      cases dx <;> cases dy <;> try exact q.elim
      have z1 := r1.1; have z2 := r2.1
      cases z1; cases z2
      exact ⟨_, _, rfl, k _ _ R H .refl I (.of (.int _)) q⟩⟩
theorem dcl_max2 (hc : X.calm = true) : DCl X (.builtin "max") (g2I fun i j => if j > i then j else i) := dcl_2I (call_max2 hc)
theorem dcl_min2 (hc : X.calm = true) : DCl X (.builtin "min") (g2I fun i j => if j < i then j else i) := dcl_2I (call_min2 hc)

/-! ### subscripts, slices -/
theorem atI_map {α β : Type} {xs : List α} {ys : List β} (hl : xs.length = ys.length) {i : Int} {d : β} (h : atI ys i = some d) : ∃ j : Nat, ys[j]? = some d ∧ ∀ v, xs[j]? = some v → atI xs i = some v := by
  unfold atI at h
  rw [← hl] at h
  cases e : ixN xs.length i with
  | none => rw [e] at h; cases h
  | some j =>
    rw [e] at h
    exact ⟨j, h, fun v hv => by unfold atI; rw [e]; exact hv⟩
theorem atI_rp {F : Fx} {H : Hp} {R : Reg} {n : Bool} {vs : List V} {ds : List D} (l : RpL F H R n vs ds) {i : Int} {d : D} (h : atI ds i = some d) : ∃ v, atI vs i = some v ∧ RpD F H R n v d := by
  obtain ⟨j, h1, h2⟩ := atI_map l.len h
  obtain ⟨v, h3, r⟩ := l.get h1
  exact ⟨v, h2 v h3, r⟩
def gIx : GD2 := fun x y Q => match x.d, y.d with
  | .lst ds, .int i => ∃ d, atI ds i = some d ∧ Q ⟨d, x.fr, none⟩
  | .tup ds, .int i => ∃ d, atI ds i = some d ∧ Q ⟨d, x.fr, none⟩
  | .str s, .int i => s.length ≤ BIG ∧ ∃ c, atI s.cps.toList i = some c ∧ Q ⟨.str ⟨#[c]⟩, true, none⟩
  | _, _ => False
theorem de_ix (ha : DE X E ca a fa) (hb : DE X E cb b fb) (hs : PlainIx b) : DE X E (ca + cb) (.Subscript a b pos) (fun ρ XQ Q => fa ρ XQ fun x => fb ρ XQ fun y => gIx x y Q) :=
  de_two (t := fun ta tb => tOp (rIx X.K) ta tb) (fun _ _ => rfl) (fun _ _ pa pb => pe_ix ix_seq pa pb hs) (fun F B R H v u x y Q K hK I rx ry q k => by
    obtain ⟨dx, nx, vx⟩ := x
    obtain ⟨dy, ny, vy⟩ := y
    have r2 := ry.1
    cases dx <;> cases dy <;> try exact q.elim
    case lst.int ds i =>
      obtain ⟨a, vs, rfl, ha, la⟩ := rx.lstL rfl
      obtain ⟨d, hd, q⟩ := q
      obtain ⟨w, hw, r⟩ := atI_rp la hd
      cases r2
      exact .inl ⟨a, vs, i, w, rfl, rfl, .of ha, hw, k _ _ R H .refl I (.of r) q⟩
    case tup.int ds i =>
      obtain ⟨a, vs, rfl, ha, la⟩ := rx.tupL rfl
      obtain ⟨d, hd, q⟩ := q
      obtain ⟨w, hw, r⟩ := atI_rp la hd
      cases r2
      exact .inr (.inl ⟨a, vs, i, w, rfl, rfl, hK ▸ ha, hw, k _ _ R H .refl I (.of r) q⟩)
    case str.int s i =>
      have r1 := rx.1
      cases r1; cases r2
      obtain ⟨h1, c, h2, q⟩ := q
      exact .inr (.inr ⟨s, i, c, rfl, rfl, le_line h1, h2, k _ _ R H .refl I (.of (.str _)) q⟩)) ha hb
def cutL {α : Type} (xs : List α) (lo hi : Option Int) : List α := (xs.drop (HT.sIx xs.length 0 lo)).take (HT.sIx xs.length xs.length hi - HT.sIx xs.length 0 lo)
abbrev TDo := Ro → XQT → (Option Int → Prop) → Prop
def DO (X : Cx) (E : XK) (c : Nat) (e : Option Expr) (f : TDo) : Prop := ∃ t : TO, PO X e t ∧ ∀ F B R H σ ρ α XQ Q (K : Option Int → Hp → Prop), F.K = X.K → XLink F E XQ → B + c ≤ F.L → StOk F B R H σ ρ α → f ρ XQ Q →
  (∀ o R' H', Ext F R H R' H' → HpOk F (B + c) R' H' → Q o → K o H') → t σ H K
theorem do_none : DO X E 0 none (fun _ _ Q => Q none) := ⟨_, po_none, fun F B R H σ ρ α XQ Q K _ _ _ S h k => k none R H .refl S.hp h⟩
theorem do_some (ha : DE X E ca a fa) : DO X E ca (some a) (fun ρ XQ Q => fa ρ XQ fun x => ∃ i, x.d = .int i ∧ Q (some i)) := by
  obtain ⟨t, p, s⟩ := ha
  refine ⟨_, po_some p, fun F B R H σ ρ α XQ Q K hK hX hB S h k => ?_⟩
  refine s F B R H σ ρ α XQ _ _ hK hX hB S h fun v x R1 H1 e1 o1 r1 ⟨i, ei, q1⟩ => ?_
  have r2 := r1.1
  rw [ei] at r2
  cases r2
  exact ⟨i, rfl, k (some i) R1 H1 e1 o1 q1⟩
def gSl : Dv → Option Int → Option Int → (Dv → Prop) → Prop := fun x lo hi Q => match x.d with
  | .lst ds => Q ⟨.lst (cutL ds lo hi), x.fr, none⟩
  | .tup ds => Q ⟨.tup (cutL ds lo hi), x.fr, none⟩
  | _ => False
theorem cut_rp {F : Fx} {H : Hp} {R : Reg} {n : Bool} {vs : List V} {ds : List D} (l : RpL F H R n vs ds) (lo hi : Option Int) : RpL F H R n (cutV vs lo hi) (cutL ds lo hi) := by
  unfold cutV cutL
  rw [l.len]
  exact (l.drop _).take _
theorem cutL_all {α : Type} {xs : List α} {lo hi : Option Int} (h : HT.sIx xs.length 0 lo = 0 ∧ HT.sIx xs.length xs.length hi = xs.length) : cutL xs lo hi = xs := by
  unfold cutL
  rw [h.1, h.2, List.drop_zero, Nat.sub_zero, List.take_length]
theorem de_slice {lo hi : Option Expr} {fl fh : TDo} {p2 : Pos} (ha : DE X E ca a fa) (hl : DO X E cb lo fl) (hh : DO X E cc hi fh) : DE X E (ca + cb + cc) (.Subscript a (.Slice lo hi none p2) pos) (fun ρ XQ Q => fa ρ XQ fun x => fl ρ XQ fun l => fh ρ XQ fun h => gSl x l h Q) := by
  obtain ⟨ta, pa, sa⟩ := ha
  obtain ⟨tl, pl, sl⟩ := hl
  obtain ⟨th, ph, sh⟩ := hh
  refine ⟨_, pe_slice (sl_list.or sl_tupA) pa pl ph, fun F B R H σ ρ α XQ Q K hK hX hB S h k => ?_⟩
  refine sa F B R H σ ρ α XQ _ _ hK hX (by omega) S h fun v x R1 H1 e1 o1 r1 q1 => ?_
  refine sl F (B + ca) R1 H1 σ ρ α XQ _ _ hK hX (by omega) (S.ext e1 o1) q1 fun lo R2 H2 e2 o2 q2 => ?_
  refine sh F (B + ca + cb) R2 H2 σ ρ α XQ _ _ hK hX (by omega) ((S.ext e1 o1).ext e2 o2) q2 fun hi R3 H3 e3 o3 q3 => ?_
  have r3 := (r1.ext o1 e2).ext o2 e3
  have o3' : HpOk F (B + (ca + cb + cc)) R3 H3 := by have : B + (ca + cb + cc) = B + ca + cb + cc := by omega
                                                     rw [this]; exact o3
  have e13 := (e1.trans e2).trans e3
  obtain ⟨d, n, vo⟩ := x
  cases d <;> try exact q3.elim
  case lst ds =>
    obtain ⟨a, vs, rfl, ha, la⟩ := r3.lstL rfl
    refine .inl ⟨a, vs, rfl, .of ha, fun p hp => ?_⟩
    obtain ⟨e, o, r⟩ := new_lst o3' hp (cut_rp la lo hi)
    exact k _ _ _ _ (e13.trans e) o (.of r) q3
  case tup ds =>
    obtain ⟨a, vs, rfl, ha, la⟩ := r3.tupL rfl
    refine .inr ⟨a, vs, rfl, hK ▸ ha, fun w => ?_, fun w p hp => ?_⟩
    · rw [la.len] at w
      refine k (.ref a) ⟨.tup (cutL ds lo hi), Dv.fr ⟨.tup ds, n, vo⟩, none⟩ R3 H3 e13 o3' (.of ?_) q3
      show RpD F H3 R3 _ _ (.tup (cutL ds lo hi))
      rw [cutL_all w]
      exact .tup ha la
    · obtain ⟨e, o, r⟩ := new_tup o3' hp (cut_rp la lo hi)
      exact k _ _ _ _ (e13.trans e) o (.of r) q3

/-! ### isinstance -/
def D.ty : D → Option String
  | .non => some "NoneType"
  | .bl _ => some "bool"
  | .int _ => some "int"
  | .str _ => some "str"
  | .lst _ => some "list"
  | .tup _ => some "tuple"
  | .dct _ => some "dict"
  | .strm => some "list"
  | .vee _ => none
  | .obj _ _ => none
  | .bm _ _ => none
def D.isa (T : String) (d : D) : Bool := match d with
  | .non => T == "NoneType"
  | .bl _ => T == "bool" || T == "int"
  | .int _ => T == "int"
  | .str _ => T == "str"
  | .lst _ => T == "list"
  | .tup _ => T == "tuple"
  | .dct _ => T == "dict"
  | .strm => T == "list"
  | .vee _ => false
  | .obj _ _ => false
  | .bm _ _ => false
def TyOk (T : String) : Prop := ∀ (d : D) s, d.ty = some s → kitB s T = some (d.isa T)
theorem tyOk_of {T : String} (h1 : kitB "NoneType" T = some (T == "NoneType")) (h2 : kitB "bool" T = some (T == "bool" || T == "int")) (h3 : kitB "int" T = some (T == "int")) (h4 : kitB "str" T = some (T == "str")) (h5 : kitB "list" T = some (T == "list")) (h6 : kitB "tuple" T = some (T == "tuple")) (h7 : kitB "dict" T = some (T == "dict")) : TyOk T := fun d s e => by
  cases d <;> first | (cases e; assumption) | (simp [D.ty] at e; done)
theorem ty_int : TyOk "int" := tyOk_of (by decide +kernel) (by decide +kernel) (by decide +kernel) (by decide +kernel) (by decide +kernel) (by decide +kernel) (by decide +kernel)
theorem ty_bool : TyOk "bool" := tyOk_of (by decide +kernel) (by decide +kernel) (by decide +kernel) (by decide +kernel) (by decide +kernel) (by decide +kernel) (by decide +kernel)
theorem ty_str : TyOk "str" := tyOk_of (by decide +kernel) (by decide +kernel) (by decide +kernel) (by decide +kernel) (by decide +kernel) (by decide +kernel) (by decide +kernel)
theorem ty_list : TyOk "list" := tyOk_of (by decide +kernel) (by decide +kernel) (by decide +kernel) (by decide +kernel) (by decide +kernel) (by decide +kernel) (by decide +kernel)
theorem ty_tuple : TyOk "tuple" := tyOk_of (by decide +kernel) (by decide +kernel) (by decide +kernel) (by decide +kernel) (by decide +kernel) (by decide +kernel) (by decide +kernel)
theorem ty_dict : TyOk "dict" := tyOk_of (by decide +kernel) (by decide +kernel) (by decide +kernel) (by decide +kernel) (by decide +kernel) (by decide +kernel) (by decide +kernel)
theorem rp_ty {F : Fx} {B : Nat} {H : Hp} {R : Reg} (I : HpOk F B R H) {n : Bool} {v : V} {d : D} (h : RpD F H R n v d) {s : String} (e : d.ty = some s) : TyX F.K H v (.type s) := by
  cases h with
  | non => cases e; exact .base .non
  | bl b => cases e; exact .base (.bl b)
  | int i => cases e; exact .base (.int i)
  | str x => cases e; exact .base (.str x)
  | lst h _ _ _ => cases e; exact .base (.lst h)
  | tup h _ =>
    cases e
    rcases h with (h | ⟨o, h⟩) | ⟨o, its, m, hk, hc, _⟩
    · exact .base (.tup h)
    · exact .fTuple h
    · exact .kTuple hk hc
  | dK h _ _ _ =>
    cases e
    rcases h.rd with h | ⟨o, h⟩
    · exact .base (.dK h)
    · exact .fDict h
  | dT h _ _ _ => cases e; exact .base (.dT h)
  | strm h =>
    cases e
    obtain ⟨_, xs, c, m, t, h1, _⟩ := I.inv _ h
    exact .base (.lst h1)
  | vee v => cases e
  | obj _ _ _ _ _ _ => cases e
  | bm _ _ _ _ => cases e
def D.known (d : D) : Prop := ∃ s, d.ty = some s
theorem dcl_isi {T : String} (hT : TyOk T) : DCl X (.builtin "isinstance") (fun xs Q => match xs with
    | [x, y] => y.d = .vee (.ty T) ∧ (∃ s, x.d.ty = some s) ∧ Q ⟨.bl (x.d.isa T), true, none⟩
    | _ => False) :=
  ⟨_, call_isi, fun F B R H vs xs Q K hK I rs q k => by
    match xs, vs, rs, q with
    | [x, y], [v, u], .cons r1 (.cons r2 .nil), ⟨ey, ⟨s, es⟩, q⟩ =>
      have z2 := r2.1
      rw [ey] at z2
      cases z2
      exact ⟨v, .ty T, .type s, .type T, x.d.isa T, rfl, .ty T, hK ▸ rp_ty I r1.1 es, kit_ty (hT _ s es), k _ _ R H .refl I (.of (.bl _)) q⟩⟩
theorem de_ty {T : String} (hg : Gl X x) (hm : X.mg x = none) (hv : bootBuiltins x = some (.type T)) (hn : x ≠ "__name__" := by decide) (hd : (x == ("__debug__" : Str)) = false := by decide) : DE X E 0 (.Name x pos) (fun _ _ Q => Q ⟨.vee (.ty T), true, none⟩) :=
  ⟨_, pe_bltn (v := .ty T) hg hm hv rfl hn hd, fun F B R H σ ρ α XQ Q K _ _ _ S q k => k _ _ R H .refl S.hp (.of (.vee _)) q⟩
/-- isinstance(e, T) -/
theorem de_isi {T : String} {xi xT : Str} {p1 p2 : Pos} (hT : TyOk T) (ha : DE X E c a fa) (hg : Gl X xi) (hm : X.mg xi = none) (hv : bootBuiltins xi = some (.builtin "isinstance")) (hgT : Gl X xT) (hmT : X.mg xT = none) (hvT : bootBuiltins xT = some (.type T))
    (hn : xi ≠ "__name__" := by decide) (hdb : (xi == ("__debug__" : Str)) = false := by decide) (hn2 : xT ≠ "__name__" := by decide) (hd2 : (xT == ("__debug__" : Str)) = false := by decide)
    (he : starEach [a, .Name xT p2] X.env = (false, eval a X.env) :: starEach [.Name xT p2] X.env := by rfl) (he2 : starEach [.Name xT p2] X.env = (false, eval (.Name xT p2) X.env) :: starEach [] X.env := by rfl) (hpl : (backTo pos (starEach [.Name xT p2] X.env)).any (·.1) = false := by rfl) :
    DE X E c (.Call (.Name xi p1) [a, .Name xT p2] [] pos) (fun ρ XQ Q => fa ρ XQ fun x => (D.vee (.ty T) = D.vee (.ty T)) ∧ (∃ s, x.d.ty = some s) ∧ Q ⟨.bl (x.d.isa T), true, none⟩) :=
  de_callB (E := E) (dcl_isi hT) hg hm hv (da_cons ha (da_cons (de_ty hgT hmT hvT hn2 hd2) da_nil he2) he) hn hdb he hpl
/-- several written classes -/
def tTyL (Ts : List String) : TA := fun _ H Q => Q (Ts.map V.ty) H
theorem pa_tyNil : PA X [] (tTyL []) := pa_nil
theorem pa_tyCons {T : String} {Ts : List String} {tys : List Expr} (hg : Gl X x) (hm : X.mg x = none) (hv : bootBuiltins x = some (.type T)) (hr : PA X tys (tTyL Ts)) (hn : x ≠ "__name__" := by decide) (hd : (x == ("__debug__" : Str)) = false := by decide)
    (hs : starEach (.Name x pos :: tys) X.env = (false, eval (.Name x pos) X.env) :: starEach tys X.env := by rfl) : PA X (.Name x pos :: tys) (tTyL (T :: Ts)) := pa_cons (pe_bltn (v := .ty T) hg hm hv rfl hn hd) hr hs
theorem cls_tys : ∀ Ts : List String, Paired ClsV (Ts.map V.ty) (Ts.map Value.type)
  | [] => .nil
  | T :: Ts => .cons (.ty T) (cls_tys Ts)
theorem kit_tys {K : PySem.W.Frag} {d : D} {s : String} (es : d.ty = some s) : ∀ {Ts : List String}, (∀ T ∈ Ts, TyOk T) → PySem.W.kitAny K (.type s) (Ts.map Value.type) = some (Ts.any fun T => d.isa T)
  | [], _ => rfl
  | T :: Ts, h => by
    refine kitAny_cons (kit_ty (h T List.mem_cons_self d s es)) (fun e => ?_) (fun e => ?_)
    · rw [List.any_cons, e, Bool.false_or]
      exact kit_tys es fun T' hT' => h T' (List.mem_cons_of_mem _ hT')
    · rw [List.any_cons, e, Bool.true_or]
theorem de_isiT {Ts : List String} {xi : Str} {tys : List Expr} {p1 p2 : Pos} {k : Nat} (hT : ∀ T ∈ Ts, TyOk T) (ha : DE X E c a fa) (hp : PA X tys (tTyL Ts)) (hg : Gl X xi) (hm : X.mg xi = none) (hv : bootBuiltins xi = some (.builtin "isinstance")) (hl : Ts.length ≤ 1000 := by decide)
    (hn : xi ≠ "__name__" := by decide) (hdb : (xi == ("__debug__" : Str)) = false := by decide)
    (he : starEach [a, .Tuple tys k p2] X.env = (false, eval a X.env) :: starEach [.Tuple tys k p2] X.env := by rfl) (he2 : starEach [.Tuple tys k p2] X.env = (false, eval (.Tuple tys k p2) X.env) :: starEach [] X.env := by rfl) (hpl : (backTo pos (starEach [.Tuple tys k p2] X.env)).any (·.1) = false := by rfl) :
    DE X E c (.Call (.Name xi p1) [a, .Tuple tys k p2] [] pos) (fun ρ XQ Q => fa ρ XQ fun x => (∃ s, x.d.ty = some s) ∧ Q ⟨.bl (Ts.any fun T => x.d.isa T), true, none⟩) := by
  obtain ⟨ta, pa, sa⟩ := ha
  refine ⟨_, pe_callB call_isiT hg hm hv (pa_cons pa (pa_cons (pe_tup hp) pa_nil he2) he) hn hdb he hpl, fun F B R H σ ρ α XQ Q K hK hX hB S h k => ?_⟩
  refine sa F B R H σ ρ α XQ _ _ hK hX hB S h fun v x R1 H1 e1 o1 r1 ⟨⟨s, es⟩, q1⟩ => ?_
  refine ⟨le_line (by rw [List.length_map]; exact Nat.le_trans hl (by decide)), fun tp htp => ?_⟩
  have e2 : Ext F R1 H1 R1 (upd H1 tp (.tup (Ts.map V.ty))) := .new0 htp
  have o2 := o1.new0 htp (.tup (xs := Ts.map V.ty))
  exact ⟨v, tp, Ts.map V.ty, .type s, Ts.map Value.type, _, rfl, upd_same, cls_tys Ts, hK ▸ rp_ty o2 (r1.1.ext o1 e2) es, kit_tys es hT, k _ _ R1 _ (e1.trans e2) o2 (.of (.bl _)) q1⟩
end
end DL

set_option Elab.async false
set_option linter.all false
set_option maxRecDepth 100000
set_option maxHeartbeats 4000000
/-! DL, part e: statements, defs. -/
namespace DL
open PySem PySem.Spec PyProof.Rows L2

/-! ### frozen places stay -/
structure Fz (F : Fx) (R : Reg) (H : Hp) (R' : Reg) (H' : Hp) : Prop where
  reg : ∀ a, R a → R' a
  keep : ∀ a o, R a → H a = some o → NoTbl o → H' a = some o
  tup : ∀ a vs, SqT F.K H a vs → SqT F.K H' a vs
theorem Fz.refl {F : Fx} {R : Reg} {H : Hp} : Fz F R H R H := ⟨fun _ h => h, fun _ _ _ h _ => h, fun _ _ h => h⟩
theorem Fz.trans {F : Fx} {R R1 R2 : Reg} {H H1 H2 : Hp} (a : Fz F R H R1 H1) (b : Fz F R1 H1 R2 H2) : Fz F R H R2 H2 :=
  ⟨fun x h => b.reg x (a.reg x h), fun x o r h n => b.keep x o (a.reg x r) (a.keep x o r h n) n, fun x vs h => b.tup x vs (a.tup x vs h)⟩
theorem Ext.fz {F : Fx} {B : Nat} {R R' : Reg} {H H' : Hp} (I : HpOk F B R H) (e : Ext F R H R' H') : Fz F R H R' H' :=
  ⟨e.reg, fun a o r h n => e.keep a o (I.good a r).1 h n, fun _ _ h => sqT_keep I.inv e.keep h⟩
theorem Fz.mv {F : Fx} {R R' : Reg} {H H' : Hp} (e : Fz F R H R' H') {n n' : Bool} (h : n' = true → n = true) : Mv F R H F R' H' n n' :=
  ⟨rfl, fun _ z => z, fun a o r ha nt => ⟨e.reg a r, e.keep a o r ha nt⟩, e.tup, fun z _ _ _ _ _ q => q (h z)⟩
theorem Rp.fz {F : Fx} {R R' : Reg} {H H' : Hp} {x : Dv} {v : V} (h : Rp F H R x v) (e : Fz F R H R' H') : Rp F H' R' x v := ⟨h.1.mv (e.mv fun z => z), h.2⟩
theorem RpL.fz {F : Fx} {R R' : Reg} {H H' : Hp} {n : Bool} {v : List V} {d : List D} (h : RpL F H R n v d) (e : Fz F R H R' H') : RpL F H' R' n v d := h.mv (e.mv fun z => z)

/-! ### own things read as values -/
/-- the slots in l are read as values from now on -/
def frz : List Nat → Ro → Ro
  | [], ρ => ρ
  | i :: l, ρ => frz l (match ρ[i]? with | some (.ow d n) => ρ.set i (.va ⟨d, n, none⟩) | _ => ρ)
theorem set_get {α : Type} {l : List α} {i : Nat} {x : α} {j : Nat} {y : α} (h : (l.set i x)[j]? = some y) : (j = i ∧ y = x) ∨ (j ≠ i ∧ l[j]? = some y) := by
  by_cases e : j = i
  · subst e
    rw [List.getElem?_set] at h
    split at h
    · split at h
      · exact .inl ⟨rfl, (Option.some.inj h).symm⟩
      · cases h
    · exact absurd rfl ‹_›
  · rw [List.getElem?_set_ne (Ne.symm e)] at h
    exact .inr ⟨e, h⟩
/-- one slot frozen -/
theorem StOk.frz1 {F : Fx} {B : Nat} {R : Reg} {H : Hp} {σ : L2.St} {ρ : Ro} {α : Nat → Addr} (S : StOk F B R H σ ρ α) {i : Nat} {d : D} {n : Bool} (h : ρ[i]? = some (.ow d n)) : StOk F B (R.add (α i)) H σ (ρ.set i (.va ⟨d, n, none⟩)) α := by
  obtain ⟨e, w⟩ := S.ow i d n h
  have m : ∀ m, Mv F R H F (R.add (α i)) H m m := fun m => ⟨rfl, fun _ z => z, fun _ _ r h _ => ⟨.inl r, h⟩, fun _ _ h => h, fun z _ _ _ _ _ q => q z⟩
  refine ⟨S.hp.frz w, by rw [List.length_set]; exact S.len, fun j x hj => ?_, fun j d' n' hj => ?_, fun j k d1 n1 d2 n2 hj hk => ?_⟩
  · rcases set_get hj with ⟨rfl, rfl' ⟩ | ⟨ne, hj⟩
    · cases rfl'
      exact ⟨_, e, .of (Ow.rp w)⟩
    · obtain ⟨v, e1, r⟩ := S.va j x hj
      exact ⟨v, e1, r.1.mv (m _), r.2⟩
  · rcases set_get hj with ⟨rfl, z⟩ | ⟨ne, hj⟩
    · cases z
    · obtain ⟨e1, w1⟩ := S.ow j d' n' hj
      refine ⟨e1, fun z => z.elim w1.nr fun z => ne (S.dis j i _ _ _ _ hj h z), w1.nm, w1.n0, w1.p0, ?_⟩
      have q := w1.at_
      cases d' with
      | lst ds => obtain ⟨vs, a, b⟩ := q; exact ⟨vs, a, b.mv (m _)⟩
      | dct ds =>
        rcases q with ⟨vs, a, b⟩ | ⟨vs, a, b⟩
        · exact .inl ⟨vs, a, b.mv (m _)⟩
        · exact .inr ⟨vs, a, b.mv (m _)⟩
      | obj k ds => obtain ⟨dx, vs, a, l, b⟩ := q; exact ⟨dx, vs, a, l, b.mv (m _)⟩
      | _ => exact q.elim
  · rcases set_get hj with ⟨rfl, z⟩ | ⟨ne, hj⟩
    · cases z
    · rcases set_get hk with ⟨rfl, z⟩ | ⟨ne2, hk⟩
      · cases z
      · exact S.dis j k _ _ _ _ hj hk
/-- fewer places are frozen again: those that were to begin with, and what is new -/
theorem StOk.back {F : Fx} {B B' : Nat} {R R1 R' : Reg} {H H' : Hp} {σ : L2.St} {ρ : Ro} {α : Nat → Addr} (S : StOk F B R H σ ρ α) (hR : ∀ a, R a → R1 a) (e : Ext F R1 H R' H') (o : HpOk F B' R' H') :
    StOk F B' (fun a => R' a ∧ (R a ∨ Nn H a)) H' σ ρ α ∧ Fz F R H (fun a => R' a ∧ (R a ∨ Nn H a)) H' := by
  have hz : Fz F R H (fun a => R' a ∧ (R a ∨ Nn H a)) H' := ⟨fun a r => ⟨e.reg a (hR a r), .inl r⟩, fun a u r h n => e.keep a u (S.hp.good a r).1 h n, fun _ _ h => sqT_keep S.hp.inv e.keep h⟩
  refine ⟨⟨⟨o.inv, fun a r => o.good a r.1, o.ent, o.ent2, fun a r => o.reg0 a r.1, o.tab, o.lim, o.pn⟩, S.len, fun i x h => ?_, fun i d n h => ?_, S.dis⟩, hz⟩
  · obtain ⟨v, a, r⟩ := S.va i x h
    exact ⟨v, a, r.fz hz⟩
  · obtain ⟨a, w⟩ := S.ow i d n h
    obtain ⟨u, hu, nt⟩ := w.some
    refine ⟨a, ⟨fun z => z.2.elim w.nr fun z => z u hu nt, w.nm, w.n0, w.p0, ?_⟩⟩
    have q := w.at_
    cases d with
    | lst ds => obtain ⟨vs, a, b⟩ := q; exact ⟨vs, e.keep _ _ w.nm a .lst, b.mv (hz.mv fun z => z)⟩
    | dct ds =>
      rcases q with ⟨vs, a, b⟩ | ⟨vs, a, b⟩
      · exact .inl ⟨vs, e.keep _ _ w.nm a .dK, b.mv (hz.mv fun z => z)⟩
      · exact .inr ⟨vs, e.keep _ _ w.nm a .dT, b.mv (hz.mv fun z => z)⟩
    | obj k ds => obtain ⟨dx, vs, a, l, b⟩ := q; exact ⟨dx, vs, e.keep _ _ w.nm a .ins, l, b.mv (hz.mv fun z => z)⟩
    | _ => exact q.elim
/-- several slots frozen -/
theorem StOk.frzs {F : Fx} {B : Nat} {H : Hp} {σ : L2.St} {α : Nat → Addr} : ∀ (l : List Nat) {R : Reg} {ρ : Ro}, StOk F B R H σ ρ α → ∃ R1, StOk F B R1 H σ (frz l ρ) α ∧ ∀ a, R a → R1 a
  | [], R, _, S => ⟨R, S, fun _ h => h⟩
  | i :: l, R, ρ, S => by
    unfold frz
    split
    · rename_i d n h
      obtain ⟨R1, S1, h1⟩ := StOk.frzs l (S.frz1 h)
      exact ⟨R1, S1, fun a r => h1 a (.inl r)⟩
    · exact StOk.frzs l S

section
variable {X : Cx} {E : XK} {c ca cb cc : Nat} {a b e : Expr} {es : List Expr} {fa fb fe : TD} {fs : TDs} {pos p : Pos} {x : Str}
/-- an expression evaluated while the slots in l are read: a scalar lets them be own again -/
theorem run_frz {l : List Nat} {t : TE} {F : Fx} {B : Nat} {R : Reg} {H : Hp} {σ : L2.St} {ρ : Ro} {α : Nat → Addr} {XQ : XQT} {Q : Dv → Ro → Prop} {K : VK}
    (s : ∀ F B R H σ ρ α XQ Q (K : VK), F.K = X.K → XLink F E XQ → B + c ≤ F.L → StOk F B R H σ ρ α → fa ρ XQ Q → (∀ v x R' H', Ext F R H R' H' → HpOk F (B + c) R' H' → Rp F H' R' x v → Q x → K v H') → t σ H K)
    (hK : F.K = X.K) (hX : XLink F E XQ) (hB : B + c ≤ F.L) (S : StOk F B R H σ ρ α) (h : fa (frz l ρ) XQ fun x => Q x (if x.d.sca = true then ρ else frz l ρ))
    (k : ∀ v x ρ' R' H', Fz F R H R' H' → StOk F (B + c) R' H' σ ρ' α → Rp F H' R' x v → Q x ρ' → K v H') : t σ H K := by
  obtain ⟨R1, S1, h1⟩ := S.frzs l
  refine s F B R1 H σ (frz l ρ) α XQ _ K hK hX hB S1 h fun v x R' H' e' o' r' q' => ?_
  by_cases hs : x.d.sca = true
  · rw [if_pos hs] at q'
    obtain ⟨S2, z⟩ := S.back h1 e' o'
    exact k v x ρ _ H' z S2 ⟨r'.1.sca hs, r'.2⟩ q'
  · rw [if_neg hs] at q'
    have z : Fz F R H R1 H := ⟨h1, fun _ _ _ h _ => h, fun _ _ h => h⟩
    exact k v x _ R' H' (z.trans (e'.fz S1.hp)) (S1.ext e' o') r' q'
theorem run_frzT {l : List Nat} {ft : TDt} {t : TT} {F : Fx} {B : Nat} {R : Reg} {H : Hp} {σ : L2.St} {ρ : Ro} {α : Nat → Addr} {XQ : XQT} {Q : Bool → Prop} {K : Bool → Hp → Prop}
    (s : ∀ F B R H σ ρ α XQ Q (K : Bool → Hp → Prop), F.K = X.K → XLink F E XQ → B + c ≤ F.L → StOk F B R H σ ρ α → ft ρ XQ Q → (∀ b R' H', Ext F R H R' H' → HpOk F (B + c) R' H' → Q b → K b H') → t σ H K)
    (hK : F.K = X.K) (hX : XLink F E XQ) (hB : B + c ≤ F.L) (S : StOk F B R H σ ρ α) (h : ft (frz l ρ) XQ Q)
    (k : ∀ b R' H', Fz F R H R' H' → StOk F (B + c) R' H' σ ρ α → Q b → K b H') : t σ H K := by
  obtain ⟨R1, S1, h1⟩ := S.frzs l
  refine s F B R1 H σ (frz l ρ) α XQ _ K hK hX hB S1 h fun b R' H' e' o' q' => ?_
  obtain ⟨S2, z⟩ := S.back h1 e' o'
  exact k b _ H' z S2 q'

/-! ### statements -/
structure DEnds where
  nx : Ro → Prop
  rt : Dv → Prop
  bk : Ro → Prop := fun _ => False
  ct : Ro → Prop := fun _ => False
abbrev TDS := DEnds → Ro → XQT → Prop
structure EndsOk (F : Fx) (B : Nat) (R : Reg) (H : Hp) (N : DEnds) (K : Ends) : Prop where
  nx : ∀ σ' H' ρ' R' α', Fz F R H R' H' → StOk F B R' H' σ' ρ' α' → N.nx ρ' → K.nx σ' H'
  rt : ∀ v x R' H', Fz F R H R' H' → HpOk F B R' H' → Rp F H' R' x v → N.rt x → K.rt v H'
  bk : ∀ σ' H' ρ' R' α', Fz F R H R' H' → StOk F B R' H' σ' ρ' α' → N.bk ρ' → K.bk σ' H'
  ct : ∀ σ' H' ρ' R' α', Fz F R H R' H' → StOk F B R' H' σ' ρ' α' → N.ct ρ' → K.ct σ' H'
theorem EndsOk.fz {F : Fx} {B : Nat} {R R1 : Reg} {H H1 : Hp} {N : DEnds} {K : Ends} (h : EndsOk F B R H N K) (z : Fz F R H R1 H1) : EndsOk F B R1 H1 N K :=
  ⟨fun σ' H' ρ' R' α' q => h.nx σ' H' ρ' R' α' (z.trans q), fun v x R' H' q => h.rt v x R' H' (z.trans q), fun σ' H' ρ' R' α' q => h.bk σ' H' ρ' R' α' (z.trans q), fun σ' H' ρ' R' α' q => h.ct σ' H' ρ' R' α' (z.trans q)⟩
theorem EndsOk.mono {F : Fx} {B B' : Nat} {R : Reg} {H : Hp} {N : DEnds} {K : Ends} (h : EndsOk F B' R H N K) (l : B ≤ B') : EndsOk F B R H N K :=
  ⟨fun σ' H' ρ' R' α' q S => h.nx σ' H' ρ' R' α' q (S.mono l), fun v x R' H' q o => h.rt v x R' H' q (o.mono l), fun σ' H' ρ' R' α' q S => h.bk σ' H' ρ' R' α' q (S.mono l), fun σ' H' ρ' R' α' q S => h.ct σ' H' ρ' R' α' q (S.mono l)⟩
def DS (X : Cx) (E : XK) (c : Nat) (st : Stmt) (g : TDS) : Prop := ∃ t : TS, PS X st t ∧ ∀ F B R H σ ρ α XQ N (K : Ends), F.K = X.K → XLink F E XQ → B + c ≤ F.L → StOk F B R H σ ρ α → g N ρ XQ → EndsOk F (B + c) R H N K → t K σ H
def DSs (X : Cx) (E : XK) (c : Nat) (st : List Stmt) (g : TDS) : Prop := ∃ t : TS, PSs X st t ∧ ∀ F B R H σ ρ α XQ N (K : Ends), F.K = X.K → XLink F E XQ → B + c ≤ F.L → StOk F B R H σ ρ α → g N ρ XQ → EndsOk F (B + c) R H N K → t K σ H

theorem dss_nil : DSs X E 0 [] (fun N ρ _ => N.nx ρ) := ⟨_, pss_nil, fun F B R H σ ρ α XQ N K _ _ _ S h k => k.nx σ H ρ R α .refl S h⟩
theorem dss_cons {st : Stmt} {rest : List Stmt} {g1 g2 : TDS} (h1 : DS X E ca st g1) (h2 : DSs X E cb rest g2) : DSs X E (ca + cb) (st :: rest) (fun N ρ XQ => g1 { N with nx := fun ρ' => g2 N ρ' XQ } ρ XQ) := by
  obtain ⟨t1, p1, s1⟩ := h1
  obtain ⟨t2, p2, s2⟩ := h2
  refine ⟨_, pss_cons p1 p2, fun F B R H σ ρ α XQ N K hK hX hB S h k => ?_⟩
  have k0 : EndsOk F (B + ca) R H N K := k.mono (by omega)
  refine s1 F B R H σ ρ α XQ _ _ hK hX (by omega) S h ⟨fun σ' H' ρ' R' α' z S' q => ?_, k0.rt, k0.bk, k0.ct⟩
  exact s2 F (B + ca) R' H' σ' ρ' α' XQ _ _ hK hX (by omega) S' q ((k.fz z).mono (by omega))
theorem dss_one {st : Stmt} {g : TDS} (h : DS X E c st g) : DSs X E c [st] g := by
  obtain ⟨t, p, s⟩ := h
  exact ⟨t, pss_one p, s⟩
theorem ds_pass : DS X E 0 (.Pass pos) (fun N ρ _ => N.nx ρ) := ⟨_, ps_pass, fun F B R H σ ρ α XQ N K _ _ _ S h k => k.nx σ H ρ R α .refl S h⟩
theorem ds_break : DS X E 0 (.Break pos) (fun N ρ _ => N.bk ρ) := ⟨_, ps_break, fun F B R H σ ρ α XQ N K _ _ _ S h k => k.bk σ H ρ R α .refl S h⟩
theorem ds_continue : DS X E 0 (.Continue pos) (fun N ρ _ => N.ct ρ) := ⟨_, ps_continue, fun F B R H σ ρ α XQ N K _ _ _ S h k => k.ct σ H ρ R α .refl S h⟩
theorem ds_ret (l : List Nat) (h : DE X E c e fe) : DS X E c (.Return (some e) pos) (fun N ρ XQ => fe (frz l ρ) XQ N.rt) := by
  obtain ⟨t, p, s⟩ := h
  refine ⟨_, ps_ret p, fun F B R H σ ρ α XQ N K hK hX hB S h k => ?_⟩
  obtain ⟨R1, S1, h1⟩ := S.frzs l
  refine s F B R1 H σ (frz l ρ) α XQ _ _ hK hX hB S1 h fun v x R' H' e' o' r' q' => ?_
  have z : Fz F R H R1 H := ⟨h1, fun _ _ _ h _ => h, fun _ _ h => h⟩
  exact k.rt v x R' H' (z.trans (e'.fz S1.hp)) o' r' q'
theorem ds_retN : DS X E 0 (.Return none pos) (fun N _ _ => N.rt ⟨.non, true, none⟩) := ⟨_, ps_retN, fun F B R H σ ρ α XQ N K _ _ _ S h k => k.rt .non _ R H .refl S.hp (.of .non) h⟩
theorem ds_if (l : List Nat) {tc : TDt} {as bs : List Stmt} {ga gb : TDS} (hc : DT X E cc e tc) (ha : DSs X E ca as ga) (hb : DSs X E cb bs gb) : DS X E (cc + (ca + cb)) (.If e as bs pos) (fun N ρ XQ => tc (frz l ρ) XQ fun b => if b = true then ga N ρ XQ else gb N ρ XQ) := by
  obtain ⟨t, p, s⟩ := hc
  obtain ⟨ta, pa, sa⟩ := ha
  obtain ⟨tb, pb, sb⟩ := hb
  refine ⟨_, ps_if p pa pb, fun F B R H σ ρ α XQ N K hK hX hB S h k => ?_⟩
  refine run_frzT (X := X) (E := E) (c := cc) s hK hX (by omega) S h fun b R' H' z S' q => ?_
  cases b with
  | true => exact sa F (B + cc) R' H' σ ρ α XQ N K hK hX (by omega) S' q ((k.fz z).mono (by omega))
  | false => exact sb F (B + cc) R' H' σ ρ α XQ N K hK hX (by omega) S' q ((k.fz z).mono (by omega))
theorem ds_expr (l : List Nat) (h : DE X E c e fe) (hs : swapsWith e none pos.line X.env = pure false := by rfl) : DS X E c (.Expr e pos) (fun N ρ XQ => fe (frz l ρ) XQ fun x => N.nx (if x.d.sca = true then ρ else frz l ρ)) := by
  obtain ⟨t, p, s⟩ := h
  refine ⟨_, ps_expr p hs, fun F B R H σ ρ α XQ N K hK hX hB S h k => ?_⟩
  exact run_frz (X := X) (E := E) (c := c) (Q := fun _ ρ' => N.nx ρ') s hK hX hB S h fun v x ρ' R' H' z S' _ q => k.nx σ H' ρ' R' α z S' q

/-! ### targets -/
abbrev TDG := Dv → Ro → (Ro → Prop) → Prop
abbrev TDGs := List Dv → Ro → (Ro → Prop) → Prop
/-- the slots in l alone may differ -/
def SetOnly (l : List Nat) (σ σ' : L2.St) : Prop := σ'.length = σ.length ∧ ∀ j, j ∉ l → σ'[j]? = σ[j]?
theorem SetOnly.refl {l : List Nat} {σ : L2.St} : SetOnly l σ σ := ⟨rfl, fun _ _ => rfl⟩
theorem SetOnly.trans {l k : List Nat} {σ σ1 σ2 : L2.St} (a : SetOnly l σ σ1) (b : SetOnly k σ1 σ2) : SetOnly (l ++ k) σ σ2 :=
  ⟨b.1.trans a.1, fun j h => (b.2 j fun z => h (List.mem_append_right _ z)).trans (a.2 j fun z => h (List.mem_append_left _ z))⟩
def DG (X : Cx) (l : List Nat) (tg : Expr) (g : TDG) : Prop := ∃ t : TG, PG X tg t ∧ ∀ F B R H σ ρ α v x Q (K : L2.St → Hp → Prop), F.K = X.K → StOk F B R H σ ρ α → Rp F H R x v → g x ρ Q → (∀ σ' ρ', StOk F B R H σ' ρ' α → SetOnly l σ σ' → Q ρ' → K σ' H) → t v σ H K
def DGs (X : Cx) (l : List Nat) (tgs : List Expr) (g : TDGs) : Prop := ∃ t : TGs, PGs X tgs t ∧ ∀ F B R H σ ρ α vs xs Q (K : L2.St → Hp → Prop), F.K = X.K → StOk F B R H σ ρ α → Paired (fun x v => Rp F H R x v) xs vs → g xs ρ Q → (∀ σ' ρ', StOk F B R H σ' ρ' α → SetOnly l σ σ' → Q ρ' → K σ' H) → t vs σ H K
theorem StOk.setva {F : Fx} {B : Nat} {R : Reg} {H : Hp} {σ : L2.St} {ρ : Ro} {α : Nat → Addr} (S : StOk F B R H σ ρ α) (i : Nat) {x : Dv} {v : V} (r : Rp F H R x v) : StOk F B R H (σ.set i (some v)) (ρ.set i (.va x)) α := by
  have len' : (σ.set i (some v)).length = (ρ.set i (.va x)).length := by rw [List.length_set, List.length_set]; exact S.len
  refine ⟨S.hp, len', fun j y hj => ?_, fun j d n hj => ?_, fun j k d1 n1 d2 n2 hj hk => ?_⟩
  · have hl : j < (ρ.set i (.va x)).length := (List.getElem?_eq_some_iff.mp hj).1
    rcases set_get hj with ⟨rfl, z⟩ | ⟨ne, hj⟩
    · cases z
      rw [List.length_set, ← S.len] at hl
      exact ⟨v, by rw [List.getElem?_set_self hl], r⟩
    · obtain ⟨u, e1, q⟩ := S.va j y hj
      exact ⟨u, by rw [List.getElem?_set_ne (Ne.symm ne)]; exact e1, q⟩
  · rcases set_get hj with ⟨rfl, z⟩ | ⟨ne, hj⟩
    · cases z
    · obtain ⟨e1, w⟩ := S.ow j d n hj
      exact ⟨by rw [List.getElem?_set_ne (Ne.symm ne)]; exact e1, w⟩
  · rcases set_get hj with ⟨rfl, z⟩ | ⟨ne, hj⟩
    · cases z
    · rcases set_get hk with ⟨rfl, z⟩ | ⟨ne2, hk⟩
      · cases z
      · exact S.dis j k _ _ _ _ hj hk
theorem dg_name {i : Nat} (h : PG X (.Name x pos) (gName i)) : DG X [i] (.Name x pos) (fun x ρ Q => Q (ρ.set i (.va x))) :=
  ⟨_, h, fun F B R H σ ρ α v x Q K _ S r q k => k _ _ (S.setva i r) ⟨List.length_set .., fun j hj => List.getElem?_set_ne (fun z => hj (by simp [z]))⟩ q⟩
theorem dgs_nil : DGs X [] [] (fun xs ρ Q => xs = [] ∧ Q ρ) := ⟨_, pgs_nil, fun F B R H σ ρ α vs xs Q K _ S r q k => by
  obtain ⟨rfl, q⟩ := q
  cases r
  exact ⟨rfl, k σ ρ S .refl q⟩⟩
theorem dgs_cons {l1 l2 : List Nat} {e : Expr} {es : List Expr} {g : TDG} {gs : TDGs} (h1 : DG X l1 e g) (h2 : DGs X l2 es gs) (hs : (assignEach (e :: es) X.env).map (·.2) = assign e X.env :: (assignEach es X.env).map (·.2) := by rfl) : DGs X (l1 ++ l2) (e :: es) (fun xs ρ Q => match xs with | x :: r => g x ρ fun ρ' => gs r ρ' Q | [] => False) := by
  obtain ⟨t1, p1, s1⟩ := h1
  obtain ⟨t2, p2, s2⟩ := h2
  refine ⟨_, pgs_cons p1 p2 hs, fun F B R H σ ρ α vs xs Q K hK S r q k => ?_⟩
  match xs, vs, r, q with
  | x :: xs, v :: vs, .cons r1 r2, q =>
    refine ⟨v, vs, rfl, s1 F B R H σ ρ α v x _ _ hK S r1 q fun σ' ρ' S' w q' => ?_⟩
    exact s2 F B R H σ' ρ' α vs xs Q K hK S' r2 q' fun σ2 ρ2 S2 w2 q2 => k σ2 ρ2 S2 (w.trans w2) q2
theorem PG.or {tg : Expr} {t u : TG} (h : PG X tg t) (k : PG X tg u) : PG X tg (fun v σ H Q => t v σ H Q ∨ u v σ H Q) :=
  ⟨fun pins s σ H v w Q I r q => q.elim (fun q => h.run pins s σ H v w Q I r q) fun q => k.run pins s σ H v w Q I r q⟩
theorem paired_of {F : Fx} {H : Hp} {R : Reg} {n : Bool} : ∀ {vs : List V} {ds : List D}, RpL F H R n vs ds → Paired (fun x v => Rp F H R x v) (ds.map fun d => ⟨d, n, none⟩) vs
  | _, _, .nil => .nil
  | _, _, .cons a t => .cons (.of a) (paired_of t)
/-- the items of a list or a tuple, n of them, to gs -/
def unp (n : Nat) (gs : TDGs) : TDG := fun x ρ Q => match x.d with
  | .tup ds => ds.length = n ∧ gs (ds.map fun d => ⟨d, x.fr, none⟩) ρ Q
  | .lst ds => ds.length = n ∧ gs (ds.map fun d => ⟨d, x.fr, none⟩) ρ Q
  | _ => False
theorem dg_tup {l : List Nat} {es : List Expr} {k n : Nat} {gs : TDGs} (hc : X.calm = true) (h : DGs X l es gs) (hn : (assignEach es X.env).length = n := by rfl) (hst : (assignEach es X.env).findIdx? (·.1) = none := by rfl) :
    DG X l (.Tuple es k pos) (unp n gs) := by
  obtain ⟨t, p, s⟩ := h
  refine ⟨_, PG.or (pg_tup hc p hn hst) (pg_unl hc p hn hst), fun F B R H σ ρ α v x Q K hK S r q k => ?_⟩
  obtain ⟨d, m, vo⟩ := x
  cases d <;> try exact q.elim
  case tup ds =>
    obtain ⟨a, vs, rfl, ha, la⟩ := r.tupL rfl
    exact .inl ⟨a, vs, rfl, hK ▸ ha, by rw [la.len]; exact q.1, s F B R H σ ρ α vs _ Q K hK S (paired_of la) q.2 k⟩
  case lst ds =>
    obtain ⟨a, vs, rfl, ha, la⟩ := r.lstL rfl
    exact .inr ⟨a, vs, rfl, .of ha, by rw [la.len]; exact q.1, s F B R H σ ρ α vs _ Q K hK S (paired_of la) q.2 k⟩
/-- target = e -/
theorem ds_asg (l : List Nat) {l2 : List Nat} {tg : Expr} {g : TDG} (he : DE X E c e fe) (hg : DG X l2 tg g) (ps : ∀ te t, PE X e te → PG X tg t → PS X (.Assign [tg] e pos) (tAsg te t)) : DS X E c (.Assign [tg] e pos) (fun N ρ XQ => fe (frz l ρ) XQ fun x => g x (if x.d.sca = true then ρ else frz l ρ) N.nx) := by
  obtain ⟨t, p, s⟩ := he
  obtain ⟨t2, p2, s2⟩ := hg
  refine ⟨_, ps t t2 p p2, fun F B R H σ ρ α XQ N K hK hX hB S h k => ?_⟩
  refine run_frz (X := X) (E := E) (c := c) (Q := fun x ρ' => g x ρ' N.nx) s hK hX hB S h fun v x ρ' R' H' z S' r q => ?_
  exact s2 F (B + c) R' H' σ ρ' α v x _ _ hK S' r q fun σ2 ρ2 S2 _ q2 => k.nx σ2 H' ρ2 R' α z S2 q2
/-- x = e, e a list or dict that is made here: x's own from now on -/
theorem ds_own (l : List Nat) {i : Nat} {tg : Expr} (he : DN X E c e fe) (hg : PG X tg (gName i)) (ps : ∀ te t, PE X e te → PG X tg t → PS X (.Assign [tg] e pos) (tAsg te t)) : DS X E c (.Assign [tg] e pos) (fun N ρ XQ => fe (frz l ρ) XQ fun x => N.nx ((frz l ρ).set i (.ow x.d x.n))) := by
  obtain ⟨t, p, s⟩ := he
  refine ⟨_, ps t _ p hg, fun F B R H σ ρ α XQ N K hK hX hB S h k => ?_⟩
  obtain ⟨R1, S1, h1⟩ := S.frzs l
  refine s F B R1 H σ (frz l ρ) α XQ _ _ hK hX hB S1 h fun a d n R' H' e' o' w hn q => ?_
  have z : Fz F R H R1 H := ⟨h1, fun _ _ _ h _ => h, fun _ _ h => h⟩
  have S2 := S1.ext e' o'
  have z2 := z.trans (e'.fz S1.hp)
  have ne : ∀ j d n, (frz l ρ)[j]? = some (.ow d n) → α j ≠ a := fun j d n hj z => by
    obtain ⟨o, ho, nt⟩ := (S1.ow j d n hj).2.some
    exact hn o (z ▸ ho) nt
  refine k.nx (σ.set i (some (.ref a))) H' ((frz l ρ).set i (.ow d n)) R' (fun j => if j = i then a else α j) z2 ⟨o', by rw [List.length_set, List.length_set]; exact S2.len, fun j y hj => ?_, fun j d' n' hj => ?_, fun j m d1 n1 d2 n2 hj hm e => ?_⟩ q
  · rcases set_get hj with ⟨rfl, z⟩ | ⟨nj, hj⟩
    · cases z
    · obtain ⟨u, e1, q⟩ := S2.va j y hj
      exact ⟨u, by rw [List.getElem?_set_ne (Ne.symm nj)]; exact e1, q⟩
  · have hl : j < ((frz l ρ).set i (.ow d n)).length := (List.getElem?_eq_some_iff.mp hj).1
    rcases set_get hj with ⟨ej, z⟩ | ⟨nj, hj'⟩
    · cases z
      rw [List.length_set, ← S1.len] at hl
      rw [ej] at hl ⊢
      rw [if_pos rfl]
      exact ⟨by rw [List.getElem?_set_self hl], w⟩
    · rw [if_neg nj]
      obtain ⟨e1, w1⟩ := S2.ow j d' n' hj'
      exact ⟨by rw [List.getElem?_set_ne (Ne.symm nj)]; exact e1, w1⟩
  · rcases set_get hj with ⟨ej, z⟩ | ⟨nj, hj'⟩
    · rcases set_get hm with ⟨em, _⟩ | ⟨nm, hm'⟩
      · rw [ej, em]
      · rw [if_pos ej, if_neg nm] at e
        exact absurd e.symm (ne m _ _ hm')
    · rcases set_get hm with ⟨em, _⟩ | ⟨nm, hm'⟩
      · rw [if_neg nj, if_pos em] at e
        exact absurd e (ne j _ _ hj')
      · rw [if_neg nj, if_neg nm] at e
        exact S2.dis j m _ _ _ _ hj' hm' e
end
end DL

set_option Elab.async false
set_option linter.all false
set_option maxRecDepth 100000
set_option maxHeartbeats 4000000
/-! DL, part f: what is walked, for, while, comprehensions. -/
namespace DL
open PySem PySem.Spec PyProof.Rows L2

/-- an iterator that yields xs, whatever happens to what is not frozen -/
def Walks (F : Fx) (R : Reg) (H : Hp) (J : It) (xs : List Dv) : Prop := ∀ (i : Nat) B R' H', Fz F R H R' H' → HpOk F B R' H' → (i = xs.length → J.stop i H') ∧
  ∀ x, xs[i]? = some x → J.go i H' ∧ ∀ v H'', J.yld i H' v H'' → ∃ R'', Ext F R' H' R'' H'' ∧ HpOk F B R'' H'' ∧ Rp F H'' R'' x v
theorem Walks.fz {F : Fx} {R R1 : Reg} {H H1 : Hp} {J : It} {xs : List Dv} (w : Walks F R H J xs) (z : Fz F R H R1 H1) : Walks F R1 H1 J xs := fun i B R' H' q o => w i B R' H' (z.trans q) o
def DI (X : Cx) (E : XK) (c : Nat) (tg iter : Expr) (f : TDs) : Prop := ∃ wi : TI, PI X tg iter wi ∧ ∀ F B R H σ ρ α XQ Q (K : It → Hp → Prop), F.K = X.K → XLink F E XQ → B + c ≤ F.L → StOk F B R H σ ρ α → f ρ XQ Q →
  (∀ J xs R' H', Ext F R H R' H' → HpOk F (B + c) R' H' → Q xs → Walks F R' H' J xs → K J H') → wi σ H K

def forGo (gt : TDG) (gb : TDS) (N : DEnds) (XQ : XQT) : List Dv → Ro → Prop
  | [], ρ => N.nx ρ
  | x :: xs, ρ => gt x ρ fun ρ' => gb { N with nx := forGo gt gb N XQ xs, ct := forGo gt gb N XQ xs, bk := N.nx } ρ' XQ
section
variable {X : Cx} {E : XK} {c ca cb cc ci : Nat} {a b e tg iter : Expr} {es : List Expr} {fa fb fe : TD} {fi : TDs} {fs : TDs} {pos p : Pos} {x : Str}
theorem ds_for (l : List Nat) {l2 : List Nat} {body : List Stmt} {gt : TDG} {gb : TDS} (hp : PassesOwn (model X.prog X.w) X.A X.env X.xe) (hc : X.calm = true) (hi : DI X E ci tg iter fi) (hg : DG X l2 tg gt) (hb : DSs X E cb body gb)
    (hs : ∀ x, foldedSetIterable iter X.env x = pure x := by intro _; rfl) :
    DS X E (ci + BIG * cb) (.For tg iter body [] pos) (fun N ρ XQ => fi (frz l ρ) XQ fun xs => (cb = 0 ∨ xs.length ≤ BIG) ∧ forGo gt gb N XQ xs (frz l ρ)) := by
  obtain ⟨wi, pi, si⟩ := hi
  obtain ⟨tt, pt, st⟩ := hg
  obtain ⟨tb, pb, sb⟩ := hb
  refine ⟨_, ps_for hp hc pi pt pb hs, fun F B R H σ ρ α XQ N K hK hX hB S h k => ?_⟩
  obtain ⟨R1, S1, h1⟩ := S.frzs l
  have z1 : Fz F R H R1 H := ⟨h1, fun _ _ _ h _ => h, fun _ _ h => h⟩
  refine si F B R1 H σ (frz l ρ) α XQ _ _ hK hX (by omega) S1 h fun J xs R2 H2 e2 o2 ⟨hz, q⟩ w => ?_
  have z2 := z1.trans (e2.fz S1.hp)
  have le : ∀ i, i ≤ xs.length → i * cb ≤ BIG * cb := fun i hi => by
    rcases hz with hz | hz
    · rw [hz]; simp
    · exact Nat.mul_le_mul_right _ (Nat.le_trans hi hz)
  refine ⟨fun i m σ' H' => m = xs.length - i ∧ i ≤ xs.length ∧ ∃ R' ρ' α', Fz F R2 H2 R' H' ∧ StOk F (B + ci + i * cb) R' H' σ' ρ' α' ∧ forGo gt gb N XQ (xs.drop i) ρ', ⟨_, rfl, Nat.zero_le _, R2, frz l ρ, α, .refl, by simpa using S1.ext e2 o2, by simpa using q⟩, ?_⟩
  rintro i m σ' H' ⟨rfl, hi, R', ρ', α', z, S', q⟩
  by_cases hlt : i < xs.length
  · refine .inr ?_
    have hx : xs[i]? = some xs[i] := by simp [hlt]
    obtain ⟨go, yl⟩ := (w i _ R' H' z S'.hp).2 _ hx
    rw [List.drop_eq_getElem_cons hlt] at q
    refine ⟨go, fun σ2 H2' => ∃ R'' ρ'' α'', Fz F R2 H2 R'' H2' ∧ StOk F (B + ci + (i + 1) * cb) R'' H2' σ2 ρ'' α'' ∧ forGo gt gb N XQ (xs.drop (i + 1)) ρ'', fun σ2 H2' q2 => ⟨_, by omega, rfl, hlt, q2⟩, fun v H'' y => ?_⟩
    obtain ⟨R'', ex, ox, rx⟩ := yl v H'' y
    have z3 := z.trans (ex.fz S'.hp)
    refine st F _ R'' H'' σ' ρ' α' v _ _ _ hK (S'.ext ex ox) rx q fun σ3 ρ3 S3 _ q3 => ?_
    have e1 : B + ci + (i + 1) * cb = B + ci + i * cb + cb := by rw [Nat.add_mul, Nat.one_mul]; omega
    have e3 : B + ci + (i + 1) * cb ≤ B + (ci + BIG * cb) := by have := le (i + 1) hlt; omega
    have kk : EndsOk F (B + ci + i * cb + cb) R'' H'' N K := (k.fz (z2.trans z3)).mono (by omega)
    refine sb F _ R'' H'' σ3 ρ3 α' XQ _ _ hK hX (by omega) S3 q3 ⟨fun σ4 H4 ρ4 R4 α4 z4 S4 q4 => ⟨R4, ρ4, α4, z3.trans z4, by rw [e1]; exact S4, q4⟩, kk.rt, kk.nx, fun σ4 H4 ρ4 R4 α4 z4 S4 q4 => ⟨R4, ρ4, α4, z3.trans z4, by rw [e1]; exact S4, q4⟩⟩
  · have hl : i = xs.length := by omega
    refine .inl ⟨(w i _ R' H' z S'.hp).1 hl, ?_⟩
    rw [hl, List.drop_length] at q
    exact k.nx σ' H' ρ' R' α' (z2.trans z) (S'.mono (by have := le i hi; omega)) q

/-- while: at most n turns -/
def whN (tc : TDt) (gb : TDS) (l : List Nat) (N : DEnds) (XQ : XQT) : Nat → Ro → Prop
  | 0, _ => False
  | n + 1, ρ => tc (frz l ρ) XQ fun b => if b = true then gb { N with nx := whN tc gb l N XQ n, ct := whN tc gb l N XQ n, bk := N.nx } ρ XQ else N.nx ρ
theorem ds_while (l : List Nat) {body : List Stmt} {tc : TDt} {gb : TDS} (hp : PassesOwn (model X.prog X.w) X.A X.env X.xe) (hc : DT X E 0 e tc) (hb : DSs X E 0 body gb) : DS X E 0 (.While e body [] pos) (fun N ρ XQ => ∃ n, whN tc gb l N XQ n ρ) := by
  obtain ⟨t, pt, st⟩ := hc
  obtain ⟨tb, pb, sb⟩ := hb
  refine ⟨_, ps_while hp pt pb, fun F B R H σ ρ α XQ N K hK hX hB S ⟨n, h⟩ k => ?_⟩
  refine ⟨fun m σ' H' => ∃ R' ρ' α', Fz F R H R' H' ∧ StOk F B R' H' σ' ρ' α' ∧ whN tc gb l N XQ m ρ', ⟨n, R, ρ, α, .refl, S, h⟩, ?_⟩
  rintro m σ' H' ⟨R', ρ', α', z, S', q⟩
  cases m with
  | zero => exact q.elim
  | succ m =>
    refine run_frzT (X := X) (E := E) (c := 0) st hK hX hB S' q fun b R2 H2 z2 S2 q2 => ?_
    cases b with
    | true =>
      refine ⟨fun σ3 H3 => ∃ R3 ρ3 α3, Fz F R H R3 H3 ∧ StOk F B R3 H3 σ3 ρ3 α3 ∧ whN tc gb l N XQ m ρ3, fun σ3 H3 q3 => ⟨m, Nat.lt_succ_self m, q3⟩, ?_⟩
      have kk : EndsOk F B R2 H2 N K := k.fz (z.trans z2)
      exact sb F B R2 H2 σ' ρ' α' XQ _ _ hK hX hB S2 q2 ⟨fun σ4 H4 ρ4 R4 α4 z4 S4 q4 => ⟨R4, ρ4, α4, (z.trans z2).trans z4, S4, q4⟩, kk.rt, kk.nx, fun σ4 H4 ρ4 R4 α4 z4 S4 q4 => ⟨R4, ρ4, α4, (z.trans z2).trans z4, S4, q4⟩⟩
    | false => exact k.nx σ' H2 ρ' R2 α' (z.trans z2) S2 q2

/-! ### what is walked -/
theorem walks_list {F : Fx} {R : Reg} {H : Hp} {K : PySem.W.Frag} {a : Addr} {n : Bool} {vs : List V} {ds : List D} (ha : H a = some (.lst vs)) (hr : R a) (l : RpL F H R n vs ds) : Walks F R H (Itl K a) (ds.map fun d => ⟨d, n, none⟩) := fun i B R' H' z o => by
  have ha' := z.keep a _ hr ha .lst
  have l' := l.fz z
  refine ⟨fun hl => ⟨vs, .of ha', by rw [hl, List.length_map, l.len]; exact Nat.le_refl _⟩, fun x hx => ?_⟩
  rw [List.getElem?_map] at hx
  cases hd : ds[i]? with
  | none => rw [hd] at hx; cases hx
  | some d =>
    rw [hd] at hx
    cases hx
    obtain ⟨v, hv, r⟩ := l'.get hd
    refine ⟨⟨vs, v, .of ha', hv⟩, fun u H'' ⟨e, y⟩ => ?_⟩
    subst e
    rw [y vs (.of ha')] at hv
    cases hv
    exact ⟨R', .refl, o, .of r⟩
theorem walks_tup {F : Fx} {R : Reg} {H : Hp} {a : Addr} {n : Bool} {vs : List V} {ds : List D} (ha : SqT F.K H a vs) (l : RpL F H R n vs ds) : Walks F R H (Itt F.K a) (ds.map fun d => ⟨d, n, none⟩) := fun i B R' H' z o => by
  have ha' := z.tup a _ ha
  have l' := l.fz z
  refine ⟨fun hl => ⟨vs, ha', by rw [hl, List.length_map, l.len]; exact Nat.le_refl _⟩, fun x hx => ?_⟩
  rw [List.getElem?_map] at hx
  cases hd : ds[i]? with
  | none => rw [hd] at hx; cases hx
  | some d =>
    rw [hd] at hx
    cases hx
    obtain ⟨v, hv, r⟩ := l'.get hd
    refine ⟨⟨vs, v, ha', hv⟩, fun u H'' ⟨e, y⟩ => ?_⟩
    subst e
    rw [y vs ha'] at hv
    cases hv
    exact ⟨R', .refl, o, .of r⟩
/-- over a list or a tuple -/
def iSeq (K : PySem.W.Frag) (tl : TE) : TI := fun σ H R => tl σ H fun x H1 => ∃ a, x = .ref a ∧ ((∃ xs, SqL K H1 a xs ∧ R (Itl K a) H1) ∨ ∃ xs, SqT K H1 a xs ∧ R (Itt K a) H1)
theorem pi_seq {tl : TE} (hl : PE X e tl) : PI X tg e (iSeq X.K tl) := by
  refine ⟨fun pins st σ H Rr In hw => thn (hl.run pins st σ H _ In hw) fun u st1 ⟨y, Hn, Jn, ry, a, ey, q⟩ => ?_⟩
  subst ey
  cases ry
  have newRec : ∀ (n : String) (dt : Data), Inv X pins σ Hn { st1 with heap := st1.heap.push { cls := .type n, data := dt } } := fun n dt => Jn.kept (t' := st1.toks) fun _ _ z => Heap.get?_push_of_some _ z
  have newOk : ∀ b ∈ [st1.heap.objs.size], FpOk X pins Hn b := fun b hb => by
    rw [List.mem_singleton.mp hb]
    exact Jn.fpOk (Nat.le_refl _) (Jn.hok.fresh (Nat.le_refl _))
  rcases q with ⟨xs, hq, q⟩ | ⟨xs, hq, q⟩
  · obtain ⟨its, _, pl, _⟩ := Jn.list hq
    exact wpAny_pyIter_list pl.isList ⟨st1.heap.objs.size, [st1.heap.objs.size], _, _, Hn, rfl, newRec _ _, turn_list a _, ⟨_, Heap.get?_push_size _ rfl, rfl, rfl⟩, newOk, q⟩
  · obtain ⟨its, _, pt, _⟩ := Jn.tuple hq
    exact wpAny_pyIter_tuple (show st1.heap.IsTuple a its.toArray from pt) ⟨st1.heap.objs.size, [st1.heap.objs.size], _, _, Hn, rfl, newRec _ _, turn_tuple a _, ⟨_, Heap.get?_push_size _ rfl, rfl, rfl⟩, newOk, q⟩
/-- the items of a list or a tuple -/
def items (x : Dv) (Q : List Dv → Prop) : Prop := match x.d with
  | .lst ds => Q (ds.map fun d => ⟨d, x.fr, none⟩)
  | .tup ds => Q (ds.map fun d => ⟨d, x.fr, none⟩)
  | _ => False
theorem Rp.lstR {F : Fx} {R : Reg} {H : Hp} {x : Dv} {v : V} {ds : List D} (h : Rp F H R x v) (e : x.d = .lst ds) : ∃ a vs, v = .ref a ∧ H a = some (.lst vs) ∧ R a ∧ RpL F H R x.fr vs ds := by
  have r := h.fr
  rw [e] at r
  cases r with
  | lst h1 h2 _ t => exact ⟨_, _, rfl, h1, h2, t⟩
theorem di_seq (he : DE X E c e fe) : DI X E c tg e (fun ρ XQ Q => fe ρ XQ fun x => items x Q) := by
  obtain ⟨t, p, s⟩ := he
  refine ⟨_, pi_seq p, fun F B R H σ ρ α XQ Q K hK hX hB S h k => ?_⟩
  refine s F B R H σ ρ α XQ _ _ hK hX hB S h fun v x R' H' e' o' r' q' => ?_
  unfold items at q'
  obtain ⟨d, n, vo⟩ := x
  cases d <;> try exact q'.elim
  case lst ds =>
    obtain ⟨a, vs, rfl, ha, hr, la⟩ := r'.lstR rfl
    exact ⟨a, rfl, .inl ⟨vs, .of ha, k _ _ R' H' e' o' q' (walks_list ha hr la)⟩⟩
  case tup ds =>
    obtain ⟨a, vs, rfl, ha, la⟩ := r'.tupL rfl
    exact ⟨a, rfl, .inr ⟨vs, hK ▸ ha, hK ▸ k _ _ R' H' e' o' q' (walks_tup ha la)⟩⟩
/-- lo, lo + 1, .. : n ints -/
def rgD (lo : Int) (n : Nat) : List Dv := (List.range n).map fun i => ⟨.int (lo + (i : Nat)), true, none⟩
theorem walks_range {F : Fx} {R : Reg} {H : Hp} {lo : Int} {n : Nat} : Walks F R H (Itr lo n) (rgD lo n) := fun i B R' H' z o => by
  unfold rgD
  refine ⟨fun hl => by rw [hl, List.length_map, List.length_range]; exact Nat.le_refl _, fun x hx => ?_⟩
  rw [List.getElem?_map] at hx
  by_cases hi : i < n
  · rw [List.getElem?_range hi] at hx
    cases hx
    refine ⟨hi, fun u H'' ⟨e1, e2⟩ => ?_⟩
    subst e1 e2
    exact ⟨R', .refl, o, .of (.int _)⟩
  · rw [List.getElem?_eq_none (by rw [List.length_range]; omega)] at hx
    cases hx
theorem di_range1 {p2 : Pos} (hg : Gl X "range") (hm : X.mg "range" = none) (ha : DA X E c [a] fs) (hs : starEach [a] X.env = [(false, eval a X.env)] := by rfl) :
    DI X E c tg (.Call (.Name "range" p) [a] [] p2) (fun ρ XQ Q => fs ρ XQ fun xs => match xs with | [x] => (match x.d with | .int j => -(2 ^ 62) ≤ j ∧ j < 2 ^ 62 ∧ Q (rgD 0 j.toNat) | _ => False) | _ => False) := by
  obtain ⟨t, pt, s⟩ := ha
  refine ⟨_, pi_range1 hg hm pt hs, fun F B R H σ ρ α XQ Q K hK hX hB S h k => ?_⟩
  refine s F B R H σ ρ α XQ _ _ hK hX hB S h fun vs xs R' H' e' o' r' q' => ?_
  match xs, vs, r', q' with
  | [⟨d, n, vo⟩], [v], .cons r1 .nil, q' =>
    cases d <;> try exact q'.elim
    have r2 := r1.1
    cases r2
    exact ⟨_, rfl, q'.1, q'.2.1, k _ _ R' H' e' o' q'.2.2 walks_range⟩
theorem di_range2 {p2 : Pos} (hg : Gl X "range") (hm : X.mg "range" = none) (ha : DA X E c [a, b] fs) (hs : starEach [a, b] X.env = [(false, eval a X.env), (false, eval b X.env)] := by rfl) (hs2 : starEach [b] X.env = [(false, eval b X.env)] := by rfl) :
    DI X E c tg (.Call (.Name "range" p) [a, b] [] p2) (fun ρ XQ Q => fs ρ XQ fun xs => match xs with | [x, y] => (match x.d, y.d with | .int i, .int j => (-(2 ^ 62) ≤ i ∧ i < 2 ^ 62 ∧ -(2 ^ 62) ≤ j ∧ j < 2 ^ 62) ∧ Q (rgD i (j - i).toNat) | _, _ => False) | _ => False) := by
  obtain ⟨t, pt, s⟩ := ha
  refine ⟨_, pi_range2 hg hm pt hs hs2, fun F B R H σ ρ α XQ Q K hK hX hB S h k => ?_⟩
  refine s F B R H σ ρ α XQ _ _ hK hX hB S h fun vs xs R' H' e' o' r' q' => ?_
  match xs, vs, r', q' with
  | [⟨d, n, vo⟩, ⟨d2, n2, vo2⟩], [v, u], .cons r1 (.cons r2 .nil), q' =>
    cases d <;> cases d2 <;> try exact q'.elim
    have z1 := r1.1
    have z2 := r2.1
    cases z1; cases z2
    exact ⟨_, _, rfl, q'.1, k _ _ R' H' e' o' q'.2 walks_range⟩
end
end DL

set_option Elab.async false
set_option linter.all false
set_option maxRecDepth 100000
set_option maxHeartbeats 4000000
/-! DL, part g: list comprehensions. -/
namespace DL
open PySem PySem.Spec PyProof.Rows L2

/-- the tests of a comprehension -/
def DTs (X : Cx) (E : XK) (c : Nat) (es : List Expr) (f : TDt) : Prop := ∃ t : TT, PTs X es t ∧ ∀ F B R H σ ρ α XQ Q (K : Bool → Hp → Prop), F.K = X.K → XLink F E XQ → B + c ≤ F.L → StOk F B R H σ ρ α → f ρ XQ Q →
  (∀ b R' H', Ext F R H R' H' → HpOk F (B + c) R' H' → Q b → K b H') → t σ H K
/-- nothing is raised -/
abbrev XQ0 : XQT := fun _ _ _ => False
theorem xlink0 {F : Fx} {E : XK} : XLink F E XQ0 := ⟨fun _ _ h => h.elim, fun _ _ _ _ _ h => h.elim⟩
/-- slots forgotten -/
def wipeR (ρ : Ro) : List Nat → Ro
  | [] => ρ
  | v :: vs => (wipeR ρ vs).set v .un
theorem wipeR_len (ρ : Ro) : ∀ vs, (wipeR ρ vs).length = ρ.length
  | [] => rfl
  | v :: vs => by unfold wipeR; rw [List.length_set, wipeR_len ρ vs]
theorem wipeR_get {ρ : Ro} {i : Nat} {x : Sl} (hx : x ≠ .un) : ∀ {vs : List Nat}, (wipeR ρ vs)[i]? = some x → ρ[i]? = some x ∧ i ∉ vs
  | [], h => ⟨h, by simp⟩
  | v :: vs, h => by
    unfold wipeR at h
    rcases set_get h with ⟨_, z⟩ | ⟨ne, h⟩
    · exact absurd z hx
    · obtain ⟨a, b⟩ := wipeR_get hx h
      exact ⟨a, fun z => (List.mem_cons.mp z).elim ne b⟩
theorem wipe_get {σ : L2.St} {i : Nat} : ∀ {vs : List Nat}, i ∉ vs → (wipe σ vs)[i]? = σ[i]?
  | [], _ => rfl
  | v :: vs, h => by
    show ((wipe σ vs).set v none)[i]? = _
    rw [List.getElem?_set_ne (fun z => h (by simp [z])), wipe_get fun z => h (List.mem_cons_of_mem _ z)]
theorem wipe_in {σ : L2.St} {i : Nat} : ∀ {vs : List Nat}, i ∈ vs → (wipe σ vs)[i]? = if i < σ.length then some none else none
  | [], h => by cases h
  | v :: vs, h => by
    show ((wipe σ vs).set v none)[i]? = _
    by_cases e : i = v
    · rw [e, List.getElem?_set]
      rw [if_pos rfl]
      simp [L2.wipe_length]
    · rw [List.getElem?_set_ne (Ne.symm e)]
      exact wipe_in ((List.mem_cons.mp h).resolve_left e)
theorem wipe_eq {σ σ' : L2.St} {l vs : List Nat} (h : SetOnly l σ σ') (hl : ∀ i ∈ l, i ∈ vs) : wipe σ' vs = wipe σ vs := by
  apply List.ext_getElem?
  intro i
  by_cases hi : i ∈ vs
  · rw [wipe_in hi, wipe_in hi, h.1]
  · rw [wipe_get hi, wipe_get hi]
    exact h.2 i fun z => hi (hl i z)
theorem wipe_wipe (σ : L2.St) (vs : List Nat) : wipe (wipe σ vs) vs = wipe σ vs := by
  apply List.ext_getElem?
  intro i
  by_cases hi : i ∈ vs
  · rw [wipe_in hi, wipe_in hi, L2.wipe_length]
  · rw [wipe_get hi]
theorem StOk.wipe {F : Fx} {B : Nat} {R : Reg} {H : Hp} {σ : L2.St} {ρ : Ro} {α : Nat → Addr} (S : StOk F B R H σ ρ α) (vs : List Nat) : StOk F B R H (wipe σ vs) (wipeR ρ vs) α :=
  ⟨S.hp, by rw [L2.wipe_length, wipeR_len]; exact S.len, fun i x h => by
    obtain ⟨a, b⟩ := wipeR_get (fun z => by cases z) h
    obtain ⟨v, e, r⟩ := S.va i x a
    exact ⟨v, by rw [wipe_get b]; exact e, r⟩, fun i d n h => by
    obtain ⟨a, b⟩ := wipeR_get (fun z => by cases z) h
    obtain ⟨e, r⟩ := S.ow i d n a
    exact ⟨by rw [wipe_get b]; exact e, r⟩, fun i j d n d' n' h k => S.dis i j d n d' n' (wipeR_get (fun z => by cases z) h).1 (wipeR_get (fun z => by cases z) k).1⟩

/-- an object that is not frozen is put -/
theorem HpOk.put {F : Fx} {B : Nat} {R : Reg} {H : Hp} {a : Addr} {o : HO} (I : HpOk F B R H) (nr : ¬ R a) (nm : ¬ F.mx a) (n0 : Nn F.H0 a) {u0 : HO} (hu : H a = some u0) (pu : Plain u0) (nt : NoTbl o) : HpOk F B R (upd H a o) :=
  ⟨inv_upd I.inv nm, fun b r => by
    have ne : b ≠ a := fun z => nr (z ▸ r)
    rw [upd_ne ne]
    exact I.good b r, fun b u m e t => by rw [upd_ne (ne_of_nn e t n0)]; exact I.ent b u m e t, fun b e => by
    by_cases z : b = a
    · rw [z]; exact n0
    · exact I.ent2 b fun u q => e u (by rw [upd_ne z]; exact q), I.reg0, tab_put I.tab hu pu, I.lim, fun b e => by
    by_cases z : b = a
    · subst z; exact absurd nt (e o upd_same)
    · exact I.pn b fun u q => e u (by rw [upd_ne z]; exact q)⟩
theorem Fz.put {F : Fx} {R : Reg} {H : Hp} {a : Addr} {o u : HO} (nr : ¬ R a) (h : H a = some u) (nt : ∀ xs, u ≠ .tup xs) (nf : ∀ ob w, u ≠ .frz ob w) : Fz F R H R (upd H a o) :=
  ⟨fun _ r => r, fun b w r e _ => by rw [upd_ne (fun z : b = a => nr (z ▸ r))]; exact e, fun b vs q => by
    have ne : ∀ w, H b = some w → ((∃ xs, w = .tup xs) ∨ ∃ ob x, w = .frz ob x) → b ≠ a := fun w e k z => by
      subst z
      rw [h] at e
      cases e
      rcases k with ⟨xs, k⟩ | ⟨ob, x, k⟩
      · exact nt xs k
      · exact nf ob x k
    rcases q with (q | ⟨ob, q⟩) | q
    · exact .inl (.inl (by rw [upd_ne (ne _ q (.inl ⟨_, rfl⟩))]; exact q))
    · exact .inl (.inr ⟨ob, by rw [upd_ne (ne _ q (.inr ⟨_, _, rfl⟩))]; exact q⟩)
    · exact .inr q⟩

/-- what a comprehension makes -/
def lcGo (gt : TDG) (ft : TDt) (fe : TD) (ρw : Ro) (Q : Dv → Prop) : List Dv → List D → Bool → Prop
  | [], acc, n => Q ⟨.lst acc, n, none⟩
  | x :: xs, acc, n => gt x ρw fun ρ2 => ft ρ2 XQ0 fun b => if b = true then fe ρ2 XQ0 fun y => lcGo gt ft fe ρw Q xs (acc ++ [y.d]) (n && y.fr) else lcGo gt ft fe ρw Q xs acc n
section
variable {X : Cx} {E : XK} {c ca cb cc ci ct ce : Nat} {a b e tg iter elt : Expr} {es : List Expr} {fa fb fe : TD} {fi : TDs} {fs : TDs} {ft : TDt} {pos p : Pos} {x : Str}
theorem dts_nil : DTs X E 0 [] (fun _ _ Q => Q true) := ⟨_, pts_nil, fun F B R H σ ρ α XQ Q K _ _ _ S h k => k true R H .refl S.hp h⟩
theorem dts_one (h : DT X E c e ft) : DTs X E c [e] ft := by
  obtain ⟨t, p, s⟩ := h
  exact ⟨t, pts_one p, s⟩
theorem dn_lc_of {own : List (Str × Nat)} {l : List Nat} {gt : TDG} {wi : TI} {g : TG} {tt : TT} {te : TE}
    (si : ∀ F B R H σ ρ α XQ Q (K : It → Hp → Prop), F.K = X.K → XLink F E XQ → B + ci ≤ F.L → StOk F B R H σ ρ α → fi ρ XQ Q → (∀ J xs R' H', Ext F R H R' H' → HpOk F (B + ci) R' H' → Q xs → Walks F R' H' J xs → K J H') → wi σ H K)
    (sg : ∀ F B R H σ ρ α v x Q (K : L2.St → Hp → Prop), F.K = X.K → StOk F B R H σ ρ α → Rp F H R x v → gt x ρ Q → (∀ σ' ρ', StOk F B R H σ' ρ' α → SetOnly l σ σ' → Q ρ' → K σ' H) → g v σ H K)
    (st : ∀ F B R H σ ρ α XQ Q (K : Bool → Hp → Prop), F.K = X.K → XLink F E0 XQ → B + ct ≤ F.L → StOk F B R H σ ρ α → ft ρ XQ Q → (∀ b R' H', Ext F R H R' H' → HpOk F (B + ct) R' H' → Q b → K b H') → tt σ H K)
    (se : ∀ F B R H σ ρ α XQ Q (K : VK), F.K = X.K → XLink F E0 XQ → B + ce ≤ F.L → StOk F B R H σ ρ α → fe ρ XQ Q → (∀ v x R' H', Ext F R H R' H' → HpOk F (B + ce) R' H' → Rp F H' R' x v → Q x → K v H') → te σ H K)
    (hl : ∀ i ∈ l, i ∈ own.map (·.2)) :
    ∀ F B R H σ ρ α XQ Q (K : VK), F.K = X.K → XLink F E XQ → B + (ci + BIG * (ct + ce)) ≤ F.L → StOk F B R H σ ρ α → (fi ρ XQ fun xs => xs.length ≤ BIG ∧ lcGo gt ft fe (wipeR ρ (own.map (·.2))) Q xs [] true) →
      (∀ a d n R' H', Ext F R H R' H' → HpOk F (B + (ci + BIG * (ct + ce))) R' H' → Own F H' R' a d n → Nn H a → Q ⟨d, n, none⟩ → K (.ref a) H') → tLc wi g tt te (own.map (·.2)) σ H K := fun F B R H σ ρ α XQ Q K hK hX hB S h k => by
  refine si F B R H σ ρ α XQ _ _ hK hX (by omega) S h fun J xs R1 H1 e1 o1 ⟨hz, q⟩ w => fun D hD => ?_
  have n0 := o1.ent2 D (.of hD)
  have nm := mx_none o1.inv hD
  have nr := not_frozen o1 hD
  have S1 := S.ext e1 o1
  have le : ∀ i, i ≤ xs.length → i * (ct + ce) ≤ BIG * (ct + ce) := fun i hi => Nat.mul_le_mul_right _ (Nat.le_trans hi hz)
  -- the turn's state
  refine ⟨fun i m H' => m = xs.length - i ∧ i ≤ xs.length ∧ ∃ R' acc accD n, acc.length ≤ i ∧ H' D = some (.lst acc) ∧ ¬ R' D ∧ Ext F R1 H1 R' H' ∧ HpOk F (B + ci + i * (ct + ce)) R' H' ∧ RpL F H' R' n acc accD ∧ lcGo gt ft fe (wipeR ρ (own.map (·.2))) Q (xs.drop i) accD n,
    ⟨_, rfl, Nat.zero_le _, R1, [], [], true, Nat.le_refl _, upd_same, nr, .new0 hD, by simpa using o1.new0 hD .lst, .nil, by simpa using q⟩, ?_⟩
  rintro i m H' ⟨rfl, hi, R', acc, accD, n, hacc, hH, nR, e2, o2, la, q⟩
  have zf : Fz F R1 H1 R' H' := e2.fz o1
  by_cases hlt : i < xs.length
  · refine .inr ?_
    have hx : xs[i]? = some xs[i] := by simp [hlt]
    obtain ⟨go, yl⟩ := (w i _ R' H' zf o2).2 _ hx
    rw [List.drop_eq_getElem_cons hlt] at q
    refine ⟨go, fun H2 => ∃ R2 acc2 accD2 n2, acc2.length ≤ i + 1 ∧ H2 D = some (.lst acc2) ∧ ¬ R2 D ∧ Ext F R1 H1 R2 H2 ∧ HpOk F (B + ci + (i + 1) * (ct + ce)) R2 H2 ∧ RpL F H2 R2 n2 acc2 accD2 ∧ lcGo gt ft fe (wipeR ρ (own.map (·.2))) Q (xs.drop (i + 1)) accD2 n2, fun H2 q2 => ⟨_, by omega, rfl, hlt, q2⟩, fun v H'' y => ?_⟩
    obtain ⟨R'', ex, ox, rx⟩ := yl v H'' y
    have S3 : StOk F (B + ci + i * (ct + ce)) R'' H'' (wipe σ (own.map (·.2))) (wipeR ρ (own.map (·.2))) α := ((S1.ext e2 o2).ext ex ox).wipe _
    have hD2 : H'' D = some (.lst acc) := ex.keep D _ nm hH .lst
    have nR2 : ¬ R'' D := fun z => (ex.new D z).elim nR fun z => z _ hH .lst
    have le2 := le (i + 1) hlt
    have e3 : B + ci + (i + 1) * (ct + ce) = B + ci + i * (ct + ce) + ct + ce := by rw [Nat.add_mul, Nat.one_mul]; omega
    refine sg F _ R'' H'' _ _ α v _ _ _ hK S3 rx q fun σ4 ρ4 S4 so q4 => ⟨?_, ?_⟩
    · rw [wipe_eq so hl, wipe_wipe]
    refine st F _ R'' H'' σ4 ρ4 α XQ0 _ _ hK xlink0 (by omega) S4 q4 fun bb R5 H5 e5 o5 q5 => ?_
    have hD5 : H5 D = some (.lst acc) := e5.keep D _ nm hD2 .lst
    have nR5 : ¬ R5 D := fun z => (e5.new D z).elim nR2 fun z => z _ hD2 .lst
    have e15 := (e2.trans ex).trans e5
    cases bb with
    | true =>
      refine se F _ R5 H5 σ4 ρ4 α XQ0 _ _ hK xlink0 (by omega) (S4.ext e5 o5) q5 fun u y R6 H6 e6 o6 r6 q6 => ?_
      have hD6 : H6 D = some (.lst acc) := e6.keep D _ nm hD5 .lst
      have nR6 : ¬ R6 D := fun z => (e6.new D z).elim nR5 fun z => z _ hD5 .lst
      have fz6 : Fz F R6 H6 R6 (upd H6 D (.lst (acc ++ [u]))) := Fz.put nR6 hD6 (fun _ z => nomatch z) fun _ _ z => nomatch z
      have la6 : RpL F H6 R6 n acc accD := la.fz (((ex.fz o2).trans (e5.fz ox)).trans (e6.fz o5))
      have e16 := e15.trans e6
      refine ⟨acc, hD6, lt_line (by omega), R6, acc ++ [u], accD ++ [y.d], n && y.fr, by rw [List.length_append, List.length_cons, List.length_nil]; omega, upd_same, nR6, ⟨e16.reg, fun b o m hb nt => by
        rw [upd_ne (ne_of_none hb hD)]
        exact e16.keep b o m hb nt, e16.new, fun b hb => ?_⟩, by rw [e3]; exact o6.put nR6 nm n0 hD6 .lst .lst, ((la6.weak and_l).app (.cons (r6.fr.weak and_r) .nil)).fz fz6, q6⟩
      by_cases z : b = D
      · rw [z]; exact .of hD
      · exact e16.there b fun u q => hb u (by rw [upd_ne z]; exact q)
    | false =>
      exact ⟨R5, acc, accD, n, by omega, hD5, nR5, e15, o5.mono (by omega), la.fz ((ex.fz o2).trans (e5.fz ox)), q5⟩
  · have hle : i = xs.length := by omega
    refine .inl ⟨(w i _ R' H' zf o2).1 hle, ?_⟩
    rw [hle, List.drop_length] at q
    refine k D (.lst accD) n R' H' ⟨fun a r => e2.reg a (e1.reg a r), fun a o m ha nt => e2.keep a o m (e1.keep a o m ha nt) nt, fun a r => (e2.new a r).elim (e1.new a) fun z => .inr (e1.there a z), fun a z => e1.there a (e2.there a z)⟩ (o2.mono (by have := le i hi; omega)) ⟨nR, nm, n0, o1.pn D (.of hD), ⟨acc, hH, la⟩⟩ (e1.there D (.of hD)) q
theorem dn_lc {scope : Scope} {own : List (Str × Nat)} {l : List Nat} {gt : TDG} (hc : X.calm = true) (hN : X.N.Nodup) (hi : DI X E ci tg iter fi) {ifs : List Expr} (ok : BlkOk X.N X.env.scope scope own)
    (hg : ∀ s H C cl fp, DG (X.blk s H scope (compEnvC scope cl C X.env) fp) l tg gt) (ht : ∀ s H C cl fp, DTs (X.blk s H scope (compEnvC scope cl C X.env) fp) E0 ct ifs ft) (he : ∀ s H C cl fp, DE (X.blk s H scope (compEnvC scope cl C X.env) fp) E0 ce elt fe)
    (hl : ∀ i ∈ l, i ∈ own.map (·.2)) (hs : ∀ x, foldedSetIterable iter X.env x = pure x := by intro _; rfl) :
    DN X E (ci + BIG * (ct + ce)) (.ListComp elt [⟨tg, iter, ifs, 0⟩] scope pos) (fun ρ XQ Q => fi ρ XQ fun xs => xs.length ≤ BIG ∧ lcGo gt ft fe (wipeR ρ (own.map (·.2))) Q xs [] true) := by
  obtain ⟨wi, pi, si⟩ := hi
  have hG : ∃ g : TG, (∀ s H C cl fp, PG (X.blk s H scope (compEnvC scope cl C X.env) fp) tg g) ∧ ∀ F B R H σ ρ α v x Q (K : L2.St → Hp → Prop), F.K = X.K → StOk F B R H σ ρ α → Rp F H R x v → gt x ρ Q → (∀ σ' ρ', StOk F B R H σ' ρ' α → SetOnly l σ σ' → Q ρ' → K σ' H) → g v σ H K :=
    ⟨fun v σ H Q => ∀ s H0 C cl fp, (hg s H0 C cl fp).choose v σ H Q, fun s H C cl fp => ⟨fun pins s' σ H' v u Q I r q => (hg s H C cl fp).choose_spec.1.run pins s' σ H' v u Q I r (q s H C cl fp)⟩,
      fun F B R H σ ρ α v x Q K hK S r q k s H0 C cl fp => (hg s H0 C cl fp).choose_spec.2 F B R H σ ρ α v x Q K hK S r q k⟩
  have hT : ∃ tt : TT, (∀ s H C cl fp, PTs (X.blk s H scope (compEnvC scope cl C X.env) fp) ifs tt) ∧ ∀ F B R H σ ρ α XQ Q (K : Bool → Hp → Prop), F.K = X.K → XLink F E0 XQ → B + ct ≤ F.L → StOk F B R H σ ρ α → ft ρ XQ Q → (∀ b R' H', Ext F R H R' H' → HpOk F (B + ct) R' H' → Q b → K b H') → tt σ H K :=
    ⟨fun σ H Q => ∀ s H0 C cl fp, (ht s H0 C cl fp).choose σ H Q, fun s H C cl fp => ⟨fun pins s' σ H' Q I q => (ht s H C cl fp).choose_spec.1.run pins s' σ H' Q I (q s H C cl fp)⟩,
      fun F B R H σ ρ α XQ Q K hK hX hB S q k s H0 C cl fp => (ht s H0 C cl fp).choose_spec.2 F B R H σ ρ α XQ Q K hK hX hB S q k⟩
  have hE : ∃ te : TE, (∀ s H C cl fp, PE (X.blk s H scope (compEnvC scope cl C X.env) fp) elt te) ∧ ∀ F B R H σ ρ α XQ Q (K : VK), F.K = X.K → XLink F E0 XQ → B + ce ≤ F.L → StOk F B R H σ ρ α → fe ρ XQ Q → (∀ v x R' H', Ext F R H R' H' → HpOk F (B + ce) R' H' → Rp F H' R' x v → Q x → K v H') → te σ H K :=
    ⟨fun σ H Q => ∀ s H0 C cl fp, (he s H0 C cl fp).choose σ H Q, fun s H C cl fp => ⟨fun pins s' σ H' Q I q => (he s H C cl fp).choose_spec.1.run pins s' σ H' Q I (q s H C cl fp)⟩,
      fun F B R H σ ρ α XQ Q K hK hX hB S q k s H0 C cl fp => (he s H0 C cl fp).choose_spec.2 F B R H σ ρ α XQ Q K hK hX hB S q k⟩
  obtain ⟨g, pg, sg⟩ := hG
  obtain ⟨tt, pt, st⟩ := hT
  obtain ⟨te, pe, se⟩ := hE
  exact ⟨_, pe_lc hc hN pi ok pg pt pe hs, dn_lc_of si sg st se hl⟩
/-- y = [..] on one line -/
theorem ds_setLc (lf : List Nat) {i : Nat} {y : Str} {py spos : Pos} {scope : Scope} {own : List (Str × Nat)} {l : List Nat} {gt : TDG} (hc : X.calm = true) (hN : X.N.Nodup) (hy : X.N[i]? = some y) (hyl : X.env.scope.names.lookup y = some .local) {ifs : List Expr}
    (hsw : swapsWith (.ListComp elt [⟨tg, iter, ifs, 0⟩] scope pos) (some (.Name y py)) spos.line X.env = pure true) (hi : DI X E ci tg iter fi) (ok : BlkOk X.N X.env.scope scope own)
    (hg : ∀ s H C cl fp, DG (X.blk s H scope (compEnvC scope cl C X.env) fp) l tg gt) (ht : ∀ s H C cl fp, DTs (X.blk s H scope (compEnvC scope cl C X.env) fp) E0 ct ifs ft) (he : ∀ s H C cl fp, DE (X.blk s H scope (compEnvC scope cl C X.env) fp) E0 ce elt fe)
    (hl : ∀ i ∈ l, i ∈ own.map (·.2)) (hs : ∀ x, foldedSetIterable iter X.env x = pure x := by intro _; rfl) :
    DS X E (ci + BIG * (ct + ce)) (.Assign [.Name y py] (.ListComp elt [⟨tg, iter, ifs, 0⟩] scope pos) spos) (fun N ρ XQ => fi (frz lf ρ) XQ fun xs => xs.length ≤ BIG ∧ lcGo gt ft fe (wipeR (frz lf ρ) (own.map (·.2))) (fun x => N.nx ((frz lf ρ).set i (.va x))) xs [] true) := by
  obtain ⟨wi, pi, si⟩ := hi
  have hG : ∃ g : TG, (∀ s H C cl fp, PG (X.blk s H scope (compEnvC scope cl C X.env) fp) tg g) ∧ ∀ F B R H σ ρ α v x Q (K : L2.St → Hp → Prop), F.K = X.K → StOk F B R H σ ρ α → Rp F H R x v → gt x ρ Q → (∀ σ' ρ', StOk F B R H σ' ρ' α → SetOnly l σ σ' → Q ρ' → K σ' H) → g v σ H K :=
    ⟨fun v σ H Q => ∀ s H0 C cl fp, (hg s H0 C cl fp).choose v σ H Q, fun s H C cl fp => ⟨fun pins s' σ H' v u Q I r q => (hg s H C cl fp).choose_spec.1.run pins s' σ H' v u Q I r (q s H C cl fp)⟩,
      fun F B R H σ ρ α v x Q K hK S r q k s H0 C cl fp => (hg s H0 C cl fp).choose_spec.2 F B R H σ ρ α v x Q K hK S r q k⟩
  have hT : ∃ tt : TT, (∀ s H C cl fp, PTs (X.blk s H scope (compEnvC scope cl C X.env) fp) ifs tt) ∧ ∀ F B R H σ ρ α XQ Q (K : Bool → Hp → Prop), F.K = X.K → XLink F E0 XQ → B + ct ≤ F.L → StOk F B R H σ ρ α → ft ρ XQ Q → (∀ b R' H', Ext F R H R' H' → HpOk F (B + ct) R' H' → Q b → K b H') → tt σ H K :=
    ⟨fun σ H Q => ∀ s H0 C cl fp, (ht s H0 C cl fp).choose σ H Q, fun s H C cl fp => ⟨fun pins s' σ H' Q I q => (ht s H C cl fp).choose_spec.1.run pins s' σ H' Q I (q s H C cl fp)⟩,
      fun F B R H σ ρ α XQ Q K hK hX hB S q k s H0 C cl fp => (ht s H0 C cl fp).choose_spec.2 F B R H σ ρ α XQ Q K hK hX hB S q k⟩
  have hE : ∃ te : TE, (∀ s H C cl fp, PE (X.blk s H scope (compEnvC scope cl C X.env) fp) elt te) ∧ ∀ F B R H σ ρ α XQ Q (K : VK), F.K = X.K → XLink F E0 XQ → B + ce ≤ F.L → StOk F B R H σ ρ α → fe ρ XQ Q → (∀ v x R' H', Ext F R H R' H' → HpOk F (B + ce) R' H' → Rp F H' R' x v → Q x → K v H') → te σ H K :=
    ⟨fun σ H Q => ∀ s H0 C cl fp, (he s H0 C cl fp).choose σ H Q, fun s H C cl fp => ⟨fun pins s' σ H' Q I q => (he s H C cl fp).choose_spec.1.run pins s' σ H' Q I (q s H C cl fp)⟩,
      fun F B R H σ ρ α XQ Q K hK hX hB S q k s H0 C cl fp => (he s H0 C cl fp).choose_spec.2 F B R H σ ρ α XQ Q K hK hX hB S q k⟩
  obtain ⟨g, pg, sg⟩ := hG
  obtain ⟨tt, pt, st⟩ := hT
  obtain ⟨te, pe, se⟩ := hE
  refine ⟨_, ps_setLc hc hN hy hyl hsw pi ok pg pt pe hs, fun F B R H σ ρ α XQ N K hK hX hB S h k => ?_⟩
  obtain ⟨R1, S1, h1⟩ := S.frzs lf
  refine dn_lc_of si sg st se hl F B R1 H σ (frz lf ρ) α XQ _ _ hK hX hB S1 h fun a d n R' H' e' o' w hn q => ?_
  have z : Fz F R H R1 H := ⟨h1, fun _ _ _ h _ => h, fun _ _ h => h⟩
  have ee : Ext F R1 H (R'.add a) H' := ⟨fun x r => .inl (e'.reg x r), e'.keep, fun x r => r.elim (e'.new x) fun z => .inr (by rw [z]; exact hn), e'.there⟩
  exact k.nx _ H' _ (R'.add a) α (z.trans (ee.fz S1.hp)) ((S1.ext ee (o'.frz w)).setva i (.of (Ow.rp w))) q
end
end DL

set_option Elab.async false
set_option linter.all false
set_option maxRecDepth 100000
set_option maxHeartbeats 4000000
/-! DL, part h: zip, enumerate; own lists changed; calls of defs; defs. -/
namespace DL
open PySem PySem.Spec PyProof.Rows L2

section
variable {X : Cx} {E : XK} {c ca cb cc ci ct ce : Nat} {a b e tg iter elt : Expr} {es : List Expr} {fa fb fe : TD} {fi : TDs} {fs : TDs} {ft : TDt} {pos p : Pos} {x : Str}
/-! ### zip, enumerate -/
def zipD (n : Bool) : List D → List D → List Dv
  | x :: xs, y :: ys => ⟨.tup [x, y], n, none⟩ :: zipD n xs ys
  | _, _ => []
theorem zipD_get {n : Bool} : ∀ {xs ys : List D} {i : Nat} {z : Dv}, (zipD n xs ys)[i]? = some z → ∃ x y, xs[i]? = some x ∧ ys[i]? = some y ∧ z = ⟨.tup [x, y], n, none⟩
  | [], _, _, _, h => by simp [zipD] at h
  | _ :: _, [], _, _, h => by simp [zipD] at h
  | x :: xs, y :: ys, 0, z, h => by
    simp [zipD] at h
    exact ⟨x, y, rfl, rfl, h.symm⟩
  | x :: xs, y :: ys, i + 1, z, h => by
    obtain ⟨u, v, h1, h2, h3⟩ := zipD_get (i := i) (xs := xs) (ys := ys) (z := z) (by simpa [zipD] using h)
    exact ⟨u, v, by simpa using h1, by simpa using h2, h3⟩
theorem zipD_len {n : Bool} : ∀ xs ys : List D, (zipD n xs ys).length = min xs.length ys.length
  | [], _ => by simp [zipD]
  | _ :: _, [] => by simp [zipD]
  | x :: xs, y :: ys => by simp [zipD, zipD_len xs ys]
theorem walks_zip {F : Fx} {R : Reg} {H : Hp} {K : PySem.W.Frag} {a b : Addr} {n m : Bool} {vs us : List V} {ds es : List D} (ha : H a = some (.lst vs)) (ra : R a) (la : RpL F H R n vs ds) (hb : H b = some (.lst us)) (rb : R b) (lb : RpL F H R m us es) :
    Walks F R H (Itz K a b) (zipD (n && m) ds es) := fun i B R' H' z o => by
  have ha' := z.keep a _ ra ha .lst
  have hb' := z.keep b _ rb hb .lst
  have la' := la.fz z
  have lb' := lb.fz z
  refine ⟨fun hl => ⟨vs, us, .of ha', .of hb', ?_⟩, fun x hx => ?_⟩
  · rw [zipD_len] at hl
    rw [la.len, lb.len]
    omega
  · obtain ⟨d, e, h1, h2, rfl⟩ := zipD_get hx
    obtain ⟨v, hv, r⟩ := la'.get h1
    obtain ⟨u, hu, r2⟩ := lb'.get h2
    refine ⟨⟨vs, us, v, u, .of ha', .of hb', hv, hu⟩, fun w H'' ⟨T, x, y, e1, hT, e2, h3, h4⟩ => ?_⟩
    subst e1 e2
    rw [h3 vs (.of ha')] at hv
    rw [h4 us (.of hb')] at hu
    cases hv; cases hu
    obtain ⟨q1, q2, q3⟩ := new_tup (n := n && m) (vs := [v, u]) (ds := [d, e]) o hT (.cons (r.weak and_l) (.cons (r2.weak and_r) .nil))
    exact ⟨R', q1, q2, .of q3⟩
theorem walks_zipT {F : Fx} {R : Reg} {H : Hp} {a b : Addr} {n m : Bool} {vs us : List V} {ds es : List D} (ha : SqT F.K H a vs) (la : RpL F H R n vs ds) (hb : SqT F.K H b us) (lb : RpL F H R m us es) :
    Walks F R H (RZ.ItzT F.K a b) (zipD (n && m) ds es) := fun i B R' H' z o => by
  have ha' := z.tup a _ ha
  have hb' := z.tup b _ hb
  have la' := la.fz z
  have lb' := lb.fz z
  refine ⟨fun hl => ⟨vs, us, ha', hb', ?_⟩, fun x hx => ?_⟩
  · rw [zipD_len] at hl
    rw [la.len, lb.len]
    omega
  · obtain ⟨d, e, h1, h2, rfl⟩ := zipD_get hx
    obtain ⟨v, hv, r⟩ := la'.get h1
    obtain ⟨u, hu, r2⟩ := lb'.get h2
    refine ⟨⟨vs, us, v, u, ha', hb', hv, hu⟩, fun w H'' ⟨T, x, y, e1, hT, e2, h3, h4⟩ => ?_⟩
    subst e1 e2
    rw [h3 vs ha'] at hv
    rw [h4 us hb'] at hu
    cases hv; cases hu
    obtain ⟨q1, q2, q3⟩ := new_tup (n := n && m) (vs := [v, u]) (ds := [d, e]) o hT (.cons (r.weak and_l) (.cons (r2.weak and_r) .nil))
    exact ⟨R', q1, q2, .of q3⟩
def gZip (xs : List Dv) (Q : List Dv → Prop) : Prop := match xs with
  | [x, y] => (match x.d, y.d with
    | .lst ds, .lst es => Q (zipD (x.fr && y.fr) ds es)
    | .tup ds, .tup es => Q (zipD (x.fr && y.fr) ds es)
    | _, _ => False)
  | _ => False
theorem di_zip {elts : List Expr} {kk : Nat} {tpos : Pos} (hg : Gl X "zip") (hm : X.mg "zip" = none) (ha : DA X E c [a, b] fs) (hs : starEach [a, b] X.env = (false, eval a X.env) :: starEach [b] X.env := by rfl) (hpl : (backTo pos (starEach [b] X.env)).any (·.1) = false := by rfl) :
    DI X E c (.Tuple elts kk tpos) (.Call (.Name "zip" p) [a, b] [] pos) (fun ρ XQ Q => fs ρ XQ fun xs => gZip xs Q) := by
  obtain ⟨t, pt, s⟩ := ha
  refine ⟨_, RZ.pi_zipA hg hm pt hs hpl, fun F B R H σ ρ α XQ Q K hK hX hB S h k => ?_⟩
  refine s F B R H σ ρ α XQ _ _ hK hX hB S h fun vs xs R' H' e' o' r' q' => ?_
  match xs, vs, r', q' with
  | [⟨d, n, vo⟩, ⟨d2, n2, vo2⟩], [v, u], .cons r1 (.cons r2 .nil), q' =>
    cases d <;> cases d2 <;> try exact q'.elim
    case lst.lst ds es =>
      obtain ⟨a, vs, rfl, ha, ra, la⟩ := r1.lstR rfl
      obtain ⟨b, us, rfl, hb, rb, lb⟩ := r2.lstR rfl
      exact ⟨a, b, vs, us, rfl, .inl ⟨.of ha, .of hb, k _ _ R' H' e' o' q' (walks_zip ha ra la hb rb lb)⟩⟩
    case tup.tup ds es =>
      obtain ⟨a, vs, rfl, ha, la⟩ := r1.tupL rfl
      obtain ⟨b, us, rfl, hb, lb⟩ := r2.tupL rfl
      exact ⟨a, b, vs, us, rfl, .inr ⟨hK ▸ ha, hK ▸ hb, hK ▸ k _ _ R' H' e' o' q' (walks_zipT ha la hb lb)⟩⟩
def enumD (n : Bool) : Nat → List D → List Dv
  | _, [] => []
  | i, x :: xs => ⟨.tup [.int (i : Nat), x], n, none⟩ :: enumD n (i + 1) xs
theorem enumD_len {n : Bool} : ∀ (i : Nat) (xs : List D), (enumD n i xs).length = xs.length
  | _, [] => rfl
  | i, x :: xs => by simp [enumD, enumD_len (i + 1) xs]
theorem enumD_get {n : Bool} : ∀ {xs : List D} {j i : Nat} {z : Dv}, (enumD n j xs)[i]? = some z → ∃ x, xs[i]? = some x ∧ z = ⟨.tup [.int ((j + i : Nat) : Int), x], n, none⟩
  | [], _, _, _, h => by simp [enumD] at h
  | x :: xs, j, 0, z, h => by
    simp [enumD] at h
    exact ⟨x, rfl, by rw [← h]; rfl⟩
  | x :: xs, j, i + 1, z, h => by
    obtain ⟨u, h1, h3⟩ := enumD_get (xs := xs) (j := j + 1) (i := i) (z := z) (by simpa [enumD] using h)
    exact ⟨u, by simpa using h1, by rw [h3]; congr 3; simp; omega⟩
theorem walks_enum {F : Fx} {R : Reg} {H : Hp} {K : PySem.W.Frag} {a : Addr} {n : Bool} {vs : List V} {ds : List D} (ha : H a = some (.lst vs)) (ra : R a) (la : RpL F H R n vs ds) : Walks F R H (Ite K a) (enumD n 0 ds) := fun i B R' H' z o => by
  have ha' := z.keep a _ ra ha .lst
  have la' := la.fz z
  refine ⟨fun hl => ⟨vs, .of ha', ?_⟩, fun x hx => ?_⟩
  · rw [enumD_len] at hl
    rw [la.len]
    omega
  · obtain ⟨d, h1, rfl⟩ := enumD_get hx
    obtain ⟨v, hv, r⟩ := la'.get h1
    refine ⟨⟨vs, v, .of ha', hv⟩, fun w H'' ⟨T, x, e1, hT, e2, h3⟩ => ?_⟩
    subst e1 e2
    rw [h3 vs (.of ha')] at hv
    cases hv
    rw [Nat.zero_add]
    obtain ⟨q1, q2, q3⟩ := new_tup (n := n) (vs := [.int (i : Nat), v]) (ds := [.int (i : Nat), d]) o hT (.cons (.int _) (.cons r .nil))
    exact ⟨R', q1, q2, .of q3⟩
theorem di_enum {elts : List Expr} {kk : Nat} {tpos : Pos} (hg : Gl X "enumerate") (hm : X.mg "enumerate" = none) (ha : DA X E c [a] fs) (hs : starEach [a] X.env = [(false, eval a X.env)] := by rfl) :
    DI X E c (.Tuple elts kk tpos) (.Call (.Name "enumerate" p) [a] [] pos) (fun ρ XQ Q => fs ρ XQ fun xs => match xs with | [x] => (match x.d with | .lst ds => Q (enumD x.fr 0 ds) | _ => False) | _ => False) := by
  obtain ⟨t, pt, s⟩ := ha
  refine ⟨_, pi_enum hg hm pt hs, fun F B R H σ ρ α XQ Q K hK hX hB S h k => ?_⟩
  refine s F B R H σ ρ α XQ _ _ hK hX hB S h fun vs xs R' H' e' o' r' q' => ?_
  match xs, vs, r', q' with
  | [⟨d, n, vo⟩], [v], .cons r1 .nil, q' =>
    cases d <;> try exact q'.elim
    case lst ds =>
      obtain ⟨a, vs, rfl, ha, ra, la⟩ := r1.lstR rfl
      exact ⟨a, vs, rfl, .of ha, k _ _ R' H' e' o' q' (walks_enum ha ra la)⟩

/-! ### own lists changed -/
theorem StOk.setow {F : Fx} {B : Nat} {R : Reg} {H : Hp} {σ : L2.St} {ρ : Ro} {α : Nat → Addr} (S : StOk F B R H σ ρ α) {i : Nat} {ds : List D} {n : Bool} (h : ρ[i]? = some (.ow (.lst ds) n)) {vs : List V} {ds' : List D} {m : Bool} (l : RpL F H R m vs ds') :
    StOk F B R (upd H (α i) (.lst vs)) σ (ρ.set i (.ow (.lst ds') m)) α ∧ Fz F R H R (upd H (α i) (.lst vs)) := by
  obtain ⟨e, w⟩ := S.ow i _ _ h
  obtain ⟨us, hu, lu⟩ := w.at_
  have z : Fz F R H R (upd H (α i) (.lst vs)) := Fz.put w.nr hu (fun _ z => nomatch z) fun _ _ z => nomatch z
  refine ⟨⟨S.hp.put w.nr w.nm w.n0 hu .lst .lst, by rw [List.length_set]; exact S.len, fun j x hj => ?_, fun j d k hj => ?_, fun j k d1 n1 d2 n2 hj hk ea => ?_⟩, z⟩
  · rcases set_get hj with ⟨_, q⟩ | ⟨ne, hj'⟩
    · cases q
    · obtain ⟨v, e1, r⟩ := S.va j x hj'
      exact ⟨v, e1, r.fz z⟩
  · rcases set_get hj with ⟨ej, q⟩ | ⟨ne, hj'⟩
    · cases q
      rw [ej]
      exact ⟨e, w.nr, w.nm, w.n0, w.p0, ⟨vs, upd_same, l.fz z⟩⟩
    · obtain ⟨e1, w1⟩ := S.ow j d k hj'
      have na : α j ≠ α i := fun q => ne (S.dis j i _ _ _ _ hj' h q)
      refine ⟨e1, w1.nr, w1.nm, w1.n0, w1.p0, ?_⟩
      have q := w1.at_
      cases d with
      | lst ds => obtain ⟨ws, a, b⟩ := q; exact ⟨ws, by rw [upd_ne na]; exact a, b.fz z⟩
      | dct ds =>
        rcases q with ⟨ws, a, b⟩ | ⟨ws, a, b⟩
        · exact .inl ⟨ws, by rw [upd_ne na]; exact a, b.mv (z.mv fun z => z)⟩
        · exact .inr ⟨ws, by rw [upd_ne na]; exact a, b.mv (z.mv fun z => z)⟩
      | obj k ds => obtain ⟨dx, ws, a, l, b⟩ := q; exact ⟨dx, ws, by rw [upd_ne na]; exact a, l, b.fz z⟩
      | _ => exact q.elim
  · rcases set_get hj with ⟨ej, _⟩ | ⟨nj, hj'⟩ <;> rcases set_get hk with ⟨ek, _⟩ | ⟨nk, hk'⟩
    · rw [ej, ek]
    · rw [ej] at ea ⊢
      exact S.dis i k _ _ _ _ h hk' ea
    · rw [ek] at ea ⊢
      exact S.dis j i _ _ _ _ hj' h ea
    · exact S.dis j k _ _ _ _ hj' hk' ea
/-- x.append(e), x an own list -/
theorem ds_append (l : List Nat) {i : Nat} {p1 apos : Pos} (he : DE X E c e fe) (ps : ∀ te, PE X e te → PS X (.Expr (.Call (.Attribute (.Name x p1) "append" apos) [e] [] p) pos) (tDrop (tBM X.K "list" rAppend (tVar i) (tCons te tNil)))) :
    DS X E c (.Expr (.Call (.Attribute (.Name x p1) "append" apos) [e] [] p) pos) (fun N ρ XQ => (∃ ds n, ρ[i]? = some (.ow (.lst ds) n)) ∧ fe (frz l ρ) XQ fun y => ∃ ds n, (if y.d.sca = true then ρ else frz l ρ)[i]? = some (.ow (.lst ds) n) ∧ ds.length < BIG ∧ N.nx ((if y.d.sca = true then ρ else frz l ρ).set i (.ow (.lst (ds ++ [y.d])) (n && y.fr)))) := by
  obtain ⟨t, p, s⟩ := he
  refine ⟨_, ps t p, fun F B R H σ ρ α XQ N K hK hX hB S ⟨⟨ds0, n0, h0⟩, h⟩ k => ?_⟩
  obtain ⟨e0, w0⟩ := S.ow i _ _ h0
  obtain ⟨vs0, hv0, _⟩ := w0.at_
  refine ⟨_, e0, Or.inl ⟨rfl, _, SqL.of hv0⟩, ?_⟩
  refine run_frz (X := X) (E := E) (c := c) (Q := fun y ρ' => ∃ ds n, ρ'[i]? = some (.ow (.lst ds) n) ∧ ds.length < BIG ∧ N.nx (ρ'.set i (.ow (.lst (ds ++ [y.d])) (n && y.fr)))) s hK hX hB S h fun v y ρ' R' H' z S' r ⟨ds, n, h1, hl, q⟩ => ?_
  obtain ⟨e1, w1⟩ := S'.ow i _ _ h1
  have e2 : V.ref (α i) = V.ref (α i) := rfl
  obtain ⟨vs, hv, lv⟩ := w1.at_
  refine ⟨α i, vs, v, rfl, rfl, hv, lt_line (by rw [lv.len]; exact hl), ?_⟩
  obtain ⟨S2, z2⟩ := S'.setow h1 (vs := vs ++ [v]) (ds' := ds ++ [y.d]) (m := n && y.fr) ((lv.weak and_l).app (.cons (r.fr.weak and_r) .nil))
  exact k.nx σ _ _ R' α (z.trans z2) S2 q
/-- x.extend(e), x an own list, e a list -/
theorem ds_extend (l : List Nat) {i : Nat} {p1 apos : Pos} (he : DE X E c e fe) (ps : ∀ te, PE X e te → PS X (.Expr (.Call (.Attribute (.Name x p1) "extend" apos) [e] [] p) pos) (tDrop (tBM X.K "list" rExtend (tVar i) (tCons te tNil)))) :
    DS X E c (.Expr (.Call (.Attribute (.Name x p1) "extend" apos) [e] [] p) pos) (fun N ρ XQ => (∃ ds n, ρ[i]? = some (.ow (.lst ds) n)) ∧ fe (frz l ρ) XQ fun y => ∃ ds n es, (if y.d.sca = true then ρ else frz l ρ)[i]? = some (.ow (.lst ds) n) ∧ y.d = .lst es ∧ ds.length + es.length ≤ BIG ∧ N.nx ((if y.d.sca = true then ρ else frz l ρ).set i (.ow (.lst (ds ++ es)) (n && y.fr)))) := by
  obtain ⟨t, p, s⟩ := he
  refine ⟨_, ps t p, fun F B R H σ ρ α XQ N K hK hX hB S ⟨⟨ds0, n0, h0⟩, h⟩ k => ?_⟩
  obtain ⟨e0, w0⟩ := S.ow i _ _ h0
  obtain ⟨vs0, hv0, _⟩ := w0.at_
  refine ⟨_, e0, Or.inl ⟨rfl, _, SqL.of hv0⟩, ?_⟩
  refine run_frz (X := X) (E := E) (c := c) (Q := fun y ρ' => ∃ ds n es, ρ'[i]? = some (.ow (.lst ds) n) ∧ y.d = .lst es ∧ ds.length + es.length ≤ BIG ∧ N.nx (ρ'.set i (.ow (.lst (ds ++ es)) (n && y.fr)))) s hK hX hB S h fun v y ρ' R' H' z S' r ⟨ds, n, es, h1, ey, hl, q⟩ => ?_
  obtain ⟨e1, w1⟩ := S'.ow i _ _ h1
  obtain ⟨vs, hv, lv⟩ := w1.at_
  obtain ⟨b, us, rfl, hb, lb⟩ := r.lstL ey
  refine ⟨α i, b, vs, us, rfl, rfl, hv, hb, le_line (by rw [lv.len, lb.len]; exact hl), ?_⟩
  obtain ⟨S2, z2⟩ := S'.setow h1 (vs := vs ++ us) (ds' := ds ++ es) (m := n && y.fr) ((lv.weak and_l).app (lb.weak and_r))
  exact k.nx σ _ _ R' α (z.trans z2) S2 q

/-! ### defs -/
/-- a def's contract: the arguments' data, their values; what may be raised; what is wanted of the answer -/
abbrev DC := List D → List V → XQT → (Dv → Prop) → Prop
def spD (K : PySem.W.Frag) (np cost : Nat) (g : DC) : Sp := fun vs H Q Ex => vs.length = np ∧ ∃ (R : Reg) (st : Option (Addr × Addr)) (L B : Nat) (ds : List D) (XQ : XQT) (QD : Dv → Prop), HpOk ⟨K, H, R, st, L, Nn H⟩ B R H ∧ B + cost ≤ L ∧
  Paired (fun d v => RpD ⟨K, H, R, st, L, Nn H⟩ H R d.imm v d) ds vs ∧ g ds vs XQ QD ∧ XLink ⟨K, H, R, st, L, Nn H⟩ Ex XQ ∧
  ∀ v x R' H', Ext ⟨K, H, R, st, L, Nn H⟩ R H R' H' → HpOk ⟨K, H, R, st, L, Nn H⟩ (B + cost) R' H' → Rp ⟨K, H, R, st, L, Nn H⟩ H' R' x v → QD x → Q v H'
/-- the slots at a def's entry -/
def params (ds : List D) (vs : List V) (n : Nat) : Ro := (List.zipWith (fun d v => Sl.va ⟨d, d.imm, some v⟩) ds vs) ++ List.replicate n .un
abbrev FnD (P : Program) (w : World) (K : PySem.W.Frag) (mg : Str → Option Value) (base : Heap) (k : Nat) (f : Addr) (fd : FuncData) (ps : List Str) (cost : Nat) (g : DC) : Prop := FnOk P w K mg base (L2.CX P w) k f fd ps (spD K ps.length cost g)

mutual
theorem RpD.reI {F F' : Fx} (hK : F'.K = F.K) (hs : F'.st = F.st) {H : Hp} {R : Reg} : ∀ {n : Bool} {v : V} {d : D}, RpD F H R n v d → RpD F' H R d.imm v d
  | _, _, _, .non => .non
  | _, _, _, .bl b => .bl b
  | _, _, _, .int i => .int i
  | _, _, _, .str x => .str x
  | _, _, _, .lst h r _ t => .lst h r (fun z => nomatch z) (RpL.re0 hK hs t)
  | _, _, .tup ds, .tup h t => .tup (by rw [hK]; exact h) (RpL.reI hK hs t)
  | _, _, _, .dK h r _ t => .dK h r (fun z => nomatch z) (t.mv ⟨hK, fun _ z => by rw [hs]; exact z, fun _ _ r h _ => ⟨r, h⟩, fun _ _ h => h, fun z => nomatch z⟩)
  | _, _, _, .dT h r _ t => .dT h r (fun z => nomatch z) (t.mv ⟨hK, fun _ z => by rw [hs]; exact z, fun _ _ r h _ => ⟨r, h⟩, fun _ _ h => h, fun z => nomatch z⟩)
  | _, _, _, .strm e => .strm (by rw [hs]; exact e)
  | _, _, _, .vee v => .vee v
  | _, _, _, .obj h r _ c e t => .obj (by rw [hK]; exact h) r (fun z => nomatch z) c e (RpL.re0 hK hs t)
  | _, _, _, .bm h r _ t => .bm h r (fun z => nomatch z) ((RpD.reI hK hs t).weak fun z => nomatch z)
theorem RpL.reI {F F' : Fx} (hK : F'.K = F.K) (hs : F'.st = F.st) {H : Hp} {R : Reg} : ∀ {n : Bool} {v : List V} {d : List D}, RpL F H R n v d → RpL F' H R (D.immL d) v d
  | _, _, _, .nil => .nil
  | _, _, _, .cons a t => .cons ((RpD.reI hK hs a).weak and_l) ((RpL.reI hK hs t).weak and_r)
theorem RpL.re0 {F F' : Fx} (hK : F'.K = F.K) (hs : F'.st = F.st) {H : Hp} {R : Reg} : ∀ {n : Bool} {v : List V} {d : List D}, RpL F H R n v d → RpL F' H R false v d
  | _, _, _, .nil => .nil
  | _, _, _, .cons a t => .cons ((RpD.reI hK hs a).weak fun z => nomatch z) (RpL.re0 hK hs t)
end
theorem paired_re {F F' : Fx} (hK : F'.K = F.K) (hs : F'.st = F.st) {H : Hp} {R : Reg} : ∀ {xs : List Dv} {vs : List V}, Paired (fun x v => Rp F H R x v) xs vs → Paired (fun d v => RpD F' H R d.imm v d) (xs.map (·.d)) vs
  | _, _, .nil => .nil
  | _, _, .cons a t => .cons (a.1.reI hK hs) (paired_re hK hs t)
/-- concrete values as far as they are known -/
def Conc (x : Dv) (v : V) : Prop := (∀ u, x.v = some u → u = v) ∧ (match x.d with | .non => v = .non | .bl b => v = .bl b | .int i => v = .int i | .str s => v = .str s | _ => True)
theorem Rp.conc {F : Fx} {H : Hp} {R : Reg} {x : Dv} {v : V} (h : Rp F H R x v) : Conc x v := by
  refine ⟨h.2, ?_⟩
  have r := h.1
  generalize x.d = d at r
  cases r <;> first | rfl | trivial
theorem paired_conc {F : Fx} {H : Hp} {R : Reg} : ∀ {xs : List Dv} {vs : List V}, Paired (fun x v => Rp F H R x v) xs vs → Paired Conc xs vs
  | _, _, .nil => .nil
  | _, _, .cons a t => .cons a.conc (paired_conc t)
/-- a call told by its contract -/
def gCall (g : DC) : Ro → XQT → List Dv → (Dv → Prop) → Prop := fun _ XQ xs Q => ∀ vs, Paired Conc xs vs → g (xs.map (·.d)) vs XQ fun r => Q { r with v := none }
theorem call_core {ps : List Str} {cost : Nat} {g : DC} {F : Fx} {B : Nat} {R : Reg} {H : Hp} {vs : List V} {xs : List Dv} {XQ : XQT} {Q : Dv → Prop} {K : VK} (hK : F.K = X.K) (hX : XLink F E XQ) (hB : B + cost ≤ F.L) (o : HpOk F B R H) (r : Paired (fun x v => Rp F H R x v) xs vs) (hl : xs.length = ps.length) (q : gCall g [] XQ xs Q)
    (k : ∀ v x R' H', Ext F R H R' H' → HpOk F (B + cost) R' H' → Rp F H' R' x v → Q x → K v H') : spD X.K ps.length cost g vs H K E := by
  obtain ⟨FK, FH0, FR0, st, L, FP⟩ := F
  cases hK
  refine ⟨by rw [← hl]; exact (Paired.length r).symm, R, st, L, B, xs.map (·.d), XQ, _, ⟨o.inv, o.good, fun a u _ e _ => e, fun a e => e, fun a r => .inl r, o.tab, o.lim, fun a e => e⟩, hB, paired_re (F := ⟨X.K, FH0, FR0, st, L, FP⟩) (F' := ⟨X.K, H, R, st, L, Nn H⟩) rfl rfl r, q vs (paired_conc r), ⟨fun x v h => ⟨(hX.1 x v h).1, fun e => ?_⟩, ?_⟩, ?_⟩
  · obtain ⟨hs, a, ns, ea, sq, l⟩ := (hX.1 x v h).2 e
    exact ⟨hs, a, ns, ea, sq.keep fun o' u h' => o.ent a _ (fun ⟨p, ep, _⟩ => by rw [show st = none from hs] at ep; cases ep) h' .frz, l⟩
  · intro C f v dx H' hx hk ht hi hb hd
    exact hX.2 C f v dx H' hx (fun a u m e nt => hk a u m (o.ent a u m e nt) nt) (fun a e => o.ent2 a (ht a e)) hi hb hd
  · intro v x R' H' e' o' r' q'
    have n2 : ∀ a, Nn H a → Nn FH0 a := o.ent2
    have p2 : ∀ a, Nn H a → FP a := o.pn
    refine k v { x with v := none } R' H' ⟨e'.reg, e'.keep, e'.new, e'.there⟩ ⟨o'.inv, o'.good, fun a u m e nt => o'.ent a u m (o.ent a u m e nt) nt, fun a e => n2 a (o'.ent2 a e), fun a r => (o'.reg0 a r).elim (o.reg0 a) fun z => .inr (n2 a z), o'.tab, o'.lim, fun a e => p2 a (o'.pn a e)⟩ ?_ q'
    have mv : Mv ⟨X.K, H, R, st, L, Nn H⟩ R' H' ⟨X.K, FH0, FR0, st, L, FP⟩ R' H' x.n x.n := ⟨rfl, fun _ z => z, fun _ _ r h _ => ⟨r, h⟩, fun _ _ h => h, fun z a u _ _ _ w => p2 a (w z)⟩
    exact .of (r'.1.mv mv)
theorem de_call {k : Nat} {f : Addr} {fd : FuncData} {ps : List Str} {cost : Nat} {g : DC} (F : FnD X.prog X.w X.K X.mg X.base k f fd ps cost g) (hr : Room k X.A) (hg : Gl X x) (hm : X.mg x = some (.ref f)) (hk : PySem.W.keepIn X.K (.ref f) = true) (hb : Binds X.K fd ps [])
    (hx : Passes (L2.CX X.prog X.w) X E) (hn : (e :: es).length = ps.length) (ha : DA X E c (e :: es) fs) (hdb : (x == ("__debug__" : Str)) = false := by decide) (he : starEach (e :: es) X.env = (false, eval e X.env) :: starEach es X.env := by rfl) (hpl : (backTo pos (starEach es X.env)).any (·.1) = false := by rfl) :
    DE X E (c + cost) (.Call (.Name x p) (e :: es) [] pos) (fun ρ XQ Q => fs ρ XQ fun xs => xs.length = ps.length ∧ gCall g ρ XQ xs Q) := by
  obtain ⟨t, pt, s⟩ := ha
  refine ⟨_, pe_call F hr hg hm hk hb .nil hx pt hdb he hpl, fun F B R H σ ρ α XQ Q K hK hX hB S h k => ?_⟩
  refine s F B R H σ ρ α XQ _ _ hK hX (by omega) S h fun vs xs R' H' e' o' r' ⟨hl, q'⟩ => ?_
  rw [List.append_nil]
  exact call_core hK hX (by omega) o' r' hl q' fun v x R2 H2 e2 o2 r2 q2 => k v x R2 H2 (e'.trans e2) (by rw [← Nat.add_assoc]; exact o2) r2 q2
theorem start_get {ds : List D} {vs : List V} {F : Fx} {H : Hp} {R : Reg} (h : Paired (fun d v => RpD F H R d.imm v d) ds vs) (N : List Str) : ∀ (i : Nat) x, (params ds vs (N.length - vs.length))[i]? = some (.va x) → ∃ v, (L2.start N vs)[i]? = some (some v) ∧ Rp F H R x v := by
  intro i x hx
  unfold params at hx
  unfold L2.start
  have hl : (List.zipWith (fun d v => Sl.va ⟨d, d.imm, some v⟩) ds vs).length = vs.length := by rw [List.length_zipWith, Paired.length h, Nat.min_self]
  by_cases hi : i < vs.length
  · rw [List.getElem?_append_left (by rw [hl]; exact hi)] at hx
    rw [List.getElem?_append_left (by rw [List.length_map]; exact hi)]
    have : ∀ {ds : List D} {vs : List V} {i : Nat}, Paired (fun d v => RpD F H R d.imm v d) ds vs → (List.zipWith (fun d v => Sl.va ⟨d, d.imm, some v⟩) ds vs)[i]? = some (.va x) → ∃ v, (vs.map some)[i]? = some (some v) ∧ Rp F H R x v := by
      intro ds vs i h
      induction h generalizing i with
      | nil => intro q; simp at q
      | @cons d v ds vs a t ih =>
        intro q
        cases i with
        | zero =>
          simp at q
          refine ⟨v, rfl, ?_⟩
          rw [← q]
          exact ⟨a, fun u z => (Option.some.inj z).symm⟩
        | succ j =>
          obtain ⟨v, a, b⟩ := ih (i := j) (by simpa using q)
          exact ⟨v, by simpa using a, b⟩
    exact this h hx
  · rw [List.getElem?_append_right (by rw [hl]; omega)] at hx
    rw [List.getElem?_replicate] at hx
    split at hx <;> cases hx
theorem params_ow {ds : List D} {vs : List V} {n i : Nat} {d : D} {m : Bool} : (params ds vs n)[i]? ≠ some (.ow d m) := by
  intro h
  unfold params at h
  rcases List.mem_append.mp (List.mem_of_getElem? h) with z | z
  · rw [List.zipWith_eq_zipWith_take_min] at z
    obtain ⟨a, ha, e⟩ := List.mem_iff_getElem.mp z
    simp at e
  · rw [List.mem_replicate] at z
    cases z.2
end
/-- a def keeps its contract: its body's reading -/
theorem fn_ok {P : Program} {w : World} {K : PySem.W.Frag} {mg : Str → Option Value} {base : Heap} {x qual : Str} {pr : Arguments} {body : List Stmt} {scope : Scope} {f : Addr} {fd : FuncData} {N ps : List Str} {k cost : Nat} {g : DC} (F : FunD K x qual pr body scope [] [] f fd) (S : FnScope N ps scope)
    (hbody : ∀ (cdv : Value) (A : Around) (outer : List Env) (s : Shared) (H : Hp) (E : XK), Room k (A.deeper (envOfC qual scope s.heap.objs.size f cdv)) →
      ∃ (c : Nat) (gb : TDS), DSs (cxOf (L2.CX P w) P w K mg base N qual scope f cdv A outer s H E) E c body gb ∧ c ≤ cost ∧ ∀ ds vs XQ Q, ds.length = ps.length → vs.length = ps.length → g ds vs XQ Q → gb { nx := fun _ => Q ⟨.non, true, none⟩, rt := fun r => Q { r with v := none } } (params ds vs (N.length - vs.length)) XQ) : FnD P w K mg base (k + 1) f fd ps cost g := by
  refine F.ok S (fun vs H Q E h => h.1) (fun cdv A outer s H vs Q E hr h => ?_)
  obtain ⟨hl, R, st, L, B, ds, XQ, QD, o, hB, r, q, hX, k⟩ := h
  obtain ⟨c, gb, ⟨t, p, sm⟩, hc, hg⟩ := hbody cdv A outer s H E hr
  have hd : ds.length = ps.length := by rw [Paired.length r]; exact hl
  refine ⟨t, p, sm ⟨K, H, R, st, L, Nn H⟩ B R H (L2.start N vs) (params ds vs (N.length - vs.length)) (fun _ => 0) XQ _ _ rfl hX (show B + c ≤ L by omega) ⟨o, ?_, start_get r N, fun i d n z => absurd z params_ow, fun i j d n d' n' z => absurd z params_ow⟩ (hg ds vs XQ QD hd hl q) ?_⟩
  · unfold L2.start params
    rw [List.length_append, List.length_append, List.length_map, List.length_replicate, List.length_replicate, List.length_zipWith, hd, hl, Nat.min_self]
  have fin : ∀ {R' H'}, Fz ⟨K, H, R, st, L, Nn H⟩ R H R' H' → HpOk ⟨K, H, R, st, L, Nn H⟩ (B + cost) R' H' → Ext ⟨K, H, R, st, L, Nn H⟩ R H R' H' := fun z o' => ⟨z.reg, o'.ent, o'.reg0, o'.ent2⟩
  exact ⟨fun σ' H' ρ' R' α' z S' q' => k .non ⟨.non, true, none⟩ R' H' (fin z (S'.hp.mono (by omega))) (S'.hp.mono (by omega)) (.of .non) q', fun v x R' H' z o' r' q' => k v { x with v := none } R' H' (fin z (o'.mono (by omega))) (o'.mono (by omega)) (.of r'.1) q', fun _ _ _ _ _ _ _ q => q.elim, fun _ _ _ _ _ _ _ q => q.elim⟩
/-- what a callee raises passes out of the def -/
theorem passE {X : Cx} {E : XK} (tk : Takes X (fun cls d _ H => E cls d H)) : Passes (L2.CX X.prog X.w) X E := passes_call tk fun _ _ _ _ h => h
end DL

set_option Elab.async false
set_option linter.all false
set_option maxRecDepth 100000
set_option maxHeartbeats 4000000
/-! DL, part i: chains, signs, {} , constants of the module. -/
namespace DL
open PySem PySem.Spec PyProof.Rows L2
section
variable {X : Cx} {E : XK} {c ca cb cc : Nat} {a b e d : Expr} {es : List Expr} {fa fb fc fe : TD} {fs : TDs} {pos p : Pos} {x : Str}
theorem de_neg (ha : DE X E c a fa) : DE X E c (.UnaryOp .USub a pos) (fun ρ XQ Q => fa ρ XQ fun x => match x.d with | .int i => Q ⟨.int (-i), true, none⟩ | _ => False) := by
  obtain ⟨t, p, s⟩ := ha
  refine ⟨_, pe_un un_neg p, fun F B R H σ ρ α XQ Q K hK hX hB S h k => s F B R H σ ρ α XQ _ _ hK hX hB S h fun v x R' H' e' o' r' q' => ?_⟩
  obtain ⟨d, n, vo⟩ := x
  have r2 := r'.1
  cases d <;> try exact q'.elim
  case int i =>
    cases r2
    exact ⟨i, rfl, k _ _ R' H' e' o' (.of (.int _)) q'⟩
/-- a op b op' d -/
def gChain (g g' : GD2) (fc : TD) : Ro → XQT → Dv → Dv → (Dv → Prop) → Prop := fun ρ XQ x y Q => g x y fun z => ∃ k, z.d = .bl k ∧ if k = true then fc ρ XQ fun w => g' y w Q else Q ⟨.bl false, true, none⟩
theorem chain_core {r r' : R2} {g g' : GD2} (sr : ∀ F B R H v u x y Q (K : VK), F.K = X.K → HpOk F B R H → Rp F H R x v → Rp F H R y u → g x y Q → (∀ w z R' H', Ext F R H R' H' → HpOk F B R' H' → Rp F H' R' z w → Q z → K w H') → r v u H K)
    (sr' : ∀ F B R H v u x y Q (K : VK), F.K = X.K → HpOk F B R H → Rp F H R x v → Rp F H R y u → g' x y Q → (∀ w z R' H', Ext F R H R' H' → HpOk F B R' H' → Rp F H' R' z w → Q z → K w H') → r' v u H K)
    {ta tb tc : TE}
    (sa : ∀ F B R H σ ρ α XQ Q (K : VK), F.K = X.K → XLink F E XQ → B + ca ≤ F.L → StOk F B R H σ ρ α → fa ρ XQ Q → (∀ v x R' H', Ext F R H R' H' → HpOk F (B + ca) R' H' → Rp F H' R' x v → Q x → K v H') → ta σ H K)
    (sb : ∀ F B R H σ ρ α XQ Q (K : VK), F.K = X.K → XLink F E XQ → B + cb ≤ F.L → StOk F B R H σ ρ α → fb ρ XQ Q → (∀ v x R' H', Ext F R H R' H' → HpOk F (B + cb) R' H' → Rp F H' R' x v → Q x → K v H') → tb σ H K)
    (sc : ∀ F B R H σ ρ α XQ Q (K : VK), F.K = X.K → XLink F E XQ → B + cc ≤ F.L → StOk F B R H σ ρ α → fc ρ XQ Q → (∀ v x R' H', Ext F R H R' H' → HpOk F (B + cc) R' H' → Rp F H' R' x v → Q x → K v H') → tc σ H K) :
    ∀ F B R H σ ρ α XQ Q (K : VK), F.K = X.K → XLink F E XQ → B + (ca + cb + cc) ≤ F.L → StOk F B R H σ ρ α → (fa ρ XQ fun x => fb ρ XQ fun y => gChain g g' fc ρ XQ x y Q) →
      (∀ v x R' H', Ext F R H R' H' → HpOk F (B + (ca + cb + cc)) R' H' → Rp F H' R' x v → Q x → K v H') → tChain r r' ta tb tc σ H K := fun F B R H σ ρ α XQ Q K hK hX hB S h k => by
  refine sa F B R H σ ρ α XQ _ _ hK hX (by omega) S h fun v x R1 H1 e1 o1 r1 q1 => ?_
  refine sb F (B + ca) R1 H1 σ ρ α XQ _ _ hK hX (by omega) (S.ext e1 o1) q1 fun u y R2 H2 e2 o2 r2 q2 => ?_
  refine sr F (B + ca + cb) R2 H2 v u x y _ _ hK o2 (r1.ext o1 e2) r2 q2 fun w z R3 H3 e3 o3 r3 q3 => ?_
  obtain ⟨kk, ek, q3⟩ := q3
  have r4 := r3.1
  rw [ek] at r4
  cases r4
  refine ⟨kk, rfl, ?_⟩
  cases kk with
  | false => exact k _ _ R3 H3 ((e1.trans e2).trans e3) (o3.mono (by omega)) (.of (.bl _)) q3
  | true =>
    have S3 := ((S.ext e1 o1).ext e2 o2).ext e3 o3
    refine sc F (B + ca + cb) R3 H3 σ ρ α XQ _ _ hK hX (by omega) S3 q3 fun w' z' R4 H4 e4 o4 r4 q4 => ?_
    refine sr' F _ R4 H4 u w' y z' Q K hK o4 ((r2.ext o2 e3).ext o3 e4) r4 q4 fun w5 z5 R5 H5 e5 o5 r5 q5 => ?_
    exact k w5 z5 R5 H5 ((((e1.trans e2).trans e3).trans e4).trans e5) (o5.mono (by omega)) r5 q5
theorem de_chain {op op' : CmpOp} {g g' : GD2} (ho : DOp X (compareOp op) g) (ho' : DOp X (compareOp op') g') (ha : DE X E ca a fa) (hb : DE X E cb b fb) (hd : DE X E cc d fc) (hm : lastMarks [op, op'] [b, d] = false := by with_unfolding_all rfl) :
    DE X E (ca + cb + cc) (.Compare a [op, op'] [b, d] pos) (fun ρ XQ Q => fa ρ XQ fun x => fb ρ XQ fun y => gChain g g' fc ρ XQ x y Q) := by
  obtain ⟨r, hr, sr⟩ := ho
  obtain ⟨r', hr', sr'⟩ := ho'
  obtain ⟨ta, pa, sa⟩ := ha
  obtain ⟨tb, pb, sb⟩ := hb
  obtain ⟨tc, pc, sc⟩ := hd
  exact ⟨_, pe_chain hr hr' pa pb pc hm, chain_core sr sr' sa sb sc⟩
theorem dt_chain {op op' : CmpOp} {g g' : GD2} (ho : DOp X (compareOp op) g) (ho' : DOp X (compareOp op') g') (ha : DE X E ca a fa) (hb : DE X E cb b fb) (hd : DE X E cc d fc) (hm : lastMarks [op, op'] [b, d] = false := by with_unfolding_all rfl) :
    DT X E (ca + cb + cc) (.Compare a [op, op'] [b, d] pos) (fun ρ XQ Q => fa ρ XQ fun x => fb ρ XQ fun y => gChain g g' fc ρ XQ x y fun z => ∃ k, z.d = .bl k ∧ Q k) := by
  obtain ⟨r, hr, sr⟩ := ho
  obtain ⟨r', hr', sr'⟩ := ho'
  obtain ⟨ta, pa, sa⟩ := ha
  obtain ⟨tb, pb, sb⟩ := hb
  obtain ⟨tc, pc, sc⟩ := hd
  refine ⟨_, pt_chain hr hr' pa pb pc hm, fun F B R H σ ρ α XQ Q K hK hX hB S h k => ?_⟩
  refine chain_core sr sr' sa sb sc F B R H σ ρ α XQ _ _ hK hX hB S h fun v x R' H' e' o' r' ⟨kk, ek, q'⟩ => ?_
  have r4 := r'.1
  rw [ek] at r4
  cases r4
  exact ⟨kk, rfl, k kk R' H' e' o' q'⟩
/-- {} -/
theorem dn_dnew : DN X E 0 (.Dict [] [] pos) (fun _ _ Q => Q ⟨.dct [], true, none⟩) :=
  ⟨_, pe_dnewK, fun F B R H σ ρ α XQ Q K _ _ _ S q k => fun p hp => k p (.dct []) true R _ (.new0 hp) (S.hp.new0 hp .dK) ⟨not_frozen S.hp hp, mx_none S.hp.inv hp, S.hp.ent2 p (.of hp), S.hp.pn p (.of hp), .inl ⟨[], upd_same, .nil⟩⟩ (.of hp) q⟩
end
theorem tys_ok2 {a b : String} (ha : TyOk a) (hb : TyOk b) : ∀ T ∈ [a, b], TyOk T := fun T h => by
  rcases List.mem_cons.mp h with rfl | h
  · exact ha
  · rw [List.mem_singleton.mp h]; exact hb
theorem tys_ok3 {a b c : String} (ha : TyOk a) (hb : TyOk b) (hc : TyOk c) : ∀ T ∈ [a, b, c], TyOk T := fun T h => by
  rcases List.mem_cons.mp h with rfl | h
  · exact ha
  · exact tys_ok2 hb hc T h
end DL

set_option Elab.async false
set_option linter.all false
set_option maxRecDepth 100000
set_option maxHeartbeats 4000000
/-! DL, part j: words for the plain side: sequences, good data, comprehensions as maps. -/
namespace DL
open PySem PySem.Spec PyProof.Rows L2

/-- the items of a list or a tuple -/
def D.seq : D → Option (List D)
  | .lst xs => some xs
  | .tup xs => some xs
  | _ => none
mutual
/-- data of a sound size, of kinds that isinstance knows -/
def D.good : D → Bool
  | .lst xs => D.goodL xs && decide (xs.length ≤ 100000)
  | .tup xs => D.goodL xs && decide (xs.length ≤ 100000)
  | .dct kvs => D.goodP kvs && decide (kvs.length ≤ 100000)
  | .str x => PyData.strOk x && decide (x.length ≤ 100000)
  | .strm => false
  | .vee _ => false
  | .obj _ _ => false
  | .bm _ _ => false
  | _ => true
def D.goodL : List D → Bool
  | [] => true
  | x :: xs => D.good x && D.goodL xs
def D.goodP : List (D × D) → Bool
  | [] => true
  | (k, v) :: xs => D.good k && D.good v && D.goodP xs
end
theorem good_ty {d : D} (h : d.good = true) : ∃ s, d.ty = some s := by
  cases d <;> first | exact ⟨_, rfl⟩ | (simp [D.good] at h)
theorem goodL_mem : ∀ {xs : List D}, D.goodL xs = true → ∀ x ∈ xs, x.good = true
  | [], _, _, h => by cases h
  | y :: ys, h, x, hx => by
    simp only [D.goodL, Bool.and_eq_true] at h
    rcases List.mem_cons.mp hx with rfl | hx
    · exact h.1
    · exact goodL_mem h.2 x hx
theorem goodL_of : ∀ {xs : List D}, (∀ x ∈ xs, x.good = true) → D.goodL xs = true
  | [], _ => rfl
  | y :: ys, h => by
    simp only [D.goodL, Bool.and_eq_true]
    exact ⟨h y List.mem_cons_self, goodL_of fun x hx => h x (List.mem_cons_of_mem _ hx)⟩
theorem good_seq {d : D} (h : d.good = true) {xs : List D} (e : d.seq = some xs) : (∀ x ∈ xs, x.good = true) ∧ xs.length ≤ 100000 := by
  cases d <;> first | (cases e; done) | skip
  all_goals
    cases e
    simp only [D.good, Bool.and_eq_true, decide_eq_true_eq] at h
    exact ⟨goodL_mem h.1, h.2⟩

/-! ### comprehensions -/
/-- one turn -/
def lcStep (gt : TDG) (ft : TDt) (fe : TD) (ρw : Ro) (x : Dv) (K1 : Dv → Prop) (K0 : Prop) : Prop := gt x ρw fun ρ2 => ft ρ2 XQ0 fun b => if b = true then fe ρ2 XQ0 K1 else K0
theorem lcGo_cons {gt : TDG} {ft : TDt} {fe : TD} {ρw : Ro} {Q : Dv → Prop} {x : Dv} {xs : List Dv} {acc : List D} {n : Bool} :
    lcGo gt ft fe ρw Q (x :: xs) acc n = lcStep gt ft fe ρw x (fun y => lcGo gt ft fe ρw Q xs (acc ++ [y.d]) (n && y.fr)) (lcGo gt ft fe ρw Q xs acc n) := rfl
/-- each item gives what F says, or nothing -/
theorem lc_any {gt : TDG} {ft : TDt} {fe : TD} {ρw : Ro} {Q : Dv → Prop} (F : Dv → Option D) : ∀ {xs : List Dv} {acc : List D} {n : Bool},
    (∀ x ∈ xs, ∀ (K1 : Dv → Prop) (K0 : Prop), (∀ d, F x = some d → ∀ m v, K1 ⟨d, m, v⟩) → (F x = none → K0) → lcStep gt ft fe ρw x K1 K0) → (∀ m, Q ⟨.lst (acc ++ xs.filterMap F), m, none⟩) → lcGo gt ft fe ρw Q xs acc n
  | [], acc, n, _, q => by
    have := q n
    rw [List.filterMap_nil, List.append_nil] at this
    exact this
  | x :: xs, acc, n, h, q => by
    rw [lcGo_cons]
    refine h x List.mem_cons_self _ _ (fun d e m v => ?_) (fun e => ?_)
    · refine lc_any F (fun y hy => h y (List.mem_cons_of_mem _ hy)) fun m' => ?_
      have := q m'
      rw [List.filterMap_cons, e] at this
      simpa using this
    · refine lc_any F (fun y hy => h y (List.mem_cons_of_mem _ hy)) fun m' => ?_
      have := q m'
      rw [List.filterMap_cons, e] at this
      exact this
/-- a map -/
theorem lc_map {gt : TDG} {ft : TDt} {fe : TD} {ρw : Ro} {Q : Dv → Prop} (F : Dv → D) {xs : List Dv} (h : ∀ x ∈ xs, ∀ (K1 : Dv → Prop) (K0 : Prop), (∀ m v, K1 ⟨F x, m, v⟩) → lcStep gt ft fe ρw x K1 K0) (q : ∀ m, Q ⟨.lst (xs.map F), m, none⟩) : lcGo gt ft fe ρw Q xs [] true :=
  lc_any (fun x => some (F x)) (fun x hx K1 K0 h1 _ => h x hx K1 K0 (h1 _ rfl)) (by simpa [List.filterMap_eq_map] using q)
/-- all fresh -/
theorem lc_new {gt : TDG} {ft : TDt} {fe : TD} {ρw : Ro} {Q : Dv → Prop} (F : Dv → Option D) : ∀ {xs : List Dv} {acc : List D},
    (∀ x ∈ xs, ∀ (K1 : Dv → Prop) (K0 : Prop), (∀ d, F x = some d → ∀ v, K1 ⟨d, true, v⟩) → (F x = none → K0) → lcStep gt ft fe ρw x K1 K0) → Q ⟨.lst (acc ++ xs.filterMap F), true, none⟩ → lcGo gt ft fe ρw Q xs acc true
  | [], acc, _, q => by
    rw [List.filterMap_nil, List.append_nil] at q
    exact q
  | x :: xs, acc, h, q => by
    rw [lcGo_cons]
    refine h x List.mem_cons_self _ _ (fun d e v => ?_) (fun e => ?_)
    · have z : ((true : Bool) && Dv.fr ⟨d, true, v⟩) = true := rfl
      rw [z]
      refine lc_new F (fun y hy => h y (List.mem_cons_of_mem _ hy)) ?_
      rw [List.filterMap_cons, e] at q
      simpa using q
    · refine lc_new F (fun y hy => h y (List.mem_cons_of_mem _ hy)) ?_
      rw [List.filterMap_cons, e] at q
      exact q
theorem lc_mapN {gt : TDG} {ft : TDt} {fe : TD} {ρw : Ro} {Q : Dv → Prop} (F : Dv → D) {xs : List Dv} (h : ∀ x ∈ xs, ∀ (K1 : Dv → Prop) (K0 : Prop), (∀ v, K1 ⟨F x, true, v⟩) → lcStep gt ft fe ρw x K1 K0) (q : Q ⟨.lst (xs.map F), true, none⟩) : lcGo gt ft fe ρw Q xs [] true :=
  lc_new (fun x => some (F x)) (fun x hx K1 K0 h1 _ => h x hx K1 K0 (h1 _ rfl)) (by simpa [List.filterMap_eq_map] using q)
/-! ### lists and tuples alike -/
theorem getV_va {x : Dv} {Q : Dv → Prop} : getV (some (.va x)) Q = Q x := rfl
theorem items_seq {x : Dv} {Q : List Dv → Prop} {ds : List D} (h : x.d.seq = some ds) : items x Q = Q (ds.map fun d => ⟨d, x.fr, none⟩) := by
  obtain ⟨d, n, v⟩ := x
  cases d <;> first | (cases h; rfl) | (simp [D.seq] at h)
theorem unp_seq {n : Nat} {gs : TDGs} {x : Dv} {ρ : Ro} {Q : Ro → Prop} {ds : List D} (h : x.d.seq = some ds) : unp n gs x ρ Q = (ds.length = n ∧ gs (ds.map fun d => ⟨d, x.fr, none⟩) ρ Q) := by
  obtain ⟨d, k, v⟩ := x
  cases d <;> first | (cases h; rfl) | (simp [D.seq] at h)
theorem gLen_seq {x : Dv} {Q : Dv → Prop} {ds : List D} (h : x.d.seq = some ds) : gLen x Q = Q ⟨.int ds.length, true, none⟩ := by
  obtain ⟨d, k, v⟩ := x
  cases d <;> first | (cases h; rfl) | (simp [D.seq] at h)
theorem gIx_seq {x y : Dv} {Q : Dv → Prop} {ds : List D} {i : Int} (h : x.d.seq = some ds) (hy : y.d = .int i) : gIx x y Q = ∃ d, atI ds i = some d ∧ Q ⟨d, x.fr, none⟩ := by
  obtain ⟨d, k, v⟩ := x
  obtain ⟨d2, k2, v2⟩ := y
  cases hy
  cases d <;> first | (cases h; rfl) | (simp [D.seq] at h)
/-- the same kind with other items -/
def D.like : D → List D → D
  | .tup _, ds => .tup ds
  | _, ds => .lst ds
theorem like_seq {a : D} {ds : List D} : (a.like ds).seq = some ds := by cases a <;> rfl
theorem gSl_seq {x : Dv} {lo hi : Option Int} {Q : Dv → Prop} {ds : List D} (h : x.d.seq = some ds) : gSl x lo hi Q = Q ⟨x.d.like (cutL ds lo hi), x.fr, none⟩ := by
  obtain ⟨d, k, v⟩ := x
  cases d <;> first | (cases h; rfl) | (simp [D.seq] at h)
/-- all([..]), any([..]) over a comprehension of truth values -/
theorem all_go {gt : TDG} {ft : TDt} {fe : TD} {ρw : Ro} {Q : Dv → Prop} (f : Dv → Bool) {xs : List Dv} (h : ∀ x ∈ xs, ∀ (K1 : Dv → Prop) (K0 : Prop), (∀ v, K1 ⟨.bl (f x), true, v⟩) → lcStep gt ft fe ρw x K1 K0) (q : Q ⟨.bl (xs.all f), true, none⟩) :
    lcGo gt ft fe ρw (fun x => g1 (fun x Q => ∃ bs : List Bool, x.d = .lst (bs.map D.bl) ∧ Q ⟨.bl (bs.all id), true, none⟩) [x] Q) xs [] true :=
  lc_mapN (fun x => .bl (f x)) h ⟨xs.map f, by simp, by simpa [List.all_map] using q⟩
theorem any_go {gt : TDG} {ft : TDt} {fe : TD} {ρw : Ro} {Q : Dv → Prop} (f : Dv → Bool) {xs : List Dv} (h : ∀ x ∈ xs, ∀ (K1 : Dv → Prop) (K0 : Prop), (∀ v, K1 ⟨.bl (f x), true, v⟩) → lcStep gt ft fe ρw x K1 K0) (q : Q ⟨.bl (xs.any f), true, none⟩) :
    lcGo gt ft fe ρw (fun x => g1 (fun x Q => ∃ bs : List Bool, x.d = .lst (bs.map D.bl) ∧ Q ⟨.bl (bs.any id), true, none⟩) [x] Q) xs [] true :=
  lc_mapN (fun x => .bl (f x)) h ⟨xs.map f, by simp, by simpa [List.any_map] using q⟩
theorem gZip_seq {x y : Dv} {Q : List Dv → Prop} {ds es : List D} (h : x.d.seq = some ds) (hy : y.d = x.d.like es) : gZip [x, y] Q = Q (zipD (x.fr && y.fr) ds es) := by
  obtain ⟨d, k, v⟩ := x
  obtain ⟨d2, k2, v2⟩ := y
  cases hy
  cases d <;> first | (cases h; rfl) | (simp [D.seq] at h)
theorem cut1 {α : Type} (xs : List α) : cutL xs (some 1) none = xs.drop 1 := by
  unfold cutL
  have h1 : HT.sIx xs.length 0 (some 1) = min 1 xs.length := HT.sIx_nat xs.length 0 1
  rw [h1, HT.sIx_none]
  cases xs with
  | nil => rfl
  | cons x xs => simp
theorem gCall_of {g : DC} {ρ : Ro} {XQ : XQT} {xs : List Dv} {Q : Dv → Prop} (h : ∀ vs, g (xs.map (·.d)) vs XQ fun r => Q { r with v := none }) : gCall g ρ XQ xs Q := fun vs _ => h vs
end DL

set_option Elab.async false
set_option linter.all false
set_option maxRecDepth 100000
set_option maxHeartbeats 4000000
/-! DL, part k: powers of great ints; the stream of draws. -/
namespace DL
open PySem PySem.Spec PyProof.Rows L2

theorem op_powW {X : Cx} : OpR X (binaryOp .Pow) (rI (fun i j => 0 ≤ j ∧ (Builtin.Int.intBits i : Int) * j ≤ 2 ^ 27) fun i j => .int (i ^ j.toNat)) := opI fun _ _ _ _ _ _ _ hc q => pow_int hc.1 hc.2 q
theorem bits_le {i : Int} {k : Nat} (h0 : 0 ≤ i) (h : i < 2 ^ k) : Builtin.Int.intBits i ≤ k := by
  unfold Builtin.Int.intBits
  split
  · exact Nat.zero_le _
  · rename_i hz
    have hn : i.natAbs < 2 ^ k := by
      have e : (i.natAbs : Int) = i := Int.natAbs_of_nonneg h0
      have : (i.natAbs : Int) < ((2 ^ k : Nat) : Int) := by rw [e, Int.natCast_pow]; exact h
      exact Int.ofNat_lt.mp this
    have hp : i.natAbs ≠ 0 := fun z => hz (by simpa using z)
    have := (Nat.log2_lt hp).mpr hn
    omega
/-- the stream's lists after some changes at them alone -/
structure StrmUp (H H' : Hp) (p : Addr × Addr) (B' : Nat) : Prop where
  off : ∀ a, a ≠ p.1 → a ≠ p.2 → ∀ o, H a = some o → H' a = some o
  ok : StrmOk H' p B'
theorem strm_ext {F : Fx} {B B' : Nat} {R : Reg} {H H' : Hp} {p : Addr × Addr} (hst : F.st = some p) (I : HpOk F B R H) (u : StrmUp H H' p B') : Ext F R H R H' ∧ HpOk F B' R H' := by
  have off : ∀ a o, ¬ F.mx a → H a = some o → H' a = some o := fun a o m h => u.off a (fun z => m ⟨p, hst, .inl z⟩) (fun z => m ⟨p, hst, .inr z⟩) o h
  have inv' : F.inv B' H' := fun q hq => by rw [hst] at hq; cases hq; exact u.ok
  have lst' : ∀ a, F.mx a → ∃ xs, H' a = some (.lst xs) := fun a m => mx_lst inv' m
  refine ⟨⟨fun _ r => r, fun a o m h _ => off a o m h, fun _ r => .inl r, fun a h o e => fun nt => ?_⟩, ⟨inv', fun a r => ?_, fun a o m h nt => off a o m (I.ent a o m h nt), fun a h o e => fun nt => ?_, I.reg0, tab_keep I.tab fun b o n e => off b o (fun m => ?_) e, I.lim, fun a h => I.pn a fun o e nt => ?_⟩⟩
  · by_cases m : F.mx a
    · obtain ⟨xs, z⟩ := lst' a m
      exact h _ z .lst
    · exact h _ (off a o m e) nt
  · obtain ⟨m, o, ho, nt⟩ := I.good a r
    exact ⟨m, o, off a o m ho, nt⟩
  · by_cases m : F.mx a
    · obtain ⟨xs, z⟩ := lst' a m
      exact h _ z .lst
    · exact h _ (off a o m (I.ent a o m e nt)) nt
  · obtain ⟨xs, z⟩ := mx_lst I.inv m
    rw [e] at z
    cases z
    exact n .lst
  · by_cases m : F.mx a
    · obtain ⟨xs, z⟩ := lst' a m
      exact h _ z .lst
    · exact h _ (off a o m e) nt
/-- a drawn number below another one -/
def cDraw : DC := fun ds _ _ Q => ∃ m : Int, ds = [.strm, .int m] ∧ 0 < m ∧ m < 1073741824 ∧ ∀ k : Int, 0 ≤ k → k < m → Q ⟨.int k, true, none⟩
theorem lim_bits {n : Int} {B : Nat} (h : n ≤ (B : Int)) (hB : B ≤ LIM) : n < 2 ^ 100001 := by
  have h1 : (B : Int) ≤ ((2 ^ 100000 : Nat) : Int) := Int.ofNat_le.mpr (by unfold LIM at hB; exact hB)
  rw [Int.natCast_pow] at h1
  have h2 : (2 : Int) ^ 100001 = 2 ^ 100000 * 2 := Int.pow_succ 2 100000
  have h3 : (0 : Int) < 2 ^ 100000 := Int.pow_pos (by decide)
  have h4 : ((2 : Nat) : Int) = 2 := rfl
  rw [h4] at h1
  generalize (2 : Int) ^ 100000 = z at h1 h2 h3
  omega
end DL

set_option Elab.async false
set_option linter.all false
set_option maxRecDepth 100000
set_option maxHeartbeats 4000000
/-! DL, part l: the draw's reading. -/
namespace DL
open PySem PySem.Spec PyProof.Rows L2

/-- the stream's two lists -/
structure StrmAt (H : Hp) (a b : Addr) (xs : List Int) (c n s : Int) : Prop where
  top : H a = some (.lst [.ref b, .int c, .int n, .int s])
  low : H b = some (.lst (xs.map V.int))
theorem StrmAt.off {H H' : Hp} {a b : Addr} {xs : List Int} {c n s : Int} (h : StrmAt H a b xs c n s) (ha : H' a = H a) (hb : H' b = H b) : StrmAt H' a b xs c n s := ⟨ha.trans h.top, hb.trans h.low⟩
theorem StrmAt.put {H : Hp} {a b : Addr} {xs : List Int} {c n s c' n' s' : Int} (h : StrmAt H a b xs c n s) (hne : a ≠ b) : StrmAt (upd H a (.lst [.ref b, .int c', .int n', .int s'])) a b xs c' n' s' := ⟨upd_same, by rw [upd_ne hne.symm]; exact h.low⟩
theorem dp_ints {K : PySem.W.Frag} {H : Hp} : ∀ xs : List Int, DpAll K H (xs.map V.int) (xs.map PyData.int)
  | [] => .nil
  | x :: xs => .cons (.int x) (dp_ints xs)
theorem lay_ints : ∀ xs : List Int, PyData.canLayAll0 (xs.map PyData.int) = true
  | [] => rfl
  | x :: xs => by
    rw [List.map_cons, PyData.canLayAll0, lay_ints xs]
    rfl
theorem dep_ints : ∀ xs : List Int, PyData.depthAll (xs.map PyData.int) ≤ 1
  | [] => by decide
  | x :: xs => by
    have := dep_ints xs
    rw [List.map_cons, PyData.depthAll]
    simp only [PyData.depth]
    omega
theorem shaped_ints (xs : List Int) : SeqAt.shaped (.list (xs.map PyData.int)) = true := by
  unfold SeqAt.shaped
  rw [PyData.canLay0, lay_ints]
  have := dep_ints xs
  exact decide_eq_true (by simp only [PyData.depth]; omega)
theorem six (xs : List Int) {x : Int} : seqIndex? 0 ((x :: xs).map V.int).length = some 0 := by
  unfold seqIndex?
  simp
def drawTest (K : PySem.W.Frag) : TT := tAnd (tTest (tOp rEq (tOp (rIxL K) (tVar 0) (tC (V.int 1))) (tC (V.int 0)))) (tTest (tOp (rNeD K) (tOp (rIxL K) (tVar 0) (tC (V.int 0))) (tLst tNil)))
def drawBody (K : PySem.W.Frag) : TS := tSeq (tAsg (tCB (fun xs H Q => ∃ i, xs = [V.int i] ∧ Q (V.int (if i < 0 then -i else i)) H) (tCons (tBM K "list" rPopAt (tOp (rIxL K) (tVar 0) (tC (V.int 0))) (tCons (tC (V.int 0)) tNil)) tNil)) (gName 2))
    (tSeq (tAsg (tOp (rI (fun x j => 0 < j) fun i j => V.int (i % j)) (tCB (fun xs H Q => (∃ i, xs = [V.int i] ∧ Q (V.int i) H) ∨ ∃ k, xs = [V.bl k] ∧ Q (V.int (if k = true then 1 else 0)) H) (tCons (tOp (rI0 fun i j => V.int (i + j)) (tOp (rI0 fun i j => V.int (i + j)) (tOp (rI CMul fun i j => V.int (i * j)) (tOp (rIxL K) (tVar 0) (tC (V.int 3))) (tC (V.int 6151))) (tVar 2)) (tC (V.int 7))) tNil)) (tC (V.int 2147483629))) (gSub (tVar 0) (tC (V.int 3)) rSetL))
      (tAsg (tIf (tTest (tOp (rI0 fun i j => V.bl (decide (j ≤ i))) (tVar 2) (tOp (rI CPow fun i j => V.int (i ^ j.toNat)) (tC (V.int 10)) (tC (V.int 18))))) (tVar 2) (tC (V.int 0))) (gSub (tVar 0) (tC (V.int 1)) rSetL)))
/-- the cells that are taken: what is left of them, the great number, the mixed one -/
def takeC : List Int → Int → Int → List Int × Int × Int
  | x :: xs, c, s => if c = 0 then takeC xs (if (10 : Int) ^ (18 : Int).toNat ≤ (if x < 0 then -x else x) then (if x < 0 then -x else x) else 0) ((s * 6151 + (if x < 0 then -x else x) + 7) % 2147483629) else (x :: xs, c, s)
  | [], c, s => ([], c, s)
theorem takeC_stop {xs : List Int} {c s : Int} (h : c ≠ 0) : takeC xs c s = (xs, c, s) := by
  cases xs with
  | nil => rfl
  | cons x xs => unfold takeC; rw [if_neg h]
theorem takeC_go {x : Int} {xs : List Int} {s : Int} : takeC (x :: xs) 0 s = takeC xs (if (10 : Int) ^ (18 : Int).toNat ≤ (if x < 0 then -x else x) then (if x < 0 then -x else x) else 0) ((s * 6151 + (if x < 0 then -x else x) + 7) % 2147483629) := by
  rw [takeC, if_pos rfl]
theorem takeC_cells : ∀ {xs : List Int} {c s : Int}, CellsOk xs c → CellsOk (takeC xs c s).1 (takeC xs c s).2.1
  | [], _, _, h => h
  | x :: xs, c, s, h => by
    unfold takeC
    split
    · refine takeC_cells ⟨by have := h.1; simp only [List.length_cons] at this; omega, fun y hy => h.2.1 y (List.mem_cons_of_mem _ hy), ?_⟩
      have hx := h.2.1 x List.mem_cons_self
      have hy : (if x < 0 then -x else x).natAbs = x.natAbs := by
        split
        · exact Int.natAbs_neg x
        · rfl
      generalize (if x < 0 then -x else x) = y at hy
      by_cases hb : (10 : Int) ^ (18 : Int).toNat ≤ y
      · rw [if_pos hb, hy]; exact hx
      · rw [if_neg hb, cbit_eq]; exact Nat.two_pow_pos _
    · exact h
def hashV (s n m : Int) : Int := ((((s + 8191 * n + 50021) ^ (5 : Int).toNat % 2147483587) * 40009 + 20011 * n + 31) ^ (3 : Int).toNat % 1000000009) % m
/-- a draw: the number, the stream behind it -/
def drawV (m : Int) (xs : List Int) (c n s : Int) : Int × List Int × Int × Int :=
  if 0 < (takeC xs c s).2.1 then ((takeC xs c s).2.1 % m, (takeC xs c s).1, (takeC xs c s).2.1 / m, (takeC xs c s).2.2) else (hashV (takeC xs c s).2.2 (n + 1) m, (takeC xs c s).1, (takeC xs c s).2.1, (takeC xs c s).2.2)
theorem drawV_cells {m : Int} {xs : List Int} {c n s : Int} (hm : 0 < m) (h : CellsOk xs c) : CellsOk (drawV m xs c n s).2.1 (drawV m xs c n s).2.2.1 := by
  have h1 := takeC_cells (s := s) h
  unfold drawV
  by_cases hp : 0 < (takeC xs c s).2.1
  · rw [if_pos hp]
    refine ⟨h1.1, h1.2.1, Nat.lt_of_le_of_lt ?_ h1.2.2⟩
    show ((takeC xs c s).2.1 / m).natAbs ≤ (takeC xs c s).2.1.natAbs
    have a1 : 0 ≤ (takeC xs c s).2.1 / m := Int.ediv_nonneg (by omega) (by omega)
    have a2 : (takeC xs c s).2.1 / m ≤ (takeC xs c s).2.1 := Int.ediv_le_self _ (by omega)
    omega
  · rw [if_neg hp]
    exact h1
/-- the cells that are taken -/
theorem draw_loop {K : PySem.W.Frag} {a b : Addr} {m : Int} (hne : a ≠ b) {D : Ends} {H0 : Hp} {n : Int} {xs0 : List Int} {c0 s0 : Int} {cell : Option V} (hS : StrmAt H0 a b xs0 c0 n s0) (hc : 0 ≤ c0) (h0 : 0 ≤ s0) (h1 : s0 < 2147483629)
    (fin : ∀ xs c s cell H, takeC xs0 c0 s0 = (xs, c, s) → StrmAt H a b xs c n s → 0 ≤ c → 0 ≤ s → s < 2147483629 → (∀ x, x ≠ a → x ≠ b → ∀ o, H0 x = some o → H x = some o) → (∀ x, H x = none → H0 x = none) → D.nx [some (.ref a), some (.int m), cell, none, none] H) :
    tWhile (drawTest K) (drawBody K) D [some (.ref a), some (.int m), cell, none, none] H0 := by
  refine while_by (fun σ H => ∃ xs c s cell, σ = [some (.ref a), some (.int m), cell, none, none] ∧ takeC xs c s = takeC xs0 c0 s0 ∧ StrmAt H a b xs c n s ∧ 0 ≤ c ∧ 0 ≤ s ∧ s < 2147483629 ∧ (∀ x, x ≠ a → x ≠ b → ∀ o, H0 x = some o → H x = some o) ∧ (∀ x, H x = none → H0 x = none)) (fun σ H => match H b with | some (.lst l) => l.length | _ => 0)
    ⟨xs0, c0, s0, cell, rfl, rfl, hS, hc, h0, h1, fun _ _ _ _ h => h, fun _ h => h⟩ ?_ ?_
  · rintro σ H ⟨xs, c, s, cell, rfl, ht, hS, hc, h0, h1, off, bk⟩
    refine ⟨_, rfl, a, _, 1, _, rfl, rfl, .of hS.top, rfl, rfl, _, rfl, ?_⟩
    by_cases hz : c = 0
    · subst hz
      show (if _ then _ else _)
      rw [if_pos (by simp)]
      refine ⟨_, rfl, a, _, 0, _, rfl, rfl, .of hS.top, rfl, Nat.zero_le _, fun p hp => ?_⟩
      have na : a ≠ p := fun z => by rw [← z, hS.top] at hp; cases hp
      have nb : b ≠ p := fun z => by rw [← z, hS.low] at hp; cases hp
      have hS1 : StrmAt (upd H p (.lst [])) a b xs 0 n s := hS.off (upd_ne na) (upd_ne nb)
      have off1 : ∀ x, x ≠ a → x ≠ b → ∀ o, H0 x = some o → upd H p (.lst []) x = some o := fun x e1 e2 o h => by
        rw [upd_ne (fun z => by subst z; have := off x e1 e2 o h; rw [hp] at this; cases this)]
        exact off x e1 e2 o h
      have bk1 : ∀ x, upd H p (.lst []) x = none → H0 x = none := fun x h => by
        by_cases e : x = p
        · rw [e]; exact bk p hp
        · rw [upd_ne e] at h; exact bk x h
      refine ⟨_, _, .lst (.of hS1.low) (dp_ints xs), .lst (.of upd_same) .nil, shaped_ints xs, rfl, _, rfl, ?_⟩
      cases xs with
      | nil => exact fin [] 0 s cell _ ht.symm hS1 hc h0 h1 off1 bk1
      | cons x xs =>
        rw [if_pos (by rfl)]
        have hlen : (match H b with | some (HO.lst l) => l.length | _ => 0) = xs.length + 1 := by rw [hS.low]; simp
        rw [hlen]
        rw [takeC_go] at ht
        generalize hx : (if x < 0 then -x else x) = y at ht
        have hy : 0 ≤ y := by rw [← hx]; split <;> omega
        refine ⟨_, rfl, a, _, 0, _, rfl, rfl, .of hS1.top, rfl, .inl ⟨rfl, _, .of hS1.low⟩, b, _, 0, 0, _, rfl, rfl, hS1.low, by decide, by decide, six _, rfl, x, rfl, ?_⟩
        rw [hx]
        have hS2 : StrmAt (upd (upd H p (.lst [])) b (.lst (xs.map V.int))) a b xs 0 n s := ⟨by rw [upd_ne hne]; exact hS1.top, upd_same⟩
        refine ⟨_, rfl, a, _, 3, _, rfl, rfl, .of hS2.top, rfl, _, _, rfl, rfl, .inr ⟨by decide, by decide⟩, _, rfl, _, _, rfl, rfl, _, _, rfl, rfl, .inl ⟨_, rfl, _, _, rfl, rfl, (show (0 : Int) < 2147483629 from by decide), _, rfl, a, _, 3, 3, rfl, rfl, hS2.top, rfl, ?_⟩⟩
        have hm0 : 0 ≤ (s * 6151 + y + 7) % 2147483629 := Int.emod_nonneg _ (by decide)
        have hm1 : (s * 6151 + y + 7) % 2147483629 < 2147483629 := Int.emod_lt_of_pos _ (by decide)
        have hS3 := hS2.put (c' := 0) (n' := n) (s' := (s * 6151 + y + 7) % 2147483629) hne
        refine ⟨_, rfl, _, _, rfl, rfl, ⟨by decide, by decide, by decide⟩, _, _, rfl, rfl, _, rfl, ?_⟩

        have fin2 : ∀ z : Int, 0 ≤ z → (if (10 : Int) ^ (18 : Int).toNat ≤ y then y else 0) = z → ∀ H', H' = upd (upd (upd (upd H p (.lst [])) b (.lst (xs.map V.int))) a (.lst [V.ref b, V.int 0, V.int n, V.int ((s * 6151 + y + 7) % 2147483629)])) a (.lst [V.ref b, V.int z, V.int n, V.int ((s * 6151 + y + 7) % 2147483629)]) →
            (∃ xs c s cell, [some (V.ref a), some (V.int m), some (V.int y), none, none] = [some (.ref a), some (.int m), cell, none, none] ∧ takeC xs c s = takeC xs0 c0 s0 ∧ StrmAt H' a b xs c n s ∧ 0 ≤ c ∧ 0 ≤ s ∧ s < 2147483629 ∧ (∀ x, x ≠ a → x ≠ b → ∀ o, H0 x = some o → H' x = some o) ∧ (∀ x, H' x = none → H0 x = none)) ∧ (match H' b with | some (HO.lst l) => l.length | _ => 0) < xs.length + 1 := by
          rintro z hz ez H' rfl
          rw [ez] at ht
          have hS4 := hS3.put (c' := z) (n' := n) (s' := (s * 6151 + y + 7) % 2147483629) hne
          refine ⟨⟨xs, z, _, _, rfl, ht, hS4, hz, hm0, hm1, fun x e1 e2 o h => ?_, fun x h => ?_⟩, ?_⟩
          · rw [upd_ne e1, upd_ne e1, upd_ne e2]; exact off1 x e1 e2 o h
          · by_cases e1 : x = a
            · rw [e1, upd_same] at h; cases h
            · rw [upd_ne e1, upd_ne e1] at h
              by_cases e2 : x = b
              · rw [e2, upd_same] at h; cases h
              · rw [upd_ne e2] at h; exact bk1 x h
          · rw [hS4.low]; simp
        by_cases hb : (10 : Int) ^ (18 : Int).toNat ≤ y
        · show (if _ then _ else _)
          rw [if_pos (by simpa using hb)]
          exact ⟨_, rfl, _, rfl, a, _, 1, 1, rfl, rfl, hS3.top, rfl, fin2 y hy (if_pos hb) _ rfl⟩
        · show (if _ then _ else _)
          rw [if_neg (by simpa using hb)]
          exact ⟨_, rfl, a, _, 1, 1, rfl, rfl, hS3.top, rfl, fin2 0 (by decide) (if_neg hb) _ rfl⟩
    · show (if _ then _ else _)
      rw [if_neg (by simpa using hz)]
      exact fin xs c s cell H (by rw [← ht, takeC_stop hz]) hS hc h0 h1 off bk
  · intro σ H Q1 Q2 hq hw
    obtain ⟨v, e1, q, ys, i, u, e2, e3, e4, e5, e6, k, e7, e8⟩ := hw
    refine ⟨v, e1, q, ys, i, u, e2, e3, e4, e5, e6, k, e7, ?_⟩
    cases k with
    | false => exact hq _ _ e8
    | true =>
      obtain ⟨v, e1, q, ys, i, u, e2, e3, e4, e5, e6, e8⟩ := e8
      refine ⟨v, e1, q, ys, i, u, e2, e3, e4, e5, e6, fun p hp => ?_⟩
      obtain ⟨d, e, f1, f2, f3, f4, k, f5, f6⟩ := e8 p hp
      exact ⟨d, e, f1, f2, f3, f4, k, f5, hq _ _ f6⟩
def drawAll (K : PySem.W.Frag) : TS := tSeq (tAsg (tOp (rI0 fun i j => V.int (i + j)) (tOp (rIxL K) (tVar 0) (tC (V.int 2))) (tC (V.int 1))) (gSub (tVar 0) (tC (V.int 2)) rSetL)) (tSeq (tWhile (drawTest K) (drawBody K)) (tSeq (tIfS (tTest (tOp (rI0 fun i j => V.bl (decide (j < i))) (tOp (rIxL K) (tVar 0) (tC (V.int 1))) (tC (V.int 0)))) (tSeq (tAsg (tOp (rI (fun x j => 0 < j) fun i j => V.int (i % j)) (tCB (fun xs H Q => (∃ i, xs = [V.int i] ∧ Q (V.int i) H) ∨ ∃ k, xs = [V.bl k] ∧ Q (V.int (if k = true then 1 else 0)) H) (tCons (tOp (rIxL K) (tVar 0) (tC (V.int 1))) tNil)) (tVar 1)) (gName 3)) (tSeq (tAsg (tOp (rI CDiv fun i j => V.int (i / j)) (tOp (rIxL K) (tVar 0) (tC (V.int 1))) (tVar 1)) (gSub (tVar 0) (tC (V.int 1)) rSetL)) (tRet (tVar 3)))) tNext) (tSeq (tAsg (tOp (rI (fun x j => 0 < j) fun i j => V.int (i % j)) (tCB (fun xs H Q => (∃ i, xs = [V.int i] ∧ Q (V.int i) H) ∨ ∃ k, xs = [V.bl k] ∧ Q (V.int (if k = true then 1 else 0)) H) (tCons (tOp (rI (fun i j => 0 ≤ j ∧ (Builtin.Int.intBits i : Int) * j ≤ 2 ^ 27) fun i j => V.int (i ^ j.toNat)) (tOp (rI0 fun i j => V.int (i + j)) (tOp (rI0 fun i j => V.int (i + j)) (tOp (rIxL K) (tVar 0) (tC (V.int 3))) (tOp (rI CMul fun i j => V.int (i * j)) (tC (V.int 8191)) (tOp (rIxL K) (tVar 0) (tC (V.int 2))))) (tC (V.int 50021))) (tC (V.int 5))) tNil)) (tC (V.int 2147483587))) (gName 4))
    (tRet (tOp (rI (fun x j => 0 < j) fun i j => V.int (i % j)) (tOp (rI (fun x j => 0 < j) fun i j => V.int (i % j)) (tCB (fun xs H Q => (∃ i, xs = [V.int i] ∧ Q (V.int i) H) ∨ ∃ k, xs = [V.bl k] ∧ Q (V.int (if k = true then 1 else 0)) H) (tCons (tOp (rI (fun i j => 0 ≤ j ∧ (Builtin.Int.intBits i : Int) * j ≤ 2 ^ 27) fun i j => V.int (i ^ j.toNat)) (tOp (rI0 fun i j => V.int (i + j)) (tOp (rI0 fun i j => V.int (i + j)) (tOp (rI CMul fun i j => V.int (i * j)) (tVar 4) (tC (V.int 40009))) (tOp (rI CMul fun i j => V.int (i * j)) (tC (V.int 20011)) (tOp (rIxL K) (tVar 0) (tC (V.int 2))))) (tC (V.int 31))) (tC (V.int 3))) tNil)) (tC (V.int 1000000009))) (tVar 1))))))
theorem pow_bits {i : Int} (h0 : 0 ≤ i) (h : i < 2 ^ 100021) (j : Int) (hj0 : 0 ≤ j) (hj : j ≤ 5) : (Builtin.Int.intBits i : Int) * j ≤ 2 ^ 27 := by
  have h1 := bits_le h0 h
  have h2 : ((Builtin.Int.intBits i : Nat) : Int) ≤ 100021 := by omega
  have h3 : (Builtin.Int.intBits i : Int) * j ≤ 100021 * j := Int.mul_le_mul_of_nonneg_right h2 hj0
  have h4 : (2 : Int) ^ 27 = 134217728 := by decide
  rw [h4]
  omega
theorem wide_big : ∃ Y : Int, 1 ≤ Y ∧ (2 : Int) ^ 100001 = 4294967296 * Y ∧ (2 : Int) ^ 100021 = 4503599627370496 * Y :=
  ⟨2 ^ 99969, Int.pow_pos (by decide), by rw [show (4294967296 : Int) = 2 ^ 32 from rfl, ← Int.pow_add], by rw [show (4503599627370496 : Int) = 2 ^ 52 from rfl, ← Int.pow_add]⟩
theorem draw_readsV {K : PySem.W.Frag} {H : Hp} {a b : Addr} {m : Int} {xs0 : List Int} {c0 n s0 : Int} (hne : a ≠ b) (hS : StrmAt H a b xs0 c0 n s0) (hc : 0 ≤ c0) (hn : 0 ≤ n) (hnB : n + 1 < 2 ^ 100001) (h0 : 0 ≤ s0) (h1 : s0 < 2147483629) (hm0 : 0 < m) (hm1 : m < 1073741824)
    {Q : VK} {Qn : L2.St → Hp → Prop} (q : ∀ k H', 0 ≤ k → k < m → (∃ xs' c' s', drawV m xs0 c0 n s0 = (k, xs', c', s') ∧ StrmAt H' a b xs' c' (n + 1) s' ∧ 0 ≤ c' ∧ 0 ≤ s' ∧ s' < 2147483629) → (∀ x, x ≠ a → x ≠ b → ∀ o, H x = some o → H' x = some o) → (∀ x, H' x = none → H x = none) → Q (.int k) H') :
    drawAll K { nx := Qn, rt := Q } [some (.ref a), some (.int m), none, none, none] H := by
  refine ⟨_, rfl, a, _, 2, _, rfl, rfl, .of hS.top, rfl, _, _, rfl, rfl, _, rfl, a, _, 2, 2, rfl, rfl, hS.top, rfl, ?_⟩
  refine draw_loop hne (hS.put (c' := c0) (n' := n + 1) (s' := s0) hne) hc h0 h1 fun xs c s cell H1 ht hS hc h0 h1 kp bk => ?_
  have kp1 : ∀ x, x ≠ a → x ≠ b → ∀ o, H x = some o → H1 x = some o := fun x e1 e2 o h => kp x e1 e2 o (by rw [upd_ne e1]; exact h)
  have bk1 : ∀ x, H1 x = none → H x = none := fun x h => by
    by_cases e : x = a
    · rw [e, hS.top] at h; cases h
    · have := bk x h
      rwa [upd_ne e] at this
  clear kp bk
  refine ⟨_, rfl, a, _, 1, _, rfl, rfl, .of hS.top, rfl, _, _, rfl, rfl, _, rfl, ?_⟩
  show (if _ then _ else _)
  by_cases hp : 0 < c
  · rw [if_pos (by simpa using hp)]
    refine ⟨_, rfl, a, _, 1, _, rfl, rfl, .of hS.top, rfl, .inl ⟨_, rfl, _, rfl, _, _, rfl, rfl, hm0, ?_⟩⟩
    refine ⟨_, rfl, a, _, 1, _, rfl, rfl, .of hS.top, rfl, _, rfl, _, _, rfl, rfl, ⟨hm0, hm1⟩, _, rfl, a, _, 1, 1, rfl, rfl, hS.top, rfl, ?_⟩
    refine ⟨_, rfl, q _ _ (Int.emod_nonneg _ (by omega)) (Int.emod_lt_of_pos _ hm0) ⟨xs, _, s, by unfold drawV; rw [ht]; exact if_pos hp, hS.put hne, Int.ediv_nonneg hc (by omega), h0, h1⟩ (fun x e1 e2 o h => ?_) fun x h => ?_⟩
    · rw [upd_ne e1]; exact kp1 x e1 e2 o h
    · by_cases e : x = a
      · rw [e, upd_same] at h; cases h
      · rw [upd_ne e] at h; exact bk1 x h
  · rw [if_neg (by simpa using hp)]
    obtain ⟨Y, hY, e1, e2⟩ := wide_big
    rw [e1] at hnB
    have m0 : ∀ z : Int, 0 ≤ z % 2147483587 ∧ z % 2147483587 < 2147483587 := fun z => ⟨Int.emod_nonneg _ (by decide), Int.emod_lt_of_pos _ (by decide)⟩
    refine ⟨_, rfl, a, _, 3, _, rfl, rfl, .of hS.top, rfl, _, rfl, a, _, 2, _, rfl, rfl, .of hS.top, rfl, _, _, rfl, rfl, .inl ⟨by decide, by decide⟩, _, _, rfl, rfl, _, _, rfl, rfl, _, _, rfl, rfl, ⟨by decide, pow_bits (by omega) (by rw [e2]; omega) _ (by decide) (by decide)⟩, .inl ⟨_, rfl, _, _, rfl, rfl, (show (0 : Int) < 2147483587 from by decide), ?_⟩⟩
    obtain ⟨m1, m2⟩ := m0 ((s + 8191 * (n + 1) + 50021) ^ (5 : Int).toNat)
    generalize hz : (s + 8191 * (n + 1) + 50021) ^ (5 : Int).toNat % 2147483587 = z at m1 m2
    refine ⟨_, rfl, _, _, rfl, rfl, .inr ⟨by decide, by decide⟩, _, rfl, a, _, 2, _, rfl, rfl, .of hS.top, rfl, _, _, rfl, rfl, .inl ⟨by decide, by decide⟩, _, _, rfl, rfl, _, _, rfl, rfl, _, _, rfl, rfl, ⟨by decide, pow_bits (by omega) (by rw [e2]; omega) _ (by decide) (by decide)⟩, .inl ⟨_, rfl, _, _, rfl, rfl, (show (0 : Int) < 1000000009 from by decide), _, rfl, _, _, rfl, rfl, hm0, ?_⟩⟩
    exact q _ _ (Int.emod_nonneg _ (by omega)) (Int.emod_lt_of_pos _ hm0) ⟨xs, c, s, by unfold drawV; rw [ht]; refine (if_neg hp).trans ?_; unfold hashV; rw [hz], hS, hc, h0, h1⟩ kp1 bk1
theorem draw_reads {K : PySem.W.Frag} {H : Hp} {a b : Addr} {m : Int} {xs : List Int} {c n s : Int} (hne : a ≠ b) (hS : StrmAt H a b xs c n s) (hc : 0 ≤ c) (hn : 0 ≤ n) (hnB : n + 1 < 2 ^ 100001) (h0 : 0 ≤ s) (h1 : s < 2147483629) (hm0 : 0 < m) (hm1 : m < 1073741824)
    {Q : VK} {Qn : L2.St → Hp → Prop} (q : ∀ k H', 0 ≤ k → k < m → (∃ xs' c' s', StrmAt H' a b xs' c' (n + 1) s' ∧ 0 ≤ c' ∧ 0 ≤ s' ∧ s' < 2147483629) → (∀ x, x ≠ a → x ≠ b → ∀ o, H x = some o → H' x = some o) → (∀ x, H' x = none → H x = none) → Q (.int k) H') :
    drawAll K { nx := Qn, rt := Q } [some (.ref a), some (.int m), none, none, none] H :=
  draw_readsV hne hS hc hn hnB h0 h1 hm0 hm1 fun k H' k0 k1 ⟨xs', c', s', _, h⟩ => q k H' k0 k1 ⟨xs', c', s', h⟩
end DL

set_option Elab.async false
set_option linter.all false
set_option maxRecDepth 100000
set_option maxHeartbeats 4000000
/-! DL, part aa: the stream goes on for ever; letters drawn of it are not always one of a few. -/
namespace DL
open PySem PySem.Spec PyProof.Rows L2

/-- the stream: cells, the great number, how many draws, the mixed one -/
abbrev SS : Type := List Int × Int × Int × Int
def digS (m : Int) (t : SS) : Int := (drawV m t.1 t.2.1 t.2.2.1 t.2.2.2).1
def nextS (m : Int) (t : SS) : SS := ((drawV m t.1 t.2.1 t.2.2.1 t.2.2.2).2.1, (drawV m t.1 t.2.1 t.2.2.1 t.2.2.2).2.2.1, t.2.2.1 + 1, (drawV m t.1 t.2.1 t.2.2.1 t.2.2.2).2.2.2)
def itS (m : Int) : Nat → SS → SS
  | 0, t => t
  | i + 1, t => itS m i (nextS m t)
theorem itS_succ {m : Int} : ∀ {i : Nat} {t : SS}, itS m (i + 1) t = nextS m (itS m i t)
  | 0, _ => rfl
  | i + 1, t => itS_succ (i := i) (t := nextS m t)
theorem itS_add {m : Int} : ∀ {i j : Nat} {t : SS}, itS m (i + j) t = itS m j (itS m i t)
  | 0, j, t => by rw [Nat.zero_add]; rfl
  | i + 1, j, t => by
    rw [show i + 1 + j = (i + j) + 1 by omega]
    exact itS_add (i := i) (j := j) (t := nextS m t)
theorem takeC_nonneg : ∀ {xs : List Int} {c s : Int}, 0 ≤ c → 0 ≤ (takeC xs c s).2.1
  | [], _, _, h => h
  | x :: xs, c, s, h => by
    unfold takeC
    split
    · refine takeC_nonneg ?_
      split
      · split <;> omega
      · omega
    · exact h
theorem takeC_zero : ∀ {xs : List Int} {c s : Int}, (takeC xs c s).2.1 = 0 → (takeC xs c s).1 = []
  | [], _, _, _ => rfl
  | x :: xs, c, s, h => by
    unfold takeC at h ⊢
    split
    · rename_i hc
      rw [if_pos hc] at h
      exact takeC_zero h
    · rename_i hc
      rw [if_neg hc] at h
      exact absurd h hc
theorem takeC_le : ∀ {xs : List Int} {c s : Int}, (takeC xs c s).1.length ≤ xs.length
  | [], _, _ => Nat.le_refl _
  | x :: xs, c, s => by
    unfold takeC
    split
    · exact Nat.le_trans takeC_le (Nat.le_succ _)
    · exact Nat.le_refl _
theorem takeC_lt {x : Int} {xs : List Int} {s : Int} : (takeC (x :: xs) 0 s).1.length < (x :: xs).length := by
  rw [takeC_go]
  exact Nat.lt_succ_of_le takeC_le
/-- all cells are taken -/
def Dry (t : SS) : Prop := t.1 = [] ∧ t.2.1 = 0
theorem dry_next {m : Int} {t : SS} (h : Dry t) : nextS m t = ([], 0, t.2.2.1 + 1, t.2.2.2) ∧ digS m t = hashV t.2.2.2 (t.2.2.1 + 1) m := by
  obtain ⟨xs, c, n, s⟩ := t
  obtain ⟨h1, h2⟩ := h
  have h1 : xs = [] := h1
  have h2 : c = 0 := h2
  subst h1 h2
  exact ⟨rfl, rfl⟩
theorem dry_it {m : Int} : ∀ (i : Nat) {t : SS}, Dry t → itS m i t = ([], 0, t.2.2.1 + i, t.2.2.2)
  | 0, t, h => by
    obtain ⟨xs, c, n, s⟩ := t
    obtain ⟨h1, h2⟩ := h
    have h1 : xs = [] := h1
    have h2 : c = 0 := h2
    subst h1 h2
    show ([], 0, n, s) = (([], 0, n + (0 : Nat), s) : SS)
    simp
  | i + 1, t, h => by
    obtain ⟨e, _⟩ := dry_next (m := m) h
    show itS m i (nextS m t) = _
    rw [e, dry_it i ⟨rfl, rfl⟩]
    show (([], 0, t.2.2.1 + 1 + (i : Int), t.2.2.2) : SS) = ([], 0, t.2.2.1 + ((i + 1 : Nat) : Int), t.2.2.2)
    rw [show t.2.2.1 + 1 + (i : Int) = t.2.2.1 + ((i + 1 : Nat) : Int) by omega]
theorem next_ok {m : Int} (hm : 2 ≤ m) {t : SS} (hc : 0 ≤ t.2.1) : 0 ≤ (nextS m t).2.1 ∧ ((nextS m t).1.length < t.1.length ∨ ((nextS m t).1.length = t.1.length ∧ ((0 < t.2.1 ∧ 2 * (nextS m t).2.1 ≤ t.2.1) ∨ Dry (nextS m t)))) := by
  obtain ⟨xs, c, n, s⟩ := t
  have hc : 0 ≤ c := hc
  have nn := takeC_nonneg (xs := xs) (s := s) hc
  unfold nextS drawV
  show 0 ≤ (if 0 < (takeC xs c s).2.1 then _ else _ : Int × List Int × Int × Int).2.2.1 ∧ _
  by_cases hp : 0 < (takeC xs c s).2.1
  · simp only [if_pos hp]
    refine ⟨Int.ediv_nonneg nn (by omega), ?_⟩
    by_cases hz : c = 0
    · subst hz
      cases xs with
      | nil => exact absurd hp (by show ¬ (0 : Int) < 0; omega)
      | cons x xs => exact .inl takeC_lt
    · rw [takeC_stop hz] at hp ⊢
      refine .inr ⟨rfl, .inl ?_⟩
      refine ⟨hp, ?_⟩
      show 2 * (c / m) ≤ c
      have hq : 0 ≤ c / m := Int.ediv_nonneg hc (by omega)
      have h1 : 2 * (c / m) ≤ m * (c / m) := Int.mul_le_mul_of_nonneg_right hm hq
      have h2 : m * (c / m) ≤ c := Int.mul_ediv_self_le (by omega)
      omega
  · simp only [if_neg hp]
    refine ⟨nn, ?_⟩
    have hz : (takeC xs c s).2.1 = 0 := by omega
    have he := takeC_zero hz
    rcases Nat.lt_or_ge (takeC xs c s).1.length xs.length with h | h
    · exact .inl h
    · exact .inr ⟨Nat.le_antisymm takeC_le h, .inr ⟨he, hz⟩⟩
/-- so many cells, the great number of so many bits -/
def Bd (L k : Nat) (t : SS) : Prop := t.1.length ≤ L ∧ 0 ≤ t.2.1 ∧ t.2.1 < 2 ^ k ∧ CellsOk t.1 t.2.1
theorem cells_next {m : Int} (hm : 2 ≤ m) {t : SS} (h : CellsOk t.1 t.2.1) : CellsOk (nextS m t).1 (nextS m t).2.1 := drawV_cells (by omega) h
theorem cb_lt {W : Nat} (hW : CBIT = 2 ^ W) {t : SS} (h1 : 0 ≤ t.2.1) (h : CellsOk t.1 t.2.1) : t.2.1 < 2 ^ W := by
  have hc := h.2.2
  rw [hW] at hc
  have e : t.2.1 = ((t.2.1.natAbs : Nat) : Int) := (Int.natAbs_of_nonneg h1).symm
  rw [e]
  have := Int.ofNat_lt.mpr hc
  rw [Int.natCast_pow] at this
  exact this
theorem dry_soon {m : Int} (hm : 2 ≤ m) {W : Nat} (hW : CBIT = 2 ^ W) : ∀ (L k : Nat) (t : SS), Bd L k t → ∃ j, j ≤ L * (W + 1) + k ∧ Dry (itS m j t) := by
  intro L
  induction L with
  | zero =>
    intro k
    induction k with
    | zero => exact fun t ⟨h1, h2, h3, _⟩ => ⟨0, Nat.zero_le _, List.eq_nil_of_length_eq_zero (Nat.le_zero.mp h1), by show t.2.1 = 0; have : (2 : Int) ^ 0 = 1 := rfl; omega⟩
    | succ k ih =>
      intro t ⟨h1, h2, h3, h4⟩
      obtain ⟨n1, n2⟩ := next_ok hm h2
      have hs : (2 : Int) ^ (k + 1) = 2 ^ k * 2 := Int.pow_succ 2 k
      rcases n2 with n2 | ⟨n2, n3⟩
      · omega
      · rcases n3 with ⟨n3, n4⟩ | n3
        · obtain ⟨j, hj, hd⟩ := ih (nextS m t) ⟨by omega, n1, by omega, cells_next hm h4⟩
          exact ⟨j + 1, by omega, hd⟩
        · exact ⟨1, by omega, n3⟩
  | succ L ihL =>
    have hL : (L + 1) * (W + 1) = L * (W + 1) + W + 1 := by rw [Nat.add_mul]; omega
    have down : ∀ t : SS, (nextS m t).1.length < t.1.length → t.1.length ≤ L + 1 → 0 ≤ (nextS m t).2.1 → CellsOk (nextS m t).1 (nextS m t).2.1 → ∃ j, j ≤ (L + 1) * (W + 1) ∧ Dry (itS m j t) := fun t h1 h2 h3 h4 => by
      obtain ⟨j, hj, hd⟩ := ihL W (nextS m t) ⟨by omega, h3, cb_lt hW h3 h4, h4⟩
      exact ⟨j + 1, by omega, hd⟩
    intro k
    induction k with
    | zero =>
      intro t ⟨h1, h2, h3, h4⟩
      obtain ⟨n1, n2⟩ := next_ok hm h2
      have h0 : (2 : Int) ^ 0 = 1 := rfl
      rcases n2 with n2 | ⟨n2, n3⟩
      · exact down t n2 h1 n1 (cells_next hm h4)
      · rcases n3 with ⟨n3, _⟩ | n3
        · omega
        · exact ⟨1, by omega, n3⟩
    | succ k ih =>
      intro t ⟨h1, h2, h3, h4⟩
      obtain ⟨n1, n2⟩ := next_ok hm h2
      have hs : (2 : Int) ^ (k + 1) = 2 ^ k * 2 := Int.pow_succ 2 k
      rcases n2 with n2 | ⟨n2, n3⟩
      · obtain ⟨j, hj, hd⟩ := down t n2 h1 n1 (cells_next hm h4)
        exact ⟨j, by omega, hd⟩
      · rcases n3 with ⟨n3, n4⟩ | n3
        · obtain ⟨j, hj, hd⟩ := ih (nextS m t) ⟨by omega, n1, by omega, cells_next hm h4⟩
          exact ⟨j + 1, by omega, hd⟩
        · exact ⟨1, by omega, n3⟩
theorem pow_mod {a b p : Int} (h : a % p = b % p) : ∀ k : Nat, a ^ k % p = b ^ k % p
  | 0 => by rw [Int.pow_zero, Int.pow_zero]
  | k + 1 => by rw [Int.pow_succ, Int.pow_succ, Int.mul_emod, pow_mod h k, h, ← Int.mul_emod]
/-- the drawn number is, later and later on, each rest of a third power -/
theorem hash_hits (s N v : Int) : ∃ d : Nat, d ≤ 4611686018427387904 ∧ hashV s (N + d) 26 = v ^ 3 % 1000000009 % 26 := by
  generalize hM : (s + 8191 * N + 50021) ^ 5 % 2147483587 = M
  generalize hA : M * 40009 + 20011 * N + 31 = A
  generalize hu : (607854297 * (v - A)) / 1000000009 = u
  have ht0 : 0 ≤ (607854297 * (v - A)) % 1000000009 := Int.emod_nonneg _ (by decide)
  have ht1 : (607854297 * (v - A)) % 1000000009 < 1000000009 := Int.emod_lt_of_pos _ (by decide)
  generalize ht : (607854297 * (v - A)) % 1000000009 = t at ht0 ht1
  have hdiv : 607854297 * (v - A) = 1000000009 * u + t := by
    rw [← hu, ← ht]
    exact (Int.mul_ediv_add_emod _ _).symm
  refine ⟨(2147483587 * t).toNat, by omega, ?_⟩
  have hd : (((2147483587 * t).toNat : Nat) : Int) = 2147483587 * t := Int.toNat_of_nonneg (by omega)
  rw [hd]
  unfold hashV
  have e5 : (s + 8191 * (N + 2147483587 * t) + 50021) ^ (5 : Int).toNat % 2147483587 = M := by
    rw [← hM]
    refine pow_mod ?_ 5
    rw [show s + 8191 * (N + 2147483587 * t) + 50021 = s + 8191 * N + 50021 + 2147483587 * (8191 * t) by omega]
    exact Int.add_mul_emod_self_left _ _ _
  rw [e5]
  refine congrArg (· % 26) ?_
  refine pow_mod ?_ 3
  rw [show M * 40009 + 20011 * (N + 2147483587 * t) + 31 = v + 1000000009 * (26121501215192 * (v - A) - 42973294059457 * u) by omega]
  exact Int.add_mul_emod_self_left _ _ _
/-- ten of these rests are unlike -/
def tenV : List Int := [0, 1, 2, 4, 5, 7, 8, 13, 17, 14]
def tenK : List Int := tenV.map fun v => v ^ 3 % 1000000009 % 26
theorem tenK_eq : tenK = [0, 1, 8, 12, 21, 5, 18, 13, 25, 14] := by decide +kernel
/-- more turns are never made -/
def MAXT : Nat := 2 ^ 64
/-- some digit is drawn at some time -/
theorem dig_hits {t : SS} (hc : 0 ≤ t.2.1) (hk2 : CellsOk t.1 t.2.1) {k : Int} (hk : k ∈ tenK) : ∃ i, i + 1 ≤ MAXT ∧ digS 26 (itS 26 i t) = k := by
  obtain ⟨v, hv, rfl⟩ := List.mem_map.mp hk
  obtain ⟨W, hW, hWe⟩ : ∃ W : Nat, W = 1048576 ∧ CBIT = 2 ^ W := ⟨_, rfl, cbit_eq⟩
  obtain ⟨j, hjl, hj⟩ := dry_soon (m := 26) (by decide) hWe 1000 W t ⟨hk2.1, hc, cb_lt hWe hc hk2, hk2⟩
  clear hWe
  obtain ⟨d, hdl, hd⟩ := hash_hits (itS 26 j t).2.2.2 ((itS 26 j t).2.2.1 + 1) v
  refine ⟨j + d, ?_, ?_⟩
  · show j + d + 1 ≤ 18446744073709551616
    omega
  rw [itS_add, dry_it d hj]
  have := (dry_next (m := 26) (t := ([], 0, (itS 26 j t).2.2.1 + (d : Int), (itS 26 j t).2.2.2)) ⟨rfl, rfl⟩).2
  rw [this, ← hd]
  show hashV _ ((itS 26 j t).2.2.1 + (d : Int) + 1) 26 = _
  rw [show (itS 26 j t).2.2.1 + (d : Int) + 1 = (itS 26 j t).2.2.1 + 1 + (d : Int) by omega]
theorem nodup_le {α : Type} [DecidableEq α] : ∀ {l m : List α}, l.Nodup → (∀ x ∈ l, x ∈ m) → l.length ≤ m.length
  | [], _, _, _ => Nat.zero_le _
  | x :: l, m, h, hs => by
    have hx := hs x (by simp)
    have h2 := List.nodup_cons.mp h
    have := nodup_le (l := l) (m := m.erase x) h2.2 fun y hy => by
      have hne : y ≠ x := fun e => h2.1 (e ▸ hy)
      exact (List.mem_erase_of_ne hne).mpr (hs y (by simp [hy]))
    rw [List.length_erase_of_mem hx] at this
    have hpos : 0 < m.length := List.length_pos_of_mem hx
    simp only [List.length_cons]
    omega
/-- names made longer letter by letter are not for ever among a few -/
def nameAt (sh : Str → Int → Str) (nm : Str) (t : SS) : Nat → Str
  | 0 => nm
  | i + 1 => sh (nameAt sh nm t i) (digS 26 (itS 26 i t))
theorem name_out {sh : Str → Int → Str} {key : Str → Int} (hsh : ∀ nm k, 0 ≤ k → k < 26 → key (sh nm k) = k) {t : SS} (hc : 0 ≤ t.2.1) (hk2 : CellsOk t.1 t.2.1) (nm : Str) {found : List Str} (hf : found.length ≤ 9) : ∃ i, i ≤ MAXT ∧ nameAt sh nm t i ∉ found := by
  apply Classical.byContradiction
  intro no
  have al : ∀ i, i ≤ MAXT → nameAt sh nm t i ∈ found := fun i hi => Classical.byContradiction fun z => no ⟨i, hi, z⟩
  have hit : ∀ k ∈ tenK, ∃ x, x ∈ found ∧ key x = k := fun k hk => by
    obtain ⟨i, hil, hi⟩ := dig_hits hc hk2 hk
    have hr : 0 ≤ k ∧ k < 26 := by
      rw [tenK_eq] at hk
      revert hk
      simp only [List.mem_cons, List.not_mem_nil, or_false]
      omega
    refine ⟨nameAt sh nm t (i + 1), al _ hil, ?_⟩
    show key (sh _ (digS 26 (itS 26 i t))) = k
    rw [hi, hsh _ _ hr.1 hr.2]
  have h2 : tenK.length ≤ (found.map key).length := nodup_le (by rw [tenK_eq]; decide) fun k hk => by
    obtain ⟨x, hx, e⟩ := hit k hk
    exact List.mem_map.mpr ⟨x, hx, e⟩
  rw [tenK_eq, List.length_map] at h2
  simp only [List.length_cons, List.length_nil] at h2
  omega
/-- the first name that is out -/
theorem name_first {sh : Str → Int → Str} {key : Str → Int} (hsh : ∀ nm k, 0 ≤ k → k < 26 → key (sh nm k) = k) {t : SS} (hc : 0 ≤ t.2.1) (hk2 : CellsOk t.1 t.2.1) (nm : Str) {found : List Str} (hf : found.length ≤ 9) : ∃ i, i ≤ MAXT ∧ nameAt sh nm t i ∉ found ∧ ∀ j, j < i → nameAt sh nm t j ∈ found := by
  obtain ⟨i, hi, ho⟩ := name_out hsh hc hk2 nm hf
  clear hf
  have : ∀ n i, i ≤ n → i ≤ MAXT → nameAt sh nm t i ∉ found → ∃ i, i ≤ MAXT ∧ nameAt sh nm t i ∉ found ∧ ∀ j, j < i → nameAt sh nm t j ∈ found := by
    intro n
    induction n with
    | zero => exact fun i h0 h1 h2 => ⟨i, h1, h2, fun j hj => by omega⟩
    | succ n ih =>
      intro i h0 h1 h2
      by_cases hx : ∃ j, j < i ∧ nameAt sh nm t j ∉ found
      · obtain ⟨j, hj, h3⟩ := hx
        exact ih j (by omega) (by omega) h3
      · exact ⟨i, h1, h2, fun j hj => Classical.byContradiction fun z => hx ⟨j, hj, z⟩⟩
  exact this i i (Nat.le_refl _) hi ho
end DL

set_option Elab.async false
set_option linter.all false
set_option maxRecDepth 100000
set_option maxHeartbeats 4000000
/-! DL, part m: raising; calls by names; defs under a known pile of guards. -/
namespace DL
open PySem PySem.Spec PyProof.Rows L2

/-! ### all that stood stands -/
theorem keep_nn {H H' : Hp} (same : ∀ b o, H b = some o → H' b = some o) {b : Addr} (h : Nn H' b) : Nn H b := fun o e => h o (same b o e)
theorem keep_inv {F : Fx} {B : Nat} {H H' : Hp} (same : ∀ b o, H b = some o → H' b = some o) (I : F.inv B H) : F.inv B H' := fun p e => by
  obtain ⟨a, xs, c, n, s, h1, h2, r⟩ := I p e
  exact ⟨a, xs, c, n, s, same _ _ h1, same _ _ h2, r⟩
theorem exc_link {F : Fx} {E : XK} {XQ : XQT} {B : Nat} {R : Reg} {H H' : Hp} {C dx : Addr} {f : Str} {v : V} (hX : XLink F E XQ) (o : HpOk F B R H) (hB : B ≤ F.L) (same : ∀ b o, H b = some o → H' b = some o) (hq : XQ (.ref C) f v) (hd : H' dx = some (.xd [(f, v)])) : E (.ref C) (some dx) H' :=
  hX.2 C f v dx H' hq (fun a u m e nt => same a u (o.ent a u m e nt)) (fun a h => o.ent2 a (keep_nn same h)) (keep_inv same (o.inv.mono hB)) (o.tab.ext same) hd

/-! ### an own exception class with one field -/
structure ExT (K : PySem.W.Frag) (mg : Str → Option Value) (x fld : Str) (st : Stmt) where
  C : Addr
  fI : Addr
  fd : FuncData
  oex : OexC K C
  xf : XfC K C
  g : mg x = some (.ref C)
  iC : PySem.W.findIn K (.ref C) "__init__" = some (some (.ref fI))
  tI : PySem.W.typeIn K (.ref fI) = some (.type "function")
  no : PySem.W.findIn K (.ref C) fld = some none
  fi : FunD K "__init__" (x ++ ".__init__") (defArgs st) (defBody st) (defScope st) [] [] fI fd
  b : Binds K fd ["self", fld] []
/-- self.fld = v, of a new exception -/
def spI (K : PySem.W.Frag) (fld : Str) : Sp := fun vs H Q _ => ∃ (a C : Addr) (v : V), vs = [.ref a, v] ∧ H a = some (exo a C none) ∧ OexC K C ∧ PySem.W.findIn K (.ref C) fld = some none ∧
  ∀ dx, H dx = none → dx ≠ a → Q .non (upd (upd H dx (exd dx [(fld, v)])) a (exo a C (some dx)))
theorem init_ok {P : Program} {w : World} {K : PySem.W.Frag} {mg : Str → Option Value} {base : Heap} {x qual fld : Str} {pr : Arguments} {body : List Stmt} {scope : Scope} {f : Addr} {fd : FuncData} (F : FunD K x qual pr body scope [] [] f fd) (S : FnScope ["self", fld] ["self", fld] scope)
    (hb : ∀ (cdv : Value) (A : Around) (outer : List Env) (s : Shared) (H : Hp) (E : XK), PSs (cxOf (L2.CX P w) P w K mg base ["self", fld] qual scope f cdv A outer s H E) body (tOst K fld (tVar 0) (tVar 1))) :
    FnOk P w K mg base (L2.CX P w) 1 f fd ["self", fld] (spI K fld) := by
  refine F.ok S (fun vs H Q E h => ?_) (fun cdv A outer s H vs Q E hr h => ⟨_, hb cdv A outer s H E, ?_⟩)
  · obtain ⟨a, C, v, rfl, _⟩ := h
    rfl
  · obtain ⟨a, C, v, rfl, ha, T, no, q⟩ := h
    exact ⟨v, rfl, .ref a, rfl, a, C, rfl, T, no, .inl ⟨ha, fun dx h1 h2 => q dx h1 h2⟩⟩
section
variable {X : Cx} {E : XK} {c ca cb cc : Nat} {a b e : Expr} {es : List Expr} {fa fb fe : TD} {fs : TDs} {pos p rp : Pos} {x : Str}
/-- raise x(e) -/
theorem ds_raise {fld : Str} {st : Stmt} (l : List Nat) (T : ExT X.K X.mg x fld st) (F : FnOk X.prog X.w X.K X.mg X.base (L2.CX X.prog X.w) 1 T.fI T.fd ["self", fld] (spI X.K fld)) (hr : Room 2 X.A) (hc : X.calm = true) (tk : Takes X (fun cls d _ H => E cls d H)) (hx : Passes (L2.CX X.prog X.w) X (fun _ _ _ => False)) (hg : Gl X x)
    (ha : DA X E c [e] fs) (hdb : (x == ("__debug__" : Str)) = false := by decide) (hst : starEach [e] X.env = (false, eval e X.env) :: starEach [] X.env := by rfl) (hpl : (backTo pos (starEach [] X.env)).any (·.1) = false := by rfl) :
    DS X E c (.Raise (some (.Call (.Name x p) [e] [] pos)) none rp) (fun N ρ XQ => fs (frz l ρ) XQ fun xs => ∃ y, xs = [y] ∧ ∀ v, Conc y v → XQ (.ref T.C) fld v) := by
  obtain ⟨te, pe, s⟩ := ha
  refine ⟨_, ps_raise hc tk (pmk_oex T.oex T.iC T.tI F hr T.b .nil hx hg T.g pe hdb hst hpl), fun F' B R H σ ρ α XQ N K hK hX hB S h k => ?_⟩
  obtain ⟨R1, S1, h1⟩ := S.frzs l
  refine s F' B R1 H σ (frz l ρ) α XQ _ _ hK hX hB S1 h fun vs xs R' H1 e1 o1 r1 ⟨y, ey, q1⟩ => ?_
  subst ey
  cases r1 with
  | @cons _ v _ _ r1 rn =>
  cases rn
  refine ⟨(by simp), fun a0 ha => ?_⟩
  refine ⟨a0, T.C, v, rfl, upd_same, T.oex, T.no, fun dx hdx ne => ⟨rfl, dx, [(fld, v)], upd_same, by rw [upd_ne ne, upd_same], by rw [upd_ne ne] at hdx; exact hdx, ?_⟩⟩
  rw [upd_ne ne] at hdx
  refine exc_link hX o1 hB (fun b u hb => ?_) (q1 v r1.conc) upd_same
  have n1 := ne_of_none hb ha
  have n2 := ne_of_none hb hdx
  rw [upd_ne n2, del_ne n1, upd_ne n1, upd_ne n2, upd_ne n1]
  exact hb
end

/-! ### f(k = v, ..) -/
section
variable {X : Cx} {CX : CXT} {k n : Nat} {f : Addr} {fd : FuncData} {ps ks : List Str} {sp : Sp} {E : XK} {x : Str} {p pos : Pos} {kws : List Keyword} {tk : TA} {g : List Value → List Value → List Value} {gV : List V → List V → List V}
theorem pe_callNK (F : FnOk X.prog X.w X.K X.mg X.base CX k f fd ps sp) (hr : Room k X.A) (hg : Gl X x) (hm : X.mg x = some (.ref f)) (hk : PySem.W.keepIn X.K (.ref f) = true) (hb : KBn X.K fd ps 0 ks g gV) (hx : Passes CX X E) (hkw : PK X kws tk)
    (hall : (backToKw pos (keywordEach kws X.env)).all (·.1.isSome) = true := by rfl) (hks : (backToKw pos (keywordEach kws X.env)).filterMap (·.1) = ks := by rfl) (hdb : (x == ("__debug__" : Str)) = false := by decide)
    (hpl : ((backTo pos (starEach [] X.env)).any (·.1) || (backToKw pos (keywordEach kws X.env)).any (·.1.isNone)) = false := by rfl) :
    PE X (.Call (.Name x p) [] kws pos) (tCallN 0 ks.length sp gV E tNil tk) := by
  refine ⟨fun pins s σ H Q I h => wpAny_Call_Name_kw (ld_glob I hg hm (PySem.W.callWith_KW0 (h₀ := X.base) I.ok.mod.kin hk hall (thn (hkw.run pos pins s σ H _ I h) fun ws s2 ⟨zs, H2, I2, rz, l1, l2, q2⟩ => ⟨I2.kIn, ?_⟩) hpl) hdb)⟩
  rw [hks]
  exact run_fnN (us := []) (vs := []) F hr hb hx I2 .nil rz rfl l2 q2
end
end DL

set_option Elab.async false
set_option linter.all false
set_option maxRecDepth 100000
set_option maxHeartbeats 4000000
/-! DL, part n: repr; defs that run with no guard ahead. -/
namespace DL
open PySem PySem.Spec PyProof.Rows L2

/-! ### what repr shows -/
/-- a scalar, in a dict -/
def D.pyd0 : D → PyData
  | .bl b => .bool b
  | .int i => .int i
  | .str x => .str x
  | _ => .none
def D.shw0 : D → Bool
  | .non => true
  | .bl _ => true
  | .int i => decide (i.natAbs.log2 < 1920)
  | .str x => PyData.strOk x
  | _ => false
def D.wid0 : D → Nat
  | .non => 4
  | .bl _ => 5
  | .int _ => 1921
  | .str x => 10 * x.length + 2
  | _ => 0
def D.widK : List (D × D) → Nat
  | [] => 0
  | p :: r => (p.1.wid0 + p.2.wid0 + 6) + D.widK r
mutual
def D.pyd : D → PyData
  | .non => .none
  | .bl b => .bool b
  | .int i => .int i
  | .str x => .str x
  | .lst xs => .list (D.pydL xs)
  | .tup xs => .tuple (D.pydL xs)
  | .dct kvs => .dict (kvs.map fun p => (p.1.pyd0, p.2.pyd0))
  | .strm => .none
  | .vee _ => .none
  | .obj _ _ => .none
  | .bm _ _ => .none
def D.pydL : List D → List PyData
  | [] => []
  | x :: xs => D.pyd x :: D.pydL xs
end
mutual
def D.shw : D → Bool
  | .int i => decide (i.natAbs.log2 < 1920)
  | .str x => PyData.strOk x
  | .lst xs => D.shwL xs
  | .tup xs => D.shwL xs
  | .dct kvs => kvs.all fun p => p.1.shw0 && p.2.shw0
  | .strm => false
  | .vee _ => false
  | .obj _ _ => false
  | .bm _ _ => false
  | _ => true
def D.shwL : List D → Bool
  | [] => true
  | x :: xs => D.shw x && D.shwL xs
end
mutual
def D.wid : D → Nat
  | .non => 4
  | .bl _ => 5
  | .int _ => 1921
  | .str x => 10 * x.length + 2
  | .lst xs => D.widL xs + 2
  | .tup xs => D.widL xs + 3
  | .dct kvs => D.widK kvs + 2
  | _ => 2
def D.widL : List D → Nat
  | [] => 0
  | x :: xs => (D.wid x + 2) + D.widL xs
end
mutual
def D.hasD : D → Bool
  | .lst xs => D.hasDL xs
  | .tup xs => D.hasDL xs
  | .dct _ => true
  | _ => false
def D.hasDL : List D → Bool
  | [] => false
  | x :: xs => D.hasD x || D.hasDL xs
end
theorem listText_le (ts : List Str) : (listText ts).length ≤ piled ts + 2 := by
  cases ts with
  | nil => decide
  | cons t r =>
    have h := textFrom_length_pos r 1 (("[" : Str) ++ (if (0 : Nat) > 0 then ", " else "" : String) ++ t) (Nat.succ_pos 0)
    have e : ((("[" : Str) ++ (if (0 : Nat) > 0 then ", " else "" : String) ++ t)).length = 1 + t.length := by
      rw [strLen_append, strLen_append]; rfl
    have hX : (listText (t :: r)).length = (textFrom 0 "[" (t :: r)).length + 1 := by
      show (textFrom 0 "[" (t :: r) ++ "]").length = _
      rw [strLen_append]; rfl
    have hY : (textFrom 0 "[" (t :: r)).length = (textFrom 1 (("[" : Str) ++ (if (0 : Nat) > 0 then ", " else "" : String) ++ t) r).length := rfl
    rw [hX, hY, h, e, piled_cons]; omega
theorem tupleText_le (ts : List Str) : (tupleText ts).length ≤ piled ts + 3 := by
  unfold tupleText
  rw [strLen_append, strLen_append]
  have e1 : ((("(" : String) : Str)).length = 1 := rfl
  have e3 : (((if ts.length == 1 then ",)" else ")" : String) : Str)).length ≤ 2 := by split <;> decide
  have e2 : (Str.join ", " ts).length ≤ piled ts := by
    by_cases h : ts = []
    · subst h; decide
    · have := join_length_add ts h; omega
  rw [e1]
  omega
theorem strOk_small {x : Str} (h : PyData.strOk x = true) : ∀ c ∈ x.cps.toList, c < 16 ^ 8 := by
  intro c hc
  have h2 : c < 0x110000 := of_decide_eq_true (Array.all_eq_true_iff_forall_mem.mp h c (Array.mem_toList_iff.mp hc))
  exact Nat.lt_trans h2 (by decide)
theorem shown0_le : ∀ d : D, d.shw0 = true → d.pyd0.shown.length ≤ d.wid0
  | .non, _ => by decide
  | .bl b, _ => by cases b <;> decide
  | .int i, h => by
    have := int_text_len_1921 (i := i) (of_decide_eq_true (by simpa [D.shw0] using h))
    simpa [D.pyd0, PyData.shown, D.wid0] using this
  | .str x, h => StrLaws.reprText_len x (strOk_small (by simpa [D.shw0] using h))
theorem shownK_le : ∀ kvs : List (D × D), (kvs.all fun p => p.1.shw0 && p.2.shw0) = true → ((PyData.shownKv (kvs.map fun p => (p.1.pyd0, p.2.pyd0))).map (·.length)).sum + 4 * kvs.length ≤ D.widK kvs ∧ (PyData.shownKv (kvs.map fun p => (p.1.pyd0, p.2.pyd0))).length = kvs.length
  | [], _ => ⟨Nat.le_refl _, rfl⟩
  | (k, v) :: r, h => by
    rw [List.all_cons, Bool.and_eq_true, Bool.and_eq_true] at h
    obtain ⟨h1, h2⟩ := shownK_le r h.2
    have a := shown0_le k h.1.1
    have b := shown0_le v h.1.2
    rw [List.map_cons, PyData.shownKv, List.map_cons, List.sum_cons, List.length_cons, List.length_cons, D.widK, strLen_append, strLen_append]
    have e : ((": " : Str)).length = 2 := rfl
    rw [e]
    dsimp only at *
    omega
mutual
theorem shown_le : ∀ d : D, d.shw = true → d.pyd.shown.length ≤ d.wid
  | .non, _ => by decide
  | .bl b, _ => by cases b <;> decide
  | .int i, h => by
    have := int_text_len_1921 (i := i) (of_decide_eq_true (by simpa [D.shw] using h))
    simpa [D.pyd, PyData.shown, D.wid] using this
  | .str x, h => StrLaws.reprText_len x (strOk_small (by simpa [D.shw] using h))
  | .lst xs, h => by
    have := shownL_le xs (by simpa [D.shw] using h)
    have := listText_le (PyData.shownAll (D.pydL xs))
    simp only [D.pyd, PyData.shown, D.wid]
    omega
  | .tup xs, h => by
    have := shownL_le xs (by simpa [D.shw] using h)
    have := tupleText_le (PyData.shownAll (D.pydL xs))
    simp only [D.pyd, PyData.shown, D.wid]
    omega
  | .dct kvs, h => by
    have h : (kvs.all fun p => p.1.shw0 && p.2.shw0) = true := h
    cases kvs with
    | nil => exact (by decide : (dictText []).length ≤ 2)
    | cons p r =>
      obtain ⟨h1, h2⟩ := shownK_le (p :: r) h
      have h3 := dictText_len_le (PyData.shownKv ((p :: r).map fun p => (p.1.pyd0, p.2.pyd0)))
      simp only [D.pyd, PyData.shown, D.wid]
      rw [h2] at h3
      rw [List.length_cons] at h1 h3
      omega
theorem shownL_le : ∀ d : List D, D.shwL d = true → piled (PyData.shownAll (D.pydL d)) ≤ D.widL d
  | [], _ => Nat.le_refl _
  | x :: xs, h => by
    simp only [D.shwL, Bool.and_eq_true] at h
    have h1 := shown_le x h.1
    have h2 := shownL_le xs h.2
    simp only [D.pydL, PyData.shownAll, piled_cons, D.widL]
    omega
end
theorem shw0_ok : ∀ d : D, d.shw0 = true → d.pyd0.showable = true
  | .non, _ => rfl
  | .bl b, _ => rfl
  | .int i, h => by simpa [D.shw0, D.pyd0, PyData.showable] using h
  | .str x, h => rfl
theorem shwK_ok : ∀ kvs : List (D × D), (kvs.all fun p => p.1.shw0 && p.2.shw0) = true → PyData.showableKv (kvs.map fun p => (p.1.pyd0, p.2.pyd0)) = true
  | [], _ => rfl
  | (k, v) :: r, h => by
    rw [List.all_cons, Bool.and_eq_true, Bool.and_eq_true] at h
    rw [List.map_cons, PyData.showableKv, shw0_ok k h.1.1, shw0_ok v h.1.2, shwK_ok r h.2]
    rfl
theorem depK_pyd : ∀ kvs : List (D × D), PyData.depthKv (kvs.map fun p => (p.1.pyd0, p.2.pyd0)) = 0
  | [] => rfl
  | (k, v) :: r => by
    have z : ∀ d : D, d.pyd0.depth = 0 := fun d => by cases d <;> rfl
    rw [List.map_cons, PyData.depthKv, z, z, depK_pyd r]
    rfl
mutual
theorem shw_ok : ∀ d : D, d.shw = true → d.pyd.showable = true
  | .non, _ => rfl
  | .bl b, _ => rfl
  | .int i, h => by simpa [D.shw, D.pyd, PyData.showable] using h
  | .str x, h => rfl
  | .lst xs, h => by simpa [D.pyd, PyData.showable] using shwL_ok xs (by simpa [D.shw] using h)
  | .tup xs, h => by simpa [D.pyd, PyData.showable] using shwL_ok xs (by simpa [D.shw] using h)
  | .dct kvs, h => by simpa [D.pyd, PyData.showable] using shwK_ok kvs h
theorem shwL_ok : ∀ d : List D, D.shwL d = true → PyData.showableAll (D.pydL d) = true
  | [], _ => rfl
  | x :: xs, h => by
    simp only [D.shwL, Bool.and_eq_true] at h
    simp only [D.pydL, PyData.showableAll, shw_ok x h.1, shwL_ok xs h.2, Bool.and_self]
end
mutual
theorem hasD_pyd : ∀ d : D, d.pyd.hasDict = d.hasD
  | .non => rfl
  | .bl _ => rfl
  | .int _ => rfl
  | .str _ => rfl
  | .dct _ => rfl
  | .strm => rfl
  | .vee _ => rfl
  | .obj _ _ => rfl
  | .bm _ _ => rfl
  | .lst xs => by simp only [D.pyd, PyData.hasDict, D.hasD, hasDL_pyd xs]
  | .tup xs => by simp only [D.pyd, PyData.hasDict, D.hasD, hasDL_pyd xs]
theorem hasDL_pyd : ∀ d : List D, PyData.hasDictAll (D.pydL d) = D.hasDL d
  | [] => rfl
  | x :: xs => by simp only [D.pydL, PyData.hasDictAll, D.hasDL, hasD_pyd x, hasDL_pyd xs]
end
mutual
theorem dep_pyd : ∀ d : D, d.pyd.depth ≤ d.dep + 1
  | .non => Nat.zero_le _
  | .bl _ => Nat.zero_le _
  | .int _ => Nat.zero_le _
  | .str _ => Nat.zero_le _
  | .dct kvs => by simp only [D.pyd, PyData.depth, depK_pyd, D.dep]; omega
  | .strm => Nat.zero_le _
  | .vee _ => Nat.zero_le _
  | .obj _ _ => Nat.zero_le _
  | .bm _ _ => Nat.zero_le _
  | .lst xs => by have := depL_pyd xs; simp only [D.pyd, PyData.depth, D.dep]; omega
  | .tup xs => by have := depL_pyd xs; simp only [D.pyd, PyData.depth, D.dep]; omega
theorem depL_pyd : ∀ d : List D, PyData.depthAll (D.pydL d) ≤ D.depL d + 1
  | [] => Nat.zero_le _
  | x :: xs => by
    have h1 := dep_pyd x
    have h2 := depL_pyd xs
    simp only [D.pydL, PyData.depthAll, D.depL]
    omega
end
section
variable {X : Cx} {pins : List (Addr × Obj)} {σ : L2.St} {H : Hp} {s : Shared} {F : Fx} {R : Reg}
theorem reads0 {h : Heap} {F : Fx} {H : Hp} {R : Reg} {n : Bool} {d : D} {v : V} {u : Value} (rd : RpD F H R n v d) (hs : d.shw0 = true) (r : RelV v u) : Reads h u d.pyd0 [] := by
  cases d with
  | non => cases rd; cases r; exact .none
  | bl b => cases rd; cases r; exact .bool b
  | int i => cases rd; obtain ⟨t, rfl⟩ := r; exact .int i t
  | str x => cases rd; obtain ⟨t, rfl⟩ := r; exact .str x t
  | _ => exact absurd hs (by simp [D.shw0])
theorem readsK {h : Heap} {P : Program} {w : World} {F : Fx} {H : Hp} {R : Reg} {n : Bool} : ∀ {kvs : List (Key × V)} {ds : List (D × D)} {vs : List (Key × Value)} {es : List DictEntry}, RpK F H R n kvs ds → (ds.all fun p => p.1.shw0 && p.2.shw0) = true → KV kvs vs → Pairs (mixKind P w) es vs →
    ReadsAll h (es.map (·.key)) ((ds.map fun p => (p.1.pyd0, p.2.pyd0)).map (·.1)) [] ∧ ReadsAll h (es.map (·.val)) ((ds.map fun p => (p.1.pyd0, p.2.pyd0)).map (·.2)) [] := by
  intro kvs ds
  induction ds generalizing kvs with
  | nil =>
    intro vs es l _ hv hp
    cases l
    cases hv
    cases hp
    exact ⟨.nil, .nil⟩
  | cons p ds ih =>
    intro vs es l hs hv hp
    rw [List.all_cons, Bool.and_eq_true, Bool.and_eq_true] at hs
    cases hv with
    | nil => cases l
    | @cons kv q kvs qs r1 r2 =>
      obtain ⟨r0, r1⟩ := r1
      cases hp with
      | cons p1 p2 p3 =>
        have key : ∀ (k : Key) (x : D) (u : Value), q.1 = k → x = (match k with | .inl i => D.int i | .inr y => D.str y) → (mixKind P w).is q.1 u = true → Reads h u x.pyd0 [] := fun k x u e1 e2 e3 => by
          subst e2
          rw [e1] at e3
          rcases keyIs_shape (k := k) (v := u) e3 with ⟨i, t, rfl, rfl⟩ | ⟨x, t, rfl, rfl⟩
          · exact .int i t
          · exact .str x t
        cases l with
        | consI a t =>
          obtain ⟨q1, q2⟩ := ih t hs.2 r2 p3
          exact ⟨ReadsAll.cons (as := []) (bs := []) (key _ _ _ r0.symm rfl p1) q1, ReadsAll.cons (as := []) (bs := []) (reads0 a hs.1.2 (by show L2.RelV _ (DictEntry.val _); rw [p2]; exact r1)) q2⟩
        | consS a t =>
          obtain ⟨q1, q2⟩ := ih t hs.2 r2 p3
          exact ⟨ReadsAll.cons (as := []) (bs := []) (key _ _ _ r0.symm rfl p1) q1, ReadsAll.cons (as := []) (bs := []) (reads0 a hs.1.2 (by show L2.RelV _ (DictEntry.val _); rw [p2]; exact r1)) q2⟩
mutual
theorem RpD.reads (hK : F.K = X.K) (I : Inv X pins σ H s) : ∀ {n : Bool} {d : D} {v : V} {u : Value}, RpD F H R n v d → d.shw = true → RelV v u → ∃ as, Reads s.heap u d.pyd as ∧ ∀ a ∈ as, H a ≠ none
  | _, _, _, _, .non, _, r => by cases r; exact ⟨_, .none, fun _ h => nomatch h⟩
  | _, _, _, _, .bl b, _, r => by cases r; exact ⟨_, .bool b, fun _ h => nomatch h⟩
  | _, _, _, _, .int i, _, r => by obtain ⟨t, rfl⟩ := r; exact ⟨_, .int i t, fun _ h => nomatch h⟩
  | _, _, _, _, .str x, _, r => by obtain ⟨t, rfl⟩ := r; exact ⟨_, .str x t, fun _ h => nomatch h⟩
  | _, _, _, _, .lst ha _ _ l, h, r => by
    cases r
    obtain ⟨its, rv, ⟨o, n, ho, hc, _, hd⟩, _⟩ := I.list (.of ha)
    obtain ⟨as, hr, hn⟩ := RpL.readsAll hK I l (by simpa [D.shw] using h) rv
    refine ⟨_, .list ho hc hd hr, fun b hb => ?_⟩
    rcases List.mem_cons.mp hb with e | hb
    · rw [e, ha]; exact fun z => nomatch z
    · exact hn b hb
  | _, _, _, _, .tup ha l, h, r => by
    cases r
    obtain ⟨its, rv, ⟨o, ho, hc, n, hd⟩, _⟩ := I.tuple (by rw [← hK]; exact ha)
    obtain ⟨as, hr, hn⟩ := RpL.readsAll hK I l (by simpa [D.shw] using h) rv
    exact ⟨_, .tuple ho hc hd hr, hn⟩
  | _, _, _, _, .dK (kvs := kvs) (ds := ds) ha _ _ l, h, r => by
    cases r
    obtain ⟨_, _, vs, hv, o, es, ep, ho, hx, hd, _, hp, _⟩ := ha.rd.ok I.hok
    obtain ⟨q1, q2⟩ := readsK (h := s.heap) l h hv hp
    exact ⟨_, .dict ho hx.1 hd q1 q2, fun b hb => by simp at hb; rw [hb]; exact ha.ne⟩
  | _, _, _, _, .dT (kvs := kvs) (ds := ds) ha _ _ l, h, r => by
    cases r
    cases l with
    | one _ _ => exact absurd h (by simp [D.shw, D.shw0])
    | cons _ _ _ => exact absurd h (by simp [D.shw, D.shw0])
  | _, _, _, _, .strm _, h, _ => by cases h
  | _, _, _, _, .vee _, h, _ => by cases h
  | _, _, _, _, .obj _ _ _ _ _ _, h, _ => by cases h
  | _, _, _, _, .bm _ _ _ _, h, _ => by cases h
theorem RpL.readsAll (hK : F.K = X.K) (I : Inv X pins σ H s) : ∀ {n : Bool} {ds : List D} {vs : List V} {us : List Value}, RpL F H R n vs ds → D.shwL ds = true → Vals vs us → ∃ as, ReadsAll s.heap us (D.pydL ds) as ∧ ∀ a ∈ as, H a ≠ none
  | _, _, _, _, .nil, _, r => by cases r; exact ⟨_, .nil, fun _ h => nomatch h⟩
  | _, _, _, _, .cons a l, h, r => by
    simp only [D.shwL, Bool.and_eq_true] at h
    cases r with
    | cons r1 r2 =>
      obtain ⟨as, q1, n1⟩ := RpD.reads hK I a h.1 r1
      obtain ⟨bs, q2, n2⟩ := RpL.readsAll hK I l h.2 r2
      exact ⟨_, .cons q1 q2, fun b hb => (List.mem_append.mp hb).elim (n1 b) (n2 b)⟩
end
end
section
variable {X : Cx}
def rRepr (K : PySem.W.Frag) : List V → Hp → VK → Prop := fun xs H Q => ∃ (F : Fx) (R : Reg) (n : Bool) (v : V) (d : D), F.K = K ∧ xs = [v] ∧ RpD F H R n v d ∧ d.shw = true ∧ d.wid ≤ BIG ∧ d.dep ≤ 60 ∧ (d.hasD = true → ∃ o, K.lookup sysModules = some o) ∧ Q (.str d.pyd.shown) H
theorem reads_obj {h : Heap} {u : Value} {d : D} {as : List Addr} (r : Reads h u d.pyd as) : (∃ a, u = .ref a) ∨ (d.pyd = .none ∧ u = .none) ∨ (∃ b, d.pyd = .bool b ∧ u = .bool b) ∨ (∃ i t, d.pyd = .int i ∧ u = .int i t) ∨ ∃ x t, d.pyd = .str x ∧ u = .str x t := by
  generalize d.pyd = e at r
  cases r with
  | none => exact .inr (.inl ⟨rfl, rfl⟩)
  | bool b => exact .inr (.inr (.inl ⟨b, rfl, rfl⟩))
  | int i t => exact .inr (.inr (.inr (.inl ⟨i, t, rfl, rfl⟩)))
  | str x t => exact .inr (.inr (.inr (.inr ⟨x, t, rfl, rfl⟩)))
  | list => exact .inl ⟨_, rfl⟩
  | tuple => exact .inl ⟨_, rfl⟩
  | dict => exact .inl ⟨_, rfl⟩
theorem call_repr (hg : X.A.guards = some []) (hr : Room 0 X.A) : CallR X (.builtin "repr") (rRepr X.K) := by
  intro pins s σ H xs us Q I r h
  obtain ⟨F, R, n, v, d, hK, rfl, rd, hs, hw, hd, hm, q⟩ := h
  obtain ⟨u, rfl, ru⟩ := vals1 r
  obtain ⟨as, R1, hn⟩ := rd.reads hK I hs ru
  have hz : d.pyd.shown.length ≤ sizeLine := Nat.le_trans (shown_le d hs) (Nat.le_trans hw (by decide))
  rcases reads_obj R1 with ⟨a, rfl⟩ | ⟨e, rfl⟩ | ⟨b, e, rfl⟩ | ⟨i, t, e, rfl⟩ | ⟨x, t, e, rfl⟩
  · have hu := hr.units
    have hp := dep_pyd d
    exact repr_of_reads' (h₀ := s.heap) R1 (shw_ok d hs) (fun hd' hmem => by
      rw [hasD_pyd] at hd'
      obtain ⟨o, ho⟩ := hm hd'
      exact hn _ hmem (I.bs sysModules o (I.ok.mod.kin _ _ ho)).2) hg (by omega) (fun _ _ e => e) (fun h' u tk hk => ⟨.str _, H, I.kept hk, ⟨_, rfl⟩, q⟩) hz
  · rw [e] at q
    exact P.repr_of_none ⟨.str _, H, I.tok _, ⟨_, rfl⟩, q⟩
  · rw [e] at q
    exact P.repr_of_bool ⟨.str _, H, I.tok _, ⟨_, rfl⟩, q⟩
  · have hs' := shw_ok d hs
    rw [e] at q hs'
    exact P.repr_of_int (of_decide_eq_true hs') ⟨.str _, H, I.tok _, ⟨_, rfl⟩, q⟩
  · rw [e] at q hz
    exact P.repr_of_str ⟨.str _, H, I.tok _, ⟨_, rfl⟩, q⟩ hz
/-- what repr asks, what it tells -/
def gRepr (K : PySem.W.Frag) : Dv → (Dv → Prop) → Prop := fun x Q => x.d.shw = true ∧ x.d.wid ≤ BIG ∧ x.d.dep ≤ 60 ∧ (x.d.hasD = true → ∃ o, K.lookup sysModules = some o) ∧ Q ⟨.str x.d.pyd.shown, true, none⟩
theorem dcl_repr (hg : X.A.guards = some []) (hr : Room 0 X.A) : DCl X (.builtin "repr") (g1 (gRepr X.K)) :=
  dcl1 (call_repr hg hr) fun F B R H v x Q K hK I rx ⟨h1, h2, h3, h4, q⟩ k => ⟨F, R, _, v, x.d, hK, rfl, rx.1, h1, h2, h3, h4, k _ _ R H .refl I (.of (.str _)) q⟩
end
end DL

set_option Elab.async false
set_option linter.all false
set_option maxRecDepth 100000
set_option maxHeartbeats 4000000
/-! DL, part o: defs run with no guard ahead; keyword calls by value; lambdas handed to a def that catches. -/
namespace DL
open PySem PySem.Spec PyProof.Rows L2

/-- a def's promise where no guard stands ahead -/
structure FnG (P : Program) (w : World) (K : PySem.W.Frag) (mg : Str → Option Value) (base : Heap) (k : Nat) (f : Addr) (fd : FuncData) (ps : List Str) (cost : Nat) (g : DC) : Prop where
  run : ∀ (A : Around) (outer : List Env) (s : Shared) (H : Hp) (args : Args) (us : List Value) (vs : List V) (Q : VK) (E : XK), Room k A → A.guards = some [] → Env0 P w K mg base A outer s H → BindsTo s fd args (ps.zip us) → Vals vs us → spD K ps.length cost g vs H Q E →
    codeAny (model P w) A (.call (.ref f) args) (CR (L2.CX P w) outer P w H s Q E) s
/-- a body's reading gives what the caller wishes -/
theorem body_core {X : Cx} {E : XK} {c cost : Nat} {body : List Stmt} {gb : TDS} {g : DC} {N ps : List Str} {vs : List V} {H : Hp} {Q : VK} (hD : DSs X E c body gb) (hc : c ≤ cost)
    (hg : ∀ ds vs XQ Q, ds.length = ps.length → vs.length = ps.length → g ds vs XQ Q → gb { nx := fun _ => Q ⟨.non, true, none⟩, rt := fun r => Q { r with v := none } } (params ds vs (N.length - vs.length)) XQ)
    (h : spD X.K ps.length cost g vs H Q E) : ∃ t, PSs X body t ∧ t { nx := fun _ H' => Q .non H', rt := Q } (L2.start N vs) H := by
  obtain ⟨hl, R, st, L, B, ds, XQ, QD, o, hB, r, q, hX, k⟩ := h
  obtain ⟨t, p, sm⟩ := hD
  have hd : ds.length = ps.length := by rw [Paired.length r]; exact hl
  refine ⟨t, p, sm ⟨X.K, H, R, st, L, Nn H⟩ B R H (L2.start N vs) (params ds vs (N.length - vs.length)) (fun _ => 0) XQ _ _ rfl hX (show B + c ≤ L by omega) ⟨o, ?_, start_get r N, fun i d n z => absurd z params_ow, fun i j d n d' n' z => absurd z params_ow⟩ (hg ds vs XQ QD hd hl q) ?_⟩
  · unfold L2.start params
    rw [List.length_append, List.length_append, List.length_map, List.length_replicate, List.length_replicate, List.length_zipWith, hd, hl, Nat.min_self]
  have fin : ∀ {R' H'}, Fz ⟨X.K, H, R, st, L, Nn H⟩ R H R' H' → HpOk ⟨X.K, H, R, st, L, Nn H⟩ (B + cost) R' H' → Ext ⟨X.K, H, R, st, L, Nn H⟩ R H R' H' := fun z o' => ⟨z.reg, o'.ent, o'.reg0, o'.ent2⟩
  exact ⟨fun σ' H' ρ' R' α' z S' q' => k .non ⟨.non, true, none⟩ R' H' (fin z (S'.hp.mono (by omega))) (S'.hp.mono (by omega)) (.of .non) q', fun v x R' H' z o' r' q' => k v { x with v := none } R' H' (fin z (o'.mono (by omega))) (o'.mono (by omega)) (.of r'.1) q', fun _ _ _ _ _ _ _ q => q.elim, fun _ _ _ _ _ _ _ q => q.elim⟩
theorem fnG_ok {P : Program} {w : World} {K : PySem.W.Frag} {mg : Str → Option Value} {base : Heap} {x qual : Str} {pr : Arguments} {body : List Stmt} {scope : Scope} {f : Addr} {fd : FuncData} {N ps : List Str} {k cost : Nat} {g : DC} (F : FunD K x qual pr body scope [] [] f fd) (S : FnScope N ps scope)
    (hbody : ∀ (A : Around) (outer : List Env) (s : Shared) (H : Hp) (E : XK), Room k (A.deeper (envOfC qual scope s.heap.objs.size f fd.code)) → A.guards = some [] →
      ∃ (c : Nat) (gb : TDS), DSs (cxOf (L2.CX P w) P w K mg base N qual scope f fd.code A outer s H E) E c body gb ∧ c ≤ cost ∧ ∀ ds vs XQ Q, ds.length = ps.length → vs.length = ps.length → g ds vs XQ Q → gb { nx := fun _ => Q ⟨.non, true, none⟩, rt := fun r => Q { r with v := none } } (params ds vs (N.length - vs.length)) XQ) : FnG P w K mg base (k + 1) f fd ps cost g := by
  obtain ⟨oc, od, dV, kV, doc, pm, an, cdv, ct, osl, rfl, lk, hcd, _, _⟩ := F.ex
  refine ⟨fun A outer s H args us vs Q E hr hgd e0 hb r h => LamX.run_ofS (N := N) lk hcd S hr e0 hb r h.1 fun hr' => ?_⟩
  obtain ⟨c, gb, hD, hc, hg⟩ := hbody A outer s H E hr' hgd
  exact body_core hD hc hg h
section
variable {X : Cx} {E : XK} {c ca cb cc : Nat} {a b e : Expr} {es : List Expr} {fa fb fe : TD} {fs : TDs} {pos p rp : Pos} {x : Str}
theorem pe_callG {k cost : Nat} {f : Addr} {fd : FuncData} {ps : List Str} {g : DC} {t : TA} (F : FnG X.prog X.w X.K X.mg X.base k f fd ps cost g) (hr : Room k X.A) (hgd : X.A.guards = some []) (hg : Gl X x) (hm : X.mg x = some (.ref f)) (hk : PySem.W.keepIn X.K (.ref f) = true) (hb : Binds X.K fd ps []) (hx : Passes (L2.CX X.prog X.w) X E)
    (ha : PA X (e :: es) t) (hdb : (x == ("__debug__" : Str)) = false := by decide) (he : starEach (e :: es) X.env = (false, eval e X.env) :: starEach es X.env := by rfl) (hpl : (backTo pos (starEach es X.env)).any (·.1) = false := by rfl) :
    PE X (.Call (.Name x p) (e :: es) [] pos) (fun σ H Q => t σ H fun vs H1 => spD X.K ps.length cost g vs H1 Q E) := by
  refine ⟨fun pins s σ H Q I h => wpAny_Call_Name_kw (ld_glob I hg hm (PySem.W.callWith_K (h₀ := X.base) I.ok.mod.kin hk (thn (ha.run pos pins s σ H _ I h) fun us s1 ⟨vs, H1, I1, r, q⟩ => ⟨I1.kIn, ?_⟩) he hpl) hdb)⟩
  have hl : us.length = ps.length := by rw [← r.length]; exact q.1
  have hbs := hb s1 us I1.kIn (by rw [List.append_nil]; exact hl)
  rw [List.append_nil] at hbs
  refine wpAny_call (codeAny_mono (F.run X.A X.stack s1 H1 ⟨us, []⟩ us vs Q E hr hgd I1.env0 hbs r q) fun r s' hq => ?_)
  cases r with
  | error e => exact hx pins σ H1 s1 e s' I1 hq
  | ok fl =>
    cases fl with
    | ret u => exact I1.after hq
    | next => exact False.elim hq
    | brk => exact False.elim hq
    | cont => exact False.elim hq
theorem de_callG {k : Nat} {f : Addr} {fd : FuncData} {ps : List Str} {cost : Nat} {g : DC} (F : FnG X.prog X.w X.K X.mg X.base k f fd ps cost g) (hr : Room k X.A) (hgd : X.A.guards = some []) (hg : Gl X x) (hm : X.mg x = some (.ref f)) (hk : PySem.W.keepIn X.K (.ref f) = true) (hb : Binds X.K fd ps [])
    (hx : Passes (L2.CX X.prog X.w) X E) (hn : (e :: es).length = ps.length) (ha : DA X E c (e :: es) fs) (hdb : (x == ("__debug__" : Str)) = false := by decide) (he : starEach (e :: es) X.env = (false, eval e X.env) :: starEach es X.env := by rfl) (hpl : (backTo pos (starEach es X.env)).any (·.1) = false := by rfl) :
    DE X E (c + cost) (.Call (.Name x p) (e :: es) [] pos) (fun ρ XQ Q => fs ρ XQ fun xs => xs.length = ps.length ∧ gCall g ρ XQ xs Q) := by
  obtain ⟨t, pt, s⟩ := ha
  refine ⟨_, pe_callG F hr hgd hg hm hk hb hx pt hdb he hpl, fun F B R H σ ρ α XQ Q K hK hX hB S h k => ?_⟩
  refine s F B R H σ ρ α XQ _ _ hK hX (by omega) S h fun vs xs R' H' e' o' r' ⟨hl, q'⟩ => ?_
  exact call_core hK hX (by omega) o' r' hl q' fun v x R2 H2 e2 o2 r2 q2 => k v x R2 H2 (e'.trans e2) (by rw [← Nat.add_assoc]; exact o2) r2 q2

/-! ### f(k = v, ..) -/
def DK (X : Cx) (E : XK) (c : Nat) (kws : List Keyword) (f : TDs) : Prop := ∃ t : TA, PK X kws t ∧ ∀ F B R H σ ρ α XQ Q (K : List V → Hp → Prop), F.K = X.K → XLink F E XQ → B + c ≤ F.L → StOk F B R H σ ρ α → f ρ XQ Q →
  (∀ vs xs R' H', Ext F R H R' H' → HpOk F (B + c) R' H' → Paired (fun x v => Rp F H' R' x v) xs vs → Q xs → K vs H') → t σ H K
theorem dk_nil : DK X E 0 [] (fun _ _ Q => Q []) := ⟨_, pk_nil, fun F B R H σ ρ α XQ Q K _ _ _ S h k => k [] [] R H .refl S.hp .nil h⟩
theorem dk_cons {kws : List Keyword} {nm : Option Str} {kpos : Pos} (ha : DE X E ca a fa) (hr : DK X E cb kws fs) : DK X E (ca + cb) (⟨nm, a, kpos⟩ :: kws) (fun ρ XQ Q => fa ρ XQ fun x => fs ρ XQ fun xs => Q (x :: xs)) := by
  obtain ⟨t, p, s⟩ := ha
  obtain ⟨u, p2, s2⟩ := hr
  refine ⟨_, pk_cons p p2, fun F B R H σ ρ α XQ Q K hK hX hB S h k => ?_⟩
  refine s F B R H σ ρ α XQ _ _ hK hX (by omega) S h fun v x R1 H1 e1 o1 r1 q1 => ?_
  exact s2 F (B + ca) R1 H1 σ ρ α XQ _ _ hK hX (by omega) (S.ext e1 o1) q1 fun vs xs R2 H2 e2 o2 r2 q2 => k (v :: vs) (x :: xs) R2 H2 (e1.trans e2) (by rw [← Nat.add_assoc]; exact o2) (.cons (r1.ext o1 e2) r2) q2
/-- the parameters' order: the places of the keywords' values -/
def pickL {α : Type} (ix : List Nat) (xs : List α) : List α := ix.filterMap fun i => xs[i]?
theorem paired_get {α β : Type} {r : α → β → Prop} {xs : List α} {ys : List β} (h : Paired r xs ys) : ∀ i : Nat, (xs[i]? = none ∧ ys[i]? = none) ∨ ∃ x y, xs[i]? = some x ∧ ys[i]? = some y ∧ r x y := by
  induction h with
  | nil => intro i; exact .inl ⟨rfl, rfl⟩
  | @cons a b _ _ q _ ih =>
    intro i
    cases i with
    | zero => exact .inr ⟨_, _, rfl, rfl, q⟩
    | succ j => simpa using ih j
theorem paired_pick {α β : Type} {r : α → β → Prop} {xs : List α} {ys : List β} (h : Paired r xs ys) : ∀ ix : List Nat, Paired r (pickL ix xs) (pickL ix ys)
  | [] => .nil
  | i :: ix => by
    unfold pickL
    rw [List.filterMap_cons, List.filterMap_cons]
    rcases paired_get h i with ⟨e1, e2⟩ | ⟨x, y, e1, e2, q⟩
    · rw [e1, e2]; exact paired_pick h ix
    · rw [e1, e2]; exact .cons q (paired_pick h ix)
theorem kbn_of {K : PySem.W.Frag} {x qual : Str} {pr : Arguments} {body : List Stmt} {scope : Scope} {f : Addr} {fd : FuncData} {ps ks : List Str} (ix : List Nat) (F : FunD K x qual pr body scope [] [] f fd)
    (h : ∀ (kV doc pm : Value) (an : Option Addr) (cdv ct : Value) (ws : List Value), ws.length = ks.length → bindArgs (PySem.W.fnOf x qual pr body scope .none kV doc pm an cdv ct) ⟨[], ks.zip ws⟩ = pure (ps.zip (pickL ix ws))) : KBn K fd ps 0 ks (fun _ ws => pickL ix ws) (fun _ zs => pickL ix zs) := by
  obtain ⟨oc, od, dV, kV, doc, pm, an, cdv, ct, osl, rfl, lk, hcd, hD, hK⟩ := F.ex
  rcases hD with ⟨_, rfl⟩ | ⟨e, _⟩
  · refine ⟨fun s us ws X l1 l2 => ?_, fun r1 r2 => paired_pick r2 ix⟩
    rw [List.length_eq_zero_iff.mp l1]
    exact .of_eq (h kV doc pm an cdv ct ws l2)
  · exact absurd rfl e
theorem de_callNK {k : Nat} {f : Addr} {fd : FuncData} {ps ks : List Str} {cost : Nat} {g : DC} {kws : List Keyword} {ix : List Nat} (F : FnD X.prog X.w X.K X.mg X.base k f fd ps cost g) (hr : Room k X.A) (hg : Gl X x) (hm : X.mg x = some (.ref f)) (hk : PySem.W.keepIn X.K (.ref f) = true) (hb : KBn X.K fd ps 0 ks (fun _ ws => pickL ix ws) (fun _ zs => pickL ix zs))
    (hx : Passes (L2.CX X.prog X.w) X E) (ha : DK X E c kws fs) (hall : (backToKw pos (keywordEach kws X.env)).all (·.1.isSome) = true := by rfl) (hks : (backToKw pos (keywordEach kws X.env)).filterMap (·.1) = ks := by rfl) (hdb : (x == ("__debug__" : Str)) = false := by decide)
    (hpl : ((backTo pos (starEach [] X.env)).any (·.1) || (backToKw pos (keywordEach kws X.env)).any (·.1.isNone)) = false := by rfl) :
    DE X E (c + cost) (.Call (.Name x p) [] kws pos) (fun ρ XQ Q => fs ρ XQ fun xs => xs.length = ks.length ∧ (pickL ix xs).length = ps.length ∧ gCall g ρ XQ (pickL ix xs) Q) := by
  obtain ⟨t, pt, s⟩ := ha
  refine ⟨_, pe_callNK F hr hg hm hk hb hx pt hall hks hdb hpl, fun F B R H σ ρ α XQ Q K hK hX hB S h k => ?_⟩
  refine s F B R H σ ρ α XQ _ _ hK hX (by omega) S h fun vs xs R' H' e' o' r' ⟨hl0, hl, q'⟩ => ⟨rfl, by rw [← Paired.length r']; exact hl0, ?_⟩
  exact call_core hK hX (by omega) o' (paired_pick r' ix) hl q' fun v x R2 H2 e2 o2 r2 q2 => k v x R2 H2 (e'.trans e2) (by rw [← Nat.add_assoc]; exact o2) r2 q2
end
end DL

set_option Elab.async false
set_option linter.all false
set_option maxRecDepth 100000
set_option maxHeartbeats 4000000
/-! DL, part p: a lambda handed to a def that tells it or catches. -/
namespace DL
open PySem PySem.Spec PyProof.Rows L2 LamX

/-- try: return (s1, a()) / except x as n: return (s2, n.fld) -/
def TTm (K : PySem.W.Frag) (C : Addr) (fld s1 s2 : Str) : (XK → Hp → VK → Prop) → Hp → VK → Prop := fun tl H Q =>
  tl (fun cls d H' => ∃ b, PySem.W.exmOne K cls (.ref C) = some b ∧ (b = true → cls = .ref C ∧ ∃ (dd : Addr) (fs : List (Str × V)) (v : V), d = some dd ∧ H' dd = some (.xd fs) ∧ fs.lookup fld = some v ∧ ∀ p, H' p = none → Q (.ref p) (upd H' p (.tup [.str s2, v]))) ∧ (b = false → False)) H
    (fun v H1 => [V.str s1, v].length ≤ sizeLine ∧ ∀ p, H1 p = none → Q (.ref p) (upd H1 p (.tup [.str s1, v])))
theorem takes_len {X : Cx} {W : WX} (tk : Takes X W) : Takes X (fun c d σ H => σ.length = X.N.length → W c d σ H) := fun u s' ⟨a, B, sI, pins, σ, H, cls, d, e, I, nb, up, sky, na, os, ag, w⟩ =>
  tk u s' ⟨a, B, sI, pins, σ, H, cls, d, e, I, nb, up, sky, na, os, ag, w I.len⟩
theorem set_at1 {α : Type} {l : List α} {x : α} (h : l.length = 2) : (l.set 1 x)[1]? = some x := by
  rw [List.getElem?_set]
  simp [h]
section
variable {X : Cx}
theorem met_gives {Ng : List Str} {x a e n q fld s1 s2 : Str} {sg : Scope} {g C : Addr} {cdg : Value} {j j2 k k2 : Nat} {p1 p2 p3 p4 p5 p6 p7 p8 p9 p10 p11 p12 p13 p14 : Pos} (T : XfC X.K C) (hno : PySem.W.findIn X.K (.ref C) fld = some none)
    (hge : sg.names.lookup e = some .globalImplicit) (hme : X.mg e = some (.ref C)) (hde : (e == ("__debug__" : Str)) = false) (hNg : Ng = [a, n]) (hnd : Ng.Nodup) (hln : sg.names.lookup n = some .local) (hvn : (n == ("__debug__" : Str)) = false := by decide) (hcn : (n == ("__classdict__" : Str)) = false := by decide) :
    GivesTo X Ng x sg g cdg [.Try [.Return (some (.Tuple [.Constant (.str s1) j p1, .Call (.Name a p2) [] [] p3] k p4)) p5] [.ExceptHandler (some (.Name e p6)) (some n) [.Return (some (.Tuple [.Constant (.str s2) j2 p7, .Attribute (.Name n p8) fld p9] k2 p10)) p11] p12] [] [] p13] a q (TTm X.K C fld s1 s2) := by
  subst hNg
  intro f c' s H Q tl act hc h
  let Y : Cx := (cxOf C8.CX0 X.prog X.w X.K X.mg X.base [a, n] x sg g cdg X.A X.stack s H C8.E0).nox
  have hgl : Gl Y e := hge
  refine ⟨_, pss_one (ps_try_as (X := Y) (c := .ref C) (i := 1) (n := n)
      (tb := fun W D σ H => ∃ Ech : XK, (∀ cls d (σ' : L2.St) H', Ech cls d H' → σ'.length = 2 → W cls d σ' H') ∧ σ[0]? = some (some (.ref f)) ∧ H c' = some (CodeO c' q) ∧ tl Ech H fun v H1 => [V.str s1, v].length ≤ sizeLine ∧ ∀ p, H1 p = none → D.rt (.ref p) (upd H1 p (.tup [.str s1, v])))
      rfl rfl hnd rfl hln ⟨hgl, hde, .inl hme⟩ LamX.takes0 (fun W pn xe tk _ => ?_) (fun a oe cls d pn hz hf => pss_one (ps_ret (pe_tup (pa_cons pe_str (pa_cons (pe_xf T hno hz hf (pe_var (i := 1) rfl (.inl hln) hvn hcn) (by rfl)) pa_nil (by rfl)) (by rfl)))))), ?_⟩
  · refine ⟨fun pins s' σ H' D I h' => ?_⟩
    obtain ⟨Ech, hW, h1, h2, h3⟩ := h'
    have hp := act _ pn xe Ech p2 p3 (takes_len tk) (fun cls d σ' H' he hl => hW cls d σ' H' he hl)
    have hq := pss_one (ps_ret (pos := p5) (pe_tup (pos := p4) (x1 := k) (pa_cons (pe_str (X := Y.tr pn xe) (pos := p1) (x := s1) (j := j)) (pa_cons hp pa_nil (by rfl)) (by rfl))))
    exact hq.run pins s' σ H' D I ⟨h1, h2, h3⟩
  · refine ⟨_, fun cls d σ' H' ⟨b, e1, e2, e3⟩ hl => ⟨b, e1, fun hb a ha => ?_, fun hb => e3 hb⟩, rfl, hc, h⟩
    obtain ⟨ec, dd, fs, v, ed, h1, h2, h3⟩ := e2 hb
    exact ⟨.ref a, set_at1 hl, rfl, ec, dd, fs, v, ed, h1, h2, (by show (2 : Nat) ≤ _; decide), h3⟩

/-- what a call within sees of the slots -/
def reb (ρ : Ro) : Ro := ρ.map fun s => match s with
  | .va x => .va { x with n := x.d.imm }
  | _ => .un
theorem reb_va {ρ : Ro} {i : Nat} {x : Dv} (h : (reb ρ)[i]? = some (.va x)) : ∃ y, ρ[i]? = some (.va y) ∧ x = { y with n := y.d.imm } := by
  unfold reb at h
  rw [List.getElem?_map] at h
  cases e : ρ[i]? with
  | none => rw [e] at h; cases h
  | some s =>
    rw [e] at h
    cases s with
    | va y =>
      have h' : Sl.va { y with n := y.d.imm } = Sl.va x := Option.some.inj h
      cases h'
      exact ⟨y, rfl, rfl⟩
    | un => cases Option.some.inj h
    | ow d n => cases Option.some.inj h
theorem reb_ow {ρ : Ro} {i : Nat} {d : D} {n : Bool} : (reb ρ)[i]? ≠ some (.ow d n) := fun h => by
  unfold reb at h
  rw [List.getElem?_map] at h
  cases e : ρ[i]? with
  | none => rw [e] at h; cases h
  | some s =>
    rw [e] at h
    cases s <;> cases Option.some.inj h
theorem StOk.rebase {F : Fx} {B L : Nat} {R : Reg} {H : Hp} {σ : L2.St} {ρ : Ro} {α : Nat → Addr} (S : StOk F B R H σ ρ α) (hL : L ≤ F.L) : StOk ⟨F.K, H, R, F.st, L, Nn H⟩ B R H σ (reb ρ) α :=
  ⟨⟨S.hp.inv, S.hp.good, fun _ _ _ e _ => e, fun _ e => e, fun _ r => .inl r, S.hp.tab, Nat.le_trans hL S.hp.lim, fun _ e => e⟩, by unfold reb; rw [List.length_map]; exact S.len, fun i x h => by
    obtain ⟨y, hy, rfl⟩ := reb_va h
    obtain ⟨v, hv, r⟩ := S.va i y hy
    exact ⟨v, hv, RpD.reI (F := F) (F' := ⟨F.K, H, R, F.st, L, Nn H⟩) rfl rfl r.1, r.2⟩, fun i d n h => (reb_ow h).elim, fun i j d n d' n' h => (reb_ow h).elim⟩
theorem StOk.name {F : Fx} {B : Nat} {R : Reg} {H : Hp} {σ : L2.St} {ρ : Ro} {α : Nat → Addr} (S : StOk F B R H σ ρ α) {i : Nat} {y : Dv} {v : V} (hv : σ[i]? = some (some v)) (r : Rp F H R y v) : StOk F B R H σ (ρ.set i (.va { y with v := some v })) α :=
  ⟨S.hp, by rw [List.length_set]; exact S.len, fun j x h => by
    rcases set_get h with ⟨rfl, e⟩ | ⟨ne, h⟩
    · cases e
      exact ⟨v, hv, r.1, fun u z => (Option.some.inj z).symm⟩
    · exact S.va j x h, fun j d n h => by
    rcases set_get h with ⟨_, e⟩ | ⟨ne, h⟩
    · cases e
    · exact S.ow j d n h, fun j m d n d' n' h h' => by
    rcases set_get h with ⟨_, e⟩ | ⟨_, h⟩
    · cases e
    · rcases set_get h' with ⟨_, e⟩ | ⟨_, h'⟩
      · cases e
      · exact S.dis j m d n d' n' h h'⟩
/-- x(lambda: body) told by x's try -/
theorem de_met {E : XK} {x a fld s1 s2 : Str} {g cc P C : Addr} {k c i : Nat} {pg : Arguments} {bg : List Stmt} {sg : Scope} {fd : FuncData} {Ng : List Str} {params : Arguments} {body : Expr} {scope : Scope} {fb : TD} {p lpos pos : Pos}
    (G : FunD X.K x x pg bg sg [] [] g fd) (hg : Gl X x) (hm : X.mg x = some (.ref g)) (hb : L2.Binds X.K fd [a] []) (Sg : FnScope Ng [a] sg) (hNg : Ng[0]? = some a) (hva : Vis sg a)
    (hG : ∀ cdg, GivesTo X Ng x sg g cdg bg a (X.env.qual ++ "<lambda>") (TTm X.K C fld s1 s2))
    (TB : TabB X.base X.mg cc P) (hcode : X.env.code = .ref cc) (hmT : (P, X.env.qual ++ "<lambda>") ∈ tabK X.K) (hu : ∀ p ∈ tabK X.K, p.1 = P → p.2 = X.env.qual ++ "<lambda>") (hr : Room (k + 2) X.A) (L : LamS X.env.scope scope) (hdef : defaultsOf params X.env = ([], []))
    (hbind : ∀ (q : Str) (cl : List (Str × Addr)) (pm cv ctv : Value), bindArgs (PySem.W.kla_fn "<lambda>" q params body scope cl pm cv ctv) ⟨[], []⟩ = pure [])
    (exm : PySem.W.exmOne X.K (.ref C) (.ref C) = some true)
    (hbody : ∀ (A : Around) (outer : List Env) (s : Shared) (H : Hp) (E : XK) (f c' : Addr), Room k (A.deeper (lamEnv X scope s.heap.objs.size f c')) → DE (lamCx X A outer s H E scope f c') E c body fb)
    (hdb : (x == ("__debug__" : Str)) = false := by decide) (hd : (a == ("__debug__" : Str)) = false := by decide) (hcd : (a == ("__classdict__" : Str)) = false := by decide) :
    DE X E c (.Call (.Name x p) [.Lambda params body scope lpos] [] pos) (fun ρ XQ Q => ∃ y, ρ[i]? = some (.va y) ∧ ∀ v, fb (reb (ρ.set i (.va { y with v := some v }))) (fun C' f' v' => C' = .ref C ∧ f' = fld ∧ v' = v ∧ Q ⟨.tup [.str s2, y.d], y.fr, none⟩) (fun z => Q ⟨.tup [.str s1, z.d], z.fr, none⟩)) := by
  obtain ⟨oc, od, dV, kV, doc, pm, an, cdv, ct, osl, rfl, lk, hcd', _, _⟩ := G.ex
  refine ⟨_, pe_lamcall (T := tabK X.K) (t := fun E σ H Q => ∀ (A : Around) (outer : List Env) (s : Shared) (H0 : Hp) (f c' : Addr) (hr : Room k (A.deeper (lamEnv X scope s.heap.objs.size f c'))), (hbody A outer s H0 E f c' hr).choose σ H Q) hg hm G.kp lk hcd' hb Sg hNg hva (hG cdv) TB hcode hmT hu hr L hdef hbind
    (fun A outer s H E f c' hr => ⟨fun pins s' σ H' Q I q => (hbody A outer s H E f c' hr).choose_spec.1.run pins s' σ H' Q I (q A outer s H f c' hr)⟩) hdb hd hcd, fun F B R H σ ρ α XQ Q K hK hX hB S ⟨y, hy, hfb⟩ k => ?_⟩
  have hT : F.T = tabK X.K := by unfold Fx.T; rw [hK]
  refine ⟨by rw [← hT]; exact S.hp.tab, fun H1 eN T1 => ?_⟩
  have e1 : Ext F R H R H1 := ⟨fun _ r => r, fun a o _ h nt => eN a o h nt, fun _ r => .inl r, fun a h o e nt => h o (eN a o e nt) nt⟩
  have o1 : HpOk F B R H1 := ⟨fun p e => by
      obtain ⟨a, xs, c, n, s, h1, h2, r⟩ := S.hp.inv p e
      exact ⟨a, xs, c, n, s, eN _ _ h1 NoTbl.lst, eN _ _ h2 NoTbl.lst, r⟩, fun a r => let ⟨m, o, h, nt⟩ := S.hp.good a r; ⟨m, o, eN a o h nt, nt⟩, fun a o m h nt => eN a o (S.hp.ent a o m h nt) nt, fun a h => S.hp.ent2 a (e1.there a h), S.hp.reg0, by rw [hT]; exact T1, S.hp.lim, fun a h => S.hp.pn a (e1.there a h)⟩
  have S1 := S.ext e1 o1
  obtain ⟨v, hv, rv⟩ := S1.va i y hy
  have S2 := (S1.name hv rv).rebase (L := B + c) hB
  intro A outer s0 H0 f c' hr'
  refine (hbody A outer s0 H0 _ f c' hr').choose_spec.2 ⟨F.K, H1, R, F.st, B + c, Nn H1⟩ B R H1 σ _ α _ _ _ hK ⟨fun _ _ z => (nomatch z.1), ?_⟩ (Nat.le_refl _) S2 (hfb v) ?_
  · -- raised
    rintro C' f' v' dx H' ⟨eC, rfl, rfl, q⟩ hk ht hi hb' hd'
    cases eC
    refine ⟨true, exm, fun _ => ⟨rfl, dx, _, v', rfl, hd', by simp, fun p hp => ?_⟩, fun z => nomatch z⟩
    have e2 : Ext F R H1 R H' := ⟨fun _ r => r, fun a o m h nt => hk a o m h nt, fun _ r => .inl r, ht⟩
    have o2 : HpOk F (B + c) R H' := ⟨hi, fun a r => let ⟨m, o, h, nt⟩ := o1.good a r; ⟨m, o, hk a o m h nt, nt⟩, fun a o m h nt => hk a o m (o1.ent a o m h nt) nt, fun a h => o1.ent2 a (ht a h), o1.reg0, by rw [hT]; have hb2 : Tabs (tabK F.K) H' := hb'; rw [hK] at hb2; exact hb2, S.hp.lim, fun a h => o1.pn a (ht a h)⟩
    have r3 := (rv.ext o1 e2).fr
    have e3 : Ext F R H' R (upd H' p (.tup [.str s2, v'])) := .new0 hp
    exact k (.ref p) ⟨.tup [.str s2, y.d], y.fr, none⟩ R _ ((e1.trans e2).trans e3) (o2.new0 hp .tup) (.of (.tup (.of upd_same) (.cons (.str s2) (.cons (r3.ext o2 e3) .nil)))) q
  · -- told
    intro u z R2 H2 e2 o2 r2 q2
    refine ⟨(by show (2 : Nat) ≤ _; decide), fun p hp => ?_⟩
    have n2 : ∀ a, Nn H1 a → Nn F.H0 a := o1.ent2
    have p2 : ∀ a, Nn H1 a → F.P a := o1.pn
    have e2' : Ext F R H1 R2 H2 := ⟨e2.reg, e2.keep, e2.new, e2.there⟩
    have o2' : HpOk F (B + c) R2 H2 := ⟨o2.inv, o2.good, fun a u m e nt => o2.ent a u m (o1.ent a u m e nt) nt, fun a e => n2 a (o2.ent2 a e), fun a r => (o2.reg0 a r).elim (o1.reg0 a) fun z => .inr (n2 a z), o2.tab, S.hp.lim, fun a h => p2 a (o2.pn a h)⟩
    have mv : Mv ⟨F.K, H1, R, F.st, B + c, Nn H1⟩ R2 H2 F R2 H2 z.n z.n := ⟨rfl, fun _ z => z, fun _ _ r h _ => ⟨r, h⟩, fun _ _ h => h, fun z a u _ _ _ w => p2 a (w z)⟩
    have r3 : RpD F H2 R2 z.fr u z.d := Rp.fr ⟨r2.1.mv mv, r2.2⟩
    have e3 : Ext F R2 H2 R2 (upd H2 p (.tup [.str s1, u])) := .new0 hp
    exact k (.ref p) ⟨.tup [.str s1, z.d], z.fr, none⟩ R2 _ ((e1.trans e2').trans e3) (o2'.new0 hp .tup) (.of (.tup (.of upd_same) (.cons (.str s1) (.cons (r3.ext o2' e3) .nil)))) q2
end
end DL

set_option Elab.async false
set_option linter.all false
set_option maxRecDepth 100000
set_option maxHeartbeats 4000000
/-! DL, part q: the law's end where the law's def runs with no guard ahead. -/
namespace DL
open PySem PySem.Spec PyProof.Rows L2 LamX

/-- the abstract heap at the law's entry: the tables, the script where the written part does not know it -/
def startH (K : PySem.W.Frag) (ts : List Addr) (a : Addr) (o : Obj) (xs : List V) : Hp := fun b => if b ∈ ts then some (.tbl #[]) else if b = a ∧ K.lookup a = none then some (.frz o (.lst xs)) else none
theorem startH_cases {K : PySem.W.Frag} {ts : List Addr} {a b : Addr} {o : Obj} {xs : List V} {u : HO} (h : startH K ts a o xs b = some u) : (b ∈ ts ∧ u = .tbl #[]) ∨ (b ∉ ts ∧ b = a ∧ K.lookup a = none ∧ u = .frz o (.lst xs)) := by
  unfold startH at h
  by_cases h1 : b ∈ ts
  · rw [if_pos h1] at h
    exact .inl ⟨h1, (Option.some.inj h).symm⟩
  · rw [if_neg h1] at h
    by_cases h2 : b = a ∧ K.lookup a = none
    · rw [if_pos h2] at h
      exact .inr ⟨h1, h2.1, h2.2, (Option.some.inj h).symm⟩
    · rw [if_neg h2] at h; cases h
/-- what the head must tell of the law's def -/
structure LawG (P : Program) (w : World) (K : PySem.W.Frag) (mg : Str → Option Value) (n : Nat) (fa : Addr) (h : Heap) (cs : List (Addr × Addr)) : Prop where
  tab : ∀ p ∈ cs, h.get? p.2 = some { cls := .none, data := .fields #[] }
  out : ∀ p ∈ cs, K.lookup p.2 = none
  code : ∀ p ∈ cs, PySem.W.CodeHd h p.1 p.2
  run : ∀ (base : Heap) (H : Hp) (s : Shared) (a : Addr) (ns : List Int), K.In base → base.Ns mainGlobals mg → (∀ p ∈ cs, TabB base mg p.1 p.2) → Env0 P w K mg base callerA [] s H → ns.length ≤ n → (∀ z ∈ ns, Builtin.Int.intBits z ≤ 1048576) → (∀ p ∈ cs, H p.2 = some (.tbl #[])) → SqF K H a (ns.map V.int) →
    codeAny (model P w) callerA (.call (.ref fa) ⟨[.ref a], []⟩) (CR (L2.CX P w) [] P w H s (fun v _ => v = .bl true) fun _ _ _ => False) s
theorem endG {P : Program} {w : World} {K : PySem.W.Frag} {mg mb : Str → Option Value} {n : Nat} {fa a : Addr} {cs : List (Addr × Addr)} {s : Shared} {vs : List Value} {ns : List Int} (G : LawG P w K mg n fa s.heap cs)
    (KX : K.In s.heap) (hns : s.heap.Ns mainGlobals mg) (hb : s.heap.Ns builtinsNs mb) (hbb : ∀ x : Str, x ≠ "__name__" → mb x = bootBuiltins x) (hlim : s.heap.NoLimit) (hg : s.gens = #[])
    (hbm : ∃ (bm : Addr) (ob : Obj), mg "__builtins__" = some (.ref bm) ∧ bm ≠ builtinsNs ∧ s.heap.get? bm = some ob ∧ ob.cls = .type "module" ∧ ob.dict = some builtinsNs ∧ ob.data = .plain)
    (ha : s.heap.get? a = some { cls := .type "list", data := .seq vs.toArray }) (hi : IntsAre vs ns) (hn : ns.length ≤ n) (hl : n ≤ sizeLine) (hbits : ∀ z ∈ ns, Builtin.Int.intBits z ≤ 1048576) :
    codeAny (model P w) callerA (.call (.ref fa) ⟨[.ref a], []⟩) (fun r s' => r = .ok (.ret (.bool true)) ∧ OldK s.heap s'.heap ∧ s'.os = s.os ∧ AllBare s'.gens) s := by
  let ts : List Addr := cs.map (·.2)
  let oa : Obj := { cls := .type "list", data := .seq vs.toArray }
  let H : Hp := startH K ts a oa (ns.map V.int)
  have lz : ns.length ≤ sizeLine := Nat.le_trans hn hl
  have rv := vals_ints hi
  have inT : ∀ {b : Addr}, b ∈ ts → s.heap.get? b = some { cls := .none, data := .fields #[] } := fun {b} hb => by
    obtain ⟨p, hp, e⟩ := List.mem_map.mp hb
    rw [← e]; exact G.tab p hp
  have aT : a ∉ ts := fun z => by
    have q := (inT z).symm.trans ha
    cases q
  have tH : ∀ p ∈ cs, H p.2 = some (.tbl #[]) := fun p hp => if_pos (List.mem_map.mpr ⟨p, hp, rfl⟩)
  have hok : HOk P w H s.heap := fun b u hu => by
    rcases startH_cases hu with ⟨hb, rfl⟩ | ⟨_, rfl, _, rfl⟩
    · exact inT hb
    · exact ⟨ha, by rw [List.length_map]; exact lz, vs, _, rv, ha⟩
  -- what is no list and no empty table is not tracked
  have free : ∀ {b : Addr} {o : Obj}, s.heap.get? b = some o → (∀ us m, o.data ≠ .seq us m) → o.data ≠ .fields #[] → H b = none := fun {b o} e n1 n2 => by
    cases q : H b with
    | none => rfl
    | some u =>
      rcases startH_cases q with ⟨hb, _⟩ | ⟨_, rfl, _, _⟩
      · rw [inT hb] at e; cases e; exact (n2 rfl).elim
      · rw [ha] at e; cases e; exact (n1 _ _ rfl).elim
  have down : ∀ {b : Addr} {o : Obj}, s.heap.get? b = some o → H b = none → (hidT s.heap H).get? b = some o := fun e z => hidT_get e z
  have ns' : ∀ {b : Addr} {m : Str → Option Value}, s.heap.Ns b m → (hidT s.heap H).Ns b m := fun {b m} ⟨o, es, ep, e, d, r⟩ =>
    ⟨o, es, ep, down e (free e (fun us m z => by rw [d] at z; cases z) fun z => by rw [d] at z; cases z), d, r⟩
  have kin : K.In (hidT s.heap H) := fun b o e => down (KX b o e) (by
    cases q : H b with
    | none => rfl
    | some u =>
      rcases startH_cases q with ⟨hb, _⟩ | ⟨_, rfl, hk, _⟩
      · obtain ⟨p, hp, ep⟩ := List.mem_map.mp hb
        rw [← ep, G.out p hp] at e; cases e
      · rw [hk] at e; cases e)
  have sq : SqF K H a (ns.map V.int) := by
    cases hk : K.lookup a with
    | some o =>
      have e := KX a o hk
      rw [ha] at e
      cases e
      exact .inr ⟨_, vs.toArray, _, hk, rfl, rfl, rfl, by rw [List.size_toArray, hi.length]; exact lz, by simpa using rv⟩
    | none => exact .inl ⟨oa, (if_neg aT).trans (if_pos ⟨rfl, hk⟩)⟩
  have tb : ∀ p ∈ cs, TabB (hidT s.heap H) mg p.1 p.2 := fun p hp => by
    have hTp := G.tab p hp
    refine ⟨?_, ?_, fun z => ?_⟩
    · obtain ⟨o, us, file, tf, flags, tg, inF, text, tt, e1, r1, r2, r3, r4, r5, r6, r7, r8, hne⟩ := G.code p hp
      exact ⟨o, us, file, tf, flags, tg, inF, text, tt, down e1 (free e1 (fun us m z => by rw [r2] at z; cases z) fun z => by rw [r2] at z; cases z; simp at r3), r1, r2, r3, r4, r5, r6, r7, r8, hne⟩
    · obtain ⟨bm, ob, b1, b2, b3, b4, b5, b6⟩ := hbm
      refine ⟨bm, ob, b1, b2, fun q => ?_, fun q => ?_, down b3 (free b3 (fun us m z => by rw [b6] at z; cases z) fun z => by rw [b6] at z; cases z), b4, b5, b6⟩
      · obtain ⟨o, es, ep, e, hd, _⟩ := hns
        rw [q, e] at b3; cases b3; rw [hd] at b6; cases b6
      · rw [q, hTp] at b3; cases b3; cases b6
    · obtain ⟨o, es, ep, e, hd, _⟩ := hns
      rw [z, hTp] at e; cases e; cases hd
  have e0 : Env0 P w K mg (hidT s.heap H) callerA [] s H := ⟨rfl, ⟨kin, ns' hns, ⟨mb, ns' hb, hbb⟩, let ⟨mc, h1, h2⟩ := hlim; ⟨mc, ns' h1, h2⟩⟩, fun b o e => of_hidT e, Nat.le_of_eq (hidT_size _ _), trivial, fun b hb => absurd (show b ∈ ([] : List Addr) from hb) (by simp), hok, .of_eq hg⟩
  refine codeAny_mono (G.run _ H s a ns kin (ns' hns) tb e0 hn hbits tH sq) fun r s' h => ?_
  cases r with
  | error e =>
    obtain ⟨_, _, _, _, _, _, _, _, _, _, _, _, z⟩ := h
    exact z.elim
  | ok fl =>
    cases fl with
    | next => exact False.elim h
    | brk => exact False.elim h
    | cont => exact False.elim h
    | ret u =>
      obtain ⟨v, H', os, bare, un, hok', r', q⟩ := h
      have q' : v = .bl true := q
      subst q'
      obtain rfl : u = Value.bool true := r'
      have same : ∀ b o, b ∉ ts → s.heap.get? b = some o → s'.heap.get? b = some o := fun b o nb e => by
        cases q : H b with
        | none => exact un.keep b o e q (by intro z; exact absurd (show b ∈ ([] : List Addr) from z) (by simp)) (by simp)
        | some u =>
          rcases startH_cases q with ⟨hb, _⟩ | ⟨_, rfl, _, rfl⟩
          · exact absurd hb nb
          · have z2 := un.frzs b oa _ q
            obtain ⟨e2, _⟩ := hok' b _ z2
            rw [ha] at e; cases e
            exact e2
      have more : ∀ p ∈ cs, ∃ ps : Array Value, s'.heap.get? p.2 = some { cls := .none, data := .fields ps } := fun p hp => by
        obtain ⟨ps, z⟩ := un.tbls p.2 #[] (tH p hp)
        exact ⟨_, hok' p.2 _ z⟩
      refine ⟨rfl, ⟨fun b o e => ?_, fun b o e => ?_⟩, os, bare⟩
      · by_cases hb : b ∈ ts
        · obtain ⟨p, hp, rfl⟩ := List.mem_map.mp hb
          obtain ⟨ps, hm⟩ := more p hp
          rw [G.tab p hp] at e
          cases e
          exact .inr (.inl ⟨((G.code p hp).tab (G.tab p hp)).isCodeTable, rfl, #[], ps, rfl, by rw [Array.empty_append]; exact hm⟩)
        · exact .inl (same b o hb e)
      · by_cases hb : b ∈ ts
        · obtain ⟨p, hp, rfl⟩ := List.mem_map.mp hb
          obtain ⟨ps, hm⟩ := more p hp
          exact ⟨_, hm⟩
        · exact ⟨o, same b o hb e⟩
theorem walk_G {l : PySem.W.OpenLaw} {n : Nat} {q : Program} {loose : List Str} {XP : (Str → Option Value) → Heap → Prop} {YP : World → Heap → Prop} {d : DefRec} (hn : l.most = some n) (hn2 : n ≤ sizeLine) (hdf : d.params.defaults = [])
    (F : ∀ (w : World) (mg : Str → Option Value) (fa : Addr) (h : Heap), YP w h → h.Ns mainGlobals mg → mg d.name = some (.ref fa) → ∃ (K : PySem.W.Frag) (cs : List (Addr × Addr)), K.In h ∧ LawG l.prog w K mg n fa h cs) :
    PySem.W.WalkO q loose XP YP l.row.toRowW d [] (fun f vs => PySem.call f vs) := by
  refine Att.attach_callB hn hdf fun w s₀ s₁ mg mb fa o pm cd doc a vs ns G Y ho hd hcd hmg hobj hints hlen hbits hg => ?_
  obtain ⟨K, cs, KX, L⟩ := F w mg fa _ Y G.T.g hmg
  exact endG L KX G.T.g G.T.b G.T.builtins G.T.nolimit hg G.T.bmain hobj hints hlen hn2 hbits
end DL

set_option Elab.async false
set_option linter.all false
set_option maxRecDepth 100000
set_option maxHeartbeats 4000000
/-! DL, part r: parts told side by side, own ones among them; an own list's pop. -/
namespace DL
open PySem PySem.Spec PyProof.Rows L2

/-- a part: a value, or an own list or dict -/
inductive Pt where
  | va (x : Dv) | ow (d : D) (n : Bool)
def Pt.sl : Pt → Sl
  | .va x => .va x
  | .ow d n => .ow d n
/-- a part's value at H; H0: the heap ahead of all parts -/
def PtOk (F : Fx) (H0 H : Hp) (R : Reg) : Pt → V → Prop
  | .va x, v => Rp F H R x v
  | .ow d n, v => ∃ a, v = .ref a ∧ Own F H R a d n ∧ Nn H0 a
theorem PtOk.ext {F : Fx} {B : Nat} {H0 H H' : Hp} {R R' : Reg} {p : Pt} {v : V} (h : PtOk F H0 H R p v) (I : HpOk F B R H) (e : Ext F R H R' H') : PtOk F H0 H' R' p v := by
  cases p with
  | va x => exact Rp.ext h I e
  | ow d n => obtain ⟨a, e1, w, z⟩ := h; exact ⟨a, e1, w.ext I e, z⟩
theorem PtOk.back {F : Fx} {H0 H1 H : Hp} {R : Reg} {p : Pt} {v : V} (h : PtOk F H1 H R p v) (e : ∀ a, Nn H1 a → Nn H0 a) : PtOk F H0 H R p v := by
  cases p with
  | va x => exact h
  | ow d n => obtain ⟨a, e1, w, z⟩ := h; exact ⟨a, e1, w, e a z⟩
abbrev TP := Ro → XQT → (Pt → Prop) → Prop
/-- a part's expression -/
def DPt (X : Cx) (E : XK) (c : Nat) (e : Expr) (f : TP) : Prop := ∃ t : TE, PE X e t ∧ ∀ F B R H σ ρ α XQ Q (K : VK), F.K = X.K → XLink F E XQ → B + c ≤ F.L → StOk F B R H σ ρ α → f ρ XQ Q →
  (∀ v p R' H', Ext F R H R' H' → HpOk F (B + c) R' H' → PtOk F H H' R' p v → Q p → K v H') → t σ H K
section
variable {X : Cx} {E : XK} {c ca cb cc : Nat} {a b d e : Expr} {es : List Expr} {fa fb fe fd : TD} {pa pb pd : TP} {fs : TDs} {pos p : Pos} {x y z : Str}
theorem dp_va (h : DE X E c e fe) : DPt X E c e (fun ρ XQ Q => fe ρ XQ fun x => Q (.va x)) := by
  obtain ⟨t, p, s⟩ := h
  exact ⟨t, p, fun F B R H σ ρ α XQ Q K hK hX hB S h k => s F B R H σ ρ α XQ _ K hK hX hB S h fun v x R' H' e o r q => k v (.va x) R' H' e o r q⟩
theorem dp_ow (h : DN X E c e fe) : DPt X E c e (fun ρ XQ Q => fe ρ XQ fun x => Q (.ow x.d x.n)) := by
  obtain ⟨t, p, s⟩ := h
  exact ⟨t, p, fun F B R H σ ρ α XQ Q K hK hX hB S h k => s F B R H σ ρ α XQ _ K hK hX hB S h fun a d n R' H' e o w hn q => k (.ref a) (.ow d n) R' H' e o ⟨a, rfl, w, hn⟩ q⟩
/-- a slot gets an own object -/
theorem StOk.seto {F : Fx} {B : Nat} {R : Reg} {H : Hp} {σ : L2.St} {ρ : Ro} {α : Nat → Addr} (S : StOk F B R H σ ρ α) {i : Nat} {a : Addr} {d : D} {n : Bool} (w : Own F H R a d n) (ne : ∀ j d n, ρ[j]? = some (.ow d n) → α j ≠ a) :
    StOk F B R H (σ.set i (some (.ref a))) (ρ.set i (.ow d n)) (fun j => if j = i then a else α j) := by
  refine ⟨S.hp, by rw [List.length_set, List.length_set]; exact S.len, fun j y hj => ?_, fun j d' n' hj => ?_, fun j m d1 n1 d2 n2 hj hm e => ?_⟩
  · rcases set_get hj with ⟨rfl, z⟩ | ⟨nj, hj⟩
    · cases z
    · obtain ⟨u, e1, q⟩ := S.va j y hj
      exact ⟨u, by rw [List.getElem?_set_ne (Ne.symm nj)]; exact e1, q⟩
  · have hl : j < (ρ.set i (.ow d n)).length := (List.getElem?_eq_some_iff.mp hj).1
    rcases set_get hj with ⟨ej, z⟩ | ⟨nj, hj'⟩
    · cases z
      rw [List.length_set, ← S.len] at hl
      rw [ej] at hl ⊢
      rw [if_pos rfl]
      exact ⟨by rw [List.getElem?_set_self hl], w⟩
    · rw [if_neg nj]
      obtain ⟨e1, w1⟩ := S.ow j d' n' hj'
      exact ⟨by rw [List.getElem?_set_ne (Ne.symm nj)]; exact e1, w1⟩
  · rcases set_get hj with ⟨ej, z⟩ | ⟨nj, hj'⟩
    · rcases set_get hm with ⟨em, _⟩ | ⟨nm, hm'⟩
      · rw [ej, em]
      · rw [if_pos ej, if_neg nm] at e
        exact absurd e.symm (ne m _ _ hm')
    · rcases set_get hm with ⟨em, _⟩ | ⟨nm, hm'⟩
      · rw [if_neg nj, if_pos em] at e
        exact absurd e (ne j _ _ hj')
      · rw [if_neg nj, if_neg nm] at e
        exact S.dis j m _ _ _ _ hj' hm' e
/-- a slot gets a part; M: the own slots stay among the places in M, or are the part's -/
theorem StOk.setpt {F : Fx} {B : Nat} {R : Reg} {H0 H : Hp} {σ : L2.St} {ρ : Ro} {α : Nat → Addr} (S : StOk F B R H σ ρ α) {i : Nat} {p : Pt} {v : V} (w : PtOk F H0 H R p v) (ne : ∀ a, v = .ref a → Nn H0 a → ∀ j d n, ρ[j]? = some (.ow d n) → α j ≠ a) :
    ∃ α', StOk F B R H (σ.set i (some v)) (ρ.set i p.sl) α' ∧ ∀ j d n, (ρ.set i p.sl)[j]? = some (.ow d n) → (∃ d n, ρ[j]? = some (.ow d n) ∧ α' j = α j) ∨ (v = .ref (α' j) ∧ ∃ d n, p = .ow d n) := by
  cases p with
  | va x => exact ⟨α, S.setva i w, fun j d n h => by
      rcases set_get h with ⟨_, e⟩ | ⟨_, h⟩
      · cases e
      · exact .inl ⟨d, n, h, rfl⟩⟩
  | ow d n =>
    obtain ⟨a, rfl, w1, z⟩ := w
    refine ⟨_, S.seto w1 (ne a rfl z), fun j d' n' h => ?_⟩
    rcases set_get h with ⟨ej, e⟩ | ⟨nj, h⟩
    · exact .inr ⟨by simp [ej], d, n, rfl⟩
    · exact .inl ⟨d', n', h, by simp [nj]⟩
theorem pt_ne {F : Fx} {H0 H : Hp} {R : Reg} {p p' : Pt} {a : Addr} {d : D} {n : Bool} (w : Own F H0 R a d n) (hn : Nn H0 a) : False := by
  obtain ⟨o, ho, nt⟩ := w.some
  exact hn o ho nt
/-- a, b = e, f -/
theorem ds_par2 (l : List Nat) {i j : Nat} {px py pt : Pos} {kt k2 : Nat} {pt2 : Pos} (ha : DPt X E ca a pa) (hb : DPt X E cb b pb) (hc : X.calm = true) (hN : X.N.Nodup) (hi : X.N[i]? = some x) (hj : X.N[j]? = some y) (hij : i ≠ j)
    (hx : X.env.scope.names.lookup x = some .local) (hy : X.env.scope.names.lookup y = some .local)
    (hw : swappedStores [.Tuple [.Name x px, .Name y py] kt pt] (.Tuple [a, b] k2 pt2) X.env = pure (some [x, y]))
    (hs : swapsWithSole [.Tuple [.Name x px, .Name y py] kt pt] (.Tuple [a, b] k2 pt2) pos.line X.env = pure false := by rfl) (h1 : starEach [a, b] X.env = (false, eval a X.env) :: starEach [b] X.env := by rfl) (h2 : starEach [b] X.env = (false, eval b X.env) :: starEach [] X.env := by rfl) :
    DS X E (ca + cb) (.Assign [.Tuple [.Name x px, .Name y py] kt pt] (.Tuple [a, b] k2 pt2) pos) (fun N ρ XQ => pa (frz l ρ) XQ fun u => pb (frz l ρ) XQ fun v => N.nx (((frz l ρ).set i u.sl).set j v.sl)) := by
  obtain ⟨ta, p1, s1⟩ := ha
  obtain ⟨tb, p2, s2⟩ := hb
  refine ⟨_, ps_par hc hN hi hj hij hx hy (pa_cons p1 (pa_cons p2 pa_nil h2) h1) hw hs, fun F B R H σ ρ α XQ N K hK hX hB S h k => ?_⟩
  obtain ⟨R1, S1, hR⟩ := S.frzs l
  have z0 : Fz F R H R1 H := ⟨hR, fun _ _ _ h _ => h, fun _ _ h => h⟩
  refine s1 F B R1 H σ (frz l ρ) α XQ _ _ hK hX (by omega) S1 h fun v u R2 H2 e2 o2 r2 q2 => ?_
  refine s2 F (B + ca) R2 H2 σ (frz l ρ) α XQ _ _ hK hX (by omega) (S1.ext e2 o2) q2 fun v' u' R3 H3 e3 o3 r3 q3 => ⟨v, v', rfl, ?_⟩
  have S3 := (S1.ext e2 o2).ext e3 o3
  have r2' := r2.ext o2 e3
  have own0 : ∀ a, Nn H a → ∀ j d n, (frz l ρ)[j]? = some (.ow d n) → α j ≠ a := fun a hn j d n hj ej => by
    obtain ⟨o, ho, nt⟩ := (S1.ow j d n hj).2.some
    exact hn o (ej ▸ ho) nt
  obtain ⟨α1, S4, hα⟩ := S3.setpt (i := i) r2' fun a _ hn => own0 a hn
  obtain ⟨α2, S5, _⟩ := S4.setpt (i := j) r3 fun a ea hn j' d n hj' ej => by
    rcases hα j' d n hj' with ⟨d0, n0, h0, e0⟩ | ⟨e0, d0, n0, ep⟩
    · exact own0 a (e2.there a hn) j' d0 n0 h0 (e0 ▸ ej)
    · subst ep
      obtain ⟨a2, ea2, w2, _⟩ := r2
      rw [e0] at ea2
      cases ea2
      obtain ⟨o, ho, nt⟩ := w2.some
      exact hn o (ej ▸ ho) nt
  exact k.nx _ H3 _ R3 α2 (z0.trans ((e2.trans e3).fz S1.hp)) (by rw [← Nat.add_assoc]; exact S5) q3
/-- a, b, c = e, f, g -/
theorem ds_par3 (l : List Nat) {i j m : Nat} {px py pz pt : Pos} {kt k2 : Nat} {pt2 : Pos} (ha : DPt X E ca a pa) (hb : DPt X E cb b pb) (hd : DPt X E cc d pd) (hc : X.calm = true) (hN : X.N.Nodup) (hi : X.N[i]? = some x) (hj : X.N[j]? = some y) (hm : X.N[m]? = some z) (hij : i ≠ j) (him : i ≠ m) (hjm : j ≠ m)
    (hx : X.env.scope.names.lookup x = some .local) (hy : X.env.scope.names.lookup y = some .local) (hz : X.env.scope.names.lookup z = some .local)
    (hw : swappedStores [.Tuple [.Name x px, .Name y py, .Name z pz] kt pt] (.Tuple [a, b, d] k2 pt2) X.env = pure (some [x, y, z]))
    (hs : swapsWithSole [.Tuple [.Name x px, .Name y py, .Name z pz] kt pt] (.Tuple [a, b, d] k2 pt2) pos.line X.env = pure false := by rfl) (h1 : starEach [a, b, d] X.env = (false, eval a X.env) :: starEach [b, d] X.env := by rfl) (h2 : starEach [b, d] X.env = (false, eval b X.env) :: starEach [d] X.env := by rfl) (h3 : starEach [d] X.env = (false, eval d X.env) :: starEach [] X.env := by rfl) :
    DS X E (ca + cb + cc) (.Assign [.Tuple [.Name x px, .Name y py, .Name z pz] kt pt] (.Tuple [a, b, d] k2 pt2) pos) (fun N ρ XQ => pa (frz l ρ) XQ fun u => pb (frz l ρ) XQ fun v => pd (frz l ρ) XQ fun w => N.nx ((((frz l ρ).set i u.sl).set j v.sl).set m w.sl)) := by
  obtain ⟨ta, p1, s1⟩ := ha
  obtain ⟨tb, p2, s2⟩ := hb
  obtain ⟨td, p3, s3⟩ := hd
  refine ⟨_, ps_par3 hc hN hi hj hm hij him hjm hx hy hz (pa_cons p1 (pa_cons p2 (pa_cons p3 pa_nil h3) h2) h1) hw hs, fun F B R H σ ρ α XQ N K hK hX hB S h k => ?_⟩
  obtain ⟨R1, S1, hR⟩ := S.frzs l
  have z0 : Fz F R H R1 H := ⟨hR, fun _ _ _ h _ => h, fun _ _ h => h⟩
  refine s1 F B R1 H σ (frz l ρ) α XQ _ _ hK hX (by omega) S1 h fun v u R2 H2 e2 o2 r2 q2 => ?_
  refine s2 F (B + ca) R2 H2 σ (frz l ρ) α XQ _ _ hK hX (by omega) (S1.ext e2 o2) q2 fun v' u' R3 H3 e3 o3 r3 q3 => ?_
  have S3 := (S1.ext e2 o2).ext e3 o3
  have r2' := r2.ext o2 e3
  refine s3 F (B + ca + cb) R3 H3 σ (frz l ρ) α XQ _ _ hK hX (by omega) S3 q3 fun v2 u2 R4 H4 e4 o4 r4 q4 => ⟨v, v', v2, rfl, ?_⟩
  have S4 := S3.ext e4 o4
  have r2'' := r2'.ext o3 e4
  have r3' := r3.ext o3 e4
  have own0 : ∀ a, Nn H a → ∀ j d n, (frz l ρ)[j]? = some (.ow d n) → α j ≠ a := fun a hn j d n hj ej => by
    obtain ⟨o, ho, nt⟩ := (S1.ow j d n hj).2.some
    exact hn o (ej ▸ ho) nt
  have clash : ∀ {G G1 : Hp} {R : Reg} {p : Pt} {v : V} {a : Addr} {d0 : D} {n0 : Bool}, PtOk F G1 G R p v → p = .ow d0 n0 → v = .ref a → Nn G a → False := fun {G G1 R p v a d0 n0} w e ea hn => by
    subst e
    obtain ⟨a2, ea2, w2, _⟩ := w
    rw [ea] at ea2
    cases ea2
    obtain ⟨o, ho, nt⟩ := w2.some
    exact hn o ho nt
  obtain ⟨α1, S5, hα⟩ := S4.setpt (i := i) r2'' fun a _ hn => own0 a hn
  have own1 : ∀ a, Nn H2 a → ∀ j' d n, ((frz l ρ).set i u.sl)[j']? = some (.ow d n) → α1 j' ≠ a := fun a hn j' d n hj' ej => by
    rcases hα j' d n hj' with ⟨d0, n0, h0, e0⟩ | ⟨e0, d0, n0, ep⟩
    · exact own0 a (e2.there a hn) j' d0 n0 h0 (e0 ▸ ej)
    · exact clash r2 ep (ej ▸ e0) hn
  obtain ⟨α2, S6, hα2⟩ := S5.setpt (i := j) r3' fun a _ hn => own1 a hn
  obtain ⟨α3, S7, _⟩ := S6.setpt (i := m) r4 fun a ea hn j' d n hj' ej => by
    rcases hα2 j' d n hj' with ⟨d0, n0, h0, e0⟩ | ⟨e0, d0, n0, ep⟩
    · exact own1 a (e3.there a hn) j' d0 n0 h0 (e0 ▸ ej)
    · exact clash r3 ep (ej ▸ e0) hn
  have e : B + (ca + cb + cc) = B + ca + cb + cc := by omega
  exact k.nx _ H4 _ R4 α3 (z0.trans (((e2.trans e3).trans e4).fz S1.hp)) (by rw [e]; exact S7) q4
theorem rpl_erase {F : Fx} {H : Hp} {R : Reg} : ∀ {n : Bool} {vs : List V} {ds : List D}, RpL F H R n vs ds → ∀ k : Nat, RpL F H R n (vs.eraseIdx k) (ds.eraseIdx k)
  | _, _, _, .nil, _ => .nil
  | _, _, _, .cons a t, 0 => t
  | _, _, _, .cons a t, k + 1 => .cons a (rpl_erase t k)
/-- list(e): a new list, nobody else's -/
theorem dn_list {p1 : Pos} (hg : Gl X "list") (hm : X.mg "list" = none) (ha : DA X E c [e] fs) (he : starEach [e] X.env = (false, eval e X.env) :: starEach [] X.env := by rfl) (hpl : (backTo pos (starEach [] X.env)).any (·.1) = false := by rfl) :
    DN X E c (.Call (.Name "list" p1) [e] [] pos) (fun ρ XQ Q => fs ρ XQ fun xs => ∃ x ds, xs = [x] ∧ x.d.seq = some ds ∧ Q ⟨.lst ds, x.fr, none⟩) := by
  obtain ⟨t, pt, s⟩ := ha
  refine ⟨_, pe_callTy call_list_of hg hm (by decide +kernel) pt (by decide) (by decide) he hpl, fun F B R H σ ρ α XQ Q K hK hX hB S h k => ?_⟩
  refine s F B R H σ ρ α XQ _ _ hK hX hB S h fun vs xs R1 H1 e1 o1 r1 ⟨x, ds, ex, ed, q⟩ => ?_
  subst ex
  cases r1 with
  | @cons _ v _ _ r1 rn =>
  cases rn
  have fin : ∀ (us : List V), RpL F H1 R1 x.fr us ds → ∀ q0, H1 q0 = none → K (.ref q0) (upd H1 q0 (.lst us)) := fun us lu q0 hq =>
    k q0 (.lst ds) x.fr R1 _ (e1.trans (.new0 hq)) (o1.new0 hq .lst) ⟨not_frozen o1 hq, mx_none o1.inv hq, o1.ent2 q0 (.of hq), o1.pn q0 (.of hq), ⟨us, upd_same, lu.ext o1 (.new0 hq)⟩⟩ (e1.there q0 (.of hq)) q
  obtain ⟨d, n, vo⟩ := x
  cases d <;> try (cases ed; done)
  case lst ds' =>
    cases ed
    obtain ⟨a, us, rfl, ha, la⟩ := r1.lstL rfl
    exact ⟨a, us, rfl, .inl (.of ha), fin us la⟩
  case tup ds' =>
    cases ed
    obtain ⟨a, us, rfl, ha, la⟩ := r1.tupL rfl
    exact ⟨a, us, rfl, .inr (hK ▸ ha), fin us la⟩
/-- x.append(y.pop(e)), x, y own lists -/
theorem ds_appPop (l : List Nat) {i j : Nat} {p1 p2 a1 a2 c2 : Pos} (he : DE X E c e fe)
    (ps : ∀ te, PE X e te → PS X (.Expr (.Call (.Attribute (.Name x p1) "append" a1) [.Call (.Attribute (.Name y p2) "pop" a2) [e] [] c2] [] p) pos) (tDrop (tBM X.K "list" rAppend (tVar i) (tCons (tBM X.K "list" rPopAt (tVar j) (tCons te tNil)) tNil)))) :
    DS X E c (.Expr (.Call (.Attribute (.Name x p1) "append" a1) [.Call (.Attribute (.Name y p2) "pop" a2) [e] [] c2] [] p) pos)
      (fun N ρ XQ => i ≠ j ∧ ∃ ds n es m, ρ[i]? = some (.ow (.lst ds) n) ∧ ρ[j]? = some (.ow (.lst es) m) ∧ ds.length < BIG ∧ fe (frz l ρ) XQ fun k => (if k.d.sca = true then ρ else frz l ρ) = ρ ∧ ∃ (q : Nat) (z : D), k.d = .int q ∧ es[q]? = some z ∧ es.length ≤ BIG ∧ N.nx ((ρ.set j (.ow (.lst (es.eraseIdx q)) m)).set i (.ow (.lst (ds ++ [z])) (n && m)))) := by
  obtain ⟨t, pt, s⟩ := he
  refine ⟨_, ps t pt, fun F B R H σ ρ α XQ N K hK hX hB S ⟨hij, ds, n, es, m, h1, h2, hb, h⟩ k => ?_⟩
  obtain ⟨e1, w1⟩ := S.ow i _ _ h1
  obtain ⟨e2, w2⟩ := S.ow j _ _ h2
  obtain ⟨us, hu, lu⟩ := w1.at_
  obtain ⟨vs, hv, lv⟩ := w2.at_
  refine ⟨_, e1, Or.inl ⟨rfl, _, SqL.of hu⟩, _, e2, Or.inl ⟨rfl, _, SqL.of hv⟩, ?_⟩
  refine run_frz (X := X) (E := E) (c := c) (l := l) (Q := fun k0 ρ' => ρ' = ρ ∧ ∃ (q : Nat) (z : D), k0.d = .int q ∧ es[q]? = some z ∧ es.length ≤ BIG ∧ N.nx ((ρ.set j (.ow (.lst (es.eraseIdx q)) m)).set i (.ow (.lst (ds ++ [z])) (n && m)))) s hK hX hB S h fun v x0 ρ' R' H' z S' r ⟨eρ, q, z0, ek, ez, hz, q0⟩ => ?_
  subst eρ
  obtain ⟨e3, w3⟩ := S'.ow i _ _ h1
  obtain ⟨e4, w4⟩ := S'.ow j _ _ h2
  obtain ⟨us', hu', lu'⟩ := w3.at_
  obtain ⟨vs', hv', lv'⟩ := w4.at_
  have rv : v = .int q := by have := r.conc.2; rw [ek] at this; exact this
  subst rv
  obtain ⟨y0, hy0, ry⟩ := lv'.get ez
  have hq : q < vs'.length := (List.getElem?_eq_some_iff.mp hy0).1
  have hL : vs'.length ≤ BIG := by rw [lv'.len]; exact hz
  have hB2 : BIG = 16777216 := rfl
  refine ⟨α j, vs', (q : Int), q, y0, rfl, rfl, hv', by omega, by omega, ?_, hy0, ?_⟩
  · unfold seqIndex?
    simp
    omega
  have nij : α i ≠ α j := fun ea => hij (S'.dis i j _ _ _ _ h1 h2 ea)
  obtain ⟨S2, z2⟩ := S'.setow h2 (vs := vs'.eraseIdx q) (ds' := es.eraseIdx q) (m := m) (rpl_erase lv' q)
  have hi2 : (ρ'.set j (.ow (.lst (es.eraseIdx q)) m))[i]? = some (.ow (.lst ds) n) := by rw [List.getElem?_set_ne (Ne.symm hij)]; exact h1
  have ry2 : RpD F (upd H' (α j) (.lst (vs'.eraseIdx q))) R' m y0 z0 := ry.mv (z2.mv fun z => z)
  have lu2 : RpL F (upd H' (α j) (.lst (vs'.eraseIdx q))) R' n us' ds := lu'.fz z2
  obtain ⟨S3, z3⟩ := S2.setow hi2 (vs := us' ++ [y0]) (ds' := ds ++ [z0]) (m := n && m) ((lu2.weak and_l).app (.cons (ry2.weak and_r) .nil))
  refine ⟨α i, us', y0, rfl, rfl, by rw [upd_ne nij]; exact hu', lt_line (by rw [lu'.len]; exact hb), ?_⟩
  exact k.nx σ _ _ R' α ((z.trans z2).trans z3) S3 q0
end
end DL

set_option Elab.async false
set_option linter.all false
set_option maxRecDepth 100000
set_option maxHeartbeats 4000000
/-! DL, part s: a stream is laid; what is drawn behind. -/
namespace DL
open PySem PySem.Spec PyProof.Rows L2

mutual
/-- no stream in it -/
def D.nost : D → Bool
  | .lst xs => D.nostL xs
  | .tup xs => D.nostL xs
  | .dct kvs => D.nostP kvs
  | .obj _ fs => D.nostL fs
  | .bm _ d => D.nost d
  | .strm => false
  | _ => true
def D.nostL : List D → Bool
  | [] => true
  | x :: xs => D.nost x && D.nostL xs
def D.nostP : List (D × D) → Bool
  | [] => true
  | (k, v) :: xs => D.nost v && D.nostP xs
end
mutual
theorem RpD.unst {F F' : Fx} (hK : F'.K = F.K) (h0 : ∀ a, F.P a → F'.P a) {H : Hp} {R : Reg} : ∀ {n : Bool} {v : V} {d : D}, RpD F H R n v d → d.nost = true → RpD F' H R n v d
  | _, _, _, .non, _ => .non
  | _, _, _, .bl b, _ => .bl b
  | _, _, _, .int i, _ => .int i
  | _, _, _, .str x, _ => .str x
  | _, _, _, .lst h r w t, e => .lst h r (fun z => h0 _ (w z)) (RpL.unst hK h0 t (by simpa [D.nost] using e))
  | _, _, _, .tup h t, e => .tup (by rw [hK]; exact h) (RpL.unst hK h0 t (by simpa [D.nost] using e))
  | _, _, _, .dK h r w t, e => .dK h r (fun z => h0 _ (w z)) (RpK.unst hK h0 t (by simpa [D.nost] using e))
  | _, _, _, .dT h r w t, e => .dT h r (fun z => h0 _ (w z)) (RpT.unst hK h0 t (by simpa [D.nost] using e))
  | _, _, _, .strm _, e => nomatch e
  | _, _, _, .vee v, _ => .vee v
  | _, _, _, .obj h r w c l t, e => .obj (by rw [hK]; exact h) r (fun z => h0 _ (w z)) c l (RpL.unst hK h0 t (by simpa [D.nost] using e))
  | _, _, _, .bm h r w t, e => .bm h r (fun z => h0 _ (w z)) (RpD.unst hK h0 t (by simpa [D.nost] using e))
theorem RpL.unst {F F' : Fx} (hK : F'.K = F.K) (h0 : ∀ a, F.P a → F'.P a) {H : Hp} {R : Reg} : ∀ {n : Bool} {v : List V} {d : List D}, RpL F H R n v d → D.nostL d = true → RpL F' H R n v d
  | _, _, _, .nil, _ => .nil
  | _, _, _, .cons a t, e => by
    simp only [D.nostL, Bool.and_eq_true] at e
    exact .cons (RpD.unst hK h0 a e.1) (RpL.unst hK h0 t e.2)
theorem RpK.unst {F F' : Fx} (hK : F'.K = F.K) (h0 : ∀ a, F.P a → F'.P a) {H : Hp} {R : Reg} : ∀ {n : Bool} {v : List (Key × V)} {d : List (D × D)}, RpK F H R n v d → D.nostP d = true → RpK F' H R n v d
  | _, _, _, .nil, _ => .nil
  | _, _, _, .consI a t, e => by
    simp only [D.nostP, Bool.and_eq_true] at e
    exact .consI (RpD.unst hK h0 a e.1) (RpK.unst hK h0 t e.2)
  | _, _, _, .consS a t, e => by
    simp only [D.nostP, Bool.and_eq_true] at e
    exact .consS (RpD.unst hK h0 a e.1) (RpK.unst hK h0 t e.2)
theorem RpT.unst {F F' : Fx} (hK : F'.K = F.K) (h0 : ∀ a, F.P a → F'.P a) {H : Hp} {R : Reg} : ∀ {n : Bool} {v : List (List Key × V)} {d : List (D × D)}, RpT F H R n v d → D.nostP d = true → RpT F' H R n v d
  | _, _, _, .one k a, e => by
    simp only [D.nostP, Bool.and_eq_true] at e
    exact .one (RpL.unstK hK k) (RpD.unst hK h0 a e.1)
  | _, _, _, .cons k a t, e => by
    simp only [D.nostP, Bool.and_eq_true] at e
    exact .cons (RpL.unstK hK k) (RpD.unst hK h0 a e.1) (RpT.unst hK h0 t e.2)
theorem RpL.unstK {F F' : Fx} (hK : F'.K = F.K) {H : Hp} {R : Reg} : ∀ {k : List Key} {ks : List D}, RpL F H R true (k.map kV) ks → RpL F' H R true (k.map kV) ks
  | [], _, .nil => .nil
  | .inl i :: k, _, .cons a b => by
    refine .cons ?_ (RpL.unstK hK b)
    cases a with
    | int => exact .int i
    | vee => exact .vee _
  | .inr x :: k, _, .cons a b => by
    refine .cons ?_ (RpL.unstK hK b)
    cases a with
    | str => exact .str x
    | vee => exact .vee _
end
/-- the slots without the stream -/
def clr (ρ : Ro) : Ro := ρ.map fun s => match s with
  | .va x => if x.d.nost = true then .va x else .un
  | .ow d n => if d.nost = true then .ow d n else .un
  | .un => .un
theorem clr_va {ρ : Ro} {i : Nat} {x : Dv} (h : (clr ρ)[i]? = some (.va x)) : ρ[i]? = some (.va x) ∧ x.d.nost = true := by
  unfold clr at h
  rw [List.getElem?_map] at h
  cases e : ρ[i]? with
  | none => rw [e] at h; cases h
  | some s =>
    rw [e] at h
    cases s with
    | va y =>
      have h' : (if y.d.nost = true then Sl.va y else .un) = Sl.va x := Option.some.inj h
      by_cases hy : y.d.nost = true
      · rw [if_pos hy] at h'; cases h'; exact ⟨rfl, hy⟩
      · rw [if_neg hy] at h'; cases h'
    | un => cases Option.some.inj h
    | ow d n =>
      have h' : (if d.nost = true then Sl.ow d n else .un) = Sl.va x := Option.some.inj h
      split at h' <;> cases h'
theorem clr_ow {ρ : Ro} {i : Nat} {d : D} {n : Bool} (h : (clr ρ)[i]? = some (.ow d n)) : ρ[i]? = some (.ow d n) ∧ d.nost = true := by
  unfold clr at h
  rw [List.getElem?_map] at h
  cases e : ρ[i]? with
  | none => rw [e] at h; cases h
  | some s =>
    rw [e] at h
    cases s with
    | va y =>
      have h' : (if y.d.nost = true then Sl.va y else .un) = Sl.ow d n := Option.some.inj h
      split at h' <;> cases h'
    | un => cases Option.some.inj h
    | ow d' n' =>
      have h' : (if d'.nost = true then Sl.ow d' n' else .un) = Sl.ow d n := Option.some.inj h
      by_cases hy : d'.nost = true
      · rw [if_pos hy] at h'; cases h'; exact ⟨rfl, hy⟩
      · rw [if_neg hy] at h'; cases h'
theorem Own.unst {F F' : Fx} (hK : F'.K = F.K) (h0 : ∀ a, Nn F.H0 a → Nn F'.H0 a) (hP : ∀ a, F.P a → F'.P a) {H : Hp} {R : Reg} {a : Addr} {d : D} {n : Bool} (w : Own F H R a d n) (nm : ¬ F'.mx a) (e : d.nost = true) : Own F' H R a d n := by
  refine ⟨w.nr, nm, h0 _ w.n0, hP _ w.p0, ?_⟩
  have q := w.at_
  cases d with
  | lst ds => obtain ⟨vs, h, r⟩ := q; exact ⟨vs, h, r.unst hK hP (by simpa [D.nost] using e)⟩
  | dct ds =>
    rcases q with ⟨vs, h, r⟩ | ⟨vs, h, r⟩
    · exact .inl ⟨vs, h, r.unst hK hP (by simpa [D.nost] using e)⟩
    · exact .inr ⟨vs, h, r.unst hK hP (by simpa [D.nost] using e)⟩
  | obj k ds => obtain ⟨dx, vs, h, l, r⟩ := q; exact ⟨dx, vs, by rw [hK]; exact h, l, r.unst hK hP (by simpa [D.nost] using e)⟩
  | _ => exact q.elim
/-- the stream as it is laid -/
def Laid (H : Hp) (a b : Addr) : Prop := a ≠ b ∧ ∃ xs : List Int, H a = some (.lst [.ref b, .int 0, .int 0, .int 19]) ∧ H b = some (.lst (xs.map V.int)) ∧ xs.length ≤ 1000 ∧ ∀ z ∈ xs, z.natAbs < CBIT
/-- an expression that lays a stream -/
def DStrm (X : Cx) (E : XK) (e : Expr) (f : Ro → XQT → Prop) : Prop := ∃ t : TE, PE X e t ∧ ∀ F B R H σ ρ α XQ (K : VK), F.K = X.K → XLink F E XQ → B ≤ F.L → StOk F B R H σ ρ α → f ρ XQ →
  (∀ a b R' H', Ext F R H R' H' → HpOk F B R' H' → Laid H' a b → ¬ R' a → ¬ R' b → Nn H a → Nn H b → K (.ref a) H') → t σ H K
def XQtop (v : V) : XQT := fun c x u => c = .none ∧ (x = "" ∨ x = "script" ∧ u = v)
section
variable {X : Cx} {E : XK} {c ca cb cc : Nat} {a b e : Expr} {es : List Expr} {fa fb fe : TD} {fs : TDs} {pos p rp : Pos} {x : Str}
theorem strm_in {F : Fx} (hst : F.st = none) {B : Nat} {R : Reg} {H0 H : Hp} {a b : Addr} (o : HpOk F B R H) (hL : Laid H a b) (na : ¬ R a) (nb : ¬ R b) (za : Nn F.H0 a) (zb : Nn F.H0 b) : HpOk ⟨F.K, F.H0, F.R0, some (a, b), F.L, F.P⟩ B R H := by
  obtain ⟨ne, xs, h1, h2, h3, h4⟩ := hL
  have nm : ∀ x, ¬ F.mx x := fun x ⟨p, e, _⟩ => by rw [hst] at e; cases e
  refine ⟨fun p e => ?_, fun x r => ⟨fun ⟨p, e, h⟩ => ?_, (o.good x r).2⟩, fun x u m e nt => o.ent x u (nm x) e nt, o.ent2, o.reg0, o.tab, o.lim, o.pn⟩
  · cases e
    exact ⟨ne, xs, 0, 0, 19, h1, h2, by decide, by decide, by omega, by decide, by decide, h3, h4, by rw [cbit_eq]; exact Nat.two_pow_pos _⟩
  · cases e
    rcases h with h | h <;> subst h
    · exact na r
    · exact nb r
theorem strm_out {F : Fx} (hst : F.st = none) {B : Nat} {R : Reg} {H : Hp} {a b : Addr} (o : HpOk ⟨F.K, F.H0, F.R0, some (a, b), F.L, F.P⟩ B R H) (za : Nn F.H0 a) (zb : Nn F.H0 b) : HpOk F B R H := by
  have nm : ∀ x, ¬ F.mx x := fun x ⟨p, e, _⟩ => by rw [hst] at e; cases e
  refine ⟨fun p e => (by rw [hst] at e; cases e), fun x r => ⟨nm x, (o.good x r).2⟩, fun x u m e nt => o.ent x u (fun ⟨p, ep, h⟩ => ?_) e nt, o.ent2, o.reg0, o.tab, o.lim, o.pn⟩
  cases ep
  rcases h with h | h <;> subst h
  · exact za u e nt
  · exact zb u e nt
/-- x = (a new stream); what comes behind draws from it -/
theorem dss_strm {tg : Expr} {i : Nat} {fS : Ro → XQT → Prop} {rest : List Stmt} {gb : TDS} (he : DStrm X E e fS) (hg : PG X tg (gName i)) (ps : ∀ te t, PE X e te → PG X tg t → PS X (.Assign [tg] e pos) (tAsg te t)) (hr : DSs X E c rest gb) :
    DSs X E c (.Assign [tg] e pos :: rest) (fun N ρ XQ => XQ .none "" .non ∧ fS ρ XQ ∧ gb { nx := fun ρ' => N.nx (clr ρ'), rt := fun r => r.d.nost = true ∧ N.rt r, bk := fun ρ' => N.bk (clr ρ'), ct := fun ρ' => N.ct (clr ρ') } (ρ.set i (.va ⟨.strm, true, none⟩)) XQ0) := by
  obtain ⟨t, pt, s⟩ := he
  obtain ⟨t2, p2, s2⟩ := hr
  refine ⟨_, pss_cons (ps t _ pt hg) p2, fun F B R H σ ρ α XQ N K hK hX hB S ⟨hx, hf, h⟩ k => ?_⟩
  have hst := (hX.1 _ _ hx).1 rfl
  refine s F B R H σ ρ α XQ _ hK hX (by omega) S hf fun a b R' H' e1 o1 hL na nb za zb => ?_
  have za0 := S.hp.ent2 a za
  have zb0 := S.hp.ent2 b zb
  have o2 := strm_in (H0 := H) hst o1 hL na nb za0 zb0
  have S1 := S.ext e1 o1
  have mv : ∀ m, Mv F R' H' ⟨F.K, F.H0, F.R0, some (a, b), F.L, F.P⟩ R' H' m m := fun m => ⟨rfl, fun p z => (by rw [hst] at z; cases z), fun _ _ r h _ => ⟨r, h⟩, fun _ _ h => h, fun z _ _ _ _ _ q => q z⟩
  have own_ne : ∀ j d n, ρ[j]? = some (.ow d n) → α j ≠ a ∧ α j ≠ b := fun j d n hj => by
    obtain ⟨o, ho, nt⟩ := (S.ow j d n hj).2.some
    exact ⟨fun ej => za o (ej ▸ ho) nt, fun ej => zb o (ej ▸ ho) nt⟩
  have S2 : StOk ⟨F.K, F.H0, F.R0, some (a, b), F.L, F.P⟩ B R' H' σ ρ α := ⟨o2, S1.len, fun j y hj => by
      obtain ⟨v, hv, r⟩ := S1.va j y hj
      exact ⟨v, hv, r.1.mv (mv _), r.2⟩, fun j d n hj => by
      obtain ⟨ej, w⟩ := S1.ow j d n hj
      refine ⟨ej, w.nr, fun ⟨p, ep, hp⟩ => ?_, w.n0, w.p0, ?_⟩
      · cases ep
        obtain ⟨n1, n2⟩ := own_ne j d n hj
        exact hp.elim n1 n2
      · have q := w.at_
        cases d with
        | lst ds => obtain ⟨vs, h, r⟩ := q; exact ⟨vs, h, r.mv (mv _)⟩
        | dct ds =>
          rcases q with ⟨vs, h, r⟩ | ⟨vs, h, r⟩
          · exact .inl ⟨vs, h, r.mv (mv _)⟩
          · exact .inr ⟨vs, h, r.mv (mv _)⟩
        | obj k ds => obtain ⟨dx, vs, h, l, r⟩ := q; exact ⟨dx, vs, h, l, r.mv (mv _)⟩
        | _ => exact q.elim, S1.dis⟩
  have S3 := S2.setva i (x := ⟨.strm, true, none⟩) (v := .ref a) (.of (.strm (p := (a, b)) rfl))
  refine s2 ⟨F.K, F.H0, F.R0, some (a, b), F.L, F.P⟩ B R' H' _ _ α XQ0 _ _ hK xlink0 hB S3 h ?_
  have back : ∀ {R2 H2}, Fz ⟨F.K, F.H0, F.R0, some (a, b), F.L, F.P⟩ R' H' R2 H2 → Fz F R H R2 H2 := fun {R2 H2} z => (e1.fz S.hp).trans ⟨z.reg, z.keep, z.tup⟩
  have stb : ∀ {R2 H2 σ2 ρ2 α2}, StOk ⟨F.K, F.H0, F.R0, some (a, b), F.L, F.P⟩ (B + c) R2 H2 σ2 ρ2 α2 → StOk F (B + c) R2 H2 σ2 (clr ρ2) α2 := fun {R2 H2 σ2 ρ2 α2} S' =>
    ⟨strm_out hst S'.hp za0 zb0, by unfold clr; rw [List.length_map]; exact S'.len, fun j y hj => by
      obtain ⟨hj, hn⟩ := clr_va hj
      obtain ⟨v, hv, r⟩ := S'.va j y hj
      exact ⟨v, hv, RpD.unst (F := ⟨F.K, F.H0, F.R0, some (a, b), F.L, F.P⟩) (F' := F) rfl (fun _ z => z) r.1 hn, r.2⟩, fun j d n hj => by
      obtain ⟨hj, hn⟩ := clr_ow hj
      obtain ⟨ej, w⟩ := S'.ow j d n hj
      exact ⟨ej, Own.unst (F := ⟨F.K, F.H0, F.R0, some (a, b), F.L, F.P⟩) (F' := F) rfl (fun _ z => z) (fun _ z => z) w (fun ⟨p, e, _⟩ => by rw [hst] at e; cases e) hn⟩, fun j m d n d' n' hj hm => S'.dis j m d n d' n' (clr_ow hj).1 (clr_ow hm).1⟩
  exact ⟨fun σ' H2 ρ' R2 α' z S' q => k.nx σ' H2 (clr ρ') R2 α' (back z) (stb S') q, fun v y R2 H2 z o r q => k.rt v y R2 H2 (back z) (strm_out hst o za0 zb0) ⟨RpD.unst (F := ⟨F.K, F.H0, F.R0, some (a, b), F.L, F.P⟩) (F' := F) rfl (fun _ z => z) r.1 q.1, r.2⟩ q.2, fun σ' H2 ρ' R2 α' z S' q => k.bk σ' H2 (clr ρ') R2 α' (back z) (stb S') q, fun σ' H2 ρ' R2 α' z S' q => k.ct σ' H2 (clr ρ') R2 α' (back z) (stb S') q⟩
end
end DL

set_option Elab.async false
set_option linter.all false
set_option maxRecDepth 100000
set_option maxHeartbeats 4000000
/-! DL, part w: list(script); a def that lays a stream. -/
namespace DL
open PySem PySem.Spec PyProof.Rows L2
theorem rpl_intsW {F : Fx} {H : Hp} {R : Reg} {n : Bool} : ∀ ns : List Int, RpL F H R n (ns.map V.int) (ns.map D.int)
  | [] => .nil
  | i :: ns => .cons (.int i) (rpl_intsW ns)
theorem rpl_intsI {F : Fx} {H : Hp} {R : Reg} {n : Bool} : ∀ {ns : List Int} {us : List V}, RpL F H R n us (ns.map D.int) → us = ns.map V.int
  | [], _, h => by cases h; rfl
  | i :: ns, _, h => by
    cases h with
    | cons a t => cases a; rw [rpl_intsI t]; rfl
section
variable {X : Cx} {E : XK} {c ca cb cc : Nat} {a b e : Expr} {es : List Expr} {fa fb fe : TD} {fs : TDs} {pos p rp : Pos} {x : Str}
/-- list(script), the script as it is known of no class -/
theorem de_scr {p1 : Pos} (hg : Gl X "list") (hm : X.mg "list" = none) (ha : DA X E c [e] fs) (he : starEach [e] X.env = (false, eval e X.env) :: starEach [] X.env := by rfl) (hpl : (backTo pos (starEach [] X.env)).any (·.1) = false := by rfl) :
    DE X E c (.Call (.Name "list" p1) [e] [] pos) (fun ρ XQ Q => fs ρ XQ fun xs => ∃ x a, xs = [x] ∧ x.v = some (.ref a) ∧ XQ .none "script" (.ref a) ∧ ∀ ns : List Int, ns.length ≤ 63 → (∀ z ∈ ns, z.natAbs < CBIT) → Q ⟨.lst (ns.map D.int), true, none⟩) := by
  obtain ⟨t, pt, s⟩ := ha
  refine ⟨_, pe_callTy call_list_of hg hm (by decide +kernel) pt (by decide) (by decide) he hpl, fun F B R H σ ρ α XQ Q K hK hX hB S h k => ?_⟩
  refine s F B R H σ ρ α XQ _ _ hK hX hB S h fun vs xs R1 H1 e1 o1 r1 ⟨x, a, ex, ev, hx, q⟩ => ?_
  subst ex
  cases r1 with
  | @cons _ v _ _ r1 rn =>
  cases rn
  have hv : V.ref a = v := r1.2 _ ev
  subst hv
  obtain ⟨hs, a', ns, ea, sq, l, l2⟩ := (hX.1 _ _ hx).2 rfl
  cases ea
  have sq1 : SqF X.K H1 a (ns.map V.int) := hK ▸ sq.keep fun o u h => o1.ent a _ (fun ⟨p, ep, _⟩ => by rw [hs] at ep; cases ep) h .frz
  refine ⟨a, ns.map V.int, rfl, .inl sq1.sql, fun q0 hq => ?_⟩
  obtain ⟨e, o, r⟩ := new_lst (n := true) o1 hq (rpl_intsW ns)
  exact k _ ⟨.lst (ns.map D.int), true, none⟩ _ _ (e1.trans e) o (.of r) (q ns l l2)
/-- a def that lays a stream of a list's items -/
def spLay : List V → Hp → VK → XK → Prop := fun vs H Q _ => vs.length = 1 ∧ ∃ a xs, vs = [.ref a] ∧ H a = some (.lst xs) ∧ xs.length ≤ 1000 ∧ ∀ p q, H p = none → (upd H p (.lst xs)) q = none → Q (.ref q) (upd (upd H p (.lst xs)) q (.lst [.ref p, .int 0, .int 0, .int 19]))
theorem dstrm_call {k : Nat} {f : Addr} {fd : FuncData} {ps : List Str} (F : FnOk X.prog X.w X.K X.mg X.base (L2.CX X.prog X.w) k f fd ps spLay) (hr : Room k X.A) (hg : Gl X x) (hm : X.mg x = some (.ref f)) (hk : PySem.W.keepIn X.K (.ref f) = true) (hb : Binds X.K fd ps [])
    (hx : Passes (L2.CX X.prog X.w) X E) (hn : [e].length = ps.length) (ha : DA X E 0 [e] fs) (hdb : (x == ("__debug__" : Str)) = false := by decide) (he : starEach [e] X.env = (false, eval e X.env) :: starEach [] X.env := by rfl) (hpl : (backTo pos (starEach [] X.env)).any (·.1) = false := by rfl) :
    DStrm X E (.Call (.Name x p) [e] [] pos) (fun ρ XQ => fs ρ XQ fun xs => ∃ (y : Dv) (ns : List Int), xs = [y] ∧ y.d = .lst (ns.map D.int) ∧ ns.length ≤ 1000 ∧ ∀ z ∈ ns, z.natAbs < CBIT) := by
  obtain ⟨t, pt, s⟩ := ha
  refine ⟨_, pe_call F hr hg hm hk hb .nil hx pt hdb he hpl, fun F B R H σ ρ α XQ K hK hX hB S h k => ?_⟩
  refine s F B R H σ ρ α XQ _ _ hK hX hB S h fun vs xs R1 H1 e1 o1 r1 ⟨y, ns, ex, ed, l, l2⟩ => ?_
  rw [List.append_nil]
  subst ex
  cases r1 with
  | @cons _ v _ _ r1 rn =>
  cases rn
  obtain ⟨d, n, vo⟩ := y
  have ed : d = .lst (ns.map D.int) := ed
  subst ed
  obtain ⟨a, us, rfl, ha, la⟩ := r1.lstL rfl
  have eu := rpl_intsI la
  subst eu
  refine ⟨rfl, a, ns.map V.int, rfl, ha, by rw [List.length_map]; exact l, fun p q hp hq => ?_⟩
  have e2 : Ext F R1 H1 R1 (upd H1 p (.lst (ns.map V.int))) := .new0 hp
  have o2 := o1.new0 hp (.lst (xs := ns.map V.int))
  have e3 : Ext F R1 _ R1 (upd (upd H1 p (.lst (ns.map V.int))) q (.lst [.ref p, .int 0, .int 0, .int 19])) := .new0 hq
  have ne : q ≠ p := fun z => by
    subst z
    rw [upd_same] at hq; cases hq
  exact k q p R1 _ ((e1.trans e2).trans e3) (o2.new0 hq .lst) ⟨ne, ns, upd_same, by rw [upd_ne (Ne.symm ne)]; exact upd_same, l, l2⟩ (not_frozen o2 hq) (not_frozen o1 hp) (e1.there q (e2.there q (.of hq))) (e1.there p (.of hp))
/-- two texts of any kind -/
theorem dop_neS : DOp X (compareOp .NotEq) (fun x y Q => ∃ i j, x.d = .str i ∧ y.d = .str j ∧ Q ⟨.bl (!decide (i = j)), true, none⟩) :=
  ⟨_, op_ne, fun F B R H v u x y Q K hK I rx ry ⟨i, j, ex, ey, q⟩ k => by
    obtain ⟨dx, nx, vx⟩ := x
    obtain ⟨dy, ny, vy⟩ := y
    have ex : dx = .str i := ex
    have ey : dy = .str j := ey
    subst ex ey
    have r1 := rx.1; have r2 := ry.1
    cases r1; cases r2
    refine ⟨rfl, ?_⟩
    have e : (!decide (V.str i = V.str j)) = !decide (i = j) := by
      congr 1
      exact decide_eq_decide.mpr ⟨fun z => by cases z; rfl, fun z => by rw [z]⟩
    rw [e]
    exact k _ _ R H .refl I (.of (.bl _)) q⟩
end
end DL

set_option Elab.async false
set_option linter.all false
set_option maxRecDepth 100000
set_option maxHeartbeats 4000000
/-! DL, part x: what the head is asked; from its facts to the law's def. -/
namespace DL
open PySem PySem.Spec PyProof.Rows L2

theorem excB_ok {K : PySem.W.Frag} {h : Heap} {mg : Str → Option Value} {x fld : Str} {st : Stmt} {fd : FuncData} (X : K.In h) (G : h.Ns mainGlobals mg) (hg : (He.Fa.glo x).ok K = true) (hb : excB x fld K = true)
    (F : FunD K "__init__" (x ++ ".__init__") (defArgs st) (defBody st) (defScope st) [] [] (He.ma K (He.ga K x) "__init__") fd)
    (hbd : ∀ (kV doc pm : Value) (an : Option Addr) (cdv ct : Value) (us : List Value), us.length = 2 → bindArgs (PySem.W.fnOf "__init__" (x ++ ".__init__") (defArgs st) (defBody st) (defScope st) .none kV doc pm an cdv ct) ⟨us, []⟩ = pure ((["self", fld] : List Str).zip us)) :
    ∃ T : ExT K mg x fld st, T.C = He.ga K x ∧ PySem.W.exmOne K (.ref T.C) (.ref T.C) = some true := by
  obtain ⟨h1, h⟩ := He.ba hb
  obtain ⟨h2, h⟩ := He.ba h
  obtain ⟨h3, h⟩ := He.ba h
  obtain ⟨h4, h⟩ := He.ba h
  obtain ⟨h5, h⟩ := He.ba h
  obtain ⟨h6, h⟩ := He.ba h
  obtain ⟨h7, h⟩ := He.ba h
  obtain ⟨h8, h9⟩ := He.ba h
  have m := He.meth_ok h2
  have xf := L2.xfB_ok h5
  have hc : ∃ nm q N bs bm sn sub ab col dd k0 k1 k2 k3 k5, K.lookup (He.ga K x) = some (excClassObj nm q (He.ga K x) N bs bm true sn sub ab col dd k0 k1 k2 k3 k5 "ValueError.__new__") ∧ PySem.HandSPX.refsVE bm = true := by
    cases e : K.lookup (He.ga K x) with
    | none =>
      rw [e] at h1
      cases h1
    | some o =>
      rw [e] at h1
      obtain ⟨nm, q, N, bs, bm, sn, sub, ab, col, dd, k0, k1, k2, k3, k5, eo, r⟩ := isExcO_ok h1
      exact ⟨nm, q, N, bs, bm, sn, sub, ab, col, dd, k0, k1, k2, k3, k5, congrArg some eo, r⟩
  exact ⟨⟨He.ga K x, He.ma K (He.ga K x) "__init__", fd, ⟨hc, He.eqO_ok h6, xf.exC, of_decide_eq_true h7, h8⟩, xf, He.glo_ok X G hg, He.eqO_ok (He.ba h2).1, of_decide_eq_true h9, He.noat_ok h3, F, F.bindsN hbd⟩, rfl, He.exm_ok h4⟩

/-! ### the law's def -/
theorem bits_cbit {z : Int} (h : Builtin.Int.intBits z ≤ 1048576) : z.natAbs < CBIT := by
  rw [cbit_eq]
  unfold Builtin.Int.intBits at h
  by_cases hz : z.natAbs = 0
  · rw [hz]; exact Nat.two_pow_pos _
  · refine (Nat.log2_lt hz).mp ?_
    split at h
    · rename_i e
      exact absurd (by simpa using e) hz
    · omega

theorem lawG_of {P : Program} {w : World} {K : PySem.W.Frag} {mg : Str → Option Value} {fa : List He.Fa} {fn : List He.DefD} {ex : PySem.W.Frag → Bool} {h : Heap} {k cost : Nat} {fL : Addr} {fd : FuncData} {g : DC} (X : K.In h) (t : Told fa fn (lamDefs.map fun d => (d, none)) ex h K) (hk : k ≤ 100) (hc : cost ≤ LIM)
    (hb : ∀ (s : Shared) (u : Value), BindsTo s fd ⟨[u], []⟩ [(("script" : Str), u)])
    (F : ∀ base : Heap, K.In base → base.Ns mainGlobals mg → (∀ d ∈ lamDefs, LamX.TabB base mg (He.codeOf K (d, none)) (He.tabOf K (He.codeOf K (d, none)))) → FnG P w K mg base k fL fd ["script"] cost g)
    (hg : ∀ a Q, Q ⟨.bl true, true, none⟩ → g [.vee (.ref a)] [.ref a] (XQtop (.ref a)) Q) :
    LawG P w K mg 63 fL h ((lamDefs.map fun d => ((d, none) : He.Defn)).map (He.cT K)) := by
  refine ⟨fun p hp => ?_, fun p hp => ?_, fun p hp => ?_, fun base H s a ns KX hns hT e0 hl hbits hH hS => ?_⟩
  · obtain ⟨d, hd, rfl⟩ := List.mem_map.mp hp
    exact t.em d hd
  · obtain ⟨d, hd, rfl⟩ := List.mem_map.mp hp
    exact t.no d hd
  · obtain ⟨d, hd, rfl⟩ := List.mem_map.mp hp
    exact PySem.W.codeHd_of_K X (t.cd d hd)
  · have G := F base KX hns fun d hd => hT (He.cT K (d, none)) (List.mem_map.mpr ⟨_, List.mem_map.mpr ⟨d, hd, rfl⟩, rfl⟩)
    refine G.run callerA [] s H ⟨[.ref a], []⟩ [.ref a] [.ref a] _ _ ?_ rfl e0 (hb s (.ref a)) (.cons rfl .nil) ?_
    · have n1 : (callerA.depth : Nat) = 301 := by decide +kernel
      have n2 : (callerA.units : Nat) = 4 := rfl
      exact ⟨rfl, by rw [n1, show recursionLimit = 1000 from rfl]; omega, by rw [n2, show cLine = 9900 from rfl]; omega⟩
    · refine ⟨rfl, fun _ => False, none, cost, 0, [.vee (.ref a)], XQtop (.ref a), fun r => r.d = .bl true, ⟨fun p e => (nomatch e), fun _ r => False.elim r, fun _ _ _ e _ => e, fun _ e => e, fun _ r => False.elim r, fun p hp => ?_, hc, fun _ e => e⟩, Nat.le_of_eq (Nat.zero_add _), .cons (.vee _) .nil, hg a _ rfl, ⟨fun x v hx => ?_, fun C f v dx H' hx => ?_⟩, fun v x R' H' _ _ r q => ?_⟩
      · obtain ⟨d, hd, rfl⟩ := List.mem_map.mp hp
        refine ⟨#[], hH (He.cT K (d, none)) (List.mem_map.mpr ⟨_, List.mem_map.mpr ⟨d, hd, rfl⟩, rfl⟩), trivial, fun pos cv z => (nomatch z)⟩
      · obtain ⟨_, hx⟩ := hx
        refine ⟨fun _ => rfl, fun e => ?_⟩
        rcases hx with hx | ⟨_, hv⟩
        · rw [hx] at e; cases e
        · exact ⟨rfl, a, ns, hv, hS, hl, fun z hz => bits_cbit (hbits z hz)⟩
      · cases hx.1
      · obtain ⟨r, _⟩ := r
        have q : x.d = .bl true := q
        rw [q] at r
        cases r
        rfl
end DL

set_option Elab.async false
set_option linter.all false
set_option maxRecDepth 100000
set_option maxHeartbeats 4000000
/-! DL, part t: sorted of ints in a list or a tuple; a tuple or a list turned round. -/
namespace DLX
open PySem PySem.Spec PyProof.Rows L2
section
variable {prog : Program} {w : World} {A : Around} {E : Value → Shared → Prop} {s : Shared}
/-- the items of a tuple, told one behind another -/
theorem collect_tup {l : Addr} {vs : List Value} {Q : List Value → Shared → Prop} (hl : IsTup s.heap l vs.toArray) (h : Q vs { s with heap := (s.heap.push (seqObj "list" #[] 0)).update s.heap.objs.size (Obj.mapSeq (· ++ vs.toArray)) }) (hsz : vs.length ≤ sizeLine) :
    wpAny (model prog w) A (collect (.ref l)) Q E s := by
  obtain ⟨o, ho, hc, n, hd⟩ := id hl
  unfold collect
  refine wpAny_bind (wpAny_runValue (codeAny_builtin entry_proto_collect' ?_))
  show wpAny _ _ (do again (.builtin "list.__iadd__" ⟨[← newList [], .ref l], []⟩)) _ _ s
  refine wpAny_bind (wpAny_newList (wpAny_pure ⟨Code.quiet_builtin _ (by decide +kernel), codeAny_builtin entry_list_iadd' ?_⟩))
  show wpAny _ _ (Builtin.List.listExtendWith (.ref s.heap.objs.size) (.ref l) (.ref s.heap.objs.size)) _ _ { s with heap := s.heap.push (seqObj "list" #[] 0) }
  unfold Builtin.List.listExtendWith
  have ho' : (s.heap.push (seqObj "list" #[] 0)).get? l = some o := Heap.get?_push_of_some _ ho
  refine wpAny_bind (wpAny_typeOf (T := "tuple") ⟨o, ho', hc⟩ ?_)
  rw [if_pos (by
    have ht : (Value.type "tuple" == Value.type "tuple") = true := by rfl
    rw [ht, Bool.or_true])]
  refine wpAny_bind (listItems_at ho' hd ?_)
  refine wpAny_bind (listItems_at (xs := #[]) (n := 0) (Heap.get?_push_size _ rfl) rfl ?_)
  rw [if_neg (by simp)]
  refine wpAny_bind (listUpdate_at (xs := #[]) (n := 0) (Heap.get?_push_size _ rfl) rfl ?_ (Nat.zero_le _) (by show (#[] ++ vs.toArray).size ≤ sizeLine + 1; simp only [Array.size_append, List.size_toArray, List.length_nil]; omega))
  refine wpAny_pure ?_
  show wpAny (model prog w) A (do
      let o ← load s.heap.objs.size
      match o.data with
      | .seq xs _ => pure xs.toList
      | _ => unsupported "internal:collect") Q E { s with heap := (s.heap.push (seqObj "list" #[] 0)).update s.heap.objs.size (Obj.mapSeq (· ++ vs.toArray)) }
  refine wpAny_bind (wpAny_load (get?_update_seq (Heap.get?_push_size _ rfl) _) ?_)
  show wpAny _ _ (pure ((#[] : Array Value) ++ vs.toArray).toList) Q E _
  rw [show ((#[] : Array Value) ++ vs.toArray).toList = vs by simp]
  exact wpAny_pure h
/-- sorted(t) of a tuple of ints -/
theorem sorted_tup {l : Addr} {vs : List Value} {ns : List Int} {Q : Value → Shared → Prop} (hl : IsTup s.heap l vs.toArray) (hz : vs.length ≤ sizeLine) (hi : IntsAre vs ns)
    (h : ∀ out : List Value, SrtO.Srtd SrtO.ltIv out → SrtO.Stb SrtO.ltIv out vs → Q (.ref (s.heap.objs.size + 1)) { s with heap := sortedAll s.heap vs out.toArray }) :
    wpAny (model prog w) A (call (.builtin "sorted") [.ref l]) Q E s := by
  refine Calls.call_function_entry kind_sorted plain_sorted entry_sorted (args_sorted1 _) ?_
  unfold Builtin.«sorted»
  refine wpAny_bind (m := checkCount "sorted" 1 1 _) (wpAny_pure ?_)
  refine wpAny_bind (collect_tup hl ?_ hz)
  refine wpAny_bind (wpAny_newList ?_ hz)
  have hsz : ((s.heap.push (seqObj "list" #[] 0)).update s.heap.objs.size (Obj.mapSeq (· ++ vs.toArray))).objs.size = s.heap.objs.size + 1 := by
    rw [Heap.size_update, size_push']
  have hoL : (((s.heap.push (seqObj "list" #[] 0)).update s.heap.objs.size (Obj.mapSeq (· ++ vs.toArray))).push (seqObj "list" vs.toArray 0)).get? (s.heap.objs.size + 1) = some (seqObj "list" vs.toArray 0) := by
    rw [← hsz]; exact Heap.get?_push_size _ rfl
  show wpAny _ _ _ _ _ { s with heap := ((s.heap.push (seqObj "list" #[] 0)).update s.heap.objs.size (Obj.mapSeq (· ++ vs.toArray))).push (seqObj "list" vs.toArray 0) }
  rw [hsz]
  refine wpAny_bind (wpAny_holding (wpAny_call_entry slot_list_sort ⟨_, hoL, rfl⟩ entry_list_sort (SrtO.list_sort_ord SrtO.swo_int hoL hz (fun h2 => SrtO.ints_sortable hi h2) fun out hs hb => ⟨_, rfl, ?_⟩) (args_list_sort _)))
  exact wpAny_pure ⟨_, rfl, h out hs hb⟩
theorem filterMap_same {α β : Type} {f g : α → Option β} : ∀ {l : List α}, (∀ x ∈ l, f x = g x) → l.filterMap f = l.filterMap g
  | [], _ => rfl
  | a :: l, h => by
    rw [List.filterMap_cons, List.filterMap_cons, h a List.mem_cons_self, filterMap_same fun x hx => h x (List.mem_cons_of_mem _ hx)]
theorem pick_rev (xs : Array Value) : ((List.range xs.size).filterMap fun (k : Nat) => xs[(((xs.size : Int) - 1) + (k : Int) * (-1)).toNat]?).toArray = xs.toList.reverse.toArray := by
  congr 1
  have e : ∀ k ∈ List.range xs.size, xs[(((xs.size : Int) - 1) + (k : Int) * (-1)).toNat]? = (fun k => xs[xs.size - 1 - k]?) k := fun k hk => by
    have := List.mem_range.mp hk
    show xs[_]? = xs[_]?
    congr 1
    omega
  have : ((List.range xs.size).map fun k => xs.size - 1 - k).filterMap (fun x : Nat => xs[x]?) = xs.toList.reverse := by
    rw [PySem.W.krv_range, List.filterMap_reverse, PySem.W.krv_all]
  rw [← this, List.filterMap_map]
  exact filterMap_same e
theorem getItem_tuple_rev {t sl : Addr} {items : Array Value} {vl vu vs : Value} {Q : Value → Shared → Prop} (ht : IsTup s.heap t items) (hs : s.heap.IsSliceOf sl vl vu vs) (pl : IsPart vl none) (pu : IsPart vu none) (ps : IsPart vs (some (-1)))
    (h : Q (.ref s.heap.objs.size) { s with heap := s.heap.push { cls := .type "tuple", data := .seq items.toList.reverse.toArray } }) (hsz : items.size ≤ sizeLine) : wpAny (model prog w) A (getItem (.ref t) (.ref sl)) Q E s := by
  have htake : sizeOk (.seq items.toList.reverse.toArray) := by
    show items.toList.reverse.toArray.size ≤ sizeLine
    rw [List.size_toArray, List.length_reverse, Array.length_toList]
    exact hsz
  obtain ⟨os, hos, hcs, hds⟩ := id hs
  have hTs : s.TypeIs (.ref sl) "slice" := ⟨os, hos, hcs⟩
  unfold getItem
  try with_reducible refine wpAny_holding ?_
  first | refine wpAny_bind (wpAny_pure ?_) | skip
  refine wpAny_bind (wpAny_sequenceKey ht.typeIs (by decide) ?_)
  refine wpAny_bind (wpAny_callSpecial?_slot (name := Str.ofString "__getitem__") ht.typeIs PyProof.Rows.slot_tuple_getitem
    (wpAny_call_entry PyProof.Rows.slot_tuple_getitem ht.typeIs entry_tuple_getitem ?_ (args_tuple_getitem _ _)))
  show wpAny _ _ (Builtin.Tuple.tupleItemsOf (.ref t) >>= _) _ _ s
  refine wpAny_bind (tupleItemsOf_ ht ?_)
  refine wpAny_bind (wpAny_typeOf hTs ?_)
  rw [if_pos (by decide)]
  refine wpAny_bind (m := Builtin.Slice.sliceApplied (.ref sl) (pure (items.size : Int))) ?_
  unfold Builtin.Slice.sliceApplied Builtin.Slice.sliceFields
  refine wpAny_bind (wpAny_bind (wpAny_field hos hds (x := vl) rfl (wpAny_bind (wpAny_field hos hds (x := vu) rfl (wpAny_bind (wpAny_field hos hds (x := vs) rfl (wpAny_pure ?_)))))))
  refine wpAny_bind (HT.slicePart_ ps ?_)
  show wpAny _ _ (if ((-1 : Int) == 0) = true then _ else _) _ _ s
  rw [if_neg (by decide)]
  refine wpAny_bind (HT.slicePart_ pl (wpAny_bind (HT.slicePart_ pu (wpAny_bind (wpAny_pure ?_)))))
  have adj : Builtin.Slice.sliceAdjust none none (-1) (items.size : Int) = ((items.size : Int) - 1, -1) := rfl
  show wpAny _ _ (match Builtin.Slice.sliceAdjust none none (-1) (items.size : Int) with | (lo, hi) => pure (lo, (-1 : Int), Builtin.Slice.slicePlaces lo hi (-1))) _ _ s
  rw [adj]
  have pl : Builtin.Slice.slicePlaces ((items.size : Int) - 1) (-1) (-1) = items.size := by
    unfold Builtin.Slice.slicePlaces
    rw [if_neg (by decide)]
    by_cases hz : (items.size : Int) - 1 > -1
    · rw [if_pos hz, show (- -1 : Int) = 1 by decide, Int.ediv_one]
      omega
    · rw [if_neg hz]
      omega
  show wpAny _ _ (pure ((items.size : Int) - 1, (-1 : Int), Builtin.Slice.slicePlaces ((items.size : Int) - 1) (-1) (-1))) _ _ s
  rw [pl]
  refine wpAny_pure ?_
  have hno : ¬ (((((items.size : Int) - 1) == 0 && (-1 : Int) == 1 && items.size == items.size)) = true) := by
    intro q
    rw [Bool.and_eq_true, Bool.and_eq_true] at q
    exact absurd q.1.2 (by decide)
  show wpAny _ _ (if ((((items.size : Int) - 1) == 0 && (-1 : Int) == 1 && items.size == items.size)) = true then _ else _) _ _ s
  rw [if_neg hno, pick_rev]
  first
    | exact wpAny_bind (m := Builtin.Tuple.tupleExact _) (wpAny_newObj_type (wpAny_pure ⟨_, rfl, wpAny_pure h⟩) htake)
    | exact wpAny_bind (m := Builtin.Tuple.tupleExact _) (wpAny_newObj_type (wpAny_bind (wpAny_pure (wpAny_pure ⟨_, rfl, wpAny_pure h⟩))) htake)
    | exact wpAny_bind (wpAny_bind (m := Builtin.Tuple.tupleExact _) (wpAny_newObj_type (wpAny_pure (wpAny_pure ⟨_, rfl, wpAny_pure h⟩)) htake))
    | exact wpAny_bind (wpAny_bind (m := Builtin.Tuple.tupleExact _) (wpAny_newObj_type (wpAny_pure ⟨_, rfl, wpAny_pure h⟩) htake))
end
end DLX
namespace DL
open PySem PySem.Spec PyProof.Rows L2
section
variable {X : Cx} {E : XK} {c : Nat} {e : Expr} {fe : TD} {x : Str}
def rSortedTI (K : PySem.W.Frag) : List V → Hp → VK → Prop := fun vs H Q => ∃ (a : Addr) (ns : List Int), vs = [V.ref a] ∧ (SqL K H a (ns.map V.int) ∨ SqT K H a (ns.map V.int)) ∧
  ∀ (ns' : List Int) (p : Addr), ns'.Perm ns → ns'.Pairwise (· ≤ ·) → H p = none → Q (.ref p) (upd H p (.lst (ns'.map V.int)))
theorem cr_sortedTI : CallR X (.builtin "sorted") (rSortedTI X.K) := by
  intro pins s σ H vs us Q I r h
  obtain ⟨a, ns, rfl, hs, q⟩ := h
  rcases hs with hs | hs
  · exact cr_sortedI pins s σ H _ us Q I r ⟨a, ns, rfl, hs, q⟩
  obtain ⟨its, rv, hl, hz⟩ := I.tuple hs
  rw [Vals.ref1 r]
  have hi := rv.ints
  refine DLX.sorted_tup hl (by rw [← rv.length]; exact hz) hi fun out h1 h2 => ?_
  obtain ⟨k1, k2, k3⟩ := SrtO.ints_out hi h1 h2
  obtain ⟨ep, he'⟩ := PyProof.Rows.sortedAll_at s.heap its out.toArray
  have hlen : ((out.map SrtO.iv).map V.int).length ≤ sizeLine := by
    rw [List.length_map, k2.length_eq]
    rw [List.length_map] at hz
    exact hz
  exact ⟨.ref _, upd H (s.heap.objs.size + 1) (.lst ((out.map SrtO.iv).map V.int)), I.laid (t' := s.toks) (fun _ _ => PyProof.Rows.sortedAll_old) (Nat.le_succ _) ⟨hlen, out, ep, vals_of_ints k1, he'⟩, rfl, q _ _ k2 k3 (I.hok.fresh (Nat.le_succ _))⟩
theorem rplIntsD {F : Fx} {H : Hp} {R : Reg} {n : Bool} : ∀ ns : List Int, RpL F H R n (ns.map V.int) (ns.map D.int)
  | [] => .nil
  | i :: ns => .cons (.int i) (rplIntsD ns)
theorem rplVints {F : Fx} {H : Hp} {R : Reg} {n : Bool} : ∀ {ns : List Int} {vs : List V}, RpL F H R n vs (ns.map D.int) → vs = ns.map V.int
  | [], _, .nil => rfl
  | i :: ns, _, .cons a t => by
    cases a
    rw [rplVints t]
    rfl
/-- sorted(x), ints -/
theorem dcl_sorted : DCl X (.builtin "sorted") (g1 fun x Q => ∃ ns : List Int, x.d.seq = some (ns.map D.int) ∧ ∀ ns' : List Int, ns'.Perm ns → ns'.Pairwise (· ≤ ·) → Q ⟨.lst (ns'.map D.int), true, none⟩) := dcl1 cr_sortedTI fun F B R H v x Q K hK I r ⟨ns, es, q⟩ k => by
  have fin : ∀ (ns' : List Int) (p : Addr), ns'.Perm ns → ns'.Pairwise (· ≤ ·) → H p = none → K (.ref p) (upd H p (.lst (ns'.map V.int))) := fun ns' p h1 h2 hp => by
    obtain ⟨e, o, r⟩ := new_lst (n := true) I hp (rplIntsD ns')
    exact k _ _ _ _ e o (.of r) (q ns' h1 h2)
  obtain ⟨d, n, vo⟩ := x
  cases d <;> try (cases es; done)
  case lst ds =>
    cases es
    obtain ⟨a, us, rfl, ha, la⟩ := r.lstL rfl
    rw [rplVints la] at ha
    exact ⟨a, ns, rfl, .inl (.of ha), fin⟩
  case tup ds =>
    cases es
    obtain ⟨a, us, rfl, ha, la⟩ := r.tupL rfl
    rw [rplVints la] at ha
    exact ⟨a, ns, rfl, .inr (hK ▸ ha), fin⟩
def tRevS (K : PySem.W.Frag) (te : TE) : TE := fun σ H Q => te σ H fun x H1 => ∃ a xs, x = .ref a ∧ ((SqL K H1 a xs ∧ ∀ p, H1 p = none → Q (.ref p) (upd H1 p (.lst xs.reverse))) ∨ (SqT K H1 a xs ∧ ∀ p, H1 p = none → Q (.ref p) (upd H1 p (.tup xs.reverse))))
theorem pe_revS {te : TE} {k : Nat} {p1 p2 p3 pos : Pos} (he : PE X e te) : PE X (.Subscript e (.Slice none none (some (.UnaryOp .USub (.Constant (.int 1) k p1) p2)) p3) pos) (tRevS X.K te) := by
  refine ⟨fun pins s σ H Q I h => ?_⟩
  refine Subscript_ (thn (he.run pins s σ H _ I h) fun v s1 ⟨x, H1, I1, r1, q1⟩ => ?_)
  obtain ⟨a, xs, ex, q⟩ := q1
  subst ex
  cases r1
  have hst : PO X (some (.UnaryOp .USub (.Constant (.int 1) k p1) p2)) (tPart (tUn (rU fun i => .int (-i)) (tC (.int 1)))) := po_some (pe_un un_neg pe_int)
  refine wpAny_Slice (thn (po_none.run pins s1 σ H1 (fun o H2 => o = none ∧ H2 = H1) I1 ⟨rfl, rfl⟩) fun vl s2 ⟨l, H2, I2, pl, el, e2⟩ => ?_)
  subst el e2
  refine thn (po_none.run pins s2 σ H2 (fun o H3 => o = none ∧ H3 = H2) I2 ⟨rfl, rfl⟩) fun vu s3 ⟨u, H3, I3, pu, eu, e3⟩ => ?_
  subst eu e3
  refine thn (hst.run pins s3 σ H3 (fun o H4 => o = some (-1) ∧ H4 = H3) I3 ⟨1, rfl, -1, rfl, rfl, rfl⟩) fun vs s4 ⟨o, H4, I4, ps, eo, e4⟩ => ?_
  subst eo e4
  have I5 : Inv X pins σ H4 { s4 with heap := s4.heap.push { cls := .type "slice", data := .fields #[vl, vu, vs] } } := I4.kept (t' := s4.toks) fun b ob q => Heap.get?_push_of_some _ q
  show wpAny (model X.prog X.w) X.A (subscriptTail e (.Slice none none (some (.UnaryOp .USub (.Constant (.int 1) k p1) p2)) p3) (.ref a) (.ref s4.heap.objs.size)) (EP X pins σ Q) X.xe { s4 with heap := s4.heap.push { cls := .type "slice", data := .fields #[vl, vu, vs] } }
  rcases q with ⟨hx, q⟩ | ⟨hx, q⟩
  · obtain ⟨its, r, ht, hz⟩ := I5.list hx
    have hlen := r.length
    refine tail_any (ops := [.ref a, .ref s4.heap.objs.size]) ht.isList.typeIs (PySem.slot_list_getitem.lookup) ?_ (by with_unfolding_all rfl)
    refine wpAny_getItem_list_slice ht.isList (Heap.IsSliceOf.new _ vl vu vs) pl pu ps (by decide) ?_ (by rw [List.size_toArray]; omega)
    rw [PySem.W.krv_pick]
    refine ⟨.ref _, _, I5.laid (t' := s4.toks) (o := .lst xs.reverse) (fun b ob q => Heap.get?_push_of_some _ q) (Nat.le_refl _) ?_, rfl, q _ (I5.hok.fresh (Nat.le_refl _))⟩
    exact ⟨by rw [List.length_reverse]; exact hz, _, 0, r.reverse, Heap.get?_push_size _ rfl⟩
  · obtain ⟨its, r, ht, hz⟩ := I5.tuple hx
    have hlen := r.length
    refine tail_any (ops := [.ref a, .ref s4.heap.objs.size]) ht.typeIs (PyProof.Rows.slot_tuple_getitem.lookup) ?_ (by with_unfolding_all rfl)
    refine DLX.getItem_tuple_rev ht (Heap.IsSliceOf.new _ vl vu vs) pl pu ps ?_ (by rw [List.size_toArray]; omega)
    refine ⟨.ref _, _, I5.laid (t' := s4.toks) (o := .tup xs.reverse) (fun b ob q => Heap.get?_push_of_some _ q) (Nat.le_refl _) ?_, rfl, q _ (I5.hok.fresh (Nat.le_refl _))⟩
    exact ⟨by rw [List.length_reverse]; exact hz, _, r.reverse, IsTup.new _ _⟩
/-- x[::-1] -/
theorem de_rev {k : Nat} {p1 p2 p3 pos : Pos} (he : DE X E c e fe) : DE X E c (.Subscript e (.Slice none none (some (.UnaryOp .USub (.Constant (.int 1) k p1) p2)) p3) pos) (fun ρ XQ Q => fe ρ XQ fun x => ∃ ds, x.d.seq = some ds ∧ Q ⟨x.d.like ds.reverse, x.fr, none⟩) := by
  obtain ⟨t, pt, s⟩ := he
  refine ⟨_, pe_revS pt, fun F B R H σ ρ α XQ Q K hK hX hB S h k => ?_⟩
  refine s F B R H σ ρ α XQ _ _ hK hX hB S h fun v x R1 H1 e1 o1 r1 ⟨ds, es, q⟩ => ?_
  obtain ⟨d, n, vo⟩ := x
  cases d <;> try (cases es; done)
  case lst ds =>
    cases es
    obtain ⟨a, us, rfl, ha, la⟩ := r1.lstL rfl
    refine ⟨a, us, rfl, .inl ⟨.of ha, fun p hp => ?_⟩⟩
    obtain ⟨e2, o2, r2⟩ := new_lst o1 hp la.rev
    exact k _ _ _ _ (e1.trans e2) o2 (.of r2) q
  case tup ds =>
    cases es
    obtain ⟨a, us, rfl, ha, la⟩ := r1.tupL rfl
    refine ⟨a, us, rfl, .inr ⟨hK ▸ ha, fun p hp => ?_⟩⟩
    obtain ⟨e2, o2, r2⟩ := new_tup o1 hp la.rev
    exact k _ _ _ _ (e1.trans e2) o2 (.of r2) q
end
end DL
namespace DL
open PySem PySem.Spec PyProof.Rows L2 LiI
section
variable {X : Cx} {E : XK} {c : Nat} {e : Expr} {fe : TD} {te : TE} {x : Str} {p apos cpos pos : Pos}
/-- list(d.items()), d with plain keys, or empty -/
def rItems2 : V → Hp → VK → Prop := fun x H Q => ∃ (d : Addr) (kvs : List (Key × V)), x = .ref d ∧ (Rd H d (.dK kvs) ∨ (kvs = [] ∧ H d = some (.dT []))) ∧
  ∀ (H' : Hp) (p : Addr) (ts : List Addr), (∀ b o, H b = some o → H' b = some o) → H p = none → (∀ t ∈ ts, H t = none) → p ∉ ts → H' p = some (.lst (ts.map V.ref)) → Paired (fun (t : Addr) (q : Key × V) => H' t = some (.tup [kV q.1, q.2])) ts kvs → Q (.ref p) H'
theorem pe_items2 (hc : X.calm = true) (he : PE X e te) (hg : Gl X "list") (hm : X.mg "list" = none) (hbase : attributeBase e "items" X.env (eval e X.env) = eval e X.env := by rfl) (hline : (apos.endLine == cpos.line) = true := by rfl)
    (hs : starEach [.Call (.Attribute e "items" apos) [] [] cpos] X.env = (false, eval (.Call (.Attribute e "items" apos) [] [] cpos) X.env) :: starEach [] X.env := by rfl) :
    PE X (.Call (.Name "list" p) [.Call (.Attribute e "items" apos) [] [] cpos] [] pos) (fun σ H Q => te σ H fun x H1 => rItems2 x H1 Q) := by
  refine ⟨fun pins s σ H Q I hq => ?_⟩
  refine wpAny_Call_Name_kw (ld_blt I hg hm (show bootBuiltins "list" = some (.type "list") from by decide +kernel) ?_)
  refine PyProof.Rows.callWith_type1 ?_ hs rfl
  rw [hs]
  show wpAny _ _ (spliced ((false, eval (.Call (.Attribute e "items" apos) [] [] cpos) X.env) :: backTo pos (starEach [] X.env))) _ _ s
  refine Calls.spliced_cons ?_
  refine wpAny_Call_method (T := "dict") (id := "dict.items") hbase rfl hline F.plainAttrs_dict F.slot_dict_items F.type_dict_items (thn (he.run pins s σ H _ I hq) fun u s1 ⟨x, H1, I1, rx, d, kvs, ex, hd, q⟩ => ?_)
  subst ex
  obtain rfl : u = Value.ref d := rx
  obtain ⟨hz, hs0, vs, kv, hdo⟩ : kvs.length ≤ sizeLine ∧ (d == sysModules) = false ∧ ∃ vs, KV kvs vs ∧ s1.heap.DictOf (mixKind X.prog X.w) d vs := by
    rcases hd with hd | ⟨rfl, hd⟩
    · exact hd.ok I1.hok
    · obtain ⟨hz, hs0, xs, hp, o, es, ep, ho, hx, hdd, hes, _⟩ := I1.hok d _ hd
      cases hp
      have e0 : es = #[] := Array.toList_eq_nil_iff.mp hes
      subst e0
      exact ⟨hz, hs0, [], .nil, o, #[], ep, ho, hx, hdd, fun i hi => absurd hi (by simp), .nil, List.nodup_nil⟩
  obtain ⟨ep, hat⟩ := hdo.dictAt
  have lk : kvs.length = vs.length := Paired.length kv
  have I2 : Inv X pins σ H1 { s1 with heap := s1.heap.push { cls := .type "dict_items", data := .fields #[.ref d] } } := I1.kept (t' := s1.toks) fun b ob q => Heap.get?_push_of_some _ q
  refine ⟨hdo.typeIs, hdo.mapOf.noDict, ?_⟩
  show wpAny _ _ (callWith cpos (.builtin "dict.items") [.ref d] [] []) _ X.xe s1
  refine method_meetsIn F.slot_dict_items F.entry_dict_items rfl (PySem.evalArgs_none ⟨rfl, hdo.typeIs, F.args_dict_items_1 _, _, meets_dict_items (mixKind X.prog X.w) d hs0, ⟨vs, hdo⟩, ?_⟩)
  refine Calls.spliced_nil ?_
  refine PySem.W.kdx_call (knd := mixKind X.prog X.w) (kvs := vs) (ep := ep) (I1.ok.hd hc) ⟨_, Heap.get?_push_size _ rfl, rfl, rfl⟩ (hat.push _) (by omega) fun h' tk acc c as hk hS hl hG hacc => ?_
  obtain ⟨H', k1, k2, k3, k4, k5, k6, J⟩ := items_laid (tk := tk) I2 hz kv hk hS hl hG hacc
  exact ⟨.ref _, H', J, rfl, q H' _ as k1 k2 k3 k4 k5 k6⟩
theorem ext_same {F : Fx} {B : Nat} {R R' : Reg} {H H' : Hp} (I : HpOk F B R H) (k : ∀ b o, H b = some o → H' b = some o) (hR : ∀ a, R a → R' a) (hN : ∀ a, R' a → R a ∨ (H a = none ∧ ∃ o, H' a = some o ∧ NoTbl o)) : Ext F R H R' H' ∧ HpOk F B R' H' := by
  have mxn : ∀ a, H a = none → ¬ F.mx a := fun a h => mx_none I.inv h
  refine ⟨⟨hR, fun a o _ h _ => k a o h, fun a r => (hN a r).elim .inl fun z => .inr (.of z.1), fun a h o e => h o (k a o e)⟩, ⟨keep_inv k I.inv, fun a r => ?_, fun a o m h nt => k a o (I.ent a o m h nt), fun a h => I.ent2 a (keep_nn k h), fun a r => ?_, I.tab.ext k, I.lim, fun a h => I.pn a fun o e => h o (k a o e)⟩⟩
  · rcases hN a r with r | ⟨z, o, ho, nt⟩
    · obtain ⟨m, o, h, nt⟩ := I.good a r
      exact ⟨m, o, k a o h, nt⟩
    · exact ⟨mxn a z, o, ho, nt⟩
  · rcases hN a r with r | ⟨z, _⟩
    · exact I.reg0 a r
    · exact .inr (I.ent2 a (.of z))
theorem rpk_pairs {F : Fx} {B : Nat} {R : Reg} {H H' : Hp} (I : HpOk F B R H) (e : Ext F R H R H') {n : Bool} : ∀ {kvs : List (Key × V)} {ds : List (D × D)} {ts : List Addr}, RpK F H R n kvs ds → Paired (fun (t : Addr) (q : Key × V) => H' t = some (.tup [kV q.1, q.2])) ts kvs → RpL F H' R n (ts.map V.ref) (ds.map fun q => .tup [q.1, q.2])
  | _, _, _, .nil, .nil => .nil
  | _, _, _, .consI a t, .cons h r => .cons (.tup (.of h) (.cons (.int _) (.cons (a.ext I e) .nil))) (rpk_pairs I e t r)
  | _, _, _, .consS a t, .cons h r => .cons (.tup (.of h) (.cons (.str _) (.cons (a.ext I e) .nil))) (rpk_pairs I e t r)
/-- list(e.items()); a dict with keys that are tuples: the empty one alone -/
theorem de_items (hc : X.calm = true) (hg : Gl X "list") (hm : X.mg "list" = none) (he : DE X E c e fe) (hbase : attributeBase e "items" X.env (eval e X.env) = eval e X.env := by rfl) (hline : (apos.endLine == cpos.line) = true := by rfl)
    (hs : starEach [.Call (.Attribute e "items" apos) [] [] cpos] X.env = (false, eval (.Call (.Attribute e "items" apos) [] [] cpos) X.env) :: starEach [] X.env := by rfl) :
    DE X E c (.Call (.Name "list" p) [.Call (.Attribute e "items" apos) [] [] cpos] [] pos) (fun ρ XQ Q => fe ρ XQ fun x => ∃ kvs, x.d = .dct kvs ∧ (∀ q ∈ kvs, ∀ ks, q.1 ≠ .tup ks) ∧ Q ⟨.lst (kvs.map fun q => .tup [q.1, q.2]), x.fr, none⟩) := by
  obtain ⟨t, pt, s⟩ := he
  refine ⟨_, pe_items2 hc pt hg hm hbase hline hs, fun F B R H σ ρ α XQ Q K hK hX hB S h k => ?_⟩
  refine s F B R H σ ρ α XQ _ _ hK hX hB S h fun v x R1 H1 e1 o1 r1 ⟨kvs, ed, hk, q⟩ => ?_
  have fin : ∀ (l : List (Key × V)), RpK F H1 R1 x.fr l kvs → ∀ (H' : Hp) (p : Addr) (ts : List Addr), (∀ b o, H1 b = some o → H' b = some o) → H1 p = none → (∀ t ∈ ts, H1 t = none) → p ∉ ts → H' p = some (.lst (ts.map V.ref)) → Paired (fun (t : Addr) (q : Key × V) => H' t = some (.tup [kV q.1, q.2])) ts l → K (.ref p) H' := fun l rl H' p ts k1 hp _ _ hl hts => by
    obtain ⟨e2, o2⟩ := ext_same (R' := R1.add p) o1 k1 (fun _ r => .inl r) fun a r => r.elim .inl fun z => .inr (by subst z; exact ⟨hp, _, hl, .lst⟩)
    obtain ⟨e3, o3⟩ := ext_same (R' := R1) o1 k1 (fun _ r => r) fun a r => .inl r
    have r3 := rpk_pairs o1 e3 rl hts
    have mv : Mv F R1 H' F (R1.add p) H' x.fr x.fr := ⟨rfl, fun _ z => z, fun _ _ r h _ => ⟨.inl r, h⟩, fun _ _ h => h, fun z _ _ _ _ _ q => q z⟩
    exact k (.ref p) ⟨.lst (kvs.map fun q => .tup [q.1, q.2]), x.fr, none⟩ (R1.add p) H' (e1.trans e2) o2 (.of (.lst hl (.inr rfl) (fun _ => o1.pn p (.of hp)) (r3.mv mv))) q
  have rf := r1.fr
  rw [ed] at rf
  generalize x.fr = n at rf fin
  cases rf with
  | dK ha _ _ rl => exact ⟨_, _, rfl, .inl ha.rd, fin _ rl⟩
  | dT ha _ _ rl =>
    cases rl with
    | one => exact absurd rfl (hk _ List.mem_cons_self _)
    | cons => exact absurd rfl (hk _ List.mem_cons_self _)
end
end DL
namespace DL
open PySem PySem.Spec PyProof.Rows L2
theorem gIx_of {a d : D} {n n' : Bool} {v v' : Option V} {i : Int} {ds : List D} {Q : Dv → Prop} (e : a.seq = some ds) (h : atI ds i = some d) : gIx ⟨a, n, v⟩ ⟨.int i, n', v'⟩ Q = Q ⟨d, Dv.fr ⟨a, n, v⟩, none⟩ := by
  rw [gIx_seq (x := ⟨a, n, v⟩) (y := ⟨.int i, n', v'⟩) e rfl, h]
  simp
theorem gLen_of {a : D} {n : Bool} {v : Option V} {ds : List D} {Q : Dv → Prop} (e : a.seq = some ds) : gLen ⟨a, n, v⟩ Q = Q ⟨.int ds.length, true, none⟩ := gLen_seq e
theorem gCall1 {g : DC} {ρ : Ro} {XQ : XQT} {a : D} {n : Bool} {v : Option V} {Q : Dv → Prop} (h : ∀ vs, g [a] vs XQ fun r => Q { r with v := none }) : gCall g ρ XQ [⟨a, n, v⟩] Q := fun vs _ => h vs
end DL
namespace DL
open PySem PySem.Spec PyProof.Rows L2
theorem gI_of {C : Int → Int → Prop} {f : Int → Int → D} {i j : Int} {n n' : Bool} {v v' : Option V} {Q : Dv → Prop} : gI C f ⟨.int i, n, v⟩ ⟨.int j, n', v'⟩ Q = (C i j ∧ Q ⟨f i j, true, none⟩) := by
  simp [gI]
theorem bl_of {b : Bool} {Q : Bool → Prop} : (∃ c, D.bl b = D.bl c ∧ Q c) = Q b := by simp
theorem g1_of {g : Dv → (Dv → Prop) → Prop} {x : Dv} {Q : Dv → Prop} : g1 g [x] Q = g x Q := rfl
end DL
namespace DL
open PySem PySem.Spec PyProof.Rows L2
theorem g1_tup {a : D} {n : Bool} {v : Option V} {l : List D} {Q : Dv → Prop} (e : a.seq = some l) (h : Q ⟨.tup l, Dv.fr ⟨a, n, v⟩, none⟩) : g1 (fun x Q => match x.d with | .lst ds => Q ⟨.tup ds, x.fr, none⟩ | .tup ds => Q ⟨.tup ds, x.fr, none⟩ | _ => False) [⟨a, n, v⟩] Q := by
  cases a <;> first | (cases e; done) | (cases e; exact h)
theorem g1_list {a : D} {n : Bool} {v : Option V} {l : List D} {Q : Dv → Prop} (e : a.seq = some l) (h : Q ⟨.lst l, Dv.fr ⟨a, n, v⟩, none⟩) : g1 (fun x Q => match x.d with | .lst ds => Q ⟨.lst ds, x.fr, none⟩ | .tup ds => Q ⟨.lst ds, x.fr, none⟩ | _ => False) [⟨a, n, v⟩] Q := by
  cases a <;> first | (cases e; done) | (cases e; exact h)
end DL
namespace DL
open PySem PySem.Spec PyProof.Rows L2
theorem isa_seq {d : D} (h : d.good = true) : (["list", "tuple"].any fun T => D.isa T d) = d.seq.isSome := by
  cases d <;> first | rfl | (simp [D.good] at h)
theorem gEq_int {b : Bool} {i j : Int} {n n' : Bool} {v v' : Option V} {Q : Dv → Prop} : gEq b ⟨.int i, n, v⟩ ⟨.int j, n', v'⟩ Q = Q ⟨.bl (if b then !(i == j) else i == j), true, none⟩ := by
  simp [gEq, D.shp, D.pln, D.dep, D.eqv]
theorem isa_int (d : D) : D.isa "int" d = (match d with | .int _ => true | .bl _ => true | _ => false) := by
  cases d <;> rfl
theorem isa_bool (d : D) : D.isa "bool" d = (match d with | .bl _ => true | _ => false) := by
  cases d <;> rfl
end DL
namespace DL
open PySem PySem.Spec PyProof.Rows L2
/-- a loop, turn by turn -/
theorem for_idx {gt : TDG} {gb : TDS} {N : DEnds} {XQ : XQT} (Inv : Nat → Ro → Prop) : ∀ (xs : List Dv) (n : Nat) (ρ : Ro), Inv n ρ →
    (∀ i x, xs[i]? = some x → ∀ ρ, Inv (n + i) ρ → ∀ K : Ro → Prop, (∀ ρ', Inv (n + i + 1) ρ' → K ρ') → gt x ρ fun ρ' => gb { nx := K, rt := N.rt, bk := N.nx, ct := K } ρ' XQ) → (∀ ρ, Inv (n + xs.length) ρ → N.nx ρ) → forGo gt gb N XQ xs ρ
  | [], n, ρ, h, _, e => e ρ h
  | x :: xs, n, ρ, h, s, e => by
    refine s 0 x rfl ρ h (fun ρ' => forGo gt gb N XQ xs ρ') fun ρ' h' => ?_
    have e0 : n + (x :: xs).length = n + 1 + xs.length := by rw [List.length_cons]; omega
    refine for_idx Inv xs (n + 1) ρ' h' (fun i y hy ρ2 h2 K k => ?_) fun ρ2 h2 => e ρ2 (by rw [e0]; exact h2)
    have e1 : n + (i + 1) = n + 1 + i := by omega
    exact s (i + 1) y (by simpa using hy) ρ2 (by rw [e1]; exact h2) K fun ρ3 h3 => k ρ3 (by rw [e1] at h3; exact h3)
theorem like_good {a : D} {ds : List D} (h : a.good = true) (hx : ∀ x ∈ ds, x.good = true) (hl : ds.length ≤ 100000) : (a.like ds).good = true := by
  unfold D.like
  split <;> simp [D.good, goodL_of hx, hl]
theorem gAdd_int {i j : Int} {n n' : Bool} {v v' : Option V} {Q : Dv → Prop} : gAdd ⟨.int i, n, v⟩ ⟨.int j, n', v'⟩ Q = Q ⟨.int (i + j), true, none⟩ := rfl
end DL
namespace DL
open PySem PySem.Spec PyProof.Rows L2
theorem fnd_none {P : Program} {w : World} {K : PySem.W.Frag} {mg : Str → Option Value} {base : Heap} {k cost : Nat} {f : Addr} {fd : FuncData} {ps : List Str} {g : DC} (h : ∀ ds vs XQ Q, ¬ g ds vs XQ Q) : FnD P w K mg base k f fd ps cost g :=
  ⟨fun vs H Q E h => h.1, fun A outer s H args us vs Q E _ _ _ _ ⟨_, R, st, L, B, ds, XQ, QD, _, _, _, q, _⟩ => (h ds vs XQ QD q).elim⟩
/-- draws within a recursion -/
def costL : Nat → Nat
  | 0 => 0
  | k + 1 => BIG * costL k + 10
def cost0 : Nat → Nat := fun _ => 0
end DL
namespace DL
open PySem PySem.Spec PyProof.Rows L2
theorem rgD_len {lo : Int} {n : Nat} : (rgD lo n).length = n := by simp [rgD]
theorem rgD_get {lo : Int} {n i : Nat} {x : Dv} (h : (rgD lo n)[i]? = some x) : i < n ∧ x = ⟨.int (lo + i), true, none⟩ := by
  have hl := (List.getElem?_eq_some_iff.mp h).1
  rw [rgD_len] at hl
  refine ⟨hl, ?_⟩
  unfold rgD at h
  rw [List.getElem?_map, List.getElem?_range hl] at h
  exact (Option.some.inj h).symm
theorem gEq_bl {b : Bool} {i j : Bool} {n n' : Bool} {v v' : Option V} {Q : Dv → Prop} : gEq b ⟨.bl i, n, v⟩ ⟨.bl j, n', v'⟩ Q = Q ⟨.bl (if b then !(i == j) else i == j), true, none⟩ := by
  simp [gEq, D.shp, D.pln, D.dep, D.eqv]
theorem gEq_str {b : Bool} {i j : Str} {n n' : Bool} {v v' : Option V} {Q : Dv → Prop} (hi : PyData.strOk i = true) (hj : PyData.strOk j = true) : gEq b ⟨.str i, n, v⟩ ⟨.str j, n', v'⟩ Q = Q ⟨.bl (if b then !(i == j) else i == j), true, none⟩ := by
  simp [gEq, D.shp, D.pln, D.dep, D.eqv, hi, hj]
mutual
/-- dicts: empty ones alone -/
def D.smp : D → Bool
  | .lst xs => D.smpL xs
  | .tup xs => D.smpL xs
  | .dct kvs => kvs.isEmpty
  | _ => true
def D.smpL : List D → Bool
  | [] => true
  | x :: xs => D.smp x && D.smpL xs
end
theorem smpL_mem : ∀ {xs : List D}, D.smpL xs = true → ∀ x ∈ xs, x.smp = true
  | [], _, _, h => by cases h
  | y :: ys, h, x, hx => by
    simp only [D.smpL, Bool.and_eq_true] at h
    rcases List.mem_cons.mp hx with rfl | hx
    · exact h.1
    · exact smpL_mem h.2 x hx
theorem smpL_of : ∀ {xs : List D}, (∀ x ∈ xs, x.smp = true) → D.smpL xs = true
  | [], _ => rfl
  | y :: ys, h => by
    simp only [D.smpL, Bool.and_eq_true]
    exact ⟨h y List.mem_cons_self, smpL_of fun x hx => h x (List.mem_cons_of_mem _ hx)⟩
mutual
/-- how deep a comparison goes -/
def D.rnk : D → Nat
  | .lst xs => D.rnkL xs + 1
  | .tup xs => D.rnkL xs + 1
  | .dct _ => 2
  | _ => 0
def D.rnkL : List D → Nat
  | [] => 0
  | x :: xs => max (D.rnk x) (D.rnkL xs)
end
theorem rnkL_mem : ∀ {xs : List D} {k : Nat}, D.rnkL xs < k → ∀ x ∈ xs, x.rnk < k
  | [], _, _, _, h => by cases h
  | y :: ys, k, h, x, hx => by
    simp only [D.rnkL] at h
    rcases List.mem_cons.mp hx with rfl | hx
    · omega
    · exact rnkL_mem (by omega) x hx
theorem rnkL_of : ∀ {xs : List D} {k : Nat}, (∀ x ∈ xs, x.rnk ≤ k) → D.rnkL xs ≤ k
  | [], _, _ => Nat.zero_le _
  | y :: ys, k, h => by
    simp only [D.rnkL]
    have h1 := h y List.mem_cons_self
    have h2 := rnkL_of (xs := ys) (k := k) fun x hx => h x (List.mem_cons_of_mem _ hx)
    omega
theorem seq_rnk {d : D} {xs : List D} (e : d.seq = some xs) : d.rnk = D.rnkL xs + 1 := by
  cases d <;> first | (cases e; rfl) | (cases e; done)
theorem seq_smp {d : D} {xs : List D} (e : d.seq = some xs) : d.smp = D.smpL xs := by
  cases d <;> first | (cases e; rfl) | (cases e; done)
end DL
namespace DL
open PySem PySem.Spec PyProof.Rows L2
/-- a range: it stays walkable whatever is frozen -/
def DIr (X : Cx) (E : XK) (c : Nat) (tg iter : Expr) (f : TDs) : Prop := ∃ wi : TI, PI X tg iter wi ∧ ∀ F B R H σ ρ α XQ Q (K : It → Hp → Prop), F.K = X.K → XLink F E XQ → B + c ≤ F.L → StOk F B R H σ ρ α → f ρ XQ Q →
  (∀ J xs R' H', Ext F R H R' H' → HpOk F (B + c) R' H' → Q xs → (∀ R2, Walks F R2 H' J xs) → K J H') → wi σ H K
section
variable {X : Cx} {E : XK} {c ca cb cc ci : Nat} {a b e tg iter : Expr} {es : List Expr} {fa fb fe : TD} {fi : TDs} {fs : TDs} {pos p : Pos} {x : Str}
theorem dir_range1 {p2 : Pos} (hg : Gl X "range") (hm : X.mg "range" = none) (ha : DA X E c [a] fs) (hs : starEach [a] X.env = [(false, eval a X.env)] := by rfl) :
    DIr X E c tg (.Call (.Name "range" p) [a] [] p2) (fun ρ XQ Q => fs ρ XQ fun xs => match xs with | [x] => (match x.d with | .int j => -(2 ^ 62) ≤ j ∧ j < 2 ^ 62 ∧ Q (rgD 0 j.toNat) | _ => False) | _ => False) := by
  obtain ⟨t, pt, s⟩ := ha
  refine ⟨_, pi_range1 hg hm pt hs, fun F B R H σ ρ α XQ Q K hK hX hB S h k => ?_⟩
  refine s F B R H σ ρ α XQ _ _ hK hX hB S h fun vs xs R' H' e' o' r' q' => ?_
  match xs, vs, r', q' with
  | [⟨d, n, vo⟩], [v], .cons r1 .nil, q' =>
    cases d <;> try exact q'.elim
    have r2 := r1.1
    cases r2
    exact ⟨_, rfl, q'.1, q'.2.1, k _ _ R' H' e' o' q'.2.2 fun _ => walks_range⟩
theorem dir_range2 {p2 : Pos} (hg : Gl X "range") (hm : X.mg "range" = none) (ha : DA X E c [a, b] fs) (hs : starEach [a, b] X.env = [(false, eval a X.env), (false, eval b X.env)] := by rfl) (hs2 : starEach [b] X.env = [(false, eval b X.env)] := by rfl) :
    DIr X E c tg (.Call (.Name "range" p) [a, b] [] p2) (fun ρ XQ Q => fs ρ XQ fun xs => match xs with | [x, y] => (match x.d, y.d with | .int i, .int j => (-(2 ^ 62) ≤ i ∧ i < 2 ^ 62 ∧ -(2 ^ 62) ≤ j ∧ j < 2 ^ 62) ∧ Q (rgD i (j - i).toNat) | _, _ => False) | _ => False) := by
  obtain ⟨t, pt, s⟩ := ha
  refine ⟨_, pi_range2 hg hm pt hs hs2, fun F B R H σ ρ α XQ Q K hK hX hB S h k => ?_⟩
  refine s F B R H σ ρ α XQ _ _ hK hX hB S h fun vs xs R' H' e' o' r' q' => ?_
  match xs, vs, r', q' with
  | [⟨d, n, vo⟩, ⟨d2, n2, vo2⟩], [v, u], .cons r1 (.cons r2 .nil), q' =>
    cases d <;> cases d2 <;> try exact q'.elim
    have z1 := r1.1
    have z2 := r2.1
    cases z1; cases z2
    exact ⟨_, _, rfl, q'.1, k _ _ R' H' e' o' q'.2 fun _ => walks_range⟩
/-- for over a range whose bounds read own slots: these are own again behind the bounds -/
theorem ds_forR (l : List Nat) {l2 : List Nat} {body : List Stmt} {gt : TDG} {gb : TDS} (hp : PassesOwn (model X.prog X.w) X.A X.env X.xe) (hc : X.calm = true) (hi : DIr X E ci tg iter fi) (hg : DG X l2 tg gt) (hb : DSs X E cb body gb)
    (hs : ∀ x, foldedSetIterable iter X.env x = pure x := by intro _; rfl) :
    DS X E (ci + BIG * cb) (.For tg iter body [] pos) (fun N ρ XQ => fi (frz l ρ) XQ fun xs => (cb = 0 ∨ xs.length ≤ BIG) ∧ forGo gt gb N XQ xs ρ) := by
  obtain ⟨wi, pi, si⟩ := hi
  obtain ⟨tt, pt, st⟩ := hg
  obtain ⟨tb, pb, sb⟩ := hb
  refine ⟨_, ps_for hp hc pi pt pb hs, fun F B R H σ ρ α XQ N K hK hX hB S h k => ?_⟩
  obtain ⟨R1, S1, h1⟩ := S.frzs l
  refine si F B R1 H σ (frz l ρ) α XQ _ _ hK hX (by omega) S1 h fun J xs R0 H2 e2 o2 ⟨hz, q⟩ w0 => ?_
  obtain ⟨S2, z2⟩ := S.back h1 e2 o2
  generalize (fun a => R0 a ∧ (R a ∨ Nn H a)) = R2 at S2 z2
  have w := w0 R2
  have le : ∀ i, i ≤ xs.length → i * cb ≤ BIG * cb := fun i hi => by
    rcases hz with hz | hz
    · rw [hz]; simp
    · exact Nat.mul_le_mul_right _ (Nat.le_trans hi hz)
  refine ⟨fun i m σ' H' => m = xs.length - i ∧ i ≤ xs.length ∧ ∃ R' ρ' α', Fz F R2 H2 R' H' ∧ StOk F (B + ci + i * cb) R' H' σ' ρ' α' ∧ forGo gt gb N XQ (xs.drop i) ρ', ⟨_, rfl, Nat.zero_le _, R2, ρ, α, .refl, by simpa using S2, by simpa using q⟩, ?_⟩
  rintro i m σ' H' ⟨rfl, hi, R', ρ', α', z, S', q⟩
  by_cases hlt : i < xs.length
  · refine .inr ?_
    have hx : xs[i]? = some xs[i] := by simp [hlt]
    obtain ⟨go, yl⟩ := (w i _ R' H' z S'.hp).2 _ hx
    rw [List.drop_eq_getElem_cons hlt] at q
    refine ⟨go, fun σ2 H2' => ∃ R'' ρ'' α'', Fz F R2 H2 R'' H2' ∧ StOk F (B + ci + (i + 1) * cb) R'' H2' σ2 ρ'' α'' ∧ forGo gt gb N XQ (xs.drop (i + 1)) ρ'', fun σ2 H2' q2 => ⟨_, by omega, rfl, hlt, q2⟩, fun v H'' y => ?_⟩
    obtain ⟨R'', ex, ox, rx⟩ := yl v H'' y
    have z3 := z.trans (ex.fz S'.hp)
    refine st F _ R'' H'' σ' ρ' α' v _ _ _ hK (S'.ext ex ox) rx q fun σ3 ρ3 S3 _ q3 => ?_
    have e1 : B + ci + (i + 1) * cb = B + ci + i * cb + cb := by rw [Nat.add_mul, Nat.one_mul]; omega
    have e3 : B + ci + (i + 1) * cb ≤ B + (ci + BIG * cb) := by have := le (i + 1) hlt; omega
    have kk : EndsOk F (B + ci + i * cb + cb) R'' H'' N K := (k.fz (z2.trans z3)).mono (by omega)
    refine sb F _ R'' H'' σ3 ρ3 α' XQ _ _ hK hX (by omega) S3 q3 ⟨fun σ4 H4 ρ4 R4 α4 z4 S4 q4 => ⟨R4, ρ4, α4, z3.trans z4, by rw [e1]; exact S4, q4⟩, kk.rt, kk.nx, fun σ4 H4 ρ4 R4 α4 z4 S4 q4 => ⟨R4, ρ4, α4, z3.trans z4, by rw [e1]; exact S4, q4⟩⟩
  · have hl : i = xs.length := by omega
    refine .inl ⟨(w i _ R' H' z S'.hp).1 hl, ?_⟩
    rw [hl, List.drop_length] at q
    exact k.nx σ' H' ρ' R' α' (z2.trans z) (S'.mono (by have := le i hi; omega)) q
end
end DL
namespace DL
open PySem PySem.Spec PyProof.Rows L2
/-- each item gives something that stands in a relation to it -/
theorem lc_rel {gt : TDG} {ft : TDt} {fe : TD} {ρw : Ro} {Q : Dv → Prop} (Rl : Dv → D → Prop) : ∀ {xs : List Dv} {acc : List D} {n : Bool},
    (∀ x ∈ xs, ∀ (K1 : Dv → Prop) (K0 : Prop), (∀ d m v, Rl x d → K1 ⟨d, m, v⟩) → lcStep gt ft fe ρw x K1 K0) → (∀ ys m, Paired Rl xs ys → Q ⟨.lst (acc ++ ys), m, none⟩) → lcGo gt ft fe ρw Q xs acc n
  | [], acc, n, _, q => by
    have := q [] n .nil
    rwa [List.append_nil] at this
  | x :: xs, acc, n, h, q => by
    rw [lcGo_cons]
    refine h x List.mem_cons_self _ _ fun d m v r => ?_
    refine lc_rel Rl (fun y hy => h y (List.mem_cons_of_mem _ hy)) fun ys m' hp => ?_
    have := q (d :: ys) m' (.cons r hp)
    rwa [show acc ++ d :: ys = acc ++ [d] ++ ys by simp] at this
theorem lc_rel0 {gt : TDG} {ft : TDt} {fe : TD} {ρw : Ro} {Q : Dv → Prop} (Rl : Dv → D → Prop) {xs : List Dv} {n : Bool}
    (h : ∀ x ∈ xs, ∀ (K1 : Dv → Prop) (K0 : Prop), (∀ d m v, Rl x d → K1 ⟨d, m, v⟩) → lcStep gt ft fe ρw x K1 K0) (q : ∀ ys m, Paired Rl xs ys → Q ⟨.lst ys, m, none⟩) : lcGo gt ft fe ρw Q xs [] n :=
  lc_rel Rl h fun ys m hp => by simpa using q ys m hp
end DL
namespace DL
open PySem PySem.Spec PyProof.Rows L2
theorem g2I_int {f : Int → Int → Int} {i j : Int} {n n' : Bool} {v v' : Option V} {Q : Dv → Prop} : g2I f [⟨.int i, n, v⟩, ⟨.int j, n', v'⟩] Q = Q ⟨.int (f i j), true, none⟩ := rfl
end DL
namespace DL
open PySem PySem.Spec PyProof.Rows L2
theorem gIntOf {i : Int} {n : Bool} {v : Option V} {Q : Dv → Prop} : g1 (fun x Q => match x.d with | .int i => Q ⟨.int i, true, none⟩ | .bl b => Q ⟨.int (if b then 1 else 0), true, none⟩ | _ => False) [⟨.int i, n, v⟩] Q = Q ⟨.int i, true, none⟩ := rfl
end DL
namespace DL
open PySem PySem.Spec PyProof.Rows L2
theorem scaL_ints : ∀ is : List Int, D.scaL (is.map D.int) = true
  | [] => rfl
  | i :: is => by simp [D.scaL, D.sca, scaL_ints is]
theorem isIn_ints {i : Int} : ∀ is : List Int, D.isIn (.int i) (is.map D.int) = decide (i ∈ is)
  | [] => rfl
  | j :: is => by
    show (D.eqv (.int j) (.int i) || D.isIn (.int i) (is.map D.int)) = decide (i ∈ j :: is)
    rw [isIn_ints is, Bool.eq_iff_iff]
    simp only [Bool.or_eq_true, decide_eq_true_eq, List.mem_cons, D.eqv, beq_iff_eq]
    exact ⟨fun h => h.elim (fun h => .inl h.symm) .inr, fun h => h.elim (fun h => .inl h.symm) .inr⟩
theorem gIn_ints {b : Bool} {i : Int} {is : List Int} {n n' : Bool} {v v' : Option V} {Q : Dv → Prop} : gIn b ⟨.int i, n, v⟩ ⟨.tup (is.map D.int), n', v'⟩ Q = Q ⟨.bl (if b then !decide (i ∈ is) else decide (i ∈ is)), true, none⟩ := by
  unfold gIn
  simp only [D.sca, scaL_ints, true_and, isIn_ints]
end DL
namespace DL
open PySem PySem.Spec PyProof.Rows L2
section
variable {X : Cx} {E : XK} {c ca cb cc ci ct ce : Nat} {a b e tg iter elt : Expr} {es : List Expr} {fa fb fe : TD} {fi : TDs} {fs : TDs} {ft : TDt} {pos p : Pos} {x : Str}
/-- x = [..], x's own from now on -/
theorem ds_setLcO (lf : List Nat) {i : Nat} {y : Str} {py spos : Pos} {scope : Scope} {own : List (Str × Nat)} {l : List Nat} {gt : TDG} (hc : X.calm = true) (hN : X.N.Nodup) (hy : X.N[i]? = some y) (hyl : X.env.scope.names.lookup y = some .local) {ifs : List Expr}
    (hsw : swapsWith (.ListComp elt [⟨tg, iter, ifs, 0⟩] scope pos) (some (.Name y py)) spos.line X.env = pure true) (hi : DI X E ci tg iter fi) (ok : BlkOk X.N X.env.scope scope own)
    (hg : ∀ s H C cl fp, DG (X.blk s H scope (compEnvC scope cl C X.env) fp) l tg gt) (ht : ∀ s H C cl fp, DTs (X.blk s H scope (compEnvC scope cl C X.env) fp) E0 ct ifs ft) (he : ∀ s H C cl fp, DE (X.blk s H scope (compEnvC scope cl C X.env) fp) E0 ce elt fe)
    (hl : ∀ i ∈ l, i ∈ own.map (·.2)) (hs : ∀ x, foldedSetIterable iter X.env x = pure x := by intro _; rfl) :
    DS X E (ci + BIG * (ct + ce)) (.Assign [.Name y py] (.ListComp elt [⟨tg, iter, ifs, 0⟩] scope pos) spos) (fun N ρ XQ => fi (frz lf ρ) XQ fun xs => xs.length ≤ BIG ∧ lcGo gt ft fe (wipeR (frz lf ρ) (own.map (·.2))) (fun x => N.nx ((frz lf ρ).set i (.ow x.d x.n))) xs [] true) := by
  obtain ⟨wi, pi, si⟩ := hi
  have hG : ∃ g : TG, (∀ s H C cl fp, PG (X.blk s H scope (compEnvC scope cl C X.env) fp) tg g) ∧ ∀ F B R H σ ρ α v x Q (K : L2.St → Hp → Prop), F.K = X.K → StOk F B R H σ ρ α → Rp F H R x v → gt x ρ Q → (∀ σ' ρ', StOk F B R H σ' ρ' α → SetOnly l σ σ' → Q ρ' → K σ' H) → g v σ H K :=
    ⟨fun v σ H Q => ∀ s H0 C cl fp, (hg s H0 C cl fp).choose v σ H Q, fun s H C cl fp => ⟨fun pins s' σ H' v u Q I r q => (hg s H C cl fp).choose_spec.1.run pins s' σ H' v u Q I r (q s H C cl fp)⟩,
      fun F B R H σ ρ α v x Q K hK S r q k s H0 C cl fp => (hg s H0 C cl fp).choose_spec.2 F B R H σ ρ α v x Q K hK S r q k⟩
  have hT : ∃ tt : TT, (∀ s H C cl fp, PTs (X.blk s H scope (compEnvC scope cl C X.env) fp) ifs tt) ∧ ∀ F B R H σ ρ α XQ Q (K : Bool → Hp → Prop), F.K = X.K → XLink F E0 XQ → B + ct ≤ F.L → StOk F B R H σ ρ α → ft ρ XQ Q → (∀ b R' H', Ext F R H R' H' → HpOk F (B + ct) R' H' → Q b → K b H') → tt σ H K :=
    ⟨fun σ H Q => ∀ s H0 C cl fp, (ht s H0 C cl fp).choose σ H Q, fun s H C cl fp => ⟨fun pins s' σ H' Q I q => (ht s H C cl fp).choose_spec.1.run pins s' σ H' Q I (q s H C cl fp)⟩,
      fun F B R H σ ρ α XQ Q K hK hX hB S q k s H0 C cl fp => (ht s H0 C cl fp).choose_spec.2 F B R H σ ρ α XQ Q K hK hX hB S q k⟩
  have hE : ∃ te : TE, (∀ s H C cl fp, PE (X.blk s H scope (compEnvC scope cl C X.env) fp) elt te) ∧ ∀ F B R H σ ρ α XQ Q (K : VK), F.K = X.K → XLink F E0 XQ → B + ce ≤ F.L → StOk F B R H σ ρ α → fe ρ XQ Q → (∀ v x R' H', Ext F R H R' H' → HpOk F (B + ce) R' H' → Rp F H' R' x v → Q x → K v H') → te σ H K :=
    ⟨fun σ H Q => ∀ s H0 C cl fp, (he s H0 C cl fp).choose σ H Q, fun s H C cl fp => ⟨fun pins s' σ H' Q I q => (he s H C cl fp).choose_spec.1.run pins s' σ H' Q I (q s H C cl fp)⟩,
      fun F B R H σ ρ α XQ Q K hK hX hB S q k s H0 C cl fp => (he s H0 C cl fp).choose_spec.2 F B R H σ ρ α XQ Q K hK hX hB S q k⟩
  obtain ⟨g, pg, sg⟩ := hG
  obtain ⟨tt, pt, st⟩ := hT
  obtain ⟨te, pe, se⟩ := hE
  refine ⟨_, ps_setLc hc hN hy hyl hsw pi ok pg pt pe hs, fun F B R H σ ρ α XQ N K hK hX hB S h k => ?_⟩
  obtain ⟨R1, S1, h1⟩ := S.frzs lf
  refine dn_lc_of si sg st se hl F B R1 H σ (frz lf ρ) α XQ _ _ hK hX hB S1 h fun a d n R' H' e' o' w hn q => ?_
  have z : Fz F R H R1 H := ⟨h1, fun _ _ _ h _ => h, fun _ _ h => h⟩
  exact k.nx _ H' _ R' (fun j => if j = i then a else α j) (z.trans (e'.fz S1.hp)) ((S1.ext e' o').seto w fun j d n hj ej => by
    obtain ⟨o, ho, nt⟩ := (S1.ow j d n hj).2.some
    exact hn o (ej ▸ ho) nt) q
end
end DL
namespace DL
open PySem PySem.Spec PyProof.Rows L2
theorem gAdd_lst {xs ys : List D} {n n' : Bool} {v v' : Option V} {Q : Dv → Prop} : gAdd ⟨.lst xs, n, v⟩ ⟨.lst ys, n', v'⟩ Q = (xs.length + ys.length ≤ BIG ∧ Q ⟨.lst (xs ++ ys), Dv.fr ⟨.lst xs, n, v⟩ && Dv.fr ⟨.lst ys, n', v'⟩, none⟩) := rfl
theorem gAdd_tup {xs ys : List D} {n n' : Bool} {v v' : Option V} {Q : Dv → Prop} : gAdd ⟨.tup xs, n, v⟩ ⟨.tup ys, n', v'⟩ Q = (xs.length + ys.length ≤ BIG ∧ Q ⟨.tup (xs ++ ys), Dv.fr ⟨.tup xs, n, v⟩ && Dv.fr ⟨.tup ys, n', v'⟩, none⟩) := rfl
theorem cutL_len {α : Type} (xs : List α) (lo hi : Option Int) : (cutL xs lo hi).length ≤ xs.length := by
  unfold cutL
  rw [List.length_take, List.length_drop]
  omega
end DL
namespace DL
open PySem PySem.Spec PyProof.Rows L2
theorem plnL_ints : ∀ is : List Int, D.plnL (is.map D.int) = true
  | [] => rfl
  | i :: is => by
    show (D.pln (.int i) && D.plnL (is.map D.int)) = true
    rw [plnL_ints is]
    rfl
theorem depL_ints : ∀ is : List Int, D.depL (is.map D.int) = 0
  | [] => rfl
  | i :: is => by
    show max (D.dep (.int i)) (D.depL (is.map D.int)) = 0
    rw [depL_ints is]
    rfl
theorem shp_tupInts (is : List Int) : (D.tup (is.map D.int)).shp = true := by
  unfold D.shp
  simp only [D.pln, plnL_ints, D.dep, depL_ints, Bool.true_and]
  decide
theorem gEq_nil {b : Bool} {is : List Int} {n n' : Bool} {v v' : Option V} {Q : Dv → Prop} : gEq b ⟨.tup (is.map D.int), n, v⟩ ⟨.tup [], n', v'⟩ Q = Q ⟨.bl (if b then !is.isEmpty else is.isEmpty), true, none⟩ := by
  unfold gEq
  rw [show (⟨.tup (is.map D.int), n, v⟩ : Dv).d.shp = true from shp_tupInts is]
  have : D.eqv (.tup (is.map D.int)) (.tup []) = is.isEmpty := by cases is <;> rfl
  simp only [this, true_and]
  have h2 : (D.tup []).shp = true := by decide
  simp only [h2, true_and]
end DL
namespace DL
open PySem PySem.Spec PyProof.Rows L2
theorem gIn_str2 {i a b : Str} {n n' : Bool} {v v' va vb : Option V} {na nb : Bool} {fl : Bool} {Q : Dv → Prop}   : gIn false ⟨.str i, n, v⟩ ⟨.tup (List.map (fun x : Dv => x.d) [⟨.str a, na, va⟩, ⟨.str b, nb, vb⟩]), fl, v'⟩ Q = Q ⟨.bl (a == i || b == i), true, none⟩ := by
  simp [gIn, D.sca, D.scaL, D.isIn, D.eqv]
end DL

set_option Elab.async false
set_option linter.all false
namespace DL
open PySem PySem.Spec PyProof.Rows L2
/-- plain small data: rank and width -/
inductive Nic : Nat → Nat → D → Prop
  | int {i : Int} : i.natAbs ≤ 10 ^ 30 → Nic 0 1921 (.int i)
  | bl {b : Bool} : Nic 0 1921 (.bl b)
  | non : Nic 0 1921 .non
  | str {s : Str} : PyData.strOk s = true → s.length ≤ 100 → Nic 0 1921 (.str s)
  | dct : Nic 2 1921 (.dct [])
  | tup {k w l : Nat} {xs : List D} : xs.length ≤ l → l ≤ 1000 → (∀ x ∈ xs, Nic k w x) → Nic (k + 1) (l * (w + 2) + 3) (.tup xs)
  | lst {k w l : Nat} {xs : List D} : xs.length ≤ l → l ≤ 1000 → (∀ x ∈ xs, Nic k w x) → Nic (k + 1) (l * (w + 2) + 3) (.lst xs)
  | mono {k w k' w' : Nat} {x : D} : Nic k w x → k ≤ k' → w ≤ w' → Nic k' w' x
theorem rnkL_le : ∀ {xs : List D} {k : Nat}, (∀ x ∈ xs, x.rnk ≤ k) → D.rnkL xs ≤ k
  | [], _, _ => Nat.zero_le _
  | y :: ys, k, h => by
    simp only [D.rnkL]
    exact Nat.max_le.mpr ⟨h y (by simp), rnkL_le fun x hx => h x (by simp [hx])⟩
theorem depL_le : ∀ {xs : List D} {k : Nat}, (∀ x ∈ xs, x.dep ≤ k) → D.depL xs ≤ k
  | [], _, _ => Nat.zero_le _
  | y :: ys, k, h => by
    simp only [D.depL]
    exact Nat.max_le.mpr ⟨h y (by simp), depL_le fun x hx => h x (by simp [hx])⟩
theorem widL_le : ∀ {xs : List D} {w : Nat}, (∀ x ∈ xs, x.wid ≤ w) → D.widL xs ≤ xs.length * (w + 2)
  | [], _, _ => Nat.zero_le _
  | y :: ys, w, h => by
    have h1 := h y (by simp)
    have h2 := widL_le (xs := ys) (w := w) fun x hx => h x (by simp [hx])
    simp only [D.widL, List.length_cons]
    rw [Nat.succ_mul]
    omega
theorem shwL_of : ∀ {xs : List D}, (∀ x ∈ xs, x.shw = true) → D.shwL xs = true
  | [], _ => rfl
  | y :: ys, h => by
    simp only [D.shwL, Bool.and_eq_true]
    exact ⟨h y (by simp), shwL_of fun x hx => h x (by simp [hx])⟩
theorem Nic.all {k w : Nat} {x : D} (h : Nic k w x) : x.good = true ∧ x.smp = true ∧ x.shw = true ∧ x.rnk ≤ k ∧ x.dep ≤ k ∧ x.wid ≤ w := by
  induction h with
  | @int i h =>
    refine ⟨rfl, rfl, ?_, Nat.le_refl _, Nat.le_refl _, Nat.le_refl _⟩
    simp only [D.shw, decide_eq_true_eq]
    have h2 : i.natAbs < 2 ^ 1919 := Nat.lt_of_le_of_lt h (by decide +kernel)
    by_cases h0 : i.natAbs = 0
    · rw [h0]; decide
    · exact Nat.lt_trans ((Nat.log2_lt h0).mpr h2) (by decide)
  | bl => exact ⟨rfl, rfl, rfl, Nat.le_refl _, Nat.le_refl _, by simp [D.wid, D.widK]⟩
  | non => exact ⟨rfl, rfl, rfl, Nat.le_refl _, Nat.le_refl _, by simp [D.wid, D.widK]⟩
  | str h l =>
    refine ⟨?_, rfl, h, Nat.le_refl _, Nat.le_refl _, ?_⟩
    · simp only [D.good, h, Bool.true_and, decide_eq_true_eq]
      omega
    · simp only [D.wid]
      omega
  | dct => exact ⟨rfl, rfl, rfl, by simp [D.rnk], by simp [D.dep], by simp [D.wid, D.widK]⟩
  | @tup k w l xs h1 h2 h3 ih =>
    refine ⟨?_, ?_, ?_, ?_, ?_, ?_⟩
    · simp only [D.good, Bool.and_eq_true, decide_eq_true_eq]
      exact ⟨goodL_of fun x hx => (ih x hx).1, by omega⟩
    · exact smpL_of fun x hx => (ih x hx).2.1
    · exact shwL_of fun x hx => (ih x hx).2.2.1
    · exact Nat.succ_le_succ (rnkL_le fun x hx => (ih x hx).2.2.2.1)
    · exact Nat.succ_le_succ (depL_le fun x hx => (ih x hx).2.2.2.2.1)
    · have := widL_le fun x hx => (ih x hx).2.2.2.2.2
      have := Nat.mul_le_mul_right (w + 2) h1
      simp only [D.wid]
      omega
  | @lst k w l xs h1 h2 h3 ih =>
    refine ⟨?_, ?_, ?_, ?_, ?_, ?_⟩
    · simp only [D.good, Bool.and_eq_true, decide_eq_true_eq]
      exact ⟨goodL_of fun x hx => (ih x hx).1, by omega⟩
    · exact smpL_of fun x hx => (ih x hx).2.1
    · exact shwL_of fun x hx => (ih x hx).2.2.1
    · exact Nat.succ_le_succ (rnkL_le fun x hx => (ih x hx).2.2.2.1)
    · exact Nat.succ_le_succ (depL_le fun x hx => (ih x hx).2.2.2.2.1)
    · have := widL_le fun x hx => (ih x hx).2.2.2.2.2
      have := Nat.mul_le_mul_right (w + 2) h1
      simp only [D.wid]
      omega
  | mono _ h1 h2 ih =>
    obtain ⟨a, b, c, d, e, f⟩ := ih
    exact ⟨a, b, c, by omega, by omega, by omega⟩
end DL

set_option Elab.async false
set_option linter.all false
set_option maxRecDepth 100000
set_option maxHeartbeats 4000000
/-! DL, part y: sorted of any alike data, any number of them. -/
namespace DL
open PySem PySem.Spec PyProof.Rows L2

/-- a ≤ b as sorting has it -/
abbrev leD : D → D → Bool := PySem.W.dataLe false D.pyd
/-- sorted's answer -/
def srtD (ds : List D) : List D := ds.mergeSort leD
/-- what can be sorted: alike, all tuples of at least one item, or no tuples -/
structure CanSort (ds : List D) : Prop where
  shw : D.shwL ds = true
  al : PySem.W.AllAlike (ds.map D.pyd)
  srt : PySem.W.Sortable (ds.map D.pyd)
  dep : ∀ d ∈ ds, d.dep ≤ 60
theorem each_reads {h : Heap} : ∀ {vs : List Value} {ds : List D} {as : List Addr}, ReadsAll h vs (D.pydL ds) as → PySem.W.EachIs (fun v d => ∃ as, Reads h v (D.pyd d) as) vs ds
  | vs, [], _, r => by
    cases r
    exact .nil
  | vs, d :: ds, _, r => by
    cases r with
    | cons a t => exact .cons ⟨_, a⟩ (each_reads t)
theorem each_and {α β : Type} {R S : α → β → Prop} : ∀ {as : List α} {bs : List β}, PySem.W.EachIs R as bs → PySem.W.EachIs S as bs → PySem.W.EachIs (fun a b => R a b ∧ S a b) as bs
  | _, _, .nil, .nil => .nil
  | _, _, .cons a t, .cons b u => .cons ⟨a, b⟩ (each_and t u)
theorem each_rp {F : Fx} {H : Hp} {R : Reg} {n : Bool} : ∀ {us : List V} {vs : List Value} {ds : List D}, RpL F H R n us ds → Vals us vs → PySem.W.EachIs (fun v d => ∃ u, RelV u v ∧ RpD F H R n u d) vs ds
  | _, _, _, .nil, .nil => .nil
  | _, _, _, .cons a t, .cons b u => .cons ⟨_, b, a⟩ (each_rp t u)
theorem rp_each {F : Fx} {H : Hp} {R : Reg} {n : Bool} : ∀ {vs : List Value} {ds : List D}, PySem.W.EachIs (fun v d => ∃ u, RelV u v ∧ RpD F H R n u d) vs ds → ∃ us, RpL F H R n us ds ∧ Vals us vs
  | _, _, .nil => ⟨[], .nil, .nil⟩
  | _, _, .cons ⟨u, b, a⟩ t => by
    obtain ⟨us, r, v⟩ := rp_each t
    exact ⟨u :: us, .cons a r, .cons b v⟩
def rSortD (K : PySem.W.Frag) : List V → Hp → VK → Prop := fun vs H Q => ∃ (F : Fx) (R : Reg) (n : Bool) (a : Addr) (us : List V) (ds : List D), F.K = K ∧ vs = [.ref a] ∧ SqL K H a us ∧ RpL F H R n us ds ∧ CanSort ds ∧
  ∀ us' p, RpL F H R n us' (srtD ds) → H p = none → Q (.ref p) (upd H p (.lst us'))
section
variable {X : Cx}
theorem call_sortedD (hr : Room 0 X.A) : CallR X (.builtin "sorted") (rSortD X.K) := by
  intro pins s σ H xs us Q I r h
  obtain ⟨F, R, n, a, ws, ds, hK, rfl, hs, rl, cs, q⟩ := h
  obtain ⟨its, rv, hl, hz⟩ := I.list hs
  obtain ⟨u, rfl, ru⟩ := vals1 r
  obtain rfl : u = Value.ref a := ru
  obtain ⟨as, R1, _⟩ := RpL.readsAll hK I rl cs.shw rv
  have hu := hr.units
  refine PySem.W.sorted_data (enc := D.pyd) (R := fun v d => ∃ u, RelV u v ∧ RpD F H R n u d) hl.isList (each_rp rl rv) (each_reads R1) cs.al cs.srt (by rw [← rl.len]; exact hz) (fun d hd => ?_) fun out ho e => ?_
  · have := dep_pyd d
    have := cs.dep d hd
    omega
  · obtain ⟨us', r1, r2⟩ := rp_each e
    obtain ⟨e1, he⟩ := sortedAll_at s.heap its (List.toArray out)
    have fr : H (s.heap.objs.size + 1) = none := I.hok.fresh (Nat.le_succ _)
    refine ⟨.ref (s.heap.objs.size + 1), upd H _ (.lst us'), I.laid (t' := s.toks) (fun b o e => sortedAll_old e) (Nat.le_succ _) ⟨?_, out, e1, r2, he⟩, rfl, q us' _ r1 fr⟩
    rw [r2.length, ho, ← rl.len]
    exact hz
theorem dcl_sortedD (hr : Room 0 X.A) : DCl X (.builtin "sorted") (g1 fun x Q => ∃ ds, x.d = .lst ds ∧ CanSort ds ∧ Q ⟨.lst (srtD ds), x.fr, none⟩) := dcl1 (call_sortedD hr) fun F B R H v x Q K hK I r ⟨ds, ed, cs, q⟩ k => by
  obtain ⟨d, n, vo⟩ := x
  have ed : d = .lst ds := ed
  subst ed
  obtain ⟨a, vs, rfl, ha, la⟩ := r.lstL rfl
  refine ⟨F, R, _, a, vs, ds, hK, rfl, .of ha, la, cs, fun us' p r1 hp => ?_⟩
  obtain ⟨e, o, r2⟩ := new_lst I hp r1
  exact k _ _ _ _ e o (.of r2) q
end
end DL

set_option Elab.async false
set_option linter.all false
set_option maxRecDepth 100000
set_option maxHeartbeats 4000000
/-! DL, part z: dicts asked by keys, dict(pairs), x[i] = e, sums, texts cut and joined, attributes, loops that draw. -/
namespace DL
open PySem PySem.Spec PyProof.Rows L2

/-! ### what a dict holds at a key -/
def isKey : D → Key → Bool
  | .int i, .inl j => decide (i = j)
  | .str x, .inr y => decide (x = y)
  | _, _ => false
def getK (kvs : List (D × D)) (k : Key) : Option D := (kvs.find? fun p => isKey p.1 k).map (·.2)
def keyD : Key → D
  | .inl i => .int i
  | .inr x => .str x
theorem isKey_keyD (k j : Key) : isKey (keyD k) j = decide (k = j) := by
  cases k <;> cases j <;> simp [isKey, keyD]
theorem getK_cons {p : D × D} {r : List (D × D)} {k : Key} : getK (p :: r) k = if isKey p.1 k = true then some p.2 else getK r k := by
  unfold getK
  rw [List.find?_cons]
  cases h : isKey p.1 k <;> rfl
theorem getK_rp {F : Fx} {H : Hp} {R : Reg} {n : Bool} (k : Key) : ∀ {kvs : List (Key × V)} {ds : List (D × D)}, RpK F H R n kvs ds → (valV kvs k = none ∧ getK ds k = none) ∨ ∃ v d, valV kvs k = some v ∧ getK ds k = some d ∧ RpD F H R n v d
  | _, _, .nil => .inl ⟨rfl, rfl⟩
  | _, _, .consI (i := i) (v := v) (d := d) a t => by
    by_cases e : (Sum.inl i : Key) = k
    · exact .inr ⟨v, d, valV_pos e, by rw [getK_cons, if_pos (by subst e; simp [isKey])], a⟩
    · have e2 : isKey (.int i) k = false := by
        cases k with
        | inl j => simpa [isKey] using fun z => e (by rw [z])
        | inr y => rfl
      rw [valV_neg e, getK_cons, if_neg (by rw [e2]; decide)]
      exact getK_rp k t
  | _, _, .consS (x := x) (v := v) (d := d) a t => by
    by_cases e : (Sum.inr x : Key) = k
    · exact .inr ⟨v, d, valV_pos e, by rw [getK_cons, if_pos (by subst e; simp [isKey])], a⟩
    · have e2 : isKey (.str x) k = false := by
        cases k with
        | inl j => rfl
        | inr y => simpa [isKey] using fun z => e (by rw [z])
      rw [valV_neg e, getK_cons, if_neg (by rw [e2]; decide)]
      exact getK_rp k t
theorem getK_rpT {F : Fx} {H : Hp} {R : Reg} {n : Bool} (k : Key) : ∀ {kvs : List (List Key × V)} {ds : List (D × D)}, RpT F H R n kvs ds → getK ds k = none
  | _, _, .one _ _ => by
    rw [getK_cons, if_neg (by cases k <;> simp [isKey])]
    rfl
  | _, _, .cons _ _ t => by
    rw [getK_cons, if_neg (by cases k <;> simp [isKey])]
    exact getK_rpT k t
/-- d[k] -/
def gGet : Dv → Dv → (Dv → Prop) → Prop := fun x y Q => ∃ kvs k d, x.d = .dct kvs ∧ y.d = keyD k ∧ getK kvs k = some d ∧ Q ⟨d, x.fr, none⟩
/-- k in d -/
def gHas (neg : Bool) : Dv → Dv → (Dv → Prop) → Prop := fun y x Q => ∃ kvs k, x.d = .dct kvs ∧ (∀ p ∈ kvs, ∃ j, p.1 = keyD j) ∧ y.d = keyD k ∧ Q ⟨.bl (if neg then !(getK kvs k).isSome else (getK kvs k).isSome), true, none⟩
theorem rp_key {F : Fx} {H : Hp} {R : Reg} {n : Bool} {v : V} {k : Key} (h : RpD F H R n v (keyD k)) : v = kV k := by
  cases k with
  | inl i => cases h; rfl
  | inr x => cases h; rfl
section
variable {X : Cx} {E : XK} {c ca cb cc : Nat} {a b e : Expr} {es : List Expr} {fa fb fe : TD} {fs : TDs} {pos p rp : Pos} {x : Str}
theorem de_dget (hu0 : X.A.units + 64 < cLine) (ha : DE X E ca a fa) (hb : DE X E cb b fb) (hs : NoSl b) : DE X E (ca + cb) (.Subscript a b pos) (fun ρ XQ Q => fa ρ XQ fun x => fb ρ XQ fun y => gGet x y Q) := by
  have hu : X.A.units + 1 < cLine := by omega
  obtain ⟨ta, pa, sa⟩ := ha
  obtain ⟨tb, pb, sb⟩ := hb
  refine ⟨_, pe_dget hu pa pb hs, fun F B R H σ ρ α XQ Q K hK hX hB S h k => ?_⟩
  refine sa F B R H σ ρ α XQ _ _ hK hX (by omega) S h fun v x R1 H1 e1 o1 r1 q1 => ?_
  refine sb F (B + ca) R1 H1 σ ρ α XQ _ _ hK hX (by omega) (S.ext e1 o1) q1 fun u y R2 H2 e2 o2 r2 ⟨kvs, j, d, ex, ey, eg, q⟩ => ?_
  obtain ⟨dx, nx, vx⟩ := x
  obtain ⟨dy, ny, vy⟩ := y
  have ex : dx = .dct kvs := ex
  have ey : dy = keyD j := ey
  subst ex ey
  have r3 := (r1.ext o1 e2).fr
  have eu := rp_key r2.1
  subst eu
  generalize hf : Dv.fr ⟨D.dct kvs, nx, vx⟩ = f at r3 q
  cases r3 with
  | dK hh hr hw l =>
    rcases getK_rp j l with ⟨_, z⟩ | ⟨w, d', h1, h2, r⟩
    · rw [eg] at z; cases z
    · rw [eg] at h2
      cases h2
      exact ⟨_, w, rfl, h1 ▸ .inl ⟨_, _, hh.rd, rfl, rfl⟩, k w ⟨d, f, none⟩ R2 H2 (e1.trans e2) (by rw [← Nat.add_assoc]; exact o2) (.of r) q⟩
  | dT hh hr hw l => rw [getK_rpT j l] at eg; cases eg
theorem has_core {neg : Bool} {ta tb : TE} (sa : ∀ F B R H σ ρ α XQ Q (K : VK), F.K = X.K → XLink F E XQ → B + ca ≤ F.L → StOk F B R H σ ρ α → fa ρ XQ Q → (∀ v x R' H', Ext F R H R' H' → HpOk F (B + ca) R' H' → Rp F H' R' x v → Q x → K v H') → ta σ H K)
    (sb : ∀ F B R H σ ρ α XQ Q (K : VK), F.K = X.K → XLink F E XQ → B + cb ≤ F.L → StOk F B R H σ ρ α → fb ρ XQ Q → (∀ v x R' H', Ext F R H R' H' → HpOk F (B + cb) R' H' → Rp F H' R' x v → Q x → K v H') → tb σ H K) :
    ∀ (F : Fx) B R H σ ρ α XQ Q (K : VK), F.K = X.K → XLink F E XQ → B + (ca + cb) ≤ F.L → StOk F B R H σ ρ α → (fa ρ XQ fun x => fb ρ XQ fun y => gHas neg x y Q) →
      (∀ v x R' H', Ext F R H R' H' → HpOk F (B + (ca + cb)) R' H' → Rp F H' R' x v → Q x → K v H') → ta σ H fun y H1 => tb σ H1 fun x H2 => ∃ a o, x = .ref a ∧ DGet H2 a y o ∧ K (.bl (if neg then !o.isSome else o.isSome)) H2 := by
    intro F B R H σ ρ α XQ Q K hK hX hB S h k
    refine sa F B R H σ ρ α XQ _ _ hK hX (by omega) S h fun v y R1 H1 e1 o1 r1 q1 => ?_
    refine sb F (B + ca) R1 H1 σ ρ α XQ _ _ hK hX (by omega) (S.ext e1 o1) q1 fun u x R2 H2 e2 o2 r2 ⟨kvs, j, ex, ks, ey, q⟩ => ?_
    obtain ⟨dx, nx, vx⟩ := x
    obtain ⟨dy, ny, vy⟩ := y
    have ex : dx = .dct kvs := ex
    have ey : dy = keyD j := ey
    subst ex ey
    have ev := rp_key r1.1
    subst ev
    have r3 := r2.1
    cases r3 with
    | @dK _ _ kvs0 _ hh hr hw l =>
      refine ⟨_, _, rfl, .inl ⟨_, j, hh.rd, rfl, rfl⟩, ?_⟩
      have e : (valV kvs0 j).isSome = (getK kvs j).isSome := by
        rcases getK_rp j l with ⟨z1, z2⟩ | ⟨w, d', z1, z2, _⟩
        · rw [z1, z2]; rfl
        · rw [z1, z2]; rfl
      rw [e]
      exact k _ _ R2 H2 (e1.trans e2) (by rw [← Nat.add_assoc]; exact o2) (.of (.bl _)) q
    | dT hh hr hw l =>
      cases l with
      | one z1 z2 =>
        obtain ⟨i, ei⟩ := ks _ List.mem_cons_self
        cases i with
        | inl i => exact D.noConfusion ei
        | inr i => exact D.noConfusion ei
      | cons z1 z2 z3 =>
        obtain ⟨i, ei⟩ := ks _ List.mem_cons_self
        cases i with
        | inl i => exact D.noConfusion ei
        | inr i => exact D.noConfusion ei
theorem de_has {neg : Bool} (op : CmpOp) (hop : op = if neg = true then CmpOp.NotIn else CmpOp.In) (hu0 : X.A.units + 64 < cLine) (ha : DE X E ca a fa) (hb : DE X E cb b fb) (hm : behindInMarks op b = false) : DE X E (ca + cb) (.Compare a [op] [b] pos) (fun ρ XQ Q => fa ρ XQ fun x => fb ρ XQ fun y => gHas neg x y Q) := by
  have hu : X.A.units + 1 < cLine := by omega
  obtain ⟨ta, pa, sa⟩ := ha
  obtain ⟨tb, pb, sb⟩ := hb
  subst hop
  cases neg with
  | true => exact ⟨_, pe_cmp (pc_dnotin hu pa pb) hm, fun F B R H σ ρ α XQ Q K hK hX hB S h k => has_core sa sb F B R H σ ρ α XQ Q K hK hX hB S h k⟩
  | false => exact ⟨_, pe_cmp (pc_din hu pa pb) hm, fun F B R H σ ρ α XQ Q K hK hX hB S h k => has_core sa sb F B R H σ ρ α XQ Q K hK hX hB S h k⟩
theorem dt_has {neg : Bool} (op : CmpOp) (hop : op = if neg = true then CmpOp.NotIn else CmpOp.In) (hu0 : X.A.units + 64 < cLine) (ha : DE X E ca a fa) (hb : DE X E cb b fb) (hm : behindInMarks op b = false) : DT X E (ca + cb) (.Compare a [op] [b] pos) (fun ρ XQ Q => fa ρ XQ fun x => fb ρ XQ fun y => gHas neg x y fun z => ∃ c, z.d = .bl c ∧ Q c) := by
  have hu : X.A.units + 1 < cLine := by omega
  obtain ⟨ta, pa, sa⟩ := ha
  obtain ⟨tb, pb, sb⟩ := hb
  have fin : ∀ {F : Fx} {B : Nat} {R' : Reg} {H' : Hp} {v : V} {x : Dv} {Q : Bool → Prop} {K : Bool → Hp → Prop}, Rp F H' R' x v → (∃ c, x.d = .bl c ∧ Q c) → (∀ b, Q b → K b H') → ∃ b, v = .bl b ∧ K b H' := fun {F B R' H' v x Q K} r ⟨c, e, q⟩ k => by
    have r4 := r.1
    rw [e] at r4
    cases r4
    exact ⟨c, rfl, k c q⟩
  subst hop
  cases neg with
  | true => exact ⟨_, pt_cmp (pc_dnotin hu pa pb) hm, fun F B R H σ ρ α XQ Q K hK hX hB S h k => has_core (neg := true) sa sb F B R H σ ρ α XQ _ _ hK hX hB S h fun v x R' H' e o r q => fin (B := B) r q fun b qb => k b R' H' e o qb⟩
  | false => exact ⟨_, pt_cmp (pc_din hu pa pb) hm, fun F B R H σ ρ α XQ Q K hK hX hB S h k => has_core (neg := false) sa sb F B R H σ ρ α XQ _ _ hK hX hB S h fun v x R' H' e o r q => fin (B := B) r q fun b qb => k b R' H' e o qb⟩

/-! ### dict([(k, v), ..]), the keys unlike -/
def pairD (p : Key × D) : D := .tup [keyD p.1, p.2]
def dctD (kd : List (Key × D)) : D := .dct (kd.map fun p => (keyD p.1, p.2))
theorem merge_new : ∀ (more acc : List (Key × V)), ((acc ++ more).map (·.1)).Nodup → mergeK acc more = acc ++ more
  | [], acc, _ => by simp [mergeK]
  | (k, v) :: r, acc, h => by
    have h1 : putK acc k v = acc ++ [(k, v)] := by
      unfold putK
      rw [if_neg]
      intro z
      obtain ⟨q, hq, hk⟩ := List.any_eq_true.mp z
      have hk := of_decide_eq_true hk
      rw [List.map_append, List.nodup_append] at h
      exact h.2.2 q.1 (List.mem_map.mpr ⟨q, hq, rfl⟩) k (by simp) hk
    show mergeK (putK acc k v) r = _
    rw [h1, merge_new r (acc ++ [(k, v)]) (by simpa using h)]
    simp
theorem pairs_rp {F : Fx} {H : Hp} {R : Reg} {n : Bool} : ∀ {kd : List (Key × D)} {vs : List V}, RpL F H R n vs (kd.map pairD) → ∃ (ps : List Addr) (kvs : List (Key × V)), vs = ps.map V.ref ∧ Paired (fun p kv => SqT F.K H p [kV kv.1, kv.2]) ps kvs ∧ RpK F H R n kvs (kd.map fun p => (keyD p.1, p.2)) ∧ kvs.map (·.1) = kd.map (·.1)
  | [], _, h => by
    cases h
    exact ⟨[], [], rfl, .nil, .nil, rfl⟩
  | (k, d) :: kd, _, h => by
    cases h with
    | cons a t =>
      obtain ⟨ps, kvs, rfl, h2, h3, h4⟩ := pairs_rp t
      cases a with
      | tup hs l =>
        cases l with
        | cons b l =>
        cases l with
        | cons c l =>
        cases l
        have eb := rp_key b
        subst eb
        refine ⟨_ :: ps, (k, _) :: kvs, rfl, .cons hs h2, ?_, by simp [h4]⟩
        cases k with
        | inl i => exact .consI c h3
        | inr x => exact .consS c h3
theorem dcl_dictP (hcalm : X.calm = true) : DCl X (.type "dict") (g1 fun x Q => ∃ kd, x.d = .lst (kd.map pairD) ∧ (kd.map (·.1)).Nodup ∧ Q ⟨dctD kd, x.fr, none⟩) := dcl1 (call_dictP hcalm) fun F B R H v x Q K hK I r ⟨kd, ed, nd, q⟩ k => by
  obtain ⟨d, n, vo⟩ := x
  have ed : d = .lst (kd.map pairD) := ed
  subst ed
  obtain ⟨a, vs, rfl, ha, la⟩ := r.lstL rfl
  obtain ⟨ps, kvs, rfl, h2, h3, h4⟩ := pairs_rp la
  refine ⟨a, ps, kvs, rfl, .of ha, hK ▸ h2, fun p hp => ?_⟩
  rw [merge_new kvs [] (by simpa [h4] using nd)]
  have e2 : Ext F R H (R.add p) (upd H p (.dK kvs)) := .new1 hp
  have o2 : HpOk F B (R.add p) (upd H p (.dK kvs)) := I.new hp .dK
  have l2 : RpK F (upd H p (.dK kvs)) (R.add p) _ kvs _ := h3.ext I e2
  exact k (.ref p) ⟨dctD kd, Dv.fr ⟨.lst (kd.map pairD), n, vo⟩, none⟩ _ _ e2 o2 ⟨.dK (.of upd_same) (.inr rfl) (fun _ => I.pn p (.of hp)) l2, fun _ z => nomatch z⟩ q

/-! ### sums, texts -/
theorem dcl_sum (hc : X.calm = true) : DCl X (.builtin "sum") (g1 fun x Q => ∃ ns : List Int, x.d = .lst (ns.map D.int) ∧ Q ⟨.int ns.sum, true, none⟩) := dcl1 (cr_sum hc) fun F B R H v x Q K hK I r ⟨ns, ed, q⟩ k => by
  obtain ⟨d, n, vo⟩ := x
  have ed : d = .lst (ns.map D.int) := ed
  subst ed
  obtain ⟨a, vs, rfl, ha, la⟩ := r.lstL rfl
  have e := rpl_intsI la
  subst e
  exact ⟨a, ns, rfl, .of ha, k _ _ R H .refl I (.of (.int _)) q⟩
theorem rpl_strsI {F : Fx} {H : Hp} {R : Reg} {n : Bool} : ∀ {ns : List Str} {us : List V}, RpL F H R n us (ns.map D.str) → us = ns.map V.str
  | [], _, h => by cases h; rfl
  | i :: ns, _, h => by
    cases h with
    | cons a t => cases a; rw [rpl_strsI t]; rfl
theorem de_join {o : Expr} {apos : Pos} (ha : DE X E ca o fa) (he : DE X E c e fe) (hs : starEach [e] X.env = [(false, eval e X.env)] := by rfl) (hbase : attributeBase o "join" X.env (eval o X.env) = eval o X.env := by rfl) (hline : (apos.endLine == pos.line) = true := by rfl) :
    DE X E (ca + c) (.Call (.Attribute o "join" apos) [e] [] pos) (fun ρ XQ Q => fa ρ XQ fun x => ∃ z : Str, x.d = .str z ∧ fe ρ XQ fun y => ∃ ys : List Str, y.d = .lst (ys.map D.str) ∧ (ys.map (·.length)).sum + ys.length * z.length ≤ 16777216 ∧ Q ⟨.str (Txt.join z ys), true, none⟩) := by
  obtain ⟨ta, pa, sa⟩ := ha
  obtain ⟨tb, pb, sb⟩ := he
  refine ⟨_, pe_join pa pb hs hbase hline, fun F B R H σ ρ α XQ Q K hK hX hB S h k => ?_⟩
  refine sa F B R H σ ρ α XQ _ _ hK hX (by omega) S h fun v x R1 H1 e1 o1 r1 ⟨z, ex, q1⟩ => ?_
  obtain ⟨dx, nx, vx⟩ := x
  have ex : dx = .str z := ex
  subst ex
  have r3 := r1.1
  cases r3
  refine ⟨⟨z, rfl⟩, sb F (B + ca) R1 H1 σ ρ α XQ _ _ hK hX (by omega) (S.ext e1 o1) q1 fun u y R2 H2 e2 o2 r2 ⟨ys, ey, hz, q⟩ => ?_⟩
  obtain ⟨dy, ny, vy⟩ := y
  have ey : dy = .lst (ys.map D.str) := ey
  subst ey
  obtain ⟨b, us, rfl, hb, lb⟩ := r2.lstL rfl
  have e := rpl_strsI lb
  subst e
  exact ⟨z, b, ys, rfl, rfl, .inl (.of hb), hz, k _ ⟨.str _, true, none⟩ R2 H2 (e1.trans e2) (by rw [← Nat.add_assoc]; exact o2) (.of (.str _)) q⟩
/-- a text cut -/
theorem de_sliceS {lo hi : Option Expr} {fl fh : TDo} {p2 : Pos} (ha : DE X E ca a fa) (hl : DO X E cb lo fl) (hh : DO X E cc hi fh) : DE X E (ca + cb + cc) (.Subscript a (.Slice lo hi none p2) pos) (fun ρ XQ Q => fa ρ XQ fun x => fl ρ XQ fun l => fh ρ XQ fun h => ∃ z : Str, x.d = .str z ∧ z.length ≤ BIG ∧ Q ⟨.str (cutS z l h), true, none⟩) := by
  obtain ⟨ta, pa, sa⟩ := ha
  obtain ⟨tl, pl, sl⟩ := hl
  obtain ⟨th, ph, sh⟩ := hh
  refine ⟨_, pe_slice sl_str pa pl ph, fun F B R H σ ρ α XQ Q K hK hX hB S h k => ?_⟩
  refine sa F B R H σ ρ α XQ _ _ hK hX (by omega) S h fun v x R1 H1 e1 o1 r1 q1 => ?_
  refine sl F (B + ca) R1 H1 σ ρ α XQ _ _ hK hX (by omega) (S.ext e1 o1) q1 fun lo R2 H2 e2 o2 q2 => ?_
  refine sh F (B + ca + cb) R2 H2 σ ρ α XQ _ _ hK hX (by omega) ((S.ext e1 o1).ext e2 o2) q2 fun hi R3 H3 e3 o3 ⟨z, ex, hz, q3⟩ => ?_
  obtain ⟨d, n, vo⟩ := x
  have ex : d = .str z := ex
  subst ex
  have r3 := r1.1
  cases r3
  have o3' : HpOk F (B + (ca + cb + cc)) R3 H3 := by
    have : B + (ca + cb + cc) = B + ca + cb + cc := by omega
    rw [this]; exact o3
  exact ⟨z, rfl, le_line hz, k _ ⟨.str _, true, none⟩ R3 H3 ((e1.trans e2).trans e3) o3' (.of (.str _)) q3⟩

/-! ### an attribute of an own instance -/
/-- never reached -/
theorem ds_never {st : Stmt} : DS X E 0 st (fun _ _ _ => False) := ⟨fun _ _ _ => False, ⟨fun _ _ _ _ _ _ h => h.elim⟩, fun _ _ _ _ _ _ _ _ _ _ _ _ _ _ h _ => h.elim⟩
theorem de_never {e : Expr} : DE X E 0 e (fun _ _ _ => False) := ⟨fun _ _ _ => False, ⟨fun _ _ _ _ _ _ h => h.elim⟩, fun _ _ _ _ _ _ _ _ _ _ _ _ _ _ h _ => h.elim⟩
/-- what the head tells of a class -/
structure ClT (K : PySem.W.Frag) (k : Nat) : Prop where
  cls : Cls K (objC K k)
  no : ∀ f ∈ objN k, NoAttr K (objC K k) f
  ins : C8.InsC K (objC K k)
theorem clT_of {K : PySem.W.Frag} (h : ClT K 0) {f : Str} (k : Nat) (hf : f ∈ objN k) : ClT K k := by
  have key : ∀ r : Nat, objNr r ≠ [] → r ≤ 5 ∧ ∀ f ∈ objNr r, f ∈ objNr 0 := fun r => by
    match r with
    | 0 => exact fun _ => ⟨by omega, fun f hf => hf⟩
    | 1 => exact fun z => absurd rfl z
    | 2 => exact fun _ => ⟨by omega, by decide +kernel⟩
    | 3 => exact fun _ => ⟨by omega, by decide +kernel⟩
    | 4 => exact fun _ => ⟨by omega, by decide +kernel⟩
    | 5 => exact fun _ => ⟨by omega, by decide +kernel⟩
    | _ + 6 => exact fun z => absurd rfl z
  obtain ⟨h1, h2⟩ := key (k % 16) (fun z => by unfold objN at hf; rw [z] at hf; cases hf)
  have e : objC K k = objC K 0 := objC_plan h1
  exact ⟨e ▸ h.cls, fun f hf => e ▸ h.no f (h2 f hf), e ▸ h.ins⟩
theorem zip_look {ns : List Str} {vs : List V} {f : Str} {i : Nat} : ns.Nodup → ns[i]? = some f → ∀ {v : V}, vs[i]? = some v → (ns.zip vs).lookup f = some v := by
  induction ns generalizing vs i with
  | nil => intro _ h; simp at h
  | cons a ns ih =>
    intro nd hi v hv
    cases vs with
    | nil => simp at hv
    | cons b vs =>
      cases i with
      | zero =>
        simp at hi hv
        subst hi hv
        simp [List.lookup]
      | succ j =>
        have hj : ns[j]? = some f := by simpa using hi
        have hne : f ≠ a := fun z => by
          subst z
          exact (List.nodup_cons.mp nd).1 (List.mem_of_getElem? hj)
        have hb : (f == a) = false := by simpa using hne
        rw [List.zip_cons_cons, List.lookup_cons, hb]
        exact ih (List.nodup_cons.mp nd).2 hj (by simpa using hv)
/-- o.f -/
def gFld (f : Str) : Dv → (Dv → Prop) → Prop := fun x Q => ∃ (k : Nat) (ds : List D) (i : Nat) (d : D), x.d = .obj k ds ∧ (objN k)[i]? = some f ∧ ds[i]? = some d ∧ Q ⟨d, x.fr, none⟩
theorem objN_nodup (k : Nat) : (objN k).Nodup := by
  unfold objN
  generalize k % 16 = r
  match r with
  | 0 => decide +kernel
  | 1 => decide +kernel
  | 2 => decide +kernel
  | 3 => decide +kernel
  | 4 => decide +kernel
  | 5 => decide +kernel
  | _ + 6 => exact List.nodup_nil
theorem de_fld {f : Str} (hC : ∀ k, f ∈ objN k → ClT X.K k) (ha : DE X E c a fa) (hb : attributeBase a f X.env (eval a X.env) = eval a X.env := by rfl) : DE X E c (.Attribute a f pos) (fun ρ XQ Q => fa ρ XQ fun x => gFld f x Q) := by
  obtain ⟨ta, pa, sa⟩ := ha
  refine ⟨_, pe_fld pa hb, fun F B R H σ ρ α XQ Q K hK hX hB S h k => ?_⟩
  refine sa F B R H σ ρ α XQ _ _ hK hX hB S h fun v x R1 H1 e1 o1 r1 ⟨c', ds, i, d, ex, ei, ed, q⟩ => ?_
  obtain ⟨dx, n, vo⟩ := x
  have ex : dx = .obj c' ds := ex
  subst ex
  have r3 := r1.fr
  have hm : f ∈ objN c' := List.mem_of_getElem? ei
  generalize hf : Dv.fr ⟨D.obj c' ds, n, vo⟩ = fr at r3 q
  cases r3 with
  | obj hh hr hw hn hl l =>
    obtain ⟨w, hw2, r⟩ := l.get ed
    have C := hC c' hm
    subst hn
    exact ⟨_, objC X.K c', _, _, w, rfl, hK ▸ hh, C.cls, C.no f hm, zip_look (objN_nodup c') ei hw2, k w ⟨d, fr, none⟩ R1 H1 e1 o1 (.of r) q⟩

/-! ### x[j] = e, x an own list -/
theorem ds_setix (l : List Nat) {i j : Nat} {y : Str} {p1 p2 sp : Pos} (he : DE X E c e fe) (ps : ∀ te, PE X e te → PS X (.Assign [.Subscript (.Name x p1) (.Name y p2) sp] e pos) (tAsg te (gSub (tVar i) (tVar j) rSetL))) :
    DS X E c (.Assign [.Subscript (.Name x p1) (.Name y p2) sp] e pos) (fun N ρ XQ => fe (frz l ρ) XQ fun y => ∃ ds n z v m, (if y.d.sca = true then ρ else frz l ρ)[i]? = some (.ow (.lst ds) n) ∧ (if y.d.sca = true then ρ else frz l ρ)[j]? = some (.va ⟨.int (z : Nat), m, v⟩) ∧ z < ds.length ∧ N.nx ((if y.d.sca = true then ρ else frz l ρ).set i (.ow (.lst (ds.set z y.d)) (n && y.fr)))) := by
  obtain ⟨t, p, s⟩ := he
  refine ⟨_, ps t p, fun F B R H σ ρ α XQ N K hK hX hB S h k => ?_⟩
  refine run_frz (X := X) (E := E) (c := c) (Q := fun y ρ' => ∃ ds n z v m, ρ'[i]? = some (.ow (.lst ds) n) ∧ ρ'[j]? = some (.va ⟨.int (z : Nat), m, v⟩) ∧ z < ds.length ∧ N.nx (ρ'.set i (.ow (.lst (ds.set z y.d)) (n && y.fr)))) s hK hX hB S h fun v y ρ' R' H' zz S' r ⟨ds, n, z, vz, m, h1, h2, hl, q⟩ => ?_
  obtain ⟨e1, w1⟩ := S'.ow i _ _ h1
  obtain ⟨vs, hv, lv⟩ := w1.at_
  obtain ⟨u, e2, r2⟩ := S'.va j _ h2
  have r3 := r2.1
  cases r3
  have hz : ixN vs.length (z : Int) = some z := by
    unfold ixN
    rw [if_pos (by omega), if_pos (by rw [lv.len]; omega)]
    simp
  refine ⟨_, e1, _, e2, α i, vs, (z : Nat), z, rfl, rfl, hv, hz, ?_⟩
  obtain ⟨S2, z2⟩ := S'.setow h1 (vs := vs.set z v) (ds' := ds.set z y.d) (m := n && y.fr) (RpL.set z (r.fr.weak and_r) (lv.weak and_l))
  exact k.nx σ _ _ R' α (zz.trans z2) S2 q

/-! ### while, the body draws; at most M turns -/
theorem ds_whileC (M : Nat) (l : List Nat) {body : List Stmt} {tc : TDt} {gb : TDS} (hp : PassesOwn (model X.prog X.w) X.A X.env X.xe) (hc : DT X E 0 e tc) (hb : DSs X E cb body gb) : DS X E (M * cb) (.While e body [] pos) (fun N ρ XQ => ∃ n, n ≤ M ∧ whN tc gb l N XQ n ρ) := by
  obtain ⟨t, pt, st⟩ := hc
  obtain ⟨tb, pb, sb⟩ := hb
  refine ⟨_, ps_while hp pt pb, fun F B R H σ ρ α XQ N K hK hX hB S ⟨n, hn, h⟩ k => ?_⟩
  refine ⟨fun m σ' H' => ∃ d R' ρ' α', m + d = M ∧ Fz F R H R' H' ∧ StOk F (B + d * cb) R' H' σ' ρ' α' ∧ whN tc gb l N XQ m ρ', ⟨n, M - n, R, ρ, α, by omega, .refl, S.mono (Nat.le_add_right _ _), h⟩, ?_⟩
  rintro m σ' H' ⟨d, R', ρ', α', hd, z, S', q⟩
  cases m with
  | zero => exact q.elim
  | succ m =>
    have hle2 : (d + 1) * cb ≤ M * cb := Nat.mul_le_mul_right _ (by omega)
    rw [Nat.succ_mul] at hle2
    refine run_frzT (X := X) (E := E) (c := 0) st hK hX (by omega) S' q fun b R2 H2 z2 S2 q2 => ?_
    cases b with
    | true =>
      refine ⟨fun σ3 H3 => ∃ d R3 ρ3 α3, m + d = M ∧ Fz F R H R3 H3 ∧ StOk F (B + d * cb) R3 H3 σ3 ρ3 α3 ∧ whN tc gb l N XQ m ρ3, fun σ3 H3 q3 => ⟨m, Nat.lt_succ_self _, q3⟩, ?_⟩
      have kk : EndsOk F (B + M * cb) R2 H2 N K := k.fz (z.trans z2)
      have kk2 : EndsOk F (B + d * cb + 0 + cb) R2 H2 N K := kk.mono (by omega)
      exact sb F (B + d * cb + 0) R2 H2 σ' ρ' α' XQ _ _ hK hX (by omega) S2 q2 ⟨fun σ4 H4 ρ4 R4 α4 z4 S4 q4 => ⟨d + 1, R4, ρ4, α4, by omega, (z.trans z2).trans z4, S4.mono (by rw [Nat.succ_mul]; omega), q4⟩, kk2.rt, kk2.nx, fun σ4 H4 ρ4 R4 α4 z4 S4 q4 => ⟨d + 1, R4, ρ4, α4, by omega, (z.trans z2).trans z4, S4.mono (by rw [Nat.succ_mul]; omega), q4⟩⟩
    | false => exact (k.mono (by omega)).nx σ' H2 ρ' R2 α' (z.trans z2) S2 q2
/-- a class by its name -/
theorem de_glob {C : Addr} (hg : Gl X x) (hm : X.mg x = some (.ref C)) (hd : (x == ("__debug__" : Str)) = false := by decide) : DE X E 0 (.Name x pos) (fun _ _ Q => Q ⟨.vee (.ref C), true, none⟩) :=
  ⟨_, pe_glob (v := .ref C) hg hm rfl hd, fun F B R H σ ρ α XQ Q K _ _ _ S q k => k _ _ R H .refl S.hp (.of (.vee _)) q⟩
/-- isinstance(an own instance, its class) -/
theorem dcl_isC {j : Nat} (c : C8.InsC X.K (objC X.K j)) : DCl X (.builtin "isinstance") (fun xs Q => match xs with
    | [x, y] => y.d = .vee (.ref (objC X.K j)) ∧ (∃ ds, x.d = .obj j ds) ∧ Q ⟨.bl true, true, none⟩
    | _ => False) :=
  ⟨_, C8.call_isC c, fun F B R H vs xs Q K hK I rs q k => by
    match xs, vs, rs, q with
    | [x, y], [v, u], .cons r1 (.cons r2 .nil), ⟨ey, ⟨ds, ex⟩, q⟩ =>
      obtain ⟨dx, nx, vx⟩ := x
      obtain ⟨dy, ny, vy⟩ := y
      have ex : dx = .obj j ds := ex
      have ey : dy = .vee (.ref (objC X.K j)) := ey
      subst ex ey
      have r3 := r1.1
      have r4 := r2.1
      cases r4
      cases r3 with
      | obj hh hr hw hn hl l => exact ⟨_, _, _, rfl, hK ▸ hh, k _ _ R H .refl I (.of (.bl _)) q⟩⟩
end
end DL

set_option Elab.async false
set_option linter.all false
set_option maxRecDepth 100000
/-! DL, part ab: comprehensions over lists that are told by a map; cuts. -/
namespace DL
open PySem PySem.Spec PyProof.Rows L2
theorem lc_filtA {gt : TDG} {ft : TDt} {fe : TD} {ρw : Ro} {Q : Dv → Prop} {α : Type} (e : α → Dv) (g : α → D) (c : α → Bool) : ∀ {l : List α} {acc : List D} {n : Bool},
    (∀ a ∈ l, ∀ (K1 : Dv → Prop) (K0 : Prop), (c a = true → ∀ m v, K1 ⟨g a, m, v⟩) → (c a = false → K0) → lcStep gt ft fe ρw (e a) K1 K0) → (∀ m, Q ⟨.lst (acc ++ (l.filter c).map g), m, none⟩) → lcGo gt ft fe ρw Q (l.map e) acc n
  | [], acc, n, _, q => by
    have := q n
    rw [List.filter_nil, List.map_nil, List.append_nil] at this
    exact this
  | a :: l, acc, n, h, q => by
    rw [List.map_cons, lcGo_cons]
    refine h a List.mem_cons_self _ _ (fun hc m v => ?_) (fun hc => ?_)
    · refine lc_filtA e g c (fun b hb => h b (List.mem_cons_of_mem _ hb)) fun m' => ?_
      have := q m'
      rw [List.filter_cons_of_pos hc, List.map_cons] at this
      simpa using this
    · refine lc_filtA e g c (fun b hb => h b (List.mem_cons_of_mem _ hb)) fun m' => ?_
      have := q m'
      rwa [List.filter_cons_of_neg (by rw [hc]; decide)] at this
theorem lc_filt {gt : TDG} {ft : TDt} {fe : TD} {ρw : Ro} {Q : Dv → Prop} {α : Type} {e : α → Dv} {g : α → D} (c : α → Bool) {l : List α} {n : Bool}
    (h : ∀ a ∈ l, ∀ (K1 : Dv → Prop) (K0 : Prop), (c a = true → ∀ m v, K1 ⟨g a, m, v⟩) → (c a = false → K0) → lcStep gt ft fe ρw (e a) K1 K0) (q : ∀ m, Q ⟨.lst ((l.filter c).map g), m, none⟩) : lcGo gt ft fe ρw Q (l.map e) [] n :=
  lc_filtA e g c h fun m => by simpa using q m
theorem lc_mapA {gt : TDG} {ft : TDt} {fe : TD} {ρw : Ro} {Q : Dv → Prop} {α : Type} {e : α → Dv} {g : α → D} {l : List α} {n : Bool}
    (h : ∀ a ∈ l, ∀ (K1 : Dv → Prop) (K0 : Prop), (∀ m v, K1 ⟨g a, m, v⟩) → lcStep gt ft fe ρw (e a) K1 K0) (q : ∀ m, Q ⟨.lst (l.map g), m, none⟩) : lcGo gt ft fe ρw Q (l.map e) [] n :=
  lc_filt (fun _ => true) (fun a ha K1 K0 h1 _ => h a ha K1 K0 (h1 rfl)) fun m => by
    have e : l.filter (fun _ => true) = l := List.filter_eq_self.mpr fun _ _ => rfl
    rw [e]
    exact q m
theorem ite_t {c : Prop} [Decidable c] {A B : Prop} (h : c) (a : A) : if c then A else B := by rw [if_pos h]; exact a
theorem ite_f {c : Prop} [Decidable c] {A B : Prop} (h : ¬ c) (b : B) : if c then A else B := by rw [if_neg h]; exact b
theorem cut_map {α β : Type} (f : α → β) (xs : List α) (lo hi : Option Int) : cutL (xs.map f) lo hi = (cutL xs lo hi).map f := by
  unfold cutL
  rw [List.length_map, List.map_take, List.map_drop]
theorem cut_mem {α : Type} {xs : List α} {lo hi : Option Int} {x : α} (h : x ∈ cutL xs lo hi) : x ∈ xs := List.mem_of_mem_drop (List.mem_of_mem_take h)
end DL

set_option Elab.async false
set_option linter.all false
set_option maxRecDepth 100000
set_option maxHeartbeats 4000000
/-! DL, part ac: the draw with its exact stream; names drawn till one is new. -/
namespace DL
open PySem PySem.Spec PyProof.Rows L2

abbrev StrmS (H : Hp) (a b : Addr) (t : SS) : Prop := StrmAt H a b t.1 t.2.1 t.2.2.1 t.2.2.2
structure OkS (t : SS) : Prop where
  c0 : 0 ≤ t.2.1
  n0 : 0 ≤ t.2.2.1
  s0 : 0 ≤ t.2.2.2
  s1 : t.2.2.2 < 2147483629
structure Off (H H' : Hp) (a b : Addr) : Prop where
  kp : ∀ x, x ≠ a → x ≠ b → ∀ o, H x = some o → H' x = some o
  bk : ∀ x, H' x = none → H x = none
theorem Off.trans {H H' H'' : Hp} {a b : Addr} (p : Off H H' a b) (q : Off H' H'' a b) : Off H H'' a b := ⟨fun x e f o h => q.kp x e f o (p.kp x e f o h), fun x h => p.bk x (q.bk x h)⟩
/-- a draw -/
def spDrawV : Sp := fun vs H Q _ => ∃ (a b : Addr) (m : Int) (t : SS), vs = [.ref a, .int m] ∧ a ≠ b ∧ StrmS H a b t ∧ OkS t ∧ t.2.2.1 + 1 < 2 ^ 100001 ∧ 0 < m ∧ m < 1073741824 ∧
  ∀ H', StrmS H' a b (nextS m t) → OkS (nextS m t) → Off H H' a b → 0 ≤ digS m t → digS m t < m → Q (.int (digS m t)) H'
theorem drawV_reads {K : PySem.W.Frag} {H : Hp} {a b : Addr} {m : Int} {t : SS} (hne : a ≠ b) (hS : StrmS H a b t) (ok : OkS t) (hnB : t.2.2.1 + 1 < 2 ^ 100001) (hm0 : 0 < m) (hm1 : m < 1073741824)
    {Q : VK} {Qn : L2.St → Hp → Prop} (q : ∀ H', StrmS H' a b (nextS m t) → OkS (nextS m t) → Off H H' a b → 0 ≤ digS m t → digS m t < m → Q (.int (digS m t)) H') :
    drawAll K { nx := Qn, rt := Q } [some (.ref a), some (.int m), none, none, none] H := by
  obtain ⟨xs, c, n, s⟩ := t
  refine draw_readsV hne hS ok.c0 ok.n0 hnB ok.s0 ok.s1 hm0 hm1 fun k H' k0 k1 ⟨xs', c', s', e, hS', c1, s1, s2⟩ kp bk => ?_
  have e1 : digS m (xs, c, n, s) = k := by unfold digS; rw [e]
  have e2 : nextS m (xs, c, n, s) = (xs', c', n + 1, s') := by unfold nextS; rw [e]
  have := q H' (by rw [e2]; exact hS') (by rw [e2]; exact ⟨c1, by have := ok.n0; show 0 ≤ n + 1; have : 0 ≤ n := this; omega, s1, s2⟩) ⟨kp, bk⟩ (by rw [e1]; exact k0) (by rw [e1]; exact k1)
  rw [e1] at this
  exact this
/-- a sign of a text is drawn -/
def spPickV : Sp := fun vs H Q _ => ∃ (a b : Addr) (z : Str) (t : SS), vs = [.ref a, .str z] ∧ a ≠ b ∧ StrmS H a b t ∧ OkS t ∧ t.2.2.1 + 1 < 2 ^ 100001 ∧ 0 < z.length ∧ z.length ≤ 1000 ∧
  ∀ H' c, StrmS H' a b (nextS z.length t) → OkS (nextS z.length t) → Off H H' a b → 0 ≤ digS z.length t → digS z.length t < z.length → atI z.cps.toList (digS z.length t) = some c → Q (.str ⟨#[c]⟩) H'
/-- a name: a few small letters -/
def abc : Str := "abcdefghijklmnopqrstuvwxyz"
structure NmOk (x : Str) : Prop where
  l0 : 0 < x.length
  l5 : x.length ≤ 5
  ab : ∀ c ∈ x.cps.toList, 97 ≤ c ∧ c < 123
theorem abc_len : abc.length = 26 := by decide +kernel
theorem abc_at : ∀ k : Nat, k < 26 → abc.cps.toList[k]? = some (97 + k) := by decide +kernel
def shN (nm : Str) (k : Int) : Str := cutS (nm ++ (⟨#[97 + k.toNat]⟩ : Str)) (some (-5)) none
def keyN (x : Str) : Int := (x.cps.toList.getLastD 97 : Nat) - 97
theorem cps_app (x y : Str) : (x ++ y).cps.toList = x.cps.toList ++ y.cps.toList := by
  show (x.cps ++ y.cps).toList = _
  simp
theorem len_cps (x : Str) : x.length = x.cps.toList.length := by simp [Str.length]
theorem shN_cps {nm : Str} {k : Int} : (shN nm k).cps.toList = (nm.cps.toList ++ [97 + k.toNat]).drop (nm.length + 1 - 5) := by
  have hl : (nm ++ (⟨#[97 + k.toNat]⟩ : Str)).length = nm.length + 1 := by rw [len_cps, cps_app, List.length_append, ← len_cps]; rfl
  unfold shN cutS
  rw [hl]
  show (((nm ++ (⟨#[97 + k.toNat]⟩ : Str)).cps.toList.drop (HT.sIx (nm.length + 1) 0 (some (-5)))).take (nm.length + 1 - HT.sIx (nm.length + 1) 0 (some (-5)))) = _
  have e : HT.sIx (nm.length + 1) 0 (some (-5)) = nm.length + 1 - 5 := by
    simp only [HT.sIx]
    rw [if_pos (by decide)]
    omega
  rw [e, cps_app]
  refine List.take_of_length_le ?_
  rw [List.length_drop, List.length_append, ← len_cps]
  exact Nat.le_refl _
theorem shN_ok {nm : Str} (h : NmOk nm) {k : Int} (h0 : 0 ≤ k) (h1 : k < 26) : NmOk (shN nm k) := by
  have e := shN_cps (nm := nm) (k := k)
  have l : (shN nm k).length = nm.length + 1 - (nm.length + 1 - 5) := by
    rw [len_cps, e, List.length_drop, List.length_append, ← len_cps]
    rfl
  have a := h.l0
  have b := h.l5
  refine ⟨by omega, by omega, fun c hc => ?_⟩
  rw [e] at hc
  rcases List.mem_append.mp (List.mem_of_mem_drop hc) with z | z
  · exact h.ab c z
  · rw [List.mem_singleton] at z
    omega
theorem shN_key {nm : Str} {k : Int} (h0 : 0 ≤ k) (h1 : k < 26) : keyN (shN nm k) = k := by
  unfold keyN
  rw [shN_cps]
  have e : ((nm.cps.toList ++ [97 + k.toNat]).drop (nm.length + 1 - 5)) = nm.cps.toList.drop (nm.length + 1 - 5) ++ [97 + k.toNat] := by
    rw [List.drop_append_of_le_length (by rw [← len_cps]; omega)]
  rw [e]
  simp only [List.getLastD_eq_getLast?, List.getLast?_append, List.getLast?_singleton, Option.some_or, Option.getD_some]
  omega
theorem itS_n {m : Int} : ∀ {d : Nat} {t : SS}, (itS m d t).2.2.1 = t.2.2.1 + d
  | 0, t => by show _ = t.2.2.1 + ((0 : Nat) : Int); simp [itS]
  | d + 1, t => by
    show (itS m d (nextS m t)).2.2.1 = _
    rw [itS_n]
    show t.2.2.1 + 1 + (d : Int) = t.2.2.1 + ((d + 1 : Nat) : Int)
    omega
theorem itS_cells {m : Int} (hm : 2 ≤ m) : ∀ {d : Nat} {t : SS}, CellsOk t.1 t.2.1 → CellsOk (itS m d t).1 (itS m d t).2.1
  | 0, _, h => h
  | d + 1, t, h => itS_cells hm (d := d) (cells_next hm h)
theorem set_same {α : Type} {xs : List α} {k : Nat} {x : α} (h : xs[k]? = some x) : xs.set k x = xs := by
  obtain ⟨hl, e⟩ := List.getElem?_eq_some_iff.mp h
  rw [← e]
  exact List.set_getElem_self hl
theorem set_set' {α : Type} {xs : List α} {k : Nat} {x y : α} : (xs.set k x).set k y = xs.set k y := List.set_set ..
theorem inV_names {x : Str} : ∀ {names : List Str}, inV (.str x) (names.map V.str) = decide (x ∈ names)
  | [] => rfl
  | y :: ys => by
    show (eqV (.str y) (.str x) || inV (.str x) (ys.map V.str)) = _
    rw [inV_names]
    simp only [eqV, List.mem_cons, Bool.decide_or]
    by_cases h : y = x
    · simp [h]
    · have h2 : ¬ x = y := fun z => h z.symm
      simp [h, h2]
theorem rpl_names {F : Fx} {H : Hp} {R : Reg} {n : Bool} : ∀ {names : List Str} {vs : List V}, RpL F H R n vs (names.map D.str) → vs = names.map V.str
  | [], _, .nil => rfl
  | x :: xs, _, .cons a t => by
    cases a
    rw [rpl_names t]
    rfl
theorem flat_names : ∀ {names : List Str}, (names.map V.str).all flatV = true
  | [] => rfl
  | x :: xs => by rw [List.map_cons, List.all_cons, flat_names]; rfl
def rAddS : R2 := fun x y H Q => ∃ i j, x = .str i ∧ y = .str j ∧ i.length + j.length ≤ sizeLine ∧ Q (.str (i ++ j)) H
section
variable {X : Cx} {E : XK} {pos : Pos} {test : Expr} {body : Stmt}
/-- while name in found: name = (name + pick(stream, signs))[-5:] -/
theorem ds_names {i j k g : Nat} (hp : PassesOwn (model X.prog X.w) X.A X.env X.xe)
    (pt : PT X test (tTest (tOp (rIn X.K false) (tVar k) (tVar g))))
    (pb : PS X body (tAsg (tSl rSlS (tOp rAddS (tVar k) (tCall spPickV [] E (tCons (tVar i) (tCons (tVar j) tNil)))) (tPart (tUn (rU fun i => .int (-i)) (tC (.int 5)))) tNoPart) (gName k))) :
    DS X E MAXT (.While test [body] [] pos)
      (fun N ρ XQ => ∃ (names : List Str) (n : Bool) (nm : Str) (y z w : Dv), ρ[i]? = some (.va y) ∧ y.d = .strm ∧ ρ[j]? = some (.va z) ∧ z.d = .str abc ∧ ρ[g]? = some (.ow (.lst (names.map D.str)) n) ∧ ρ[k]? = some (.va w) ∧ w.d = .str nm ∧ names.length ≤ 9 ∧ i ≠ k ∧ j ≠ k ∧ g ≠ k ∧ NmOk nm ∧
        ∀ nm', NmOk nm' → nm' ∉ names → N.nx (ρ.set k (.va ⟨.str nm', true, none⟩))) := by
  refine ⟨_, ps_while hp pt (pss_one pb), fun F B R H σ ρ α XQ N K hK hX hB S ⟨names, n, nm, y, z, w, hi, hy, hj, hz, hgg, hkk, hw, hn9, nik, njk, ngk, hnm, q⟩ kk => ?_⟩
  obtain ⟨v1, s1, r1⟩ := S.va i y hi
  obtain ⟨v2, s2, r2⟩ := S.va j z hj
  obtain ⟨v3, s3, r3⟩ := S.va k w hkk
  obtain ⟨s4, w4⟩ := S.ow g _ _ hgg
  have r1 := r1.1
  have r2 := r2.1
  have r3 := r3.1
  rw [hy] at r1
  rw [hz] at r2
  rw [hw] at r3
  cases r2
  cases r3
  generalize hv1 : v1 = u1 at r1
  cases r1 with
  | @strm _ p hst =>
  obtain ⟨a, b⟩ := p
  subst hv1
  obtain ⟨hne, xs0, c0, n0, s0, ha0, hb0, hc0, hn0, hnB, hs0, hs1, hcl⟩ := S.hp.inv (a, b) hst
  simp only at hne ha0 hb0 s1
  obtain ⟨vs, hgv, lv⟩ := w4.at_
  have ev := rpl_names lv
  subst ev
  have gna : α g ≠ a := fun e => w4.nm ⟨_, hst, .inl e⟩
  have gnb : α g ≠ b := fun e => w4.nm ⟨_, hst, .inr e⟩
  obtain ⟨it, hit, hout, hin⟩ := name_first (sh := shN) (key := keyN) (fun _ _ h0 h1 => shN_key h0 h1) (t := (xs0, c0, n0, s0)) hc0 hcl nm (found := names) hn9
  have hS0 : StrmS H a b (xs0, c0, n0, s0) := ⟨ha0, hb0⟩
  generalize ht : ((xs0, c0, n0, s0) : SS) = t at hS0 hit hout hin
  have ok0 : OkS t := by subst ht; exact ⟨hc0, hn0, hs0, hs1⟩
  have hn1 : t.2.2.1 ≤ (B : Int) := by subst ht; exact hnB
  have cl0 : CellsOk t.1 t.2.1 := by subst ht; exact hcl
  have σk : ∀ x, (σ.set k x)[i]? = some (some (.ref a)) := fun x => by rw [List.getElem?_set_ne nik.symm]; exact s1
  have σj : ∀ x, (σ.set k x)[j]? = some (some (.str abc)) := fun x => by rw [List.getElem?_set_ne njk.symm]; exact s2
  have σg : ∀ x, (σ.set k x)[g]? = some (some (.ref (α g))) := fun x => by rw [List.getElem?_set_ne ngk.symm]; exact s4
  have kl : k < σ.length := (List.getElem?_eq_some_iff.mp s3).1
  refine ⟨fun m σ' H' => ∃ d, d + m = it ∧ σ' = σ.set k (some (.str (nameAt shN nm t d))) ∧ StrmS H' a b (itS 26 d t) ∧ OkS (itS 26 d t) ∧ Off H H' a b ∧ NmOk (nameAt shN nm t d), ⟨it, 0, by omega, (set_same s3).symm, hS0, ok0, ⟨fun _ _ _ _ h => h, fun _ h => h⟩, hnm⟩, ?_⟩
  rintro m σ' H' ⟨d, hd, rfl, hS, ok, off, hnd⟩
  have hk' : (σ.set k (some (V.str (nameAt shN nm t d))))[k]? = some (some (.str (nameAt shN nm t d))) := by rw [List.getElem?_set_self kl]
  have hg' : H' (α g) = some (.lst (names.map V.str)) := off.kp _ gna gnb _ hgv
  refine ⟨_, hk', _, σg _, α g, _, rfl, .inl (.of hg'), rfl, flat_names, _, rfl, ?_⟩
  rw [inV_names]
  simp only [Bool.false_eq_true, if_false]
  by_cases hlt : d < it
  · rw [if_pos (by simpa using hin d hlt)]
    refine ⟨_, fun σ' H' h => ⟨m - 1, by omega, h⟩, ?_⟩
    have e26 : ((abc.length : Nat) : Int) = 26 := by rw [abc_len]; rfl
    refine ⟨_, hk', _, σk _, _, σj _, a, b, abc, itS 26 d t, rfl, hne, hS, ok, ?_, by rw [abc_len]; decide, by rw [abc_len]; decide, fun H2 c hS2 ok2 off2 dg0 dg1 hc => ?_⟩
    · rw [itS_n]
      refine lim_bits (B := B + MAXT) ?_ (Nat.le_trans hB S.hp.lim)
      have : d ≤ MAXT := by omega
      generalize MAXT = M at this hit
      omega
    rw [e26] at hS2 ok2 hc dg0 dg1
    have hdg : 0 ≤ digS 26 (itS 26 d t) ∧ digS 26 (itS 26 d t) < 26 := ⟨dg0, dg1⟩
    have ec : c = 97 + (digS 26 (itS 26 d t)).toNat := by
      have h1 := abc_at (digS 26 (itS 26 d t)).toNat (by omega)
      unfold atI ixN at hc
      rw [if_pos hdg.1, ← len_cps, abc_len, if_pos (show digS 26 (itS 26 d t) < ((26 : Nat) : Int) from hdg.2)] at hc
      rw [show (some (digS 26 (itS 26 d t)).toNat).bind (fun j => abc.cps.toList[j]?) = abc.cps.toList[(digS 26 (itS 26 d t)).toNat]? from rfl, h1] at hc
      exact (Option.some.inj hc).symm
    subst ec
    have hl5 := hnd.l5
    have hz1 : (nameAt shN nm t d).length + (⟨#[97 + (digS 26 (itS 26 d t)).toNat]⟩ : Str).length ≤ sizeLine := le_line (by show _ + 1 ≤ BIG; unfold BIG; omega)
    have ej : shN (nameAt shN nm t d) (digS 26 (itS 26 d t)) = nameAt shN nm t (d + 1) := rfl
    refine ⟨_, _, rfl, rfl, hz1, 5, rfl, _, rfl, _, rfl, ?_, d + 1, by omega, ?_, ?_, ?_, off.trans off2, ?_⟩
    · exact Nat.le_trans (by rw [len_cps, cps_app, List.length_append, ← len_cps, ← len_cps]; exact Nat.le_refl _) hz1
    · rw [set_set']
      rfl
    · rw [itS_succ]; exact hS2
    · rw [itS_succ]; exact ok2
    · rw [← ej]; exact shN_ok hnd hdg.1 hdg.2
  · have ed : d = it := by omega
    subst ed
    rw [if_neg (by simpa using hout)]
    obtain ⟨e1, o1⟩ := strm_ext (B' := B + MAXT) hst S.hp ⟨off.kp, hne, _, _, _, _, hS.top, hS.low, ok.c0, ok.n0, by rw [itS_n]; generalize MAXT = M at hit; omega, ok.s0, ok.s1, itS_cells (by decide) cl0⟩
    exact kk.nx _ _ _ R α (e1.fz S.hp) ((S.ext e1 o1).setva k (x := ⟨.str _, true, none⟩) (.of (.str _))) (q _ hnd hout)
end
theorem abc_mem : ∀ c ∈ abc.cps.toList, 97 ≤ c ∧ c < 123 := by decide +kernel
def Sign (z : Str) : Prop := ∃ c : Nat, z = ⟨#[c]⟩ ∧ 97 ≤ c ∧ c < 123
theorem signs_of {xs : List Dv} {ys : List D} (h : Paired (fun _ d => ∃ z, d = D.str z ∧ Sign z) xs ys) : ∃ zs : List Str, ys = zs.map D.str ∧ zs.length = xs.length ∧ ∀ z ∈ zs, Sign z := by
  induction h with
  | nil => exact ⟨[], rfl, rfl, fun z h => nomatch h⟩
  | cons a _ ih =>
    obtain ⟨z, rfl, hz⟩ := a
    obtain ⟨zs, rfl, hl, hs⟩ := ih
    refine ⟨z :: zs, rfl, by rw [List.length_cons, List.length_cons, hl], fun y hy => ?_⟩
    rcases List.mem_cons.mp hy with rfl | hy
    · exact hz
    · exact hs y hy
theorem joined_cps : ∀ {zs : List Str}, (Txt.join "" zs).cps.toList = (zs.map fun z => z.cps.toList).flatten := fun {zs} => by
  rw [TL.join_eq]
  induction zs with
  | nil => rfl
  | cons x zs ih =>
    cases zs with
    | nil => simp [Str.join]
    | cons y zs =>
      show (x ++ "" ++ Str.join "" (y :: zs)).cps.toList = _
      rw [cps_app, cps_app, ih]
      show x.cps.toList ++ [] ++ _ = _
      simp
theorem joined_ok : ∀ {zs : List Str}, (∀ z ∈ zs, Sign z) → ((zs.map fun z => z.cps.toList).flatten).length = zs.length ∧ ∀ c ∈ (zs.map fun z => z.cps.toList).flatten, 97 ≤ c ∧ c < 123
  | [], _ => ⟨rfl, fun c h => nomatch h⟩
  | z :: zs, h => by
    obtain ⟨c, rfl, c0, c1⟩ := h z (by simp)
    obtain ⟨h1, h2⟩ := joined_ok (zs := zs) fun y hy => h y (by simp [hy])
    rw [List.map_cons, List.flatten_cons]
    refine ⟨by rw [List.length_append, h1, List.length_cons]; show 1 + zs.length = zs.length + 1; omega, fun x hx => ?_⟩
    rcases List.mem_append.mp hx with hx | hx
    · have : x = c := by simpa using hx
      omega
    · exact h2 x hx
theorem joined_nm {zs : List Str} (h : ∀ z ∈ zs, Sign z) (h0 : 0 < zs.length) (h5 : zs.length ≤ 5) : NmOk (Txt.join "" zs) := by
  obtain ⟨h1, h2⟩ := joined_ok h
  have hl : (Txt.join "" zs).length = zs.length := by rw [len_cps, joined_cps, h1]
  exact ⟨by omega, by omega, fun c hc => h2 c (by rw [← joined_cps]; exact hc)⟩
theorem signs_sum : ∀ {zs : List Str}, (∀ z ∈ zs, Sign z) → (zs.map (·.length)).sum = zs.length
  | [], _ => rfl
  | z :: zs, h => by
    obtain ⟨c, rfl, _, _⟩ := h z (by simp)
    rw [List.map_cons, List.sum_cons, signs_sum fun y hy => h y (by simp [hy]), List.length_cons]
    show 1 + _ = _
    omega
end DL

set_option Elab.async false
set_option linter.all false
set_option maxRecDepth 100000
set_option maxHeartbeats 4000000
/-! DL, part ad: parts told side by side to slots that cells may hold: by a tuple. -/
namespace DL
open PySem PySem.Spec PyProof.Rows L2

def Pt.isO : Pt → Bool
  | .va _ => false
  | .ow _ _ => true
/-- own parts stand apart -/
def Apart (p : Pt) (v : V) (ps : List Pt) (vs : List V) : Prop := ∀ (k : Nat) p' v', ps[k]? = some p' → vs[k]? = some v' → p.isO = true → p'.isO = true → v' ≠ v
inductive PtsOk (F : Fx) (H0 H : Hp) (R : Reg) : List Pt → List V → Prop
  | nil : PtsOk F H0 H R [] []
  | cons {p : Pt} {v : V} {ps : List Pt} {vs : List V} : PtOk F H0 H R p v → PtsOk F H0 H R ps vs → Apart p v ps vs → PtsOk F H0 H R (p :: ps) (v :: vs)
theorem PtsOk.len {F : Fx} {H0 H : Hp} {R : Reg} : ∀ {ps : List Pt} {vs : List V}, PtsOk F H0 H R ps vs → ps.length = vs.length
  | _, _, .nil => rfl
  | _, _, .cons _ t _ => by rw [List.length_cons, List.length_cons, t.len]
theorem PtsOk.get {F : Fx} {H0 H : Hp} {R : Reg} : ∀ {ps : List Pt} {vs : List V} {k : Nat} {p : Pt} {v : V}, PtsOk F H0 H R ps vs → ps[k]? = some p → vs[k]? = some v → PtOk F H0 H R p v
  | _, _, k, _, _, .nil, h, _ => by simp at h
  | _, _, 0, _, _, .cons a _ _, h, h2 => by simp at h h2; subst h h2; exact a
  | _, _, k + 1, _, _, .cons _ t _, h, h2 => t.get (k := k) (by simpa using h) (by simpa using h2)
theorem PtsOk.ext {F : Fx} {B : Nat} {H0 H H' : Hp} {R R' : Reg} (I : HpOk F B R H) (e : Ext F R H R' H') : ∀ {ps : List Pt} {vs : List V}, PtsOk F H0 H R ps vs → PtsOk F H0 H' R' ps vs
  | _, _, .nil => .nil
  | _, _, .cons a t d => .cons (a.ext I e) (t.ext I e) d
theorem PtsOk.back {F : Fx} {H0 H1 H : Hp} {R : Reg} (e : ∀ a, Nn H1 a → Nn H0 a) : ∀ {ps : List Pt} {vs : List V}, PtsOk F H1 H R ps vs → PtsOk F H0 H R ps vs
  | _, _, .nil => .nil
  | _, _, .cons a t d => .cons (a.back e) (t.back e) d
abbrev TPs := Ro → XQT → (List Pt → Prop) → Prop
def DPs (X : Cx) (E : XK) (c : Nat) (es : List Expr) (f : TPs) : Prop := ∃ t : TA, PA X es t ∧ ∀ F B R H σ ρ α XQ Q (K : List V → Hp → Prop), F.K = X.K → XLink F E XQ → B + c ≤ F.L → StOk F B R H σ ρ α → f ρ XQ Q →
  (∀ vs ps R' H', Ext F R H R' H' → HpOk F (B + c) R' H' → PtsOk F H H' R' ps vs → Q ps → K vs H') → t σ H K
def setAll : Ro → List Nat → List Pt → Ro
  | ρ, i :: is, p :: ps => setAll (ρ.set i p.sl) is ps
  | ρ, _, _ => ρ
section
variable {X : Cx} {E : XK} {c ca cb cc : Nat} {a b d e : Expr} {es : List Expr} {pa : TP} {fs : TPs} {pos p : Pos}
theorem dps_nil : DPs X E 0 [] (fun _ _ Q => Q []) := ⟨_, pa_nil, fun F B R H σ ρ α XQ Q K _ _ _ S h k => k [] [] R H .refl S.hp .nil h⟩
theorem dps_cons (ha : DPt X E ca e pa) (hb : DPs X E cb es fs) (hs : starEach (e :: es) X.env = (false, eval e X.env) :: starEach es X.env := by rfl) : DPs X E (ca + cb) (e :: es) (fun ρ XQ Q => pa ρ XQ fun p => fs ρ XQ fun ps => Q (p :: ps)) := by
  obtain ⟨t, p, s⟩ := ha
  obtain ⟨t2, p2, s2⟩ := hb
  refine ⟨_, pa_cons p p2 hs, fun F B R H σ ρ α XQ Q K hK hX hB S h k => ?_⟩
  refine s F B R H σ ρ α XQ _ _ hK hX (by omega) S h fun v u R1 H1 e1 o1 r1 q1 => ?_
  refine s2 F (B + ca) R1 H1 σ ρ α XQ _ _ hK hX (by omega) (S.ext e1 o1) q1 fun vs us R2 H2 e2 o2 r2 q2 => ?_
  refine k _ (u :: us) R2 H2 (e1.trans e2) (by rw [← Nat.add_assoc]; exact o2) (.cons (r1.ext o1 e2) (r2.back e1.there) fun j p' v' hp hv i1 i2 ev => ?_) q2
  have h2 := r2.get hp hv
  cases u with
  | va x => cases i1
  | ow d n =>
    cases p' with
    | va x => cases i2
    | ow d' n' =>
      obtain ⟨a1, e1', w1, z1⟩ := r1
      obtain ⟨a2, e2', w2, z2⟩ := h2
      rw [e1', e2'] at ev
      cases ev
      obtain ⟨o, ho, nt⟩ := w1.some
      exact z2 o ho nt
def gNames : List Nat → TGs
  | [] => gNil
  | i :: is => gCons (gName i) (gNames is)
/-- names, told in turn -/
inductive NmsOk (X : Cx) : List Nat → List Expr → Prop
  | nil : NmsOk X [] []
  | cons {i : Nat} {is : List Nat} {e : Expr} {es : List Expr} : PG X e (gName i) → NmsOk X is es → ((assignEach (e :: es) X.env).map (·.2) = assign e X.env :: (assignEach es X.env).map (·.2)) → NmsOk X (i :: is) (e :: es)
theorem NmsOk.pgs {is : List Nat} {es : List Expr} (h : NmsOk X is es) : PGs X es (gNames is) := by
  induction h with
  | nil => exact pgs_nil
  | cons a _ hs ih => exact pgs_cons a ih hs
theorem setall_ok {F : Fx} {B : Nat} {R : Reg} {H0 H : Hp} : ∀ (is : List Nat) (ps : List Pt) (vs : List V) (σ : L2.St) (ρ : Ro) (α : Nat → Addr), is.length = ps.length → PtsOk F H0 H R ps vs → StOk F B R H σ ρ α →
    (∀ (k : Nat) p v, ps[k]? = some p → vs[k]? = some v → p.isO = true → ∀ j d n, ρ[j]? = some (.ow d n) → V.ref (α j) ≠ v) → ∀ Q : L2.St → Hp → Prop, (∀ σ' α', StOk F B R H σ' (setAll ρ is ps) α' → Q σ' H) → gNames is vs σ H Q
  | [], [], _, σ, ρ, α, _, .nil, S, _, Q, q => ⟨rfl, q σ α S⟩
  | i :: is, p :: ps, _, σ, ρ, α, hl, .cons (v := v) (vs := vs) r t ap, S, ne, Q, q => by
    refine ⟨v, vs, rfl, ?_⟩
    obtain ⟨α1, S1, hα⟩ : ∃ α', StOk F B R H (σ.set i (some v)) (ρ.set i p.sl) α' ∧ ∀ j d n, (ρ.set i p.sl)[j]? = some (.ow d n) → (∃ d n, ρ[j]? = some (.ow d n) ∧ α' j = α j) ∨ (v = .ref (α' j) ∧ ∃ d n, p = .ow d n) := by
      cases p with
      | va x => exact ⟨α, S.setva i r, fun j d n h => by
          rcases set_get h with ⟨_, e⟩ | ⟨_, h⟩
          · cases e
          · exact .inl ⟨d, n, h, rfl⟩⟩
      | ow d' n' => exact S.setpt (i := i) r fun a ea hn j d n hj ej => ne 0 _ v rfl rfl rfl j d n hj (by rw [ej, ea])
    refine setall_ok is ps vs _ _ α1 (by simpa using hl) t S1 (fun k p' v' hp hv ho j d n hj ej => ?_) Q q
    rcases hα j d n hj with ⟨d0, n0, h0, e0⟩ | ⟨e0, d0, n0, ep⟩
    · exact ne (k + 1) p' v' (by simpa using hp) (by simpa using hv) ho j d0 n0 h0 (by rw [← e0]; exact ej)
    · subst ep
      exact ap k p' v' hp hv rfl ho (by rw [e0]; exact ej.symm)
/-- a, b = e, f by a tuple -/
theorem ds_parT (l : List Nat) {is : List Nat} {ts : List Expr} {kt k2 : Nat} {pt pt2 : Pos} (hp : DPs X E c es fs) (hc : X.calm = true) (hn : NmsOk X is ts)
    (hl : (assignEach ts X.env).length = es.length) (hst : (assignEach ts X.env).findIdx? (·.1) = none) (hl2 : is.length = es.length) (ps : ∀ te t, PE X (.Tuple es k2 pt2) te → PG X (.Tuple ts kt pt) t → PS X (.Assign [.Tuple ts kt pt] (.Tuple es k2 pt2) pos) (tAsg te t)) :
    DS X E c (.Assign [.Tuple ts kt pt] (.Tuple es k2 pt2) pos) (fun N ρ XQ => fs (frz l ρ) XQ fun us => us.length = es.length ∧ es.length ≤ 1000 ∧ N.nx (setAll (frz l ρ) is us)) := by
  obtain ⟨t, p, s⟩ := hp
  refine ⟨_, ps _ _ (pe_tup p) (pg_tup hc hn.pgs hl hst), fun F B R H σ ρ α XQ N K hK hX hB S h k => ?_⟩
  obtain ⟨R1, S1, hR⟩ := S.frzs l
  have z0 : Fz F R H R1 H := ⟨hR, fun _ _ _ h _ => h, fun _ _ h => h⟩
  refine s F B R1 H σ (frz l ρ) α XQ _ _ hK hX hB S1 h fun vs us R2 H2 e2 o2 r2 ⟨h1, h2, q⟩ => ?_
  have hlen : vs.length = es.length := by rw [← r2.len]; exact h1
  refine ⟨by rw [hlen, sizeLine_eq]; omega, fun q' hq' => ?_⟩
  have e3 : Ext F R2 H2 R2 (upd H2 q' (.tup vs)) := .new0 hq'
  have o3 := o2.new0 hq' (o := .tup vs) .tup
  refine ⟨q', vs, rfl, SqT.of upd_same, hlen, ?_⟩
  have S2 := (S1.ext e2 o2).ext e3 o3
  refine setall_ok is us vs σ (frz l ρ) α (by rw [hl2, h1]) (r2.ext o2 e3) S2 (fun kk p' v' hp' hv' ho j d n hj ej => ?_) _ fun σ' α' S' => k.nx σ' _ _ R2 α' (z0.trans ((e2.trans e3).fz S1.hp)) S' q
  have h4 := r2.get hp' hv'
  cases p' with
  | va x => cases ho
  | ow d' n' =>
    obtain ⟨a2, ea, w2, z2⟩ := h4
    rw [ea] at ej
    cases ej
    obtain ⟨o, ho', nt⟩ := (S1.ow j d n hj).2.some
    exact z2 o ho' nt
end
end DL

set_option Elab.async false
set_option linter.all false
set_option maxRecDepth 100000
set_option maxHeartbeats 4000000
/-! DL, part ae: an own list is read, and stays own; x.index(y). -/
namespace DL
open PySem PySem.Spec PyProof.Rows L2

/-- the first place of a text -/
def idxS (x : Str) : List Str → Nat
  | [] => 0
  | y :: ys => if y = x then 0 else idxS x ys + 1
theorem idxS_lt {x : Str} : ∀ {ys : List Str}, x ∈ ys → idxS x ys < ys.length
  | y :: ys, h => by
    unfold idxS
    split
    · simp
    · rename_i hn
      rcases List.mem_cons.mp h with e | h
      · exact absurd e.symm hn
      · have := idxS_lt h
        simp only [List.length_cons]
        omega
theorem idxS_at {x : Str} : ∀ {ys : List Str}, x ∈ ys → ys[idxS x ys]? = some x ∧ ∀ m y, m < idxS x ys → ys[m]? = some y → y ≠ x
  | y :: ys, h => by
    unfold idxS
    split
    · rename_i e
      subst e
      exact ⟨rfl, fun m z hm => by omega⟩
    · rename_i hn
      rcases List.mem_cons.mp h with e | h
      · exact absurd e.symm hn
      · obtain ⟨h1, h2⟩ := idxS_at h
        refine ⟨by rw [List.getElem?_cons_succ]; exact h1, fun m z hm hz => ?_⟩
        cases m with
        | zero => simp at hz; rw [← hz]; exact hn
        | succ m => exact h2 m z (by omega) (by simpa using hz)
section
variable {X : Cx} {E : XK} {c ca cb cc : Nat} {a b d e : Expr} {es : List Expr} {fa fb fe fd : TD} {pos p apos : Pos} {x y z : Str}
/-- a comprehension within another one -/
def rl (scope osc : Scope) : Scope :=
  { scope with names := scope.names.map fun (n, k) => if (k == .free && osc.kind == .function && osc.names.lookup n == some .cell) then (n, .cell) else (n, k) }
theorem blkOk_in {N : List Str} {sco osc scope : Scope} {env : Env} {cl : List (Str × Addr)} {C : Addr} {own : List (Str × Nat)} (he : env.scope = osc) (h : blkC N (rl sco osc) scope own = true) : BlkOk N (compEnvC sco cl C env).scope scope own := by
  subst he
  exact blkOk_by h
/-- while, by an invariant that counts down -/
theorem whN_go {tc : TDt} {gb : TDS} {l : List Nat} {N : DEnds} {XQ : XQT} (Inv : Nat → Ro → Prop)
    (hs : ∀ k ρ, Inv k ρ → ∀ K : Ro → Prop, (∀ k' ρ', k = k' + 1 → Inv k' ρ' → K ρ') → tc (frz l ρ) XQ fun b => if b = true then gb { N with nx := K, ct := K, bk := N.nx } ρ XQ else N.nx ρ) : ∀ k ρ, Inv k ρ → whN tc gb l N XQ (k + 1) ρ
  | 0, ρ, h => hs 0 ρ h _ fun k' ρ' e _ => by omega
  | k + 1, ρ, h => hs (k + 1) ρ h _ fun k' ρ' e h' => by
    obtain rfl : k = k' := by omega
    exact whN_go Inv hs k ρ' h'
/-- a plainer reading -/
theorem de_imp {f g : TD} (h : DE X E c e f) (k : ∀ ρ XQ Q, g ρ XQ Q → f ρ XQ Q) : DE X E c e g := by
  obtain ⟨t, p, s⟩ := h
  exact ⟨t, p, fun F B R H σ ρ α XQ Q K hK hX hB S h => s F B R H σ ρ α XQ Q K hK hX hB S (k _ _ _ h)⟩
theorem ds_imp {f g : TDS} {st : Stmt} (h : DS X E c st f) (k : ∀ N ρ XQ, g N ρ XQ → f N ρ XQ) : DS X E c st g := by
  obtain ⟨t, p, s⟩ := h
  exact ⟨t, p, fun F B R H σ ρ α XQ N K hK hX hB S h => s F B R H σ ρ α XQ N K hK hX hB S (k _ _ _ h)⟩
theorem dt_imp {f g : TDt} (h : DT X E c e f) (k : ∀ ρ XQ Q, g ρ XQ Q → f ρ XQ Q) : DT X E c e g := by
  obtain ⟨t, p, s⟩ := h
  exact ⟨t, p, fun F B R H σ ρ α XQ Q K hK hX hB S h => s F B R H σ ρ α XQ Q K hK hX hB S (k _ _ _ h)⟩
/-- x[e], x an own list -/
theorem de_ixO {i : Nat} (va : PE X a (tVar i)) (hb : DE X E cb b fb) (hs : PlainIx b) : DE X E cb (.Subscript a b pos) (fun ρ XQ Q => ∃ ds n, ρ[i]? = some (.ow (.lst ds) n) ∧ fb ρ XQ fun y => ∃ j d, y.d = .int j ∧ atI ds j = some d ∧ Q ⟨d, n, none⟩) := by
  obtain ⟨tb, pb, sb⟩ := hb
  refine ⟨_, pe_ix ix_list va pb hs, fun F B R H σ ρ α XQ Q K hK hX hB S ⟨ds, n, hi, h⟩ k => ?_⟩
  obtain ⟨e1, w1⟩ := S.ow i _ _ hi
  refine ⟨_, e1, ?_⟩
  refine sb F B R H σ ρ α XQ _ _ hK hX hB S h fun u y R1 H1 e1' o1 r1 ⟨j, d, ey, hd, q⟩ => ?_
  obtain ⟨_, w2⟩ := (S.ext e1' o1).ow i _ _ hi
  obtain ⟨vs, hv, lv⟩ := w2.at_
  obtain ⟨v, hv2, r⟩ := atI_rp lv hd
  have r2 := r1.1
  rw [ey] at r2
  cases r2
  exact ⟨_, vs, j, v, rfl, rfl, .of hv, hv2, k _ _ R1 H1 e1' o1 (.of r) q⟩
/-- e in x, x an own list of scalars -/
theorem dt_inO {i : Nat} (ha : DE X E ca a fa) (vb : PE X b (tVar i)) (hm : behindInMarks .In b = false) : DT X E ca (.Compare a [.In] [b] pos) (fun ρ XQ Q => fa ρ XQ fun x => ∃ ds n, ρ[i]? = some (.ow (.lst ds) n) ∧ x.d.sca = true ∧ D.scaL ds = true ∧ Q (D.isIn x.d ds)) := by
  obtain ⟨ta, pa, sa⟩ := ha
  refine ⟨_, pt_cmpR op_in_seq pa vb hm, fun F B R H σ ρ α XQ Q K hK hX hB S h k => ?_⟩
  refine sa F B R H σ ρ α XQ _ _ hK hX hB S h fun v x R1 H1 e1 o1 r1 ⟨ds, n, hi, sx, sl, q⟩ => ?_
  obtain ⟨e2, w2⟩ := (S.ext e1 o1).ow i _ _ hi
  obtain ⟨vs, hv, lv⟩ := w2.at_
  refine ⟨_, e2, _, vs, rfl, .inl (.of hv), sca_flat r1.1 sx, scaL_flat lv sl, ?_⟩
  rw [isIn_eq r1.1 sx lv sl]
  exact ⟨_, rfl, k _ R1 H1 e1 o1 q⟩
theorem dt_notInO {i : Nat} (ha : DE X E ca a fa) (vb : PE X b (tVar i)) (hm : behindInMarks .NotIn b = false) : DT X E ca (.Compare a [.NotIn] [b] pos) (fun ρ XQ Q => fa ρ XQ fun x => ∃ ds n, ρ[i]? = some (.ow (.lst ds) n) ∧ x.d.sca = true ∧ D.scaL ds = true ∧ Q (!D.isIn x.d ds)) := by
  obtain ⟨ta, pa, sa⟩ := ha
  refine ⟨_, pt_cmpR op_notIn_seq pa vb hm, fun F B R H σ ρ α XQ Q K hK hX hB S h k => ?_⟩
  refine sa F B R H σ ρ α XQ _ _ hK hX hB S h fun v x R1 H1 e1 o1 r1 ⟨ds, n, hi, sx, sl, q⟩ => ?_
  obtain ⟨e2, w2⟩ := (S.ext e1 o1).ow i _ _ hi
  obtain ⟨vs, hv, lv⟩ := w2.at_
  refine ⟨_, e2, _, vs, rfl, .inl (.of hv), sca_flat r1.1 sx, scaL_flat lv sl, ?_⟩
  rw [isIn_eq r1.1 sx lv sl]
  exact ⟨_, rfl, k _ R1 H1 e1 o1 q⟩
theorem isIn_str {x : Str} : ∀ {ys : List Str}, D.isIn (.str x) (ys.map D.str) = decide (x ∈ ys)
  | [] => rfl
  | y :: ys => by
    show (D.eqv (.str y) (.str x) || D.isIn (.str x) (ys.map D.str)) = _
    rw [isIn_str]
    simp only [List.mem_cons, Bool.decide_or]
    by_cases h : y = x
    · simp [D.eqv, h]
    · have h2 : ¬ x = y := fun z => h z.symm
      simp [D.eqv, h, h2]
theorem scaL_str : ∀ {ys : List Str}, D.scaL (ys.map D.str) = true
  | [] => rfl
  | y :: ys => by rw [List.map_cons, D.scaL, scaL_str]; rfl
/-- x.index(e), x a list of texts -/
theorem de_index (pe : ∀ ta tb, PE X a ta → PE X e tb → PE X (.Call (.Attribute a "index" apos) [e] [] pos) (tBM X.K "list" (rIndex X.K) ta (tCons tb tNil))) (ha : DE X E ca a fa) (he : DE X E cb e fe) :
    DE X E (ca + cb) (.Call (.Attribute a "index" apos) [e] [] pos) (fun ρ XQ Q => fa ρ XQ fun x => (∃ ys : List Str, x.d = .lst (ys.map D.str)) ∧ fe ρ XQ fun y => ∃ (ys : List Str) (z : Str), x.d = .lst (ys.map D.str) ∧ y.d = .str z ∧ z ∈ ys ∧ Q ⟨.int (idxS z ys : Nat), true, none⟩) := by
  obtain ⟨ta, pa, sa⟩ := ha
  obtain ⟨tb, pb, sb⟩ := he
  refine ⟨_, pe _ _ pa pb, fun F B R H σ ρ α XQ Q K hK hX hB S h k => ?_⟩
  refine sa F B R H σ ρ α XQ _ _ hK hX (by omega) S h fun v x R1 H1 e1 o1 r1 ⟨⟨ys0, ex0⟩, q1⟩ => ?_
  obtain ⟨a0, vs0, rfl, ha0, la0⟩ := r1.lstL ex0
  refine ⟨.inl ⟨rfl, _, SqL.of ha0⟩, ?_⟩
  refine sb F (B + ca) R1 H1 σ ρ α XQ _ _ hK hX (by omega) (S.ext e1 o1) q1 fun u y R2 H2 e2 o2 r2 ⟨ys, z, ex, ey, hz, q2⟩ => ?_
  obtain ⟨a1, vs, ea, ha1, la1⟩ := (r1.ext o1 e2).lstL ex
  cases ea
  have ev := rpl_strsI la1
  subst ev
  have r3 := r2.1
  rw [ey] at r3
  cases r3
  obtain ⟨h1, h2⟩ := idxS_at hz
  refine ⟨a0, _, _, idxS z ys, .str z, rfl, rfl, SqL.of ha1, rfl, (List.all_eq_true.mpr fun v hv => by obtain ⟨s, _, rfl⟩ := List.mem_map.mp hv; rfl), by rw [List.getElem?_map, h1]; rfl, by simp [eqV], fun m z' hm hz' => ?_, k _ ⟨.int _, true, none⟩ R2 H2 (e1.trans e2) (by rw [← Nat.add_assoc]; exact o2) (.of (.int _)) q2⟩
  rw [List.getElem?_map] at hz'
  cases e : ys[m]? with
  | none => rw [e] at hz'; cases hz'
  | some w =>
    rw [e] at hz'
    cases hz'
    simpa [eqV] using h2 m w hm e
end
end DL

set_option Elab.async false
set_option linter.all false
set_option maxRecDepth 100000
set_option maxHeartbeats 4000000
/-! DL, part af: what can be sorted; sorted lists of the same items. -/
namespace DL
open PySem PySem.Spec PyProof.Rows L2

abbrev tokD (d : D) : List (Int ⊕ List Nat) := PySem.W.keyToks d.pyd
theorem leD_ok : PySem.W.TotalLe leD := PySem.W.sortLe_total _ _ _
theorem leD_anti {a b : D} (h : leD a b = true) (k : leD b a = true) : tokD a = tokD b := by
  have h' : (!PyProof.Rows.lexLt PyProof.Rows.itemOrd (tokD b) (tokD a)) = true := h
  have k' : (!PyProof.Rows.lexLt PyProof.Rows.itemOrd (tokD a) (tokD b)) = true := k
  rw [Bool.not_eq_true'] at h' k'
  exact PyProof.Rows.lex_total _ _ k' h'
theorem srtD_sorted (xs : List D) : (srtD xs).Pairwise fun a b => leD a b = true := List.pairwise_mergeSort (fun a b c => leD_ok.trans a b c) (fun a b => by
  rcases leD_ok.total a b with h | h <;> simp [h]) xs
theorem srtD_perm (xs : List D) : (srtD xs).Perm xs := List.mergeSort_perm xs leD
theorem srtD_of {xs : List D} (h : xs.Pairwise fun a b => leD a b = true) : srtD xs = xs := List.mergeSort_of_pairwise h
theorem srt_eq {xs ys : List D} (p : xs.Perm ys) (inj : ∀ a ∈ xs, ∀ b ∈ xs, tokD a = tokD b → a = b) : srtD xs = srtD ys :=
  List.Perm.eq_of_pairwise (le := fun a b => leD a b = true) (fun a b ha hb h k => inj a ((srtD_perm xs).mem_iff.mp ha) b (p.mem_iff.mpr ((srtD_perm ys).mem_iff.mp hb)) (leD_anti h k)) (srtD_sorted xs) (srtD_sorted ys) (((srtD_perm xs).trans p).trans (srtD_perm ys).symm)
section
variable {α : Type}
def trD (r : Str × Int × Int) : D := .tup [.str r.1, .int r.2.1, .int r.2.2]
def prD (r : Int × Int) : D := .tup [.int r.1, .int r.2]
theorem log_ok {i : Int} (h : i.natAbs ≤ 10 ^ 30) : i.natAbs.log2 < 1920 := (Nic.int h).all.2.2.1 |> fun z => by simpa [D.shw] using z
theorem canSort_tr {l : List (Str × Int × Int)} (h : ∀ r ∈ l, PyData.strOk r.1 = true ∧ r.2.1.natAbs ≤ 10 ^ 30 ∧ r.2.2.natAbs ≤ 10 ^ 30) : CanSort (l.map trD) := by
  refine ⟨shwL_of fun d hd => ?_, fun d hd d' hd' => ?_, .inl fun d hd => ?_, fun d hd => ?_⟩
  · obtain ⟨r, hr, rfl⟩ := List.mem_map.mp hd
    obtain ⟨h1, h2, h3⟩ := h r hr
    simp only [trD, D.shw, D.shwL, h1, decide_eq_true (log_ok h2), decide_eq_true (log_ok h3)]
    rfl
  · rw [List.map_map] at hd hd'
    obtain ⟨r, _, rfl⟩ := List.mem_map.mp hd
    obtain ⟨r', _, rfl⟩ := List.mem_map.mp hd'
    rfl
  · rw [List.map_map] at hd
    obtain ⟨r, _, rfl⟩ := List.mem_map.mp hd
    exact ⟨_, _, rfl⟩
  · obtain ⟨r, _, rfl⟩ := List.mem_map.mp hd
    exact Nat.le_trans (show _ ≤ 2 by simp [trD, D.dep, D.depL]) (by decide)
theorem canSort_pr {l : List (Int × Int)} (h : ∀ r ∈ l, r.1.natAbs ≤ 10 ^ 30 ∧ r.2.natAbs ≤ 10 ^ 30) : CanSort (l.map prD) := by
  refine ⟨shwL_of fun d hd => ?_, fun d hd d' hd' => ?_, .inl fun d hd => ?_, fun d hd => ?_⟩
  · obtain ⟨r, hr, rfl⟩ := List.mem_map.mp hd
    obtain ⟨h2, h3⟩ := h r hr
    simp only [prD, D.shw, D.shwL, decide_eq_true (log_ok h2), decide_eq_true (log_ok h3)]
    rfl
  · rw [List.map_map] at hd hd'
    obtain ⟨r, _, rfl⟩ := List.mem_map.mp hd
    obtain ⟨r', _, rfl⟩ := List.mem_map.mp hd'
    rfl
  · rw [List.map_map] at hd
    obtain ⟨r, _, rfl⟩ := List.mem_map.mp hd
    exact ⟨_, _, rfl⟩
  · obtain ⟨r, _, rfl⟩ := List.mem_map.mp hd
    exact Nat.le_trans (show _ ≤ 2 by simp [prD, D.dep, D.depL]) (by decide)
theorem canSort_st {l : List Str} (h : ∀ x ∈ l, PyData.strOk x = true) : CanSort (l.map D.str) := by
  refine ⟨shwL_of fun d hd => ?_, fun d hd d' hd' => ?_, .inr fun d hd => ?_, fun d hd => ?_⟩
  · obtain ⟨r, hr, rfl⟩ := List.mem_map.mp hd
    exact h r hr
  · rw [List.map_map] at hd hd'
    obtain ⟨r, _, rfl⟩ := List.mem_map.mp hd
    obtain ⟨r', _, rfl⟩ := List.mem_map.mp hd'
    rfl
  · rw [List.map_map] at hd
    obtain ⟨r, _, rfl⟩ := List.mem_map.mp hd
    exact ⟨fun e => (nomatch e), fun xs e => (nomatch e)⟩
  · obtain ⟨r, _, rfl⟩ := List.mem_map.mp hd
    exact Nat.zero_le _
theorem str_ext {x y : Str} (h : x.cps.toList = y.cps.toList) : x = y := by
  obtain ⟨⟨a⟩⟩ := x
  obtain ⟨⟨b⟩⟩ := y
  have h : a = b := h
  rw [h]
theorem tr_inj {r s : Str × Int × Int} (h : tokD (trD r) = tokD (trD s)) : r = s := by
  obtain ⟨x, i, j⟩ := r
  obtain ⟨y, k, l⟩ := s
  simp [tokD, trD, D.pyd, D.pydL, PySem.W.keyToks, PySem.W.keyToksAll] at h
  obtain ⟨h1, h2, h3⟩ := h
  subst h2 h3
  rw [str_ext (x := x) (y := y) (by simpa using h1)]
/-- sorted rows -/
def sortT (l : List (Str × Int × Int)) : List (Str × Int × Int) := l.mergeSort fun a b => leD (trD a) (trD b)
theorem sortT_eq (l : List (Str × Int × Int)) : srtD (l.map trD) = (sortT l).map trD := (List.map_mergeSort (f := trD) (r := fun a b => leD (trD a) (trD b)) (s := leD) fun a _ b _ => rfl).symm
theorem sortT_perm (l : List (Str × Int × Int)) : (sortT l).Perm l := List.mergeSort_perm _ _
theorem sortT_pw (l : List (Str × Int × Int)) : (sortT l).Pairwise fun a b => leD (trD a) (trD b) = true := List.pairwise_mergeSort (fun a b c => leD_ok.trans (trD a) (trD b) (trD c)) (fun a b => by
  rcases leD_ok.total (trD a) (trD b) with h | h <;> simp [h]) l
/-- in order -/
def InOrd (l : List (Str × Int × Int)) : Prop := sortT l = l
theorem sortT_ord (l : List (Str × Int × Int)) : InOrd (sortT l) := List.mergeSort_of_pairwise (sortT_pw l)
theorem sortT_of_perm {l m : List (Str × Int × Int)} (p : l.Perm m) (h : InOrd m) : sortT l = m := by
  have h1 : sortT l = sortT m := List.Perm.eq_of_pairwise (le := fun a b => leD (trD a) (trD b) = true) (fun a b ha hb h k => tr_inj (leD_anti h k))
    (sortT_pw l) (sortT_pw m) (((sortT_perm l).trans p).trans (sortT_perm m).symm)
  rw [h1]
  exact h
end
end DL

set_option Elab.async false
set_option linter.all false
set_option maxRecDepth 100000
set_option maxHeartbeats 4000000
/-! DL, part ag: list(range(n)). -/
namespace DL
open PySem PySem.Spec PyProof.Rows L2

theorem rpl_rg {F : Fx} {H : Hp} {R : Reg} {n : Bool} {f : Nat → Int} : ∀ ks : List Nat, RpL F H R n (ks.map fun k => V.int (f k)) (ks.map fun k => D.int (f k))
  | [] => .nil
  | k :: ks => .cons (.int _) (rpl_rg ks)
section
variable {X : Cx} {E : XK} {c : Nat} {a : Expr} {fa : TD} {pos p p2 p3 : Pos}
theorem de_listRg (hc : X.calm = true) (hg : Gl X "list") (hm : X.mg "list" = none) (hg2 : Gl X "range") (hm2 : X.mg "range" = none) (ha : DE X E c a fa) (na : starEach [a] X.env = (false, eval a X.env) :: starEach [] X.env := by rfl)
    (na2 : starEach [.Call (.Name "range" p2) [a] [] p3] X.env = (false, eval (.Call (.Name "range" p2) [a] [] p3) X.env) :: starEach [] X.env := by rfl) :
    DE X E c (.Call (.Name "list" p) [.Call (.Name "range" p2) [a] [] p3] [] pos) (fun ρ XQ Q => fa ρ XQ fun x => ∃ n : Nat, x.d = .int (n : Nat) ∧ n ≤ BIG ∧ Q ⟨.lst ((List.range n).map fun k => .int (k : Nat)), true, none⟩) := by
  obtain ⟨t, pt, s⟩ := ha
  refine ⟨_, pe_listRg hc hg hm (prg_1 hg2 hm2 pt na) na2, fun F B R H σ ρ α XQ Q K hK hX hB S h k => ?_⟩
  refine s F B R H σ ρ α XQ _ _ hK hX hB S h fun v x R1 H1 e1 o1 r1 ⟨n, ex, hn, q⟩ => ?_
  have r2 := r1.1
  rw [ex] at r2
  cases r2
  have hB : n ≤ 16777216 := hn
  refine ⟨_, rfl, RgOk.of_le (by omega) (by omega) (by omega) (by omega), fun q' hq' => ?_⟩
  have er : rgV 0 (n : Int) = (List.range n).map fun k => V.int ((fun k : Nat => (k : Int)) k) := by
    unfold rgV
    rw [show ((n : Int) - 0).toNat = n by omega]
    refine List.map_congr_left fun k _ => ?_
    rw [Int.zero_add]
  rw [er]
  obtain ⟨e2, o2, r3⟩ := new_lst o1 hq' (rpl_rg (F := F) (H := H1) (R := R1) (n := true) (f := fun k : Nat => (k : Int)) (List.range n))
  exact k _ ⟨_, true, none⟩ _ _ (e1.trans e2) o2 (.of r3) q
end
end DL

set_option Elab.async false
set_option linter.all false
set_option maxRecDepth 100000
set_option maxHeartbeats 4000000
namespace DL
open PySem PySem.Spec PyProof.Rows L2
set_option maxHeartbeats 1000000 in
theorem meets_enum1 {v : Value} {o : Obj} {H : Heap → Prop} (B : Begins v o H) :
    Meets (Builtin.«enumerate.__new__» ⟨[.type "enumerate", v], []⟩) (fun _ R s => H s.heap ∧
      R (.ok (.ret (.ref (s.heap.push o).objs.size))) { s with heap := (s.heap.push o).push { cls := .type "enumerate", data := .fields #[.none, .bool false, .ref s.heap.objs.size, rawInt 0, .none, .none] } }) :=
  .of_wp fun prog w A R s h => by
    obtain ⟨hp, g, d, tk, os⟩ := s; obtain ⟨h1, h⟩ := h
    have hsub := sub_enumerate
    have q1 : ∀ {A' : Around} {E : Value → Shared → Prop} {Q : Value → Shared → Prop}, Q (.ref hp.objs.size) ⟨hp.push o, g, d, tk, os⟩ → wpAny (model prog w) A' (pyIter v) Q E ⟨hp, g, d, tk, os⟩ :=
      fun q => B.iter prog w _ _ ⟨hp, g, d, tk, os⟩ _ h1 q
    wp_walk using q1
    refine wpAny_stack_any fun st => wpAny_pure ?_
    split
    · rename_i c _ _ _ _ _
      cases (c == Value.type "enumerate")
      · wp_walk using q1
        exact ⟨_, rfl, h⟩
      · wp_walk using q1
        exact ⟨_, rfl, h⟩
    · wp_walk using q1
      exact ⟨_, rfl, h⟩
section
variable {prog : Program} {w : World} {A : Around} {E : Value → Shared → Prop} {s : Shared}
theorem call_enum1 {v : Value} {o : Obj} {H : Heap → Prop} {Q : Value → Shared → Prop} (B : Begins v o H) (h1 : H s.heap)
    (h : ∀ h', IsEnum h' (s.heap.objs.size + 1) s.heap.objs.size 0 .none → h'.get? s.heap.objs.size = some o → h'.objs.size = s.heap.objs.size + 2 →
      (∀ b o, s.heap.get? b = some o → h'.get? b = some o) → Q (.ref (s.heap.objs.size + 1)) { s with heap := h' }) :
    wpAny (model prog w) A (call (.type "enumerate") [v]) Q E s := by
  refine callType_new F.called_enumerate (by decide) (F.typeCall_enumerate_1 _) (F.newCall_enumerate_1 _) (fun obj => F.args_object_init_2 obj _) F.entry_enumerate_new
    (meets_enum1 B) ⟨h1, ?_⟩
  have hz : (s.heap.push o).objs.size = s.heap.objs.size + 1 := Heap.size_push ..
  show _ ∧ _
  rw [hz]
  have he : IsEnum ((s.heap.push o).push { cls := .type "enumerate", data := .fields #[.none, .bool false, .ref s.heap.objs.size, rawInt 0, .none, .none] }) (s.heap.objs.size + 1) s.heap.objs.size 0 .none := by
    have := Heap.get?_push_size (s.heap.push o) (o := { cls := .type "enumerate", data := .fields #[.none, .bool false, .ref s.heap.objs.size, rawInt 0, .none, .none] }) rfl
    rw [hz] at this; exact this
  refine ⟨⟨_, he, rfl⟩, h _ he (Heap.get?_push_of_some _ (Heap.get?_push_size _ B.free)) (by rw [Heap.size_push, hz]) fun b o x => Heap.get?_push_of_some _ (Heap.get?_push_of_some _ x)⟩
theorem enum_endT {e it l : Addr} {i : Nat} {items : Array Value} {old : Value} {Q : Option Value → Shared → Prop} (hh : A.handled = none)
    (he : IsEnum s.heap e it i old) (hit : s.heap.IsTupleIter it l i) (hl : s.heap.IsTuple l items) (hx : items[i]? = none)
    (hQ : ∀ h', Heap.ExtBut it s.heap h' → Q none { s with heap := h' }) : wpAny (model prog w) A (pyNext (.ref e)) Q E s := by
  have hT : s.TypeIs (.ref e) "enumerate" := ⟨_, he, rfl⟩
  unfold pyNext
  refine wpAny_bind (wpAny_attempt (wpAny_callSpecial?_slot (name := Str.ofString "__next__") hT F.slot_enumerate_next
    (wpAny_call_entry F.slot_enumerate_next hT F.entry_enumerate_next ?_ (F.args_enumerate_next_1 _))))
  show wpAny _ _ (field (.ref e) 2 >>= _) _ _ _
  refine wpAny_bind (wpAny_field he rfl (x := .ref it) rfl ?_)
  refine wpAny_bind (RZ.nextOf_tuple_end hh hit hl hx fun h' x he' hx' => ?_)
  obtain ⟨o, ho, hc⟩ := hx'
  refine wpAny_bind (wpAny_isInstance (T := "StopIteration") (b := true) ⟨o, ho, hc⟩ isSubtype_stop ?_)
  exact wpAny_pure (hQ _ he')
end
/-- the tuple at a, each item in a new pair -/
def IteT (K : PySem.W.Frag) (a : Addr) : It :=
  ⟨fun i H => ∃ (xs : List V) (x : V), SqT K H a xs ∧ xs[i]? = some x, fun i H v H' => ∃ T x, v = .ref T ∧ H T = none ∧ H' = upd H T (.tup [.int (i : Nat), x]) ∧ ∀ xs, SqT K H a xs → xs[i]? = some x, fun i H => ∃ xs : List V, SqT K H a xs ∧ xs.length ≤ i⟩
theorem turn_enumT {P : Program} {w : World} {K : PySem.W.Frag} {elts : List Expr} {kk : Nat} {tpos : Pos} (a e it : Addr) :
    Turn P w K (.Tuple elts kk tpos) (IteT K a) [e, it] e (fun i h => (∃ old, IsEnum h e it ((i : Nat) : Int) old) ∧ h.IsTupleIter it a i ∧ e ≠ it) where
  mem := by simp
  obj := fun i h st b hb => by
    obtain ⟨⟨old, he⟩, ⟨o, ho, hc, hd⟩, _⟩ := st
    have e' : b = e ∨ b = it := by simpa using hb
    rcases e' with z | z
    · rw [z]; exact ⟨_, he, fun v q => nomatch q⟩
    · rw [z]; exact ⟨o, ho, fun v q => by rw [hd] at q; cases q⟩
  keep := fun i h h' st k => let ⟨⟨old, he⟩, hi, hne⟩ := st; ⟨⟨old, k e (by simp) _ he⟩, hi.at fun o q => k it (by simp) o q, hne⟩
  item := by
    intro X hP hw hK hc i pins s σ H E I hf st hg
    subst hP hw hK
    obtain ⟨⟨old, he⟩, hit, hne⟩ := st
    obtain ⟨xs, x, hq, hx⟩ := hg
    obtain ⟨its, rv, p, hz⟩ := I.tuple hq
    obtain ⟨u, hu, ru⟩ := rv.get hx
    have hil0 : i < its.length := (List.getElem?_eq_some_iff.mp hu).1
    have hel : e < s.heap.objs.size := Heap.lt_size he
    have hil : it < s.heap.objs.size := by obtain ⟨_, q, _⟩ := hit; exact Heap.lt_size q
    have pt : s.heap.IsTuple a its.toArray := p
    have nea : a ≠ it := fun z => by
      obtain ⟨o1, q1, c1, _⟩ := pt
      obtain ⟨o2, q2, c2, _⟩ := hit
      rw [z, q2] at q1
      cases q1
      rw [c1] at c2
      injection c2 with c3
      exact absurd c3 (by decide)
    have nee : e ≠ a := fun z => by
      obtain ⟨o1, q1, c1, _⟩ := pt
      rw [← z, show s.heap.get? e = _ from he] at q1
      cases q1
      injection c1 with c3
      exact absurd c3 (by decide)
    refine wpAny_pyNext_enum_itemD (Draws.tuple (A := X.A.in1) (I.ok.hd hc) it a nea its.toArray) he ⟨hit, pt⟩ (by simpa using hil0) hne (by simp [hne, nee]) fun y h' tk hy ho hit' hT hsz hk => ?_
    have ey : y = u := by
      have : its[i]? = some y := by simpa using hy
      rw [hu] at this
      exact (Option.some.inj this).symm
    subst ey
    refine ⟨_, rfl, wpAny_letOwnedTupleGo_enum (s := { s with heap := h', toks := tk + 1 }) ho fun h'' he' sb => ?_⟩
    have hT2 : h''.get? s.heap.objs.size = some { cls := .type "tuple", data := .seq #[.int i tk, y] } := (sb.2 _ (Nat.ne_of_gt hel)).trans hT
    have new : ObjOk X.prog X.w (upd H s.heap.objs.size (.tup [.int (i : Nat), x])) h'' s.heap.objs.size (.tup [.int (i : Nat), x]) :=
      ⟨by show 2 ≤ sizeLine; decide, [.int i tk, y], .cons ⟨_, rfl⟩ (.cons ru .nil), ⟨_, hT2, rfl, _, rfl⟩⟩
    have I1 : Inv X pins σ (upd H s.heap.objs.size (.tup [.int (i : Nat), x])) { s with heap := h'', toks := tk + 1 } :=
      I.turnedNew (ch := [e, it]) (fun b ob hb q => (sb.2 b (fun z => hb (by simp [z]))).trans (hk b ob (fun z => hb (by simp [z])) (fun z => hb (by simp [z])) q)) hf (Nat.le_refl _) new
    refine ⟨.ref s.heap.objs.size, _, I1, rfl, ⟨_, x, rfl, I.hok.fresh (Nat.le_refl _), rfl, fun ys hy => by rw [I.tuple_inj hy hq]; exact hx⟩, ⟨⟨y, ?_⟩, hit'.1.at fun o q => (sb.2 it (Ne.symm hne)).trans q, hne⟩, fun b hb => ?_⟩
    · have e1 : ((i + 1 : Nat) : Int) = (i : Int) + 1 := by omega
      rw [e1]; exact he'
    · have hb' : b < s.heap.objs.size := by
        have e' : b = e ∨ b = it := by simpa using hb
        rcases e' with z | z
        · rw [z]; exact hel
        · rw [z]; exact hil
      rw [upd_ne (Nat.ne_of_lt hb')]
      exact (hf b hb).1
  done := by
    intro X hP hw hK hc i pins s σ H E I hf st hg
    subst hP hw hK
    obtain ⟨⟨old, he⟩, hit, hne⟩ := st
    obtain ⟨xs, hq, hx⟩ := hg
    obtain ⟨its, rv, p, hz⟩ := I.tuple hq
    obtain ⟨f0, f1, f2, f3, f4, f5⟩ := hf it (by simp)
    have hl := rv.length
    exact enum_endT (I.ok.hd hc) he hit p (by simp; omega) fun h' eb => ⟨rfl, I.turned (t' := s.toks) (fun b o hb q => eb b o hb q) f0 f1 f3 f4 f5⟩
  self := fun A i s Q E st h => let ⟨⟨_, he⟩, _⟩ := st; wpAny_pyIter_enum he h
def iEnumT (K : PySem.W.Frag) (ta : TA) : TI := fun σ H R => ta σ H fun vs H1 => ∃ a xs, vs = [.ref a] ∧ SqT K H1 a xs ∧ R (IteT K a) H1
theorem pi_enumT {X : Cx} {e : Expr} {ta : TA} {p pos tpos : Pos} {elts : List Expr} {kk : Nat} (hg : Gl X "enumerate") (hm : X.mg "enumerate" = none) (ha : PA X [e] ta) (hs : starEach [e] X.env = [(false, eval e X.env)] := by rfl) :
    PI X (.Tuple elts kk tpos) (.Call (.Name "enumerate" p) [e] [] pos) (iEnumT X.K ta) := by
  refine ⟨fun pins s σ H R I h => ?_⟩
  refine Call_ (ld_blt I hg hm boot_enumerate (PyProof.Rows.callWith_type1 (thn (ha.run pos pins s σ H _ I h) fun us s1 ⟨vs, H1, I1, r1, q1⟩ => ?_) hs rfl))
  obtain ⟨a, xs, ex, hq, q⟩ := q1
  subst ex
  cases r1 with
  | cons r rr =>
    cases rr
    cases r
    obtain ⟨its, rv, p', hz⟩ := I1.tuple hq
    refine call_enum1 (PySem.begins_tuple a its.toArray) p' fun h' he hit hsz hk => wpAny_pyIter_enum he ?_
    have I2 : Inv X pins σ H1 { s1 with heap := h' } := I1.kept (t' := s1.toks) hk
    refine ⟨s1.heap.objs.size + 1, [s1.heap.objs.size + 1, s1.heap.objs.size], _, _, H1, rfl, I2, turn_enumT a (s1.heap.objs.size + 1) s1.heap.objs.size, ⟨⟨.none, he⟩, ⟨_, hit, rfl, rfl⟩, Nat.succ_ne_self _⟩, fun b hb => ?_, q⟩
    have e' : b = s1.heap.objs.size + 1 ∨ b = s1.heap.objs.size := by simpa using hb
    have hle : s1.heap.objs.size ≤ b := by
      rcases e' with z | z
      · rw [z]; exact Nat.le_add_right _ _
      · rw [z]; exact Nat.le_refl _
    exact I1.fpOk hle (I1.hok.fresh hle)
theorem walks_enumT {F : Fx} {R : Reg} {H : Hp} {a : Addr} {n : Bool} {vs : List V} {ds : List D} (ha : SqT F.K H a vs) (la : RpL F H R n vs ds) : Walks F R H (IteT F.K a) (enumD n 0 ds) := fun i B R' H' z o => by
  have ha' := z.tup a vs ha
  have la' := la.fz z
  refine ⟨fun hl => ⟨vs, ha', ?_⟩, fun x hx => ?_⟩
  · rw [enumD_len] at hl
    rw [la.len]
    omega
  · obtain ⟨d, h1, rfl⟩ := enumD_get hx
    obtain ⟨v, hv, r⟩ := la'.get h1
    refine ⟨⟨vs, v, ha', hv⟩, fun w H'' ⟨T, x, e1, hT, e2, h3⟩ => ?_⟩
    subst e1 e2
    rw [h3 vs ha'] at hv
    cases hv
    rw [Nat.zero_add]
    obtain ⟨q1, q2, q3⟩ := new_tup (n := n) (vs := [.int (i : Nat), v]) (ds := [.int (i : Nat), d]) o hT (.cons (.int _) (.cons r .nil))
    exact ⟨R', q1, q2, .of q3⟩
section
variable {X : Cx} {E : XK} {c : Nat} {a : Expr} {fs : TDs} {pos p : Pos}
/-- enumerate(a tuple) -/
theorem di_enumT {elts : List Expr} {kk : Nat} {tpos : Pos} (hg : Gl X "enumerate") (hm : X.mg "enumerate" = none) (ha : DA X E c [a] fs) (hs : starEach [a] X.env = [(false, eval a X.env)] := by rfl) :
    DI X E c (.Tuple elts kk tpos) (.Call (.Name "enumerate" p) [a] [] pos) (fun ρ XQ Q => fs ρ XQ fun xs => match xs with | [x] => (match x.d with | .tup ds => Q (enumD x.fr 0 ds) | _ => False) | _ => False) := by
  obtain ⟨t, pt, s⟩ := ha
  refine ⟨_, pi_enumT hg hm pt hs, fun F B R H σ ρ α XQ Q K hK hX hB S h k => ?_⟩
  refine s F B R H σ ρ α XQ _ _ hK hX hB S h fun vs xs R' H' e' o' r' q' => ?_
  match xs, vs, r', q' with
  | [⟨d, n, vo⟩], [v], .cons r1 .nil, q' =>
    cases d <;> try exact q'.elim
    case tup ds =>
      obtain ⟨a, vs, rfl, ha, la⟩ := r1.tupL rfl
      exact ⟨a, vs, rfl, hK ▸ ha, k _ _ R' H' e' o' q' (hK ▸ walks_enumT ha la)⟩
end
end DL

set_option Elab.async false
set_option linter.all false
set_option maxRecDepth 100000
set_option maxHeartbeats 4000000
/-! DL, part ai: methods as values; own objects under construction. -/
namespace DL
open PySem PySem.Spec PyProof.Rows L2

section
variable {X : Cx} {pos p apos : Pos} {e : Expr} {es : List Expr} {te : TE} {t : TA} {m x : Str} {g : Addr} {E : XK} {CX : CXT} {k i : Nat} {sp : Sp} {fd : FuncData} {ps : List Str}
def tBnd (K : PySem.W.Frag) (m : Str) (g : Addr) (te : TE) : TE := fun σ H Q => te σ H fun x H1 => ∃ a C dx fs, x = .ref a ∧ H1 a = some (.ins C dx fs) ∧ Cls K C ∧ BMeth K C m g ∧ fs.lookup m = none ∧ ∀ q, H1 q = none → Q (.ref q) (upd H1 q (.met g a))
theorem pe_bnd (he : PE X e te) (hb : attributeBase e m X.env (eval e X.env) = eval e X.env) : PE X (.Attribute e m pos) (tBnd X.K m g te) := by
  refine ⟨fun pins s σ H Q I h => ?_⟩
  refine attr_of hb (thn (he.run pins s σ H _ I h) fun u s1 ⟨x, H1, I1, rx, a, C, dx, fs, ex, ea, c, k, l, q⟩ => ?_)
  subst ex
  exact op_getbound I1 ea c k l rx q
def tCallM (i : Nat) (g : Addr) (sp : Sp) (E : XK) (t : TA) : TE := fun σ H Q => ∃ q a, σ[i]? = some (some (.ref q)) ∧ t σ H fun vs H1 => H1 q = some (.met g a) ∧ sp (.ref a :: vs) H1 Q E
theorem pe_callM (F : FnOk X.prog X.w X.K X.mg X.base CX k g fd ps sp) (hr : Room k X.A) (hf : PySem.W.fnIn X.K g = true) (hb : Binds X.K fd ps []) (hx : Passes CX X E) (hN : X.N[i]? = some x) (hv : Vis X.env.scope x) (ha : PA X (e :: es) t)
    (hd : (x == ("__debug__" : Str)) = false := by decide) (hcd : (x == ("__classdict__" : Str)) = false := by decide)
    (he : starEach (e :: es) X.env = (false, eval e X.env) :: starEach es X.env := by rfl) (hpl : (backTo pos (starEach es X.env)).any (·.1) = false := by rfl) :
    PE X (.Call (.Name x p) (e :: es) [] pos) (tCallM i g sp E t) := by
  refine ⟨fun pins s σ H Q I ⟨q, a, hs, ht⟩ => ?_⟩
  refine wpAny_Call_Name_kw (thn ((pe_var (pos := p) hN hv hd hcd).run pins s σ H (fun v H1 => v = .ref q ∧ H1 = H) I ⟨.ref q, hs, rfl, rfl⟩) fun u s1 ⟨v, H1, I1, r1, q1⟩ => ?_)
  obtain ⟨rfl, rfl⟩ := q1
  cases r1
  have h2 : wpAny (model X.prog X.w) X.A (spliced (backTo pos (starEach (e :: es) X.env))) (fun us s₁ => PySem.W.MethP X.K q g (.ref a) s₁.heap ∧ wpAny (model X.prog X.w) X.A (call (.ref q) ([] ++ us)) (EP X pins σ Q) X.xe s₁) X.xe s1 :=
    thn (ha.run pos pins s1 σ _ _ I1 ht) fun us s2 ⟨vs, H2, I2, r, hm, hsp⟩ => ⟨met_P I2 hm, by
      rw [List.nil_append]
      exact wpAny_call (PySem.W.method_call (met_P I2 hm).1 (run_fnR (us := Value.ref a :: us) (vs := V.ref a :: vs) (FnR.imp (F.raw hb .nil) fun vs H Q E h => by rw [List.append_nil]; exact h) hr hx I2 (.cons rfl r) hsp))⟩
  rw [he] at h2 ⊢
  exact PySem.W.callWith_of (by show ((false || (backTo pos (starEach es X.env)).any (·.1)) || false) = false; rw [hpl]; rfl) (PySem.W.keeps_M hf) (Calls.evalArgs_plain h2)
end
section
variable {X : Cx} {E : XK} {c ca cb cc : Nat} {a b d e : Expr} {es : List Expr} {fa fb fe fd : TD} {fs : TDs} {pos p apos : Pos} {x y z m f : Str} {g : Addr}
/-- a method of an own instance, as a value -/
theorem de_bnd (hC : BMeth X.K (objC X.K 0) m g ∧ Cls X.K (objC X.K 0)) (ha : DE X E c a fa) (hb : attributeBase a m X.env (eval a X.env) = eval a X.env := by rfl) : DE X E c (.Attribute a m pos) (fun ρ XQ Q => fa ρ XQ fun x => ∃ k ds, x.d = .obj k ds ∧ k % 16 ≤ 5 ∧ m ∉ objN k ∧ Q ⟨.bm g x.d, x.fr, none⟩) := by
  obtain ⟨ta, pa, sa⟩ := ha
  refine ⟨_, pe_bnd (g := g) pa hb, fun F B R H σ ρ α XQ Q K hK hX hB S h k => ?_⟩
  refine sa F B R H σ ρ α XQ _ _ hK hX hB S h fun v x R1 H1 e1 o1 r1 ⟨c', ds, ex, hc', hm, q⟩ => ?_
  obtain ⟨dx, n, vo⟩ := x
  have ex : dx = .obj c' ds := ex
  subst ex
  have r3 := r1.fr
  generalize hf : Dv.fr ⟨D.obj c' ds, n, vo⟩ = fr at r3 q
  cases r3 with
  | @obj _ oa odx ns vs _ _ hh hr hw hn hl l =>
    obtain ⟨C1, C2⟩ := hC
    rw [← objC_plan hc'] at C1 C2
    subst hn
    have hlk : ((objN c').zip vs).lookup m = none := by
      rw [List.lookup_eq_none_iff]
      intro y hy
      have : y.1 ∈ objN c' := (List.of_mem_zip hy).1
      have hne : m ≠ y.1 := fun z => hm (z ▸ this)
      simpa using hne
    refine ⟨oa, objC X.K c', odx, _, rfl, hK ▸ hh, C2, C1, hlk, fun q' hq' => ?_⟩
    have e2 : Ext F R1 H1 (R1.add q') (upd H1 q' (.met g oa)) := .new1 hq'
    have o2 : HpOk F (B + c) (R1.add q') (upd H1 q' (.met g oa)) := o1.new hq' .met
    have r2 : RpD F (upd H1 q' (.met g oa)) (R1.add q') fr (.ref oa) (.obj c' ds) := (RpD.obj hh hr hw rfl hl l).ext o1 e2
    exact k (.ref q') ⟨.bm g (.obj c' ds), fr, none⟩ _ _ (e1.trans e2) o2 ⟨.bm upd_same (.inr rfl) (fun _ => o1.pn q' (.of hq')) r2, fun _ z => nomatch z⟩ q
/-- x(e, ..), x a method as a value -/
theorem de_callBm {i k : Nat} {fd : FuncData} {ps : List Str} {cost : Nat} {gc : DC} (F : FnD X.prog X.w X.K X.mg X.base k g fd ps cost gc) (hr : Room k X.A) (hf : PySem.W.fnIn X.K g = true) (hb : Binds X.K fd ps []) (hx : Passes (L2.CX X.prog X.w) X E) (hN : X.N[i]? = some x) (hv : Vis X.env.scope x)
    (ha : DA X E c (e :: es) fs) (hn : (e :: es).length + 1 = ps.length) (hd : (x == ("__debug__" : Str)) = false := by decide) (hcd : (x == ("__classdict__" : Str)) = false := by decide)
    (he : starEach (e :: es) X.env = (false, eval e X.env) :: starEach es X.env := by rfl) (hpl : (backTo pos (starEach es X.env)).any (·.1) = false := by rfl) :
    DE X E (c + cost) (.Call (.Name x p) (e :: es) [] pos) (fun ρ XQ Q => ∃ dd n v, ρ[i]? = some (.va ⟨.bm g dd, n, v⟩) ∧ fs ρ XQ fun xs => xs.length + 1 = ps.length ∧ gCall gc ρ XQ (⟨dd, n, none⟩ :: xs) Q) := by
  obtain ⟨t, pt, s⟩ := ha
  refine ⟨_, pe_callM F hr hf hb hx hN hv pt hd hcd he hpl, fun F B R H σ ρ α XQ Q K hK hX hB S ⟨dd, n, vo, hi, h⟩ k => ?_⟩
  obtain ⟨v, hv1, r⟩ := S.va i _ hi
  have r0 := r.1
  cases r0 with
  | @bm _ q oa _ _ hq rq wq ro =>
    refine ⟨q, oa, hv1, ?_⟩
    refine s F B R H σ ρ α XQ _ _ hK hX (by omega) S h fun vs xs R' H' e' o' r' ⟨hl, q'⟩ => ?_
    refine ⟨e'.keep q _ (S.hp.good q rq).1 hq .met, ?_⟩
    exact call_core hK hX (by omega) o' (.cons (.of (ro.ext S.hp e')) r') (by rw [List.length_cons]; exact hl) q' fun v x R2 H2 e2 o2 r2 q2 => k v x R2 H2 (e'.trans e2) (by rw [← Nat.add_assoc]; exact o2) r2 q2
/-- x.f, x an own object -/
theorem de_fldO {i : Nat} (hC : ∀ k, f ∈ objN k → ClT X.K k) (va : PE X a (tVar i)) (hb : attributeBase a f X.env (eval a X.env) = eval a X.env := by rfl) : DE X E 0 (.Attribute a f pos) (fun ρ XQ Q => ∃ (k : Nat) (ds : List D) (n : Bool) (j : Nat) (dd : D), ρ[i]? = some (.ow (.obj k ds) n) ∧ (objN k)[j]? = some f ∧ ds[j]? = some dd ∧ Q ⟨dd, n, none⟩) := by
  refine ⟨_, pe_fld va hb, fun F B R H σ ρ α XQ Q K hK hX hB S ⟨c', ds, n, j, dd, hi, hj, hd, q⟩ k => ?_⟩
  obtain ⟨e1, w1⟩ := S.ow i _ _ hi
  obtain ⟨dx, vs, hv, ⟨hl, _⟩, lv⟩ := w1.at_
  obtain ⟨w, hw2, r⟩ := lv.get hd
  have hm : f ∈ objN c' := List.mem_of_getElem? hj
  have C := hC c' hm
  exact ⟨_, e1, _, objC X.K c', dx, _, w, rfl, hK ▸ hv, C.cls, C.no f hm, zip_look (objN_nodup c') hj hw2, k w ⟨dd, n, none⟩ R H .refl S.hp (.of r) q⟩
theorem putF_zip {ns : List Str} {vs : List V} {v : V} : ns.length = vs.length → f ∉ ns → putF f v (ns.zip vs) = (ns ++ [f]).zip (vs ++ [v]) := by
  induction ns generalizing vs with
  | nil =>
    intro h _
    cases vs with
    | nil => rfl
    | cons b vs => cases h
  | cons a ns ih =>
    intro h hf
    cases vs with
    | nil => cases h
    | cons b vs =>
      rw [List.zip_cons_cons, List.cons_append, List.cons_append, List.zip_cons_cons]
      show (if a = f then _ else _) = _
      rw [if_neg (fun z => hf (by rw [z]; simp)), ih (by simpa using h) (fun z => hf (List.mem_cons_of_mem _ z))]
theorem Plain.ins {C dx : Addr} {fs : List (Str × V)} : Plain (.ins C dx fs) := ⟨fun _ z => (nomatch z), fun _ z => (nomatch z)⟩
/-- an own thing becomes another one -/
theorem StOk.setG {F : Fx} {B : Nat} {R : Reg} {H : Hp} {σ : L2.St} {ρ : Ro} {α : Nat → Addr} (S : StOk F B R H σ ρ α) {i : Nat} {d : D} {n : Bool} (h : ρ[i]? = some (.ow d n)) {u u0 : HO} (hu : H (α i) = some u0) (pu : Plain u0) (tu : ∀ xs, u0 ≠ .tup xs) (fu : ∀ ob w, u0 ≠ .frz ob w) (nt : NoTbl u)
    {d' : D} {m : Bool} (hat : OwAt F (upd H (α i) u) R (α i) m d') : StOk F B R (upd H (α i) u) σ (ρ.set i (.ow d' m)) α ∧ Fz F R H R (upd H (α i) u) := by
  obtain ⟨e, w⟩ := S.ow i _ _ h
  have z : Fz F R H R (upd H (α i) u) := Fz.put w.nr hu tu fu
  refine ⟨⟨S.hp.put w.nr w.nm w.n0 hu pu nt, by rw [List.length_set]; exact S.len, fun j x hj => ?_, fun j d k hj => ?_, fun j k d1 n1 d2 n2 hj hk ea => ?_⟩, z⟩
  · rcases set_get hj with ⟨_, q⟩ | ⟨ne, hj'⟩
    · cases q
    · obtain ⟨v, e1, r⟩ := S.va j x hj'
      exact ⟨v, e1, r.fz z⟩
  · rcases set_get hj with ⟨ej, q⟩ | ⟨ne, hj'⟩
    · cases q
      rw [ej]
      exact ⟨e, w.nr, w.nm, w.n0, w.p0, hat⟩
    · obtain ⟨e1, w1⟩ := S.ow j d k hj'
      have na : α j ≠ α i := fun q => ne (S.dis j i _ _ _ _ hj' h q)
      refine ⟨e1, w1.nr, w1.nm, w1.n0, w1.p0, ?_⟩
      have q := w1.at_
      cases d with
      | lst ds => obtain ⟨ws, a, b⟩ := q; exact ⟨ws, by rw [upd_ne na]; exact a, b.fz z⟩
      | dct ds =>
        rcases q with ⟨ws, a, b⟩ | ⟨ws, a, b⟩
        · exact .inl ⟨ws, by rw [upd_ne na]; exact a, b.mv (z.mv fun z => z)⟩
        · exact .inr ⟨ws, by rw [upd_ne na]; exact a, b.mv (z.mv fun z => z)⟩
      | obj k ds => obtain ⟨dx, ws, a, l, b⟩ := q; exact ⟨dx, ws, by rw [upd_ne na]; exact a, l, b.fz z⟩
      | _ => exact q.elim
  · rcases set_get hj with ⟨ej, _⟩ | ⟨nj, hj'⟩ <;> rcases set_get hk with ⟨ek, _⟩ | ⟨nk, hk'⟩
    · rw [ej, ek]
    · rw [ej] at ea ⊢
      exact S.dis i k _ _ _ _ h hk' ea
    · rw [ek] at ea ⊢
      exact S.dis j i _ _ _ _ hj' h ea
    · exact S.dis j k _ _ _ _ hj' hk' ea
theorem objN_small {j : Nat} (h : j < 16) : objN j = objNr j := by unfold objN; rw [Nat.mod_eq_of_lt h]
/-- self.f = e, self an own object that is being made -/
theorem ds_ost (l : List Nat) {i : Nat} {p1 p2 : Pos} (hC : ClT X.K 0) (he : DE X E c e fe) (va : PE X (.Name x p1) (tVar i)) (hf : f ∈ objN 0)
    (hs : swapsWith e (some (.Attribute (.Name x p1) f p2)) pos.line X.env = pure false := by rfl) :
    DS X E c (.Assign [.Attribute (.Name x p1) f p2] e pos) (fun N ρ XQ => fe (frz l ρ) XQ fun y => ∃ a j j' ds n, (if y.d.sca = true then ρ else frz l ρ)[i]? = some (.ow (.obj (pk a j) ds) n) ∧ j ≤ 5 ∧ j' ≤ 5 ∧ objNr j' = objNr j ++ [f] ∧
      N.nx ((if y.d.sca = true then ρ else frz l ρ).set i (.ow (.obj (pk a j') (ds ++ [y.d])) (n && y.fr)))) := by
  obtain ⟨t, p, s⟩ := he
  refine ⟨_, ps_fld va p hs, fun F B R H σ ρ α XQ N K hK hX hB S h k => ?_⟩
  refine run_frz (X := X) (E := E) (c := c) (Q := fun y ρ' => ∃ a j j' ds n, ρ'[i]? = some (.ow (.obj (pk a j) ds) n) ∧ j ≤ 5 ∧ j' ≤ 5 ∧ objNr j' = objNr j ++ [f] ∧ N.nx (ρ'.set i (.ow (.obj (pk a j') (ds ++ [y.d])) (n && y.fr)))) s hK hX hB S h fun v y ρ' R' H' z S' r ⟨a, j, j', ds, n, h1, hj, hj', hn, q⟩ => ?_
  obtain ⟨e1, w1⟩ := S'.ow i _ _ h1
  obtain ⟨dx, vs, hv, ⟨hl, hp⟩, lv⟩ := w1.at_
  have ea : a = α i := (pin_pk (by omega)).mp hp
  have nd : (objNr j').Nodup := by
    have := objN_nodup j'
    rwa [objN_small (by omega)] at this
  have hfn : f ∉ objN (pk a j) := by
    rw [objN_pk (by omega)]
    rw [hn, List.nodup_append] at nd
    exact fun hm => nd.2.2 f hm f (by simp) rfl
  have hC0 : objC F.K (pk a j) = objC X.K 0 := by rw [hK]; exact objC_plan (by rw [pk_mod (by omega)]; exact hj)
  have hC1 : objC F.K (pk a j') = objC F.K (pk a j) := by rw [objC_plan (k := pk a j') (by rw [pk_mod (by omega)]; exact hj'), objC_plan (k := pk a j) (by rw [pk_mod (by omega)]; exact hj)]
  have hl5 : (objN (pk a j)).length ≤ 5 := by
    rw [objN_pk (by omega)]
    match j, hj with
    | 0, _ => decide
    | 1, _ => decide
    | 2, _ => decide
    | 3, _ => decide
    | 4, _ => decide
    | 5, _ => decide
    | j + 6, hj => omega
  refine ⟨_, e1, α i, objC F.K (pk a j), dx, _, rfl, hv, by rw [hC0]; exact hC.cls, by rw [hC0]; exact hC.no f hf, ?_, ?_⟩
  · rw [List.length_zip]; omega
  rw [putF_zip hl hfn]
  have hnn : objN (pk a j') = objN (pk a j) ++ [f] := by rw [objN_pk (by omega), objN_pk (by omega)]; exact hn
  have zz : Fz F R' H' R' (upd H' (α i) (.ins (objC F.K (pk a j)) dx ((objN (pk a j) ++ [f]).zip (vs ++ [v])))) := Fz.put w1.nr hv (fun _ z => nomatch z) fun _ _ z => nomatch z
  obtain ⟨S2, z2⟩ := S'.setG h1 (u := .ins (objC F.K (pk a j)) dx ((objN (pk a j) ++ [f]).zip (vs ++ [v]))) hv .ins (fun _ z => nomatch z) (fun _ _ z => nomatch z) .ins (d' := .obj (pk a j') (ds ++ [y.d])) (m := n && y.fr)
    ⟨dx, vs ++ [v], by rw [upd_same, hC1, hnn], ⟨by rw [hnn, List.length_append, List.length_append, hl]; rfl, (pin_pk (by omega)).mpr ea⟩, ((lv.weak and_l).app (.cons (r.fr.weak and_r) .nil)).fz zz⟩
  exact k.nx σ _ _ R' α (z.trans z2) S2 q
end

/-! ### an instance is made -/
theorem NoTbl.own {x : Addr} : NoTbl (.own x) := fun _ z => nomatch z
/-- what an __init__ is told: its instance is new -/
def spM (K : PySem.W.Frag) (np cost : Nat) (g : DC) : Sp := fun vs H Q Ex => ∃ (x dx : Addr) (vs' : List V) (H1 : Hp), vs = .ref x :: vs' ∧ vs.length = np ∧ H1 x = none ∧ H1 dx = none ∧ dx ≠ x ∧ H = upd (upd H1 dx (.own x)) x (.ins (objC K 0) dx []) ∧
  ∃ (R : Reg) (st : Option (Addr × Addr)) (L B : Nat) (ds : List D) (XQ : XQT) (QD : Dv → Prop), HpOk ⟨K, H1, R, st, L, Nn H1⟩ B R H1 ∧ B + cost ≤ L ∧
  Paired (fun d v => RpD ⟨K, H1, R, st, L, Nn H1⟩ H1 R d.imm v d) ds vs' ∧ g ds vs' XQ QD ∧ XLink ⟨K, H1, R, st, L, Nn H1⟩ Ex XQ ∧
  ∀ y R' H', Ext ⟨K, H1, R, st, L, Nn H1⟩ R H1 R' H' → HpOk ⟨K, H1, R, st, L, Nn H1⟩ (B + cost) R' H' → Rp ⟨K, H1, R, st, L, Nn H1⟩ H' R' y (.ref x) → QD y → Q .non H'
abbrev FnM (P : Program) (w : World) (K : PySem.W.Frag) (mg : Str → Option Value) (base : Heap) (k : Nat) (f : Addr) (fd : FuncData) (ps : List Str) (cost : Nat) (g : DC) : Prop := FnOk P w K mg base (L2.CX P w) k f fd ps (spM K ps.length cost g)
section
variable {X : Cx} {E : XK} {c : Nat} {e : Expr} {es : List Expr} {fs : TDs} {pos p : Pos} {x : Str}
theorem de_make {k : Nat} {f : Addr} {fd : FuncData} {ps : List Str} {cost : Nat} {g : DC} (M : Mk X.K (objC X.K 0) f) (F : FnM X.prog X.w X.K X.mg X.base k f fd ps cost g) (hr : Room (k + 1) X.A) (hg : Gl X x) (hm : X.mg x = some (.ref (objC X.K 0))) (hb : Binds X.K fd ps [])
    (hx : Passes (L2.CX X.prog X.w) X E) (hn : (e :: es).length + 1 = ps.length) (ha : DA X E c (e :: es) fs) (hdb : (x == ("__debug__" : Str)) = false := by decide) (he : starEach (e :: es) X.env = (false, eval e X.env) :: starEach es X.env := by rfl) (hpl : (backTo pos (starEach es X.env)).any (·.1) = false := by rfl) :
    DE X E (c + cost) (.Call (.Name x p) (e :: es) [] pos) (fun ρ XQ Q => fs ρ XQ fun xs => xs.length + 1 = ps.length ∧ gCall g ρ XQ xs Q) := by
  obtain ⟨t, pt, s⟩ := ha
  refine ⟨_, pe_make M F hr hg hm hb .nil hx pt hdb he hpl, fun F B R H σ ρ α XQ Q K hK hX hB S h k => ?_⟩
  refine s F B R H σ ρ α XQ _ _ hK hX (by omega) S h fun vs xs R1 H1 e1 o1 r1 ⟨hl, q1⟩ => ?_
  intro a dx ha hdx hne
  rw [List.append_nil]
  obtain ⟨FK, FH0, FR0, st, L, FP⟩ := F
  cases hK
  refine ⟨a, dx, vs, H1, rfl, by rw [List.length_cons, ← Paired.length r1]; exact hl, ha, hdx, hne, rfl, R1, st, L, B + c, xs.map (·.d), XQ, _, ⟨o1.inv, o1.good, fun a u _ e _ => e, fun a e => e, fun a r => .inl r, o1.tab, o1.lim, fun a e => e⟩, by show B + c + cost ≤ L; have : B + (c + cost) ≤ L := hB; omega,
    paired_re (F := ⟨X.K, FH0, FR0, st, L, FP⟩) (F' := ⟨X.K, H1, R1, st, L, Nn H1⟩) rfl rfl r1, q1 vs (paired_conc r1), ⟨fun x v h => ⟨(hX.1 x v h).1, fun e => ?_⟩, ?_⟩, ?_⟩
  · obtain ⟨hs, a, ns, ea, sq, l⟩ := (hX.1 x v h).2 e
    exact ⟨hs, a, ns, ea, sq.keep fun o' u h' => o1.ent a _ (fun ⟨p, ep, _⟩ => by rw [show st = none from hs] at ep; cases ep) h' .frz, l⟩
  · intro C f v dx H' hx hk ht hi hb hd
    exact hX.2 C f v dx H' hx (fun a u m e nt => hk a u m (o1.ent a u m e nt) nt) (fun a e => o1.ent2 a (ht a e)) hi hb hd
  · intro y R' H' e' o' r' q'
    have n2 : ∀ a, Nn H1 a → Nn FH0 a := o1.ent2
    have p2 : ∀ a, Nn H1 a → FP a := o1.pn
    refine ⟨rfl, k (.ref a) { y with v := none } R' H' (e1.trans ⟨e'.reg, e'.keep, e'.new, e'.there⟩) ⟨o'.inv.mono (by omega), o'.good, fun a u m e nt => o'.ent a u m (o1.ent a u m e nt) nt, fun a e => n2 a (o'.ent2 a e), fun a r => (o'.reg0 a r).elim (o1.reg0 a) fun z => .inr (n2 a z), o'.tab, o'.lim, fun a e => p2 a (o'.pn a e)⟩ ?_ q'⟩
    have mv : Mv ⟨X.K, H1, R1, st, L, Nn H1⟩ R' H' ⟨X.K, FH0, FR0, st, L, FP⟩ R' H' y.n y.n := ⟨rfl, fun _ z => z, fun _ _ r h _ => ⟨r, h⟩, fun _ _ h => h, fun z a u _ _ _ w => p2 a (w z)⟩
    exact .of (r'.1.mv mv)
end
/-- an __init__ keeps its contract: its body's reading -/
theorem fnM_ok {P : Program} {w : World} {K : PySem.W.Frag} {mg : Str → Option Value} {base : Heap} {x qual : Str} {pr : Arguments} {body : List Stmt} {scope : Scope} {f : Addr} {fd : FuncData} {N ps : List Str} {k cost : Nat} {g : DC} (F : FunD K x qual pr body scope [] [] f fd) (S : FnScope N ps scope)
    (hbody : ∀ (cdv : Value) (A : Around) (outer : List Env) (s : Shared) (H : Hp) (E : XK), Room k (A.deeper (envOfC qual scope s.heap.objs.size f cdv)) →
      ∃ (c : Nat) (gb : TDS), DSs (cxOf (L2.CX P w) P w K mg base N qual scope f cdv A outer s H E) E c body gb ∧ c ≤ cost ∧ ∀ a ds vs XQ Q, ds.length + 1 = ps.length → vs.length + 1 = ps.length → g ds vs XQ Q →
        gb { nx := fun ρ' => ∃ d n, ρ'[0]? = some (.ow (.obj (pk a 0) d) n) ∧ Q ⟨.obj 0 d, n, none⟩, rt := fun _ => False } (.ow (.obj (pk a 1) []) true :: params ds vs (N.length - ps.length)) XQ) : FnM P w K mg base (k + 1) f fd ps cost g := by
  refine F.ok S (fun vs H Q E h => by obtain ⟨_, _, _, _, _, h, _⟩ := h; exact h) (fun cdv A outer s H vs Q E hr h => ?_)
  obtain ⟨a, dx, vs', H1, rfl, hl, ha, hdx, hne, rfl, R, st, L, B, ds, XQ, QD, o, hB, r, q, hX, k⟩ := h
  obtain ⟨c, gb, ⟨t, p, sm⟩, hc, hg⟩ := hbody cdv A outer s _ E hr
  have hl' : vs'.length + 1 = ps.length := by simpa using hl
  have hd : ds.length + 1 = ps.length := by rw [Paired.length r]; exact hl'
  have hx2 : upd H1 dx (.own a) a = none := by rw [upd_ne (Ne.symm hne)]; exact ha
  have eA : Ext ⟨K, H1, R, st, L, Nn H1⟩ R H1 R (upd (upd H1 dx (.own a)) a (.ins (objC K 0) dx [])) := (Ext.new0 hdx).trans (Ext.new0 hx2)
  have oA : HpOk ⟨K, H1, R, st, L, Nn H1⟩ B R (upd (upd H1 dx (.own a)) a (.ins (objC K 0) dx [])) := (o.new0 hdx .own).new0 hx2 .ins
  have rA : Paired (fun d v => RpD ⟨K, H1, R, st, L, Nn H1⟩ (upd (upd H1 dx (.own a)) a (.ins (objC K 0) dx [])) R d.imm v d) ds vs' := Paired.imp (fun _ _ h => h.ext o eA) r
  have hn1 : N.tail.length = N.length - 1 := List.length_tail
  have est : L2.start N (.ref a :: vs') = some (.ref a) :: L2.start N.tail vs' := by
    unfold L2.start
    rw [List.map_cons, List.cons_append, hn1, List.length_cons]
    congr 3
    omega
  have epr : params ds vs' (N.length - ps.length) = params ds vs' (N.tail.length - vs'.length) := by
    congr 1
    omega
  refine ⟨t, p, sm ⟨K, H1, R, st, L, Nn H1⟩ B R _ (L2.start N (.ref a :: vs')) (.ow (.obj (pk a 1) []) true :: params ds vs' (N.length - ps.length)) (fun _ => a) XQ _ _ rfl hX (show B + c ≤ L by omega) ⟨oA, ?_, fun i y hi => ?_, fun i d n hi => ?_, fun i j d n d' n' hi hj _ => ?_⟩ (hg a ds vs' XQ QD hd hl' q) ?_⟩
  · rw [est, epr]
    unfold L2.start params
    rw [List.length_cons, List.length_cons, List.length_append, List.length_append, List.length_map, List.length_replicate, List.length_replicate, List.length_zipWith]
    omega
  · cases i with
    | zero => cases hi
    | succ i =>
      rw [est]
      rw [epr] at hi
      exact start_get rA N.tail i y hi
  · cases i with
    | zero =>
      cases hi
      refine ⟨by rw [est]; rfl, not_frozen o ha, mx_none o.inv ha, .of ha, .of ha, dx, [], ?_, ⟨?_, ?_⟩, .nil⟩
      · rw [upd_same, List.zip_nil_right, objC_pk (by decide)]
        rfl
      · rw [objN_pk (by decide)]; rfl
      · exact (pin_pk (by decide)).mpr rfl
    | succ i => exact absurd hi params_ow
  · cases i with
    | zero =>
      cases j with
      | zero => rfl
      | succ j => exact absurd hj params_ow
    | succ i => exact absurd hi params_ow
  refine ⟨fun σ' H' ρ' R' α' z S' ⟨d, n, h0, q'⟩ => ?_, fun _ _ _ _ _ _ _ q => q.elim, fun _ _ _ _ _ _ _ q => q.elim, fun _ _ _ _ _ _ _ q => q.elim⟩
  obtain ⟨e1, w⟩ := S'.ow 0 _ _ h0
  obtain ⟨dx', ws, hv, ⟨hlw, hp⟩, lw⟩ := w.at_
  have ea : a = α' 0 := (pin_pk (by decide)).mp hp
  have rr := Ow.rp w
  rw [← ea] at rr w hv
  refine k ⟨.obj 0 d, n, none⟩ (R'.add a) H' ⟨fun b r => .inl (z.reg b r), S'.hp.ent, fun b r => r.elim (S'.hp.reg0 b) fun z => .inr (by rw [z]; exact .of ha), S'.hp.ent2⟩ ((S'.hp.mono (by omega)).frz w) (.of ?_) q'
  cases rr with
  | @obj _ _ odx ns us _ _ hh hr hw hn2 hll l =>
    have hc0 : objC K (pk a 0) = objC K 0 := objC_pk (by decide)
    have hh2 : H' a = some (.ins (objC K 0) odx (ns.zip us)) := by rw [← hc0]; exact hh
    exact .obj (k := 0) hh2 hr hw (by rw [hn2, objN_pk (by decide)]; rfl) hll l
end DL

set_option Elab.async false
set_option linter.all false
set_option maxRecDepth 100000
set_option maxHeartbeats 4000000
/-! DL, part aj: own dicts changed, dict comprehensions, sorted(d), [.., *d]. -/
namespace DL
open PySem PySem.Spec PyProof.Rows L2

/-! ### d[k] = v -/
def putD (ds : List (D × D)) (k : Key) (d : D) : List (D × D) := if (ds.any fun p => isKey p.1 k) = true then ds.map (fun p => if isKey p.1 k = true then (p.1, d) else p) else ds ++ [(keyD k, d)]
theorem rpk_any {F : Fx} {H : Hp} {R : Reg} {n : Bool} (k : Key) : ∀ {kvs : List (Key × V)} {ds : List (D × D)}, RpK F H R n kvs ds → (kvs.any fun kv => decide (kv.1 = k)) = ds.any fun p => isKey p.1 k
  | _, _, .nil => rfl
  | _, _, .consI (i := i) a t => by
    rw [List.any_cons, List.any_cons, rpk_any k t]
    congr 1
    exact (isKey_keyD (.inl i) k).symm
  | _, _, .consS (x := x) a t => by
    rw [List.any_cons, List.any_cons, rpk_any k t]
    congr 1
    exact (isKey_keyD (.inr x) k).symm
theorem rpk_map {F : Fx} {H : Hp} {R : Reg} {n : Bool} (k : Key) {v : V} {d : D} (r : RpD F H R n v d) : ∀ {kvs : List (Key × V)} {ds : List (D × D)}, RpK F H R n kvs ds →
    RpK F H R n (kvs.map fun kv => if kv.1 = k then (kv.1, v) else kv) (ds.map fun p => if isKey p.1 k = true then (p.1, d) else p)
  | _, _, .nil => .nil
  | _, _, .consI (i := i) a t => by
    rw [List.map_cons, List.map_cons]
    have e : isKey (.int i) k = decide ((Sum.inl i : Key) = k) := isKey_keyD (.inl i) k
    by_cases h : (Sum.inl i : Key) = k
    · rw [if_pos h, if_pos (by rw [e]; simp [h])]
      exact .consI r (rpk_map k r t)
    · rw [if_neg h, if_neg (by rw [e]; simp [h])]
      exact .consI a (rpk_map k r t)
  | _, _, .consS (x := x) a t => by
    rw [List.map_cons, List.map_cons]
    have e : isKey (.str x) k = decide ((Sum.inr x : Key) = k) := isKey_keyD (.inr x) k
    by_cases h : (Sum.inr x : Key) = k
    · rw [if_pos h, if_pos (by rw [e]; simp [h])]
      exact .consS r (rpk_map k r t)
    · rw [if_neg h, if_neg (by rw [e]; simp [h])]
      exact .consS a (rpk_map k r t)
theorem RpK.app {F : Fx} {H : Hp} {R : Reg} {n : Bool} : ∀ {kvs ls : List (Key × V)} {ds es : List (D × D)}, RpK F H R n kvs ds → RpK F H R n ls es → RpK F H R n (kvs ++ ls) (ds ++ es)
  | _, _, _, _, .nil, b => b
  | _, _, _, _, .consI a t, b => .consI a (t.app b)
  | _, _, _, _, .consS a t, b => .consS a (t.app b)
theorem rpk_one {F : Fx} {H : Hp} {R : Reg} {n : Bool} {v : V} {d : D} (k : Key) (r : RpD F H R n v d) : RpK F H R n [(k, v)] [(keyD k, d)] := by
  cases k with
  | inl i => exact .consI r .nil
  | inr x => exact .consS r .nil
theorem RpK.put {F : Fx} {H : Hp} {R : Reg} {n : Bool} {kvs : List (Key × V)} {ds : List (D × D)} (h : RpK F H R n kvs ds) (k : Key) {v : V} {d : D} (r : RpD F H R n v d) : RpK F H R n (putK kvs k v) (putD ds k d) := by
  unfold putK putD
  rw [rpk_any k h]
  split
  · exact rpk_map k r h
  · exact h.app (rpk_one k r)
theorem RpK.len {F : Fx} {H : Hp} {R : Reg} {n : Bool} : ∀ {kvs : List (Key × V)} {ds : List (D × D)}, RpK F H R n kvs ds → kvs.length = ds.length
  | _, _, .nil => rfl
  | _, _, .consI _ t => by rw [List.length_cons, List.length_cons, t.len]
  | _, _, .consS _ t => by rw [List.length_cons, List.length_cons, t.len]
theorem RpK.weak {F : Fx} {R : Reg} {H : Hp} {n n' : Bool} {v : List (Key × V)} {d : List (D × D)} (h : RpK F H R n v d) (w : n' = true → n = true) : RpK F H R n' v d := h.mv (mv_weak w)
/-- keys that are no tuples -/
def PlainK (ds : List (D × D)) : Prop := ∀ p ∈ ds, ∃ j, p.1 = keyD j
theorem rpt_no {F : Fx} {H : Hp} {R : Reg} {n : Bool} {kvs : List (List Key × V)} {ds : List (D × D)} (h : RpT F H R n kvs ds) (k : PlainK ds) : False := by
  cases h with
  | one a b =>
    obtain ⟨j, e⟩ := k _ List.mem_cons_self
    cases j <;> exact D.noConfusion e
  | cons a b t =>
    obtain ⟨j, e⟩ := k _ List.mem_cons_self
    cases j <;> exact D.noConfusion e
section
variable {X : Cx} {E : XK} {c ca cb cc ci ct ck ce : Nat} {a b d e ke value : Expr} {es : List Expr} {fa fb fe fk fv : TD} {fi fs : TDs} {ft : TDt} {pos p p1 p2 apos : Pos} {x y f : Str}
/-- x[k] = v, x an own dict -/
theorem ds_setD (l : List Nat) {i : Nat} (hu0 : X.A.units + 64 < cLine) (hv : DE X E c value fv) (hk : DE X E ck ke fk) (va : PE X (.Name x p1) (tVar i))
    (hs : swapsWith value (some (.Subscript (.Name x p1) ke p2)) pos.line X.env = pure false := by rfl) :
    DS X E (c + ck) (.Assign [.Subscript (.Name x p1) ke p2] value pos) (fun N ρ XQ => fv (frz l ρ) XQ fun y => ∃ ds n, (if y.d.sca = true then ρ else frz l ρ)[i]? = some (.ow (.dct ds) n) ∧ PlainK ds ∧ ds.length < BIG ∧
      fk (if y.d.sca = true then ρ else frz l ρ) XQ fun z => ∃ k, z.d = keyD k ∧ N.nx ((if y.d.sca = true then ρ else frz l ρ).set i (.ow (.dct (putD ds k y.d)) (n && y.fr)))) := by
  have hu : X.A.units + 1 < cLine := by omega
  obtain ⟨tv, pv, sv⟩ := hv
  obtain ⟨tk, pk, sk⟩ := hk
  refine ⟨_, ps_dput hu va pk pv hs, fun F B R H σ ρ α XQ N K hK hX hB S h k => ?_⟩
  refine run_frz (X := X) (E := E) (c := c) (Q := fun y ρ' => ∃ ds n, ρ'[i]? = some (.ow (.dct ds) n) ∧ PlainK ds ∧ ds.length < BIG ∧ fk ρ' XQ fun z => ∃ k, z.d = keyD k ∧ N.nx (ρ'.set i (.ow (.dct (putD ds k y.d)) (n && y.fr)))) sv hK hX (by omega) S h fun v y ρ' R1 H1 z1 S1 r1 ⟨ds, n, hi, hp, hl, q1⟩ => ?_
  obtain ⟨e0, w0⟩ := S1.ow i _ _ hi
  refine ⟨_, e0, ?_⟩
  refine sk F (B + c) R1 H1 σ ρ' α XQ _ _ hK hX (by omega) S1 q1 fun u z R2 H2 e2 o2 r2 ⟨kk, ez, q2⟩ => ?_
  obtain ⟨dz, nz, vz⟩ := z
  have ez : dz = keyD kk := ez
  subst ez
  have eu := rp_key r2.1
  subst eu
  have S2 := S1.ext e2 o2
  obtain ⟨e3, w3⟩ := S2.ow i _ _ hi
  rcases w3.at_ with ⟨kvs, hv, lv⟩ | ⟨kvs, hv, lv⟩
  · refine ⟨α i, _, rfl, DPut.k hv (lt_line (by rw [lv.len]; exact hl)), ?_⟩
    have zz : Fz F R2 H2 R2 (upd H2 (α i) (.dK (putK kvs kk v))) := Fz.put w3.nr hv (fun _ z => nomatch z) fun _ _ z => nomatch z
    have r1' := (r1.ext S1.hp e2).fr
    obtain ⟨S3, z3⟩ := S2.setG hi (u := .dK (putK kvs kk v)) hv .dK (fun _ z => nomatch z) (fun _ _ z => nomatch z) .dK (d' := .dct (putD ds kk y.d)) (m := n && y.fr)
      (.inl ⟨_, upd_same, ((lv.weak and_l).put kk (r1'.weak and_r)).mv (zz.mv fun z => z)⟩)
    rw [show B + (c + ck) = B + c + ck by omega] at k
    exact k.nx σ _ _ R2 α ((z1.trans (e2.fz S1.hp)).trans z3) S3 q2
  · exact (rpt_no lv hp).elim

/-! ### sorted(d), list(d), [.., *d], the keys texts -/
def strK (kd : List (Str × D)) : D := .dct (kd.map fun p => (.str p.1, p.2))
theorem strK_rp {F : Fx} {H : Hp} {R : Reg} {n : Bool} : ∀ {kvs : List (Key × V)} {kd : List (Str × D)}, RpK F H R n kvs (kd.map fun p => (.str p.1, p.2)) → kvs.map (·.1) = (kd.map (·.1)).map Sum.inr
  | _, [], h => by cases h; rfl
  | _, p :: kd, h => by
    cases h with
    | consS a t => rw [List.map_cons, List.map_cons, List.map_cons, strK_rp t]
theorem strK_plain (kd : List (Str × D)) : PlainK (kd.map fun p => ((.str p.1 : D), p.2)) := fun p hp => by
  obtain ⟨q, _, rfl⟩ := List.mem_map.mp hp
  exact ⟨.inr q.1, rfl⟩
theorem strK_at {F : Fx} {H : Hp} {R : Reg} {x : Dv} {v : V} {kd : List (Str × D)} (r : Rp F H R x v) (e : x.d = strK kd) : ∃ a kvs, v = .ref a ∧ Rd H a (.dK kvs) ∧ R a ∧ RpK F H R x.fr kvs (kd.map fun p => (.str p.1, p.2)) := by
  have rf := r.fr
  rw [e] at rf
  unfold strK at rf
  generalize x.fr = n at rf
  cases rf with
  | dK ha hr hw l => exact ⟨_, _, rfl, ha.rd, hr, l⟩
  | dT ha hr hw l => exact (rpt_no l (strK_plain kd)).elim
theorem sortedS_leD : ∀ {ys : List Str}, sortedS ys = true → (ys.map D.str).Pairwise fun a b => leD a b = true := by
  have key : ∀ (ys : List Str) (p : Str), risingS p ys = true → ((p :: ys).map D.str).Pairwise fun a b => leD a b = true := by
    intro ys
    induction ys with
    | nil => intro p _; exact List.pairwise_singleton _ _
    | cons x ys ih =>
      intro p h
      have h' : (!ltCps x.cps.toList p.cps.toList && risingS x ys) = true := h
      rw [Bool.and_eq_true] at h'
      have h2 := ih x h'.2
      have hpx : leD (.str p) (.str x) = true := by
        have e : ltCps x.cps.toList p.cps.toList = false := by simpa using h'.1
        rw [PyProof.Rows.ltCps_eq] at e
        show (!PyProof.Rows.lexLt PyProof.Rows.itemOrd [.inr x.cps.toList] [.inr p.cps.toList]) = true
        have e2 : PyProof.Rows.itemLt (.inr x.cps.toList) (.inr p.cps.toList) = false := e
        simp [PyProof.Rows.lexLt, e2]
      rw [List.map_cons, List.pairwise_cons]
      refine ⟨fun b hb => ?_, h2⟩
      rw [List.map_cons] at hb h2
      rcases List.mem_cons.mp hb with rfl | hb
      · exact hpx
      · exact leD_ok.trans _ _ _ hpx ((List.pairwise_cons.mp h2).1 b hb)
  intro ys h
  cases ys with
  | nil => exact .nil
  | cons y ys => exact key ys y h
theorem srt_strs {ys ks : List Str} (p : ys.Perm ks) (h : sortedS ys = true) : ys.map D.str = srtD (ks.map D.str) := by
  have h1 := srtD_of (sortedS_leD h)
  rw [← h1]
  refine srt_eq (p.map D.str) fun a ha b hb e => ?_
  obtain ⟨x, _, rfl⟩ := List.mem_map.mp ha
  obtain ⟨y, _, rfl⟩ := List.mem_map.mp hb
  simp [tokD, D.pyd, PySem.W.keyToks] at e
  rw [str_ext (x := x) (y := y) (by simpa using e)]
theorem dcl_sortedK (hc : X.calm = true) : DCl X (.builtin "sorted") (g1 fun x Q => ∃ kd, x.d = strK kd ∧ kd.length < 64 ∧ Q ⟨.lst (srtD (kd.map fun p => .str p.1)), true, none⟩) := dcl1 (L2.call_sortedD hc) fun F B R H v x Q K hK I r ⟨kd, ed, hl, q⟩ k => by
  obtain ⟨a, kvs, rfl, ha, hr, l⟩ := strK_at r ed
  refine ⟨a, kvs, kd.map (·.1), rfl, ha, strK_rp l, by rw [List.length_map]; exact hl, fun ys p hp hs hn => ?_⟩
  obtain ⟨e, o, r2⟩ := new_lst (n := true) (vs := ys.map V.str) (ds := ys.map D.str) I hn (by
    clear hp hs
    induction ys with
    | nil => exact .nil
    | cons y ys ih => exact .cons (.str _) ih)
  refine k _ ⟨.lst (ys.map D.str), true, none⟩ _ _ e o (.of r2) ?_
  rw [srt_strs hp hs, List.map_map]
  exact q
theorem star_dK {pins : List (Addr × Obj)} {σ : L2.St} {H : Hp} {s : Shared} {a : Addr} {kvs : List (Key × V)} {Ex : Value → Shared → Prop} {Q : List Value → Shared → Prop} (hc : X.calm = true) (I : Inv X pins σ H s) (h : Rd H a (.dK kvs)) (hQ : ∀ us s', Inv X pins σ H s' → Vals (kvs.map fun kv => kV kv.1) us → Q us s') :
    PySem.W.StarOf (model X.prog X.w) X.A Ex (.ref a) Q s := by
  obtain ⟨z, lo, vs, rel, dd⟩ := dk_rd I.hok h
  obtain ⟨ep, hat⟩ := dd.dictAt
  have hl : vs.length = kvs.length := rel.length.symm
  have zz : wpAny (model X.prog X.w) X.A (collect (.ref a)) Q Ex s := by
    refine PySem.W.kdu_collect (A := X.A) (PySem.W.kdl_dict (knd := mixKind X.prog X.w) (kvs := vs) (ep := ep) lo) (I.ok.hd hc) hat (by rw [hl]; exact z) fun h' tk acc hk hacc => ?_
    refine hQ _ _ (I.kept hk) ?_
    have ek : (kvs.map fun kv => kV kv.1) = vs.map fun p => kV p.1 := by
      have e := congrArg (List.map kV) rel.keys
      rw [List.map_map, List.map_map] at e
      exact e
    rw [ek]
    exact keys_at (by rw [Array.length_toList]; exact hacc.1) fun j v e => hacc.2 j v (by rw [← Array.getElem?_toList]; exact e)
  unfold PySem.W.StarOf notIterableAtAll
  exact wpAny_bind (wpAny_specialOf dd.typeIs F.slot_dict_iter.lookup (wpAny_pure ⟨rfl, zz⟩))
end
/-- what a dict comprehension makes -/
def dcGo (gt : TDG) (ft : TDt) (fk fe : TD) (ρw : Ro) (Q : Dv → Prop) : List Dv → List (D × D) → Bool → Prop
  | [], acc, n => Q ⟨.dct acc, n, none⟩
  | x :: xs, acc, n => gt x ρw fun ρ2 => ft ρ2 XQ0 fun b => if b = true then fk ρ2 XQ0 fun y => ∃ k, y.d = keyD k ∧ fe ρ2 XQ0 fun z => dcGo gt ft fk fe ρw Q xs (putD acc k z.d) (n && z.fr) else dcGo gt ft fk fe ρw Q xs acc n
theorem putD_len (ds : List (D × D)) (k : Key) (d : D) : (putD ds k d).length ≤ ds.length + 1 := by
  unfold putD
  split
  · rw [List.length_map]; omega
  · rw [List.length_append]; exact Nat.le_refl _
section
variable {X : Cx} {E : XK} {c ca cb cc ci ct ck ce : Nat} {a b d e ke value tg iter elt kx : Expr} {es : List Expr} {fa fb fe fk fv : TD} {fi fs : TDs} {ft : TDt} {pos p p1 p2 apos : Pos} {x y f : Str}
theorem dn_dc_of {own : List (Str × Nat)} {l : List Nat} {gt : TDG} {wi : TI} {g : TG} {tt : TT} {tk te : TE}
    (si : ∀ F B R H σ ρ α XQ Q (K : It → Hp → Prop), F.K = X.K → XLink F E XQ → B + ci ≤ F.L → StOk F B R H σ ρ α → fi ρ XQ Q → (∀ J xs R' H', Ext F R H R' H' → HpOk F (B + ci) R' H' → Q xs → Walks F R' H' J xs → K J H') → wi σ H K)
    (sg : ∀ F B R H σ ρ α v x Q (K : L2.St → Hp → Prop), F.K = X.K → StOk F B R H σ ρ α → Rp F H R x v → gt x ρ Q → (∀ σ' ρ', StOk F B R H σ' ρ' α → SetOnly l σ σ' → Q ρ' → K σ' H) → g v σ H K)
    (st : ∀ F B R H σ ρ α XQ Q (K : Bool → Hp → Prop), F.K = X.K → XLink F E0 XQ → B + ct ≤ F.L → StOk F B R H σ ρ α → ft ρ XQ Q → (∀ b R' H', Ext F R H R' H' → HpOk F (B + ct) R' H' → Q b → K b H') → tt σ H K)
    (sk : ∀ F B R H σ ρ α XQ Q (K : VK), F.K = X.K → XLink F E0 XQ → B + ck ≤ F.L → StOk F B R H σ ρ α → fk ρ XQ Q → (∀ v x R' H', Ext F R H R' H' → HpOk F (B + ck) R' H' → Rp F H' R' x v → Q x → K v H') → tk σ H K)
    (se : ∀ F B R H σ ρ α XQ Q (K : VK), F.K = X.K → XLink F E0 XQ → B + ce ≤ F.L → StOk F B R H σ ρ α → fe ρ XQ Q → (∀ v x R' H', Ext F R H R' H' → HpOk F (B + ce) R' H' → Rp F H' R' x v → Q x → K v H') → te σ H K)
    (hl : ∀ i ∈ l, i ∈ own.map (·.2)) :
    ∀ F B R H σ ρ α XQ Q (K : VK), F.K = X.K → XLink F E XQ → B + (ci + BIG * (ct + ck + ce)) ≤ F.L → StOk F B R H σ ρ α → (fi ρ XQ fun xs => xs.length ≤ BIG ∧ dcGo gt ft fk fe (wipeR ρ (own.map (·.2))) Q xs [] true) →
      (∀ a d n R' H', Ext F R H R' H' → HpOk F (B + (ci + BIG * (ct + ck + ce))) R' H' → Own F H' R' a d n → Nn H a → Q ⟨d, n, none⟩ → K (.ref a) H') → tDc wi g tt tk te (own.map (·.2)) σ H K := fun F B R H σ ρ α XQ Q K hK hX hB S h k => by
  refine si F B R H σ ρ α XQ _ _ hK hX (by omega) S h fun J xs R1 H1 e1 o1 ⟨hz, q⟩ w => fun D hD => ?_
  have n0 := o1.ent2 D (.of hD)
  have nm := mx_none o1.inv hD
  have nr := not_frozen o1 hD
  have S1 := S.ext e1 o1
  have le : ∀ i, i ≤ xs.length → i * (ct + ck + ce) ≤ BIG * (ct + ck + ce) := fun i hi => Nat.mul_le_mul_right _ (Nat.le_trans hi hz)
  refine ⟨fun i m H' => m = xs.length - i ∧ i ≤ xs.length ∧ ∃ R' acc accD n, accD.length ≤ i ∧ H' D = some (.dK acc) ∧ ¬ R' D ∧ Ext F R1 H1 R' H' ∧ HpOk F (B + ci + i * (ct + ck + ce)) R' H' ∧ RpK F H' R' n acc accD ∧ dcGo gt ft fk fe (wipeR ρ (own.map (·.2))) Q (xs.drop i) accD n,
    ⟨_, rfl, Nat.zero_le _, R1, [], [], true, Nat.le_refl _, upd_same, nr, .new0 hD, by simpa using o1.new0 hD .dK, .nil, by simpa using q⟩, ?_⟩
  rintro i m H' ⟨rfl, hi, R', acc, accD, n, hacc, hH, nR, e2, o2, la, q⟩
  have zf : Fz F R1 H1 R' H' := e2.fz o1
  by_cases hlt : i < xs.length
  · refine .inr ?_
    have hx : xs[i]? = some xs[i] := by simp [hlt]
    obtain ⟨go, yl⟩ := (w i _ R' H' zf o2).2 _ hx
    rw [List.drop_eq_getElem_cons hlt] at q
    refine ⟨go, fun H2 => ∃ R2 acc2 accD2 n2, accD2.length ≤ i + 1 ∧ H2 D = some (.dK acc2) ∧ ¬ R2 D ∧ Ext F R1 H1 R2 H2 ∧ HpOk F (B + ci + (i + 1) * (ct + ck + ce)) R2 H2 ∧ RpK F H2 R2 n2 acc2 accD2 ∧ dcGo gt ft fk fe (wipeR ρ (own.map (·.2))) Q (xs.drop (i + 1)) accD2 n2, fun H2 q2 => ⟨_, by omega, rfl, hlt, q2⟩, fun v H'' y => ?_⟩
    obtain ⟨R'', ex, ox, rx⟩ := yl v H'' y
    have S3 : StOk F (B + ci + i * (ct + ck + ce)) R'' H'' (wipe σ (own.map (·.2))) (wipeR ρ (own.map (·.2))) α := ((S1.ext e2 o2).ext ex ox).wipe _
    have hD2 : H'' D = some (.dK acc) := ex.keep D _ nm hH .dK
    have nR2 : ¬ R'' D := fun z => (ex.new D z).elim nR fun z => z _ hH .dK
    have le2 := le (i + 1) hlt
    have e3 : B + ci + (i + 1) * (ct + ck + ce) = B + ci + i * (ct + ck + ce) + ct + ck + ce := by rw [Nat.add_mul, Nat.one_mul]; omega
    refine sg F _ R'' H'' _ _ α v _ _ _ hK S3 rx q fun σ4 ρ4 S4 so q4 => ⟨?_, ?_⟩
    · rw [wipe_eq so hl, wipe_wipe]
    refine st F _ R'' H'' σ4 ρ4 α XQ0 _ _ hK xlink0 (by omega) S4 q4 fun bb R5 H5 e5 o5 q5 => ?_
    have hD5 : H5 D = some (.dK acc) := e5.keep D _ nm hD2 .dK
    have nR5 : ¬ R5 D := fun z => (e5.new D z).elim nR2 fun z => z _ hD2 .dK
    have e15 := (e2.trans ex).trans e5
    cases bb with
    | true =>
      refine sk F _ R5 H5 σ4 ρ4 α XQ0 _ _ hK xlink0 (by omega) (S4.ext e5 o5) q5 fun u y R6 H6 e6 o6 r6 ⟨kk, ey, q6⟩ => ?_
      obtain ⟨dy, ny, vy⟩ := y
      have ey : dy = keyD kk := ey
      subst ey
      have eu := rp_key r6.1
      subst eu
      have hD6 : H6 D = some (.dK acc) := e6.keep D _ nm hD5 .dK
      have nR6 : ¬ R6 D := fun z => (e6.new D z).elim nR5 fun z => z _ hD5 .dK
      refine se F _ R6 H6 σ4 ρ4 α XQ0 _ _ hK xlink0 (by omega) ((S4.ext e5 o5).ext e6 o6) q6 fun u z R7 H7 e7 o7 r7 q7 => ?_
      have hD7 : H7 D = some (.dK acc) := e7.keep D _ nm hD6 .dK
      have nR7 : ¬ R7 D := fun z => (e7.new D z).elim nR6 fun z => z _ hD6 .dK
      have fz7 : Fz F R7 H7 R7 (upd H7 D (.dK (putK acc kk u))) := Fz.put nR7 hD7 (fun _ z => nomatch z) fun _ _ z => nomatch z
      have la7 : RpK F H7 R7 n acc accD := la.mv (((((ex.fz o2).trans (e5.fz ox)).trans (e6.fz o5)).trans (e7.fz o6)).mv fun z => z)
      have e17 := (e15.trans e6).trans e7
      refine ⟨acc, kk, rfl, hD7, lt_line (by rw [la7.len]; omega), R7, putK acc kk u, putD accD kk z.d, n && z.fr, Nat.le_trans (putD_len _ _ _) (by omega), upd_same, nR7, ⟨e17.reg, fun b o m hb nt => by
        rw [upd_ne (ne_of_none hb hD)]
        exact e17.keep b o m hb nt, e17.new, fun b hb => ?_⟩, by rw [e3]; exact o7.put nR7 nm n0 hD7 .dK .dK, ((la7.weak and_l).put kk (r7.fr.weak and_r)).mv (fz7.mv fun z => z), q7⟩
      by_cases z : b = D
      · rw [z]; exact .of hD
      · exact e17.there b fun u q => hb u (by rw [upd_ne z]; exact q)
    | false =>
      exact ⟨R5, acc, accD, n, by omega, hD5, nR5, e15, o5.mono (by omega), la.mv (((ex.fz o2).trans (e5.fz ox)).mv fun z => z), q5⟩
  · have hle : i = xs.length := by omega
    refine .inl ⟨(w i _ R' H' zf o2).1 hle, ?_⟩
    rw [hle, List.drop_length] at q
    refine k D (.dct accD) n R' H' ⟨fun a r => e2.reg a (e1.reg a r), fun a o m ha nt => e2.keep a o m (e1.keep a o m ha nt) nt, fun a r => (e2.new a r).elim (e1.new a) fun z => .inr (e1.there a z), fun a z => e1.there a (e2.there a z)⟩ (o2.mono (by have := le i hi; omega)) ⟨nR, nm, n0, o1.pn D (.of hD), .inl ⟨acc, hH, la⟩⟩ (e1.there D (.of hD)) q
/-- {k: v for .. in .. if ..} -/
theorem dn_dc {scope : Scope} {own : List (Str × Nat)} {l : List Nat} {gt : TDG} (hc : X.calm = true) (hN : X.N.Nodup) (hi : DI X E ci tg iter fi) {ifs : List Expr} (ok : BlkOk X.N X.env.scope scope own)
    (hg : ∀ s H C cl fp, DG (X.blk s H scope (compEnvC scope cl C X.env) fp) l tg gt) (ht : ∀ s H C cl fp, DTs (X.blk s H scope (compEnvC scope cl C X.env) fp) E0 ct ifs ft) (hk : ∀ s H C cl fp, DE (X.blk s H scope (compEnvC scope cl C X.env) fp) E0 ck kx fk) (he : ∀ s H C cl fp, DE (X.blk s H scope (compEnvC scope cl C X.env) fp) E0 ce elt fe)
    (hl : ∀ i ∈ l, i ∈ own.map (·.2)) (hs : ∀ x, foldedSetIterable iter X.env x = pure x := by intro _; rfl) :
    DN X E (ci + BIG * (ct + ck + ce)) (.DictComp kx elt [⟨tg, iter, ifs, 0⟩] scope pos) (fun ρ XQ Q => fi ρ XQ fun xs => xs.length ≤ BIG ∧ dcGo gt ft fk fe (wipeR ρ (own.map (·.2))) Q xs [] true) := by
  obtain ⟨wi, pi, si⟩ := hi
  have hG : ∃ g : TG, (∀ s H C cl fp, PG (X.blk s H scope (compEnvC scope cl C X.env) fp) tg g) ∧ ∀ F B R H σ ρ α v x Q (K : L2.St → Hp → Prop), F.K = X.K → StOk F B R H σ ρ α → Rp F H R x v → gt x ρ Q → (∀ σ' ρ', StOk F B R H σ' ρ' α → SetOnly l σ σ' → Q ρ' → K σ' H) → g v σ H K :=
    ⟨fun v σ H Q => ∀ s H0 C cl fp, (hg s H0 C cl fp).choose v σ H Q, fun s H C cl fp => ⟨fun pins s' σ H' v u Q I r q => (hg s H C cl fp).choose_spec.1.run pins s' σ H' v u Q I r (q s H C cl fp)⟩,
      fun F B R H σ ρ α v x Q K hK S r q k s H0 C cl fp => (hg s H0 C cl fp).choose_spec.2 F B R H σ ρ α v x Q K hK S r q k⟩
  have hT : ∃ tt : TT, (∀ s H C cl fp, PTs (X.blk s H scope (compEnvC scope cl C X.env) fp) ifs tt) ∧ ∀ F B R H σ ρ α XQ Q (K : Bool → Hp → Prop), F.K = X.K → XLink F E0 XQ → B + ct ≤ F.L → StOk F B R H σ ρ α → ft ρ XQ Q → (∀ b R' H', Ext F R H R' H' → HpOk F (B + ct) R' H' → Q b → K b H') → tt σ H K :=
    ⟨fun σ H Q => ∀ s H0 C cl fp, (ht s H0 C cl fp).choose σ H Q, fun s H C cl fp => ⟨fun pins s' σ H' Q I q => (ht s H C cl fp).choose_spec.1.run pins s' σ H' Q I (q s H C cl fp)⟩,
      fun F B R H σ ρ α XQ Q K hK hX hB S q k s H0 C cl fp => (ht s H0 C cl fp).choose_spec.2 F B R H σ ρ α XQ Q K hK hX hB S q k⟩
  have hKk : ∃ te : TE, (∀ s H C cl fp, PE (X.blk s H scope (compEnvC scope cl C X.env) fp) kx te) ∧ ∀ F B R H σ ρ α XQ Q (K : VK), F.K = X.K → XLink F E0 XQ → B + ck ≤ F.L → StOk F B R H σ ρ α → fk ρ XQ Q → (∀ v x R' H', Ext F R H R' H' → HpOk F (B + ck) R' H' → Rp F H' R' x v → Q x → K v H') → te σ H K :=
    ⟨fun σ H Q => ∀ s H0 C cl fp, (hk s H0 C cl fp).choose σ H Q, fun s H C cl fp => ⟨fun pins s' σ H' Q I q => (hk s H C cl fp).choose_spec.1.run pins s' σ H' Q I (q s H C cl fp)⟩,
      fun F B R H σ ρ α XQ Q K hK hX hB S q k s H0 C cl fp => (hk s H0 C cl fp).choose_spec.2 F B R H σ ρ α XQ Q K hK hX hB S q k⟩
  have hE : ∃ te : TE, (∀ s H C cl fp, PE (X.blk s H scope (compEnvC scope cl C X.env) fp) elt te) ∧ ∀ F B R H σ ρ α XQ Q (K : VK), F.K = X.K → XLink F E0 XQ → B + ce ≤ F.L → StOk F B R H σ ρ α → fe ρ XQ Q → (∀ v x R' H', Ext F R H R' H' → HpOk F (B + ce) R' H' → Rp F H' R' x v → Q x → K v H') → te σ H K :=
    ⟨fun σ H Q => ∀ s H0 C cl fp, (he s H0 C cl fp).choose σ H Q, fun s H C cl fp => ⟨fun pins s' σ H' Q I q => (he s H C cl fp).choose_spec.1.run pins s' σ H' Q I (q s H C cl fp)⟩,
      fun F B R H σ ρ α XQ Q K hK hX hB S q k s H0 C cl fp => (he s H0 C cl fp).choose_spec.2 F B R H σ ρ α XQ Q K hK hX hB S q k⟩
  obtain ⟨g, pg, sg⟩ := hG
  obtain ⟨tt, pt, st⟩ := hT
  obtain ⟨tk, pk, sk⟩ := hKk
  obtain ⟨te, pe, se⟩ := hE
  exact ⟨_, pe_dc hc hN pi ok pg pt pk pe hs, dn_dc_of si sg st sk se hl⟩
/-- *d in a display, d a dict from texts -/
theorem da_starD {sp : Pos} (hc : X.calm = true) (he : DE X E ca e fe) (hr : DA X E cb es fs) (hs : starEach (.Starred e sp :: es) X.env = (true, eval e X.env) :: starEach es X.env := by rfl) :
    DA X E (ca + cb) (.Starred e sp :: es) (fun ρ XQ Q => fe ρ XQ fun x => ∃ kd, x.d = strK kd ∧ fs ρ XQ fun xs => Q ((kd.map fun p => (⟨.str p.1, true, none⟩ : Dv)) ++ xs)) := by
  obtain ⟨t, p, s⟩ := he
  obtain ⟨u, p2, s2⟩ := hr
  refine ⟨fun σ H Q => t σ H fun x H1 => ∃ a kvs, x = .ref a ∧ Rd H1 a (.dK kvs) ∧ u σ H1 fun ys H2 => Q ((kvs.map fun kv => kV kv.1) ++ ys) H2, ⟨fun pos pins s σ H Q I h => ?_⟩, fun F B R H σ ρ α XQ Q K hK hX hB S h k => ?_⟩
  · refine PySem.W.items_star (thn (p.run pins s σ H _ I h) fun v s1 ⟨y, H1, I1, ry, a, xs, ey, hx, q⟩ => ?_) hs
    subst ey
    obtain rfl : v = Value.ref a := ry
    refine star_dK hc I1 hx fun us s2 I2 rv => ?_
    exact thn (p2.run pos pins s2 σ H1 _ I2 q) fun ws s3 ⟨vs, H3, I3, r3, q3⟩ => ⟨_, H3, I3, rv.append r3, q3⟩
  · refine s F B R H σ ρ α XQ _ _ hK hX (by omega) S h fun v x R1 H1 e1 o1 r1 ⟨kd, ed, q1⟩ => ?_
    obtain ⟨a, kvs, rfl, ha, _, l⟩ := strK_at r1 ed
    refine ⟨a, kvs, rfl, ha, ?_⟩
    refine s2 F (B + ca) R1 H1 σ ρ α XQ _ _ hK hX (by omega) (S.ext e1 o1) q1 fun vs xs R2 H2 e2 o2 r2 q2 => ?_
    refine k _ _ R2 H2 (e1.trans e2) (by rw [← Nat.add_assoc]; exact o2) ?_ q2
    have ek : (kvs.map fun kv => kV kv.1) = kd.map fun p => V.str p.1 := by
      have := congrArg (List.map kV) (strK_rp l)
      rw [List.map_map, List.map_map, List.map_map] at this
      exact this
    rw [ek]
    clear ek l ed q1 q2
    induction kd with
    | nil => exact r2
    | cons p kd ih => exact .cons (.of (.str _)) ih
end
end DL

set_option Elab.async false
set_option linter.all false
set_option maxRecDepth 100000
set_option maxHeartbeats 4000000
/-! DL, part ak: a dict of lists that is filled: the last two statements of Plan.__init__. -/
namespace DL
open PySem PySem.Spec PyProof.Rows L2

/-! ### frozen places more -/
theorem StOk.addR {F : Fx} {B : Nat} {R : Reg} {H : Hp} {σ : L2.St} {ρ : Ro} {α : Nat → Addr} (S : StOk F B R H σ ρ α) (T : Reg) (h : ∀ a, T a → ¬ F.mx a ∧ Nn F.H0 a ∧ (∃ o, H a = some o ∧ NoTbl o) ∧ ∀ (j : Nat) d n, ρ[j]? = some (.ow d n) → α j ≠ a) :
    StOk F B (fun a => R a ∨ T a) H σ ρ α ∧ Fz F R H (fun a => R a ∨ T a) H := by
  have z : Fz F R H (fun a => R a ∨ T a) H := ⟨fun _ r => .inl r, fun _ _ _ h _ => h, fun _ _ h => h⟩
  have m : ∀ n, Mv F R H F (fun a => R a ∨ T a) H n n := fun n => z.mv fun z => z
  refine ⟨⟨⟨S.hp.inv, fun a r => r.elim (S.hp.good a) fun t => ⟨(h a t).1, (h a t).2.2.1⟩, S.hp.ent, S.hp.ent2, fun a r => r.elim (S.hp.reg0 a) fun t => .inr (h a t).2.1, S.hp.tab, S.hp.lim, S.hp.pn⟩, S.len, fun i x hi => ?_, fun i d n hi => ?_, S.dis⟩, z⟩
  · obtain ⟨v, e, r⟩ := S.va i x hi
    exact ⟨v, e, r.fz z⟩
  · obtain ⟨e, w⟩ := S.ow i d n hi
    refine ⟨e, fun r => r.elim w.nr fun t => (h _ t).2.2.2 i d n hi rfl, w.nm, w.n0, w.p0, ?_⟩
    have q := w.at_
    cases d with
    | lst ds => obtain ⟨vs, a, b⟩ := q; exact ⟨vs, a, b.fz z⟩
    | dct ds =>
      rcases q with ⟨vs, a, b⟩ | ⟨vs, a, b⟩
      · exact .inl ⟨vs, a, b.mv (m _)⟩
      · exact .inr ⟨vs, a, b.mv (m _)⟩
    | obj k ds => obtain ⟨dx, vs, a, l, b⟩ := q; exact ⟨dx, vs, a, l, b.fz z⟩
    | _ => exact q.elim
/-- an object that no slot owns, that is not frozen, is put -/
theorem StOk.putN {F : Fx} {B : Nat} {R : Reg} {H : Hp} {σ : L2.St} {ρ : Ro} {α : Nat → Addr} (S : StOk F B R H σ ρ α) {l : Addr} {u u0 : HO} (nr : ¬ R l) (nm : ¬ F.mx l) (n0 : Nn F.H0 l) (hu : H l = some u0) (pu : Plain u0) (tu : ∀ xs, u0 ≠ .tup xs) (fu : ∀ ob w, u0 ≠ .frz ob w) (nt : NoTbl u)
    (h : ∀ (j : Nat) d n, ρ[j]? = some (.ow d n) → α j ≠ l) : StOk F B R (upd H l u) σ ρ α ∧ Fz F R H R (upd H l u) := by
  have z : Fz F R H R (upd H l u) := Fz.put nr hu tu fu
  refine ⟨⟨S.hp.put nr nm n0 hu pu nt, S.len, fun i x hi => ?_, fun i d n hi => ?_, S.dis⟩, z⟩
  · obtain ⟨v, e, r⟩ := S.va i x hi
    exact ⟨v, e, r.fz z⟩
  · obtain ⟨e, w⟩ := S.ow i d n hi
    have na := h i d n hi
    refine ⟨e, w.nr, w.nm, w.n0, w.p0, ?_⟩
    have q := w.at_
    cases d with
    | lst ds => obtain ⟨vs, a, b⟩ := q; exact ⟨vs, by rw [upd_ne na]; exact a, b.fz z⟩
    | dct ds =>
      rcases q with ⟨vs, a, b⟩ | ⟨vs, a, b⟩
      · exact .inl ⟨vs, by rw [upd_ne na]; exact a, b.mv (z.mv fun z => z)⟩
      · exact .inr ⟨vs, by rw [upd_ne na]; exact a, b.mv (z.mv fun z => z)⟩
    | obj k ds => obtain ⟨dx, vs, a, l, b⟩ := q; exact ⟨dx, vs, by rw [upd_ne na]; exact a, l, b.fz z⟩
    | _ => exact q.elim
/-- a slot forgotten -/
theorem StOk.unset {F : Fx} {B : Nat} {R : Reg} {H : Hp} {σ : L2.St} {ρ : Ro} {α : Nat → Addr} (S : StOk F B R H σ ρ α) (i : Nat) : StOk F B R H σ (ρ.set i .un) α := by
  refine ⟨S.hp, by rw [List.length_set]; exact S.len, fun j x h => ?_, fun j d n h => ?_, fun j k d1 n1 d2 n2 hj hk => ?_⟩
  · rcases set_get h with ⟨_, q⟩ | ⟨_, h⟩
    · cases q
    · exact S.va j x h
  · rcases set_get h with ⟨_, q⟩ | ⟨_, h⟩
    · cases q
    · exact S.ow j d n h
  · rcases set_get hj with ⟨_, q⟩ | ⟨_, hj⟩
    · cases q
    · rcases set_get hk with ⟨_, q⟩ | ⟨_, hk⟩
      · cases q
      · exact S.dis j k _ _ _ _ hj hk

/-! ### a dict of lists -/
structure Beh (F : Fx) (H : Hp) (R : Reg) (b : Addr) (es : List (Str × Addr × List Str)) : Prop where
  hb : H b = some (.dK (es.map fun e => (.inr e.1, V.ref e.2.1)))
  hl : ∀ e ∈ es, H e.2.1 = some (.lst (e.2.2.map V.str))
  nd : (b :: es.map (·.2.1)).Nodup
  nr : ∀ a ∈ b :: es.map (·.2.1), ¬ R a ∧ ¬ F.mx a ∧ Nn F.H0 a ∧ F.P a
theorem Beh.there {F : Fx} {H : Hp} {R : Reg} {b : Addr} {es : List (Str × Addr × List Str)} (h : Beh F H R b es) {a : Addr} (ha : a ∈ b :: es.map (·.2.1)) : ∃ o, H a = some o ∧ NoTbl o ∧ ∀ C dx fs, o ≠ .ins C dx fs := by
  rcases List.mem_cons.mp ha with rfl | ha
  · exact ⟨_, h.hb, .dK, fun _ _ _ z => nomatch z⟩
  · obtain ⟨e, he, rfl⟩ := List.mem_map.mp ha
    exact ⟨_, h.hl e he, .lst, fun _ _ _ z => nomatch z⟩
theorem Beh.ext {F : Fx} {H H' : Hp} {R R' : Reg} {b : Addr} {es : List (Str × Addr × List Str)} (h : Beh F H R b es) (e : Ext F R H R' H') : Beh F H' R' b es := by
  refine ⟨e.keep _ _ (h.nr b List.mem_cons_self).2.1 h.hb .dK, fun x hx => e.keep _ _ (h.nr _ (List.mem_cons_of_mem _ (List.mem_map.mpr ⟨x, hx, rfl⟩))).2.1 (h.hl x hx) .lst, h.nd, fun a ha => ⟨fun r => ?_, (h.nr a ha).2⟩⟩
  rcases e.new a r with r | r
  · exact (h.nr a ha).1 r
  · obtain ⟨o, ho, nt, _⟩ := h.there ha
    exact r o ho nt
theorem val_beh {es : List (Str × Addr × List Str)} {e : Str × Addr × List Str} : (es.map (·.1)).Nodup → e ∈ es → valV (es.map fun e => ((Sum.inr e.1 : Key), V.ref e.2.1)) (.inr e.1) = some (.ref e.2.1) := by
  induction es with
  | nil => intro _ h; cases h
  | cons a es ih =>
    intro nd h
    rw [List.map_cons] at nd ⊢
    rcases List.mem_cons.mp h with rfl | h
    · exact valV_pos rfl
    · rw [valV_neg (fun z => by
        have z : a.1 = e.1 := Sum.inr.inj z
        exact (List.nodup_cons.mp nd).1 (z ▸ List.mem_map.mpr ⟨e, h, rfl⟩))]
      exact ih (List.nodup_cons.mp nd).2 h
theorem putK_new {kvs : List (Key × V)} {k : Key} {v : V} (h : k ∉ kvs.map (·.1)) : putK kvs k v = kvs ++ [(k, v)] := by
  unfold putK
  rw [if_neg]
  intro z
  obtain ⟨q, hq, e⟩ := List.any_eq_true.mp z
  exact h (of_decide_eq_true e ▸ List.mem_map.mpr ⟨q, hq, rfl⟩)
section
variable {X : Cx} {E : XK} {tg tg2 iter kx idx self : Expr} {fi fs : TDs} {fx : TD} {pos p p1 p2 lp apos : Pos} {x y f : Str}
theorem run_beh {scope : Scope} {ip : Nat} (hc : X.calm = true) (hN : X.N.Nodup) (hi : DI X E 0 tg iter fi) (ok : BlkOk X.N X.env.scope scope [(y, ip)])
    (hg : ∀ s H C cl fp, PG (X.blk s H scope (compEnvC scope cl C X.env) fp) tg (gName ip)) (hk : ∀ s H C cl fp, PE (X.blk s H scope (compEnvC scope cl C X.env) fp) kx (tVar ip)) (hs : ∀ x, foldedSetIterable iter X.env x = pure x := by intro _; rfl) :
    ∃ t : TE, PE X (.DictComp kx (.List [] lp) [⟨tg, iter, [], 0⟩] scope pos) t ∧ ∀ F B R H σ ρ α XQ (P : List Str → Prop) (K : VK), F.K = X.K → XLink F E XQ → B ≤ F.L → StOk F B R H σ ρ α → ip < ρ.length →
      (fi ρ XQ fun xs => ∃ (ks : List Str) (n : Bool), xs = ks.map (fun k => ⟨.str k, n, none⟩) ∧ ks.Nodup ∧ ks.length < BIG ∧ P ks) →
      (∀ b es R' H', Ext F R H R' H' → HpOk F B R' H' → Beh F H' R' b es → (∀ e ∈ es, e.2.2 = []) → (es.map (·.1)).Nodup → es.length < BIG → P (es.map (·.1)) → K (.ref b) H') → t σ H K := by
  obtain ⟨wi, pi, si⟩ := hi
  refine ⟨_, pe_dc hc hN pi ok hg (fun _ _ _ _ _ => pts_nil) hk (fun _ _ _ _ _ => pe_lst pa_nil) hs, fun F B R H σ ρ α XQ P K hK hX hB S hip h k => ?_⟩
  refine si F B R H σ ρ α XQ _ _ hK hX hB S h fun J xs R1 H1 e1 o1 ⟨ks, n, hxs, hnd, hz, hP⟩ w => fun D hD => ?_
  subst hxs
  have n0 := o1.ent2 D (.of hD)
  have nm := mx_none o1.inv hD
  have nr := not_frozen o1 hD
  refine ⟨fun i m H' => m = ks.length - i ∧ i ≤ ks.length ∧ ∃ R' es, Ext F R1 H1 R' H' ∧ HpOk F B R' H' ∧ Beh F H' R' D es ∧ (∀ e ∈ es, e.2.2 = []) ∧ es.map (·.1) = ks.take i,
    ⟨_, rfl, Nat.zero_le _, R1, [], .new0 hD, o1.new0 hD .dK, ⟨upd_same, fun e he => (nomatch he), by simp, fun a ha => by
      rw [List.map_nil, List.mem_singleton] at ha
      subst ha
      exact ⟨nr, nm, n0, o1.pn _ (.of hD)⟩⟩, fun e he => (nomatch he), by simp⟩, ?_⟩
  rintro i m H' ⟨rfl, hi, R', es, e2, o2, bh, he, hks⟩
  have zf : Fz F R1 H1 R' H' := e2.fz o1
  by_cases hlt : i < ks.length
  · refine .inr ?_
    have hx : (ks.map (fun k => (⟨.str k, n, none⟩ : Dv)))[i]? = some ⟨.str ks[i], n, none⟩ := by simp [hlt]
    obtain ⟨go, yl⟩ := (w i _ R' H' zf o2).2 _ hx
    refine ⟨go, fun H2 => ∃ R2 es2, Ext F R1 H1 R2 H2 ∧ HpOk F B R2 H2 ∧ Beh F H2 R2 D es2 ∧ (∀ e ∈ es2, e.2.2 = []) ∧ es2.map (·.1) = ks.take (i + 1), fun H2 q2 => ⟨_, by omega, rfl, hlt, q2⟩, fun v H'' y => ?_⟩
    obtain ⟨R'', ex, ox, rx⟩ := yl v H'' y
    have rv := rx.1
    cases rv
    have hl : ip < σ.length := by rw [S.len]; exact hip
    refine ⟨?_, ?_⟩
    · show (((σ.set ip none).set ip (some (V.str ks[i]))).set ip none) = σ.set ip none
      rw [List.set_set, List.set_set]
    refine ⟨V.str ks[i], ?_, ?_⟩
    · show ((σ.set ip none).set ip (some (V.str ks[i])))[ip]? = _
      rw [List.getElem?_set_self (by rw [List.length_set]; exact hl)]
    refine ⟨Nat.zero_le _, fun q hq => ?_⟩
    have bh2 := bh.ext ex
    have hqD : D ≠ q := fun z => by subst z; rw [bh2.hb] at hq; cases hq
    have hqs : ∀ a ∈ D :: es.map (·.2.1), a ≠ q := fun a ha z => by
      obtain ⟨o, ho, _⟩ := bh2.there ha
      rw [z, hq] at ho
      cases ho
    have hlen : es.length = i := by
      have := congrArg List.length hks
      rw [List.length_map, List.length_take] at this
      omega
    have hD5 : (upd H'' q (.lst [])) D = some (.dK (es.map fun e => (.inr e.1, V.ref e.2.1))) := by rw [upd_ne hqD]; exact bh2.hb
    have hnew : (Sum.inr ks[i] : Key) ∉ (es.map fun e => ((Sum.inr e.1 : Key), V.ref e.2.1)).map (·.1) := fun z => by
      rw [List.map_map] at z
      obtain ⟨e, he2, ee⟩ := List.mem_map.mp z
      have ee : e.1 = ks[i] := Sum.inr.inj ee
      have hm : ks[i] ∈ ks.take i := by rw [← hks]; exact List.mem_map.mpr ⟨e, he2, ee⟩
      have h1 : (ks.take i ++ ks.drop i).Nodup := by rw [List.take_append_drop]; exact hnd
      exact (List.nodup_append.mp h1).2.2 _ hm _ (by rw [List.drop_eq_getElem_cons hlt]; exact List.mem_cons_self) rfl
    refine ⟨_, .inr ks[i], rfl, hD5, lt_line (by rw [List.length_map, hlen]; omega), R'', es ++ [(ks[i], q, [])], ?_, ?_, ⟨?_, ?_, ?_, ?_⟩, ?_, ?_⟩
    · have e3 : Ext F R1 H1 R'' H'' := e2.trans ex
      refine ⟨e3.reg, fun b o m hb nt => ?_, e3.new, fun b hb => ?_⟩
      · have h'' := e3.keep b o m hb nt
        rw [upd_ne (ne_of_none hb hD), upd_ne (ne_of_none h'' hq)]
        exact h''
      · by_cases z : b = D
        · rw [z]; exact .of hD
        · refine e3.there b fun u hu => ?_
          by_cases z2 : b = q
          · subst z2; rw [hq] at hu; cases hu
          · exact hb u (by rw [upd_ne z, upd_ne z2]; exact hu)
    · exact (ox.new0 hq .lst).put (bh2.nr D List.mem_cons_self).1 nm n0 hD5 .dK .dK
    · rw [upd_same, putK_new hnew, List.map_append]
      rfl
    · intro e he2
      rcases List.mem_append.mp he2 with he2 | he2
      · have ha : e.2.1 ∈ es.map (·.2.1) := List.mem_map.mpr ⟨e, he2, rfl⟩
        rw [upd_ne (fun z => (List.nodup_cons.mp bh2.nd).1 (by rw [z] at ha; exact ha)), upd_ne (hqs _ (List.mem_cons_of_mem _ ha))]
        exact bh2.hl e he2
      · rw [List.mem_singleton] at he2
        subst he2
        rw [upd_ne (Ne.symm hqD), upd_same]
        rfl
    · rw [List.map_append, ← List.cons_append]
      refine List.nodup_append.mpr ⟨bh2.nd, by simp, fun a ha c hc2 => ?_⟩
      simp only [List.map_cons, List.map_nil, List.mem_singleton] at hc2
      rw [hc2]
      exact hqs a ha
    · intro a ha
      rw [List.map_append, ← List.cons_append] at ha
      rcases List.mem_append.mp ha with ha | ha
      · exact bh2.nr a ha
      · simp only [List.map_cons, List.map_nil, List.mem_singleton] at ha
        subst ha
        exact ⟨not_frozen ox hq, mx_none ox.inv hq, ox.ent2 _ (.of hq), ox.pn _ (.of hq)⟩
    · intro e he2
      rcases List.mem_append.mp he2 with he2 | he2
      · exact he e he2
      · rw [List.mem_singleton] at he2
        subst he2
        rfl
    · rw [List.map_append, hks, List.take_succ_eq_append_getElem hlt]
      rfl
  · have hle : i = ks.length := by omega
    subst hle
    refine .inl ⟨(w _ _ R' H' zf o2).1 (by rw [List.length_map]), ?_⟩
    rw [List.take_length] at hks
    exact k D es R' H' (e1.trans e2) o2 bh he (by rw [hks]; exact hnd) (by have := congrArg List.length hks; rw [List.length_map] at this; omega) (by rw [hks]; exact hP)
end
theorem inj_nodup {α β : Type} {f : α → β} {l : List α} (h : (l.map f).Nodup) {a b : α} (ha : a ∈ l) (hb : b ∈ l) (e : f a = f b) : a = b := by
  induction l with
  | nil => cases ha
  | cons c l ih =>
    rw [List.map_cons, List.nodup_cons] at h
    rcases List.mem_cons.mp ha with ea | ha <;> rcases List.mem_cons.mp hb with eb | hb
    · rw [ea, eb]
    · exact absurd (List.mem_map.mpr ⟨b, hb, by rw [← e, ea]⟩) h.1
    · exact absurd (List.mem_map.mpr ⟨a, ha, by rw [e, eb]⟩) h.1
    · exact ih h.2 ha hb
def addE (key z : Str) (e : Str × Addr × List Str) : Str × Addr × List Str := (e.1, e.2.1, if e.1 = key then e.2.2 ++ [z] else e.2.2)
theorem Beh.add {F : Fx} {H : Hp} {R : Reg} {b : Addr} {es : List (Str × Addr × List Str)} (h : Beh F H R b es) (ndk : (es.map (·.1)).Nodup) {e : Str × Addr × List Str} (he : e ∈ es) (z : Str) :
    Beh F (upd H e.2.1 (.lst (e.2.2.map V.str ++ [V.str z]))) R b (es.map (addE e.1 z)) := by
  have ea : (es.map (addE e.1 z)).map (·.2.1) = es.map (·.2.1) := by rw [List.map_map]; rfl
  have hm : e.2.1 ∈ es.map (·.2.1) := List.mem_map.mpr ⟨e, he, rfl⟩
  refine ⟨?_, fun x hx => ?_, by rw [ea]; exact h.nd, fun a ha => by rw [ea] at ha; exact h.nr a ha⟩
  · rw [upd_ne (fun q => (List.nodup_cons.mp h.nd).1 (by rw [q]; exact hm)), h.hb, List.map_map]
    rfl
  · obtain ⟨x', hx', rfl⟩ := List.mem_map.mp hx
    by_cases hk : x'.1 = e.1
    · have := inj_nodup ndk hx' he hk
      subst this
      show upd H x'.2.1 _ x'.2.1 = some (.lst ((if x'.1 = x'.1 then x'.2.2 ++ [z] else x'.2.2).map V.str))
      rw [upd_same, if_pos rfl, List.map_append]
      rfl
    · have ne : x'.2.1 ≠ e.2.1 := fun q => hk (by rw [inj_nodup (List.nodup_cons.mp h.nd).2 hx' he q])
      show upd H e.2.1 _ x'.2.1 = some (.lst ((if x'.1 = e.1 then x'.2.2 ++ [z] else x'.2.2).map V.str))
      rw [upd_ne ne, if_neg hk]
      exact h.hl x' hx'
theorem Beh.other {F : Fx} {H : Hp} {R : Reg} {b : Addr} {es : List (Str × Addr × List Str)} (h : Beh F H R b es) {c : Addr} (hc : c ∉ b :: es.map (·.2.1)) (o : HO) : Beh F (upd H c o) R b es :=
  ⟨by rw [upd_ne (fun z => hc (by rw [← z]; exact List.mem_cons_self))]; exact h.hb, fun e he => by rw [upd_ne (fun z => hc (by rw [← z]; exact List.mem_cons_of_mem _ (List.mem_map.mpr ⟨e, he, rfl⟩)))]; exact h.hl e he, h.nd, h.nr⟩
/-- an own thing told otherwise -/
theorem StOk.redata {F : Fx} {B : Nat} {R : Reg} {H : Hp} {σ : L2.St} {ρ : Ro} {α : Nat → Addr} (S : StOk F B R H σ ρ α) {i : Nat} {d : D} {n : Bool} (h : ρ[i]? = some (.ow d n)) {d' : D} {m : Bool} (hat : OwAt F H R (α i) m d') : StOk F B R H σ (ρ.set i (.ow d' m)) α := by
  obtain ⟨e, w⟩ := S.ow i _ _ h
  refine ⟨S.hp, by rw [List.length_set]; exact S.len, fun j x hj => ?_, fun j d k hj => ?_, fun j k d1 n1 d2 n2 hj hk ea => ?_⟩
  · rcases set_get hj with ⟨_, q⟩ | ⟨ne, hj'⟩
    · cases q
    · exact S.va j x hj'
  · rcases set_get hj with ⟨ej, q⟩ | ⟨ne, hj'⟩
    · cases q
      rw [ej]
      exact ⟨e, w.nr, w.nm, w.n0, w.p0, hat⟩
    · exact S.ow j d k hj'
  · rcases set_get hj with ⟨ej, _⟩ | ⟨nj, hj'⟩ <;> rcases set_get hk with ⟨ek, _⟩ | ⟨nk, hk'⟩
    · rw [ej, ek]
    · rw [ej] at ea ⊢
      exact S.dis i k _ _ _ _ h hk' ea
    · rw [ek] at ea ⊢
      exact S.dis j i _ _ _ _ hj' h ea
    · exact S.dis j k _ _ _ _ hj' hk' ea
theorem beh_rp {F : Fx} {H : Hp} {R R' : Reg} {b : Addr} {es0 : List (Str × Addr × List Str)} (h : Beh F H R b es0) (hR : ∀ a ∈ b :: es0.map (·.2.1), R' a) {n : Bool} : ∀ es : List (Str × Addr × List Str), (∀ e ∈ es, e ∈ es0) →
    RpK F H R' n (es.map fun e => (.inr e.1, V.ref e.2.1)) (es.map fun e => (.str e.1, .lst (e.2.2.map D.str)))
  | [], _ => .nil
  | e :: es, hm => by
    have he := hm e List.mem_cons_self
    have ha : e.2.1 ∈ b :: es0.map (·.2.1) := List.mem_cons_of_mem _ (List.mem_map.mpr ⟨e, he, rfl⟩)
    refine .consS (.lst (h.hl e he) (hR _ ha) (fun _ => (h.nr _ ha).2.2.2) ?_) (beh_rp h hR es fun x hx => hm x (List.mem_cons_of_mem _ hx))
    generalize e.2.2 = l
    induction l with
    | nil => exact .nil
    | cons x l ih => exact .cons (.str x) ih
section
variable {X : Cx} {E : XK} {tg tg2 iter iter2 kx idx self : Expr} {fi fs : TDs} {fx : TD} {pos pos2 cpos p p1 p2 p3 p4 lp apos : Pos} {x y f : Str}
theorem dss_behind {scope : Scope} {self2 : Expr} {i ip : Nat} {y2 : Str} {p5 p6 p7 p8 : Pos} (hc : X.calm = true) (hN : X.N.Nodup) (hu0 : X.A.units + 64 < cLine) (hC : ClT X.K 0) (hp : PassesOwn (model X.prog X.w) X.A X.env X.xe) (va : PE X self (tVar i)) (va2 : PE X self2 (tVar i))
    (hi : DI X E 0 tg iter fi) (ok : BlkOk X.N X.env.scope scope [(y, ip)]) (hg : ∀ s H C cl fp, PG (X.blk s H scope (compEnvC scope cl C X.env) fp) tg (gName ip)) (hk : ∀ s H C cl fp, PE (X.blk s H scope (compEnvC scope cl C X.env) fp) kx (tVar ip))
    (hz : DI X E 0 tg2 iter2 fs) (hg2 : PG X tg2 (gName ip)) (hx : DE X E 0 idx fx) (hns : NoSl idx)
    (hb : ∀ t, PE X (.Subscript (.Attribute self2 "own_behind" p3) idx p4) t → PSs X [.Expr (.Call (.Attribute (.Subscript (.Attribute self2 "own_behind" p3) idx p4) "append" p5) [.Name y2 p6] [] p7) p8] (tDrop (tBM X.K "list" rAppend t (tCons (tVar ip) tNil))))
    (hsw : swapsWith (.DictComp kx (.List [] lp) [⟨tg, iter, [], 0⟩] scope cpos) (some (.Attribute self "own_behind" p2)) pos.line X.env = pure false := by rfl)
    (hab : attributeBase self2 "own_behind" X.env (eval self2 X.env) = eval self2 X.env := by rfl)
    (hs : ∀ x, foldedSetIterable iter X.env x = pure x := by intro _; rfl) (hs2 : ∀ x, foldedSetIterable iter2 X.env x = pure x := by intro _; rfl) :
    DSs X E 0 [.Assign [.Attribute self "own_behind" p2] (.DictComp kx (.List [] lp) [⟨tg, iter, [], 0⟩] scope cpos) pos, .For tg2 iter2 [.Expr (.Call (.Attribute (.Subscript (.Attribute self2 "own_behind" p3) idx p4) "append" p5) [.Name y2 p6] [] p7) p8] [] pos2] (fun N ρ XQ => ip < ρ.length ∧ ip ≠ i ∧ ∃ a d1 d2 d3 d4 m,
      ρ[i]? = some (.ow (.obj (pk a 5) [d1, d2, d3, d4]) m) ∧ (∀ (j : Nat) d n, ρ[j]? = some (.ow d n) → j = i) ∧ fi ρ XQ fun xs => ∃ (ks : List Str) (n : Bool), xs = ks.map (fun k => ⟨.str k, n, none⟩) ∧ ks.Nodup ∧ ks.length < BIG ∧
      ∀ b, fs (ρ.set i (.ow (.obj (pk a 0) [d1, d2, d3, d4, .vee (.ref b)]) m)) XQ fun ys => ∃ (zs : List Str) (n2 : Bool), ys = zs.map (fun z => ⟨.str z, n2, none⟩) ∧ zs.length < BIG ∧ ∃ par : Str → Str,
        (∀ z ∈ zs, par z ∈ ks ∧ fx ((ρ.set i (.ow (.obj (pk a 0) [d1, d2, d3, d4, .vee (.ref b)]) m)).set ip (.va ⟨.str z, n2, none⟩)) XQ fun k => k.d = .str (par z)) ∧
        N.nx ((ρ.set i (.ow (.obj (pk a 0) [d1, d2, d3, d4, .dct (ks.map fun k => (.str k, .lst ((zs.filter fun z => par z == k).map D.str)))]) m)).set ip .un)) := by
  have hu : X.A.units + 1 < cLine := by omega
  obtain ⟨tb, pb, sb⟩ := run_beh (lp := lp) (pos := cpos) hc hN hi ok hg hk hs
  obtain ⟨wz, pz, sz⟩ := hz
  obtain ⟨tx, px, sx⟩ := hx
  refine ⟨_, pss_cons (ps_fld va pb hsw) (pss_one (ps_for hp hc pz hg2 (hb _ (pe_dget hu (pe_fld va2 hab) px hns)) hs2)), fun F B R H σ ρ α XQ N K hK hX hB S ⟨hip, hne, a, d1, d2, d3, d4, m, h0, hown, h⟩ k => ?_⟩
  have hB : B ≤ F.L := hB
  refine sb F B R H σ ρ α XQ _ _ hK hX hB S hip h fun b es R1 H1 e1 o1 bh hes hndk hlen hP => ?_
  have S1 := S.ext e1 o1
  obtain ⟨ev, w⟩ := S1.ow i _ _ h0
  obtain ⟨dx, vs, hv, ⟨hl, hpn⟩, lv⟩ := w.at_
  have ea : a = α i := (pin_pk (by decide)).mp hpn
  have hC5 : objC F.K (pk a 5) = objC X.K 0 := by rw [hK]; exact objC_plan (by rw [pk_mod (by decide)]; decide)
  have hC0 : objC F.K (pk a 0) = objC X.K 0 := by rw [hK]; exact objC_plan (by rw [pk_mod (by decide)]; decide)
  have hN5 : objN (pk a 5) = objNr 5 := objN_pk (by decide)
  have hN0 : objN (pk a 0) = objNr 5 ++ [("own_behind" : Str)] := objN_pk (j := 0) (by decide)
  have hfn : ("own_behind" : Str) ∉ objN (pk a 5) := by rw [hN5]; decide +kernel
  have hf0 : ("own_behind" : Str) ∈ objN 0 := by decide +kernel
  refine ⟨_, ev, α i, objC F.K (pk a 5), dx, _, rfl, hv, by rw [hC5]; exact hC.cls, by rw [hC5]; exact hC.no _ hf0, ?_, ?_⟩
  · rw [List.length_zip, hN5]
    exact Nat.lt_of_le_of_lt (Nat.min_le_left _ _) (by decide)
  rw [putF_zip hl hfn]
  have zz : Fz F R1 H1 R1 (upd H1 (α i) (.ins (objC F.K (pk a 5)) dx ((objN (pk a 5) ++ [("own_behind" : Str)]).zip (vs ++ [V.ref b])))) := Fz.put w.nr hv (fun _ z => nomatch z) fun _ _ z => nomatch z
  obtain ⟨S2, z2⟩ := S1.setG h0 (u := .ins (objC F.K (pk a 5)) dx ((objN (pk a 5) ++ [("own_behind" : Str)]).zip (vs ++ [V.ref b]))) hv .ins (fun _ z => nomatch z) (fun _ _ z => nomatch z) .ins (d' := .obj (pk a 0) [d1, d2, d3, d4, .vee (.ref b)]) (m := m)
    ⟨dx, vs ++ [V.ref b], by rw [upd_same, hC0, hC5, hN0, hN5], ⟨by rw [hN0, List.length_append, List.length_append, ← hl, hN5]; rfl, (pin_pk (by decide)).mpr ea⟩, ((lv.app (.cons (.vee (V.ref b)) .nil)).fz zz)⟩
  have hai : α i ∉ b :: es.map (·.2.1) := fun hm => by
    obtain ⟨o, ho, _, hno⟩ := bh.there hm
    rw [hv] at ho
    cases ho
    exact hno _ _ _ rfl
  have bh2 := bh.other hai (.ins (objC F.K (pk a 5)) dx ((objN (pk a 5) ++ [("own_behind" : Str)]).zip (vs ++ [V.ref b])))
  generalize hH2 : upd H1 (α i) (.ins (objC F.K (pk a 5)) dx ((objN (pk a 5) ++ [("own_behind" : Str)]).zip (vs ++ [V.ref b]))) = H2 at S2 z2 bh2
  refine sz F B R1 H2 σ _ α XQ _ _ hK hX hB S2 (hP b) fun J ys R3 H3 e3 o3 ⟨zs, n2, hys, hzl, par, hpar, hnx⟩ wk => ?_
  subst hys
  have zA : Fz F R H R3 H3 := ((e1.fz S.hp).trans z2).trans (e3.fz S2.hp)
  have S3 := (S2.ext e3 o3).unset ip
  have bh3 := bh2.ext e3
  have hil : i < ρ.length := (List.getElem?_eq_some_iff.mp h0).1
  refine ⟨fun j m' σ' H' => m' = zs.length - j ∧ j ≤ zs.length ∧ ∃ R' es', Fz F R3 H3 R' H' ∧ StOk F B R' H' σ' ((ρ.set i (.ow (.obj (pk a 0) [d1, d2, d3, d4, .vee (.ref b)]) m)).set ip .un) α ∧ Beh F H' R' b es' ∧ es'.map (·.1) = es.map (·.1) ∧ ∀ e ∈ es', e.2.2 = (zs.take j).filter fun z => par z == e.1,
    ⟨_, rfl, Nat.zero_le _, R3, es, .refl, S3, bh3, rfl, fun e he => by rw [hes e he]; rfl⟩, ?_⟩
  rintro j m' σ' H' ⟨rfl, hj, R', es', z', S', bh', hk', hf'⟩
  have ownNe : ∀ {ρ' : Ro}, (∀ (j : Nat) d n, ρ'[j]? = some (.ow d n) → j = i) → ∀ {H' R' es'}, Beh F H' R' b es' → (∃ C dx fs, H' (α i) = some (.ins C dx fs)) → ∀ c ∈ b :: es'.map (·.2.1), ∀ (j : Nat) d n, ρ'[j]? = some (.ow d n) → α j ≠ c := fun {ρ'} ho {H' R' es'} bh ⟨C, dx, fs, hC⟩ c hc j d n hj q => by
    rw [ho j d n hj] at q
    obtain ⟨o, ho, _, hno⟩ := bh.there hc
    rw [← q, hC] at ho
    cases ho
    exact hno _ _ _ rfl
  by_cases hlt : j < zs.length
  · refine .inr ?_
    have hxx : (zs.map (fun z => (⟨.str z, n2, none⟩ : Dv)))[j]? = some ⟨.str zs[j], n2, none⟩ := by simp [hlt]
    obtain ⟨go, yl⟩ := (wk j _ R' H' z' S'.hp).2 _ hxx
    refine ⟨go, fun σ2 H2 => ∃ R2 es2, Fz F R3 H3 R2 H2 ∧ StOk F B R2 H2 σ2 ((ρ.set i (.ow (.obj (pk a 0) [d1, d2, d3, d4, .vee (.ref b)]) m)).set ip .un) α ∧ Beh F H2 R2 b es2 ∧ es2.map (·.1) = es.map (·.1) ∧ ∀ e ∈ es2, e.2.2 = (zs.take (j + 1)).filter fun z => par z == e.1, fun σ2 H2 q2 => ⟨_, by omega, rfl, hlt, q2⟩, fun v H'' y => ?_⟩
    obtain ⟨R'', ex, ox, rx⟩ := yl v H'' y
    have rv := rx.1
    cases rv
    have S4 := (S'.ext ex ox).setva ip (x := ⟨.str zs[j], n2, none⟩) (v := .str zs[j]) rx
    rw [List.set_set] at S4
    have bh4 := bh'.ext ex
    obtain ⟨hpk, hfx⟩ := hpar zs[j] (List.getElem_mem hlt)
    have h4 : ((ρ.set i (.ow (.obj (pk a 0) [d1, d2, d3, d4, .vee (.ref b)]) m)).set ip (.va ⟨.str zs[j], n2, none⟩))[i]? = some (.ow (.obj (pk a 0) [d1, d2, d3, d4, .vee (.ref b)]) m) := by
      rw [List.getElem?_set_ne hne, List.getElem?_set_self hil]
    obtain ⟨e4, w4⟩ := S4.ow i _ _ h4
    obtain ⟨dx4, vs4, hv4, ⟨hl4, _⟩, lv4⟩ := w4.at_
    obtain ⟨w5, hw5, r5⟩ := lv4.get (i := 4) (d := .vee (.ref b)) rfl
    cases r5
    have hfi : (objN (pk a 0))[4]? = some ("own_behind" : Str) := by rw [hN0]; rfl
    refine ⟨_, e4, _, objC F.K (pk a 0), dx4, _, .ref b, rfl, hv4, by rw [hC0]; exact hC.cls, by rw [hC0]; exact hC.no _ hf0, zip_look (objN_nodup _) hfi hw5, ?_⟩
    refine sx F B R'' H'' _ _ α XQ _ _ hK hX hB S4 hfx fun vk xk R5 H5 e5 o5 r5 hxk => ?_
    have r6 := r5.1
    rw [hxk] at r6
    cases r6
    have S5 := S4.ext e5 o5
    have bh5 := bh4.ext e5
    have hndk' : (es'.map (·.1)).Nodup := by rw [hk']; exact hndk
    rw [← hk'] at hpk
    obtain ⟨e, he, ep⟩ := List.mem_map.mp hpk
    have hval := val_beh hndk' he
    rw [ep] at hval
    refine ⟨b, .ref e.2.1, rfl, hval ▸ DGet.k (k := .inr (par zs[j])) bh5.hb, ?_⟩
    refine ⟨Or.inl ⟨rfl, _, SqL.of (bh5.hl e he)⟩, ?_⟩
    have hσl : ip < σ'.length := by rw [S'.len, List.length_set, List.length_set]; exact hip
    refine ⟨V.str zs[j], List.getElem?_set_self hσl, e.2.1, e.2.2.map V.str, V.str zs[j], rfl, rfl, bh5.hl e he, lt_line ?_, ?_⟩
    · rw [List.length_map, hf' e he]
      have h1 := List.length_filter_le (fun z => par z == e.1) (zs.take j)
      rw [List.length_take] at h1
      omega
    have hma : e.2.1 ∈ b :: es'.map (·.2.1) := List.mem_cons_of_mem _ (List.mem_map.mpr ⟨e, he, rfl⟩)
    obtain ⟨n1, nm1, n01, _⟩ := bh5.nr _ hma
    have how : ∀ (j' : Nat) d n, ((ρ.set i (.ow (.obj (pk a 0) [d1, d2, d3, d4, .vee (.ref b)]) m)).set ip (.va ⟨.str zs[j], n2, none⟩))[j']? = some (.ow d n) → j' = i := fun j' d n hj' => by
      rcases set_get hj' with ⟨_, q⟩ | ⟨_, hj'⟩
      · cases q
      · rcases set_get hj' with ⟨q, _⟩ | ⟨_, hj'⟩
        · exact q
        · exact hown j' d n hj'
    have hins : ∃ C dx fs, H5 (α i) = some (.ins C dx fs) := by
      obtain ⟨_, w6⟩ := S5.ow i _ _ h4
      obtain ⟨dx6, vs6, hv6, _⟩ := w6.at_
      exact ⟨_, _, _, hv6⟩
    obtain ⟨S6, z6⟩ := S5.putN (l := e.2.1) (u := .lst (e.2.2.map V.str ++ [V.str zs[j]])) n1 nm1 n01 (bh5.hl e he) .lst (fun _ z => nomatch z) (fun _ _ z => nomatch z) .lst (ownNe how bh5 hins _ hma)
    have S7 := S6.unset ip
    rw [List.set_set] at S7
    refine ⟨R5, es'.map (addE e.1 zs[j]), ((z'.trans (ex.fz S'.hp)).trans (e5.fz ox)).trans z6, S7, bh5.add hndk' he zs[j], by rw [List.map_map]; exact hk', fun x hx => ?_⟩
    obtain ⟨x', hx', rfl⟩ := List.mem_map.mp hx
    rw [List.take_succ_eq_append_getElem hlt, List.filter_append]
    show (if x'.1 = e.1 then x'.2.2 ++ [zs[j]] else x'.2.2) = List.filter (fun z => par z == x'.1) (zs.take j) ++ List.filter (fun z => par z == x'.1) [zs[j]]
    rw [← hf' x' hx', List.filter_cons]
    by_cases hq : x'.1 = e.1
    · rw [if_pos hq, if_pos (by rw [hq, ep]; exact beq_self_eq_true _)]
      rfl
    · rw [if_neg hq, if_neg (by rw [← ep]; simpa using fun z => hq z.symm)]
      simp
  · have hle : j = zs.length := by omega
    subst hle
    refine .inl ⟨(wk _ _ R' H' z' S'.hp).1 (by rw [List.length_map]), ?_⟩
    rw [List.take_length] at hf'
    have h4 : ((ρ.set i (.ow (.obj (pk a 0) [d1, d2, d3, d4, .vee (.ref b)]) m)).set ip .un)[i]? = some (.ow (.obj (pk a 0) [d1, d2, d3, d4, .vee (.ref b)]) m) := by
      rw [List.getElem?_set_ne hne, List.getElem?_set_self hil]
    have how : ∀ (j' : Nat) d n, ((ρ.set i (.ow (.obj (pk a 0) [d1, d2, d3, d4, .vee (.ref b)]) m)).set ip .un)[j']? = some (.ow d n) → j' = i := fun j' d n hj' => by
      rcases set_get hj' with ⟨_, q⟩ | ⟨_, hj'⟩
      · cases q
      · rcases set_get hj' with ⟨q, _⟩ | ⟨_, hj'⟩
        · exact q
        · exact hown j' d n hj'
    have hins : ∃ C dx fs, H' (α i) = some (.ins C dx fs) := by
      obtain ⟨_, w6⟩ := S'.ow i _ _ h4
      obtain ⟨dx6, vs6, hv6, _⟩ := w6.at_
      exact ⟨_, _, _, hv6⟩
    obtain ⟨S7, z7⟩ := S'.addR (fun c => c ∈ b :: es'.map (·.2.1)) fun c hc => ⟨(bh'.nr c hc).2.1, (bh'.nr c hc).2.2.1, (bh'.there hc).imp fun o h => ⟨h.1, h.2.1⟩, ownNe how bh' hins c hc⟩
    obtain ⟨e7, w7⟩ := S7.ow i _ _ h4
    obtain ⟨dx7, vs7, hv7, hl7, lv7⟩ := w7.at_
    obtain ⟨w8, hw8, r8⟩ := lv7.get (i := 4) (d := .vee (.ref b)) rfl
    cases r8
    have rb : RpD F H' (fun c => R' c ∨ c ∈ b :: es'.map (·.2.1)) m (.ref b) (.dct ((es.map (·.1)).map fun k => (.str k, .lst ((zs.filter fun z => par z == k).map D.str)))) := by
      refine .dK (.of bh'.hb) (.inr List.mem_cons_self) (fun _ => (bh'.nr b List.mem_cons_self).2.2.2) ?_
      have := beh_rp (R' := fun c => R' c ∨ c ∈ b :: es'.map (·.2.1)) bh' (fun c hc => .inr hc) (n := m) es' fun e he => he
      rw [← hk', List.map_map]
      have e9 : (es'.map fun e => ((.str e.1 : D), D.lst (e.2.2.map D.str))) = es'.map ((fun k => ((.str k : D), D.lst ((zs.filter fun z => par z == k).map D.str))) ∘ (·.1)) := List.map_congr_left fun e he => by
        rw [hf' e he]
        rfl
      rw [← e9]
      exact this
    generalize (D.dct ((es.map (·.1)).map fun k => (.str k, .lst ((zs.filter fun z => par z == k).map D.str)))) = dd at rb hnx
    have l9 := lv7.set 4 rb
    have hvs : vs7.set 4 (.ref b) = vs7 := by
      apply List.ext_getElem?
      intro q
      by_cases hq : q = 4
      · subst hq
        rw [List.getElem?_set_self (List.getElem?_eq_some_iff.mp hw8).1, hw8]
      · rw [List.getElem?_set_ne (Ne.symm hq)]
    rw [hvs] at l9
    have S8 := S7.redata h4 (d' := .obj (pk a 0) [d1, d2, d3, d4, dd]) (m := m) ⟨dx7, vs7, hv7, hl7, l9⟩
    rw [List.set_comm _ _ hne, List.set_set] at S8
    exact k.nx σ' H' _ _ α ((zA.trans z').trans z7) S8 hnx
end
end DL

set_option Elab.async false
set_option linter.all false
set_option maxRecDepth 100000
set_option maxHeartbeats 4000000
/-! DL, part al: texts gone through, enumerate of a list or a tuple, texts of the top. -/
namespace DL
open PySem PySem.Spec PyProof.Rows L2

/-- what the head tells of a method -/
structure MethT (K : PySem.W.Frag) (x q : Str) (st : Stmt) (ps : List Str) where
  f : Addr
  fd : FuncData
  ok : FunD K x q (defArgs st) (defBody st) (defScope st) [] [] f fd
  b : Binds K fd ps []
theorem erase_perm {α : Type} : ∀ {l : List α} {j : Nat} (h : j < l.length), (l[j] :: l.eraseIdx j).Perm l
  | a :: l, 0, _ => .refl _
  | a :: l, j + 1, h => by
    have := erase_perm (l := l) (j := j) (by simpa using h)
    simp only [List.getElem_cons_succ, List.eraseIdx_cons_succ]
    exact (List.Perm.swap _ _ _).trans (this.cons a)
def iEnumA (K : PySem.W.Frag) (ta : TA) : TI := fun σ H R => ta σ H fun vs H1 => ∃ a, vs = [.ref a] ∧ ((∃ xs, SqL K H1 a xs ∧ R (Ite K a) H1) ∨ ∃ xs, SqT K H1 a xs ∧ R (IteT K a) H1)
theorem pi_enumA {X : Cx} {e : Expr} {ta : TA} {p pos tpos : Pos} {elts : List Expr} {kk : Nat} (hg : Gl X "enumerate") (hm : X.mg "enumerate" = none) (ha : PA X [e] ta) (hs : starEach [e] X.env = [(false, eval e X.env)] := by rfl) :
    PI X (.Tuple elts kk tpos) (.Call (.Name "enumerate" p) [e] [] pos) (iEnumA X.K ta) := by
  refine ⟨fun pins s σ H R I h => ?_⟩
  refine Call_ (ld_blt I hg hm boot_enumerate (PyProof.Rows.callWith_type1 (thn (ha.run pos pins s σ H _ I h) fun us s1 ⟨vs, H1, I1, r1, q1⟩ => ?_) hs rfl))
  obtain ⟨a, ex, q1⟩ := q1
  subst ex
  cases r1 with
  | cons r rr =>
    cases rr
    cases r
    have fin : ∀ h' : Heap, ∀ b ∈ [s1.heap.objs.size + 1, s1.heap.objs.size], FpOk X pins H1 b := fun h' b hb => by
      have e' : b = s1.heap.objs.size + 1 ∨ b = s1.heap.objs.size := by simpa using hb
      have hle : s1.heap.objs.size ≤ b := by
        rcases e' with z | z
        · rw [z]; exact Nat.le_add_right _ _
        · rw [z]; exact Nat.le_refl _
      exact I1.fpOk hle (I1.hok.fresh hle)
    rcases q1 with ⟨xs, hq, q⟩ | ⟨xs, hq, q⟩
    · obtain ⟨its, rv, p', hz⟩ := I1.list hq
      refine call_enumerate_list p'.isList fun h' he hit hsz hk => wpAny_pyIter_enum he ?_
      have I2 : Inv X pins σ H1 { s1 with heap := h' } := I1.kept (t' := s1.toks) hk
      exact ⟨s1.heap.objs.size + 1, [s1.heap.objs.size + 1, s1.heap.objs.size], _, _, H1, rfl, I2, turn_enum a (s1.heap.objs.size + 1) s1.heap.objs.size, ⟨⟨.none, he⟩, hit, Nat.succ_ne_self _⟩, fin h', q⟩
    · obtain ⟨its, rv, p', hz⟩ := I1.tuple hq
      refine call_enum1 (PySem.begins_tuple a its.toArray) p' fun h' he hit hsz hk => wpAny_pyIter_enum he ?_
      have I2 : Inv X pins σ H1 { s1 with heap := h' } := I1.kept (t' := s1.toks) hk
      exact ⟨s1.heap.objs.size + 1, [s1.heap.objs.size + 1, s1.heap.objs.size], _, _, H1, rfl, I2, turn_enumT a (s1.heap.objs.size + 1) s1.heap.objs.size, ⟨⟨.none, he⟩, ⟨_, hit, rfl, rfl⟩, Nat.succ_ne_self _⟩, fin h', q⟩
/-- the signs of a text -/
def sgn (x : Str) : List Dv := x.cps.toList.map fun c => ⟨.str ⟨#[c]⟩, true, none⟩
theorem walks_str {F : Fx} {R : Reg} {H : Hp} {x : Str} : Walks F R H (Its x) (sgn x) := fun i B R' H' z o => by
  unfold sgn
  refine ⟨fun hl => by rw [hl, List.length_map]; exact Nat.le_refl _, fun y hy => ?_⟩
  rw [List.getElem?_map] at hy
  cases e : x.cps.toList[i]? with
  | none => rw [e] at hy; cases hy
  | some c =>
    rw [e] at hy
    cases hy
    have hi : i < x.cps.size := by
      have := (List.getElem?_eq_some_iff.mp e).1
      rwa [Array.length_toList] at this
    refine ⟨hi, fun u H'' ⟨e1, c', e2, e3⟩ => ?_⟩
    subst e1 e3
    rw [← Array.getElem?_toList, e] at e2
    cases e2
    exact ⟨R', .refl, o, .of (.str _)⟩
section
variable {X : Cx} {E : XK} {c ca cb : Nat} {a b e tg : Expr} {fe fa fb : TD} {fs : TDs} {pos p : Pos} {x : Str}
/-- enumerate(a list or a tuple) -/
theorem di_enumA {elts : List Expr} {kk : Nat} {tpos : Pos} (hg : Gl X "enumerate") (hm : X.mg "enumerate" = none) (ha : DA X E c [a] fs) (hs : starEach [a] X.env = [(false, eval a X.env)] := by rfl) :
    DI X E c (.Tuple elts kk tpos) (.Call (.Name "enumerate" p) [a] [] pos) (fun ρ XQ Q => fs ρ XQ fun xs => ∃ y ds, xs = [y] ∧ y.d.seq = some ds ∧ Q (enumD y.fr 0 ds)) := by
  obtain ⟨t, pt, s⟩ := ha
  refine ⟨_, pi_enumA hg hm pt hs, fun F B R H σ ρ α XQ Q K hK hX hB S h k => ?_⟩
  refine s F B R H σ ρ α XQ _ _ hK hX hB S h fun vs xs R' H' e' o' r' ⟨y, ds, ex, ey, q'⟩ => ?_
  subst ex
  match vs, r' with
  | [v], .cons r1 .nil =>
    obtain ⟨d, n, vo⟩ := y
    cases d <;> try cases ey
    case lst =>
      obtain ⟨a, vs, rfl, ha, ra, la⟩ := r1.lstR rfl
      exact ⟨a, rfl, .inl ⟨vs, .of ha, k _ _ R' H' e' o' q' (walks_enum ha ra la)⟩⟩
    case tup =>
      obtain ⟨a, vs, rfl, ha, la⟩ := r1.tupL rfl
      exact ⟨a, rfl, .inr ⟨vs, hK ▸ ha, hK ▸ k _ _ R' H' e' o' q' (walks_enumT ha la)⟩⟩
/-- over a text -/
theorem di_str (he : DE X E c e fe) : DI X E c tg e (fun ρ XQ Q => fe ρ XQ fun x => ∃ z, x.d = .str z ∧ Q (sgn z)) := by
  obtain ⟨t, p, s⟩ := he
  refine ⟨_, pi_str p, fun F B R H σ ρ α XQ Q K hK hX hB S h k => ?_⟩
  refine s F B R H σ ρ α XQ _ _ hK hX hB S h fun v x R' H' e' o' r' ⟨z, ex, q'⟩ => ?_
  obtain ⟨d, n, vo⟩ := x
  have ex : d = .str z := ex
  subst ex
  have r := r'.1
  cases r
  exact ⟨z, rfl, k _ _ R' H' e' o' q' walks_str⟩
/-- one sign in a text -/
def gSign (neg : Bool) : GD2 := fun x y Q => ∃ (c : Nat) (z : Str), x.d = .str ⟨#[c]⟩ ∧ y.d = .str z ∧ Q ⟨.bl (if neg then !decide (c ∈ z.cps.toList) else decide (c ∈ z.cps.toList)), true, none⟩
theorem dop_sign : DOp X (compareOp .In) (gSign false) := ⟨_, op_in_sign, fun F B R H v u x y Q K hK I r1 r2 ⟨c, z, ex, ey, q⟩ k => by
  obtain ⟨dx, nx, vx⟩ := x
  obtain ⟨dy, ny, vy⟩ := y
  have ex : dx = .str ⟨#[c]⟩ := ex
  have ey : dy = .str z := ey
  subst ex ey
  have z1 := r1.1
  have z2 := r2.1
  cases z1
  cases z2
  exact ⟨c, z, rfl, rfl, k _ _ R H .refl I (.of (.bl _)) q⟩⟩
/-- a text of the top -/
theorem de_globS {z : Str} {u : Value} (hg : Gl X x) (hm : X.mg x = some u) (r : RelV (.str z) u) (hd : (x == ("__debug__" : Str)) = false := by decide) : DE X E 0 (.Name x pos) (fun _ _ Q => Q ⟨.str z, true, none⟩) :=
  ⟨_, pe_glob (v := .str z) hg hm r hd, fun F B R H σ ρ α XQ Q K _ _ _ S q k => k _ _ R H .refl S.hp (.of (.str _)) q⟩
end
end DL

set_option Elab.async false
set_option linter.all false
set_option maxRecDepth 100000
set_option maxHeartbeats 4000000
/-! DL, part am: a stream laid of the script itself. -/
namespace DL
open PySem PySem.Spec PyProof.Rows L2
theorem FnG.mono {P : Program} {w : World} {K : PySem.W.Frag} {mg : Str → Option Value} {base : Heap} {j k cost : Nat} {f : Addr} {fd : FuncData} {ps : List Str} {g : DC} (F : FnG P w K mg base j f fd ps cost g) (h : j ≤ k) : FnG P w K mg base k f fd ps cost g :=
  ⟨fun A outer s H args us vs Q E hr => F.run A outer s H args us vs Q E (hr.mono h)⟩
/-- a def that lays a stream of any list's items -/
def spLayS (K : PySem.W.Frag) : List V → Hp → VK → XK → Prop := fun vs H Q _ => vs.length = 1 ∧ ∃ a xs, vs = [.ref a] ∧ SqL K H a xs ∧ xs.length ≤ 1000 ∧ ∀ p q, H p = none → (upd H p (.lst xs)) q = none → Q (.ref q) (upd (upd H p (.lst xs)) q (.lst [.ref p, .int 0, .int 0, .int 19]))
section
variable {X : Cx} {E : XK} {e : Expr} {fs : TDs} {pos p : Pos} {x : Str}
theorem dstrm_script {k : Nat} {f : Addr} {fd : FuncData} {ps : List Str} (F : FnOk X.prog X.w X.K X.mg X.base (L2.CX X.prog X.w) k f fd ps (spLayS X.K)) (hr : Room k X.A) (hg : Gl X x) (hm : X.mg x = some (.ref f)) (hk : PySem.W.keepIn X.K (.ref f) = true) (hb : Binds X.K fd ps [])
    (hx : Passes (L2.CX X.prog X.w) X E) (hn : [e].length = ps.length) (ha : DA X E 0 [e] fs) (hdb : (x == ("__debug__" : Str)) = false := by decide) (he : starEach [e] X.env = (false, eval e X.env) :: starEach [] X.env := by rfl) (hpl : (backTo pos (starEach [] X.env)).any (·.1) = false := by rfl) :
    DStrm X E (.Call (.Name x p) [e] [] pos) (fun ρ XQ => fs ρ XQ fun xs => ∃ (y : Dv) (a : Addr), xs = [y] ∧ y.v = some (.ref a) ∧ XQ .none "script" (.ref a)) := by
  obtain ⟨t, pt, s⟩ := ha
  refine ⟨_, pe_call F hr hg hm hk hb .nil hx pt hdb he hpl, fun F B R H σ ρ α XQ K hK hX hB S h k => ?_⟩
  refine s F B R H σ ρ α XQ _ _ hK hX hB S h fun vs xs R1 H1 e1 o1 r1 ⟨y, a, ex, ev, hx⟩ => ?_
  rw [List.append_nil]
  subst ex
  cases r1 with
  | @cons _ v _ _ r1 rn =>
  cases rn
  have hv : V.ref a = v := r1.2 _ ev
  subst hv
  obtain ⟨hs, a', ns, ea, sq, l, l2⟩ := (hX.1 _ _ hx).2 rfl
  cases ea
  have sq1 : SqF X.K H1 a (ns.map V.int) := hK ▸ sq.keep fun o u h => o1.ent a _ (fun ⟨p, ep, _⟩ => by rw [hs] at ep; cases ep) h .frz
  refine ⟨rfl, a, ns.map V.int, rfl, sq1.sql, by rw [List.length_map]; omega, fun p q hp hq => ?_⟩
  have e2 : Ext F R1 H1 R1 (upd H1 p (.lst (ns.map V.int))) := .new0 hp
  have o2 := o1.new0 hp (.lst (xs := ns.map V.int))
  have e3 : Ext F R1 _ R1 (upd (upd H1 p (.lst (ns.map V.int))) q (.lst [.ref p, .int 0, .int 0, .int 19])) := .new0 hq
  have ne : q ≠ p := fun z => by
    subst z
    rw [upd_same] at hq; cases hq
  exact k q p R1 _ ((e1.trans e2).trans e3) (o2.new0 hq .lst) ⟨ne, ns, upd_same, by rw [upd_ne (Ne.symm ne)]; exact upd_same, by omega, l2⟩ (not_frozen o2 hq) (not_frozen o1 hp) (e1.there q (e2.there q (.of hq))) (e1.there p (.of hp))
end
end DL

set_option Elab.async false
set_option linter.all false
set_option maxRecDepth 100000
set_option maxHeartbeats 4000000
/-! DL, part an: what the head tells of an own class. -/
namespace DL
open PySem PySem.Spec PyProof.Rows L2
theorem clB_plan {K : PySem.W.Frag} (h : clB K "Plan" (objNr 0) = true) : ClT K 0 := by
  obtain ⟨h1, h2⟩ := He.ba h
  have i := insB_ok h1
  exact ⟨i.cl, fun f hf => He.noat_ok (List.all_eq_true.mp h2 f hf), i⟩
end DL

set_option Elab.async false
set_option linter.all false
set_option maxRecDepth 100000
set_option maxHeartbeats 4000000
/-! DL, part ao: lists made longer, within one another, too. -/
namespace DL
open PySem PySem.Spec PyProof.Rows L2

/-- lists at M made longer by at most c texts, all else as before -/
structure Ev (M : Reg) (H H' : Hp) (c : Nat) : Prop where
  off : ∀ a o, ¬ M a → H a = some o → NoTbl o → H' a = some o
  there : ∀ a, Nn H' a → Nn H a
  on : ∀ a xs, M a → H a = some (.lst xs) → ∃ es, H' a = some (.lst (xs ++ es)) ∧ es.length ≤ c ∧ ∀ e ∈ es, e = V.str "late"
/-- at M stand lists -/
def GoodM (M : Reg) (H : Hp) : Prop := ∀ a, M a → ∃ xs, H a = some (.lst xs)
theorem Ev.refl {M : Reg} {H : Hp} : Ev M H H 0 := ⟨fun _ _ _ h _ => h, fun _ h => h, fun a xs _ h => ⟨[], by simpa using h, Nat.le_refl _, fun e h => nomatch h⟩⟩
theorem Ev.trans {M : Reg} {H H1 H2 : Hp} {c d : Nat} (a : Ev M H H1 c) (b : Ev M H1 H2 d) : Ev M H H2 (c + d) :=
  ⟨fun x o n h t => b.off x o n (a.off x o n h t) t, fun x h => a.there x (b.there x h), fun x xs m h => by
    obtain ⟨es, h1, l1, e1⟩ := a.on x xs m h
    obtain ⟨fs, h2, l2, e2⟩ := b.on x _ m h1
    refine ⟨es ++ fs, by rw [← List.append_assoc]; exact h2, by rw [List.length_append]; omega, fun e he => ?_⟩
    rcases List.mem_append.mp he with he | he
    · exact e1 e he
    · exact e2 e he⟩
theorem Ev.mono {M : Reg} {H H1 : Hp} {c d : Nat} (a : Ev M H H1 c) (l : c ≤ d) : Ev M H H1 d := ⟨a.off, a.there, fun x xs m h => let ⟨es, h1, l1, e1⟩ := a.on x xs m h; ⟨es, h1, Nat.le_trans l1 l, e1⟩⟩
theorem Ev.good {M : Reg} {H H1 : Hp} {c : Nat} (a : Ev M H H1 c) (g : GoodM M H) : GoodM M H1 := fun x m => by
  obtain ⟨xs, h⟩ := g x m
  obtain ⟨es, h1, _⟩ := a.on x xs m h
  exact ⟨_, h1⟩
theorem Ev.sqt {K : PySem.W.Frag} {M : Reg} {H H1 : Hp} {c : Nat} (a : Ev M H H1 c) (g : GoodM M H) {b : Addr} {vs : List V} (h : SqT K H b vs) : SqT K H1 b vs := by
  have nm : ∀ o, H b = some o → (∀ xs, o ≠ .lst xs) → ¬ M b := fun o e n m => by
    obtain ⟨xs, z⟩ := g b m
    rw [e] at z
    exact n xs (Option.some.inj z)
  rcases h with (h | ⟨o, h⟩) | h
  · exact .inl (.inl (a.off b _ (nm _ h fun _ z => nomatch z) h .tup))
  · exact .inl (.inr ⟨o, a.off b _ (nm _ h fun _ z => nomatch z) h .frz⟩)
  · exact .inr h
/-- a list at M made longer by one text -/
theorem Ev.app {M : Reg} {H : Hp} {a : Addr} {xs : List V} (m : M a) (h : H a = some (.lst xs)) : Ev M H (upd H a (.lst (xs ++ [V.str "late"]))) 1 := by
  refine ⟨fun b o n e _ => by rw [upd_ne (fun z : b = a => n (by rw [z]; exact m))]; exact e, fun b e o q nt => ?_, fun b ys mb e => ?_⟩
  · by_cases z : b = a
    · rw [z] at e; exact e _ upd_same .lst
    · exact e o (by rw [upd_ne z]; exact q) nt
  by_cases z : b = a
  · subst z
    rw [h] at e
    cases e
    exact ⟨[V.str "late"], upd_same, Nat.le_refl _, fun e he => List.mem_singleton.mp he⟩
  · exact ⟨[], by rw [upd_ne z, List.append_nil]; exact e, by simp, fun e h => nomatch h⟩
def ScaV (v : V) : Prop := v = .non ∨ (∃ b, v = .bl b) ∨ (∃ i, v = .int i) ∨ ∃ x, v = .str x
mutual
/-- scalars, tuples, lists at M with at most E texts more: depth, lists -/
inductive SpV (K : PySem.W.Frag) (H : Hp) (M : Reg) : Nat → Nat → V → Prop
  | sca {d n : Nat} {v : V} : ScaV v → SpV K H M d n v
  | tup {d n : Nat} {a : Addr} {vs : List V} : SqT K H a vs → SpL K H M d n vs → SpV K H M (d + 1) n (.ref a)
  | lst {d n : Nat} {a : Addr} {vs es : List V} : M a → H a = some (.lst (vs ++ es)) → (∀ e ∈ es, e = V.str "late") → SpL K H M d n vs → SpV K H M (d + 1) (n + 1) (.ref a)
inductive SpL (K : PySem.W.Frag) (H : Hp) (M : Reg) : Nat → Nat → List V → Prop
  | nil {d n : Nat} : SpL K H M d n []
  | cons {d n m : Nat} {v : V} {vs : List V} : SpV K H M d n v → SpL K H M d m vs → SpL K H M d (n + m) (v :: vs)
end
mutual
theorem SpV.ev {K : PySem.W.Frag} {H H' : Hp} {M : Reg} {c : Nat} (e : Ev M H H' c) (g : GoodM M H) : ∀ {d n : Nat} {v : V}, SpV K H M d n v → SpV K H' M d n v
  | _, _, _, .sca h => .sca h
  | _, _, _, .tup h l => .tup (e.sqt g h) (SpL.ev e g l)
  | _, _, _, .lst (es := es) m h q l => by
    obtain ⟨fs, h1, _, e1⟩ := e.on _ _ m h
    rw [List.append_assoc] at h1
    exact .lst m h1 (fun x hx => (List.mem_append.mp hx).elim (q x) (e1 x)) (SpL.ev e g l)
theorem SpL.ev {K : PySem.W.Frag} {H H' : Hp} {M : Reg} {c : Nat} (e : Ev M H H' c) (g : GoodM M H) : ∀ {d n : Nat} {v : List V}, SpL K H M d n v → SpL K H' M d n v
  | _, _, _, .nil => .nil
  | _, _, _, .cons a t => .cons (SpV.ev e g a) (SpL.ev e g t)
end
theorem SpL.drop {K : PySem.W.Frag} {H : Hp} {M : Reg} {d : Nat} : ∀ {n : Nat} {vs : List V} {i : Nat} {v : V}, SpL K H M d n (vs.drop i) → vs[i]? = some v → ∃ k m, SpV K H M d k v ∧ SpL K H M d m (vs.drop (i + 1)) ∧ k + m = n := by
  intro n vs i v h e
  have hl := (List.getElem?_eq_some_iff.mp e).1
  have hv := (List.getElem?_eq_some_iff.mp e).2
  rw [List.drop_eq_getElem_cons hl, hv] at h
  cases h with
  | cons a t => exact ⟨_, _, a, t, rfl⟩
/-- what _law_spoilt is told -/
def spSp (K : PySem.W.Frag) (k : Nat) : Sp := fun vs H Q _ => ∃ (v : V) (M : Reg) (d n : Nat), vs = [v] ∧ GoodM M H ∧ LamX.Tabs (tabK K) H ∧ SpV K H M d n v ∧ (∀ a xs, M a → H a = some (.lst xs) → xs.length + n < BIG) ∧ n < BIG ∧ d < k ∧ ∀ H', Ev M H H' n → LamX.Tabs (tabK K) H' → Q .non H'
theorem spOk_none {P : Program} {w : World} {K : PySem.W.Frag} {mg : Str → Option Value} {base : Heap} {CX : CXT} {k : Nat} {f : Addr} {fd : FuncData} {ps : List Str} : FnOk P w K mg base CX k f fd ps (spSp K 0) :=
  ⟨fun vs H Q E ⟨_, _, d, _, _, _, _, _, _, _, h, _⟩ => absurd h (Nat.not_lt_zero d), fun A outer s H args us vs Q E _ _ _ _ ⟨_, _, d, _, _, _, _, _, _, _, h, _⟩ => absurd h (Nat.not_lt_zero d)⟩
/-- a frame that asks nothing -/
def F00 (K : PySem.W.Frag) : Fx := ⟨K, fun _ => none, fun _ => True, none, 0, fun _ => True⟩
theorem hp00 {K : PySem.W.Frag} {M : Reg} {H : Hp} (g : GoodM M H) (t : LamX.Tabs (tabK K) H) : HpOk (F00 K) 0 M H :=
  ⟨fun p e => (nomatch e), fun a m => ⟨fun ⟨p, e, _⟩ => (nomatch e), let ⟨xs, h⟩ := g a m; ⟨_, h, .lst⟩⟩, fun a o _ e _ => (nomatch e), fun a _ => .of rfl, fun a _ => .inl trivial, t, Nat.zero_le _, fun _ _ => trivial⟩
theorem rpl_vee {F : Fx} {H : Hp} {R : Reg} {n : Bool} : ∀ vs : List V, RpL F H R n vs (vs.map D.vee)
  | [] => .nil
  | v :: vs => .cons (.vee v) (rpl_vee vs)
/-- the kind of such a value -/
inductive KindV (K : PySem.W.Frag) (H : Hp) (M : Reg) : Nat → Nat → V → Prop
  | sca {d n : Nat} {v : V} (x : D) : RpD (F00 K) H M false v x → x.isa "dict" = false → (["list", "tuple"].any fun T => x.isa T) = false → x.isa "list" = false → (∃ s, x.ty = some s) → KindV K H M d n v
  | tup {d n : Nat} {a : Addr} {vs : List V} : SqT K H a vs → SpL K H M d n vs → KindV K H M (d + 1) n (.ref a)
  | lst {d n : Nat} {a : Addr} {vs es : List V} : M a → H a = some (.lst (vs ++ es)) → (∀ e ∈ es, e = V.str "late") → SpL K H M d n vs → KindV K H M (d + 1) (n + 1) (.ref a)
theorem SpV.kind {K : PySem.W.Frag} {H : Hp} {M : Reg} {d n : Nat} {v : V} (h : SpV K H M d n v) : KindV K H M d n v := by
  cases h with
  | sca h =>
    rcases h with rfl | ⟨b, rfl⟩ | ⟨i, rfl⟩ | ⟨x, rfl⟩
    · exact .sca .non .non rfl rfl rfl ⟨_, rfl⟩
    · exact .sca (.bl b) (.bl b) rfl rfl rfl ⟨_, rfl⟩
    · exact .sca (.int i) (.int i) rfl rfl rfl ⟨_, rfl⟩
    · exact .sca (.str x) (.str x) rfl rfl rfl ⟨_, rfl⟩
  | tup h l => exact .tup h l
  | lst m h q l => exact .lst m h q l
/-- one slot's value for the tests -/
theorem st00 {K : PySem.W.Frag} {M : Reg} {H : Hp} (g : GoodM M H) (t : LamX.Tabs (tabK K) H) {v : V} {s1 : Option V} {x : D} (r : RpD (F00 K) H M false v x) : StOk (F00 K) 0 M H [some v, s1, none] [.va ⟨x, false, none⟩, .un, .un] (fun _ => 0) :=
  ⟨hp00 g t, rfl, fun i y hi => by
    match i, hi with
    | 0, hi => cases hi; exact ⟨v, rfl, .of r⟩
    | 1, hi => cases hi
    | 2, hi => cases hi
    | i + 3, hi => simp at hi, fun i d n hi => by
    match i, hi with
    | 0, hi => cases hi
    | 1, hi => cases hi
    | 2, hi => cases hi
    | i + 3, hi => simp at hi, fun i j d n d' n' hi => by
    match i, hi with
    | 0, hi => cases hi
    | 1, hi => cases hi
    | 2, hi => cases hi
    | i + 3, hi => simp at hi⟩
/-- never reached -/
theorem pss_never {X : Cx} {st : List Stmt} : PSs X st (fun _ _ _ => False) := ⟨fun _ _ _ _ _ _ h => h.elim⟩
theorem ext_ev {K : PySem.W.Frag} {M R' : Reg} {H H' : Hp} (g : GoodM M H) (e : Ext (F00 K) M H R' H') : Ev M H H' 0 :=
  ⟨fun a o _ h nt => e.keep a o (fun ⟨p, q, _⟩ => (nomatch q)) h nt, e.there, fun a xs m h => ⟨[], by rw [List.append_nil]; exact e.keep a _ (fun ⟨p, q, _⟩ => (nomatch q)) h .lst, Nat.le_refl _, fun e h => nomatch h⟩⟩
section
variable {X : Cx} {E : XK} {e1 e2 e3 tg it callE appE : Expr} {b1 : List Stmt} {p1 p2 p3 pf pc pa : Pos} {f1 f2 f3 : TDt} {k : Nat}
theorem test_run {t : TT} {f : TDt} {tst : D → Bool} (s : ∀ F B R H σ ρ α XQ Q (K : Bool → Hp → Prop), F.K = X.K → XLink F E XQ → B + 0 ≤ F.L → StOk F B R H σ ρ α → f ρ XQ Q → (∀ b R' H', Ext F R H R' H' → HpOk F (B + 0) R' H' → Q b → K b H') → t σ H K)
    (q : ∀ (x : D) (Q : Bool → Prop), (∃ s, x.ty = some s) → Q (tst x) → f [.va ⟨x, false, none⟩, .un, .un] XQ0 Q) {M : Reg} {H : Hp} (g : GoodM M H) (tb : LamX.Tabs (tabK X.K) H) {v : V} {s1 : Option V} {x : D} (r : RpD (F00 X.K) H M false v x) (ht : ∃ s, x.ty = some s)
    {K : Bool → Hp → Prop} (k : ∀ H', Ev M H H' 0 → LamX.Tabs (tabK X.K) H' → K (tst x) H') : t [some v, s1, none] H K :=
  s (F00 X.K) 0 M H _ _ _ XQ0 (fun b => b = tst x) K rfl xlink0 (Nat.le_refl _) (st00 g tb r) (q x _ ht rfl) fun b R' H' e o eb => by
    subst eb
    exact k H' (ext_ev g e) o.tab
theorem late_sca : ScaV (V.str "late") := .inr (.inr (.inr ⟨_, rfl⟩))
theorem spoil_reads (h1 : DT X E 0 e1 f1) (h2 : DT X E 0 e2 f2) (h3 : DT X E 0 e3 f3)
    (q1 : ∀ (x : D) (Q : Bool → Prop), (∃ s, x.ty = some s) → Q (x.isa "dict") → f1 [.va ⟨x, false, none⟩, .un, .un] XQ0 Q)
    (q2 : ∀ (x : D) (Q : Bool → Prop), (∃ s, x.ty = some s) → Q (["list", "tuple"].any fun T => x.isa T) → f2 [.va ⟨x, false, none⟩, .un, .un] XQ0 Q)
    (q3 : ∀ (x : D) (Q : Bool → Prop), (∃ s, x.ty = some s) → Q (x.isa "list") → f3 [.va ⟨x, false, none⟩, .un, .un] XQ0 Q)
    (hp : PassesOwn (model X.prog X.w) X.A X.env X.xe) (hc : X.calm = true) (hi : PE X it (tVar 0)) (hg : PG X tg (gName 1)) (hcall : PE X callE (tCall (spSp X.K k) [] E (tCons (tVar 1) tNil)))
    (happ : PE X appE (tBM X.K "list" rAppend (tVar 0) (tCons (tC (.str "late")) tNil)))
    (hsc : swapsWith callE none pc.line X.env = pure false) (hsa : swapsWith appE none pa.line X.env = pure false)
    (hs : ∀ x, foldedSetIterable it X.env x = pure x) :
    ∃ t, PSs X [.If e1 b1 [] p1, .If e2 [.For tg it [.Expr callE pc] [] pf] [] p2, .If e3 [.Expr appE pa] [] p3] t ∧ ∀ (v : V) (M : Reg) (d n : Nat) (H : Hp) (N : Ends), GoodM M H → LamX.Tabs (tabK X.K) H → SpV X.K H M d n v →
      (∀ a xs, M a → H a = some (.lst xs) → xs.length + n < BIG) → n < BIG → d < k + 1 → (∀ σ' H', Ev M H H' n → LamX.Tabs (tabK X.K) H' → N.nx σ' H') → t N [some v, none, none] H := by
  obtain ⟨t1, r1, s1⟩ := h1
  obtain ⟨t2, r2, s2⟩ := h2
  obtain ⟨t3, r3, s3⟩ := h3
  refine ⟨_, pss_cons (ps_if r1 pss_never pss_nil) (pss_cons (ps_if r2 (pss_one (ps_for hp hc (pi_seq hi) hg (pss_one (ps_expr hcall hsc)) hs)) pss_nil) (pss_one (ps_if r3 (pss_one (ps_expr happ hsa)) pss_nil))), fun v M d n H N g tb hv hb hn hd q => ?_⟩
  cases hv.kind with
  | sca x r i1 i2 i3 ht =>
    refine test_run (tst := fun x => x.isa "dict") s1 q1 g tb r ht fun H1 v1 T1 => ?_
    rw [i1, if_neg (by decide)]
    have g1 := v1.good g
    have r1' : RpD (F00 X.K) H1 M false v x := by
      refine RpD.sca r ?_
      cases x <;> first | rfl | (cases i2; done) | (cases i1; done) | (obtain ⟨s, hs⟩ := ht; cases hs)
    refine test_run (tst := fun x => ["list", "tuple"].any fun T => x.isa T) s2 q2 g1 T1 r1' ht fun H2 v2 T2 => ?_
    rw [i2, if_neg (by decide)]
    have g2 := v2.good g1
    have r2' : RpD (F00 X.K) H2 M false v x := by
      refine RpD.sca r ?_
      cases x <;> first | rfl | (cases i2; done) | (cases i1; done) | (obtain ⟨s, hs⟩ := ht; cases hs)
    refine test_run (tst := fun x => x.isa "list") s3 q3 g2 T2 r2' ht fun H3 v3 T3 => ?_
    rw [i3, if_neg (by decide)]
    exact q _ H3 (((v1.trans v2).trans v3).mono (by omega)) T3
  | @tup d n a vs ha l =>
    refine test_run (tst := fun x => x.isa "dict") s1 q1 g tb (.tup ha (rpl_vee vs)) ⟨_, rfl⟩ fun H1 v1 T1 => ?_
    rw [show (D.tup (vs.map D.vee)).isa "dict" = false from rfl, if_neg (by decide)]
    have g1 := v1.good g
    have ha1 := v1.sqt g ha
    refine test_run (tst := fun x => ["list", "tuple"].any fun T => x.isa T) s2 q2 g1 T1 (.tup ha1 (rpl_vee vs)) ⟨_, rfl⟩ fun H2 v2 T2 => ?_
    rw [if_pos (by rfl)]
    have g2 := v2.good g1
    have ha2 := v2.sqt g1 ha1
    have w2 := v1.trans v2
    refine ⟨_, rfl, a, rfl, .inr ⟨vs, ha2, ?_⟩⟩
    refine ⟨fun i m σ' H' => m = vs.length - i ∧ i ≤ vs.length ∧ (∃ s, σ' = [some (.ref a), s, none]) ∧ ∃ c r, Ev M H2 H' c ∧ LamX.Tabs (tabK X.K) H' ∧ SpL X.K H M d r (vs.drop i) ∧ c + r ≤ n, ⟨_, rfl, Nat.zero_le _, ⟨_, rfl⟩, 0, n, .refl, T2, by simpa using l, by omega⟩, ?_⟩
    rintro i m σ' H' ⟨rfl, hi, ⟨s, rfl⟩, c, r, v3, T3, l3, hcr⟩
    have g3 := v3.good g2
    have ha3 := v3.sqt g2 ha2
    by_cases hlt : i < vs.length
    · refine .inr ⟨⟨vs, vs[i], ha3, by simp [hlt]⟩, fun σ2 H2' => (∃ s, σ2 = [some (.ref a), s, none]) ∧ ∃ c r, Ev M H2 H2' c ∧ LamX.Tabs (tabK X.K) H2' ∧ SpL X.K H M d r (vs.drop (i + 1)) ∧ c + r ≤ n, fun σ2 H2' q2 => ⟨_, by omega, rfl, hlt, q2⟩, fun x H'' y => ?_⟩
      obtain ⟨e, y⟩ := y
      subst e
      have hx : vs[i]? = some x := y vs ha3
      obtain ⟨k1, m1, sp, l4, hk⟩ := l3.drop hx
      refine ⟨x, rfl, x, M, d, k1, rfl, g3, T3, (sp.ev (w2.trans v3) g), fun b xs mb hxs => ?_, by omega, by omega, fun H5 v5 T5 => ⟨⟨_, rfl⟩, c + k1, m1, v3.trans v5, T5, l4, by omega⟩⟩
      obtain ⟨ys, hys⟩ := g b mb
      obtain ⟨es, h6, l6, _⟩ := (w2.trans v3).on b ys mb hys
      rw [hxs] at h6
      cases h6
      have := hb b ys mb hys
      rw [List.length_append]
      omega
    · have e : i = vs.length := by omega
      subst e
      refine .inl ⟨⟨vs, ha3, Nat.le_refl _⟩, ?_⟩
      refine test_run (tst := fun x => x.isa "list") s3 q3 g3 T3 (.tup ha3 (rpl_vee vs)) ⟨_, rfl⟩ fun H4 v4 T4 => ?_
      rw [show (D.tup (vs.map D.vee)).isa "list" = false from rfl, if_neg (by decide)]
      exact q _ H4 (((w2.trans v3).trans v4).mono (by omega)) T4
  | @lst d n a vs es ma ha hes l =>
    have rl : ∀ H' ys, H' a = some (.lst ys) → RpD (F00 X.K) H' M false (.ref a) (.lst (ys.map D.vee)) := fun H' ys h => .lst h ma (fun z => nomatch z) (rpl_vee ys)
    refine test_run (tst := fun x => x.isa "dict") s1 q1 g tb (rl H _ ha) ⟨_, rfl⟩ fun H1 v1 T1 => ?_
    rw [show (D.lst ((vs ++ es).map D.vee)).isa "dict" = false from rfl, if_neg (by decide)]
    have g1 := v1.good g
    obtain ⟨ys1, hy1⟩ := g1 a ma
    refine test_run (tst := fun x => ["list", "tuple"].any fun T => x.isa T) s2 q2 g1 T1 (rl H1 _ hy1) ⟨_, rfl⟩ fun H2 v2 T2 => ?_
    rw [if_pos (by rfl)]
    have g2 := v2.good g1
    have w2 := v1.trans v2
    have cont : ∀ {H' : Hp} {c : Nat}, Ev M H2 H' c → ∃ fs, H' a = some (.lst (vs ++ fs)) ∧ fs.length ≤ es.length + c ∧ ∀ e ∈ fs, e = V.str "late" := fun {H'} {c} v => by
      obtain ⟨fs, h1, l1, e1⟩ := (w2.trans v).on a _ ma ha
      refine ⟨es ++ fs, by rw [← List.append_assoc]; exact h1, by rw [List.length_append]; omega, fun e he => ?_⟩
      rcases List.mem_append.mp he with he | he
      · exact hes e he
      · exact e1 e he
    obtain ⟨fs0, hf0, _, _⟩ := cont (.refl)
    refine ⟨_, rfl, a, rfl, .inl ⟨_, SqL.of hf0, ?_⟩⟩
    refine ⟨fun i m σ' H' => m = (vs.length + es.length + n) - i ∧ (∃ s, σ' = [some (.ref a), s, none]) ∧ ∃ c r, Ev M H2 H' c ∧ LamX.Tabs (tabK X.K) H' ∧ SpL X.K H M d r (vs.drop i) ∧ c + r ≤ n, ⟨_, rfl, ⟨_, rfl⟩, 0, n, .refl, T2, by simpa using l, by omega⟩, ?_⟩
    rintro i m σ' H' ⟨rfl, ⟨s, rfl⟩, c, r, v3, T3, l3, hcr⟩
    have g3 := v3.good g2
    obtain ⟨fs, hf, lf, ef⟩ := cont v3
    by_cases hlt : i < (vs ++ fs).length
    · have hlen : (vs ++ fs).length ≤ vs.length + es.length + n := by rw [List.length_append]; omega
      refine .inr ⟨⟨_, (vs ++ fs)[i], SqL.of hf, by simp [hlt]⟩, fun σ2 H2' => (∃ s, σ2 = [some (.ref a), s, none]) ∧ ∃ c r, Ev M H2 H2' c ∧ LamX.Tabs (tabK X.K) H2' ∧ SpL X.K H M d r (vs.drop (i + 1)) ∧ c + r ≤ n, fun σ2 H2' q2 => ⟨_, by omega, rfl, q2⟩, fun x H'' y => ?_⟩
      obtain ⟨e, y⟩ := y
      subst e
      have hx : (vs ++ fs)[i]? = some x := y _ (SqL.of hf)
      have room : ∀ k1, c + k1 ≤ n → ∀ (b : Addr) (xs : List V), M b → H'' b = some (.lst xs) → xs.length + k1 < BIG := fun k1 hk b xs mb hxs => by
        obtain ⟨ys, hys⟩ := g b mb
        obtain ⟨es, h6, l6, _⟩ := (w2.trans v3).on b ys mb hys
        rw [hxs] at h6
        cases h6
        have := hb b ys mb hys
        rw [List.length_append]
        omega
      by_cases hi : i < vs.length
      · have hx' : vs[i]? = some x := by rw [List.getElem?_append_left hi] at hx; exact hx
        obtain ⟨k1, m1, sp, l4, hk⟩ := l3.drop hx'
        exact ⟨x, rfl, x, M, d, k1, rfl, g3, T3, (sp.ev (w2.trans v3) g), room k1 (by omega), by omega, by omega, fun H5 v5 T5 => ⟨⟨_, rfl⟩, c + k1, m1, v3.trans v5, T5, l4, by omega⟩⟩
      · rw [List.getElem?_append_right (by omega)] at hx
        have ex : x = V.str "late" := ef x (List.mem_of_getElem? hx)
        refine ⟨x, rfl, x, M, d, 0, rfl, g3, T3, .sca (ex ▸ late_sca), room 0 (by omega), by unfold BIG; omega, by omega, fun H5 v5 T5 => ⟨⟨_, rfl⟩, c + 0, 0, v3.trans v5, T5, ?_, by omega⟩⟩
        rw [List.drop_eq_nil_of_le (by omega)]
        exact .nil
    · refine .inl ⟨⟨_, SqL.of hf, by omega⟩, ?_⟩
      refine test_run (tst := fun x => x.isa "list") s3 q3 g3 T3 (rl H' _ hf) ⟨_, rfl⟩ fun H4 v4 T4 => ?_
      rw [if_pos (by rfl)]
      obtain ⟨ys, hys⟩ := v4.good g3 a ma
      refine ⟨_, rfl, Or.inl ⟨rfl, _, SqL.of hys⟩, ?_⟩
      obtain ⟨fs4, h4, l4, _⟩ := (w2.trans (v3.trans v4)).on a _ ma ha
      have bb := hb a _ ma ha
      rw [hys] at h4
      cases h4
      refine ⟨a, _, _, rfl, rfl, hys, lt_line (by rw [List.length_append]; omega), ?_⟩
      exact q _ _ (((w2.trans (v3.trans v4)).trans (Ev.app ma hys)).mono (by omega)) (tab_put T4 hys .lst)
end
end DL

set_option Elab.async false
set_option linter.all false
set_option maxRecDepth 100000
set_option maxHeartbeats 4000000
/-! DL, part ap: what is new is made longer, all else stays. -/
namespace DL
open PySem PySem.Spec PyProof.Rows L2

/-- the lists that are new since H1, with room -/
def newM (H1 H : Hp) (N : Nat) : Reg := fun a => Nn H1 a ∧ ∃ xs, H a = some (.lst xs) ∧ xs.length + N < BIG
theorem newM_good {H1 H : Hp} {N : Nat} : GoodM (newM H1 H N) H := fun a ⟨_, xs, h, _⟩ => ⟨xs, h⟩
mutual
/-- how many lists -/
def D.cntL : D → Nat
  | .lst ds => D.cntLs ds + 1
  | .tup ds => D.cntLs ds
  | _ => 0
def D.cntLs : List D → Nat
  | [] => 0
  | d :: ds => d.cntL + D.cntLs ds
end
/-- scalars, tuples, lists with room for N more, at most so deep -/
def D.fitsS (N : Nat) : Nat → D → Prop
  | _, .non => True
  | _, .bl _ => True
  | _, .int _ => True
  | _, .str _ => True
  | d + 1, .lst ds => ds.length + N < BIG ∧ ∀ x ∈ ds, D.fitsS N d x
  | d + 1, .tup ds => ∀ x ∈ ds, D.fitsS N d x
  | _, _ => False
theorem spL_of {F : Fx} {K : PySem.W.Frag} {H : Hp} {R M : Reg} {N d : Nat} (ih : ∀ v x, RpD F H R true v x → D.fitsS N d x → SpV K H M d x.cntL v) : ∀ {vs : List V} {ds : List D}, RpL F H R true vs ds → (∀ x ∈ ds, D.fitsS N d x) → SpL K H M d (D.cntLs ds) vs
  | _, _, .nil, _ => .nil
  | _, _, .cons a t, h => .cons (ih _ _ a (h _ (List.mem_cons_self ..))) (spL_of ih t fun x hx => h x (List.mem_cons_of_mem _ hx))
theorem RpD.sp {F : Fx} {H1 H : Hp} {R : Reg} {N : Nat} (hP : F.P = Nn H1) : ∀ (d : Nat) (v : V) (x : D), RpD F H R true v x → D.fitsS N d x → SpV F.K H (newM H1 H N) d x.cntL v := by
  have len : ∀ {vs : List V} {ds : List D}, RpL F H R true vs ds → vs.length = ds.length := fun l => l.len
  intro d
  induction d with
  | zero =>
    intro v x r h
    cases r with
    | non => exact .sca (.inl rfl)
    | bl b => exact .sca (.inr (.inl ⟨b, rfl⟩))
    | int i => exact .sca (.inr (.inr (.inl ⟨i, rfl⟩)))
    | str x => exact .sca (.inr (.inr (.inr ⟨x, rfl⟩)))
    | _ => exact h.elim
  | succ d ih =>
    intro v x r h
    cases r with
    | non => exact .sca (.inl rfl)
    | bl b => exact .sca (.inr (.inl ⟨b, rfl⟩))
    | int i => exact .sca (.inr (.inr (.inl ⟨i, rfl⟩)))
    | str x => exact .sca (.inr (.inr (.inr ⟨x, rfl⟩)))
    | @lst _ a vs ds ha _ hp t =>
      have h' : ds.length + N < BIG ∧ ∀ x ∈ ds, D.fitsS N d x := h
      refine SpV.lst (es := []) ⟨hP ▸ hp rfl, vs, ha, by rw [len t]; exact h'.1⟩ (by rw [List.append_nil]; exact ha) (fun e he => nomatch he) (spL_of ih t h'.2)
    | @tup _ a vs ds ha t => exact .tup ha (spL_of ih t h)
    | _ => exact h.elim

/-! ### back to the frame ahead -/
theorem back_ev {F : Fx} {B B' : Nat} {R R1 R' : Reg} {H1 H2 H3 : Hp} {c : Nat} {X : Reg} (o : HpOk F B R H1) (o2 : HpOk ⟨F.K, H1, R1, F.st, F.L, Nn H1⟩ B' R' H2) (hM : ∀ a, X a → Nn H1 a) (v : Ev X H2 H3 c) (t : LamX.Tabs F.T H3) : Ext F R H1 R H3 ∧ HpOk F B' R H3 := by
  have keep : ∀ a u, ¬ F.mx a → H1 a = some u → NoTbl u → H3 a = some u := fun a u m e nt => v.off a u (fun z => hM a z u e nt) (o2.ent a u m e nt) nt
  have there : ∀ a, Nn H3 a → Nn H1 a := fun a h => o2.ent2 a (v.there a h)
  refine ⟨⟨fun _ h => h, keep, fun _ h => .inl h, there⟩, ⟨fun p e => ?_, fun a r => ?_, fun a u m e nt => keep a u m (o.ent a u m e nt) nt, fun a h => o.ent2 a (there a h), o.reg0, t, o.lim, fun a h => o.pn a (there a h)⟩⟩
  · have z := o2.inv p e
    have off : ∀ a xs, F.mx a → H2 a = some (.lst xs) → H3 a = some (.lst xs) := fun a xs m e2 => by
      obtain ⟨ys, hy⟩ := mx_lst o.inv m
      exact v.off a _ (fun q => hM a q _ hy .lst) e2 .lst
    obtain ⟨z0, xs, c, n, s, h1, h2, z⟩ := z
    exact ⟨z0, xs, c, n, s, off _ _ ⟨p, e, .inl rfl⟩ h1, off _ _ ⟨p, e, .inr rfl⟩ h2, z⟩
  · obtain ⟨m, u, e, nt⟩ := o.good a r
    exact ⟨m, u, keep a u m e nt, nt⟩

/-! ### the rule -/
/-- the slots as they are read while something new is made: all values are known -/
def pin1 (v : V) : Sl → Sl
  | .va x => .va ⟨x.d, x.d.imm, some v⟩
  | .ow d _ => .va ⟨d, d.imm, some v⟩
  | .un => .un
def pinS (u : Nat → V) : Nat → Ro → Ro
  | _, [] => []
  | i, s :: ρ => pin1 (u i) s :: pinS u (i + 1) ρ
theorem pinS_len (u : Nat → V) : ∀ (i : Nat) (ρ : Ro), (pinS u i ρ).length = ρ.length
  | _, [] => rfl
  | i, s :: ρ => by rw [pinS, List.length_cons, List.length_cons, pinS_len u (i + 1) ρ]
theorem pinS_get (u : Nat → V) : ∀ (k : Nat) (ρ : Ro) (i : Nat), (pinS u k ρ)[i]? = (ρ[i]?).map (pin1 (u (k + i)))
  | _, [], _ => rfl
  | k, s :: ρ, 0 => rfl
  | k, s :: ρ, i + 1 => by
    have h := pinS_get u (k + 1) ρ i
    rw [show k + 1 + i = k + (i + 1) by omega] at h
    rw [pinS, List.getElem?_cons_succ, List.getElem?_cons_succ]
    exact h
/-- slots that are forgotten -/
def dropS : List Nat → Ro → Ro
  | [], ρ => ρ
  | i :: l, ρ => dropS l (ρ.set i .un)
theorem dropS_len : ∀ (l : List Nat) (ρ : Ro), (dropS l ρ).length = ρ.length
  | [], _ => rfl
  | i :: l, ρ => by rw [dropS, dropS_len l, List.length_set]
theorem dropS_get : ∀ (l : List Nat) (ρ : Ro) (j : Nat), (j ∈ l ∧ ∀ s, (dropS l ρ)[j]? = some s → s = .un) ∨ ∀ ρ' : Ro, (dropS l ρ')[j]? = ρ'[j]?
  | [], _, _ => .inr fun _ => rfl
  | i :: l, ρ, j => by
    rcases dropS_get l (ρ.set i .un) j with ⟨h, q⟩ | h
    · exact .inl ⟨List.mem_cons_of_mem _ h, q⟩
    · by_cases e : i = j
      · subst e
        refine .inl ⟨List.mem_cons_self .., fun s hs => ?_⟩
        rw [dropS, h] at hs
        rw [List.getElem?_set] at hs
        split at hs
        · split at hs
          · exact (Option.some.inj hs).symm
          · cases hs
        · exact absurd rfl (by assumption)
      · exact .inr fun ρ' => by rw [dropS, h, List.getElem?_set, if_neg e]
theorem slots_back {F : Fx} {B B' : Nat} {R : Reg} {H H' : Hp} {σ σ' : L2.St} {ρ ρ2 : Ro} {α α' : Nat → Addr} {l : List Nat} {u : Nat → V} {F2 : Fx} {H2 : Hp} {R2 : Reg} {B2 : Nat} (S : StOk F B R H σ ρ α) (e : Ext F R H R H') (o : HpOk F B' R H')
    (hu : ∀ i s, ρ[i]? = some s → s ≠ Sl.un → σ[i]? = some (some (u i))) (S2 : StOk F2 B2 R2 H2 σ' ρ2 α') (hp : dropS l ρ2 = dropS l (pinS u 0 ρ)) : StOk F B' R H' σ' (dropS l ρ) α := by
  have S1 := S.ext e o
  have same : ∀ i s, (dropS l ρ)[i]? = some s → s ≠ Sl.un → ρ[i]? = some s ∧ σ'[i]? = σ[i]? := fun i s hs ne => by
    rcases dropS_get l ρ i with ⟨_, h⟩ | h
    · exact absurd (h s hs) ne
    rw [h] at hs
    refine ⟨hs, ?_⟩
    have z : ρ2[i]? = (pinS u 0 ρ)[i]? := by rw [← h ρ2, ← h (pinS u 0 ρ), hp]
    rw [pinS_get, hs, Nat.zero_add] at z
    obtain ⟨x, hx, hxv⟩ : ∃ x, ρ2[i]? = some (.va x) ∧ x.v = some (u i) := by
      cases s with
      | un => exact absurd rfl ne
      | va x => exact ⟨_, z, rfl⟩
      | ow d n => exact ⟨_, z, rfl⟩
    obtain ⟨v, e1, r⟩ := S2.va i _ hx
    rw [e1, hu i s hs ne, r.2 _ hxv]
  refine ⟨o, by rw [S2.len, dropS_len, ← dropS_len l ρ2, hp, dropS_len, pinS_len], fun i x hx => ?_, fun i d n hi => ?_, fun i j d n d' n' hi hj => ?_⟩
  · obtain ⟨h1, h2⟩ := same i _ hx (fun z => nomatch z)
    rw [h2]
    exact S1.va i x h1
  · obtain ⟨h1, h2⟩ := same i _ hi (fun z => nomatch z)
    rw [h2]
    exact S1.ow i d n h1
  · exact S.dis i j d n d' n' (same i _ hi (fun z => nomatch z)).1 (same j _ hj (fun z => nomatch z)).1
/-- the places of own things, too -/
def Reg.own (R : Reg) (ρ : Ro) (α : Nat → Addr) : Reg := fun a => R a ∨ ∃ i d n, ρ[i]? = some (Sl.ow d n) ∧ a = α i
/-- the state in which something new is made -/
theorem pin_ok {F : Fx} {B : Nat} {R : Reg} {H : Hp} {σ : L2.St} {ρ : Ro} {α : Nat → Addr} {u : Nat → V} (S : StOk F B R H σ ρ α) (hu : ∀ i s, ρ[i]? = some s → s ≠ Sl.un → σ[i]? = some (some (u i))) :
    StOk ⟨F.K, H, R.own ρ α, F.st, F.L, Nn H⟩ B (R.own ρ α) H σ (pinS u 0 ρ) α := by
  have mv : ∀ m, Mv F R H F (R.own ρ α) H m false := fun m => ⟨rfl, fun _ z => z, fun _ _ r h _ => ⟨.inl r, h⟩, fun _ _ h => h, fun z => nomatch z⟩
  refine ⟨⟨S.hp.inv, fun a r => ?_, fun a u _ e _ => e, fun a e => e, fun a r => .inl r, S.hp.tab, S.hp.lim, fun a e => e⟩, by rw [pinS_len]; exact S.len, fun i x hx => ?_, fun i d n hi => ?_, fun i j d n d' n' hi => ?_⟩
  · rcases r with r | ⟨i, d, n, h, rfl⟩
    · exact S.hp.good a r
    · have w := (S.ow i d n h).2
      exact ⟨w.nm, w.some⟩
  · rw [pinS_get, Nat.zero_add] at hx
    cases hs : ρ[i]? with
    | none => rw [hs] at hx; cases hx
    | some s =>
      rw [hs] at hx
      cases s with
      | un => cases hx
      | va y =>
        cases hx
        obtain ⟨v, e1, r⟩ := S.va i y hs
        have e2 := hu i _ hs (fun z => nomatch z)
        rw [e1] at e2
        cases e2
        refine ⟨_, e1, RpD.reI (F := F) (F' := ⟨F.K, H, R.own ρ α, F.st, F.L, Nn H⟩) rfl rfl (r.1.mv (mv y.n)), fun w hw => (Option.some.inj hw).symm⟩
      | ow d n =>
        cases hx
        obtain ⟨e1, w⟩ := S.ow i d n hs
        have e2 := hu i _ hs (fun z => nomatch z)
        rw [e1] at e2
        refine ⟨_, e1, ?_, fun w hw => by cases hw; exact (Option.some.inj (Option.some.inj e2)).symm⟩
        have mv2 : Mv F (R.add (α i)) H F (R.own ρ α) H n false := ⟨rfl, fun _ z => z, fun a _ r h _ => ⟨r.elim .inl fun z => .inr ⟨i, d, n, hs, z⟩, h⟩, fun _ _ h => h, fun z => nomatch z⟩
        exact RpD.reI (F := F) (F' := ⟨F.K, H, R.own ρ α, F.st, F.L, Nn H⟩) rfl rfl ((Ow.rp w).mv mv2)
  · rw [pinS_get] at hi
    cases hs : ρ[i]? with
    | none => rw [hs] at hi; cases hi
    | some s => rw [hs] at hi; cases s <;> cases hi
  · rw [pinS_get] at hi
    cases hs : ρ[i]? with
    | none => rw [hs] at hi; cases hi
    | some s => rw [hs] at hi; cases s <;> cases hi
theorem wp_execs_app {M : Model} {Γ : PySem.Ctx} {env : Env} {b : List Stmt} {Q : Flow → Pos → Shared → Prop} {E : Value → Pos → Shared → Prop} : ∀ (a : List Stmt) (p : Pos) (s : Shared),
    Sem.wp M Γ (execs a env) (fun f p' s' => match f with | .next => Sem.wp M Γ (execs b env) Q E p' s' | f => Q f p' s') E p s → Sem.wp M Γ (execs (a ++ b) env) Q E p s
  | [], p, s, h => by
    rw [PySem.execs_nil, Sem.wp_pure'] at h
    exact h
  | st :: a, p, s, h => by
    rw [List.cons_append, PySem.execs_cons, Sem.wp_bind']
    rw [PySem.execs_cons, Sem.wp_bind'] at h
    refine Sem.wp_mono M Γ _ (fun f p' s' h' => ?_) (fun _ _ _ h' => h') _ _ h
    cases f with
    | next => exact wp_execs_app a _ _ h'
    | _ => rw [Sem.wp_pure'] at h' ⊢; exact h'
theorem pss_app {X : Cx} {a b : List Stmt} {t u : TS} (h1 : PSs X a t) (h2 : PSs X b u) : PSs X (a ++ b) (tSeq t u) := by
  refine ⟨fun pins s σ H D I h => fun Γ p hΓ => wp_execs_app a _ _ ?_⟩
  refine Sem.wp_mono _ Γ _ (fun f p' s1 q => ?_) (fun _ _ _ h' => h') _ _ (h1.run pins s σ H { D with nx := u D } I h Γ p hΓ)
  cases f with
  | next =>
    obtain ⟨σ', H', I', q⟩ := q
    exact h2.run pins s1 σ' H' D I' q Γ p' hΓ
  | _ => exact q
section
variable {X : Cx} {E : XK} {c cb : Nat} {e : Expr} {pos p ps : Pos} {x : Str} {fs : TDs} {gm gr : TDS} {mid rest : List Stmt}
/-- mid; x(e), which makes longer what e tells, all of it new since mid began; rest. The slots in l are lost -/
theorem dss_spoil {k : Nat} {f : Addr} {fd : FuncData} {pn : Str} (l : List Nat) (l2 : List Nat) (Fn : FnOk X.prog X.w X.K X.mg X.base (L2.CX X.prog X.w) k f fd [pn] (spSp X.K k)) (hr : Room k X.A) (hg : Gl X x) (hm : X.mg x = some (.ref f)) (hk : PySem.W.keepIn X.K (.ref f) = true) (hb : Binds X.K fd [pn] [])
    (hx : Passes (L2.CX X.prog X.w) X E) (h1 : DSs X E c mid gm) (ha : DA X E 0 [e] fs) (h2 : DSs X E cb rest gr)
    (hdb : (x == ("__debug__" : Str)) = false := by decide) (he : starEach [e] X.env = [(false, eval e X.env)] := by rfl) (hpl : (backTo pos (starEach [] X.env)).any (·.1) = false := by rfl) (hs : swapsWith (.Call (.Name x p) [e] [] pos) none ps.line X.env = pure false := by rfl) :
    DSs X E (c + cb) (mid ++ .Expr (.Call (.Name x p) [e] [] pos) ps :: rest) (fun N ρ XQ => ∀ u : Nat → V, gm ⟨fun ρ2 => fs (frz l2 ρ2) XQ0 (fun xs => match xs with | [y] => y.n = true ∧ (∃ d, d < k ∧ D.fitsS y.d.cntL d y.d) ∧ y.d.cntL < BIG ∧ dropS l ρ2 = dropS l (pinS u 0 ρ) ∧ gr N (dropS l ρ) XQ | _ => False), fun y => y.d.sca = true ∧ N.rt y, fun _ => False, fun _ => False⟩ (pinS u 0 ρ) XQ0) := by
  obtain ⟨t1, p1, s1⟩ := h1
  obtain ⟨ta, pa, sa⟩ := ha
  obtain ⟨t2, p2, s2⟩ := h2
  refine ⟨_, pss_app p1 (pss_cons (ps_expr (pe_call Fn hr hg hm hk hb .nil hx pa hdb he hpl) hs) p2), fun F B R H σ ρ α XQ N K hK hX hB S h kk => ?_⟩
  obtain ⟨FK, FH0, FR0, st, L, FP⟩ := F
  cases hK
  obtain ⟨u, hu⟩ : ∃ u : Nat → V, ∀ i s, ρ[i]? = some s → s ≠ Sl.un → σ[i]? = some (some (u i)) := ⟨fun i => (σ[i]?.bind id).getD .non, fun i s e ne => by
    cases s with
    | un => exact absurd rfl ne
    | va x =>
      obtain ⟨v, e1, _⟩ := S.va i x e
      show σ[i]? = some (some ((σ[i]?.bind id).getD V.non))
      rw [e1]
      rfl
    | ow d n =>
      obtain ⟨e1, _⟩ := S.ow i d n e
      show σ[i]? = some (some ((σ[i]?.bind id).getD V.non))
      rw [e1]
      rfl⟩
  have S1 := pin_ok S hu
  have B1 : B + c ≤ L := by have : B + (c + cb) ≤ L := hB; omega
  refine s1 _ B _ H σ _ α XQ0 _ _ rfl xlink0 B1 S1 (h u) ?_
  refine ⟨fun σ2 H2 ρ2 R2 α2 z2 S2 q2 => ?_, fun v y R2 H2 z2 o2 r2 q2 => ?_, fun _ _ _ _ _ _ _ q2 => q2.elim, fun _ _ _ _ _ _ _ q2 => q2.elim⟩
  · obtain ⟨R3, S3, _⟩ := S2.frzs l2
    refine sa _ (B + c) R3 H2 σ2 _ α2 XQ0 _ _ rfl xlink0 B1 S3 q2 fun vs xs R4 H4 e4 o4 r4 q4 => ?_
    match xs, vs, r4, q4 with
    | [y], [v], .cons r .nil, ⟨hn, ⟨d, hd, hf⟩, hc, hp, q⟩ =>
      have r1 := r.1
      rw [hn] at r1
      have o4' : HpOk ⟨X.K, H, R.own ρ α, st, L, Nn H⟩ (B + c) R4 H4 := o4
      refine ⟨v, newM H H4 y.d.cntL, d, y.d.cntL, rfl, newM_good, o4.tab, RpD.sp (F := ⟨X.K, H, R.own ρ α, st, L, Nn H⟩) rfl d v y.d r1 hf, fun a xs m hx => ?_, hc, hd, fun H5 v5 T5 => ?_⟩
      · obtain ⟨_, ys, h1, h2⟩ := m
        rw [hx] at h1
        cases h1
        exact h2
      · obtain ⟨e5, o5⟩ := back_ev (F := ⟨X.K, FH0, FR0, st, L, FP⟩) S.hp o4' (fun a m => m.1) v5 T5
        have S5 := slots_back S e5 o5 hu S2 hp
        exact s2 _ (B + c) R H5 σ2 _ α XQ N K rfl hX (by have : B + (c + cb) ≤ L := hB; show B + c + cb ≤ L; omega) S5 q ((kk.fz (e5.fz S.hp)).mono (by omega))
  · obtain ⟨e5, o5⟩ := back_ev (F := ⟨X.K, FH0, FR0, st, L, FP⟩) (X := fun _ => False) S.hp o2 (fun a m => m.elim) (⟨fun _ _ _ h _ => h, fun _ h => h, fun _ _ h => h.elim⟩ : Ev (fun _ => False) H2 H2 0) o2.tab
    exact kk.rt v y R H2 (e5.fz S.hp) (o5.mono (by omega)) ⟨r2.1.sca q2.1, r2.2⟩ q2.2
end
end DL

set_option Elab.async false
set_option linter.all false
set_option maxRecDepth 100000
set_option maxHeartbeats 1000000
/-! DL, part aq: for k in d, for k, v in d.items(): the dict is locked meanwhile. -/
namespace DL
open PySem PySem.Spec PyProof.Rows L2

/-- dicts with plain keys may be locked or unlocked; all else as it was -/
structure Lk (H H' : Hp) : Prop where
  same : ∀ a u, H a = some u → (∀ kvs, u ≠ .dK kvs) → (∀ o kvs, u ≠ .frz o (.dK kvs)) → H' a = some u
  dk : ∀ a kvs, Rd H a (.dK kvs) → Rd H' a (.dK kvs)
theorem Lk.sqt {H H' : Hp} (l : Lk H H') {K : PySem.W.Frag} {a : Addr} {vs : List V} (h : SqT K H a vs) : SqT K H' a vs := by
  rcases h with (h | ⟨o, h⟩) | h
  · exact .inl (.inl (l.same a _ h (fun _ z => nomatch z) (fun _ _ z => nomatch z)))
  · exact .inl (.inr ⟨o, l.same a _ h (fun _ z => nomatch z) (fun _ _ z => by cases z)⟩)
  · exact .inr h
mutual
theorem RpD.lk {F F' : Fx} {R : Reg} {H H' : Hp} (hK : F'.K = F.K) (hs : F'.st = F.st) (hP : F'.P = F.P) (l : Lk H H') : ∀ {n : Bool} {v : V} {d : D}, RpD F H R n v d → RpD F' H' R n v d
  | _, _, _, .non => .non
  | _, _, _, .bl b => .bl b
  | _, _, _, .int i => .int i
  | _, _, _, .str x => .str x
  | _, _, _, .lst h r w t => .lst (l.same _ _ h (fun _ z => nomatch z) (fun _ _ z => nomatch z)) r (fun z => hP ▸ w z) (RpL.lk hK hs hP l t)
  | _, _, _, .tup h t => .tup (by rw [hK]; exact l.sqt h) (RpL.lk hK hs hP l t)
  | _, _, _, .dK h r w t => .dK (.mk (l.dk _ _ h.rd)) r (fun z => hP ▸ w z) (RpK.lk hK hs hP l t)
  | _, _, _, .dT h r w t => .dT (l.same _ _ h (fun _ z => nomatch z) (fun _ _ z => nomatch z)) r (fun z => hP ▸ w z) (RpT.lk hK hs hP l t)
  | _, _, _, .strm e => .strm (by rw [hs]; exact e)
  | _, _, _, .vee v => .vee v
  | _, _, _, .obj h r w c e t => .obj (by rw [hK]; exact l.same _ _ h (fun _ z => nomatch z) (fun _ _ z => nomatch z)) r (fun z => hP ▸ w z) c e (RpL.lk hK hs hP l t)
  | _, _, _, .bm h r w t => .bm (l.same _ _ h (fun _ z => nomatch z) (fun _ _ z => nomatch z)) r (fun z => hP ▸ w z) (RpD.lk hK hs hP l t)
theorem RpL.lk {F F' : Fx} {R : Reg} {H H' : Hp} (hK : F'.K = F.K) (hs : F'.st = F.st) (hP : F'.P = F.P) (l : Lk H H') : ∀ {n : Bool} {vs : List V} {ds : List D}, RpL F H R n vs ds → RpL F' H' R n vs ds
  | _, _, _, .nil => .nil
  | _, _, _, .cons a t => .cons (RpD.lk hK hs hP l a) (RpL.lk hK hs hP l t)
theorem RpK.lk {F F' : Fx} {R : Reg} {H H' : Hp} (hK : F'.K = F.K) (hs : F'.st = F.st) (hP : F'.P = F.P) (l : Lk H H') : ∀ {n : Bool} {vs : List (Key × V)} {ds : List (D × D)}, RpK F H R n vs ds → RpK F' H' R n vs ds
  | _, _, _, .nil => .nil
  | _, _, _, .consI a t => .consI (RpD.lk hK hs hP l a) (RpK.lk hK hs hP l t)
  | _, _, _, .consS a t => .consS (RpD.lk hK hs hP l a) (RpK.lk hK hs hP l t)
theorem RpT.lk {F F' : Fx} {R : Reg} {H H' : Hp} (hK : F'.K = F.K) (hs : F'.st = F.st) (hP : F'.P = F.P) (l : Lk H H') : ∀ {n : Bool} {vs : List (List Key × V)} {ds : List (D × D)}, RpT F H R n vs ds → RpT F' H' R n vs ds
  | _, _, _, .one k a => .one (RpL.lk hK hs hP l k) (RpD.lk hK hs hP l a)
  | _, _, _, .cons k a t => .cons (RpL.lk hK hs hP l k) (RpD.lk hK hs hP l a) (RpT.lk hK hs hP l t)
end
theorem lk_lock {H : Hp} {d : Addr} {o : Obj} {kvs : List (Key × V)} (h : H d = some (.dK kvs)) : Lk H (upd H d (.frz o (.dK kvs))) := by
  refine ⟨fun a u e n1 _ => ?_, fun a ks r => ?_⟩
  · rw [upd_ne (fun z => by subst z; rw [h] at e; exact n1 _ (Option.some.inj e).symm)]; exact e
  · by_cases z : a = d
    · subst z
      rcases r with r | ⟨o2, r⟩
      · rw [h] at r; cases r; exact .inr ⟨o, upd_same⟩
      · rw [h] at r; cases r
    · rcases r with r | ⟨o2, r⟩
      · exact .inl (by rw [upd_ne z]; exact r)
      · exact .inr ⟨o2, by rw [upd_ne z]; exact r⟩
theorem lk_unlock {H : Hp} {d : Addr} {o : Obj} {kvs : List (Key × V)} (h : H d = some (.frz o (.dK kvs))) : Lk H (upd H d (.dK kvs)) := by
  refine ⟨fun a u e _ n2 => ?_, fun a ks r => ?_⟩
  · rw [upd_ne (fun z => by subst z; rw [h] at e; exact n2 _ _ (Option.some.inj e).symm)]; exact e
  · by_cases z : a = d
    · subst z
      rcases r with r | ⟨o2, r⟩
      · rw [h] at r; cases r
      · rw [h] at r; cases r; exact .inl upd_same
    · rcases r with r | ⟨o2, r⟩
      · exact .inl (by rw [upd_ne z]; exact r)
      · exact .inr ⟨o2, by rw [upd_ne z]; exact r⟩
/-- the frame while the dict at d is locked -/
def Fx.lk (F : Fx) (d : Addr) (o : Obj) (kvs : List (Key × V)) : Fx := ⟨F.K, fun a => if a = d then some (.frz o (.dK kvs)) else F.H0 a, fun a => F.R0 a ∨ a = d, F.st, F.L, F.P⟩
section
variable {F : Fx} {B B' : Nat} {R R' : Reg} {H H2 : Hp} {d : Addr} {o : Obj} {kvs : List (Key × V)} {σ σ' : L2.St} {ρ ρ' : Ro} {α α' : Nat → Addr}
theorem nn_ne {u : HO} (h : H d = some u) (nt : NoTbl u) {a : Addr} (n : Nn H a) : a ≠ d := fun z => by subst z; exact n _ h nt
theorem HpOk.lock (I : HpOk F B R H) (hr : R d) (h : H d = some (.dK kvs)) : HpOk (F.lk d o kvs) B R (upd H d (.frz o (.dK kvs))) := by
  have off : ∀ a, a ≠ d → upd H d (.frz o (.dK kvs)) a = H a := fun a z => upd_ne z
  have nn : ∀ a, Nn (upd H d (.frz o (.dK kvs))) a → a ≠ d ∧ Nn H a := fun a n => by
    have z := nn_ne upd_same .frz n
    exact ⟨z, fun u e => n u (by rw [off a z]; exact e)⟩
  refine ⟨fun p e => ?_, fun a r => ?_, fun a u m e nt => ?_, fun a n => ?_, fun a r => ?_, ?_, I.lim, fun a n => I.pn a (nn a n).2⟩
  · obtain ⟨z0, xs, c, n, s, h1, h2, z⟩ := I.inv p e
    refine ⟨z0, xs, c, n, s, ?_, ?_, z⟩
    · rw [off _ (fun q => by rw [q, h] at h1; cases h1)]; exact h1
    · rw [off _ (fun q => by rw [q, h] at h2; cases h2)]; exact h2
  · by_cases z : a = d
    · subst z; exact ⟨(I.good a r).1, _, upd_same, .frz⟩
    · obtain ⟨m, u, e, nt⟩ := I.good a r
      exact ⟨m, u, by rw [off a z]; exact e, nt⟩
  · by_cases z : a = d
    · subst z
      have e : some (HO.frz o (.dK kvs)) = some u := by simpa [Fx.lk] using e
      cases e
      exact upd_same
    · have e : F.H0 a = some u := by simpa [Fx.lk, z] using e
      rw [off a z]
      exact I.ent a u m e nt
  · obtain ⟨z, n⟩ := nn a n
    intro u e
    exact I.ent2 a n u (by simpa [Fx.lk, z] using e)
  · rcases I.reg0 a r with q | q
    · exact .inl (.inl q)
    · by_cases z : a = d
      · exact .inl (.inr z)
      · exact .inr fun u e => q u (by simpa [Fx.lk, z] using e)
  · exact tab_put I.tab h .dK
theorem StOk.lock (S : StOk F B R H σ ρ α) (hr : R d) (h : H d = some (.dK kvs)) : StOk (F.lk d o kvs) B R (upd H d (.frz o (.dK kvs))) σ ρ α := by
  have l := lk_lock (o := o) h
  refine ⟨S.hp.lock hr h, S.len, fun i x hx => ?_, fun i x n hx => ?_, S.dis⟩
  · obtain ⟨v, e, r⟩ := S.va i x hx
    exact ⟨v, e, RpD.lk (F := F) (F' := F.lk d o kvs) rfl rfl rfl l r.1, r.2⟩
  · obtain ⟨e, w⟩ := S.ow i x n hx
    have z : α i ≠ d := fun z => w.nr (z ▸ hr)
    refine ⟨e, w.nr, w.nm, fun u e => w.n0 u (by simpa [Fx.lk, z] using e), w.p0, ?_⟩
    have a := w.at_
    cases x with
    | lst ds => obtain ⟨vs, q, r⟩ := a; exact ⟨vs, by rw [upd_ne z]; exact q, RpL.lk (F := F) (F' := F.lk d o kvs) rfl rfl rfl l r⟩
    | dct ds =>
      rcases a with ⟨ks, q, r⟩ | ⟨ks, q, r⟩
      · exact .inl ⟨ks, by rw [upd_ne z]; exact q, RpK.lk (F := F) (F' := F.lk d o kvs) rfl rfl rfl l r⟩
      · exact .inr ⟨ks, by rw [upd_ne z]; exact q, RpT.lk (F := F) (F' := F.lk d o kvs) rfl rfl rfl l r⟩
    | obj k ds => obtain ⟨dx, vs, q, p, r⟩ := a; exact ⟨dx, vs, by rw [upd_ne z]; exact q, p, RpL.lk (F := F) (F' := F.lk d o kvs) rfl rfl rfl l r⟩
    | _ => exact a.elim
theorem HpOk.unlock (I : HpOk F B R H) (hr : R d) (h : H d = some (.dK kvs)) (I2 : HpOk (F.lk d o kvs) B' R' H2) (h2 : H2 d = some (.frz o (.dK kvs))) : HpOk F B' R' (upd H2 d (.dK kvs)) := by
  have off : ∀ a, a ≠ d → upd H2 d (.dK kvs) a = H2 a := fun a z => upd_ne z
  have nn : ∀ a, Nn (upd H2 d (.dK kvs)) a → a ≠ d ∧ Nn H2 a := fun a n => by
    have z := nn_ne upd_same .dK n
    exact ⟨z, fun u e => n u (by rw [off a z]; exact e)⟩
  have nn0 : ∀ a, Nn (F.lk d o kvs).H0 a → a ≠ d ∧ Nn F.H0 a := fun a n => by
    have z : a ≠ d := fun z => n (.frz o (.dK kvs)) (by simp [Fx.lk, z]) .frz
    exact ⟨z, fun u e => n u (by simpa [Fx.lk, z] using e)⟩
  refine ⟨fun p e => ?_, fun a r => ?_, fun a u m e nt => ?_, fun a n => ?_, fun a r => ?_, ?_, I2.lim, fun a n => I2.pn a (nn a n).2⟩
  · obtain ⟨z0, xs, c, n, s, h1, h3, z⟩ := I2.inv p e
    refine ⟨z0, xs, c, n, s, ?_, ?_, z⟩
    · rw [off _ (fun q => by rw [q, h2] at h1; cases h1)]; exact h1
    · rw [off _ (fun q => by rw [q, h2] at h3; cases h3)]; exact h3
  · by_cases z : a = d
    · subst z; exact ⟨(I2.good a r).1, _, upd_same, .dK⟩
    · obtain ⟨m, u, e, nt⟩ := I2.good a r
      exact ⟨m, u, by rw [off a z]; exact e, nt⟩
  · by_cases z : a = d
    · subst z
      have e2 := I.ent a u m e nt
      rw [h] at e2
      cases e2
      exact upd_same
    · rw [off a z]
      exact I2.ent a u m (by simpa [Fx.lk, z] using e) nt
  · exact (nn0 a (I2.ent2 a (nn a n).2)).2
  · rcases I2.reg0 a r with (q | q) | q
    · exact .inl q
    · exact q ▸ I.reg0 d hr
    · exact .inr (nn0 a q).2
  · exact tab_keep I2.tab fun b u np e => by rw [off b (fun z => by subst z; rw [h2] at e; cases e; exact np ⟨fun _ z => (nomatch z), fun _ z => (nomatch z)⟩)]; exact e
theorem StOk.unlock (I : HpOk F B R H) (hr : R d) (h : H d = some (.dK kvs)) (S : StOk (F.lk d o kvs) B' R' H2 σ' ρ' α') (hr2 : R' d) (h2 : H2 d = some (.frz o (.dK kvs))) : StOk F B' R' (upd H2 d (.dK kvs)) σ' ρ' α' := by
  have l := lk_unlock h2
  refine ⟨I.unlock hr h S.hp h2, S.len, fun i x hx => ?_, fun i x n hx => ?_, S.dis⟩
  · obtain ⟨v, e, r⟩ := S.va i x hx
    exact ⟨v, e, RpD.lk (F := F.lk d o kvs) (F' := F) rfl rfl rfl l r.1, r.2⟩
  · obtain ⟨e, w⟩ := S.ow i x n hx
    have z : α' i ≠ d := fun z => w.nr (z ▸ hr2)
    refine ⟨e, w.nr, w.nm, fun u e => w.n0 u (by simpa [Fx.lk, z] using e), w.p0, ?_⟩
    have a := w.at_
    cases x with
    | lst ds => obtain ⟨vs, q, r⟩ := a; exact ⟨vs, by rw [upd_ne z]; exact q, RpL.lk (F := F.lk d o kvs) (F' := F) rfl rfl rfl l r⟩
    | dct ds =>
      rcases a with ⟨ks, q, r⟩ | ⟨ks, q, r⟩
      · exact .inl ⟨ks, by rw [upd_ne z]; exact q, RpK.lk (F := F.lk d o kvs) (F' := F) rfl rfl rfl l r⟩
      · exact .inr ⟨ks, by rw [upd_ne z]; exact q, RpT.lk (F := F.lk d o kvs) (F' := F) rfl rfl rfl l r⟩
    | obj k ds => obtain ⟨dx, vs, q, p, r⟩ := a; exact ⟨dx, vs, by rw [upd_ne z]; exact q, p, RpL.lk (F := F.lk d o kvs) (F' := F) rfl rfl rfl l r⟩
    | _ => exact a.elim
theorem Fz.unlock (hr : R d) (h : H d = some (.dK kvs)) (z : Fz (F.lk d o kvs) R (upd H d (.frz o (.dK kvs))) R' H2) : H2 d = some (.frz o (.dK kvs)) ∧ Fz F R H R' (upd H2 d (.dK kvs)) := by
  have h2 := z.keep d _ hr upd_same .frz
  refine ⟨h2, z.reg, fun a u r e nt => ?_, fun a vs t => (lk_unlock h2).sqt (z.tup a vs ((lk_lock (o := o) h).sqt t))⟩
  by_cases q : a = d
  · subst q
    rw [h] at e
    cases e
    exact upd_same
  · rw [upd_ne q]
    exact z.keep a u r (by rw [upd_ne q]; exact e) nt
theorem EndsOk.lock {N : DEnds} {K : Ends} (I : HpOk F B R H) (hr : R d) (h : H d = some (.dK kvs)) (k : EndsOk F B' R H N K) :
    EndsOk (F.lk d o kvs) B' R (upd H d (.frz o (.dK kvs))) N ⟨fun σ' H' => H' d = some (.frz o (.dK kvs)) ∧ K.nx σ' (upd H' d (.dK kvs)), fun v H' => H' d = some (.frz o (.dK kvs)) ∧ K.rt v (upd H' d (.dK kvs)), fun σ' H' => H' d = some (.frz o (.dK kvs)) ∧ K.bk σ' (upd H' d (.dK kvs)), fun σ' H' => H' d = some (.frz o (.dK kvs)) ∧ K.ct σ' (upd H' d (.dK kvs))⟩ :=
  ⟨fun σ' H' ρ' R' α' z S q => let ⟨a, b⟩ := z.unlock hr h; ⟨a, k.nx _ _ ρ' R' α' b (S.unlock I hr h (z.reg d hr) a) q⟩,
   fun v x R' H' z S r q => let ⟨a, b⟩ := z.unlock hr h; ⟨a, k.rt _ x R' _ b (I.unlock hr h S a) ⟨RpD.lk (F := F.lk d o kvs) (F' := F) rfl rfl rfl (lk_unlock a) r.1, r.2⟩ q⟩,
   fun σ' H' ρ' R' α' z S q => let ⟨a, b⟩ := z.unlock hr h; ⟨a, k.bk _ _ ρ' R' α' b (S.unlock I hr h (z.reg d hr) a) q⟩,
   fun σ' H' ρ' R' α' z S q => let ⟨a, b⟩ := z.unlock hr h; ⟨a, k.ct _ _ ρ' R' α' b (S.unlock I hr h (z.reg d hr) a) q⟩⟩
end
end DL

set_option Elab.async false
set_option linter.all false
set_option maxRecDepth 100000
set_option maxHeartbeats 1000000
/-! DL, part ar: for k in d, for k, v in d.items(). -/
namespace DL
open PySem PySem.Spec PyProof.Rows L2

theorem RpK.at {F : Fx} {H : Hp} {R : Reg} {n : Bool} : ∀ {kvs : List (Key × V)} {ds : List (D × D)} {i : Nat} {p : D × D}, RpK F H R n kvs ds → ds[i]? = some p → ∃ k v, kvs[i]? = some (k, v) ∧ RpD F H R true (kV k) p.1 ∧ RpD F H R n v p.2
  | _, _, _, _, .nil, h => by simp at h
  | _, _, 0, _, .consI a t, h => by simp at h; subst h; exact ⟨_, _, rfl, .int _, a⟩
  | _, _, 0, _, .consS a t, h => by simp at h; subst h; exact ⟨_, _, rfl, .str _, a⟩
  | _, _, i + 1, _, .consI a t, h => by
    obtain ⟨k, v, h1, h2⟩ := RpK.at (i := i) t (by simpa using h)
    exact ⟨k, v, by simpa using h1, h2⟩
  | _, _, i + 1, _, .consS a t, h => by
    obtain ⟨k, v, h1, h2⟩ := RpK.at (i := i) t (by simpa using h)
    exact ⟨k, v, by simpa using h1, h2⟩
theorem RpK.fz {F : Fx} {R R' : Reg} {H H' : Hp} {n : Bool} {v : List (Key × V)} {d : List (D × D)} (h : RpK F H R n v d) (e : Fz F R H R' H') : RpK F H' R' n v d := h.mv (e.mv fun z => z)
theorem RpK.len' {F : Fx} {H : Hp} {R : Reg} {n : Bool} {kvs : List (Key × V)} {ds : List (D × D)} (h : RpK F H R n kvs ds) : kvs.length = ds.length := h.len
def keysD (ds : List (D × D)) : List Dv := ds.map fun p => ⟨p.1, true, none⟩
def itemsD (ds : List (D × D)) (n : Bool) : List Dv := ds.map fun p => ⟨.tup [p.1, p.2], n, none⟩
theorem walks_keys {F : Fx} {R : Reg} {H : Hp} {d : Addr} {o : Obj} {kvs : List (Key × V)} {ds : List (D × D)} {n : Bool} (hr : R d) (h : H d = some (.frz o (.dK kvs))) (l : RpK F H R n kvs ds) : Walks F R H (Itk d o kvs) (keysD ds) := fun i B R' H' z I => by
  have h' := z.keep d _ hr h .frz
  have l' := l.fz z
  refine ⟨fun hl => ⟨h', by rw [hl, keysD, List.length_map, l.len']; exact Nat.le_refl _⟩, fun x hx => ?_⟩
  rw [keysD, List.getElem?_map] at hx
  cases e : ds[i]? with
  | none => rw [e] at hx; cases hx
  | some p =>
    rw [e] at hx
    cases hx
    obtain ⟨k, v, h1, r1, _⟩ := l'.at e
    refine ⟨⟨h', (List.getElem?_eq_some_iff.mp h1).1⟩, fun w H'' ⟨e1, k2, v2, h2, e2⟩ => ?_⟩
    subst e1 e2
    rw [h1] at h2
    cases h2
    exact ⟨R', .refl, I, .of r1⟩
theorem walks_items {F : Fx} {R : Reg} {H : Hp} {d : Addr} {o : Obj} {kvs : List (Key × V)} {ds : List (D × D)} {n : Bool} (hr : R d) (h : H d = some (.frz o (.dK kvs))) (l : RpK F H R n kvs ds) : Walks F R H (Iti d o kvs) (itemsD ds n) := fun i B R' H' z I => by
  have h' := z.keep d _ hr h .frz
  have l' := l.fz z
  refine ⟨fun hl => ⟨h', by rw [hl, itemsD, List.length_map, l.len']; exact Nat.le_refl _⟩, fun x hx => ?_⟩
  rw [itemsD, List.getElem?_map] at hx
  cases e : ds[i]? with
  | none => rw [e] at hx; cases hx
  | some p =>
    rw [e] at hx
    cases hx
    obtain ⟨k, v, h1, r1, r2⟩ := l'.at e
    refine ⟨⟨h', (List.getElem?_eq_some_iff.mp h1).1⟩, fun w H'' ⟨T, k2, v2, h2, e1, hT, e2⟩ => ?_⟩
    subst e1 e2
    rw [h1] at h2
    cases h2
    obtain ⟨q1, q2, q3⟩ := new_tup (n := n) (vs := [kV k, v]) (ds := [p.1, p.2]) I hT (.cons (r1.weak fun _ => rfl) (.cons r2 .nil))
    exact ⟨R', q1, q2, .of q3⟩
section
variable {F : Fx} {B B' : Nat} {R R' : Reg} {H H2 : Hp} {d : Addr} {o : Obj} {kvs : List (Key × V)}
theorem Ext.unlock (hr : R d) (h : H d = some (.dK kvs)) (m : ¬ F.mx d) (z : Ext (F.lk d o kvs) R (upd H d (.frz o (.dK kvs))) R' H2) : H2 d = some (.frz o (.dK kvs)) ∧ Ext F R H R' (upd H2 d (.dK kvs)) := by
  have h2 := z.keep d _ m upd_same .frz
  have nn : ∀ a, Nn (upd H d (.frz o (.dK kvs))) a → Nn H a := fun a n u e => n u (by rw [upd_ne (nn_ne upd_same .frz n)]; exact e)
  refine ⟨h2, z.reg, fun a u ma e nt => ?_, fun a r => (z.new a r).imp id (nn a), fun a n => nn a (z.there a fun u e => n u (by rw [upd_ne (nn_ne upd_same .dK n)]; exact e))⟩
  by_cases q : a = d
  · subst q
    rw [h] at e
    cases e
    exact upd_same
  · rw [upd_ne q]
    exact z.keep a u ma (by rw [upd_ne q]; exact e) nt
theorem Own.unlock {a : Addr} {x : D} {n : Bool} (w : Own (F.lk d o kvs) H2 R' a x n) (hr2 : R' d) (h2 : H2 d = Option.some (HO.frz o (.dK kvs))) : Own F (upd H2 d (.dK kvs)) R' a x n := by
  have l := lk_unlock h2
  have z : a ≠ d := fun z => w.nr (z ▸ hr2)
  refine ⟨w.nr, w.nm, fun u e => w.n0 u (by simpa [Fx.lk, z] using e), w.p0, ?_⟩
  have t := w.at_
  cases x with
  | lst ds => obtain ⟨vs, q, r⟩ := t; exact ⟨vs, by rw [upd_ne z]; exact q, RpL.lk (F := F.lk d o kvs) (F' := F) rfl rfl rfl l r⟩
  | dct ds =>
    rcases t with ⟨ks, q, r⟩ | ⟨ks, q, r⟩
    · exact .inl ⟨ks, by rw [upd_ne z]; exact q, RpK.lk (F := F.lk d o kvs) (F' := F) rfl rfl rfl l r⟩
    · exact .inr ⟨ks, by rw [upd_ne z]; exact q, RpT.lk (F := F.lk d o kvs) (F' := F) rfl rfl rfl l r⟩
  | obj k ds => obtain ⟨dx, vs, q, p, r⟩ := t; exact ⟨dx, vs, by rw [upd_ne z]; exact q, p, RpL.lk (F := F.lk d o kvs) (F' := F) rfl rfl rfl l r⟩
  | _ => exact t.elim
end
/-- what a dict tells to a loop, as long as it is locked -/
def DIK (X : Cx) (tg iter : Expr) (fi : Ro → (List Dv → Prop) → Prop) : Prop := ∃ wi : TI, PI X tg iter wi ∧ ∀ F B R H σ ρ α Q, F.K = X.K → StOk F B R H σ ρ α → fi ρ Q → ∃ d kvs xs, R d ∧ DkAt H d kvs ∧ Q xs ∧
  ∀ (F' : Fx) (H' : Hp) o, F'.K = F.K → F'.st = F.st → F'.P = F.P → Lk H H' → H' d = some (.frz o (.dK kvs)) → ∀ Kk : It → Hp → Prop, (∀ J, Walks F' R H' J xs → Kk J H') → wi σ H' Kk
/-- a place that holds a dict -/
def DPl (X : Cx) (e : Expr) (fp : Ro → (List (D × D) → Bool → Prop) → Prop) : Prop := ∃ te : TE, PE X e te ∧ ∀ F B R H σ ρ α Q, F.K = X.K → StOk F B R H σ ρ α → fp ρ Q → ∃ d kvs ds n, R d ∧ DkAt H d kvs ∧ RpK F H R n kvs ds ∧ Q ds n ∧ ∀ (H' : Hp), Lk H H' → ∀ K : VK, K (.ref d) H' → te σ H' K
section
variable {X : Cx} {E : XK} {c ca cb cc ci ct ce : Nat} {a b e tg iter elt : Expr} {es : List Expr} {fa fb fe : TD} {fs : TDs} {ft : TDt} {pos p p1 p2 apos cpos : Pos} {x : Str} {fp : Ro → (List (D × D) → Bool → Prop) → Prop} {fi : Ro → (List Dv → Prop) → Prop}
theorem dct_rpk {F : Fx} {H : Hp} {R : Reg} {n : Bool} {v : V} {ds : List (D × D)} (r : RpD F H R n v (.dct ds)) (hp : PlainK ds) : ∃ d kvs, v = .ref d ∧ R d ∧ DkAt H d kvs ∧ RpK F H R n kvs ds := by
  cases r with
  | dK h1 h2 _ l => exact ⟨_, _, rfl, h2, h1, l⟩
  | dT _ _ _ l => exact (rpt_no l hp).elim
theorem dpl_var {i : Nat} (h : PE X e (tVar i)) : DPl X e (fun ρ Q => ∃ (x : Dv) (ds : List (D × D)), ρ[i]? = some (.va x) ∧ x.d = .dct ds ∧ PlainK ds ∧ Q ds x.fr) := by
  refine ⟨_, h, fun F B R H σ ρ α Q hK S ⟨x, ds, hx, ed, hp, q⟩ => ?_⟩
  obtain ⟨v, e1, r⟩ := S.va i x hx
  have rf := r.fr
  rw [ed] at rf
  obtain ⟨d, kvs, rfl, h1, h2, l⟩ := dct_rpk rf hp
  exact ⟨d, kvs, ds, _, h1, h2, l, q, fun H' _ K k => ⟨_, e1, k⟩⟩
theorem dpl_fld {i : Nat} {f : Str} (hC : ∀ k, f ∈ objN k → ClT X.K k) (h : PE X e (tVar i)) (hb : attributeBase e f X.env (eval e X.env) = eval e X.env := by rfl) : DPl X (.Attribute e f pos) (fun ρ Q => ∃ (x : Dv) (k : Nat) (fs : List D) (j : Nat) (ds : List (D × D)), ρ[i]? = some (.va x) ∧ x.d = .obj k fs ∧ (objN k)[j]? = some f ∧ fs[j]? = some (.dct ds) ∧ PlainK ds ∧ Q ds x.fr) := by
  refine ⟨_, pe_fld h hb, fun F B R H σ ρ α Q hK S ⟨x, k, fs, j, ds, hx, ed, hj, hd, hp, q⟩ => ?_⟩
  obtain ⟨v, e1, r⟩ := S.va i x hx
  have rf := r.fr
  rw [ed] at rf
  generalize x.fr = n at rf q
  cases rf with
  | obj hh hr hw hn hl l =>
    obtain ⟨w, hw2, rr⟩ := l.get hd
    obtain ⟨d, kvs, rfl, h1, h2, lk⟩ := dct_rpk rr hp
    have C := hC k (List.mem_of_getElem? hj)
    subst hn
    refine ⟨d, kvs, ds, n, h1, h2, lk, q, fun H' L K kk => ⟨_, e1, _, objC X.K k, _, _, _, rfl, L.same _ _ (hK ▸ hh) (fun _ z => nomatch z) (fun _ _ z => nomatch z), C.cls, C.no f (List.mem_of_getElem? hj), zip_look (objN_nodup k) hj hw2, kk⟩⟩
theorem dik_keys (h : DPl X iter fp) : DIK X tg iter (fun ρ Q => fp ρ fun ds _ => Q (keysD ds)) := by
  obtain ⟨te, pe, s⟩ := h
  refine ⟨_, pi_keys pe, fun F B R H σ ρ α Q hK S h => ?_⟩
  obtain ⟨d, kvs, ds, n, hr, hd, l, q, k⟩ := s F B R H σ ρ α _ hK S h
  refine ⟨d, kvs, _, hr, hd, q, fun F' H' o e1 e2 e3 L h' Kk kk => k H' L _ ⟨d, o, rfl, .inl ⟨kvs, h', kk _ (walks_keys hr h' (RpK.lk e1 e2 e3 L l))⟩⟩⟩
theorem dik_items {elts : List Expr} {kk : Nat} {tpos : Pos} (h : DPl X e fp) (hbase : attributeBase e "items" X.env (eval e X.env) = eval e X.env := by rfl) (hline : (apos.endLine == cpos.line) = true := by rfl) :
    DIK X (.Tuple elts kk tpos) (.Call (.Attribute e "items" apos) [] [] cpos) (fun ρ Q => fp ρ fun ds n => Q (itemsD ds n)) := by
  obtain ⟨te, pe, s⟩ := h
  refine ⟨_, pi_items pe hbase hline, fun F B R H σ ρ α Q hK S h => ?_⟩
  obtain ⟨d, kvs, ds, n, hr, hd, l, q, k⟩ := s F B R H σ ρ α _ hK S h
  refine ⟨d, kvs, _, hr, hd, q, fun F' H' o e1 e2 e3 L h' Kk kk => k H' L _ ⟨d, o, kvs, rfl, h', kk _ (walks_items hr h' (RpK.lk e1 e2 e3 L l))⟩⟩
theorem lk_refl {H : Hp} : Lk H H := ⟨fun _ _ h _ _ => h, fun _ _ h => h⟩
theorem ps_or {st : Stmt} {t u : TS} (h : PS X st t) (h2 : PS X st u) : PS X st (fun D σ H => t D σ H ∨ u D σ H) := ⟨fun pins s σ H D I q => q.elim (h.run pins s σ H D I) (h2.run pins s σ H D I)⟩
theorem pe_or {t u : TE} (h : PE X e t) (h2 : PE X e u) : PE X e (fun σ H Q => t σ H Q ∨ u σ H Q) := ⟨fun pins s σ H D I q => q.elim (h.run pins s σ H D I) (h2.run pins s σ H D I)⟩
theorem for_core {l2 : List Nat} {gt : TDG} {gb : TDS} {tt : TG} {tb : TS} (st : ∀ F B R H σ ρ α v x Q (K : L2.St → Hp → Prop), F.K = X.K → StOk F B R H σ ρ α → Rp F H R x v → gt x ρ Q → (∀ σ' ρ', StOk F B R H σ' ρ' α → SetOnly l2 σ σ' → Q ρ' → K σ' H) → tt v σ H K)
    (sb : ∀ F B R H σ ρ α XQ N (K : Ends), F.K = X.K → XLink F E XQ → B + cb ≤ F.L → StOk F B R H σ ρ α → gb N ρ XQ → EndsOk F (B + cb) R H N K → tb K σ H)
    {F : Fx} {B : Nat} {R2 : Reg} {H2 : Hp} {σ : L2.St} {ρ : Ro} {α : Nat → Addr} {XQ : XQT} {N : DEnds} {K : Ends} {J : It} {xs : List Dv} (hK : F.K = X.K) (hX : XLink F E XQ) (hB : B + BIG * cb ≤ F.L) (S : StOk F B R2 H2 σ ρ α) (hz : cb = 0 ∨ xs.length ≤ BIG) (q : forGo gt gb N XQ xs ρ) (w : Walks F R2 H2 J xs) (k : EndsOk F (B + BIG * cb) R2 H2 N K) :
    tFor (fun _ _ Kk => Kk J H2) tt tb K σ H2 := by
  have le : ∀ i, i ≤ xs.length → i * cb ≤ BIG * cb := fun i hi => by
    rcases hz with hz | hz
    · rw [hz]; simp
    · exact Nat.mul_le_mul_right _ (Nat.le_trans hi hz)
  refine ⟨fun i m σ' H' => m = xs.length - i ∧ i ≤ xs.length ∧ ∃ R' ρ' α', Fz F R2 H2 R' H' ∧ StOk F (B + i * cb) R' H' σ' ρ' α' ∧ forGo gt gb N XQ (xs.drop i) ρ', ⟨_, rfl, Nat.zero_le _, R2, ρ, α, .refl, by simpa using S, by simpa using q⟩, ?_⟩
  rintro i m σ' H' ⟨rfl, hi, R', ρ', α', z, S', q⟩
  by_cases hlt : i < xs.length
  · refine .inr ?_
    have hx : xs[i]? = some xs[i] := by simp [hlt]
    obtain ⟨go, yl⟩ := (w i _ R' H' z S'.hp).2 _ hx
    rw [List.drop_eq_getElem_cons hlt] at q
    refine ⟨go, fun σ2 H2' => ∃ R'' ρ'' α'', Fz F R2 H2 R'' H2' ∧ StOk F (B + (i + 1) * cb) R'' H2' σ2 ρ'' α'' ∧ forGo gt gb N XQ (xs.drop (i + 1)) ρ'', fun σ2 H2' q2 => ⟨_, by omega, rfl, hlt, q2⟩, fun v H'' y => ?_⟩
    obtain ⟨R'', ex, ox, rx⟩ := yl v H'' y
    have z3 := z.trans (ex.fz S'.hp)
    refine st F _ R'' H'' σ' ρ' α' v _ _ _ hK (S'.ext ex ox) rx q fun σ3 ρ3 S3 _ q3 => ?_
    have e1 : B + (i + 1) * cb = B + i * cb + cb := by rw [Nat.add_mul, Nat.one_mul]; omega
    have e3 : B + (i + 1) * cb ≤ B + (BIG * cb) := by have := le (i + 1) hlt; omega
    have kk : EndsOk F (B + i * cb + cb) R'' H'' N K := (k.fz z3).mono (by omega)
    refine sb F _ R'' H'' σ3 ρ3 α' XQ _ _ hK hX (by omega) S3 q3 ⟨fun σ4 H4 ρ4 R4 α4 z4 S4 q4 => ⟨R4, ρ4, α4, z3.trans z4, by rw [e1]; exact S4, q4⟩, kk.rt, kk.nx, fun σ4 H4 ρ4 R4 α4 z4 S4 q4 => ⟨R4, ρ4, α4, z3.trans z4, by rw [e1]; exact S4, q4⟩⟩
  · have hl : i = xs.length := by omega
    refine .inl ⟨(w i _ R' H' z S'.hp).1 hl, ?_⟩
    rw [hl, List.drop_length] at q
    exact k.nx σ' H' ρ' R' α' z (S'.mono (by have := le i hi; omega)) q
theorem lc_core {own : List (Str × Nat)} {l : List Nat} {gt : TDG} {g : TG} {tt : TT} {te : TE}
    (sg : ∀ F B R H σ ρ α v x Q (K : L2.St → Hp → Prop), F.K = X.K → StOk F B R H σ ρ α → Rp F H R x v → gt x ρ Q → (∀ σ' ρ', StOk F B R H σ' ρ' α → SetOnly l σ σ' → Q ρ' → K σ' H) → g v σ H K)
    (st : ∀ F B R H σ ρ α XQ Q (K : Bool → Hp → Prop), F.K = X.K → XLink F E0 XQ → B + ct ≤ F.L → StOk F B R H σ ρ α → ft ρ XQ Q → (∀ b R' H', Ext F R H R' H' → HpOk F (B + ct) R' H' → Q b → K b H') → tt σ H K)
    (se : ∀ F B R H σ ρ α XQ Q (K : VK), F.K = X.K → XLink F E0 XQ → B + ce ≤ F.L → StOk F B R H σ ρ α → fe ρ XQ Q → (∀ v x R' H', Ext F R H R' H' → HpOk F (B + ce) R' H' → Rp F H' R' x v → Q x → K v H') → te σ H K)
    (hl : ∀ i ∈ l, i ∈ own.map (·.2)) {F : Fx} {B : Nat} {R R1 : Reg} {H H1 : Hp} {σ : L2.St} {ρ : Ro} {α : Nat → Addr} {Q : Dv → Prop} {K : VK} {J : It} {xs : List Dv} (hK : F.K = X.K) (hB : B + (BIG * (ct + ce)) ≤ F.L) (S : StOk F B R H σ ρ α) (e1 : Ext F R H R1 H1) (o1 : HpOk F B R1 H1)
    (hz : xs.length ≤ BIG) (q : lcGo gt ft fe (wipeR ρ (own.map (·.2))) Q xs [] true) (w : Walks F R1 H1 J xs)
    (k : ∀ a d n R' H', Ext F R H R' H' → HpOk F (B + (BIG * (ct + ce))) R' H' → Own F H' R' a d n → Nn H a → Q ⟨d, n, none⟩ → K (.ref a) H') : tLc (fun _ _ Kk => Kk J H1) g tt te (own.map (·.2)) σ H K := fun D hD => by
  have n0 := o1.ent2 D (.of hD)
  have nm := mx_none o1.inv hD
  have nr := not_frozen o1 hD
  have S1 := S.ext e1 o1
  have le : ∀ i, i ≤ xs.length → i * (ct + ce) ≤ BIG * (ct + ce) := fun i hi => Nat.mul_le_mul_right _ (Nat.le_trans hi hz)
  -- the turn's state
  refine ⟨fun i m H' => m = xs.length - i ∧ i ≤ xs.length ∧ ∃ R' acc accD n, acc.length ≤ i ∧ H' D = some (.lst acc) ∧ ¬ R' D ∧ Ext F R1 H1 R' H' ∧ HpOk F (B + i * (ct + ce)) R' H' ∧ RpL F H' R' n acc accD ∧ lcGo gt ft fe (wipeR ρ (own.map (·.2))) Q (xs.drop i) accD n,
    ⟨_, rfl, Nat.zero_le _, R1, [], [], true, Nat.le_refl _, upd_same, nr, .new0 hD, by simpa using o1.new0 hD .lst, .nil, by simpa using q⟩, ?_⟩
  rintro i m H' ⟨rfl, hi, R', acc, accD, n, hacc, hH, nR, e2, o2, la, q⟩
  have zf : Fz F R1 H1 R' H' := e2.fz o1
  by_cases hlt : i < xs.length
  · refine .inr ?_
    have hx : xs[i]? = some xs[i] := by simp [hlt]
    obtain ⟨go, yl⟩ := (w i _ R' H' zf o2).2 _ hx
    rw [List.drop_eq_getElem_cons hlt] at q
    refine ⟨go, fun H2 => ∃ R2 acc2 accD2 n2, acc2.length ≤ i + 1 ∧ H2 D = some (.lst acc2) ∧ ¬ R2 D ∧ Ext F R1 H1 R2 H2 ∧ HpOk F (B + (i + 1) * (ct + ce)) R2 H2 ∧ RpL F H2 R2 n2 acc2 accD2 ∧ lcGo gt ft fe (wipeR ρ (own.map (·.2))) Q (xs.drop (i + 1)) accD2 n2, fun H2 q2 => ⟨_, by omega, rfl, hlt, q2⟩, fun v H'' y => ?_⟩
    obtain ⟨R'', ex, ox, rx⟩ := yl v H'' y
    have S3 : StOk F (B + i * (ct + ce)) R'' H'' (wipe σ (own.map (·.2))) (wipeR ρ (own.map (·.2))) α := ((S1.ext e2 o2).ext ex ox).wipe _
    have hD2 : H'' D = some (.lst acc) := ex.keep D _ nm hH .lst
    have nR2 : ¬ R'' D := fun z => (ex.new D z).elim nR fun z => z _ hH .lst
    have le2 := le (i + 1) hlt
    have e3 : B + (i + 1) * (ct + ce) = B + i * (ct + ce) + ct + ce := by rw [Nat.add_mul, Nat.one_mul]; omega
    refine sg F _ R'' H'' _ _ α v _ _ _ hK S3 rx q fun σ4 ρ4 S4 so q4 => ⟨?_, ?_⟩
    · rw [wipe_eq so hl, wipe_wipe]
    refine st F _ R'' H'' σ4 ρ4 α XQ0 _ _ hK xlink0 (by omega) S4 q4 fun bb R5 H5 e5 o5 q5 => ?_
    have hD5 : H5 D = some (.lst acc) := e5.keep D _ nm hD2 .lst
    have nR5 : ¬ R5 D := fun z => (e5.new D z).elim nR2 fun z => z _ hD2 .lst
    have e15 := (e2.trans ex).trans e5
    cases bb with
    | true =>
      refine se F _ R5 H5 σ4 ρ4 α XQ0 _ _ hK xlink0 (by omega) (S4.ext e5 o5) q5 fun u y R6 H6 e6 o6 r6 q6 => ?_
      have hD6 : H6 D = some (.lst acc) := e6.keep D _ nm hD5 .lst
      have nR6 : ¬ R6 D := fun z => (e6.new D z).elim nR5 fun z => z _ hD5 .lst
      have fz6 : Fz F R6 H6 R6 (upd H6 D (.lst (acc ++ [u]))) := Fz.put nR6 hD6 (fun _ z => nomatch z) fun _ _ z => nomatch z
      have la6 : RpL F H6 R6 n acc accD := la.fz (((ex.fz o2).trans (e5.fz ox)).trans (e6.fz o5))
      have e16 := e15.trans e6
      refine ⟨acc, hD6, lt_line (by omega), R6, acc ++ [u], accD ++ [y.d], n && y.fr, by rw [List.length_append, List.length_cons, List.length_nil]; omega, upd_same, nR6, ⟨e16.reg, fun b o m hb nt => by
        rw [upd_ne (ne_of_none hb hD)]
        exact e16.keep b o m hb nt, e16.new, fun b hb => ?_⟩, by rw [e3]; exact o6.put nR6 nm n0 hD6 .lst .lst, ((la6.weak and_l).app (.cons (r6.fr.weak and_r) .nil)).fz fz6, q6⟩
      by_cases z : b = D
      · rw [z]; exact .of hD
      · exact e16.there b fun u q => hb u (by rw [upd_ne z]; exact q)
    | false =>
      exact ⟨R5, acc, accD, n, by omega, hD5, nR5, e15, o5.mono (by omega), la.fz ((ex.fz o2).trans (e5.fz ox)), q5⟩
  · have hle : i = xs.length := by omega
    refine .inl ⟨(w i _ R' H' zf o2).1 hle, ?_⟩
    rw [hle, List.drop_length] at q
    refine k D (.lst accD) n R' H' ⟨fun a r => e2.reg a (e1.reg a r), fun a o m ha nt => e2.keep a o m (e1.keep a o m ha nt) nt, fun a r => (e2.new a r).elim (e1.new a) fun z => .inr (e1.there a z), fun a z => e1.there a (e2.there a z)⟩ (o2.mono (by have := le i hi; omega)) ⟨nR, nm, n0, o1.pn D (.of hD), ⟨acc, hH, la⟩⟩ (e1.there D (.of hD)) q
/-- for tg in a dict: body -/
theorem ds_forK {l2 : List Nat} {body : List Stmt} {gt : TDG} {gb : TDS} (hp : PassesOwn (model X.prog X.w) X.A X.env X.xe) (hc : X.calm = true) (hi : DIK X tg iter fi) (hg : DG X l2 tg gt) (hb : DSs X E cb body gb)
    (hs : ∀ x, foldedSetIterable iter X.env x = pure x := by intro _; rfl) :
    DS X E (BIG * cb) (.For tg iter body [] pos) (fun N ρ _ => fi ρ fun xs => (cb = 0 ∨ xs.length ≤ BIG) ∧ forGo gt gb N XQ0 xs ρ) := by
  obtain ⟨wi, pi, si⟩ := hi
  obtain ⟨tt, pt, st⟩ := hg
  obtain ⟨tb, pb, sb⟩ := hb
  refine ⟨_, ps_or (ps_for hp hc pi pt pb hs) (ps_lock (ps_for hp hc pi pt pb hs)), fun F B R H σ ρ α XQ N K hK hX hB S h k => ?_⟩
  obtain ⟨d, kvs, xs, hr, hd, ⟨hz, q⟩, kk⟩ := si F B R H σ ρ α _ hK S h
  rcases hd.rd with hd | ⟨o, hd⟩
  · refine .inr ⟨d, _, hd, trivial, fun o => ?_⟩
    refine kk (F.lk d o kvs) _ o rfl rfl rfl (lk_lock hd) upd_same _ fun J w => ?_
    exact for_core (X := X) st sb (F := F.lk d o kvs) (XQ := XQ0) hK xlink0 hB (S.lock hr hd) hz q w (k.lock S.hp hr hd)
  · refine .inl (kk F _ o rfl rfl rfl lk_refl hd _ fun J w => ?_)
    exact for_core (X := X) st sb (XQ := XQ0) hK xlink0 hB S hz q w k
/-- [.. for tg in a dict] -/
theorem dn_lcK {scope : Scope} {own : List (Str × Nat)} {l : List Nat} {gt : TDG} (hc : X.calm = true) (hN : X.N.Nodup) (hi : DIK X tg iter fi) {ifs : List Expr} (ok : BlkOk X.N X.env.scope scope own)
    (hg : ∀ s H C cl fp, DG (X.blk s H scope (compEnvC scope cl C X.env) fp) l tg gt) (ht : ∀ s H C cl fp, DTs (X.blk s H scope (compEnvC scope cl C X.env) fp) E0 ct ifs ft) (he : ∀ s H C cl fp, DE (X.blk s H scope (compEnvC scope cl C X.env) fp) E0 ce elt fe)
    (hl : ∀ i ∈ l, i ∈ own.map (·.2)) (hs : ∀ x, foldedSetIterable iter X.env x = pure x := by intro _; rfl) :
    DN X E (BIG * (ct + ce)) (.ListComp elt [⟨tg, iter, ifs, 0⟩] scope pos) (fun ρ _ Q => fi ρ fun xs => xs.length ≤ BIG ∧ lcGo gt ft fe (wipeR ρ (own.map (·.2))) Q xs [] true) := by
  obtain ⟨wi, pi, si⟩ := hi
  have hG : ∃ g : TG, (∀ s H C cl fp, PG (X.blk s H scope (compEnvC scope cl C X.env) fp) tg g) ∧ ∀ F B R H σ ρ α v x Q (K : L2.St → Hp → Prop), F.K = X.K → StOk F B R H σ ρ α → Rp F H R x v → gt x ρ Q → (∀ σ' ρ', StOk F B R H σ' ρ' α → SetOnly l σ σ' → Q ρ' → K σ' H) → g v σ H K :=
    ⟨fun v σ H Q => ∀ s H0 C cl fp, (hg s H0 C cl fp).choose v σ H Q, fun s H C cl fp => ⟨fun pins s' σ H' v u Q I r q => (hg s H C cl fp).choose_spec.1.run pins s' σ H' v u Q I r (q s H C cl fp)⟩,
      fun F B R H σ ρ α v x Q K hK S r q k s H0 C cl fp => (hg s H0 C cl fp).choose_spec.2 F B R H σ ρ α v x Q K hK S r q k⟩
  have hT : ∃ tt : TT, (∀ s H C cl fp, PTs (X.blk s H scope (compEnvC scope cl C X.env) fp) ifs tt) ∧ ∀ F B R H σ ρ α XQ Q (K : Bool → Hp → Prop), F.K = X.K → XLink F E0 XQ → B + ct ≤ F.L → StOk F B R H σ ρ α → ft ρ XQ Q → (∀ b R' H', Ext F R H R' H' → HpOk F (B + ct) R' H' → Q b → K b H') → tt σ H K :=
    ⟨fun σ H Q => ∀ s H0 C cl fp, (ht s H0 C cl fp).choose σ H Q, fun s H C cl fp => ⟨fun pins s' σ H' Q I q => (ht s H C cl fp).choose_spec.1.run pins s' σ H' Q I (q s H C cl fp)⟩,
      fun F B R H σ ρ α XQ Q K hK hX hB S q k s H0 C cl fp => (ht s H0 C cl fp).choose_spec.2 F B R H σ ρ α XQ Q K hK hX hB S q k⟩
  have hE : ∃ te : TE, (∀ s H C cl fp, PE (X.blk s H scope (compEnvC scope cl C X.env) fp) elt te) ∧ ∀ F B R H σ ρ α XQ Q (K : VK), F.K = X.K → XLink F E0 XQ → B + ce ≤ F.L → StOk F B R H σ ρ α → fe ρ XQ Q → (∀ v x R' H', Ext F R H R' H' → HpOk F (B + ce) R' H' → Rp F H' R' x v → Q x → K v H') → te σ H K :=
    ⟨fun σ H Q => ∀ s H0 C cl fp, (he s H0 C cl fp).choose σ H Q, fun s H C cl fp => ⟨fun pins s' σ H' Q I q => (he s H C cl fp).choose_spec.1.run pins s' σ H' Q I (q s H C cl fp)⟩,
      fun F B R H σ ρ α XQ Q K hK hX hB S q k s H0 C cl fp => (he s H0 C cl fp).choose_spec.2 F B R H σ ρ α XQ Q K hK hX hB S q k⟩
  obtain ⟨g, pg, sg⟩ := hG
  obtain ⟨tt, pt, st⟩ := hT
  obtain ⟨te, pe, se⟩ := hE
  refine ⟨_, pe_or (pe_lc hc hN pi ok pg pt pe hs) (pe_lock (pe_lc hc hN pi ok pg pt pe hs)), fun F B R H σ ρ α XQ Q K hK hX hB S h k => ?_⟩
  obtain ⟨d, kvs, xs, hr, hd, ⟨hz, q⟩, kk⟩ := si F B R H σ ρ α _ hK S h
  rcases hd.rd with hd | ⟨o, hd⟩
  · refine .inr ⟨d, _, hd, trivial, fun o => ?_⟩
    refine kk (F.lk d o kvs) _ o rfl rfl rfl (lk_lock hd) upd_same _ fun J w => ?_
    refine lc_core (X := X) sg st se hl (F := F.lk d o kvs) (K := fun v H' => H' d = some (.frz o (.dK kvs)) ∧ K v (upd H' d (.dK kvs))) (Q := Q) hK hB (S.lock hr hd) .refl (S.hp.lock hr hd) hz q w fun a x n R' H' e' o' ow hn q' => ?_
    obtain ⟨h2, e3⟩ := e'.unlock hr hd (S.hp.good d hr).1
    exact ⟨h2, k a x n R' _ e3 (S.hp.unlock hr hd o' h2) (ow.unlock (e'.reg d hr) h2) (fun u e => hn u (by rw [upd_ne (nn_ne upd_same .frz hn)]; exact e)) q'⟩
  · refine .inl (kk F _ o rfl rfl rfl lk_refl hd _ fun J w => ?_)
    exact lc_core (X := X) sg st se hl (K := K) (Q := Q) hK hB S .refl S.hp hz q w k
end
end DL

set_option Elab.async false
set_option linter.all false
set_option maxRecDepth 100000
set_option maxHeartbeats 1000000
/-! DL, part as: len of a dict. -/
namespace DL
open PySem PySem.Spec PyProof.Rows L2

section
variable {X : Cx}
theorem call_len_dK : CallR X (.builtin "len") (fun xs H Q => ∃ (p : Addr) (kvs : List (Key × V)), xs = [.ref p] ∧ Rd H p (.dK kvs) ∧ Q (.int ((kvs.length : Nat) : Int)) H) := by
  intro pins s σ H xs us Q I r h
  obtain ⟨p, kvs, rfl, hp, q⟩ := h
  obtain ⟨u, rfl, rx⟩ := vals1 r
  obtain rfl : u = .ref p := rx
  obtain ⟨z, hd, ys, rel, dd⟩ := hp.ok I.hok
  have hl : kvs.length = ys.length := Paired.length rel
  refine call_len_dict hd dd (by rw [← hl]; rw [sizeLine_eq] at z; omega) ?_
  rw [← hl]
  exact ⟨.int ((kvs.length : Nat) : Int), H, I.tok _, ⟨_, rfl⟩, q⟩
/-- len(d), d with plain keys -/
theorem dcl_lenK : DCl X (.builtin "len") (g1 fun x Q => ∃ ds, x.d = .dct ds ∧ PlainK ds ∧ Q ⟨.int ds.length, true, none⟩) := dcl1 call_len_dK fun F B R H v x Q K hK I r ⟨ds, ed, hp, q⟩ k => by
  have rf := r.fr
  rw [ed] at rf
  obtain ⟨d, kvs, rfl, hr, hd, l⟩ := dct_rpk rf hp
  refine ⟨d, kvs, rfl, hd.rd, k _ _ R H .refl I (.of ?_) q⟩
  rw [l.len']
  exact .int _
end
/-- a dict from ints -/
def intK (kd : List (Int × D)) : D := .dct (kd.map fun p => (.int p.1, p.2))
theorem intK_plain (kd : List (Int × D)) : PlainK (kd.map fun p => ((.int p.1 : D), p.2)) := fun p hp => by
  obtain ⟨q, _, rfl⟩ := List.mem_map.mp hp
  exact ⟨.inl q.1, rfl⟩
theorem getK_mapI {α : Type} (f : α → Int) (g : α → D) (x : Int) : ∀ l : List α, getK (l.map fun a => (.int (f a), g a)) (.inl x) = (l.find? fun a => decide (f a = x)).map g
  | [] => rfl
  | a :: l => by
    rw [List.map_cons, getK_cons, List.find?_cons, getK_mapI f g x l]
    by_cases h : f a = x
    · simp [isKey, h]
    · simp [isKey, h]
end DL

set_option Elab.async false
set_option linter.all false
set_option maxRecDepth 100000
set_option maxHeartbeats 1000000
/-! DL, part at: dict(pairs) that nobody else knows. -/
namespace DL
open PySem PySem.Spec PyProof.Rows L2
section
variable {X : Cx} {E : XK} {c : Nat} {e : Expr} {fs : TDs} {pos : Pos}
theorem dn_dictP {p1 : Pos} (hc : X.calm = true) (hg : Gl X "dict") (hm : X.mg "dict" = none) (ha : DA X E c [e] fs) (he : starEach [e] X.env = (false, eval e X.env) :: starEach [] X.env := by rfl) (hpl : (backTo pos (starEach [] X.env)).any (·.1) = false := by rfl) :
    DN X E c (.Call (.Name "dict" p1) [e] [] pos) (fun ρ XQ Q => fs ρ XQ fun xs => ∃ x kd, xs = [x] ∧ x.d = .lst (kd.map DL.pairD) ∧ (kd.map (·.1)).Nodup ∧ Q ⟨dctD kd, x.fr, none⟩) := by
  obtain ⟨t, pt, s⟩ := ha
  refine ⟨_, pe_callTy (call_dictP hc) hg hm (by decide +kernel) pt (by decide) (by decide) he hpl, fun F B R H σ ρ α XQ Q K hK hX hB S h k => ?_⟩
  refine s F B R H σ ρ α XQ _ _ hK hX hB S h fun vs xs R1 H1 e1 o1 r1 ⟨x, kd, ex, ed, nd, q⟩ => ?_
  subst ex
  cases r1 with
  | @cons _ v _ _ r1 rn =>
  cases rn
  obtain ⟨d, n, vo⟩ := x
  have ed : d = .lst (kd.map DL.pairD) := ed
  subst ed
  obtain ⟨a, us, rfl, ha, la⟩ := r1.lstL rfl
  obtain ⟨ps, kvs, rfl, h2, h3, h4⟩ := pairs_rp la
  refine ⟨a, ps, kvs, rfl, .of ha, hK ▸ h2, fun p hp => ?_⟩
  rw [merge_new kvs [] (by simpa [h4] using nd)]
  exact k p (dctD kd) _ R1 _ (e1.trans (.new0 hp)) (o1.new0 hp .dK) ⟨not_frozen o1 hp, mx_none o1.inv hp, o1.ent2 p (.of hp), o1.pn p (.of hp), .inl ⟨kvs, upd_same, h3.ext o1 (.new0 hp)⟩⟩ (e1.there p (.of hp)) q
end
end DL

set_option Elab.async false
set_option linter.all false
set_option maxRecDepth 100000
set_option maxHeartbeats 1000000
/-! DL, part au: a dict that is written out, list(range(a, b)). -/
namespace DL
open PySem PySem.Spec PyProof.Rows L2
/-- the pairs of a written dict -/
def DPp (X : Cx) (E : XK) (c : Nat) (pos : Pos) (keys : List (Option Expr)) (values : List Expr) (f : Ro → XQT → (List (Dv × Dv) → Prop) → Prop) : Prop :=
  ∃ trs, PPs X pos keys values trs ∧ ∀ F B R H σ ρ α XQ Q (K : List (V × V) → Hp → Prop), F.K = X.K → XLink F E XQ → B + c ≤ F.L → StOk F B R H σ ρ α → f ρ XQ Q →
    (∀ ps xs R' H', Ext F R H R' H' → HpOk F (B + c) R' H' → Paired (fun (x : Dv × Dv) (p : V × V) => Rp F H' R' x.1 p.1 ∧ Rp F H' R' x.2 p.2) xs ps → Q xs → K ps H') → tPairs trs σ H K
section
variable {X : Cx} {E : XK} {c ca cb cc : Nat} {a b : Expr} {fa fb : TD} {pos p p2 p3 : Pos}
theorem dpp_nil : DPp X E 0 pos [] [] (fun _ _ Q => Q []) := ⟨_, pps_nil, fun F B R H σ ρ α XQ Q K _ _ _ S h k => k [] [] R H .refl S.hp .nil h⟩
theorem dpp_cons {ks : List (Option Expr)} {vs : List Expr} {fs : Ro → XQT → (List (Dv × Dv) → Prop) → Prop} (ha : DE X E ca a fa) (hb : DE X E cb b fb) (hr : DPp X E cc pos ks vs fs) :
    DPp X E (ca + cb + cc) pos (some a :: ks) (b :: vs) (fun ρ XQ Q => fa ρ XQ fun x => fb ρ XQ fun y => fs ρ XQ fun xs => Q ((x, y) :: xs)) := by
  obtain ⟨ta, pa, sa⟩ := ha
  obtain ⟨tb, pb, sb⟩ := hb
  obtain ⟨trs, pt, s⟩ := hr
  refine ⟨_, pps_cons pa pb pt, fun F B R H σ ρ α XQ Q K hK hX hB S h k => ?_⟩
  refine sa F B R H σ ρ α XQ _ _ hK hX (by omega) S h fun v x R1 H1 e1 o1 r1 q1 => ?_
  refine sb F (B + ca) R1 H1 σ ρ α XQ _ _ hK hX (by omega) (S.ext e1 o1) q1 fun u y R2 H2 e2 o2 r2 q2 => ?_
  refine s F (B + ca + cb) R2 H2 σ ρ α XQ _ _ hK hX (by omega) ((S.ext e1 o1).ext e2 o2) q2 fun ps xs R3 H3 e3 o3 r3 q3 => ?_
  exact k _ ((x, y) :: xs) R3 H3 ((e1.trans e2).trans e3) (by rw [← Nat.add_assoc, ← Nat.add_assoc]; exact o3) (.cons ⟨(r1.ext o1 e2).ext o2 e3, r2.ext o2 e3⟩ r3) q3
theorem disp_rp {F : Fx} {H : Hp} {R : Reg} : ∀ {xs : List (Dv × Dv)} {ps : List (V × V)} {kd : List (Key × D)}, Paired (fun (x : Dv × Dv) (p : V × V) => Rp F H R x.1 p.1 ∧ Rp F H R x.2 p.2) xs ps → xs.map (fun x => (x.1.d, x.2.d)) = kd.map (fun p => (keyD p.1, p.2)) →
    ∃ kvs : List (Key × V), ps = kvs.map (fun kv => (kV kv.1, kv.2)) ∧ kvs.map (·.1) = kd.map (·.1) ∧ RpK F H R (allFr (xs.map (·.2))) kvs (kd.map fun p => (keyD p.1, p.2))
  | _, _, [], .nil, _ => ⟨[], rfl, rfl, .nil⟩
  | _, _, _ :: _, .nil, e => nomatch e
  | _, _, [], .cons _ _, e => nomatch e
  | (x, y) :: xs, (v, u) :: ps, (k, d) :: kd, .cons ⟨r1, r2⟩ t, e => by
    rw [List.map_cons, List.map_cons] at e
    injection e with e1 e2
    obtain ⟨e3, e4⟩ := Prod.mk.inj e1
    obtain ⟨kvs, h1, h2, h3⟩ := disp_rp t e2
    have e3 : x.d = keyD k := e3
    have e4 : y.d = d := e4
    have r1' := r1.1
    rw [e3] at r1'
    have ev := rp_key r1'
    subst ev
    subst h1
    have r2' := r2.fr
    rw [e4] at r2'
    refine ⟨(k, u) :: kvs, rfl, by rw [List.map_cons, List.map_cons, h2], ?_⟩
    have hy : RpD F H R (allFr (((x, y) :: xs).map (·.2))) u d := r2'.weak fun z => (Bool.and_eq_true_iff.mp z).1
    have ht : RpK F H R (allFr (((x, y) :: xs).map (·.2))) kvs (kd.map fun p => (keyD p.1, p.2)) := h3.mv (mv_weak fun z => (Bool.and_eq_true_iff.mp z).2)
    cases k with
    | inl i => exact .consI hy ht
    | inr i => exact .consS hy ht
/-- {k: v, ..} -/
theorem dn_disp {keys : List (Option Expr)} {values : List Expr} {fs : Ro → XQT → (List (Dv × Dv) → Prop) → Prop} (h : DPp X E c pos keys values fs) (hall : keys.all (·.isSome) = true) (hl : keys.length = values.length) (h0 : keys ≠ []) (h15 : keys.length ≤ 15) :
    DN X E c (.Dict keys values pos) (fun ρ XQ Q => fs ρ XQ fun xs => ∃ kd : List (Key × D), xs.map (fun x => (x.1.d, x.2.d)) = kd.map (fun p => (keyD p.1, p.2)) ∧ kd.length ≤ 15 ∧ (kd.map (·.1)).Nodup ∧ Q ⟨dctD kd, allFr (xs.map (·.2)), none⟩) := by
  obtain ⟨trs, pt, s⟩ := h
  refine ⟨_, pe_disp pt hall hl h0 h15, fun F B R H σ ρ α XQ Q K hK hX hB S hf k => fun p hp => ?_⟩
  have S0 := S.ext (Ext.new0 hp) (S.hp.new0 hp (o := .dK []) .dK)
  refine s F B R _ σ ρ α XQ _ _ hK hX hB S0 hf fun ps xs R' H2 e2 o2 rel ⟨kd, ek, hl, nd, q⟩ => ?_
  have nm := mx_none S.hp.inv hp
  have hp2 : H2 p = some (.dK []) := e2.keep _ _ nm upd_same .dK
  have nr : ¬ R' p := fun z => (e2.new p z).elim (not_frozen S.hp hp) fun n => n _ upd_same .dK
  obtain ⟨kvs, rfl, hk, hr⟩ := disp_rp rel ek
  have hlen : kvs.length = kd.length := by rw [← List.length_map (f := (·.1)), hk, List.length_map]
  refine ⟨hp2, kvs, rfl, by omega, ?_⟩
  rw [merge_new kvs [] (by simpa [hk] using nd)]
  have n0 : Nn F.H0 p := S.hp.ent2 p (.of hp)
  have o3 : HpOk F (B + c) R' (upd H2 p (.dK ([] ++ kvs))) := o2.put nr nm n0 hp2 .dK .dK
  have fz : Fz F R' H2 R' (upd H2 p (.dK ([] ++ kvs))) := Fz.put nr hp2 (fun _ z => nomatch z) (fun _ _ z => nomatch z)
  refine k p (dctD kd) _ R' _ ⟨fun a r => e2.reg a r, fun a u m e nt => ?_, fun a r => ?_, fun a n => ?_⟩ o3 ⟨nr, nm, n0, S.hp.pn p (.of hp), .inl ⟨kvs, upd_same, hr.fz fz⟩⟩ (.of hp) q
  · have ne : a ≠ p := ne_of_none e hp
    rw [upd_ne ne]
    exact e2.keep a u m (by rw [upd_ne ne]; exact e) nt
  · exact (e2.new a r).imp id fun z => nn_upd (.of hp) z
  · by_cases ne : a = p
    · rw [ne]; exact .of hp
    · exact nn_upd (.of hp) (e2.there a fun u q => n u (by rw [upd_ne ne]; exact q))
/-- list(range(a, b)) -/
theorem de_listRg2 (hc : X.calm = true) (hg : Gl X "list") (hm : X.mg "list" = none) (hg2 : Gl X "range") (hm2 : X.mg "range" = none) (ha : DE X E ca a fa) (hb : DE X E cb b fb) (na : starEach [a, b] X.env = (false, eval a X.env) :: starEach [b] X.env := by rfl)
    (nb : starEach [b] X.env = (false, eval b X.env) :: starEach [] X.env := by rfl) (hpl : (backTo p3 (starEach [b] X.env)).any (·.1) = false := by rfl)
    (na2 : starEach [.Call (.Name "range" p2) [a, b] [] p3] X.env = (false, eval (.Call (.Name "range" p2) [a, b] [] p3) X.env) :: starEach [] X.env := by rfl) :
    DE X E (ca + cb) (.Call (.Name "list" p) [.Call (.Name "range" p2) [a, b] [] p3] [] pos) (fun ρ XQ Q => fa ρ XQ fun x => fb ρ XQ fun y => ∃ i j : Int, x.d = .int i ∧ y.d = .int j ∧ 0 ≤ i ∧ i ≤ 16777216 ∧ 0 ≤ j ∧ j ≤ 16777216 ∧ Q ⟨.lst ((List.range (j - i).toNat).map fun k => .int (i + (k : Nat))), true, none⟩) := by
  obtain ⟨ta, pa, sa⟩ := ha
  obtain ⟨tb, pb, sb⟩ := hb
  refine ⟨_, pe_listRg hc hg hm (prg_2 hg2 hm2 pa pb na nb hpl) na2, fun F B R H σ ρ α XQ Q K hK hX hB S h k => ?_⟩
  refine sa F B R H σ ρ α XQ _ _ hK hX (by omega) S h fun v x R1 H1 e1 o1 r1 q1 => ?_
  refine sb F (B + ca) R1 H1 σ ρ α XQ _ _ hK hX (by omega) (S.ext e1 o1) q1 fun u y R2 H2 e2 o2 r2 ⟨i, j, ex, ey, i0, i1, j0, j1, q⟩ => ?_
  have t1 := r1.1
  rw [ex] at t1
  cases t1
  have t2 := r2.1
  rw [ey] at t2
  cases t2
  refine ⟨i, j, rfl, rfl, RgOk.of_le i0 j1 i1 j0, fun q' hq' => ?_⟩
  obtain ⟨e3, o3, r3⟩ := new_lst o2 hq' (rpl_rg (F := F) (H := H2) (R := R2) (n := true) (f := fun k : Nat => i + (k : Int)) (List.range (j - i).toNat))
  exact k _ ⟨_, true, none⟩ _ _ ((e1.trans e2).trans e3) (by rw [← Nat.add_assoc]; exact o3) (.of r3) q
theorem immL_mem : ∀ {xs : List D}, D.immL xs = true → ∀ x ∈ xs, x.imm = true
  | [], _, _, h => nomatch h
  | y :: ys, e, x, h => by
    simp only [D.immL, Bool.and_eq_true] at e
    rcases List.mem_cons.mp h with rfl | h
    · exact e.1
    · exact immL_mem e.2 x h
theorem immL_of : ∀ {xs : List D}, (∀ x ∈ xs, x.imm = true) → D.immL xs = true
  | [], _ => rfl
  | y :: ys, h => by
    simp only [D.immL, Bool.and_eq_true]
    exact ⟨h y List.mem_cons_self, immL_of fun x hx => h x (List.mem_cons_of_mem _ hx)⟩
theorem immL_ints : ∀ is : List Int, D.immL (is.map D.int) = true
  | [] => rfl
  | _ :: is => by simp only [List.map_cons, D.immL, D.imm, Bool.true_and]; exact immL_ints is
/-- sorted(x), nothing in x that changes: the list is new -/
theorem dcl_sortedN (hr : Room 0 X.A) : DCl X (.builtin "sorted") (g1 fun x Q => ∃ ds, x.d = .lst ds ∧ CanSort ds ∧ D.immL ds = true ∧ Q ⟨.lst (srtD ds), true, none⟩) := dcl1 (call_sortedD hr) fun F B R H v x Q K hK I r ⟨ds, ed, cs, im, q⟩ k => by
  obtain ⟨d, n, vo⟩ := x
  have ed : d = .lst ds := ed
  subst ed
  obtain ⟨a, vs, rfl, ha, la⟩ := r.lstL rfl
  refine ⟨F, R, _, a, vs, ds, hK, rfl, .of ha, la, cs, fun us' p r1 hp => ?_⟩
  have im2 : D.immL (srtD ds) = true := immL_of fun x hx => immL_mem im x ((srtD_perm ds).mem_iff.mp hx)
  obtain ⟨e, o, r2⟩ := new_lst I hp (r1.imm im2)
  exact k _ _ _ _ e o (.of r2) q
end
end DL

set_option Elab.async false
set_option linter.all false
set_option maxRecDepth 100000
set_option maxHeartbeats 4000000
set_option pp.maxSteps 6000
namespace My
open PySem PySem.Spec PyProof.Rows L2 DL
structure FnT (K : PySem.W.Frag) (mg : Str → Option Value) (x : Str) (st : Stmt) (ps : List Str) where
  f : Addr
  fd : FuncData
  ok : FunD K x x (defArgs st) (defBody st) (defScope st) [] [] f fd
  g : mg x = some (.ref f)
  b : Binds K fd ps []
structure Txt (K : PySem.W.Frag) (mg : Str → Option Value) where
  n_ValueError : mg "ValueError" = none
  n_abs : mg "abs" = none
  n_all : mg "all" = none
  n_bool : mg "bool" = none
  n_dict : mg "dict" = none
  n_enumerate : mg "enumerate" = none
  n_int : mg "int" = none
  n_isinstance : mg "isinstance" = none
  n_len : mg "len" = none
  n_list : mg "list" = none
  n_max : mg "max" = none
  n_min : mg "min" = none
  n_range : mg "range" = none
  n_repr : mg "repr" = none
  n_sorted : mg "sorted" = none
  n_str : mg "str" = none
  n_tuple : mg "tuple" = none
  n_zip : mg "zip" = none
  f_is_list : FnT K mg "is_list" s_is_list ["thing"]
  f_is_whole : FnT K mg "is_whole" s_is_whole ["thing"]
  f_is_number : FnT K mg "is_number" s_is_number ["thing"]
  f_is_row : FnT K mg "is_row" s_is_row ["thing", "many"]
  f_is_name : FnT K mg "is_name" s_is_name ["thing"]
  f_first_bad : FnT K mg "first_bad" s_first_bad ["things", "is_right"]
  f_first_bad_index : FnT K mg "first_bad_index" s_first_bad_index ["things", "many"]
  f_first_bad_road : FnT K mg "first_bad_road" s_first_bad_road ["office", "roads"]
  f_is_post : FnT K mg "is_post" s_is_post ["plan", "thing"]
  f_check_plan : FnT K mg "check_plan" s_check_plan ["plan"]
  f_check_gone : FnT K mg "check_gone" s_check_gone ["plan", "gone"]
  f_check_holds : FnT K mg "check_holds" s_check_holds ["plan", "holds"]
  f_check_brings : FnT K mg "check_brings" s_check_brings ["plan", "brings"]
  f_letters_at : FnT K mg "letters_at" s_letters_at ["plan", "post"]
  f_riders_at : FnT K mg "riders_at" s_riders_at ["plan", "post", "begin", "end"]
  f_unstamped_at : FnT K mg "unstamped_at" s_unstamped_at ["plan", "post", "gone", "hold", "brings"]
  f_unstamped : FnT K mg "unstamped" s_unstamped ["plan", "gone", "holds", "brings"]
  f__law_stream : FnT K mg "_law_stream" s__law_stream ["script"]
  f__law_draw : FnT K mg "_law_draw" s__law_draw ["stream", "many"]
  f__law_pick : FnT K mg "_law_pick" s__law_pick ["stream", "things"]
  f__law_mixed : FnT K mg "_law_mixed" s__law_mixed ["stream", "things"]
  f__law_same : FnT K mg "_law_same" s__law_same ["found", "due"]
  f__law_loose : FnT K mg "_law_loose" s__law_loose ["stream", "thing"]
  f__law_names : FnT K mg "_law_names" s__law_names ["stream", "many"]
  f__law_spoilt : FnT K mg "_law_spoilt" s__law_spoilt ["thing"]
  f__law_tree : FnT K mg "_law_tree" s__law_tree ["stream", "posts"]
  f__law_made : FnT K mg "_law_made" s__law_made ["stream", "plan"]
  f__law_s_plan : FnT K mg "_law_s_plan" s__law_s_plan ["stream", "riders", "letters"]
  f__law_s_holds : FnT K mg "_law_s_holds" s__law_s_holds ["stream", "plan"]
  f__law_s_brings : FnT K mg "_law_s_brings" s__law_s_brings ["stream", "plan"]
  f__law_unstamped : FnT K mg "_law_unstamped" s__law_unstamped ["plan", "gone", "holds", "brings"]
  f__law_asked_right : FnT K mg "_law_asked_right" s__law_asked_right ["stream", "plan", "made", "gone", "holds", "brings"]
  f__law_great_right : FnT K mg "_law_great_right" s__law_great_right ["stream"]
  f_law : FnT K mg "law" s_law ["script"]
  clP : ClT K 0
  g_Plan : mg "Plan" = some (.ref (objC K 0))
  g_LETTERS : ∃ t, mg "LETTERS" = some (.str "abcdefghijklmnopqrstuvwxyz" t)
  f_Plan___init__ : MethT K "__init__" "Plan.__init__" s_Plan___init__ ["self", "office", "roads", "riders", "letters"]
  f_Plan_is_rider : MethT K "is_rider" "Plan.is_rider" s_Plan_is_rider ["self", "thing"]
  f_Plan_is_letter : MethT K "is_letter" "Plan.is_letter" s_Plan_is_letter ["self", "thing"]
  mkP : Mk K (objC K 0) f_Plan___init__.f
  bmR : BMeth K (objC K 0) "is_rider" f_Plan_is_rider.f
  bmL : BMeth K (objC K 0) "is_letter" f_Plan_is_letter.f
/-! ### the plain side -/
def isWhole : D → Bool
  | .int _ => true
  | _ => false
theorem isWhole_int {d : D} (h : isWhole d = true) : ∃ i, d = .int i := by
  cases d <;> first | exact ⟨_, rfl⟩ | (simp [isWhole] at h)
def isNumber : D → Bool
  | .int i => decide (0 ≤ i)
  | _ => false
def isList (d : D) : Bool := d.seq.isSome
def isRow (d : D) (n : Int) : Bool := match d.seq with
  | some xs => (xs.length : Int) == n
  | none => false

/-- a plan's own form -/
structure PV where
  office : Str
  roads : List (Str × Str × Int)
  riders : List (Str × Int × Int)
  letters : List (Str × Int × Int)
def rowD (r : Str × Int × Int) : D := .tup [.str r.1, .int r.2.1, .int r.2.2]
def roadD (r : Str × Str × Int) : D := .tup [.str r.1, .str r.2.1, .int r.2.2]
def roadsD (p : PV) : D := .dct (p.roads.map fun r => (.str r.1, .tup [.str r.2.1, .int r.2.2]))
def PV.behind (p : PV) (x : Str) : List D := (srtD (p.roads.map fun r => .str r.1)).filter fun d => match d with
  | .str y => (p.roads.any fun r => decide (r.1 = y) && decide (r.2.1 = x))
  | _ => false
def behindD (p : PV) : D := .dct ((p.office :: p.roads.map (·.1)).map fun x => (.str x, .lst (p.behind x)))
/-- the instance -/
def PV.o (p : PV) : D := .obj 0 [.str p.office, roadsD p, .lst (p.riders.map rowD), .lst (p.letters.map rowD), behindD p]
structure PV.Ok (p : PV) : Prop where
  r1 : p.roads ≠ []
  r2 : p.riders.length ≤ 1000
  r3 : p.letters.length ≤ 1000
  nr : ∀ r ∈ p.riders, PyData.strOk r.1 = true
  nl : ∀ r ∈ p.letters, PyData.strOk r.1 = true
  sr : ∀ r ∈ p.riders, r.2.1.natAbs ≤ 10 ^ 9 ∧ r.2.2.natAbs ≤ 10 ^ 9
  sl : ∀ r ∈ p.letters, r.2.1.natAbs ≤ 10 ^ 9 ∧ r.2.2.natAbs ≤ 10 ^ 9
/-- the riders of a post -/
abbrev Row : Type := Str × Int × Int
def mineAt (x : Str) : Nat → List Row → List Nat
  | _, [] => []
  | i, r :: rs => if r.1 = x then i :: mineAt x (i + 1) rs else mineAt x (i + 1) rs
def mineN (rs : List Row) (x : Str) : List Nat := mineAt x 0 rs
theorem mem_mineAt {x : Str} : ∀ {rs : List Row} {i k : Nat}, k ∈ mineAt x i rs → i ≤ k ∧ k < i + rs.length ∧ ∃ r, rs[k - i]? = some r ∧ r.1 = x
  | [], _, _, h => nomatch h
  | r :: rs, i, k, h => by
    unfold mineAt at h
    have go : k ∈ mineAt x (i + 1) rs → i ≤ k ∧ k < i + (r :: rs).length ∧ ∃ r', (r :: rs)[k - i]? = some r' ∧ r'.1 = x := fun h => by
      obtain ⟨h1, h2, r', h3, h4⟩ := mem_mineAt h
      refine ⟨by omega, by simp only [List.length_cons]; omega, r', ?_, h4⟩
      rw [show k - i = (k - (i + 1)) + 1 by omega, List.getElem?_cons_succ]
      exact h3
    split at h
    · rename_i hx
      rcases List.mem_cons.mp h with rfl | h
      · exact ⟨Nat.le_refl _, by simp only [List.length_cons]; omega, r, by simp, hx⟩
      · exact go h
    · exact go h
theorem mem_mine {x : Str} {rs : List Row} {k : Nat} (h : k ∈ mineN rs x) : k < rs.length ∧ ∃ r, rs[k]? = some r ∧ r.1 = x := by
  obtain ⟨_, h2, r, h3, h4⟩ := mem_mineAt h
  exact ⟨by omega, r, by simpa using h3, h4⟩
theorem mineAt_len {x : Str} : ∀ {rs : List Row} {i : Nat}, (mineAt x i rs).length ≤ rs.length
  | [], _ => Nat.le_refl _
  | r :: rs, i => by
    unfold mineAt
    have := mineAt_len (x := x) (rs := rs) (i := i + 1)
    split <;> simp only [List.length_cons] <;> omega
def mineF (x : Str) (y : Dv) : Option D := match y.d with
  | .tup [.int k, .tup (.str z :: _)] => if z = x then some (.int k) else none
  | _ => none
theorem enum_mine (x : Str) (n : Bool) : ∀ (rs : List Row) (i : Nat), (enumD n i (rs.map rowD)).filterMap (mineF x) = (mineAt x i rs).map fun k => D.int (k : Nat)
  | [], _ => rfl
  | r :: rs, i => by
    rw [List.map_cons, enumD, List.filterMap_cons, enum_mine x n rs (i + 1)]
    show _ = (if r.1 = x then i :: mineAt x (i + 1) rs else mineAt x (i + 1) rs).map _
    by_cases h : r.1 = x
    · simp only [mineF, rowD, if_pos h, List.map_cons]
    · simp only [mineF, rowD, if_neg h]
theorem any_find {α : Type} {f : α → Bool} : ∀ {l : List α}, l.any f = (l.find? f).isSome
  | [] => rfl
  | a :: l => by
    rw [List.any_cons, List.find?_cons, any_find]
    cases f a <;> rfl
theorem getK_map {α : Type} (f : α → Str) (g : α → D) (x : Str) : ∀ l : List α, getK (l.map fun a => (.str (f a), g a)) (.inr x) = (l.find? fun a => decide (f a = x)).map g
  | [] => rfl
  | a :: l => by
    rw [List.map_cons, getK_cons, List.find?_cons, getK_map f g x l]
    by_cases h : f a = x
    · simp [isKey, h]
    · simp [isKey, h]
theorem PV.fld {p : PV} {f : Str} {n : Bool} {v : Option V} {Q : Dv → Prop} (i : Nat) {d : D} (h : (objN 0)[i]? = some f) (hd : [D.str p.office, roadsD p, .lst (p.riders.map rowD), .lst (p.letters.map rowD), behindD p][i]? = some d) (q : Q ⟨d, Dv.fr ⟨p.o, n, v⟩, none⟩) : gFld f ⟨p.o, n, v⟩ Q := ⟨0, _, i, d, rfl, h, hd, q⟩

section
variable {P : Program} {w : World} {K : PySem.W.Frag} {mg : Str → Option Value} {base : Heap}
theorem sc_is_list : FnScope ["thing"] ["thing"] (defScope s_is_list) := ⟨rfl, rfl, rfl, by decide +kernel, rfl, by decide +kernel, by decide +kernel⟩
def c_is_list : DC := fun ds _ _ Q => ∃ a, ds = [a] ∧ a.good = true ∧ Q ⟨.bl (isList a), true, none⟩
theorem ok_is_list (T : Txt K mg) : FnD P w K mg base 1 T.f_is_list.f T.f_is_list.fd ["thing"] 0 c_is_list := by
  refine fn_ok T.f_is_list.ok sc_is_list fun cdv A outer s H E hr => ⟨_, _, (dss_one (ds_ret [] (de_isiT (tys_ok2 ty_list ty_tuple) (de_var (pv 0)) (pa_tyCons (T := "list") (by rfl) T.n_list (by decide +kernel) (pa_tyCons (T := "tuple") (by rfl) T.n_tuple (by decide +kernel) pa_tyNil)) (by rfl) T.n_isinstance (by decide +kernel)))), by decide +kernel, fun ds vs XQ Q hd hv h => ?_⟩
  obtain ⟨a, rfl, ha, q⟩ := h
  match vs, hv with
  | [v], _ =>
  try simp only [frz, params, setAll, List.zipWith, List.length_cons, List.length_nil, Nat.reduceAdd, Nat.reduceSub, List.replicate, List.append_nil, List.cons_append, List.nil_append, getV_va, Pt.sl, true_and, List.getElem?_cons_zero, List.getElem?_cons_succ, List.set_cons_zero, List.set_cons_succ, ite_self, Bool.false_eq_true, if_false, if_true]
  refine ⟨good_ty ha, ?_⟩
  cases a <;> simp_all [D.isa, isList, D.seq, D.good]

theorem sc_is_whole : FnScope ["thing"] ["thing"] (defScope s_is_whole) := ⟨rfl, rfl, rfl, by decide +kernel, rfl, by decide +kernel, by decide +kernel⟩
def c_is_whole : DC := fun ds _ _ Q => ∃ a, ds = [a] ∧ a.good = true ∧ Q ⟨.bl (isWhole a), true, none⟩
theorem ok_is_whole (T : Txt K mg) : FnD P w K mg base 1 T.f_is_whole.f T.f_is_whole.fd ["thing"] 0 c_is_whole := by
  refine fn_ok T.f_is_whole.ok sc_is_whole fun cdv A outer s H E hr => ⟨_, _, (dss_one (ds_ret [] (de_and (de_isi (T := "int") ty_int (de_var (pv 0)) (by rfl) T.n_isinstance (by decide +kernel) (by rfl) T.n_int (by decide +kernel)) (de_one (de_not (de_isi (T := "bool") ty_bool (de_var (pv 0)) (by rfl) T.n_isinstance (by decide +kernel) (by rfl) T.n_bool (by decide +kernel))))))), by decide +kernel, fun ds vs XQ Q hd hv h => ?_⟩
  obtain ⟨a, rfl, ha, q⟩ := h
  match vs, hv with
  | [v], _ =>
  try simp only [frz, params, setAll, List.zipWith, List.length_cons, List.length_nil, Nat.reduceAdd, Nat.reduceSub, List.replicate, List.append_nil, List.cons_append, List.nil_append, getV_va, Pt.sl, true_and, List.getElem?_cons_zero, List.getElem?_cons_succ, List.set_cons_zero, List.set_cons_succ, ite_self, Bool.false_eq_true, if_false, if_true]
  have ht := good_ty ha
  cases a <;> simp_all [D.isa, isWhole]

theorem sc_is_number : FnScope ["thing"] ["thing"] (defScope s_is_number) := ⟨rfl, rfl, rfl, by decide +kernel, rfl, by decide +kernel, by decide +kernel⟩
def c_is_number : DC := fun ds _ _ Q => ∃ a, ds = [a] ∧ a.good = true ∧ Q ⟨.bl (isNumber a), true, none⟩
theorem ok_is_number (T : Txt K mg) : FnD P w K mg base 2 T.f_is_number.f T.f_is_number.fd ["thing"] 0 c_is_number := by
  refine fn_ok T.f_is_number.ok sc_is_number fun cdv A outer s H E hr => ⟨_, _, (dss_one (ds_ret [] (de_and (de_call ((ok_is_whole T).mono (by decide)) hr (by rfl) T.f_is_whole.g T.f_is_whole.ok.kp T.f_is_whole.b (passE (takes_of rfl rfl rfl rfl)) rfl (da_cons (de_var (pv 0)) da_nil)) (de_one (de_cmp dop_ge (de_var (pv 0)) de_int (nomark _)))))), by decide +kernel, fun ds vs XQ Q hd hv h => ?_⟩
  obtain ⟨a, rfl, ha, q⟩ := h
  match vs, hv with
  | [v], _ =>
  try simp only [frz, params, setAll, List.zipWith, List.length_cons, List.length_nil, Nat.reduceAdd, Nat.reduceSub, List.replicate, List.append_nil, List.cons_append, List.nil_append, getV_va, Pt.sl, true_and, List.getElem?_cons_zero, List.getElem?_cons_succ, List.set_cons_zero, List.set_cons_succ, ite_self, Bool.false_eq_true, if_false, if_true]
  refine gCall_of fun _ => ⟨a, rfl, ha, _, rfl, ?_⟩
  cases a <;> simp_all [isWhole, isNumber, gI]

theorem sc_is_row : FnScope ["thing", "many"] ["thing", "many"] (defScope s_is_row) := ⟨rfl, rfl, rfl, by decide +kernel, rfl, by decide +kernel, by decide +kernel⟩
def c_is_row : DC := fun ds _ _ Q => ∃ a n, ds = [a, .int n] ∧ a.good = true ∧ Q ⟨.bl (isRow a n), true, none⟩
theorem ok_is_row (T : Txt K mg) : FnD P w K mg base 2 T.f_is_row.f T.f_is_row.fd ["thing", "many"] 0 c_is_row := by
  refine fn_ok T.f_is_row.ok sc_is_row fun cdv A outer s H E hr => ⟨_, _, (dss_one (ds_ret [] (de_and (de_call ((ok_is_list T).mono (by decide)) hr (by rfl) T.f_is_list.g T.f_is_list.ok.kp T.f_is_list.b (passE (takes_of rfl rfl rfl rfl)) rfl (da_cons (de_var (pv 0)) da_nil)) (de_one (de_cmp (dop_eq hr.units) (de_callB dcl_len (by rfl) T.n_len (by decide +kernel) (da_cons (de_var (pv 0)) da_nil)) (de_var (pv 1)) (nomark _)))))), by decide +kernel, fun ds vs XQ Q hd hv h => ?_⟩
  obtain ⟨a, n, rfl, ha, q⟩ := h
  match vs, hv with
  | [v, u], _ =>
  try simp only [frz, params, setAll, List.zipWith, List.length_cons, List.length_nil, Nat.reduceAdd, Nat.reduceSub, List.replicate, List.append_nil, List.cons_append, List.nil_append, getV_va, Pt.sl, true_and, List.getElem?_cons_zero, List.getElem?_cons_succ, List.set_cons_zero, List.set_cons_succ, ite_self, Bool.false_eq_true, if_false, if_true]
  refine gCall_of fun _ => ⟨a, rfl, ha, _, rfl, ?_⟩
  cases a <;> simp_all [isRow, isList, D.seq, g1, gLen, gEq, D.shp, D.pln, D.dep, D.eqv]

theorem sc_is_post : FnScope ["plan", "thing"] ["plan", "thing"] (defScope s_is_post) := ⟨rfl, rfl, rfl, by decide +kernel, rfl, by decide +kernel, by decide +kernel⟩
def c_is_post : DC := fun ds _ _ Q => ∃ (p : PV) (x : Str), ds = [p.o, .str x] ∧ p.Ok ∧ Q ⟨.bl (p.roads.any fun r => decide (r.1 = x)), true, none⟩
theorem ok_is_post (T : Txt K mg) : FnD P w K mg base 1 T.f_is_post.f T.f_is_post.fd ["plan", "thing"] 0 c_is_post := by
  refine fn_ok T.f_is_post.ok sc_is_post fun cdv A outer s H E hr => ⟨_, _, (dss_one (ds_ret [] (de_and (de_isi (T := "str") ty_str (de_var (pv 1)) (by rfl) T.n_isinstance (by decide +kernel) (by rfl) T.n_str (by decide +kernel)) (de_one (de_has (neg := false) _ rfl hr.units (de_var (pv 1)) (de_fld (clT_of T.clP) (de_var (pv 0))) (by rfl)))))), by decide +kernel, fun ds vs XQ Q hd hv h => ?_⟩
  obtain ⟨p, x, rfl, hp, q⟩ := h
  match vs, hv with
  | [v, v2], _ =>
  try simp only [frz, params, setAll, List.zipWith, List.length_cons, List.length_nil, Nat.reduceAdd, Nat.reduceSub, List.replicate, List.append_nil, List.cons_append, List.nil_append, getV_va, Pt.sl, true_and, List.getElem?_cons_zero, List.getElem?_cons_succ, List.set_cons_zero, List.set_cons_succ, ite_self, Bool.false_eq_true, if_false, if_true]
  refine ⟨⟨_, rfl⟩, _, rfl, ?_⟩
  rw [if_pos (by rfl)]
  refine PV.fld 1 rfl rfl ⟨_, .inr x, rfl, fun r hr => ?_, rfl, ?_⟩
  · obtain ⟨a, _, rfl⟩ := List.mem_map.mp hr
    exact ⟨.inr a.1, rfl⟩
  · rw [getK_map (fun r : Str × Str × Int => r.1)]
    rw [any_find] at q
    have e : ((p.roads.find? fun a => decide (a.1 = x)).map fun r : Str × Str × Int => (D.tup [.str r.2.1, .int r.2.2])).isSome = (p.roads.find? fun r => decide (r.1 = x)).isSome := Option.isSome_map ..
    rw [if_neg (by decide), e]
    exact q

end
end My

set_option Elab.async false
set_option linter.all false
set_option maxRecDepth 100000
set_option maxHeartbeats 4000000
set_option pp.maxSteps 6000
namespace My
open PySem PySem.Spec PyProof.Rows L2 DL
set_option pp.maxSteps 2500
theorem gHas_intK {neg : Bool} {x : Int} {n n2 : Bool} {v v2 : Option V} {kd : List (Int × D)} {b : Bool} {Q : Dv → Prop} (h : (kd.any fun p => decide (p.1 = x)) = b) (q : Q ⟨.bl (if neg = true then !b else b), true, none⟩) : gHas neg ⟨.int x, n, v⟩ ⟨intK kd, n2, v2⟩ Q := by
  refine ⟨_, .inl x, rfl, intK_plain kd, rfl, ?_⟩
  rw [getK_mapI (fun p : Int × D => p.1)]
  rw [any_find] at h
  have e : ((kd.find? fun a => decide (a.1 = x)).map fun p : Int × D => p.2).isSome = (kd.find? fun a => decide (a.1 = x)).isSome := Option.isSome_map ..
  rw [e, h]
  exact q
theorem putD_intK {kd : List (Int × D)} {x : Int} {d : D} (h : (kd.any fun p => decide (p.1 = x)) = false) : D.dct (putD (kd.map fun p => ((.int p.1 : D), p.2)) (.inl x) d) = intK (kd ++ [(x, d)]) := by
  unfold putD
  have e : ((kd.map fun p => ((.int p.1 : D), p.2)).any fun p => isKey p.1 (.inl x)) = false := by
    rw [List.any_map]
    exact h
  rw [e, if_neg (by decide)]
  unfold intK
  rw [List.map_append]
  rfl

section
variable {P : Program} {w : World} {K : PySem.W.Frag} {mg : Str → Option Value} {base : Heap}
theorem sc_first_bad_index : FnScope ["things", "many", "known", "index", "thing"] ["things", "many"] (defScope s_first_bad_index) := ⟨rfl, rfl, rfl, by decide +kernel, rfl, by decide +kernel, by decide +kernel⟩
def c_first_bad_index : DC := fun ds _ _ Q => ∃ (G : D) (m : Nat) (ks : List Nat), ds = [G, .int m] ∧ G.good = true ∧ G.seq = some (ks.map fun k => .int (k : Nat)) ∧ ks.Nodup ∧ (∀ k ∈ ks, k < m) ∧ ks.length ≤ 1000 ∧ Q ⟨.non, true, none⟩
theorem ok_first_bad_index (T : Txt K mg) : FnD P w K mg base 3 T.f_first_bad_index.f T.f_first_bad_index.fd ["things", "many"] 0 c_first_bad_index := by
  refine fn_ok T.f_first_bad_index.ok sc_first_bad_index fun cdv A outer s H E hr => ⟨_, _, (dss_cons (ds_own [] dn_dnew (pg_name (i := 2) sc_first_bad_index.nd rfl (Or.inl rfl)) (fun _ _ a b => ps_asg a b))
      (dss_cons (ds_if [] (dt_not (dt_val (de_call ((ok_is_list T).mono (by decide)) hr (by rfl) T.f_is_list.g T.f_is_list.ok.kp T.f_is_list.b (passE (takes_of rfl rfl rfl rfl)) rfl (da_cons (de_var (pv 0)) da_nil)))) (dss_one (ds_ret [] de_int)) dss_nil)
      (dss_cons (ds_for [] (passes_of rfl) rfl (di_enumA (by rfl) T.n_enumerate (da_cons (de_var (pv 0)) da_nil)) (dg_tup (n := 2) rfl (dgs_cons (dg_name (pg_name (i := 3) sc_first_bad_index.nd rfl (Or.inl rfl))) (dgs_cons (dg_name (pg_name (i := 4) sc_first_bad_index.nd rfl (Or.inl rfl))) dgs_nil)))
      (dss_cons (ds_if [2] (DW.dt (dw_or (dt_not (dt_val (de_call ((ok_is_number T).mono (by decide)) hr (by rfl) T.f_is_number.g T.f_is_number.ok.kp T.f_is_number.b (passE (takes_of rfl rfl rfl rfl)) rfl (da_cons (de_var (pv 4)) da_nil)))) (dw_or (dt_cmp dop_ge (de_var (pv 4)) (de_var (pv 1)) (nomark _)) (dw_or1 (dt_has (neg := false) _ rfl hr.units (de_var (pv 4)) (de_var (pv 2)) (by rfl)))))) (dss_one (ds_ret [] (de_var (pv 3)))) dss_nil)
      (dss_one (ds_setD [] (i := 2) hr.units de_bl (de_var (pv 4)) (pv 2)))))
      (dss_one (ds_ret [] de_non))))), by decide +kernel, fun ds vs XQ Q hd hv h => ?_⟩
  obtain ⟨G, m, ks, rfl, gG, eG, nd, lt, hl, q⟩ := h
  match vs, hv with
  | [v, v2], _ =>
  try simp only [frz, params, setAll, List.zipWith, List.length_cons, List.length_nil, Nat.reduceAdd, Nat.reduceSub, List.replicate, List.append_nil, List.cons_append, List.nil_append, getV_va, Pt.sl, true_and, List.getElem?_cons_zero, List.getElem?_cons_succ, List.set_cons_zero, List.set_cons_succ, ite_self, Bool.false_eq_true, if_false, if_true]
  refine gCall_of fun _ => ⟨G, rfl, gG, ?_⟩
  have e0 : isList G = true := by unfold isList; rw [eG]; rfl
  rw [e0]
  refine ⟨true, rfl, ?_⟩
  rw [if_neg (by decide)]
  refine ⟨_, _, rfl, eG, .inl trivial, ?_⟩
  refine for_idx (fun n ρ => ∃ s3 s4 f, ρ = [Sl.va ⟨G, G.imm, some v⟩, .va ⟨.int m, (D.int m).imm, some v2⟩, .ow (intK ((ks.take n).map fun (k : Nat) => ((k : Int), D.bl true))) f, s3, s4]) _ 0 _ ⟨_, _, _, rfl⟩ (fun j x hx ρ hI K2 kk => ?_) fun ρ hI => ?_
  · obtain ⟨s3, s4, f, rfl⟩ := hI
    obtain ⟨y, hy, rfl⟩ := enumD_get hx
    rw [List.getElem?_map] at hy
    cases hk : ks[j]? with
    | none => rw [hk] at hy; cases hy
    | some k =>
    rw [hk] at hy
    cases hy
    have hm : k ∈ ks := List.mem_of_getElem? hk
    have hkm := lt k hm
    try simp only [lcStep, true_and, wipeR, List.map_cons, List.map_nil, List.set_cons_succ, List.set_cons_zero, List.getElem?_cons_succ, List.getElem?_cons_zero, getV_va, if_true]
    rw [unp_seq (by rfl)]
    refine ⟨rfl, ?_⟩
    simp only [List.map_cons, List.map_nil]
    try simp only [frz, params, setAll, List.zipWith, List.length_cons, List.length_nil, Nat.reduceAdd, Nat.reduceSub, List.replicate, List.append_nil, List.cons_append, List.nil_append, getV_va, Pt.sl, true_and, List.getElem?_cons_zero, List.getElem?_cons_succ, List.set_cons_zero, List.set_cons_succ, ite_self, Bool.false_eq_true, if_false, if_true]
    rw [Nat.zero_add] at *
    refine gCall_of fun _ => ⟨.int (k : Nat), rfl, rfl, ?_⟩
    have e1 : isNumber (.int (k : Nat)) = true := by simp [isNumber]
    rw [e1]
    refine ⟨true, rfl, ?_⟩
    rw [if_neg (by decide), gI_of]
    refine ⟨trivial, _, rfl, ?_⟩
    rw [if_neg (by simp; omega)]
    have k0 : (((ks.take j).map fun (k : Nat) => ((k : Int), D.bl true)).any fun p => decide (p.1 = (k : Int))) = false := by
      rw [List.any_map, List.any_eq_false]
      intro a ha
      have hj := (List.getElem?_eq_some_iff.mp hk)
      obtain ⟨hlt, hk'⟩ := hj
      simp only [Function.comp, decide_eq_true_eq]
      intro e
      have e : a = k := by omega
      subst e
      obtain ⟨i, hi, ei⟩ := List.mem_iff_getElem.mp ha
      rw [List.length_take] at hi
      rw [List.getElem_take] at ei
      exact (List.pairwise_iff_getElem.mp nd) i j (by omega) hlt (by omega) (ei.trans hk'.symm)
    refine gHas_intK k0 ⟨false, rfl, ?_⟩
    rw [if_neg (by decide)]
    have hput : D.dct (putD (((ks.take j).map fun (k : Nat) => ((k : Int), D.bl true)).map fun p => ((.int p.1 : D), p.2)) (.inl (k : Int)) (D.bl true)) = intK ((ks.take (j + 1)).map fun (k : Nat) => ((k : Int), D.bl true)) := by
      rw [putD_intK k0, List.take_succ_eq_append_getElem (List.getElem?_eq_some_iff.mp hk).1, List.map_append, (List.getElem?_eq_some_iff.mp hk).2]
      rfl
    refine ⟨_, f, rfl, intK_plain _, by rw [List.length_map, List.length_map, List.length_take]; show _ < 16777216; omega, .inl (k : Int), rfl, ?_⟩
    rw [hput]
    exact kk _ ⟨_, _, _, rfl⟩
  · obtain ⟨s3, s4, f, rfl⟩ := hI
    try simp only [frz, params, setAll, List.zipWith, List.length_cons, List.length_nil, Nat.reduceAdd, Nat.reduceSub, List.replicate, List.append_nil, List.cons_append, List.nil_append, getV_va, Pt.sl, true_and, List.getElem?_cons_zero, List.getElem?_cons_succ, List.set_cons_zero, List.set_cons_succ, ite_self, Bool.false_eq_true, if_false, if_true]
    exact q

theorem sc_check_plan : FnScope ["plan"] ["plan"] (defScope s_check_plan) := ⟨rfl, rfl, rfl, by decide +kernel, rfl, by decide +kernel, by decide +kernel⟩
def c_check_plan : DC := fun ds _ _ Q => ∃ (p : PV), ds = [p.o] ∧ Q ⟨.non, true, none⟩
theorem ok_check_plan (T : Txt K mg) : FnD P w K mg base 1 T.f_check_plan.f T.f_check_plan.fd ["plan"] 0 c_check_plan := by
  refine fn_ok T.f_check_plan.ok sc_check_plan fun cdv A outer s H E hr => ⟨_, _, (dss_one (ds_if [] (dt_not (dt_val (de_callB (dcl_isC T.clP.ins) (by rfl) T.n_isinstance (by decide +kernel) (da_cons (de_var (pv 0)) (da_cons (de_glob (by rfl) T.g_Plan) da_nil))))) (dss_one ds_never) dss_nil)), by decide +kernel, fun ds vs XQ Q hd hv h => ?_⟩
  obtain ⟨p, rfl, q⟩ := h
  match vs, hv with
  | [v], _ =>
  try simp only [frz, params, setAll, List.zipWith, List.length_cons, List.length_nil, Nat.reduceAdd, Nat.reduceSub, List.replicate, List.append_nil, List.cons_append, List.nil_append, getV_va, Pt.sl, true_and, List.getElem?_cons_zero, List.getElem?_cons_succ, List.set_cons_zero, List.set_cons_succ, ite_self, Bool.false_eq_true, if_false, if_true]
  refine ⟨rfl, ⟨_, rfl⟩, _, rfl, ?_⟩
  rw [if_neg (by decide)]
  exact q

theorem sc_check_gone : FnScope ["plan", "gone", "wrong"] ["plan", "gone"] (defScope s_check_gone) := ⟨rfl, rfl, rfl, by decide +kernel, rfl, by decide +kernel, by decide +kernel⟩
def c_check_gone : DC := fun ds _ _ Q => ∃ (p : PV) (G : D) (ks : List Nat), ds = [p.o, G] ∧ p.Ok ∧ G.good = true ∧ G.seq = some (ks.map fun k => .int (k : Nat)) ∧ ks.Nodup ∧ (∀ k ∈ ks, k < p.riders.length) ∧ ks.length ≤ 1000 ∧ Q ⟨.non, true, none⟩
theorem ok_check_gone (T : Txt K mg) : FnD P w K mg base 4 T.f_check_gone.f T.f_check_gone.fd ["plan", "gone"] 0 c_check_gone := by
  refine fn_ok T.f_check_gone.ok sc_check_gone fun cdv A outer s H E hr => ⟨_, _, (dss_cons (ds_expr [] (de_call ((ok_check_plan T).mono (by decide)) hr (by rfl) T.f_check_plan.g T.f_check_plan.ok.kp T.f_check_plan.b (passE (takes_of rfl rfl rfl rfl)) rfl (da_cons (de_var (pv 0)) da_nil)))
      (dss_cons (ds_asg [] (de_call ((ok_first_bad_index T).mono (by decide)) hr (by rfl) T.f_first_bad_index.g T.f_first_bad_index.ok.kp T.f_first_bad_index.b (passE (takes_of rfl rfl rfl rfl)) rfl (da_cons (de_var (pv 1)) (da_cons (de_callB dcl_len (by rfl) T.n_len (by decide +kernel) (da_cons (de_fld (clT_of T.clP) (de_var (pv 0))) da_nil)) da_nil))) (dg_name (pg_name (i := 2) sc_check_gone.nd rfl (Or.inl rfl))) (fun _ _ a b => ps_asg a b))
      (dss_one (ds_if [] (dt_cmp dop_notN (de_var (pv 2)) de_non (nomark _)) (dss_one ds_never) dss_nil)))), by decide +kernel, fun ds vs XQ Q hd hv h => ?_⟩
  obtain ⟨p, G, ks, rfl, hp, gG, eG, nd, lt, hl, q⟩ := h
  match vs, hv with
  | [v, v2], _ =>
  try simp only [frz, params, setAll, List.zipWith, List.length_cons, List.length_nil, Nat.reduceAdd, Nat.reduceSub, List.replicate, List.append_nil, List.cons_append, List.nil_append, getV_va, Pt.sl, true_and, List.getElem?_cons_zero, List.getElem?_cons_succ, List.set_cons_zero, List.set_cons_succ, ite_self, Bool.false_eq_true, if_false, if_true]
  refine gCall_of fun _ => ⟨p, rfl, ?_⟩
  refine PV.fld 2 rfl rfl ?_
  rw [g1_of, gLen_of (by rfl)]
  refine gCall_of fun _ => ⟨G, p.riders.length, ks, by simp, gG, eG, nd, lt, hl, ?_⟩
  try simp only [frz, params, setAll, List.zipWith, List.length_cons, List.length_nil, Nat.reduceAdd, Nat.reduceSub, List.replicate, List.append_nil, List.cons_append, List.nil_append, getV_va, Pt.sl, true_and, List.getElem?_cons_zero, List.getElem?_cons_succ, List.set_cons_zero, List.set_cons_succ, ite_self, Bool.false_eq_true, if_false, if_true]
  refine ⟨⟨false, rfl, ?_⟩, fun v z => nomatch z⟩
  rw [if_neg (by decide)]
  exact q

/-- what drawers hold: just the posts, numbers -/
structure HoldsOk (p : PV) (hd : List (Str × Int)) : Prop where
  l : hd.length = p.roads.length
  k : ∀ x ∈ hd, (p.roads.any fun r => decide (r.1 = x.1)) = true
  n : ∀ x ∈ hd, 0 ≤ x.2
  m : hd.length ≤ 1000
def holdsD (hd : List (Str × Int)) : D := .dct (hd.map fun x => (.str x.1, .int x.2))
theorem holds_plain (hd : List (Str × Int)) : PlainK (hd.map fun x => ((.str x.1 : D), (.int x.2 : D))) := fun p hp => by
  obtain ⟨x, _, rfl⟩ := List.mem_map.mp hp
  exact ⟨.inr x.1, rfl⟩
theorem roads_plain (p : PV) : PlainK (p.roads.map fun r => ((.str r.1 : D), D.tup [.str r.2.1, .int r.2.2])) := fun x hx => by
  obtain ⟨r, _, rfl⟩ := List.mem_map.mp hx
  exact ⟨.inr r.1, rfl⟩
theorem gHas_roads {p : PV} {neg : Bool} {x : Str} {n n2 : Bool} {v v2 : Option V} {b : Bool} {Q : Dv → Prop} (h : (p.roads.any fun r => decide (r.1 = x)) = b) (q : Q ⟨.bl (if neg = true then !b else b), true, none⟩) : gHas neg ⟨.str x, n, v⟩ ⟨roadsD p, n2, v2⟩ Q := by
  refine ⟨_, .inr x, rfl, roads_plain p, rfl, ?_⟩
  rw [getK_map (fun r : Str × Str × Int => r.1)]
  rw [any_find] at h
  have e : ((p.roads.find? fun a => decide (a.1 = x)).map fun r : Str × Str × Int => (D.tup [.str r.2.1, .int r.2.2])).isSome = (p.roads.find? fun r => decide (r.1 = x)).isSome := Option.isSome_map ..
  rw [e, h]
  exact q
theorem sc_check_holds : FnScope ["plan", "holds", "post", "number"] ["plan", "holds"] (defScope s_check_holds) := ⟨rfl, rfl, rfl, by decide +kernel, rfl, by decide +kernel, by decide +kernel⟩
def c_check_holds : DC := fun ds _ _ Q => ∃ (p : PV) (hz : List (Str × Int)), ds = [p.o, holdsD hz] ∧ p.Ok ∧ HoldsOk p hz ∧ Q ⟨.non, true, none⟩
theorem ok_check_holds (T : Txt K mg) : FnD P w K mg base 3 T.f_check_holds.f T.f_check_holds.fd ["plan", "holds"] 0 c_check_holds := by
  refine fn_ok T.f_check_holds.ok sc_check_holds fun cdv A outer s H E hr => ⟨_, _, (dss_cons (ds_if [] (DW.dt (dw_or (dt_not (dt_val (de_isi (T := "dict") ty_dict (de_var (pv 1)) (by rfl) T.n_isinstance (by decide +kernel) (by rfl) T.n_dict (by decide +kernel)))) (dw_or1 (dt_cmp (dop_ne hr.units) (de_callB dcl_lenK (by rfl) T.n_len (by decide +kernel) (da_cons (de_var (pv 1)) da_nil)) (de_callB dcl_lenK (by rfl) T.n_len (by decide +kernel) (da_cons (de_fld (clT_of T.clP) (de_var (pv 0))) da_nil)) (nomark _))))) (dss_one ds_never) dss_nil)
      (dss_one (ds_forK (passes_of rfl) rfl (dik_items (dpl_var (pv 1))) (dg_tup (n := 2) rfl (dgs_cons (dg_name (pg_name (i := 2) sc_check_holds.nd rfl (Or.inl rfl))) (dgs_cons (dg_name (pg_name (i := 3) sc_check_holds.nd rfl (Or.inl rfl))) dgs_nil)))
      (dss_one (ds_if [] (DW.dt (dw_or (dt_not (dt_val (de_isi (T := "str") ty_str (de_var (pv 2)) (by rfl) T.n_isinstance (by decide +kernel) (by rfl) T.n_str (by decide +kernel)))) (dw_or (dt_has (neg := true) _ rfl hr.units (de_var (pv 2)) (de_fld (clT_of T.clP) (de_var (pv 0))) (by rfl)) (dw_or1 (dt_not (dt_val (de_call ((ok_is_number T).mono (by decide)) hr (by rfl) T.f_is_number.g T.f_is_number.ok.kp T.f_is_number.b (passE (takes_of rfl rfl rfl rfl)) rfl (da_cons (de_var (pv 3)) da_nil)))))))) (dss_one ds_never) dss_nil))))), by decide +kernel, fun ds vs XQ Q hd hv h => ?_⟩
  obtain ⟨p, hz, rfl, hp, hh, q⟩ := h
  match vs, hv with
  | [v, v2], _ =>
  try simp only [frz, params, setAll, List.zipWith, List.length_cons, List.length_nil, Nat.reduceAdd, Nat.reduceSub, List.replicate, List.append_nil, List.cons_append, List.nil_append, getV_va, Pt.sl, true_and, List.getElem?_cons_zero, List.getElem?_cons_succ, List.set_cons_zero, List.set_cons_succ, ite_self, Bool.false_eq_true, if_false, if_true]
  obtain ⟨hl, hk, hn, hm⟩ := hh
  refine ⟨⟨_, rfl⟩, true, rfl, ?_⟩
  rw [if_neg (by decide), g1_of]
  refine ⟨_, rfl, holds_plain hz, ?_⟩
  refine PV.fld 1 rfl rfl ?_
  rw [g1_of]
  refine ⟨_, rfl, roads_plain p, ?_⟩
  dsimp only
  rw [gEq_int]
  refine ⟨_, rfl, ?_⟩
  rw [if_neg (by simp [hl])]
  refine ⟨_, _, rfl, rfl, holds_plain hz, .inl trivial, ?_⟩
  refine for_idx (fun n ρ => ∃ s2 s3, ρ = [Sl.va ⟨p.o, p.o.imm, some v⟩, .va ⟨holdsD hz, (holdsD hz).imm, some v2⟩, s2, s3]) _ 0 _ ⟨_, _, rfl⟩ (fun j x hx ρ hI K2 kk => ?_) fun ρ hI => ?_
  · obtain ⟨s2, s3, rfl⟩ := hI
    rw [itemsD, List.map_map, List.getElem?_map] at hx
    cases e : hz[j]? with
    | none => rw [e] at hx; cases hx
    | some z =>
    rw [e] at hx
    cases hx
    have hm2 : z ∈ hz := List.mem_of_getElem? e
    try simp only [lcStep, true_and, wipeR, List.map_cons, List.map_nil, List.set_cons_succ, List.set_cons_zero, List.getElem?_cons_succ, List.getElem?_cons_zero, getV_va, if_true]
    rw [unp_seq (by rfl)]
    refine ⟨rfl, ?_⟩
    simp only [List.map_cons, List.map_nil]
    try simp only [frz, params, setAll, List.zipWith, List.length_cons, List.length_nil, Nat.reduceAdd, Nat.reduceSub, List.replicate, List.append_nil, List.cons_append, List.nil_append, getV_va, Pt.sl, true_and, List.getElem?_cons_zero, List.getElem?_cons_succ, List.set_cons_zero, List.set_cons_succ, ite_self, Bool.false_eq_true, if_false, if_true]
    refine ⟨⟨_, rfl⟩, true, rfl, ?_⟩
    rw [if_neg (by decide)]
    refine PV.fld 1 rfl rfl (gHas_roads (hk z hm2) ⟨false, rfl, ?_⟩)
    rw [if_neg (by decide)]
    refine gCall_of fun _ => ⟨.int z.2, rfl, rfl, ?_⟩
    have e1 : isNumber (.int z.2) = true := by have := hn z hm2; simpa [isNumber] using this
    rw [e1]
    refine ⟨true, rfl, ?_⟩
    rw [if_neg (by decide)]
    exact kk _ ⟨_, _, rfl⟩
  · obtain ⟨s2, s3, rfl⟩ := hI
    try simp only [frz, params, setAll, List.zipWith, List.length_cons, List.length_nil, Nat.reduceAdd, Nat.reduceSub, List.replicate, List.append_nil, List.cons_append, List.nil_append, getV_va, Pt.sl, true_and, List.getElem?_cons_zero, List.getElem?_cons_succ, List.set_cons_zero, List.set_cons_succ, ite_self, Bool.false_eq_true, if_false, if_true]
    exact q

theorem sc_check_brings : FnScope ["plan", "brings", "index", "number"] ["plan", "brings"] (defScope s_check_brings) := ⟨rfl, rfl, rfl, by decide +kernel, rfl, by decide +kernel, by decide +kernel⟩
def c_check_brings : DC := fun ds _ _ Q => ∃ (p : PV) (B : D) (bs : List Int), ds = [p.o, B] ∧ p.Ok ∧ B.good = true ∧ B.seq = some (bs.map D.int) ∧ bs.length = p.riders.length ∧ (∀ b ∈ bs, 0 ≤ b) ∧ Q ⟨.non, true, none⟩
theorem ok_check_brings (T : Txt K mg) : FnD P w K mg base 3 T.f_check_brings.f T.f_check_brings.fd ["plan", "brings"] 0 c_check_brings := by
  refine fn_ok T.f_check_brings.ok sc_check_brings fun cdv A outer s H E hr => ⟨_, _, (dss_cons (ds_if [] (dt_not (dt_val (de_call ((ok_is_list T).mono (by decide)) hr (by rfl) T.f_is_list.g T.f_is_list.ok.kp T.f_is_list.b (passE (takes_of rfl rfl rfl rfl)) rfl (da_cons (de_var (pv 1)) da_nil)))) (dss_one ds_never) dss_nil)
      (dss_cons (ds_for [] (passes_of rfl) rfl (di_enumA (by rfl) T.n_enumerate (da_cons (de_var (pv 1)) da_nil)) (dg_tup (n := 2) rfl (dgs_cons (dg_name (pg_name (i := 2) sc_check_brings.nd rfl (Or.inl rfl))) (dgs_cons (dg_name (pg_name (i := 3) sc_check_brings.nd rfl (Or.inl rfl))) dgs_nil)))
      (dss_one (ds_if [] (DW.dt (dw_or (dt_not (dt_val (de_call ((ok_is_number T).mono (by decide)) hr (by rfl) T.f_is_number.g T.f_is_number.ok.kp T.f_is_number.b (passE (takes_of rfl rfl rfl rfl)) rfl (da_cons (de_var (pv 3)) da_nil)))) (dw_or1 (dt_cmp dop_ge (de_var (pv 2)) (de_callB dcl_len (by rfl) T.n_len (by decide +kernel) (da_cons (de_fld (clT_of T.clP) (de_var (pv 0))) da_nil)) (nomark _))))) (dss_one ds_never) dss_nil)))
      (dss_one (ds_if [] (dt_cmp dop_lt (de_callB dcl_len (by rfl) T.n_len (by decide +kernel) (da_cons (de_var (pv 1)) da_nil)) (de_callB dcl_len (by rfl) T.n_len (by decide +kernel) (da_cons (de_fld (clT_of T.clP) (de_var (pv 0))) da_nil)) (nomark _)) (dss_one ds_never) dss_nil)))), by decide +kernel, fun ds vs XQ Q hd hv h => ?_⟩
  obtain ⟨p, B, bs, rfl, hp, gB, eB, hl, hb, q⟩ := h
  match vs, hv with
  | [v, v2], _ =>
  try simp only [frz, params, setAll, List.zipWith, List.length_cons, List.length_nil, Nat.reduceAdd, Nat.reduceSub, List.replicate, List.append_nil, List.cons_append, List.nil_append, getV_va, Pt.sl, true_and, List.getElem?_cons_zero, List.getElem?_cons_succ, List.set_cons_zero, List.set_cons_succ, ite_self, Bool.false_eq_true, if_false, if_true]
  refine gCall_of fun _ => ⟨B, rfl, gB, ?_⟩
  have e0 : isList B = true := by unfold isList; rw [eB]; rfl
  rw [e0]
  refine ⟨true, rfl, ?_⟩
  rw [if_neg (by decide)]
  refine ⟨_, _, rfl, eB, .inl trivial, ?_⟩
  refine for_idx (fun n ρ => ∃ s2 s3, ρ = [Sl.va ⟨p.o, p.o.imm, some v⟩, .va ⟨B, B.imm, some v2⟩, s2, s3]) _ 0 _ ⟨_, _, rfl⟩ (fun j x hx ρ hI K2 kk => ?_) fun ρ hI => ?_
  · obtain ⟨s2, s3, rfl⟩ := hI
    obtain ⟨y, hy, rfl⟩ := enumD_get hx
    rw [List.getElem?_map] at hy
    cases e : bs[j]? with
    | none => rw [e] at hy; cases hy
    | some b =>
    rw [e] at hy
    cases hy
    have hbm : b ∈ bs := List.mem_of_getElem? e
    have hlt := (List.getElem?_eq_some_iff.mp e).1
    try simp only [lcStep, true_and, wipeR, List.map_cons, List.map_nil, List.set_cons_succ, List.set_cons_zero, List.getElem?_cons_succ, List.getElem?_cons_zero, getV_va, if_true]
    rw [unp_seq (by rfl)]
    refine ⟨rfl, ?_⟩
    simp only [List.map_cons, List.map_nil]
    try simp only [frz, params, setAll, List.zipWith, List.length_cons, List.length_nil, Nat.reduceAdd, Nat.reduceSub, List.replicate, List.append_nil, List.cons_append, List.nil_append, getV_va, Pt.sl, true_and, List.getElem?_cons_zero, List.getElem?_cons_succ, List.set_cons_zero, List.set_cons_succ, ite_self, Bool.false_eq_true, if_false, if_true]
    refine gCall_of fun _ => ⟨.int b, rfl, rfl, ?_⟩
    have e1 : isNumber (.int b) = true := by have := hb b hbm; simpa [isNumber] using this
    rw [e1]
    refine ⟨true, rfl, ?_⟩
    rw [if_neg (by decide)]
    refine PV.fld 2 rfl rfl ?_
    rw [g1_of, gLen_of (by rfl), gI_of]
    refine ⟨trivial, _, rfl, ?_⟩
    rw [if_neg (by simp; omega)]
    exact kk _ ⟨_, _, rfl⟩
  · obtain ⟨s2, s3, rfl⟩ := hI
    try simp only [frz, params, setAll, List.zipWith, List.length_cons, List.length_nil, Nat.reduceAdd, Nat.reduceSub, List.replicate, List.append_nil, List.cons_append, List.nil_append, getV_va, Pt.sl, true_and, List.getElem?_cons_zero, List.getElem?_cons_succ, List.set_cons_zero, List.set_cons_succ, ite_self, Bool.false_eq_true, if_false, if_true]
    rw [g1_of, gLen_of eB]
    refine PV.fld 2 rfl rfl ?_
    rw [g1_of, gLen_of (by rfl), gI_of]
    refine ⟨trivial, _, rfl, ?_⟩
    rw [if_neg (by simp; omega)]
    exact q

end
end My

set_option Elab.async false
set_option linter.all false
set_option maxRecDepth 100000
set_option maxHeartbeats 4000000
set_option pp.maxSteps 6000
namespace My
open PySem PySem.Spec PyProof.Rows L2 DL
set_option pp.maxSteps 2500
def tickAt (rs : List Row) (k : Nat) : Int := (rs[k]?.map (·.2.1)).getD 0
/-- the riders of a post from a tick on, ahead of another one -/
def riAt (x : Str) (b e : Int) : Nat → List Row → List Nat
  | _, [] => []
  | i, r :: rs => if r.1 = x ∧ b ≤ r.2.1 ∧ r.2.1 < e then i :: riAt x b e (i + 1) rs else riAt x b e (i + 1) rs
def riF (x : Str) (b e : Int) (y : Dv) : Option D := match y.d with
  | .tup [.int k, .tup [.str z, .int t, _]] => if z = x ∧ b ≤ t ∧ t < e then some (.int k) else none
  | _ => none
theorem enum_ri (x : Str) (b e : Int) (n : Bool) : ∀ (rs : List Row) (i : Nat), (enumD n i (rs.map rowD)).filterMap (riF x b e) = (riAt x b e i rs).map fun k => D.int (k : Nat)
  | [], _ => rfl
  | r :: rs, i => by
    rw [List.map_cons, enumD, List.filterMap_cons, enum_ri x b e n rs (i + 1)]
    show _ = (if r.1 = x ∧ b ≤ r.2.1 ∧ r.2.1 < e then i :: riAt x b e (i + 1) rs else riAt x b e (i + 1) rs).map _
    by_cases h : r.1 = x ∧ b ≤ r.2.1 ∧ r.2.1 < e
    · simp only [riF, rowD, if_pos h, List.map_cons]
    · simp only [riF, rowD, if_neg h]
/-- the letters of a post, with their ticks -/
def leAt (x : Str) : Nat → List Row → List (Int × Nat)
  | _, [] => []
  | i, r :: rs => if r.1 = x then (r.2.1, i) :: leAt x (i + 1) rs else leAt x (i + 1) rs
def leD2 (q : Int × Nat) : D := .tup [.int q.1, .int (q.2 : Nat)]
def leF (x : Str) (y : Dv) : Option D := match y.d with
  | .tup [.int k, .tup [.str z, .int t, _]] => if z = x then some (.tup [.int t, .int k]) else none
  | _ => none
theorem enum_le (x : Str) (n : Bool) : ∀ (rs : List Row) (i : Nat), (enumD n i (rs.map rowD)).filterMap (leF x) = (leAt x i rs).map leD2
  | [], _ => rfl
  | r :: rs, i => by
    rw [List.map_cons, enumD, List.filterMap_cons, enum_le x n rs (i + 1)]
    show _ = (if r.1 = x then (r.2.1, i) :: leAt x (i + 1) rs else leAt x (i + 1) rs).map _
    by_cases h : r.1 = x
    · simp only [leF, rowD, if_pos h, List.map_cons]
      rfl
    · simp only [leF, rowD, if_neg h]
theorem leAt_mine (x : Str) : ∀ (rs : List Row) (i : Nat), (leAt x i rs).map (·.2) = mineAt x i rs
  | [], _ => rfl
  | r :: rs, i => by
    unfold leAt mineAt
    split
    · rw [List.map_cons, leAt_mine x rs (i + 1)]
    · exact leAt_mine x rs (i + 1)
/-- things of a post stand by their ticks -/
def TickOrd (rs : List Row) : Prop := rs.Pairwise fun r s => r.1 = s.1 → r.2.1 ≤ s.2.1
theorem leAt_mem {x : Str} : ∀ {rs : List Row} {i : Nat} {q : Int × Nat}, q ∈ leAt x i rs → i ≤ q.2 ∧ q.2 < i + rs.length ∧ ∃ r ∈ rs, r.1 = x ∧ r.2.1 = q.1
  | [], _, _, h => nomatch h
  | r :: rs, i, q, h => by
    have go : q ∈ leAt x (i + 1) rs → i ≤ q.2 ∧ q.2 < i + (r :: rs).length ∧ ∃ r' ∈ r :: rs, r'.1 = x ∧ r'.2.1 = q.1 := fun h => by
      obtain ⟨h1, h2, r', h3, h4⟩ := leAt_mem h
      exact ⟨by omega, by rw [List.length_cons]; omega, r', List.mem_cons_of_mem _ h3, h4⟩
    unfold leAt at h
    split at h
    · rename_i hx
      rcases List.mem_cons.mp h with rfl | h
      · exact ⟨Nat.le_refl _, by rw [List.length_cons]; omega, r, List.mem_cons_self, hx, rfl⟩
      · exact go h
    · exact go h
theorem leD_pair {a b : Int} {i j : Nat} (h : a < b ∨ a = b ∧ i ≤ j) : leD (leD2 (a, i)) (leD2 (b, j)) = true := by
  show (!PyProof.Rows.lexLt PyProof.Rows.itemOrd (tokD (leD2 (b, j))) (tokD (leD2 (a, i)))) = true
  have e : PyProof.Rows.lexLt PyProof.Rows.itemOrd (tokD (leD2 (b, j))) (tokD (leD2 (a, i))) = false := by
    show PyProof.Rows.lexLt PyProof.Rows.itemOrd (.inl 1 :: .inl b :: .inl 1 :: .inl (j : Int) :: _) (.inl 1 :: .inl a :: .inl 1 :: .inl (i : Int) :: _) = false
    rw [PyProof.Rows.lex_self]
    rcases h with h | ⟨rfl, h⟩
    · rw [PyProof.Rows.lex_diff (fun z => by cases z; omega)]
      exact decide_eq_false (by omega)
    · rw [PyProof.Rows.lex_self, PyProof.Rows.lex_self]
      by_cases e : i = j
      · subst e
        rw [PyProof.Rows.lex_self]
        rfl
      · rw [PyProof.Rows.lex_diff (fun z => by cases z; omega)]
        exact decide_eq_false (by omega)
  rw [e]
  rfl
theorem leAt_srt {x : Str} {rs : List Row} (h : TickOrd rs) (i : Nat) : srtD ((leAt x i rs).map leD2) = (leAt x i rs).map leD2 := by
  refine srtD_of ?_
  rw [List.pairwise_map]
  induction rs generalizing i with
  | nil => exact .nil
  | cons r rs ih =>
    obtain ⟨h1, h2⟩ := List.pairwise_cons.mp h
    unfold leAt
    split
    · rename_i hx
      refine List.pairwise_cons.mpr ⟨fun q hq => ?_, ih h2 (i + 1)⟩
      obtain ⟨g1, _, r', g2, g3, g4⟩ := leAt_mem hq
      have := h1 r' g2 (hx.trans g3.symm)
      obtain ⟨a, j⟩ := q
      exact leD_pair (by simp only at *; omega)
    · exact ih h2 (i + 1)
def stepR (gone : List Nat) (hold : Int) (bs : List Int) (left : Int) (k : Nat) : Int := if k ∈ gone then left else min hold (left + bs.getD k 0)
/-- for which letters of a post there is no stamp -/
def unGo (p : PV) (gone : List Nat) (hold : Int) (bs : List Int) (x : Str) : List Nat → Int → Int → List Nat
  | [], _, _ => []
  | l :: ls, left, since => (if (riAt x since (tickAt p.letters l) 0 p.riders).foldl (stepR gone hold bs) left = 0 then [l] else []) ++
      unGo p gone hold bs x ls (max 0 ((riAt x since (tickAt p.letters l) 0 p.riders).foldl (stepR gone hold bs) left - 1)) (tickAt p.letters l)
def unN (p : PV) (gone : List Nat) (hold : Int) (bs : List Int) (x : Str) : List Nat := unGo p gone hold bs x (mineN p.letters x) hold 0
def intsD (ks : List Nat) : List D := ks.map fun k => .int (k : Nat)
theorem immL_nats : ∀ ks : List Nat, D.immL (intsD ks) = true
  | [] => rfl
  | _ :: ks => by
    show (D.imm (.int _) && D.immL (intsD ks)) = true
    rw [immL_nats ks]
    rfl

theorem canSort_le {p : PV} (hp : p.Ok) (x : Str) : CanSort ((leAt x 0 p.letters).map leD2) := by
  have e : (leAt x 0 p.letters).map leD2 = ((leAt x 0 p.letters).map fun q => (q.1, (q.2 : Int))).map prD := by rw [List.map_map]; rfl
  rw [e]
  refine canSort_pr fun r hr => ?_
  obtain ⟨q, hq, rfl⟩ := List.mem_map.mp hr
  obtain ⟨_, h2, s, hs, _, e2⟩ := leAt_mem hq
  have h3 := hp.r3
  have h4 := (hp.sl s hs).1
  rw [e2] at h4
  exact ⟨Nat.le_trans h4 (by decide), by show (q.2 : Int).natAbs ≤ _; omega⟩
theorem atI_mapK {α β : Type} (f : α → β) {xs : List α} {i : Int} : atI (xs.map f) i = (atI xs i).map f := by
  unfold atI
  rw [List.length_map]
  cases ixN xs.length i with
  | none => rfl
  | some j => exact List.getElem?_map
theorem atI_natK {α : Type} {xs : List α} {i : Nat} {x : α} (h : xs[i]? = some x) : atI xs (i : Int) = some x := by
  have hl := (List.getElem?_eq_some_iff.mp h).1
  unfold atI ixN
  rw [if_pos (by omega), if_pos (by omega)]
  exact h
theorem gIxK {α : Type} (g : α → D) {xs : List α} {j : Nat} {n n2 : Bool} {v v2 : Option V} {x : α} {Q : Dv → Prop} (h : xs[j]? = some x) (q : ∀ f, Q ⟨g x, f, none⟩) : gIx ⟨.lst (xs.map g), n, v⟩ ⟨.int (j : Nat), n2, v2⟩ Q :=
  ⟨_, by rw [atI_mapK, atI_natK h]; rfl, q _⟩

theorem gIn_seq {G : D} {gone : List Nat} {k : Nat} {n n' : Bool} {v v' : Option V} {Q : Dv → Prop} (e : G.seq = some (intsD gone)) (q : Q ⟨.bl (decide (k ∈ gone)), true, none⟩) : gIn false ⟨.int (k : Nat), n, v⟩ ⟨G, n', v'⟩ Q := by
  have ei : intsD gone = (gone.map fun (k : Nat) => (k : Int)).map D.int := by unfold intsD; rw [List.map_map]; rfl
  have em : decide ((k : Int) ∈ gone.map fun (k : Nat) => (k : Int)) = decide (k ∈ gone) := by
    rw [decide_eq_decide, List.mem_map]
    refine ⟨fun ⟨a, h, e⟩ => ?_, fun h => ⟨k, h, rfl⟩⟩
    have : a = k := Int.ofNat.inj e
    exact this ▸ h
  rw [ei] at e
  cases G <;> try (cases e; done)
  all_goals
    cases e
    refine ⟨rfl, scaL_ints _, ?_⟩
    rw [isIn_ints, em]
    exact q
theorem riAt_mem {x : Str} {b e : Int} : ∀ {rs : List Row} {i k : Nat}, k ∈ riAt x b e i rs → k < i + rs.length
  | [], _, _, h => nomatch h
  | r :: rs, i, k, h => by
    unfold riAt at h
    rw [List.length_cons]
    split at h
    · rcases List.mem_cons.mp h with rfl | h
      · omega
      · have := riAt_mem h; omega
    · have := riAt_mem h; omega
theorem riAt_len {x : Str} {b e : Int} : ∀ {rs : List Row} {i : Nat}, (riAt x b e i rs).length ≤ rs.length
  | [], _ => Nat.le_refl _
  | r :: rs, i => by
    unfold riAt
    have := riAt_len (x := x) (b := b) (e := e) (rs := rs) (i := i + 1)
    split <;> simp only [List.length_cons] <;> omega
theorem items_ints {Q : List Dv → Prop} {ks : List Nat} {n : Bool} {v : Option V} (q : ∀ f, Q (ks.map fun k => ⟨.int (k : Nat), f, none⟩)) : items ⟨.lst (intsD ks), n, v⟩ Q := by
  rw [items_seq rfl]
  unfold intsD
  rw [List.map_map]
  exact q _
theorem drop_get {α : Type} {l : List α} {i : Nat} {a : α} (h : l[i]? = some a) : l.drop i = a :: l.drop (i + 1) := by
  obtain ⟨h1, h2⟩ := List.getElem?_eq_some_iff.mp h
  rw [List.drop_eq_getElem_cons h1, h2]
section
variable {P : Program} {w : World} {K : PySem.W.Frag} {mg : Str → Option Value} {base : Heap}
theorem sc_letters_at : FnScope ["plan", "post", "found", "index", "_", "place", "tick"] ["plan", "post"] (defScope s_letters_at) := ⟨rfl, rfl, rfl, by decide +kernel, rfl, by decide +kernel, by decide +kernel⟩
def c_letters_at : DC := fun ds _ _ Q => ∃ (p : PV) (x : Str), ds = [p.o, .str x] ∧ p.Ok ∧ PyData.strOk x = true ∧ TickOrd p.letters ∧ ∀ f, Q ⟨.lst (intsD (mineN p.letters x)), f, none⟩
theorem ok_letters_at (T : Txt K mg) : FnD P w K mg base 1 T.f_letters_at.f T.f_letters_at.fd ["plan", "post"] 0 c_letters_at := by
  refine fn_ok T.f_letters_at.ok sc_letters_at fun cdv A outer s H E hr => ⟨_, _, (dss_cons (ds_setLc (i := 2) (own := [("index", 3), ("place", 5), ("tick", 6), ("_", 4)]) [] rfl sc_letters_at.nd rfl rfl (sw_true rfl rfl rfl (by decide +kernel)) (di_enum (by rfl) T.n_enumerate (da_cons (de_fld (clT_of T.clP) (de_var (pv 0))) da_nil)) (blkOk_by (N := ["plan", "post", "found", "index", "_", "place", "tick"]) (sc := defScope s_letters_at) (by decide +kernel)) (fun _ _ _ _ _ => (dg_tup (n := 2) rfl (dgs_cons (dg_name (pg_name (i := 3) sc_letters_at.nd rfl (Or.inl rfl))) (dgs_cons (dg_tup (n := 3) rfl (dgs_cons (dg_name (pg_name (i := 5) sc_letters_at.nd rfl (Or.inl rfl))) (dgs_cons (dg_name (pg_name (i := 6) sc_letters_at.nd rfl (Or.inl rfl))) (dgs_cons (dg_name (pg_name (i := 4) sc_letters_at.nd rfl (Or.inl rfl))) dgs_nil)))) dgs_nil)))) (fun _ _ _ _ _ => (dts_one (dt_cmp (dop_eq hr.units) (de_var (pv 5)) (de_var (pv 1)) (nomark _)))) (fun _ _ _ _ _ => (de_tup (da_cons (de_var (pv 6)) (da_cons (de_var (pv 3)) da_nil)))) (by decide))
      (dss_one (ds_ret [] (DN.de (dn_lc (own := [("_", 4), ("index", 3)]) rfl sc_letters_at.nd (di_seq (de_callB (dcl_sortedD (hr.mono (by decide))) (by rfl) T.n_sorted (by decide +kernel) (da_cons (de_var (pv 2)) da_nil))) (blkOk_by (N := ["plan", "post", "found", "index", "_", "place", "tick"]) (sc := defScope s_letters_at) (by decide +kernel)) (fun _ _ _ _ _ => (dg_tup (n := 2) rfl (dgs_cons (dg_name (pg_name (i := 4) sc_letters_at.nd rfl (Or.inl rfl))) (dgs_cons (dg_name (pg_name (i := 3) sc_letters_at.nd rfl (Or.inl rfl))) dgs_nil)))) (fun _ _ _ _ _ => dts_nil) (fun _ _ _ _ _ => (de_var (pv 3))) (by decide)))))), by decide +kernel, fun ds vs XQ Q hd hv h => ?_⟩
  obtain ⟨p, x, rfl, hp, hx, ho, q⟩ := h
  match vs, hv with
  | [v, v2], _ =>
  try simp only [frz, params, setAll, List.zipWith, List.length_cons, List.length_nil, Nat.reduceAdd, Nat.reduceSub, List.replicate, List.append_nil, List.cons_append, List.nil_append, getV_va, Pt.sl, true_and, List.getElem?_cons_zero, List.getElem?_cons_succ, List.set_cons_zero, List.set_cons_succ, ite_self, Bool.false_eq_true, if_false, if_true]
  have h3 := hp.r3
  refine PV.fld 3 rfl rfl ⟨by rw [enumD_len, List.length_map]; show _ ≤ 16777216; omega, lc_any (leF x) (fun y hy K1 K0 k1 k0 => ?_) fun f => ?_⟩
  · obtain ⟨i, hi⟩ := List.mem_iff_getElem?.mp hy
    obtain ⟨d, hd, rfl⟩ := enumD_get hi
    rw [List.getElem?_map] at hd
    cases e : p.letters[i]? with
    | none => rw [e] at hd; cases hd
    | some r =>
      rw [e] at hd
      cases hd
      try simp only [lcStep, true_and, wipeR, List.map_cons, List.map_nil, List.set_cons_succ, List.set_cons_zero, List.getElem?_cons_succ, List.getElem?_cons_zero, getV_va, if_true]
      rw [unp_seq (by rfl)]
      refine ⟨rfl, ?_⟩
      simp only [List.map_cons, List.map_nil]
      rw [unp_seq (by rfl)]
      refine ⟨rfl, ?_⟩
      simp only [List.map_cons, List.map_nil]
      refine ⟨trivial, trivial, ?_⟩
      try simp only [frz, params, setAll, List.zipWith, List.length_cons, List.length_nil, Nat.reduceAdd, Nat.reduceSub, List.replicate, List.append_nil, List.cons_append, List.nil_append, getV_va, Pt.sl, true_and, List.getElem?_cons_zero, List.getElem?_cons_succ, List.set_cons_zero, List.set_cons_succ, ite_self, Bool.false_eq_true, if_false, if_true]
      have hm : r ∈ p.letters := List.mem_of_getElem? e
      rw [gEq_str (hp.nl r hm) hx]
      refine ⟨_, rfl, ?_⟩
      by_cases h : r.1 = x
      · rw [if_pos (by simpa using h)]
        exact ⟨by decide, k1 _ (by show (if r.1 = x then _ else _) = _; rw [if_pos h]) _ _⟩
      · rw [if_neg (by simpa using h)]
        exact k0 (by show (if r.1 = x then _ else _) = _; rw [if_neg h])
  rw [enum_le, List.nil_append, g1_of]
  refine ⟨_, rfl, canSort_le hp x, ?_⟩
  rw [leAt_srt ho]
  dsimp only
  rw [items_seq rfl, List.map_map]
  have hml := mineAt_len (x := x) (rs := p.letters) (i := 0)
  have hll : (leAt x 0 p.letters).length = (mineN p.letters x).length := by rw [← List.length_map (f := (·.2)), leAt_mine]; rfl
  refine ⟨by rw [List.length_map, hll]; show _ ≤ 16777216; unfold mineN; omega, ?_⟩
  refine lc_mapA (g := fun q : Int × Nat => .int (q.2 : Nat)) (fun q hq K1 K0 kk => ?_) fun m => ?_
  · try simp only [lcStep, true_and, wipeR, List.map_cons, List.map_nil, List.set_cons_succ, List.set_cons_zero, List.getElem?_cons_succ, List.getElem?_cons_zero, getV_va, if_true]
    rw [unp_seq (by rfl)]
    refine ⟨rfl, ?_⟩
    simp only [List.map_cons, List.map_nil]
    refine ⟨trivial, ?_⟩
    try simp only [frz, params, setAll, List.zipWith, List.length_cons, List.length_nil, Nat.reduceAdd, Nat.reduceSub, List.replicate, List.append_nil, List.cons_append, List.nil_append, getV_va, Pt.sl, true_and, List.getElem?_cons_zero, List.getElem?_cons_succ, List.set_cons_zero, List.set_cons_succ, ite_self, Bool.false_eq_true, if_false, if_true]
    exact kk _ _
  · have e : (leAt x 0 p.letters).map (fun q : Int × Nat => D.int (q.2 : Nat)) = intsD (mineN p.letters x) := by
      unfold intsD mineN
      rw [← leAt_mine, List.map_map]
      rfl
    rw [e]
    exact q _

theorem sc_riders_at : FnScope ["plan", "post", "begin", "end", "index", "place", "tick", "_"] ["plan", "post", "begin", "end"] (defScope s_riders_at) := ⟨rfl, rfl, rfl, by decide +kernel, rfl, by decide +kernel, by decide +kernel⟩
def c_riders_at : DC := fun ds _ _ Q => ∃ (p : PV) (x : Str) (b e : Int), ds = [p.o, .str x, .int b, .int e] ∧ p.Ok ∧ PyData.strOk x = true ∧ ∀ f, Q ⟨.lst (intsD (riAt x b e 0 p.riders)), f, none⟩
theorem ok_riders_at (T : Txt K mg) : FnD P w K mg base 1 T.f_riders_at.f T.f_riders_at.fd ["plan", "post", "begin", "end"] 0 c_riders_at := by
  refine fn_ok T.f_riders_at.ok sc_riders_at fun cdv A outer s H E hr => ⟨_, _, (dss_one (ds_ret [] (DN.de (dn_lc (own := [("index", 4), ("place", 5), ("tick", 6), ("_", 7)]) rfl sc_riders_at.nd (di_enum (by rfl) T.n_enumerate (da_cons (de_fld (clT_of T.clP) (de_var (pv 0))) da_nil)) (blkOk_by (N := ["plan", "post", "begin", "end", "index", "place", "tick", "_"]) (sc := defScope s_riders_at) (by decide +kernel)) (fun _ _ _ _ _ => (dg_tup (n := 2) rfl (dgs_cons (dg_name (pg_name (i := 4) sc_riders_at.nd rfl (Or.inl rfl))) (dgs_cons (dg_tup (n := 3) rfl (dgs_cons (dg_name (pg_name (i := 5) sc_riders_at.nd rfl (Or.inl rfl))) (dgs_cons (dg_name (pg_name (i := 6) sc_riders_at.nd rfl (Or.inl rfl))) (dgs_cons (dg_name (pg_name (i := 7) sc_riders_at.nd rfl (Or.inl rfl))) dgs_nil)))) dgs_nil)))) (fun _ _ _ _ _ => (dts_one (DW.dt (dw_and (dt_cmp (dop_eq hr.units) (de_var (pv 5)) (de_var (pv 1)) (nomark _)) (dw_and1 (dt_chain dop_le dop_lt (de_var (pv 2)) (de_var (pv 6)) (de_var (pv 3)))))))) (fun _ _ _ _ _ => (de_var (pv 4))) (by decide))))), by decide +kernel, fun ds vs XQ Q hd hv h => ?_⟩
  obtain ⟨p, x, b, e, rfl, hp, hx, q⟩ := h
  match vs, hv with
  | [v, v2, v3, v4], _ =>
  try simp only [frz, params, setAll, List.zipWith, List.length_cons, List.length_nil, Nat.reduceAdd, Nat.reduceSub, List.replicate, List.append_nil, List.cons_append, List.nil_append, getV_va, Pt.sl, true_and, List.getElem?_cons_zero, List.getElem?_cons_succ, List.set_cons_zero, List.set_cons_succ, ite_self, Bool.false_eq_true, if_false, if_true]
  have h2 := hp.r2
  refine PV.fld 2 rfl rfl ⟨by rw [enumD_len, List.length_map]; show _ ≤ 16777216; omega, lc_any (riF x b e) (fun y hy K1 K0 k1 k0 => ?_) fun f => ?_⟩
  · obtain ⟨i, hi⟩ := List.mem_iff_getElem?.mp hy
    obtain ⟨d, hd, rfl⟩ := enumD_get hi
    rw [List.getElem?_map] at hd
    cases er : p.riders[i]? with
    | none => rw [er] at hd; cases hd
    | some r =>
      rw [er] at hd
      cases hd
      try simp only [lcStep, true_and, wipeR, List.map_cons, List.map_nil, List.set_cons_succ, List.set_cons_zero, List.getElem?_cons_succ, List.getElem?_cons_zero, getV_va, if_true]
      rw [unp_seq (by rfl)]
      refine ⟨rfl, ?_⟩
      simp only [List.map_cons, List.map_nil]
      rw [unp_seq (by rfl)]
      refine ⟨rfl, ?_⟩
      simp only [List.map_cons, List.map_nil]
      refine ⟨trivial, trivial, ?_⟩
      try simp only [frz, params, setAll, List.zipWith, List.length_cons, List.length_nil, Nat.reduceAdd, Nat.reduceSub, List.replicate, List.append_nil, List.cons_append, List.nil_append, getV_va, Pt.sl, true_and, List.getElem?_cons_zero, List.getElem?_cons_succ, List.set_cons_zero, List.set_cons_succ, ite_self, Bool.false_eq_true, if_false, if_true]
      have hm : r ∈ p.riders := List.mem_of_getElem? er
      rw [gEq_str (hp.nr r hm) hx]
      refine ⟨_, rfl, ?_⟩
      have kb : ∀ {n v}, (r.1 = x ∧ b ≤ r.2.1 ∧ r.2.1 < e) → K1 ⟨.int ((0 + i : Nat) : Int), n, v⟩ := fun h => k1 _ (by show (if r.1 = x ∧ b ≤ r.2.1 ∧ r.2.1 < e then _ else _) = _; rw [if_pos h]) _ _
      have kc : ¬ (r.1 = x ∧ b ≤ r.2.1 ∧ r.2.1 < e) → K0 := fun h => k0 (by show (if r.1 = x ∧ b ≤ r.2.1 ∧ r.2.1 < e then _ else _) = _; rw [if_neg h])
      by_cases h : r.1 = x
      · rw [if_pos (by simpa using h)]
        unfold gChain
        dsimp only
        rw [gI_of]
        refine ⟨trivial, _, rfl, ?_⟩
        by_cases hb : b ≤ r.2.1
        · rw [if_pos (by simpa using hb)]
          try simp only [frz, params, setAll, List.zipWith, List.length_cons, List.length_nil, Nat.reduceAdd, Nat.reduceSub, List.replicate, List.append_nil, List.cons_append, List.nil_append, getV_va, Pt.sl, true_and, List.getElem?_cons_zero, List.getElem?_cons_succ, List.set_cons_zero, List.set_cons_succ, ite_self, Bool.false_eq_true, if_false, if_true]
          rw [gI_of]
          refine ⟨trivial, _, rfl, ?_⟩
          by_cases he : r.2.1 < e
          · rw [if_pos (by simpa using he)]
            exact kb ⟨h, hb, he⟩
          · rw [if_neg (by simpa using he)]
            exact kc fun z => he z.2.2
        · rw [if_neg (by simpa using hb)]
          refine ⟨false, rfl, ?_⟩
          rw [if_neg (by decide)]
          exact kc fun z => hb z.2.1
      · rw [if_neg (by simpa using h)]
        exact kc fun z => h z.1
  rw [enum_ri]
  exact q _

theorem sc_unstamped_at : FnScope ["plan", "post", "gone", "hold", "brings", "letter", "found", "left", "since", "tick", "rider"] ["plan", "post", "gone", "hold", "brings"] (defScope s_unstamped_at) := ⟨rfl, rfl, rfl, by decide +kernel, rfl, by decide +kernel, by decide +kernel⟩
def c_unstamped_at : DC := fun ds _ _ Q => ∃ (p : PV) (x : Str) (G B : D) (gone : List Nat) (hold : Int) (bs : List Int), ds = [p.o, .str x, G, .int hold, B] ∧ p.Ok ∧ PyData.strOk x = true ∧ TickOrd p.letters ∧ G.good = true ∧ G.seq = some (intsD gone) ∧ gone.length ≤ 1000 ∧ B.seq = some (bs.map D.int) ∧ bs.length = p.riders.length ∧ ∀ f, Q ⟨.lst (intsD (unN p gone hold bs x)), f, none⟩
theorem ok_unstamped_at (T : Txt K mg) : FnD P w K mg base 2 T.f_unstamped_at.f T.f_unstamped_at.fd ["plan", "post", "gone", "hold", "brings"] 0 c_unstamped_at := by
  refine fn_ok T.f_unstamped_at.ok sc_unstamped_at fun cdv A outer s H E hr => ⟨_, _, (dss_cons (ds_par3 (i := 6) (j := 7) (m := 8) [] (dp_ow (dn_lst da_nil)) (dp_va (de_var (pv 3))) (dp_va de_int) rfl sc_unstamped_at.nd rfl rfl rfl (by decide) (by decide) (by decide) (by rfl) (by rfl) (by rfl) (by rfl))
      (dss_cons (ds_for [] (passes_of rfl) rfl (di_seq (de_call ((ok_letters_at T).mono (by decide)) hr (by rfl) T.f_letters_at.g T.f_letters_at.ok.kp T.f_letters_at.b (passE (takes_of rfl rfl rfl rfl)) rfl (da_cons (de_var (pv 0)) (da_cons (de_var (pv 1)) da_nil)))) (dg_name (pg_name (i := 5) sc_unstamped_at.nd rfl (Or.inl rfl)))
      (dss_cons (ds_asg [] (de_ix (de_ix (de_fld (clT_of T.clP) (de_var (pv 0))) (de_var (pv 5)) (fun _ _ => rfl)) de_int (fun _ _ => rfl)) (dg_name (pg_name (i := 9) sc_unstamped_at.nd rfl (Or.inl rfl))) (fun _ _ a b => ps_asg a b))
      (dss_cons (ds_for [] (passes_of rfl) rfl (di_seq (de_call ((ok_riders_at T).mono (by decide)) hr (by rfl) T.f_riders_at.g T.f_riders_at.ok.kp T.f_riders_at.b (passE (takes_of rfl rfl rfl rfl)) rfl (da_cons (de_var (pv 0)) (da_cons (de_var (pv 1)) (da_cons (de_var (pv 8)) (da_cons (de_var (pv 9)) da_nil)))))) (dg_name (pg_name (i := 10) sc_unstamped_at.nd rfl (Or.inl rfl)))
      (dss_one (ds_asg [] (de_if (dt_cmp dop_in (de_var (pv 10)) (de_var (pv 2)) (by rfl)) (de_var (pv 7)) (de_callB (dcl_min2 rfl) (by rfl) T.n_min (by decide +kernel) (da_cons (de_var (pv 3)) (da_cons (de_op dop_add (de_var (pv 7)) (de_ix (de_var (pv 4)) (de_var (pv 10)) (fun _ _ => rfl))) da_nil)))) (dg_name (pg_name (i := 7) sc_unstamped_at.nd rfl (Or.inl rfl))) (fun _ _ a b => ps_asg a b))))
      (dss_cons (ds_asg [] (de_var (pv 9)) (dg_name (pg_name (i := 8) sc_unstamped_at.nd rfl (Or.inl rfl))) (fun _ _ a b => ps_asg a b))
      (dss_cons (ds_if [] (dt_cmp (dop_eq hr.units) (de_var (pv 7)) de_int (nomark _)) (dss_one (ds_append [] (de_var (pv 5)) (fun _ a => ps_expr (pe_bm PySem.F.plainAttrs_list PySem.F.slot_list_append PySem.F.type_list_append mt_append (pv 6) (pa_cons a pa_nil))))) dss_nil)
      (dss_one (ds_asg [] (de_callB (dcl_max2 rfl) (by rfl) T.n_max (by decide +kernel) (da_cons de_int (da_cons (de_op dop_sub (de_var (pv 7)) de_int) da_nil))) (dg_name (pg_name (i := 7) sc_unstamped_at.nd rfl (Or.inl rfl))) (fun _ _ a b => ps_asg a b))))))))
      (dss_one (ds_ret [6] (de_var (pv 6)))))), by decide +kernel, fun ds vs XQ Q hd hv h => ?_⟩
  obtain ⟨p, x, G, B, gone, hold, bs, rfl, hp, hx, ho, gG, eG, lG, eB, lB, q⟩ := h
  match vs, hv with
  | [v, v2, v3, v4, v5], _ =>
  try simp only [frz, params, setAll, List.zipWith, List.length_cons, List.length_nil, Nat.reduceAdd, Nat.reduceSub, List.replicate, List.append_nil, List.cons_append, List.nil_append, getV_va, Pt.sl, true_and, List.getElem?_cons_zero, List.getElem?_cons_succ, List.set_cons_zero, List.set_cons_succ, ite_self, Bool.false_eq_true, if_false, if_true]
  have h2 := hp.r2
  have h3 := hp.r3
  refine ⟨by decide, gCall_of fun _ => ⟨p, x, rfl, hp, hx, ho, fun f0 => ?_⟩⟩
  dsimp only
  refine items_ints fun f1 => ⟨.inr ?_, ?_⟩
  · rw [List.length_map]
    have := mineAt_len (x := x) (rs := p.letters) (i := 0)
    show (mineAt x 0 p.letters).length ≤ 16777216
    omega
  refine for_idx (fun n ρ => ∃ (F : List Nat) (L S : Int) (m n7 : Bool) (v7 : Option V) (n8 : Bool) (v8 : Option V) (s5 s9 s10 : Sl), ρ = [Sl.va ⟨p.o, p.o.imm, some v⟩, .va ⟨.str x, (D.str x).imm, some v2⟩, .va ⟨G, G.imm, some v3⟩, .va ⟨.int hold, (D.int hold).imm, some v4⟩, .va ⟨B, B.imm, some v5⟩, s5, .ow (.lst (intsD F)) m, .va ⟨.int L, n7, v7⟩, .va ⟨.int S, n8, v8⟩, s9, s10] ∧
    F ++ unGo p gone hold bs x ((mineN p.letters x).drop n) L S = unN p gone hold bs x ∧ F.length ≤ n) _ 0 _ ⟨[], hold, 0, _, _, _, _, _, _, _, _, rfl, rfl, Nat.le_refl _⟩ (fun j y hy ρ hI K2 kk => ?_) fun ρ hI => ?_
  · obtain ⟨F, L, S, m, n7, v7, n8, v8, s5, s9, s10, rfl, hF, hFl⟩ := hI
    rw [List.getElem?_map] at hy
    cases ek : (mineN p.letters x)[j]? with
    | none => rw [ek] at hy; cases hy
    | some k =>
    rw [ek] at hy
    cases hy
    rw [Nat.zero_add] at hF hFl
    obtain ⟨hk, r, hr, hrx⟩ := mem_mine (List.mem_of_getElem? ek)
    have hjl : j < 1000 := by
      have := (List.getElem?_eq_some_iff.mp ek).1
      have h5 := mineAt_len (x := x) (rs := p.letters) (i := 0)
      unfold mineN at this
      omega
    have et : tickAt p.letters k = r.2.1 := by unfold tickAt; rw [hr]; rfl
    rw [drop_get ek, unGo, et] at hF
    try simp only [frz, params, setAll, List.zipWith, List.length_cons, List.length_nil, Nat.reduceAdd, Nat.reduceSub, List.replicate, List.append_nil, List.cons_append, List.nil_append, getV_va, Pt.sl, true_and, List.getElem?_cons_zero, List.getElem?_cons_succ, List.set_cons_zero, List.set_cons_succ, ite_self, Bool.false_eq_true, if_false, if_true]
    refine PV.fld 3 rfl rfl (gIxK rowD hr fun f2 => ?_)
    rw [gIx_of (show (rowD r).seq = some [.str r.1, .int r.2.1, .int r.2.2] from rfl) (show atI [D.str r.1, .int r.2.1, .int r.2.2] 1 = some (.int r.2.1) from rfl)]
    try simp only [frz, params, setAll, List.zipWith, List.length_cons, List.length_nil, Nat.reduceAdd, Nat.reduceSub, List.replicate, List.append_nil, List.cons_append, List.nil_append, getV_va, Pt.sl, true_and, List.getElem?_cons_zero, List.getElem?_cons_succ, List.set_cons_zero, List.set_cons_succ, ite_self, Bool.false_eq_true, if_false, if_true]
    refine gCall_of fun _ => ⟨p, x, S, r.2.1, rfl, hp, hx, fun f3 => ?_⟩
    dsimp only
    refine items_ints fun f4 => ⟨.inl trivial, ?_⟩
    refine for_idx (fun n ρ => ∃ (L2 : Int) (n7 : Bool) (v7 : Option V) (s10 : Sl), ρ = [Sl.va ⟨p.o, p.o.imm, some v⟩, .va ⟨.str x, (D.str x).imm, some v2⟩, .va ⟨G, G.imm, some v3⟩, .va ⟨.int hold, (D.int hold).imm, some v4⟩, .va ⟨B, B.imm, some v5⟩, .va ⟨.int (k : Nat), f1, none⟩, .ow (.lst (intsD F)) m, .va ⟨.int L2, n7, v7⟩, .va ⟨.int S, n8, v8⟩, .va ⟨.int r.2.1, _, none⟩, s10] ∧
      ((riAt x S r.2.1 0 p.riders).drop n).foldl (stepR gone hold bs) L2 = (riAt x S r.2.1 0 p.riders).foldl (stepR gone hold bs) L) _ 0 _ ⟨L, _, _, _, rfl, rfl⟩ (fun i y hy ρ hI K3 kk3 => ?_) fun ρ hI => ?_
    · obtain ⟨L2, n7, v7, s10, rfl, hL⟩ := hI
      rw [List.getElem?_map] at hy
      cases ei : (riAt x S r.2.1 0 p.riders)[i]? with
      | none => rw [ei] at hy; cases hy
      | some k2 =>
      rw [ei] at hy
      cases hy
      rw [Nat.zero_add] at hL
      have hk2 := riAt_mem (List.mem_of_getElem? ei)
      rw [drop_get ei, List.foldl_cons] at hL
      try simp only [frz, params, setAll, List.zipWith, List.length_cons, List.length_nil, Nat.reduceAdd, Nat.reduceSub, List.replicate, List.append_nil, List.cons_append, List.nil_append, getV_va, Pt.sl, true_and, List.getElem?_cons_zero, List.getElem?_cons_succ, List.set_cons_zero, List.set_cons_succ, ite_self, Bool.false_eq_true, if_false, if_true]
      refine gIn_seq eG ⟨_, rfl, ?_⟩
      rw [show stepR gone hold bs L2 k2 = if k2 ∈ gone then L2 else min hold (L2 + bs.getD k2 0) from rfl] at hL
      by_cases hg : k2 ∈ gone
      · rw [if_pos (by simpa using hg)]
        rw [if_pos hg] at hL
        exact kk3 _ ⟨L2, _, _, _, rfl, by rw [Nat.zero_add]; exact hL⟩
      · rw [if_neg (by simpa using hg)]
        rw [if_neg hg] at hL
        try simp only [frz, params, setAll, List.zipWith, List.length_cons, List.length_nil, Nat.reduceAdd, Nat.reduceSub, List.replicate, List.append_nil, List.cons_append, List.nil_append, getV_va, Pt.sl, true_and, List.getElem?_cons_zero, List.getElem?_cons_succ, List.set_cons_zero, List.set_cons_succ, ite_self, Bool.false_eq_true, if_false, if_true]
        obtain ⟨b, hb⟩ : ∃ b, bs[k2]? = some b := ⟨bs[k2]'(by omega), List.getElem?_eq_getElem (by omega)⟩
        have hbd : bs.getD k2 0 = b := by rw [List.getD_eq_getElem?_getD, hb]; rfl
        rw [hbd] at hL
        rw [gIx_of eB (show atI (bs.map D.int) (k2 : Nat) = some (.int b) by rw [atI_mapK, atI_natK hb]; rfl), gAdd_int, g2I_int]
        have hmin : (if L2 + b < hold then L2 + b else hold) = min hold (L2 + b) := by split <;> omega
        rw [hmin]
        exact kk3 _ ⟨_, _, _, _, rfl, by rw [Nat.zero_add]; exact hL⟩
    · obtain ⟨L2, n7, v7, s10, rfl, hL⟩ := hI
      rw [List.length_map, Nat.zero_add, List.drop_length] at hL
      have hL : L2 = (riAt x S r.2.1 0 p.riders).foldl (stepR gone hold bs) L := hL
      subst hL
      try simp only [D.sca, frz, params, setAll, List.zipWith, List.length_cons, List.length_nil, Nat.reduceAdd, Nat.reduceSub, List.replicate, List.append_nil, List.cons_append, List.nil_append, getV_va, Pt.sl, true_and, List.getElem?_cons_zero, List.getElem?_cons_succ, List.set_cons_zero, List.set_cons_succ, ite_self, Bool.false_eq_true, if_false, if_true]
      rw [gEq_int]
      generalize (riAt x S r.2.1 0 p.riders).foldl (stepR gone hold bs) L = L2 at *
      refine ⟨_, rfl, ?_⟩
      have hmax : (if L2 - 1 > 0 then L2 - 1 else 0) = max 0 (L2 - 1) := by split <;> omega
      by_cases h0 : L2 = 0
      · rw [if_pos (by simpa using h0)]
        refine ⟨⟨_, _, rfl⟩, _, _, rfl, by unfold intsD; rw [List.length_map]; show _ < 16777216; omega, ?_⟩
        rw [gI_of]
        refine ⟨trivial, ?_⟩
        rw [g2I_int, hmax]
        rw [if_pos h0] at hF
        have e : intsD F ++ [D.int (k : Nat)] = intsD (F ++ [k]) := by unfold intsD; rw [List.map_append]; rfl
        rw [e]
        exact kk _ ⟨F ++ [k], _, _, _, _, _, _, _, _, _, _, rfl, by rw [Nat.zero_add, List.append_assoc]; exact hF, by rw [List.length_append, List.length_singleton]; omega⟩
      · rw [if_neg (by simpa using h0)]
        try simp only [D.sca, frz, params, setAll, List.zipWith, List.length_cons, List.length_nil, Nat.reduceAdd, Nat.reduceSub, List.replicate, List.append_nil, List.cons_append, List.nil_append, getV_va, Pt.sl, true_and, List.getElem?_cons_zero, List.getElem?_cons_succ, List.set_cons_zero, List.set_cons_succ, ite_self, Bool.false_eq_true, if_false, if_true]
        rw [gI_of]
        refine ⟨trivial, ?_⟩
        rw [g2I_int, hmax]
        rw [if_neg h0] at hF
        exact kk _ ⟨F, _, _, _, _, _, _, _, _, _, _, rfl, by rw [Nat.zero_add]; exact hF, by omega⟩
  · obtain ⟨F, L, S, m, n7, v7, n8, v8, s5, s9, s10, rfl, hF, hFl⟩ := hI
    rw [List.length_map, Nat.zero_add, List.drop_length] at hF
    have hF : F ++ [] = _ := hF
    rw [List.append_nil] at hF
    subst hF
    try simp only [frz, params, setAll, List.zipWith, List.length_cons, List.length_nil, Nat.reduceAdd, Nat.reduceSub, List.replicate, List.append_nil, List.cons_append, List.nil_append, getV_va, Pt.sl, true_and, List.getElem?_cons_zero, List.getElem?_cons_succ, List.set_cons_zero, List.set_cons_succ, ite_self, Bool.false_eq_true, if_false, if_true]
    exact q _

end
theorem unGo_mem {p : PV} {gone : List Nat} {hold : Int} {bs : List Int} {x : Str} {k : Nat} : ∀ {ls : List Nat} {L S : Int}, k ∈ unGo p gone hold bs x ls L S → k ∈ ls
  | [], _, _, h => nomatch h
  | l :: ls, L, S, h => by
    rw [unGo, List.mem_append] at h
    rcases h with h | h
    · split at h
      · rw [List.mem_singleton.mp h]; exact List.mem_cons_self
      · cases h
    · exact List.mem_cons_of_mem _ (unGo_mem h)
theorem unGo_len {p : PV} {gone : List Nat} {hold : Int} {bs : List Int} {x : Str} : ∀ {ls : List Nat} {L S : Int}, (unGo p gone hold bs x ls L S).length ≤ ls.length
  | [], _, _ => Nat.le_refl _
  | l :: ls, L, S => by
    rw [unGo, List.length_append, List.length_cons]
    have := unGo_len (p := p) (gone := gone) (hold := hold) (bs := bs) (x := x) (ls := ls) (L := max 0 ((riAt x S (tickAt p.letters l) 0 p.riders).foldl (stepR gone hold bs) L - 1)) (S := tickAt p.letters l)
    split <;> simp only [List.length_cons, List.length_nil] <;> omega
theorem unN_len {p : PV} (hp : p.Ok) {gone : List Nat} {hold : Int} {bs : List Int} {x : Str} : (unN p gone hold bs x).length ≤ 1000 := by
  have h1 := unGo_len (p := p) (gone := gone) (hold := hold) (bs := bs) (x := x) (ls := mineN p.letters x) (L := hold) (S := 0)
  have h2 := mineAt_len (x := x) (rs := p.letters) (i := 0)
  have h3 := hp.r3
  unfold unN
  unfold mineN at *
  omega
theorem unN_mem {p : PV} {gone : List Nat} {hold : Int} {bs : List Int} {x : Str} {k : Nat} (h : k ∈ unN p gone hold bs x) : k < p.letters.length := (mem_mine (unGo_mem h)).1
/-- of all posts, one behind another -/
def unAll (p : PV) (gone : List Nat) (hf : Str → Int) (bs : List Int) (rs : List (Str × Str × Int)) : List Nat := rs.flatMap fun r => unN p gone (hf r.1) bs r.1
theorem canSort_ks {ks : List Nat} (h : ∀ k ∈ ks, k < 2000) : CanSort (intsD ks) := by
  refine ⟨shwL_of fun d hd => ?_, fun d hd d' hd' => ?_, .inr fun d hd => ?_, fun d hd => ?_⟩
  · obtain ⟨i, hi, rfl⟩ := List.mem_map.mp hd
    have := h i hi
    exact (Nic.int (show ((i : Nat) : Int).natAbs ≤ 10 ^ 30 by omega)).all.2.2.1
  · unfold intsD at hd hd'
    rw [List.map_map] at hd hd'
    obtain ⟨i, _, rfl⟩ := List.mem_map.mp hd
    obtain ⟨j, _, rfl⟩ := List.mem_map.mp hd'
    rfl
  · unfold intsD at hd
    rw [List.map_map] at hd
    obtain ⟨i, _, rfl⟩ := List.mem_map.mp hd
    exact ⟨fun e => (nomatch e), fun xs e => (nomatch e)⟩
  · obtain ⟨i, _, rfl⟩ := List.mem_map.mp hd
    exact Nat.zero_le _
theorem unAll_snoc {p : PV} {gone : List Nat} {hf : Str → Int} {bs : List Int} {rs : List (Str × Str × Int)} {j : Nat} {r : Str × Str × Int} (h : rs[j]? = some r) : unAll p gone hf bs (rs.take (j + 1)) = unAll p gone hf bs (rs.take j) ++ unN p gone (hf r.1) bs r.1 := by
  obtain ⟨h1, h2⟩ := List.getElem?_eq_some_iff.mp h
  unfold unAll
  rw [List.take_succ_eq_append_getElem h1, List.flatMap_append, h2]
  simp

section
variable {P : Program} {w : World} {K : PySem.W.Frag} {mg : Str → Option Value} {base : Heap}
theorem sc_unstamped : FnScope ["plan", "gone", "holds", "brings", "found", "post"] ["plan", "gone", "holds", "brings"] (defScope s_unstamped) := ⟨rfl, rfl, rfl, by decide +kernel, rfl, by decide +kernel, by decide +kernel⟩
def c_unstamped : DC := fun ds _ _ Q => ∃ (p : PV) (G B : D) (gone : List Nat) (hz : List (Str × Int)) (hf : Str → Int) (bs : List Int), ds = [p.o, G, holdsD hz, B] ∧ p.Ok ∧ TickOrd p.letters ∧ (∀ r ∈ p.roads, PyData.strOk r.1 = true) ∧ p.roads.length ≤ 100 ∧ G.good = true ∧ G.seq = some (intsD gone) ∧ gone.Nodup ∧ (∀ k ∈ gone, k < p.riders.length) ∧ gone.length ≤ 1000 ∧ HoldsOk p hz ∧ (∀ r ∈ p.roads, (hz.find? fun a => decide (a.1 = r.1)).map (·.2) = some (hf r.1)) ∧ B.good = true ∧ B.seq = some (bs.map D.int) ∧ bs.length = p.riders.length ∧ (∀ b ∈ bs, 0 ≤ b) ∧ Q ⟨.lst (srtD (intsD (unAll p gone hf bs p.roads))), true, none⟩
theorem ok_unstamped (T : Txt K mg) : FnD P w K mg base 5 T.f_unstamped.f T.f_unstamped.fd ["plan", "gone", "holds", "brings"] 0 c_unstamped := by
  refine fn_ok T.f_unstamped.ok sc_unstamped fun cdv A outer s H E hr => ⟨_, _, (dss_cons (ds_expr [] (de_call ((ok_check_gone T).mono (by decide)) hr (by rfl) T.f_check_gone.g T.f_check_gone.ok.kp T.f_check_gone.b (passE (takes_of rfl rfl rfl rfl)) rfl (da_cons (de_var (pv 0)) (da_cons (de_var (pv 1)) da_nil))))
      (dss_cons (ds_expr [] (de_call ((ok_check_holds T).mono (by decide)) hr (by rfl) T.f_check_holds.g T.f_check_holds.ok.kp T.f_check_holds.b (passE (takes_of rfl rfl rfl rfl)) rfl (da_cons (de_var (pv 0)) (da_cons (de_var (pv 2)) da_nil))))
      (dss_cons (ds_expr [] (de_call ((ok_check_brings T).mono (by decide)) hr (by rfl) T.f_check_brings.g T.f_check_brings.ok.kp T.f_check_brings.b (passE (takes_of rfl rfl rfl rfl)) rfl (da_cons (de_var (pv 0)) (da_cons (de_var (pv 3)) da_nil))))
      (dss_cons (ds_own [] (dn_lst da_nil) (pg_name (i := 4) sc_unstamped.nd rfl (Or.inl rfl)) (fun _ _ a b => ps_asg a b))
      (dss_cons (ds_forK (passes_of rfl) rfl (dik_keys (dpl_fld (i := 0) (clT_of T.clP) (pv 0))) (dg_name (pg_name (i := 5) sc_unstamped.nd rfl (Or.inl rfl)))
      (dss_one (ds_extend [] (de_call ((ok_unstamped_at T).mono (by decide)) hr (by rfl) T.f_unstamped_at.g T.f_unstamped_at.ok.kp T.f_unstamped_at.b (passE (takes_of rfl rfl rfl rfl)) rfl (da_cons (de_var (pv 0)) (da_cons (de_var (pv 5)) (da_cons (de_var (pv 1)) (da_cons (de_dget hr.units (de_var (pv 2)) (de_var (pv 5)) (fun _ _ => rfl)) (da_cons (de_var (pv 3)) da_nil)))))) (fun _ a => ps_expr (pe_bm PySem.F.plainAttrs_list PySem.F.slot_list_extend PySem.F.type_list_extend mt_extend (pv 4) (pa_cons a pa_nil))))))
      (dss_one (ds_ret [4] (de_callB (dcl_sortedN (hr.mono (by decide))) (by rfl) T.n_sorted (by decide +kernel) (da_cons (de_var (pv 4)) da_nil))))))))), by decide +kernel, fun ds vs XQ Q hd hv h => ?_⟩
  obtain ⟨p, G, B, gone, hz, hf, bs, rfl, hp, ho, hrs, hrl, gG, eG, nG, bG, lG, hh, hfz, gB, eB, lB, bB, q⟩ := h
  match vs, hv with
  | [v, v2, v3, v4], _ =>
  try simp only [frz, params, setAll, List.zipWith, List.length_cons, List.length_nil, Nat.reduceAdd, Nat.reduceSub, List.replicate, List.append_nil, List.cons_append, List.nil_append, getV_va, Pt.sl, true_and, List.getElem?_cons_zero, List.getElem?_cons_succ, List.set_cons_zero, List.set_cons_succ, ite_self, Bool.false_eq_true, if_false, if_true]
  refine gCall_of fun _ => ⟨p, G, gone, rfl, hp, gG, eG, nG, bG, lG, ?_⟩
  refine gCall_of fun _ => ⟨p, hz, rfl, hp, hh, ?_⟩
  refine gCall_of fun _ => ⟨p, B, bs, rfl, hp, gB, eB, lB, bB, ?_⟩
  dsimp only
  refine ⟨by decide, _, 0, _, 1, _, rfl, rfl, rfl, rfl, roads_plain p, .inl trivial, ?_⟩
  have h3 := hp.r3
  refine for_idx (fun n ρ => ∃ (m : Bool) (s5 : Sl), ρ = [Sl.va ⟨p.o, p.o.imm, some v⟩, .va ⟨G, G.imm, some v2⟩, .va ⟨holdsD hz, (holdsD hz).imm, some v3⟩, .va ⟨B, B.imm, some v4⟩, .ow (.lst (intsD (unAll p gone hf bs (p.roads.take n)))) m, s5] ∧ (unAll p gone hf bs (p.roads.take n)).length ≤ 1000 * n) _ 0 _ ⟨_, _, rfl, Nat.zero_le _⟩ (fun j y hy ρ hI K2 kk => ?_) fun ρ hI => ?_
  · obtain ⟨m, s5, rfl, hl⟩ := hI
    rw [keysD, List.map_map, List.getElem?_map] at hy
    cases er : p.roads[j]? with
    | none => rw [er] at hy; cases hy
    | some r =>
    rw [er] at hy
    cases hy
    rw [Nat.zero_add] at hl
    have hm : r ∈ p.roads := List.mem_of_getElem? er
    have hj := (List.getElem?_eq_some_iff.mp er).1
    have hs := unAll_snoc (p := p) (gone := gone) (hf := hf) (bs := bs) er
    have hu := unN_len hp (gone := gone) (hold := hf r.1) (bs := bs) (x := r.1)
    have hl2 : (unAll p gone hf bs (p.roads.take (j + 1))).length ≤ 1000 * (j + 1) := by rw [hs, List.length_append]; omega
    try simp only [frz, params, setAll, List.zipWith, List.length_cons, List.length_nil, Nat.reduceAdd, Nat.reduceSub, List.replicate, List.append_nil, List.cons_append, List.nil_append, getV_va, Pt.sl, true_and, List.getElem?_cons_zero, List.getElem?_cons_succ, List.set_cons_zero, List.set_cons_succ, ite_self, Bool.false_eq_true, if_false, if_true]
    refine ⟨⟨_, _, rfl⟩, ?_⟩
    refine ⟨_, .inr r.1, .int (hf r.1), rfl, rfl, ?_, ?_⟩
    · have := hfz r hm
      rw [getK_map (fun a : Str × Int => a.1) (fun a => .int a.2)]
      cases e : hz.find? fun a => decide (a.1 = r.1) with
      | none => rw [e] at this; cases this
      | some a =>
        rw [e] at this
        have : a.2 = hf r.1 := Option.some.inj this
        rw [← this]
        rfl
    refine gCall_of fun _ => ⟨p, r.1, G, B, gone, hf r.1, bs, rfl, hp, hrs r hm, ho, gG, eG, lG, eB, lB, fun f => ?_⟩
    dsimp only
    refine ⟨_, _, _, rfl, rfl, ?_, ?_⟩
    · unfold intsD
      rw [List.length_map, List.length_map]
      rw [Nat.zero_add]
      show _ ≤ 16777216
      omega
    have e : intsD (unAll p gone hf bs (p.roads.take (0 + j))) ++ intsD (unN p gone (hf r.1) bs r.1) = intsD (unAll p gone hf bs (p.roads.take (0 + j + 1))) := by
      rw [Nat.zero_add, hs]
      unfold intsD
      rw [List.map_append]
    rw [e]
    exact kk _ ⟨_, _, rfl, by rw [Nat.zero_add]; exact hl2⟩
  · obtain ⟨m, s5, rfl, hl⟩ := hI
    rw [keysD, List.length_map, List.length_map, Nat.zero_add, List.take_length]
    try simp only [frz, params, setAll, List.zipWith, List.length_cons, List.length_nil, Nat.reduceAdd, Nat.reduceSub, List.replicate, List.append_nil, List.cons_append, List.nil_append, getV_va, Pt.sl, true_and, List.getElem?_cons_zero, List.getElem?_cons_succ, List.set_cons_zero, List.set_cons_succ, ite_self, Bool.false_eq_true, if_false, if_true]
    rw [g1_of]
    refine ⟨_, rfl, canSort_ks fun k hk => ?_, immL_nats _, ?_⟩
    · obtain ⟨r, _, hk⟩ := List.mem_flatMap.mp hk
      have := unN_mem hk
      omega
    · exact q

end
end My

set_option Elab.async false
set_option linter.all false
set_option maxRecDepth 100000
set_option maxHeartbeats 4000000
set_option pp.maxSteps 6000
namespace My
open PySem PySem.Spec PyProof.Rows L2 DL
section
variable {P : Program} {w : World} {K : PySem.W.Frag} {mg : Str → Option Value} {base : Heap}
theorem sc__law_draw : FnScope ["stream", "many", "cell", "digit", "mixed"] ["stream", "many"] (defScope s__law_draw) := ⟨rfl, rfl, rfl, by decide +kernel, rfl, by decide +kernel, by decide +kernel⟩
theorem ok__law_draw (T : Txt K mg) : FnD P w K mg base 1 T.f__law_draw.f T.f__law_draw.fd ["stream", "many"] 1 cDraw := by
  refine T.f__law_draw.ok.ok sc__law_draw (fun vs H Q E h => h.1) (fun cdv A outer s H vs Q E hr h => ?_)
  obtain ⟨hl, R, st, Lb, B, ds, XQ, QD, o, hB, r, ⟨m, rfl, hm0, hm1, q⟩, hX, k⟩ := h
  match vs, hl, r with
  | [v0, v1], _, .cons r0 (.cons r1 .nil) =>
  cases r1
  generalize hv0 : v0 = w0 at r0
  cases r0 with
  | @strm _ p hst =>
  subst hv0
  obtain ⟨a, b⟩ := p
  obtain ⟨hne, xs0, c0, n0, s0, ha0, hb0, hc0, hn0, hnB, hs0, hs1, hcl⟩ := o.inv (a, b) hst
  simp only at hne ha0 hb0
  refine ⟨_, pss_cons (ps_asg (pe_op op_add (pe_ix ix_list (pv 0) pe_int (fun _ _ => rfl)) pe_int) (pg_sub (pv 0) pe_int set_list))
    (pss_cons (ps_while (passes_of rfl) (PW.pt (pw_and (pt_cmpR op_eq (pe_ix ix_list (pv 0) pe_int (fun _ _ => rfl)) pe_int (nomark _)) (pw_and1 (pt_cmpR (op_neD hr.units) (pe_ix ix_list (pv 0) pe_int (fun _ _ => rfl)) (pe_lst pa_nil) (nomark _)))))
      (pss_cons (ps_set (i := 2) sc__law_draw.nd rfl (Or.inl rfl) (pe_callB call_abs rfl T.n_abs (by decide +kernel) (pa_cons (pe_bm PySem.F.plainAttrs_list PySem.F.slot_list_pop PySem.F.type_list_pop mt_popAt (pe_ix ix_list (pv 0) pe_int (fun _ _ => rfl)) (pa_cons pe_int pa_nil)) pa_nil)))
      (pss_cons (ps_asg (pe_op op_mod (pe_callTy call_int1 rfl T.n_int (by decide +kernel) (pa_cons (pe_op op_add (pe_op op_add (pe_op op_mul (pe_ix ix_list (pv 0) pe_int (fun _ _ => rfl)) pe_int) (pv 2)) pe_int) pa_nil)) pe_int) (pg_sub (pv 0) pe_int set_list))
      (pss_one (ps_asg (pe_ifExp (pt_cmpR op_ge (pv 2) (pe_op op_pow pe_int pe_int) (nomark _)) (pv 2) pe_int) (pg_sub (pv 0) pe_int set_list))))))
    (pss_cons (ps_if (pt_cmpR op_gt (pe_ix ix_list (pv 0) pe_int (fun _ _ => rfl)) pe_int (nomark _))
      (pss_cons (ps_set (i := 3) sc__law_draw.nd rfl (Or.inl rfl) (pe_op op_mod (pe_callTy call_int1 rfl T.n_int (by decide +kernel) (pa_cons (pe_ix ix_list (pv 0) pe_int (fun _ _ => rfl)) pa_nil)) (pv 1)))
      (pss_cons (ps_asg (pe_op op_fdiv (pe_ix ix_list (pv 0) pe_int (fun _ _ => rfl)) (pv 1)) (pg_sub (pv 0) pe_int set_list))
      (pss_one (ps_ret (pv 3))))) pss_nil)
    (pss_cons (ps_set (i := 4) sc__law_draw.nd rfl (Or.inl rfl) (pe_op op_mod (pe_callTy call_int1 rfl T.n_int (by decide +kernel) (pa_cons (pe_op op_powW (pe_op op_add (pe_op op_add (pe_ix ix_list (pv 0) pe_int (fun _ _ => rfl)) (pe_op op_mul pe_int (pe_ix ix_list (pv 0) pe_int (fun _ _ => rfl)))) pe_int) pe_int) pa_nil)) pe_int))
    (pss_one (ps_ret (pe_op op_mod (pe_op op_mod (pe_callTy call_int1 rfl T.n_int (by decide +kernel) (pa_cons (pe_op op_powW (pe_op op_add (pe_op op_add (pe_op op_mul (pv 4) pe_int) (pe_op op_mul pe_int (pe_ix ix_list (pv 0) pe_int (fun _ _ => rfl)))) pe_int) pe_int) pa_nil)) pe_int) (pv 1))))))), ?_⟩
  obtain ⟨hu, hE⟩ : HpOk _ B R H ∧ n0 + 1 ≤ ((B + 1 : Nat) : Int) := ⟨o, by omega⟩
  refine draw_readsV hne ⟨ha0, hb0⟩ hc0 hn0 (lim_bits hE (Nat.le_trans hB o.lim)) hs0 hs1 hm0 hm1 fun k' H' k0 k1 ⟨xs', c', s', eV, hS', c0', s0', s1'⟩ kp bk => ?_
  have hcl' := drawV_cells (n := n0) (s := s0) hm0 hcl
  rw [eV] at hcl'
  obtain ⟨e1, o1⟩ := strm_ext (B' := B + 1) hst o ⟨kp, hne, xs', c', n0 + 1, s', hS'.top, hS'.low, c0', by omega, hE, s0', s1', hcl'⟩
  exact k _ ⟨.int k', true, none⟩ R H' e1 o1 (.of (.int _)) (q k' k0 k1)

end
/-! ### what is drawn -/
theorem atI_nat {xs : List D} {i : Int} (h0 : 0 ≤ i) (h1 : i < xs.length) : ∃ x, atI xs i = some x ∧ x ∈ xs := by
  have hn : i.toNat < xs.length := by omega
  refine ⟨xs[i.toNat], ?_, List.getElem_mem hn⟩
  unfold atI ixN
  rw [if_pos h0, if_pos h1]
  simp [hn]
section
variable {P : Program} {w : World} {K : PySem.W.Frag} {mg : Str → Option Value} {base : Heap}
theorem sc__law_pick : FnScope ["stream", "things"] ["stream", "things"] (defScope s__law_pick) := ⟨rfl, rfl, rfl, by decide +kernel, rfl, by decide +kernel, by decide +kernel⟩
def c__law_pick : DC := fun ds _ _ Q => ∃ a xs, ds = [.strm, a] ∧ a.seq = some xs ∧ xs ≠ [] ∧ xs.length < 1073741824 ∧ ∀ x ∈ xs, ∀ n, Q ⟨x, n, none⟩
theorem ok__law_pick (T : Txt K mg) : FnD P w K mg base 2 T.f__law_pick.f T.f__law_pick.fd ["stream", "things"] 1 c__law_pick := by
  refine fn_ok T.f__law_pick.ok sc__law_pick fun cdv A outer s H E hr => ⟨_, _, (dss_one (ds_ret [] (de_ix (de_var (pv 1)) (de_call ((ok__law_draw T).mono (by decide)) hr (by rfl) T.f__law_draw.g T.f__law_draw.ok.kp T.f__law_draw.b (passE (takes_of rfl rfl rfl rfl)) rfl (da_cons (de_var (pv 0)) (da_cons (de_callB dcl_len (by rfl) T.n_len (by decide +kernel) (da_cons (de_var (pv 1)) da_nil)) da_nil))) (fun _ _ => rfl)))), by decide +kernel, fun ds vs XQ Q hd hv h => ?_⟩
  obtain ⟨a, xs, rfl, e, hne, hl, q⟩ := h
  match vs, hv with
  | [v, v2], _ =>
  try simp only [frz, params, setAll, List.zipWith, List.length_cons, List.length_nil, Nat.reduceAdd, Nat.reduceSub, List.replicate, List.append_nil, List.cons_append, List.nil_append, getV_va, Pt.sl, true_and, List.getElem?_cons_zero, List.getElem?_cons_succ, List.set_cons_zero, List.set_cons_succ, ite_self, Bool.false_eq_true, if_false, if_true]
  rw [g1_of, gLen_of e]
  refine gCall_of fun _ => ⟨(xs.length : Int), rfl, ?_, by omega, fun i i0 i1 => ?_⟩
  · have := List.length_pos_iff.mpr hne
    omega
  · obtain ⟨x, hx, hm⟩ := atI_nat i0 i1
    rw [gIx_of e hx]
    exact q x hm _

theorem sc__law_mixed : FnScope ["stream", "things", "k", "left", "found"] ["stream", "things"] (defScope s__law_mixed) := ⟨rfl, rfl, rfl, by decide +kernel, rfl, by decide +kernel, by decide +kernel⟩
def c__law_mixed : DC := fun ds _ _ Q => ∃ a xs, ds = [.strm, a] ∧ a.seq = some xs ∧ xs.length ≤ 100000 ∧ ∀ ys n, ys.Perm xs → Q ⟨.lst ys, n, none⟩
theorem ok__law_mixed (T : Txt K mg) : FnD P w K mg base 2 T.f__law_mixed.f T.f__law_mixed.fd ["stream", "things"] (BIG * 10) c__law_mixed := by
  refine fn_ok T.f__law_mixed.ok sc__law_mixed fun cdv A outer s H E hr => ⟨_, _, (dss_cons (ds_par2 (i := 3) (j := 4) [] (dp_ow (dn_list (by rfl) T.n_list (da_cons (de_var (pv 1)) da_nil))) (dp_ow (dn_lst da_nil)) rfl sc__law_mixed.nd rfl rfl (by decide) (by rfl) (by rfl) (by rfl))
      (dss_cons (ds_forR [3] (passes_of rfl) rfl (dir_range1 (by rfl) T.n_range (da_cons (de_callB dcl_len (by rfl) T.n_len (by decide +kernel) (da_cons (de_var (pv 3)) da_nil)) da_nil)) (dg_name (pg_name (i := 2) sc__law_mixed.nd rfl (Or.inl rfl)))
      (dss_one (ds_appPop [3] (i := 4) (j := 3) (de_call ((ok__law_draw T).mono (by decide)) hr (by rfl) T.f__law_draw.g T.f__law_draw.ok.kp T.f__law_draw.b (passE (takes_of rfl rfl rfl rfl)) rfl (da_cons (de_var (pv 0)) (da_cons (de_callB dcl_len (by rfl) T.n_len (by decide +kernel) (da_cons (de_var (pv 3)) da_nil)) da_nil))) (fun _ a => ps_expr (pe_bm PySem.F.plainAttrs_list PySem.F.slot_list_append PySem.F.type_list_append mt_append (pv 4) (pa_cons (pe_bm PySem.F.plainAttrs_list PySem.F.slot_list_pop PySem.F.type_list_pop mt_popAt (pv 3) (pa_cons a pa_nil)) pa_nil))))))
      (dss_one (ds_ret [4] (de_var (pv 4)))))), by decide +kernel, fun ds vs XQ Q hd hv h => ?_⟩
  obtain ⟨a, xs, rfl, e, hl, q⟩ := h
  match vs, hv with
  | [v, v2], _ =>
  try simp only [frz, params, setAll, List.zipWith, List.length_cons, List.length_nil, Nat.reduceAdd, Nat.reduceSub, List.replicate, List.append_nil, List.cons_append, List.nil_append, getV_va, Pt.sl, true_and, List.getElem?_cons_zero, List.getElem?_cons_succ, List.set_cons_zero, List.set_cons_succ, ite_self, Bool.false_eq_true, if_false, if_true]
  refine ⟨_, xs, rfl, e, by decide, ?_⟩
  try simp only [frz, params, setAll, List.zipWith, List.length_cons, List.length_nil, Nat.reduceAdd, Nat.reduceSub, List.replicate, List.append_nil, List.cons_append, List.nil_append, getV_va, Pt.sl, true_and, List.getElem?_cons_zero, List.getElem?_cons_succ, List.set_cons_zero, List.set_cons_succ, ite_self, Bool.false_eq_true, if_false, if_true]
  rw [g1_of, gLen_of (ds := xs) rfl]
  refine ⟨by omega, by omega, .inr (by rw [rgD_len]; show _ ≤ 16777216; omega), ?_⟩
  refine for_idx (fun n ρ => ∃ sl ds es p q, ρ = [Sl.va ⟨.strm, D.strm.imm, some v⟩, .va ⟨a, a.imm, some v2⟩, sl, .ow (.lst es) p, .ow (.lst ds) q] ∧ es.length + n = xs.length ∧ ds.length = n ∧ (ds ++ es).Perm xs) _ 0 _ ⟨.un, [], xs, _, _, rfl, rfl, rfl, .refl _⟩ (fun i x hx ρ hI K kk => ?_) fun ρ hI => ?_
  · obtain ⟨sl, ds, es, p, q', rfl, h1, h2, h3⟩ := hI
    have hlt : i < xs.length := by
      have := (List.getElem?_eq_some_iff.mp hx).1
      rw [rgD_len] at this
      omega
    have hB : BIG = 16777216 := rfl
    try simp only [frz, params, setAll, List.zipWith, List.length_cons, List.length_nil, Nat.reduceAdd, Nat.reduceSub, List.replicate, List.append_nil, List.cons_append, List.nil_append, getV_va, Pt.sl, true_and, List.getElem?_cons_zero, List.getElem?_cons_succ, List.set_cons_zero, List.set_cons_succ, ite_self, Bool.false_eq_true, if_false, if_true]
    refine ⟨by decide, ds, q', es, p, rfl, rfl, by omega, ?_⟩
    rw [g1_of, gLen_of (ds := es) rfl]
    refine gCall_of fun _ => ⟨(es.length : Int), rfl, by omega, by omega, fun j j0 j1 => ?_⟩
    have hj : j.toNat < es.length := by omega
    refine ⟨rfl, j.toNat, es[j.toNat], by simp; omega, by simp [hj], by omega, kk _ ⟨_, _, _, _, _, rfl, ?_, ?_, ?_⟩⟩
    · rw [List.length_eraseIdx_of_lt hj]
      omega
    · rw [List.length_append]
      simp
      omega
    · rw [List.append_assoc]
      exact ((erase_perm hj).append_left ds).trans h3
  · obtain ⟨sl, ds, es, p, q', rfl, h1, h2, h3⟩ := hI
    rw [rgD_len] at h1 h2
    try simp only [frz, params, setAll, List.zipWith, List.length_cons, List.length_nil, Nat.reduceAdd, Nat.reduceSub, List.replicate, List.append_nil, List.cons_append, List.nil_append, getV_va, Pt.sl, true_and, List.getElem?_cons_zero, List.getElem?_cons_succ, List.set_cons_zero, List.set_cons_succ, ite_self, Bool.false_eq_true, if_false, if_true]
    have he : es = [] := List.length_eq_zero_iff.mp (by omega)
    rw [he, List.append_nil] at h3
    exact q ds _ h3

theorem sc__law_same : FnScope ["found", "due", "mine", "theirs"] ["found", "due"] (defScope s__law_same) := ⟨rfl, rfl, rfl, by decide +kernel, rfl, by decide +kernel, by decide +kernel⟩
def c__law_same (k : Nat) : DC := fun ds _ _ Q => ∃ x, ds = [x, x] ∧ x.good = true ∧ x.smp = true ∧ x.rnk < k ∧ Q ⟨.bl true, true, none⟩
theorem ok__law_same (T : Txt K mg) : ∀ k, FnD P w K mg base (k + 1) T.f__law_same.f T.f__law_same.fd ["found", "due"] (cost0 k) (c__law_same k)
  | 0 => fnd_none (fun ds vs XQ Q ⟨_, _, _, _, h, _⟩ => by omega)
  | k + 1 => by
    have IH := ok__law_same T k
    refine fn_ok T.f__law_same.ok sc__law_same fun cdv A outer s H E hr => ⟨_, _, (dss_cons (ds_if [] (dt_val (de_isiT (tys_ok2 ty_list ty_tuple) (de_var (pv 1)) (pa_tyCons (T := "list") (by rfl) T.n_list (by decide +kernel) (pa_tyCons (T := "tuple") (by rfl) T.n_tuple (by decide +kernel) pa_tyNil)) (by rfl) T.n_isinstance (by decide +kernel))) (dss_cons (ds_if [] (DW.dt (dw_or (dt_cmp (dop_ne hr.units) (de_isi (T := "list") ty_list (de_var (pv 0)) (by rfl) T.n_isinstance (by decide +kernel) (by rfl) T.n_list (by decide +kernel)) (de_isi (T := "list") ty_list (de_var (pv 1)) (by rfl) T.n_isinstance (by decide +kernel) (by rfl) T.n_list (by decide +kernel)) (nomark _)) (dw_or1 (dt_cmp (dop_ne hr.units) (de_isi (T := "tuple") ty_tuple (de_var (pv 0)) (by rfl) T.n_isinstance (by decide +kernel) (by rfl) T.n_tuple (by decide +kernel)) (de_isi (T := "tuple") ty_tuple (de_var (pv 1)) (by rfl) T.n_isinstance (by decide +kernel) (by rfl) T.n_tuple (by decide +kernel)) (nomark _))))) (dss_one (ds_ret [] de_bl)) dss_nil)
      (dss_one (ds_ret [] (de_and (de_cmp (dop_eq hr.units) (de_callB dcl_len (by rfl) T.n_len (by decide +kernel) (da_cons (de_var (pv 0)) da_nil)) (de_callB dcl_len (by rfl) T.n_len (by decide +kernel) (da_cons (de_var (pv 1)) da_nil)) (nomark _)) (de_one (de_callB (dcl_all rfl) (by rfl) T.n_all (by decide +kernel) (da_cons (DN.de (dn_lc (own := [("mine", 2), ("theirs", 3)]) rfl sc__law_same.nd (di_zip (by rfl) T.n_zip (da_cons (de_var (pv 0)) (da_cons (de_var (pv 1)) da_nil))) (blkOk_by (N := ["found", "due", "mine", "theirs"]) (sc := defScope s__law_same) (by decide +kernel)) (fun _ _ _ _ _ => (dg_tup (n := 2) rfl (dgs_cons (dg_name (pg_name (i := 2) sc__law_same.nd rfl (Or.inl rfl))) (dgs_cons (dg_name (pg_name (i := 3) sc__law_same.nd rfl (Or.inl rfl))) dgs_nil)))) (fun _ _ _ _ _ => dts_nil) (fun _ _ _ _ _ => (de_call (IH) hr (by rfl) T.f__law_same.g T.f__law_same.ok.kp T.f__law_same.b passL rfl (da_cons (de_var (pv 2)) (da_cons (de_var (pv 3)) da_nil)))) (by decide))) da_nil))))))) dss_nil)
      (dss_cons (ds_if [] (dt_val (de_isi (T := "dict") ty_dict (de_var (pv 1)) (by rfl) T.n_isinstance (by decide +kernel) (by rfl) T.n_dict (by decide +kernel))) (dss_one (ds_ret [] (de_and (de_isi (T := "dict") ty_dict (de_var (pv 0)) (by rfl) T.n_isinstance (by decide +kernel) (by rfl) T.n_dict (by decide +kernel)) (de_one (de_call (IH) hr (by rfl) T.f__law_same.g T.f__law_same.ok.kp T.f__law_same.b (passE (takes_of rfl rfl rfl rfl)) rfl (da_cons (de_items rfl (by rfl) T.n_list (de_var (pv 0))) (da_cons (de_items rfl (by rfl) T.n_list (de_var (pv 1))) da_nil))))))) dss_nil)
      (dss_cons (ds_if [] (DW.dt (dw_or (dt_val (de_isi (T := "bool") ty_bool (de_var (pv 1)) (by rfl) T.n_isinstance (by decide +kernel) (by rfl) T.n_bool (by decide +kernel))) (dw_or1 (dt_val (de_isi (T := "bool") ty_bool (de_var (pv 0)) (by rfl) T.n_isinstance (by decide +kernel) (by rfl) T.n_bool (by decide +kernel)))))) (dss_one (ds_ret [] (de_and (de_isi (T := "bool") ty_bool (de_var (pv 1)) (by rfl) T.n_isinstance (by decide +kernel) (by rfl) T.n_bool (by decide +kernel)) (de_and (de_isi (T := "bool") ty_bool (de_var (pv 0)) (by rfl) T.n_isinstance (by decide +kernel) (by rfl) T.n_bool (by decide +kernel)) (de_one (de_cmp (dop_eq hr.units) (de_var (pv 0)) (de_var (pv 1)) (nomark _))))))) dss_nil)
      (dss_cons (ds_if [] (DW.dt (dw_or (dt_cmp dop_isN (de_var (pv 1)) de_non (nomark _)) (dw_or1 (dt_cmp dop_isN (de_var (pv 0)) de_non (nomark _))))) (dss_one (ds_ret [] (de_and (de_cmp dop_isN (de_var (pv 1)) de_non (nomark _)) (de_one (de_cmp dop_isN (de_var (pv 0)) de_non (nomark _)))))) dss_nil)
      (dss_cons (ds_if [] (DW.dt (dw_or (dt_cmp (dop_ne hr.units) (de_isi (T := "int") ty_int (de_var (pv 1)) (by rfl) T.n_isinstance (by decide +kernel) (by rfl) T.n_int (by decide +kernel)) (de_isi (T := "int") ty_int (de_var (pv 0)) (by rfl) T.n_isinstance (by decide +kernel) (by rfl) T.n_int (by decide +kernel)) (nomark _)) (dw_or1 (dt_cmp (dop_ne hr.units) (de_isi (T := "str") ty_str (de_var (pv 1)) (by rfl) T.n_isinstance (by decide +kernel) (by rfl) T.n_str (by decide +kernel)) (de_isi (T := "str") ty_str (de_var (pv 0)) (by rfl) T.n_isinstance (by decide +kernel) (by rfl) T.n_str (by decide +kernel)) (nomark _))))) (dss_one (ds_ret [] de_bl)) dss_nil)
      (dss_one (ds_ret [] (de_and (de_not (de_isiT (tys_ok3 ty_list ty_tuple ty_dict) (de_var (pv 0)) (pa_tyCons (T := "list") (by rfl) T.n_list (by decide +kernel) (pa_tyCons (T := "tuple") (by rfl) T.n_tuple (by decide +kernel) (pa_tyCons (T := "dict") (by rfl) T.n_dict (by decide +kernel) pa_tyNil))) (by rfl) T.n_isinstance (by decide +kernel))) (de_one (de_cmp (dop_eq hr.units) (de_var (pv 0)) (de_var (pv 1)) (nomark _))))))))))), ?c, fun ds vs XQ Q hd hv h => ?_⟩
    · show _ ≤ 0; simp [cost0]
    obtain ⟨x, rfl, hx, hsm, hd, q⟩ := h
    match vs, hv with
    | [v, v2], _ =>
    try simp only [frz, params, setAll, List.zipWith, List.length_cons, List.length_nil, Nat.reduceAdd, Nat.reduceSub, List.replicate, List.append_nil, List.cons_append, List.nil_append, getV_va, Pt.sl, true_and, List.getElem?_cons_zero, List.getElem?_cons_succ, List.set_cons_zero, List.set_cons_succ, ite_self, Bool.false_eq_true, if_false, if_true]
    have gt := good_ty hx
    refine ⟨gt, ?_⟩
    rw [isa_seq hx, bl_of]
    cases e : x.seq with
    | some xs =>
      obtain ⟨hgx, hgl⟩ := good_seq hx e
      rw [if_pos (by simp)]
      refine ⟨gt, gt, ?_⟩
      rw [gEq_bl, bl_of, if_neg (by simp)]
      refine ⟨gt, gt, ?_⟩
      rw [gEq_bl, bl_of, if_neg (by simp), g1_of, gLen_of e, g1_of, gLen_of e, gEq_int, bl_of, if_pos (by simp), gZip_seq (by exact e) (by cases x <;> first | (cases e; rfl) | (cases e; done))]
      rw [seq_rnk e] at hd
      rw [seq_smp e] at hsm
      refine ⟨by rw [zipD_len]; show _ ≤ 16777216; omega, all_go (fun _ => true) (fun y hy K1 K0 kk => ?_) (by rw [show ∀ l : List Dv, l.all (fun _ => true) = true from fun l => List.all_eq_true.mpr fun _ _ => rfl]; exact q)⟩
      try simp only [lcStep, true_and, wipeR, List.map_cons, List.map_nil, List.set_cons_succ, List.set_cons_zero, List.getElem?_cons_succ, List.getElem?_cons_zero, getV_va, if_true]
      obtain ⟨i, hi⟩ := List.getElem?_of_mem hy
      obtain ⟨a, b, h1, h2, rfl⟩ := zipD_get hi
      rw [h1] at h2
      cases h2
      have hm := List.mem_of_getElem? h1
      rw [unp_seq (by rfl)]
      refine ⟨rfl, rfl, ?_⟩
      try simp only [frz, params, setAll, List.zipWith, List.length_cons, List.length_nil, Nat.reduceAdd, Nat.reduceSub, List.replicate, List.append_nil, List.cons_append, List.nil_append, getV_va, Pt.sl, true_and, List.getElem?_cons_zero, List.getElem?_cons_succ, List.set_cons_zero, List.set_cons_succ, ite_self, Bool.false_eq_true, if_false, if_true]
      exact gCall_of fun _ => ⟨a, rfl, hgx a hm, smpL_mem hsm a hm, rnkL_mem (by omega) a hm, kk _⟩
    | none =>
      rw [if_neg (by simp)]
      by_cases hdc : ∃ kvs, x = .dct kvs
      · obtain ⟨kvs, rfl⟩ := hdc
        have ek : kvs = [] := by simpa [D.smp] using hsm
        subst ek
        exact ⟨gt, true, rfl, gt, true, rfl, [], rfl, (fun _ h => nomatch h), [], rfl, (fun _ h => nomatch h), gCall_of fun _ => ⟨.lst [], rfl, rfl, rfl, by simp [D.rnk] at hd; simp [D.rnk, D.rnkL]; omega, q⟩⟩
      · cases x <;> first | (cases e; done) | (cases hx; done) | (exact absurd ⟨_, rfl⟩ hdc) | skip
        all_goals
          refine ⟨gt, false, rfl, ?_⟩
          rw [if_neg (by decide)]
        · refine ⟨gt, false, rfl, ?_⟩
          rw [if_neg (by decide)]
          refine ⟨gt, false, rfl, ?_⟩
          rw [if_neg (by decide)]
          refine ⟨⟨true, rfl, ?_⟩, fun v z => nomatch z⟩
          rw [if_pos rfl]
          refine ⟨⟨true, rfl, ?_⟩, fun v z => nomatch z⟩
          rw [if_pos rfl]
          exact ⟨q, fun v z => nomatch z⟩
        · refine ⟨gt, true, rfl, ?_⟩
          rw [if_pos rfl]
          refine ⟨gt, true, rfl, ?_⟩
          rw [if_pos rfl]
          refine ⟨gt, true, rfl, ?_⟩
          rw [if_pos rfl, gEq_bl]
          simpa using q
        · skip
          refine ⟨gt, false, rfl, ?_⟩
          rw [if_neg (by decide)]
          refine ⟨gt, false, rfl, ?_⟩
          rw [if_neg (by decide)]
          refine ⟨⟨false, rfl, ?_⟩, fun v z => nomatch z⟩
          rw [if_neg (by decide)]
          refine ⟨⟨false, rfl, ?_⟩, fun v z => nomatch z⟩
          rw [if_neg (by decide)]
          refine ⟨gt, gt, ?_⟩
          rw [gEq_bl, bl_of, if_neg (by simp)]
          refine ⟨gt, gt, ?_⟩
          rw [gEq_bl, bl_of, if_neg (by simp)]
          refine ⟨gt, false, rfl, true, rfl, ?_⟩
          rw [if_pos rfl]
          rw [gEq_int]
          simpa using q
        · skip
          refine ⟨gt, false, rfl, ?_⟩
          rw [if_neg (by decide)]
          refine ⟨gt, false, rfl, ?_⟩
          rw [if_neg (by decide)]
          refine ⟨⟨false, rfl, ?_⟩, fun v z => nomatch z⟩
          rw [if_neg (by decide)]
          refine ⟨⟨false, rfl, ?_⟩, fun v z => nomatch z⟩
          rw [if_neg (by decide)]
          refine ⟨gt, gt, ?_⟩
          rw [gEq_bl, bl_of, if_neg (by simp)]
          refine ⟨gt, gt, ?_⟩
          rw [gEq_bl, bl_of, if_neg (by simp)]
          refine ⟨gt, false, rfl, true, rfl, ?_⟩
          rw [if_pos rfl]
          simp only [D.good, Bool.and_eq_true] at hx
          rw [gEq_str hx.1 hx.1]
          simpa using q

mutual
/-- the same with lists for tuples, or tuples for lists -/
inductive Loose : D → D → Prop
  | ll {xs ys : List D} : LooseL xs ys → Loose (.lst xs) (.lst ys)
  | lt {xs ys : List D} : LooseL xs ys → Loose (.lst xs) (.tup ys)
  | tl {xs ys : List D} : LooseL xs ys → Loose (.tup xs) (.lst ys)
  | tt {xs ys : List D} : LooseL xs ys → Loose (.tup xs) (.tup ys)
  | same {d : D} : d.seq = none → Loose d d
inductive LooseL : List D → List D → Prop
  | nil : LooseL [] []
  | cons {x y : D} {xs ys : List D} : Loose x y → LooseL xs ys → LooseL (x :: xs) (y :: ys)
end
theorem Loose.of_seq {x : D} {xs ys : List D} (e : x.seq = some xs) (h : LooseL xs ys) : Loose x (.lst ys) ∧ Loose x (.tup ys) := by
  cases x <;> first | (cases e; done) | (cases e; exact ⟨.ll h, .lt h⟩) | (cases e; exact ⟨.tl h, .tt h⟩)
theorem Loose.seq {x y : D} {xs : List D} (h : Loose x y) (e : x.seq = some xs) : ∃ ys, y.seq = some ys ∧ LooseL xs ys := by
  cases h with
  | ll h => cases e; exact ⟨_, rfl, h⟩
  | lt h => cases e; exact ⟨_, rfl, h⟩
  | tl h => cases e; exact ⟨_, rfl, h⟩
  | tt h => cases e; exact ⟨_, rfl, h⟩
  | same h => rw [h] at e; cases e
theorem Loose.none {x y : D} (h : Loose x y) (e : x.seq = none) : y = x := by
  cases h <;> first | (cases e; done) | rfl
theorem looseL_app : ∀ {xs ys us vs : List D}, LooseL xs ys → LooseL us vs → LooseL (xs ++ us) (ys ++ vs)
  | _, _, _, _, .nil, h => h
  | _, _, _, _, .cons a t, h => .cons a (looseL_app t h)
theorem sc__law_loose : FnScope ["stream", "thing", "some", "one"] ["stream", "thing"] (defScope s__law_loose) := ⟨rfl, rfl, rfl, by decide +kernel, rfl, by decide +kernel, by decide +kernel⟩
def c__law_loose (k : Nat) : DC := fun ds _ _ Q => ∃ x, ds = [.strm, x] ∧ x.good = true ∧ x.rnk < k ∧ ∀ y n, Loose x y → Q ⟨y, n, none⟩
theorem ok__law_loose (T : Txt K mg) : ∀ k, FnD P w K mg base (k + 2) T.f__law_loose.f T.f__law_loose.fd ["stream", "thing"] (costL k) (c__law_loose k)
  | 0 => fnd_none (fun ds vs XQ Q ⟨_, _, _, h, _⟩ => by omega)
  | k + 1 => by
    have IH := ok__law_loose T k
    refine fn_ok T.f__law_loose.ok sc__law_loose fun cdv A outer s H E hr => ⟨_, _, (dss_cons (ds_if [] (dt_val (de_isiT (tys_ok2 ty_list ty_tuple) (de_var (pv 1)) (pa_tyCons (T := "list") (by rfl) T.n_list (by decide +kernel) (pa_tyCons (T := "tuple") (by rfl) T.n_tuple (by decide +kernel) pa_tyNil)) (by rfl) T.n_isinstance (by decide +kernel))) (dss_cons (ds_setLc (i := 2) (own := [("one", 3)]) [] rfl sc__law_loose.nd rfl rfl (sw_true rfl rfl rfl (by decide +kernel)) (di_seq (de_var (pv 1))) (blkOk_by (N := ["stream", "thing", "some", "one"]) (sc := defScope s__law_loose) (by decide +kernel)) (fun _ _ _ _ _ => (dg_name (pg_name (i := 3) sc__law_loose.nd rfl (Or.inl rfl)))) (fun _ _ _ _ _ => dts_nil) (fun _ _ _ _ _ => (de_call (IH) hr (by rfl) T.f__law_loose.g T.f__law_loose.ok.kp T.f__law_loose.b passL rfl (da_cons (de_var (pv 0)) (da_cons (de_var (pv 3)) da_nil)))) (by decide))
      (dss_one (ds_ret [] (de_if (dt_cmp (dop_eq hr.units) (de_call ((ok__law_draw T).mono (by omega)) hr (by rfl) T.f__law_draw.g T.f__law_draw.ok.kp T.f__law_draw.b (passE (takes_of rfl rfl rfl rfl)) rfl (da_cons (de_var (pv 0)) (da_cons de_int da_nil))) de_int (nomark _)) (de_var (pv 2)) (de_callTy dcl_tuple (by rfl) T.n_tuple (by decide +kernel) (da_cons (de_var (pv 2)) da_nil)))))) dss_nil)
      (dss_one (ds_ret [] (de_var (pv 1))))), ?c, fun ds vs XQ Q hd hv h => ?_⟩
    · show _ ≤ BIG * costL k + 10
      simp only [BIG]
      omega
    obtain ⟨x, rfl, hx, hd, q⟩ := h
    match vs, hv with
    | [v, v2], _ =>
    try simp only [frz, params, setAll, List.zipWith, List.length_cons, List.length_nil, Nat.reduceAdd, Nat.reduceSub, List.replicate, List.append_nil, List.cons_append, List.nil_append, getV_va, Pt.sl, true_and, List.getElem?_cons_zero, List.getElem?_cons_succ, List.set_cons_zero, List.set_cons_succ, ite_self, Bool.false_eq_true, if_false, if_true]
    have gt := good_ty hx
    refine ⟨gt, ?_⟩
    rw [isa_seq hx, bl_of]
    cases e : x.seq with
    | none =>
      rw [if_neg (by simp)]
      exact q x _ (.same e)
    | some xs =>
      rw [if_pos (by simp), items_seq (by exact e)]
      obtain ⟨hgx, hgl⟩ := good_seq hx e
      rw [seq_rnk e] at hd
      refine ⟨by rw [List.length_map]; show _ ≤ 16777216; omega, ?_⟩
      refine lc_rel0 (fun x d => Loose x.d d) (fun y hy K1 K0 kk => ?_) fun ys m hp => ?_
      · try simp only [lcStep, true_and, wipeR, List.map_cons, List.map_nil, List.set_cons_succ, List.set_cons_zero, List.getElem?_cons_succ, List.getElem?_cons_zero, getV_va, if_true]
        obtain ⟨z, hz, rfl⟩ := List.mem_map.mp hy
        exact gCall_of fun _ => ⟨z, rfl, hgx z hz, rnkL_mem (by omega) z hz, fun y n r => kk _ _ _ r⟩
      · have hp' : LooseL xs ys := by
          clear hgx hgl hd q e
          generalize Dv.fr ⟨x, x.imm, some v2⟩ = fl at hp
          induction xs generalizing ys with
          | nil => cases hp; exact .nil
          | cons a xs ih =>
            cases hp with
            | cons r t => exact .cons r (ih _ t)
        obtain ⟨o1, o2⟩ := Loose.of_seq e hp'
        refine gCall_of fun _ => ⟨2, rfl, by decide, by decide, fun j j0 j1 => ?_⟩
        dsimp only
        rw [gEq_int, bl_of]
        by_cases hj : j = 0
        · rw [if_pos (by simp [hj])]
          exact q _ _ o1
        · rw [if_neg (by simp [hj])]
          exact g1_tup (l := ys) rfl (q _ _ o2)

end
/-- a plan as the law has it -/
def PV.d (p : PV) : D := .tup [.str p.office, .lst (p.roads.map roadD), .lst (p.riders.map rowD), .lst (p.letters.map rowD)]
theorem PV.seq (p : PV) : p.d.seq = some [.str p.office, .lst (p.roads.map roadD), .lst (p.riders.map rowD), .lst (p.letters.map rowD)] := rfl
theorem PV.at2 (p : PV) : atI [D.str p.office, .lst (p.roads.map roadD), .lst (p.riders.map rowD), .lst (p.letters.map rowD)] 2 = some (.lst (p.riders.map rowD)) := rfl
theorem PV.at3 (p : PV) : atI [D.str p.office, .lst (p.roads.map roadD), .lst (p.riders.map rowD), .lst (p.letters.map rowD)] 3 = some (.lst (p.letters.map rowD)) := rfl

end My

set_option Elab.async false
set_option linter.all false
set_option maxRecDepth 100000
set_option maxHeartbeats 4000000
set_option pp.maxSteps 6000
namespace My
open PySem PySem.Spec PyProof.Rows L2 DL
section
variable {P : Program} {w : World} {K : PySem.W.Frag} {mg : Str → Option Value} {base : Heap}
/-- the draw, by its stream -/
theorem okS__law_draw (T : Txt K mg) : FnOk P w K mg base (L2.CX P w) 1 T.f__law_draw.f T.f__law_draw.fd ["stream", "many"] spDrawV := by
  refine T.f__law_draw.ok.ok sc__law_draw (fun vs H Q E h => by obtain ⟨_, _, _, _, rfl, _⟩ := h; rfl) (fun cdv A outer s H vs Q E hr h => ?_)
  obtain ⟨a, b, m, t, rfl, hne, hS, ok, hnB, hm0, hm1, q⟩ := h
  refine ⟨_, pss_cons (ps_asg (pe_op op_add (pe_ix ix_list (pv 0) pe_int (fun _ _ => rfl)) pe_int) (pg_sub (pv 0) pe_int set_list))
    (pss_cons (ps_while (passes_of rfl) (PW.pt (pw_and (pt_cmpR op_eq (pe_ix ix_list (pv 0) pe_int (fun _ _ => rfl)) pe_int (nomark _)) (pw_and1 (pt_cmpR (op_neD hr.units) (pe_ix ix_list (pv 0) pe_int (fun _ _ => rfl)) (pe_lst pa_nil) (nomark _)))))
      (pss_cons (ps_set (i := 2) sc__law_draw.nd rfl (Or.inl rfl) (pe_callB call_abs rfl T.n_abs (by decide +kernel) (pa_cons (pe_bm PySem.F.plainAttrs_list PySem.F.slot_list_pop PySem.F.type_list_pop mt_popAt (pe_ix ix_list (pv 0) pe_int (fun _ _ => rfl)) (pa_cons pe_int pa_nil)) pa_nil)))
      (pss_cons (ps_asg (pe_op op_mod (pe_callTy call_int1 rfl T.n_int (by decide +kernel) (pa_cons (pe_op op_add (pe_op op_add (pe_op op_mul (pe_ix ix_list (pv 0) pe_int (fun _ _ => rfl)) pe_int) (pv 2)) pe_int) pa_nil)) pe_int) (pg_sub (pv 0) pe_int set_list))
      (pss_one (ps_asg (pe_ifExp (pt_cmpR op_ge (pv 2) (pe_op op_pow pe_int pe_int) (nomark _)) (pv 2) pe_int) (pg_sub (pv 0) pe_int set_list))))))
    (pss_cons (ps_if (pt_cmpR op_gt (pe_ix ix_list (pv 0) pe_int (fun _ _ => rfl)) pe_int (nomark _))
      (pss_cons (ps_set (i := 3) sc__law_draw.nd rfl (Or.inl rfl) (pe_op op_mod (pe_callTy call_int1 rfl T.n_int (by decide +kernel) (pa_cons (pe_ix ix_list (pv 0) pe_int (fun _ _ => rfl)) pa_nil)) (pv 1)))
      (pss_cons (ps_asg (pe_op op_fdiv (pe_ix ix_list (pv 0) pe_int (fun _ _ => rfl)) (pv 1)) (pg_sub (pv 0) pe_int set_list))
      (pss_one (ps_ret (pv 3))))) pss_nil)
    (pss_cons (ps_set (i := 4) sc__law_draw.nd rfl (Or.inl rfl) (pe_op op_mod (pe_callTy call_int1 rfl T.n_int (by decide +kernel) (pa_cons (pe_op op_powW (pe_op op_add (pe_op op_add (pe_ix ix_list (pv 0) pe_int (fun _ _ => rfl)) (pe_op op_mul pe_int (pe_ix ix_list (pv 0) pe_int (fun _ _ => rfl)))) pe_int) pe_int) pa_nil)) pe_int))
    (pss_one (ps_ret (pe_op op_mod (pe_op op_mod (pe_callTy call_int1 rfl T.n_int (by decide +kernel) (pa_cons (pe_op op_powW (pe_op op_add (pe_op op_add (pe_op op_mul (pv 4) pe_int) (pe_op op_mul pe_int (pe_ix ix_list (pv 0) pe_int (fun _ _ => rfl)))) pe_int) pe_int) pa_nil)) pe_int) (pv 1))))))), ?_⟩
  exact drawV_reads hne hS ok hnB hm0 hm1 q
theorem okS__law_pick (T : Txt K mg) : FnOk P w K mg base (L2.CX P w) 2 T.f__law_pick.f T.f__law_pick.fd ["stream", "things"] spPickV := by
  refine T.f__law_pick.ok.ok sc__law_pick (fun vs H Q E h => by obtain ⟨_, _, _, _, rfl, _⟩ := h; rfl) (fun cdv A outer s H vs Q E hr h => ?_)
  obtain ⟨a, b, z, t, rfl, hne, hS, ok, hnB, hm0, hm1, q⟩ := h
  refine ⟨_, pss_one (ps_ret (pe_ix ix_str (pv 1) (pe_call ((okS__law_draw T).mono (by decide)) hr (by rfl) T.f__law_draw.g T.f__law_draw.ok.kp T.f__law_draw.b .nil (passE (takes_of rfl rfl rfl rfl)) (pa_cons (pv 0) (pa_cons (pe_callB call_len (by rfl) T.n_len (by decide +kernel) (pa_cons (pv 1) pa_nil)) pa_nil))) (fun _ _ => rfl))), ?_⟩
  have hz : z.length ≤ sizeLine := le_line (by unfold BIG; clear hnB; omega)
  have hm0' : (0 : Int) < z.length := Int.ofNat_lt.mpr hm0
  have hm1' : (z.length : Int) < 1073741824 := by clear hnB; omega
  refine ⟨_, rfl, _, rfl, _, rfl, _, z.length, rfl, ⟨hz, rfl⟩, a, b, _, t, rfl, hne, hS, ok, hnB, hm0', hm1', fun H' hS' ok' off h0 h1 => ?_⟩
  have hl : (digS z.length t).toNat < z.cps.toList.length := by rw [← len_cps]; clear hnB; omega
  refine ⟨_, _, z.cps.toList[(digS z.length t).toNat], rfl, rfl, hz, ?_, q H' _ hS' ok' off h0 h1 ?_⟩ <;>
  · unfold atI ixN
    rw [if_pos h0, if_pos (by rw [← len_cps]; exact h1)]
    exact List.getElem?_eq_getElem hl
theorem abc_eq : abc = "abcdefghijklmnopqrstuvwxyz" := rfl
def cS__law_pick : DC := fun ds _ _ Q => ∃ z : Str, ds = [.strm, .str z] ∧ 0 < z.length ∧ z.length ≤ 1000 ∧ ∀ c ∈ z.cps.toList, Q ⟨.str ⟨#[c]⟩, true, none⟩
theorem okD__law_pick (T : Txt K mg) : FnD P w K mg base 2 T.f__law_pick.f T.f__law_pick.fd ["stream", "things"] 1 cS__law_pick := by
  refine fn_ok T.f__law_pick.ok sc__law_pick fun cdv A outer s H E hr => ⟨_, _, (dss_one (ds_ret [] (de_ix (de_var (pv 1)) (de_call ((ok__law_draw T).mono (by decide)) hr (by rfl) T.f__law_draw.g T.f__law_draw.ok.kp T.f__law_draw.b (passE (takes_of rfl rfl rfl rfl)) rfl (da_cons (de_var (pv 0)) (da_cons (de_callB dcl_len (by rfl) T.n_len (by decide +kernel) (da_cons (de_var (pv 1)) da_nil)) da_nil))) (fun _ _ => rfl)))), by decide +kernel, fun ds vs XQ Q hd hv h => ?_⟩
  obtain ⟨z, rfl, hz, hl, q⟩ := h
  match vs, hv with
  | [v, v2], _ =>
  try simp only [frz, params, setAll, List.zipWith, List.length_cons, List.length_nil, Nat.reduceAdd, Nat.reduceSub, List.replicate, List.append_nil, List.cons_append, List.nil_append, getV_va, Pt.sl, true_and, List.getElem?_cons_zero, List.getElem?_cons_succ, List.set_cons_zero, List.set_cons_succ, ite_self, Bool.false_eq_true, if_false, if_true]
  refine ⟨by show _ ≤ 16777216; omega, ?_⟩
  refine gCall_of fun _ => ⟨_, rfl, by omega, by omega, fun k h0 h1 => ?_⟩
  have hn : k.toNat < z.cps.toList.length := by rw [← len_cps]; omega
  refine ⟨by show _ ≤ 16777216; omega, z.cps.toList[k.toNat], ?_, q _ (List.getElem_mem hn)⟩
  unfold atI ixN
  rw [if_pos h0, if_pos (by rw [← len_cps]; exact h1)]
  exact List.getElem?_eq_getElem hn

theorem sc__law_names : FnScope ["stream", "many", "k", "found", "signs", "name", "one"] ["stream", "many"] (defScope s__law_names) := ⟨rfl, rfl, rfl, by decide +kernel, rfl, by decide +kernel, by decide +kernel⟩
def c__law_names : DC := fun ds _ _ Q => ∃ m : Int, ds = [.strm, .int m] ∧ 0 ≤ m ∧ m ≤ 9 ∧ ∀ names : List Str, (names.length : Int) = m → names.Nodup → (∀ x ∈ names, NmOk x) → ∀ f, Q ⟨.lst (names.map .str), f, none⟩
theorem ok__law_names (T : Txt K mg) : FnD P w K mg base 3 T.f__law_names.f T.f__law_names.fd ["stream", "many"] (BIG * (MAXT + 2 * BIG)) c__law_names := by
  refine fn_ok T.f__law_names.ok sc__law_names fun cdv A outer s H E hr => ⟨_, _, (dss_cons (ds_parT (is := [3, 4]) [] (dps_cons (dp_ow (dn_lst da_nil)) (dps_cons (dp_va de_str) dps_nil)) rfl (NmsOk.cons (pg_name (i := 3) sc__law_names.nd rfl (Or.inl rfl)) (NmsOk.cons (pg_name (i := 4) sc__law_names.nd rfl (Or.inr rfl)) NmsOk.nil (by rfl)) (by rfl)) (by rfl) (by rfl) (by rfl) (fun _ _ a b => ps_asg a b))
      (dss_cons (ds_for [] (passes_of rfl) rfl (di_range1 (by rfl) T.n_range (da_cons (de_var (pv 1)) da_nil)) (dg_name (pg_name (i := 2) sc__law_names.nd rfl (Or.inl rfl)))
      (dss_cons (ds_asg [] (de_join de_str (DN.de (dn_lc (own := [("one", 6)]) rfl sc__law_names.nd (di_range1 (by rfl) T.n_range (da_cons (de_op dop_add de_int (de_call ((ok__law_draw T).mono (by decide)) hr (by rfl) T.f__law_draw.g T.f__law_draw.ok.kp T.f__law_draw.b (passE (takes_of rfl rfl rfl rfl)) rfl (da_cons (de_var (pv 0)) (da_cons (de_call ((ok__law_pick T).mono (by decide)) hr (by rfl) T.f__law_pick.g T.f__law_pick.ok.kp T.f__law_pick.b (passE (takes_of rfl rfl rfl rfl)) rfl (da_cons (de_var (pv 0)) (da_cons (de_lst (da_cons de_int (da_cons de_int (da_cons de_int da_nil)))) da_nil))) da_nil)))) da_nil)) (blkOk_by (N := ["stream", "many", "k", "found", "signs", "name", "one"]) (sc := defScope s__law_names) (by decide +kernel)) (fun _ _ _ _ _ => (dg_name (pg_name (i := 6) sc__law_names.nd rfl (Or.inl rfl)))) (fun _ _ _ _ _ => dts_nil) (fun _ _ _ _ _ => (de_call ((okD__law_pick T).mono (by decide)) hr (by rfl) T.f__law_pick.g T.f__law_pick.ok.kp T.f__law_pick.b passL rfl (da_cons (de_var (pv 0)) (da_cons (de_var (pv 4)) da_nil)))) (by decide)))) (dg_name (pg_name (i := 5) sc__law_names.nd rfl (Or.inl rfl))) (fun _ _ a b => ps_asg a b))
      (dss_cons (ds_names (i := 0) (j := 4) (k := 5) (g := 3) (passes_of rfl) (pt_cmpR op_in_seq (pv 5) (pv 3) (by rfl)) (ps_asg (pe_slice sl_str (pe_op op_add_str (pv 5) (pe_call ((okS__law_pick T).mono (by decide)) hr (by rfl) T.f__law_pick.g T.f__law_pick.ok.kp T.f__law_pick.b .nil (passE (takes_of rfl rfl rfl rfl)) (pa_cons (pv 0) (pa_cons (pv 4) pa_nil)))) (po_some (pe_un un_neg pe_int)) po_none) (pg_name (i := 5) sc__law_names.nd rfl (Or.inl rfl))))
      (dss_one (ds_append [] (de_var (pv 5)) (fun _ a => ps_expr (pe_bm PySem.F.plainAttrs_list PySem.F.slot_list_append PySem.F.type_list_append mt_append (pv 3) (pa_cons a pa_nil))))))))
      (dss_one (ds_ret [3] (de_var (pv 3)))))), by decide +kernel, fun ds vs XQ Q hd hv h => ?_⟩
  obtain ⟨m, rfl, h0, h9, q⟩ := h
  match vs, hv with
  | [v, v2], _ =>
  try simp only [frz, params, setAll, List.zipWith, List.length_cons, List.length_nil, Nat.reduceAdd, Nat.reduceSub, List.replicate, List.append_nil, List.cons_append, List.nil_append, getV_va, Pt.sl, true_and, List.getElem?_cons_zero, List.getElem?_cons_succ, List.set_cons_zero, List.set_cons_succ, ite_self, Bool.false_eq_true, if_false, if_true]
  have n0 : (0 : Int) < 2 ^ 62 := by decide
  refine ⟨by decide, by decide, by omega, by omega, .inr (by rw [rgD_len]; unfold BIG; omega), ?_⟩
  refine for_idx (fun i ρ => ∃ f s1 s2 s3, ∃ names : List Str, ρ = [Sl.va ⟨.strm, D.strm.imm, some v⟩, .va ⟨.int m, (D.int m).imm, some v2⟩, s1, .ow (.lst (names.map .str)) f, .va ⟨.str abc, true, some (.str abc)⟩, s2, s3] ∧ names.length = i ∧ names.Nodup ∧ ∀ x ∈ names, NmOk x) _ 0 _ ⟨_, _, _, _, [], rfl, rfl, by simp, fun x h => (nomatch h)⟩ (fun i x hx ρ hI K kk => ?_) fun ρ hI => ?_
  · obtain ⟨f, s1, s2, s3, names, rfl, hl, hnd, hok⟩ := hI
    obtain ⟨hi, rfl⟩ := rgD_get hx
    rw [Nat.zero_add] at hl kk
    try simp only [frz, params, setAll, List.zipWith, List.length_cons, List.length_nil, Nat.reduceAdd, Nat.reduceSub, List.replicate, List.append_nil, List.cons_append, List.nil_append, getV_va, Pt.sl, true_and, List.getElem?_cons_zero, List.getElem?_cons_succ, List.set_cons_zero, List.set_cons_succ, ite_self, Bool.false_eq_true, if_false, if_true]
    refine ⟨_, rfl, by decide, ?_⟩
    refine gCall_of fun _ => ⟨_, _, rfl, rfl, by simp, by simp, fun y hy n => ?_⟩
    have hz : ∃ z : Int, y = .int z ∧ 0 < z ∧ z ≤ 3 := by
      simp only [List.map_cons, List.map_nil, List.mem_cons, List.not_mem_nil, or_false] at hy
      rcases hy with rfl | rfl | rfl
      · exact ⟨1, rfl, by decide, by decide⟩
      · exact ⟨1, rfl, by decide, by decide⟩
      · exact ⟨3, rfl, by decide, by decide⟩
    obtain ⟨z, rfl, z0, z3⟩ := hz
    dsimp only
    refine gCall_of fun _ => ⟨_, rfl, z0, by omega, fun k k0 k1 => ?_⟩
    dsimp only
    rw [gAdd_int]
    refine ⟨by omega, by omega, by rw [rgD_len]; unfold BIG; omega, ?_⟩
    refine lc_rel0 (fun _ d => ∃ z, d = D.str z ∧ Sign z) (fun y hy K1 K0 k1 => ?_) fun ys n2 hp => ?_
    · try simp only [lcStep, true_and, wipeR, List.map_cons, List.map_nil, List.set_cons_succ, List.set_cons_zero, List.getElem?_cons_succ, List.getElem?_cons_zero, getV_va, if_true]
      refine gCall_of fun _ => ⟨abc, rfl, by rw [abc_len]; decide, by rw [abc_len]; decide, fun c hc => ?_⟩
      exact k1 _ _ _ ⟨_, rfl, c, rfl, abc_mem c hc⟩
    obtain ⟨zs, rfl, hzl, hzs⟩ := signs_of hp
    rw [rgD_len] at hzl
    have hnm : NmOk (Txt.join "" zs) := joined_nm hzs (by omega) (by omega)
    refine ⟨zs, rfl, ?_, ?_⟩
    · rw [signs_sum hzs]
      show zs.length + zs.length * 0 ≤ 16777216
      omega
    refine ⟨names, f, _, _, _, _, rfl, rfl, rfl, rfl, rfl, rfl, rfl, by omega, by decide, by decide, by decide, hnm, fun nm' hn1 hn2 => ?_⟩
    try simp only [frz, params, setAll, List.zipWith, List.length_cons, List.length_nil, Nat.reduceAdd, Nat.reduceSub, List.replicate, List.append_nil, List.cons_append, List.nil_append, getV_va, Pt.sl, true_and, List.getElem?_cons_zero, List.getElem?_cons_succ, List.set_cons_zero, List.set_cons_succ, ite_self, Bool.false_eq_true, if_false, if_true]
    refine ⟨⟨_, _, rfl⟩, ?_⟩
    refine ⟨_, _, rfl, by rw [List.length_map]; unfold BIG; omega, kk _ ⟨_, _, _, _, names ++ [nm'], (by rw [List.map_append]; exact rfl), by rw [List.length_append, hl]; rfl, ?_, fun x hx => ?_⟩⟩
    · rw [List.nodup_append]
      exact ⟨hnd, by simp, fun a ha b hb e => hn2 (by rw [List.mem_singleton] at hb; rw [← hb, ← e]; exact ha)⟩
    · rcases List.mem_append.mp hx with hx | hx
      · exact hok x hx
      · rw [List.mem_singleton] at hx; rw [hx]; exact hn1
  · obtain ⟨f, s1, s2, s3, names, rfl, hl, hnd, hok⟩ := hI
    rw [rgD_len, Nat.zero_add] at hl
    try simp only [frz, params, setAll, List.zipWith, List.length_cons, List.length_nil, Nat.reduceAdd, Nat.reduceSub, List.replicate, List.append_nil, List.cons_append, List.nil_append, getV_va, Pt.sl, true_and, List.getElem?_cons_zero, List.getElem?_cons_succ, List.set_cons_zero, List.set_cons_succ, ite_self, Bool.false_eq_true, if_false, if_true]
    exact q names (by omega) hnd hok f

end
theorem gDraw {ρ : Ro} {XQ : XQT} {Q : Dv → Prop} {m : Int} {n n2 : Bool} {v v2 : Option V} (h0 : 0 < m) (h1 : m < 1073741824) (h : ∀ k : Int, 0 ≤ k → k < m → Q ⟨.int k, true, none⟩) : gCall cDraw ρ XQ [⟨.strm, n, v⟩, ⟨.int m, n2, v2⟩] Q :=
  gCall_of fun _ => ⟨m, rfl, h0, h1, h⟩
theorem gPickI (zs : List Int) {ρ : Ro} {XQ : XQT} {Q : Dv → Prop} {n n2 : Bool} {v v2 : Option V} (h0 : zs ≠ []) (h1 : zs.length ≤ 1000) (h : ∀ z ∈ zs, ∀ f, Q ⟨.int z, f, none⟩) : gCall c__law_pick ρ XQ [⟨.strm, n, v⟩, ⟨.lst (zs.map D.int), n2, v2⟩] Q :=
  gCall_of fun _ => ⟨_, _, rfl, rfl, by simpa using h0, by rw [List.length_map]; omega, fun x hx f => by
    obtain ⟨z, hz, rfl⟩ := List.mem_map.mp hx
    exact h z hz f⟩
theorem gPickS (zs : List Str) {ρ : Ro} {XQ : XQT} {Q : Dv → Prop} {n n2 : Bool} {v v2 : Option V} (h0 : zs ≠ []) (h1 : zs.length ≤ 1000) (h : ∀ z ∈ zs, ∀ f, Q ⟨.str z, f, none⟩) : gCall c__law_pick ρ XQ [⟨.strm, n, v⟩, ⟨.lst (zs.map D.str), n2, v2⟩] Q :=
  gCall_of fun _ => ⟨_, _, rfl, rfl, by simpa using h0, by rw [List.length_map]; omega, fun x hx f => by
    obtain ⟨z, hz, rfl⟩ := List.mem_map.mp hx
    exact h z hz f⟩
theorem atI_nat' {α : Type} {xs : List α} {i : Nat} {x : α} (h : xs[i]? = some x) : atI xs (i : Int) = some x := by
  have hl := (List.getElem?_eq_some_iff.mp h).1
  unfold atI ixN
  rw [if_pos (by omega), if_pos (by omega)]
  exact h
theorem atI_map' {α β : Type} (f : α → β) {xs : List α} {i : Int} : atI (xs.map f) i = (atI xs i).map f := by
  unfold atI
  rw [List.length_map]
  cases ixN xs.length i with
  | none => rfl
  | some j => exact List.getElem?_map
theorem cutL_hi {α : Type} {xs : List α} {k : Nat} : cutL xs none (some (k : Int)) = xs.take k := by
  unfold cutL
  simp only [HT.sIx]
  rw [if_neg (by omega), Int.toNat_natCast, Nat.sub_zero, List.drop_zero]
  by_cases h : k ≤ xs.length
  · rw [Nat.min_eq_left h]
  · rw [Nat.min_eq_right (by omega), List.take_of_length_le (Nat.le_refl _), List.take_of_length_le (by omega)]
theorem cutL_lo {α : Type} {xs : List α} {k : Nat} : cutL xs (some (k : Int)) none = xs.drop k := by
  unfold cutL
  simp only [HT.sIx]
  rw [if_neg (by omega), Int.toNat_natCast]
  by_cases h : k ≤ xs.length
  · rw [Nat.min_eq_left h]
    exact List.take_of_length_le (by rw [List.length_drop]; exact Nat.le_refl _)
  · rw [Nat.min_eq_right (by omega), List.drop_of_length_le (Nat.le_refl _), List.drop_of_length_le (by omega)]
    exact List.take_nil
theorem gIxL {α : Type} (g : α → D) {xs : List α} {j : Nat} {n n2 : Bool} {v v2 : Option V} {x : α} {Q : Dv → Prop} (h : xs[j]? = some x) (q : ∀ f, Q ⟨g x, f, none⟩) : gIx ⟨.lst (xs.map g), n, v⟩ ⟨.int (j : Nat), n2, v2⟩ Q :=
  ⟨_, by rw [atI_map', atI_nat' h]; rfl, q _⟩
theorem gSlL {α : Type} (g : α → D) {xs : List α} {lo hi : Option Int} {n : Bool} {v : Option V} {Q : Dv → Prop} (q : ∀ f, Q ⟨.lst ((cutL xs lo hi).map g), f, none⟩) : gSl ⟨.lst (xs.map g), n, v⟩ lo hi Q := by
  show Q ⟨.lst (cutL (xs.map g) lo hi), _, none⟩
  rw [cut_map]
  exact q _
theorem mem_take_last {α : Type} {xs : List α} {i : Nat} (h : i < xs.length) : xs[i] ∈ xs.take (i + 1) := by
  rw [List.mem_take_iff_getElem]
  exact ⟨i, by omega, rfl⟩
abbrev Road : Type := Str × Str × Int
/-- roads told in an order that grows from what is known -/
def RoadsOk : List Str → List Road → Prop
  | _, [] => True
  | known, r :: rs => NmOk r.1 ∧ r.1 ∉ known ∧ r.2.1 ∈ known ∧ 1 ≤ r.2.2 ∧ r.2.2 ≤ 9 ∧ RoadsOk (known ++ [r.1]) rs
structure TreeOk (office : Str) (roads : List Road) : Prop where
  o : NmOk office
  r : RoadsOk [office] roads
  ne : roads ≠ []
  l : roads.length ≤ 8
theorem RoadsOk.snoc {r : Road} : ∀ {known : List Str} {rs : List Road}, RoadsOk known rs → NmOk r.1 → r.1 ∉ known → (∀ x ∈ rs, x.1 ≠ r.1) → (r.2.1 ∈ known ∨ ∃ x ∈ rs, x.1 = r.2.1) → 1 ≤ r.2.2 → r.2.2 ≤ 9 → RoadsOk known (rs ++ [r])
  | known, [], _, h1, h2, _, h4, h5, h6 => ⟨h1, h2, h4.elim id fun ⟨x, h, _⟩ => (nomatch h), h5, h6, trivial⟩
  | known, x :: rs, ⟨g1, g2, g3, g4, g5, g6⟩, h1, h2, h3, h4, h5, h6 => by
    refine ⟨g1, g2, g3, g4, g5, g6.snoc h1 (fun h => ?_) (fun y hy => h3 y (List.mem_cons_of_mem _ hy)) ?_ h5 h6⟩
    · rcases List.mem_append.mp h with h | h
      · exact h2 h
      · rw [List.mem_singleton] at h
        exact h3 x List.mem_cons_self h.symm
    · rcases h4 with h4 | ⟨y, hy, e⟩
      · exact .inl (List.mem_append_left _ h4)
      · rcases List.mem_cons.mp hy with rfl | hy
        · exact .inl (List.mem_append_right _ (by rw [e]; simp))
        · exact .inr ⟨y, hy, e⟩
section
variable {P : Program} {w : World} {K : PySem.W.Frag} {mg : Str → Option Value} {base : Heap}
theorem sc__law_tree : FnScope ["stream", "posts", "names", "roads", "way", "at", "post", "other"] ["stream", "posts"] (defScope s__law_tree) := ⟨rfl, rfl, rfl, by decide +kernel, rfl, by decide +kernel, by decide +kernel⟩
def c__law_tree : DC := fun ds _ _ Q => ∃ m : Int, ds = [.strm, .int m] ∧ 1 ≤ m ∧ m ≤ 7 ∧ ∀ office roads, TreeOk office roads → ∀ f, Q ⟨.tup [.str office, .lst (roads.map roadD)], f, none⟩
theorem ok__law_tree (T : Txt K mg) : FnD P w K mg base 4 T.f__law_tree.f T.f__law_tree.fd ["stream", "posts"] (BIG * (MAXT + 4 * BIG)) c__law_tree := by
  refine fn_ok T.f__law_tree.ok sc__law_tree fun cdv A outer s H E hr => ⟨_, _, (dss_cons (ds_asg [] (de_call ((ok__law_names T).mono (by decide)) hr (by rfl) T.f__law_names.g T.f__law_names.ok.kp T.f__law_names.b (passE (takes_of rfl rfl rfl rfl)) rfl (da_cons (de_var (pv 0)) (da_cons (de_op dop_add de_int (de_call ((ok__law_draw T).mono (by decide)) hr (by rfl) T.f__law_draw.g T.f__law_draw.ok.kp T.f__law_draw.b (passE (takes_of rfl rfl rfl rfl)) rfl (da_cons (de_var (pv 0)) (da_cons (de_var (pv 1)) da_nil)))) da_nil))) (dg_name (pg_name (i := 2) sc__law_tree.nd rfl (Or.inl rfl))) (fun _ _ a b => ps_asg a b))
      (dss_cons (ds_par2 (i := 3) (j := 4) [] (dp_ow (dn_lst da_nil)) (dp_va (de_call ((ok__law_draw T).mono (by decide)) hr (by rfl) T.f__law_draw.g T.f__law_draw.ok.kp T.f__law_draw.b (passE (takes_of rfl rfl rfl rfl)) rfl (da_cons (de_var (pv 0)) (da_cons de_int da_nil)))) rfl sc__law_tree.nd rfl rfl (by decide) (by rfl) (by rfl) (by rfl))
      (dss_cons (ds_for [] (passes_of rfl) rfl (di_enum (by rfl) T.n_enumerate (da_cons (de_slice (de_var (pv 2)) (do_some de_int) do_none) da_nil)) (dg_tup (n := 2) rfl (dgs_cons (dg_name (pg_name (i := 5) sc__law_tree.nd rfl (Or.inl rfl))) (dgs_cons (dg_name (pg_name (i := 6) sc__law_tree.nd rfl (Or.inl rfl))) dgs_nil)))
      (dss_cons (ds_asg [] (de_imp (g := fun ρ XQ Q => ∃ (names : List Str) (i : Nat) (way : Int) (f : Bool) (n0 n4 n5 : Bool) (v0 v2 v4 v5 : Option V), ρ[0]? = some (.va ⟨.strm, n0, v0⟩) ∧ ρ[2]? = some (.va ⟨.lst (names.map .str), f, v2⟩) ∧ ρ[4]? = some (.va ⟨.int way, n4, v4⟩) ∧ ρ[5]? = some (.va ⟨.int (i : Nat), n5, v5⟩) ∧ i < names.length ∧ names.length ≤ 1000 ∧ ∀ o ∈ names.take (i + 1), ∀ f, Q ⟨.str o, f, none⟩) (de_if (dt_cmp (dop_eq hr.units) (de_var (pv 4)) de_int (nomark _)) (de_ix (de_var (pv 2)) (de_var (pv 5)) (fun _ _ => rfl)) (de_if (dt_cmp (dop_eq hr.units) (de_var (pv 4)) de_int (nomark _)) (de_ix (de_var (pv 2)) de_int (fun _ _ => rfl)) (de_call ((ok__law_pick T).mono (by decide)) hr (by rfl) T.f__law_pick.g T.f__law_pick.ok.kp T.f__law_pick.b (passE (takes_of rfl rfl rfl rfl)) rfl (da_cons (de_var (pv 0)) (da_cons (de_slice (de_var (pv 2)) do_none (do_some (de_op dop_add (de_var (pv 5)) de_int))) da_nil))))) (fun ρ XQ Q h => by
    obtain ⟨names, i, way, f, n0, n4, n5, v0, v2, v4, v5, h0, h2, h4, h5, hi, hl, q⟩ := h
    simp only [h0, h2, h4, h5, getV_va]
    rw [gEq_int, bl_of]
    by_cases hw : way = 0
    · refine ite_t (by simpa using hw) ?_
      exact gIxL D.str (List.getElem?_eq_getElem hi) fun f => q _ (mem_take_last hi) f
    · refine ite_f (by simpa using hw) ?_
      rw [gEq_int, bl_of]
      by_cases hw2 : way = 1
      · refine ite_t (by simpa using hw2) ?_
        have h0' : 0 < names.length := by omega
        exact gIxL D.str (j := 0) (List.getElem?_eq_getElem h0') fun f => q _ (List.mem_take_iff_getElem.mpr ⟨0, by omega, rfl⟩) f
      · refine ite_f (by simpa using hw2) ?_
        rw [gAdd_int]
        refine ⟨_, rfl, gSlL D.str fun f2 => ⟨rfl, ?_⟩⟩
        have e : (i : Int) + 1 = ((i + 1 : Nat) : Int) := by omega
        rw [e, cutL_hi]
        refine gPickS _ (fun z => ?_) (by rw [List.length_take]; omega) q
        have := congrArg List.length z
        rw [List.length_take, List.length_nil] at this
        omega)) (dg_name (pg_name (i := 7) sc__law_tree.nd rfl (Or.inl rfl))) (fun _ _ a b => ps_asg a b))
      (dss_one (ds_append [] (de_tup (da_cons (de_var (pv 6)) (da_cons (de_var (pv 7)) (da_cons (de_op dop_add de_int (de_call ((ok__law_draw T).mono (by decide)) hr (by rfl) T.f__law_draw.g T.f__law_draw.ok.kp T.f__law_draw.b (passE (takes_of rfl rfl rfl rfl)) rfl (da_cons (de_var (pv 0)) (da_cons (de_call ((ok__law_pick T).mono (by decide)) hr (by rfl) T.f__law_pick.g T.f__law_pick.ok.kp T.f__law_pick.b (passE (takes_of rfl rfl rfl rfl)) rfl (da_cons (de_var (pv 0)) (da_cons (de_lst (da_cons de_int (da_cons de_int (da_cons de_int da_nil)))) da_nil))) da_nil)))) da_nil)))) (fun _ a => ps_expr (pe_bm PySem.F.plainAttrs_list PySem.F.slot_list_append PySem.F.type_list_append mt_append (pv 3) (pa_cons a pa_nil)))))))
      (dss_one (ds_ret [3] (de_tup (da_cons (de_ix (de_var (pv 2)) de_int (fun _ _ => rfl)) (da_cons (de_var (pv 3)) da_nil)))))))), by decide +kernel, fun ds vs XQ Q hd hv h => ?_⟩
  obtain ⟨m, rfl, h0, h9, q⟩ := h
  match vs, hv with
  | [v, v2], _ =>
  try simp only [frz, params, setAll, List.zipWith, List.length_cons, List.length_nil, Nat.reduceAdd, Nat.reduceSub, List.replicate, List.append_nil, List.cons_append, List.nil_append, getV_va, Pt.sl, true_and, List.getElem?_cons_zero, List.getElem?_cons_succ, List.set_cons_zero, List.set_cons_succ, ite_self, Bool.false_eq_true, if_false, if_true]
  refine gDraw (by omega) (by omega) fun k k0 k1 => ?_
  rw [gAdd_int]
  refine gCall_of fun _ => ⟨_, rfl, by omega, by omega, fun names hl hnd hok f => ?_⟩
  try simp only [frz, params, setAll, List.zipWith, List.length_cons, List.length_nil, Nat.reduceAdd, Nat.reduceSub, List.replicate, List.append_nil, List.cons_append, List.nil_append, getV_va, Pt.sl, true_and, List.getElem?_cons_zero, List.getElem?_cons_succ, List.set_cons_zero, List.set_cons_succ, ite_self, Bool.false_eq_true, if_false, if_true]
  obtain ⟨n0, tl, rfl⟩ : ∃ n0 tl, names = n0 :: tl := by
    cases names with
    | nil => simp only [List.length_nil] at hl; omega
    | cons a b => exact ⟨a, b, rfl⟩
  rw [List.length_cons] at hl
  have hnd2 := List.nodup_cons.mp hnd
  refine ⟨by decide, gDraw (by decide) (by decide) fun way w0 w1 => ?_⟩
  refine ⟨1, rfl, gSlL D.str fun f2 => ?_⟩
  dsimp only
  rw [show cutL (n0 :: tl) (some 1) none = tl from (cutL_lo (k := 1)).trans rfl]
  refine ⟨.inr (by rw [enumD_len, List.length_map]; unfold BIG; omega), ?_⟩
  refine for_idx (fun i ρ => ∃ f f3 s5 s6 s7, ∃ rs : List Road, ρ = [Sl.va ⟨.strm, D.strm.imm, some v⟩, .va ⟨.int m, (D.int m).imm, some v2⟩, .va ⟨.lst ((n0 :: tl).map .str), f, none⟩, .ow (.lst (rs.map roadD)) f3, .va ⟨.int way, true, none⟩, s5, s6, s7] ∧ rs.length = i ∧ rs.map (·.1) = tl.take i ∧ RoadsOk [n0] rs) _ 0 _ ⟨_, _, _, _, _, [], rfl, rfl, rfl, trivial⟩ (fun i x hx ρ hI K kk => ?_) fun ρ hI => ?_
  · obtain ⟨f, f3, s5, s6, s7, rs, rfl, hl2, hm2, hr2⟩ := hI
    obtain ⟨d, hd2, rfl⟩ := enumD_get hx
    rw [List.getElem?_map] at hd2
    cases e : tl[i]? with
    | none => rw [e] at hd2; cases hd2
    | some po =>
      rw [e] at hd2
      cases hd2
      have hi := (List.getElem?_eq_some_iff.mp e).1
      rw [Nat.zero_add] at hl2 hm2 kk
      rw [unp_seq (by rfl)]
      refine ⟨rfl, ?_⟩
      simp only [List.map_cons, List.map_nil]
      refine ⟨trivial, ?_⟩
      try simp only [frz, params, setAll, List.zipWith, List.length_cons, List.length_nil, Nat.reduceAdd, Nat.reduceSub, List.replicate, List.append_nil, List.cons_append, List.nil_append, getV_va, Pt.sl, true_and, List.getElem?_cons_zero, List.getElem?_cons_succ, List.set_cons_zero, List.set_cons_succ, ite_self, Bool.false_eq_true, if_false, if_true]
      refine ⟨n0 :: tl, 0 + i, way, f, _, _, _, _, _, _, _, rfl, rfl, rfl, rfl, by rw [List.length_cons]; omega, by rw [List.length_cons]; omega, fun o ho fo => ?_⟩
      rw [Nat.zero_add, List.take_succ_cons] at ho
      try simp only [frz, params, setAll, List.zipWith, List.length_cons, List.length_nil, Nat.reduceAdd, Nat.reduceSub, List.replicate, List.append_nil, List.cons_append, List.nil_append, getV_va, Pt.sl, true_and, List.getElem?_cons_zero, List.getElem?_cons_succ, List.set_cons_zero, List.set_cons_succ, ite_self, Bool.false_eq_true, if_false, if_true]
      refine ⟨⟨_, _, rfl⟩, by decide, gPickI [1, 2, 4] (by decide) (by decide) fun z hz f4 => ?_⟩
      have hz4 : 1 ≤ z ∧ z ≤ 4 := by
        simp only [List.mem_cons, List.not_mem_nil, or_false] at hz
        omega
      refine gDraw (by omega) (by omega) fun h h0 h1 => ?_
      rw [gAdd_int]
      have hpo : po ∈ tl := List.mem_of_getElem? e
      refine ⟨by decide, _, _, rfl, by rw [List.length_map]; unfold BIG; omega, kk _ ⟨_, _, _, _, _, rs ++ [(po, o, 1 + h)], (by rw [List.map_append]; exact rfl), by rw [List.length_append, hl2]; rfl, ?_, hr2.snoc (hok po (List.mem_cons_of_mem _ hpo)) (fun hh => ?_) (fun x hx2 ex => ?_) ?_ (by show (1 : Int) ≤ 1 + h; omega) (by show 1 + h ≤ (9 : Int); omega)⟩⟩
      · rw [List.map_append, hm2, List.take_succ, e]
        rfl
      · rw [List.mem_singleton] at hh
        have hh : po = n0 := hh
        exact hnd2.1 (hh ▸ hpo)
      · have h3 : x.1 ∈ tl.take i := by rw [← hm2]; exact List.mem_map.mpr ⟨x, hx2, rfl⟩
        have ex : x.1 = po := ex
        rw [ex] at h3
        obtain ⟨j, hj, ej⟩ := List.mem_take_iff_getElem.mp h3
        have h4 : tl[i] = po := (List.getElem?_eq_some_iff.mp e).2
        have := (List.getElem_inj hnd2.2).mp (ej.trans h4.symm)
        omega
      · rcases List.mem_cons.mp ho with ho | ho
        · exact .inl (by rw [show (po, o, 1 + h).2.1 = o from rfl, ho]; simp)
        · rw [← hm2] at ho
          obtain ⟨x, hx2, ex⟩ := List.mem_map.mp ho
          exact .inr ⟨x, hx2, ex⟩
  · obtain ⟨f, f3, s5, s6, s7, rs, rfl, hl2, hm2, hr2⟩ := hI
    rw [enumD_len, List.length_map, Nat.zero_add] at hl2
    try simp only [frz, params, setAll, List.zipWith, List.length_cons, List.length_nil, Nat.reduceAdd, Nat.reduceSub, List.replicate, List.append_nil, List.cons_append, List.nil_append, getV_va, Pt.sl, true_and, List.getElem?_cons_zero, List.getElem?_cons_succ, List.set_cons_zero, List.set_cons_succ, ite_self, Bool.false_eq_true, if_false, if_true]
    refine gIxL D.str (j := 0) (xs := n0 :: tl) rfl fun f5 => ⟨by decide, ?_⟩
    exact q n0 rs ⟨hok n0 List.mem_cons_self, hr2, fun z => by rw [z, List.length_nil] at hl2; omega, by omega⟩ _

end
end My

set_option Elab.async false
set_option linter.all false
set_option maxRecDepth 100000
set_option maxHeartbeats 4000000
set_option pp.maxSteps 6000
namespace My
open PySem PySem.Spec PyProof.Rows L2 DL
set_option pp.maxSteps 2500
theorem nm_ok {x : Str} (h : NmOk x) : PyData.strOk x = true := by
  unfold PyData.strOk
  rw [← Array.all_toList, List.all_eq_true]
  exact fun c hc => decide_eq_true (Nat.lt_trans (h.ab c hc).2 (by decide))
theorem RoadsOk.facts : ∀ {rs : List Road} {known : List Str}, RoadsOk known rs → (∀ x ∈ known, NmOk x) → (∀ r ∈ rs, NmOk r.1 ∧ NmOk r.2.1 ∧ 1 ≤ r.2.2 ∧ r.2.2 ≤ 9 ∧ r.1 ∉ known) ∧ (rs.map (·.1)).Nodup
  | [], _, _, _ => ⟨fun r h => (nomatch h), List.nodup_nil⟩
  | r :: rs, known, ⟨h1, h2, h3, h4, h5, h6⟩, hk => by
    obtain ⟨g1, g2⟩ := h6.facts fun x hx => by
      rcases List.mem_append.mp hx with hx | hx
      · exact hk x hx
      · rw [List.mem_singleton] at hx; rw [hx]; exact h1
    refine ⟨fun s hs => ?_, ?_⟩
    · rcases List.mem_cons.mp hs with rfl | hs
      · exact ⟨h1, hk _ h3, h4, h5, h2⟩
      · obtain ⟨k1, k2, k3, k4, k5⟩ := g1 s hs
        exact ⟨k1, k2, k3, k4, fun z => k5 (List.mem_append_left _ z)⟩
    · rw [List.map_cons, List.nodup_cons]
      refine ⟨fun z => ?_, g2⟩
      obtain ⟨s, hs, e⟩ := List.mem_map.mp z
      exact (g1 s hs).2.2.2.2 (List.mem_append_right _ (by rw [e]; simp))
theorem TreeOk.facts {o : Str} {rs : List Road} (h : TreeOk o rs) : (∀ r ∈ rs, NmOk r.1 ∧ NmOk r.2.1 ∧ 1 ≤ r.2.2 ∧ r.2.2 ≤ 9 ∧ r.1 ∉ [o]) ∧ (rs.map (·.1)).Nodup := h.r.facts fun x hx => by rw [List.mem_singleton] at hx; rw [hx]; exact h.o
theorem gMul_int {i j : Int} {n n' : Bool} {v v' : Option V} {Q : Dv → Prop} : gMul ⟨.int i, n, v⟩ ⟨.int j, n', v'⟩ Q = (CMul i j ∧ Q ⟨.int (i * j), true, none⟩) := rfl
/-- a plan that the law made -/
structure PlanOk (p : PV) : Prop where
  t : TreeOk p.office p.roads
  ro : InOrd p.riders
  lo : InOrd p.letters
  rp : ∀ r ∈ p.riders, ∃ x ∈ p.roads, x.1 = r.1
  lp : ∀ r ∈ p.letters, ∃ x ∈ p.roads, x.1 = r.1
  rb : ∀ r ∈ p.riders, 0 ≤ r.2.1 ∧ r.2.1 ≤ 1000 ∧ 1 ≤ r.2.2 ∧ r.2.2 ≤ 100
  lb : ∀ r ∈ p.letters, 0 ≤ r.2.1 ∧ r.2.1 ≤ 1000 ∧ 0 ≤ r.2.2 ∧ r.2.2 ≤ 300000
  rl : p.riders.length ≤ 100
  ll : p.letters.length ≤ 100
theorem PlanOk.ok {p : PV} (h : PlanOk p) : p.Ok := by
  obtain ⟨t1, t2⟩ := h.t.facts
  refine ⟨h.t.ne, Nat.le_trans h.rl (by decide), Nat.le_trans h.ll (by decide), fun r hr => ?_, fun r hr => ?_, fun r hr => ?_, fun r hr => ?_⟩
  · obtain ⟨x, hx, e⟩ := h.rp r hr
    exact e ▸ nm_ok (t1 x hx).1
  · obtain ⟨x, hx, e⟩ := h.lp r hr
    exact e ▸ nm_ok (t1 x hx).1
  · obtain ⟨h1, h2, h3, h4⟩ := h.rb r hr
    exact ⟨Nat.le_trans (show r.2.1.natAbs ≤ 1000 by omega) (by decide), Nat.le_trans (show r.2.2.natAbs ≤ 100 by omega) (by decide)⟩
  · obtain ⟨h1, h2, h3, h4⟩ := h.lb r hr
    exact ⟨Nat.le_trans (show r.2.1.natAbs ≤ 1000 by omega) (by decide), Nat.le_trans (show r.2.2.natAbs ≤ 300000 by omega) (by decide)⟩

theorem canSort_row {l : List Row} {n : Nat} (hn : n ≤ 10 ^ 30) (h : ∀ r ∈ l, NmOk r.1 ∧ r.2.1.natAbs ≤ n ∧ r.2.2.natAbs ≤ n) : CanSort (l.map rowD) :=
  canSort_tr fun r hr => ⟨nm_ok (h r hr).1, Nat.le_trans (h r hr).2.1 hn, Nat.le_trans (h r hr).2.2 hn⟩
theorem srt_rows (l : List Row) : srtD (l.map rowD) = (sortT l).map rowD := sortT_eq l
theorem sortT_mem {l : List Row} {r : Row} (h : r ∈ sortT l) : r ∈ l := (sortT_perm l).mem_iff.mp h
theorem sortT_len (l : List Row) : (sortT l).length = l.length := (sortT_perm l).length_eq
def PV.re (p : PV) (rs : List Road) : PV := ⟨p.office, rs, p.riders, p.letters⟩
theorem looseL_flat : ∀ {xs ys : List D}, LooseL xs ys → (∀ x ∈ xs, x.seq = none) → ys = xs
  | _, _, .nil, _ => rfl
  | _, _, .cons a t, h => by
    rw [a.none (h _ (by simp)), looseL_flat t fun x hx => h x (by simp [hx])]

theorem looseL_mem : ∀ {xs ys : List D}, LooseL xs ys → ys.length = xs.length ∧ ∀ y ∈ ys, ∃ x ∈ xs, Loose x y
  | _, _, .nil => ⟨rfl, fun y h => (nomatch h)⟩
  | _, _, .cons a t => by
    obtain ⟨h1, h2⟩ := looseL_mem t
    refine ⟨by simp [h1], fun y hy => ?_⟩
    rcases List.mem_cons.mp hy with rfl | hy
    · exact ⟨_, by simp, a⟩
    · obtain ⟨x, hx, l⟩ := h2 y hy
      exact ⟨x, by simp [hx], l⟩
theorem Nic.loose {k w : Nat} {x : D} (h : Nic k w x) : ∀ {y : D}, Loose x y → Nic k w y := by
  induction h with
  | int h => intro y l; cases l.none rfl; exact .int h
  | bl => intro y l; cases l.none rfl; exact .bl
  | non => intro y l; cases l.none rfl; exact .non
  | str h h2 => intro y l; cases l.none rfl; exact .str h h2
  | dct => intro y l; cases l.none rfl; exact .dct
  | mono _ h1 h2 ih => intro y l; exact .mono (ih l) h1 h2
  | @tup k w l xs h1 h2 h3 ih =>
    intro y lo
    have key : ∀ {ys}, LooseL xs ys → ys.length ≤ l ∧ ∀ y ∈ ys, Nic k w y := fun e => by
      obtain ⟨e1, e2⟩ := looseL_mem e
      refine ⟨by omega, fun y hy => ?_⟩
      obtain ⟨x, hx, lx⟩ := e2 y hy
      exact ih x hx lx
    cases lo with
    | tl e => exact .lst (key e).1 h2 (key e).2
    | tt e => exact .tup (key e).1 h2 (key e).2
    | same e => cases e
  | @lst k w l xs h1 h2 h3 ih =>
    intro y lo
    have key : ∀ {ys}, LooseL xs ys → ys.length ≤ l ∧ ∀ y ∈ ys, Nic k w y := fun e => by
      obtain ⟨e1, e2⟩ := looseL_mem e
      refine ⟨by omega, fun y hy => ?_⟩
      obtain ⟨x, hx, lx⟩ := e2 y hy
      exact ih x hx lx
    cases lo with
    | ll e => exact .lst (key e).1 h2 (key e).2
    | lt e => exact .tup (key e).1 h2 (key e).2
    | same e => cases e

/-- rows in any form -/
def rowL (r : Row) : List D := [.str r.1, .int r.2.1, .int r.2.2]
def roadL (r : Road) : List D := [.str r.1, .str r.2.1, .int r.2.2]
def Forms {α : Type} (f : α → List D) (l : List α) (d : D) : Prop := d.good = true ∧ ∃ ys, d.seq = some ys ∧ Paired (fun a y => y.seq = some (f a) ∧ y.good = true) l ys
theorem forms_of {α : Type} {f : α → List D} {h : α → D} {l : List α} {d : D} (lo : Loose (.lst (l.map h)) d) (gd : d.good = true) (e : ∀ a, (h a).seq = some (f a)) (fl : ∀ a, ∀ x ∈ f a, x.seq = none) : Forms f l d := by
  obtain ⟨ys, ey, ll⟩ := lo.seq rfl
  refine ⟨gd, ys, ey, ?_⟩
  obtain ⟨gy, hlen⟩ := good_seq gd ey
  clear ey lo hlen
  induction l generalizing ys with
  | nil => cases ll; exact .nil
  | cons a l ih =>
    cases ll with
    | cons l1 l2 =>
      obtain ⟨zs, ez, lz⟩ := l1.seq (e a)
      rw [looseL_flat lz (fl a)] at ez
      exact .cons ⟨ez, gy _ (by simp)⟩ (ih _ l2 fun x hx => gy x (by simp [hx]))
theorem abc_mem {c : Nat} (h : 97 ≤ c) (h2 : c < 123) : c ∈ ("abcdefghijklmnopqrstuvwxyz" : Str).cps.toList := by
  have : ("abcdefghijklmnopqrstuvwxyz" : Str).cps.toList[c - 97]? = some (97 + (c - 97)) := abc_at (c - 97) (by omega)
  rw [show 97 + (c - 97) = c by omega] at this
  exact List.mem_of_getElem? this
theorem rowL_flat (r : Row) : ∀ x ∈ rowL r, x.seq = none := by simp [rowL, D.seq]
theorem roadL_flat (r : Road) : ∀ x ∈ roadL r, x.seq = none := by simp [roadL, D.seq]
theorem gHas_strK {neg : Bool} {x : Str} {n n2 : Bool} {v v2 : Option V} {kd : List (Str × D)} {b : Bool} {Q : Dv → Prop} (h : (kd.any fun p => decide (p.1 = x)) = b) (q : Q ⟨.bl (if neg = true then !b else b), true, none⟩) : gHas neg ⟨.str x, n, v⟩ ⟨strK kd, n2, v2⟩ Q := by
  refine ⟨_, .inr x, rfl, strK_plain kd, rfl, ?_⟩
  rw [getK_map (fun p : Str × D => p.1)]
  rw [any_find] at h
  have e : ((kd.find? fun a => decide (a.1 = x)).map fun p : Str × D => p.2).isSome = (kd.find? fun a => decide (a.1 = x)).isSome := Option.isSome_map ..
  rw [e, h]
  exact q
theorem putD_strK {kd : List (Str × D)} {x : Str} {d : D} (h : (kd.any fun p => decide (p.1 = x)) = false) : D.dct (putD (kd.map fun p => ((.str p.1 : D), p.2)) (.inr x) d) = strK (kd ++ [(x, d)]) := by
  unfold putD
  have e : ((kd.map fun p => ((.str p.1 : D), p.2)).any fun p => isKey p.1 (.inr x)) = false := by
    rw [List.any_map]
    exact h
  rw [e, if_neg (by decide)]
  unfold strK
  rw [List.map_append]
  rfl
theorem RoadsOk.at : ∀ {rs : List Road} {known : List Str} {j : Nat} {r : Road}, RoadsOk known rs → rs[j]? = some r → (r.2.1 ∈ known ∨ ∃ s ∈ rs.take j, s.1 = r.2.1) ∧ r.1 ∉ known ∧ ∀ s ∈ rs.take j, s.1 ≠ r.1
  | [], _, _, _, _, h => by simp at h
  | a :: rs, known, 0, r, ⟨h1, h2, h3, _⟩, h => by
    simp at h
    subst h
    exact ⟨.inl h3, h2, fun s hs => by simp at hs⟩
  | a :: rs, known, j + 1, r, ⟨h1, h2, h3, h4, h5, h6⟩, h => by
    obtain ⟨g1, g2, g3⟩ := h6.at (j := j) (by simpa using h)
    refine ⟨?_, fun z => g2 (List.mem_append_left _ z), fun s hs => ?_⟩
    · rcases g1 with g1 | ⟨s, hs, e⟩
      · rcases List.mem_append.mp g1 with g1 | g1
        · exact .inl g1
        · rw [List.mem_singleton] at g1
          exact .inr ⟨a, by simp, g1.symm⟩
      · exact .inr ⟨s, by simp [hs], e⟩
    · rw [List.take_succ_cons] at hs
      rcases List.mem_cons.mp hs with rfl | hs
      · exact fun z => g2 (List.mem_append_right _ (by rw [z]; simp))
      · exact g3 s hs
theorem known_any {l : List Road} {x : Str} : ((l.map fun r => (r.1, D.bl true)).any fun p => decide (p.1 = x)) = l.any fun r => decide (r.1 = x) := by
  rw [List.any_map]
  rfl
theorem paired_get {α β : Type} {P : α → β → Prop} : ∀ {xs : List α} {ys : List β}, Paired P xs ys → ∀ {i : Nat} {y : β}, ys[i]? = some y → ∃ x, xs[i]? = some x ∧ P x y
  | _, _, .nil, _, _, h => by simp at h
  | _, _, .cons a t, 0, _, h => by simp at h; subst h; exact ⟨_, rfl, a⟩
  | _, _, .cons a t, i + 1, _, h => by
    obtain ⟨x, h1, h2⟩ := paired_get t (i := i) (by simpa using h)
    exact ⟨x, by simpa using h1, h2⟩

section
variable {P : Program} {w : World} {K : PySem.W.Frag} {mg : Str → Option Value} {base : Heap}
theorem sc_is_name : FnScope ["thing", "sign"] ["thing"] (defScope s_is_name) := ⟨rfl, rfl, rfl, by decide +kernel, rfl, by decide +kernel, by decide +kernel⟩
def c_is_name : DC := fun ds _ _ Q => ∃ x : Str, ds = [.str x] ∧ NmOk x ∧ Q ⟨.bl true, true, none⟩
theorem ok_is_name (T : Txt K mg) : FnD P w K mg base 1 T.f_is_name.f T.f_is_name.fd ["thing"] 0 c_is_name := by
  refine fn_ok T.f_is_name.ok sc_is_name fun cdv A outer s H E hr => ⟨_, _, (dss_one (ds_ret [] (de_and (de_isi (T := "str") ty_str (de_var (pv 0)) (by rfl) T.n_isinstance (by decide +kernel) (by rfl) T.n_str (by decide +kernel)) (de_and (de_chain dop_lt dop_lt de_int (de_callB dcl_len (by rfl) T.n_len (by decide +kernel) (da_cons (de_var (pv 0)) da_nil)) de_int) (de_one (de_callB (dcl_all rfl) (by rfl) T.n_all (by decide +kernel) (da_cons (DN.de (dn_lc (own := [("sign", 1)]) rfl sc_is_name.nd (di_str (de_var (pv 0))) (blkOk_by (N := ["thing", "sign"]) (sc := defScope s_is_name) (by decide +kernel)) (fun _ _ _ _ _ => (dg_name (pg_name (i := 1) sc_is_name.nd rfl (Or.inl rfl)))) (fun _ _ _ _ _ => dts_nil) (fun _ _ _ _ _ => (de_cmp dop_sign (de_var (pv 1)) (de_globS (by rfl) T.g_LETTERS.choose_spec ⟨_, rfl⟩) (by rfl))) (by decide))) da_nil))))))), by decide +kernel, fun ds vs XQ Q hd hv h => ?_⟩
  obtain ⟨x, rfl, hx, q⟩ := h
  match vs, hv with
  | [v], _ =>
  try simp only [frz, params, setAll, List.zipWith, List.length_cons, List.length_nil, Nat.reduceAdd, Nat.reduceSub, List.replicate, List.append_nil, List.cons_append, List.nil_append, getV_va, Pt.sl, true_and, List.getElem?_cons_zero, List.getElem?_cons_succ, List.set_cons_zero, List.set_cons_succ, ite_self, Bool.false_eq_true, if_false, if_true]
  refine ⟨⟨_, rfl⟩, _, rfl, ?_⟩
  rw [if_pos (by rfl), g1_of]
  have h0 := hx.l0
  have h5 := hx.l5
  refine ⟨by show _ ≤ 16777216; omega, ?_⟩
  unfold gChain
  dsimp only
  rw [gI_of]
  refine ⟨trivial, _, rfl, ?_⟩
  rw [if_pos (by simpa using h0), gI_of]
  refine ⟨trivial, _, rfl, ?_⟩
  rw [if_pos (by simp; omega)]
  have hl : (sgn x).length = x.length := by unfold sgn; rw [List.length_map, ← len_cps]
  refine ⟨x, rfl, by rw [hl]; show _ ≤ 16777216; omega, all_go (fun _ => true) (fun y hy K1 K0 kk => ?_) (by rw [show ∀ l : List Dv, l.all (fun _ => true) = true from fun l => List.all_eq_true.mpr fun _ _ => rfl]; exact q)⟩
  obtain ⟨c, hc, rfl⟩ := List.mem_map.mp hy
  try simp only [lcStep, true_and, wipeR, List.map_cons, List.map_nil, List.set_cons_succ, List.set_cons_zero, List.getElem?_cons_succ, List.getElem?_cons_zero, getV_va, if_true]
  have := hx.ab c hc
  refine ⟨c, _, rfl, rfl, ?_⟩
  rw [if_neg (by decide), decide_eq_true (abc_mem this.1 this.2)]
  exact kk _

def cR_is_post : DC := fun ds _ _ Q => ∃ (k : Nat) (fs : List D) (kd : List (Str × D)) (i : Nat) (x : Str), ds = [.obj k fs, .str x] ∧ (objN k)[i]? = some ("own_roads" : Str) ∧ fs[i]? = some (strK kd) ∧ Q ⟨.bl (kd.any fun p => decide (p.1 = x)), true, none⟩
theorem okR_is_post (T : Txt K mg) : FnD P w K mg base 1 T.f_is_post.f T.f_is_post.fd ["plan", "thing"] 0 cR_is_post := by
  refine fn_ok T.f_is_post.ok sc_is_post fun cdv A outer s H E hr => ⟨_, _, (dss_one (ds_ret [] (de_and (de_isi (T := "str") ty_str (de_var (pv 1)) (by rfl) T.n_isinstance (by decide +kernel) (by rfl) T.n_str (by decide +kernel)) (de_one (de_has (neg := false) _ rfl hr.units (de_var (pv 1)) (de_fld (clT_of T.clP) (de_var (pv 0))) (by rfl)))))), by decide +kernel, fun ds vs XQ Q hd hv h => ?_⟩
  obtain ⟨k, fs, kd, i, x, rfl, h1, h2, q⟩ := h
  match vs, hv with
  | [v, v2], _ =>
  try simp only [frz, params, setAll, List.zipWith, List.length_cons, List.length_nil, Nat.reduceAdd, Nat.reduceSub, List.replicate, List.append_nil, List.cons_append, List.nil_append, getV_va, Pt.sl, true_and, List.getElem?_cons_zero, List.getElem?_cons_succ, List.set_cons_zero, List.set_cons_succ, ite_self, Bool.false_eq_true, if_false, if_true]
  refine ⟨⟨_, rfl⟩, _, rfl, ?_⟩
  rw [if_pos (by rfl)]
  refine ⟨k, fs, i, strK kd, rfl, h1, h2, _, .inr x, rfl, strK_plain kd, rfl, ?_⟩
  rw [if_neg (by decide), getK_map (fun p : Str × D => p.1)]
  rw [any_find] at q
  have e : ((kd.find? fun a => decide (a.1 = x)).map fun p : Str × D => p.2).isSome = (kd.find? fun a => decide (a.1 = x)).isSome := Option.isSome_map ..
  rw [e]
  exact q

theorem sc_Plan_is_rider : FnScope ["self", "thing"] ["self", "thing"] (defScope s_Plan_is_rider) := ⟨rfl, rfl, rfl, by decide +kernel, rfl, by decide +kernel, by decide +kernel⟩
def c_Plan_is_rider : DC := fun ds _ _ Q => ∃ (k : Nat) (fs : List D) (kd : List (Str × D)) (i : Nat) (r : Row) (y : D), ds = [.obj k fs, y] ∧ (objN k)[i]? = some ("own_roads" : Str) ∧ fs[i]? = some (strK kd) ∧ y.good = true ∧ y.seq = some (rowL r) ∧ (kd.any fun p => decide (p.1 = r.1)) = true ∧ 0 ≤ r.2.1 ∧ 0 < r.2.2 ∧ Q ⟨.bl true, true, none⟩
theorem ok_Plan_is_rider (T : Txt K mg) : FnD P w K mg base 3 T.f_Plan_is_rider.f T.f_Plan_is_rider.fd ["self", "thing"] 0 c_Plan_is_rider := by
  refine fn_ok T.f_Plan_is_rider.ok sc_Plan_is_rider fun cdv A outer s H E hr => ⟨_, _, (dss_cons (ds_if [] (DW.dt (dw_or (dt_not (dt_val (de_call ((ok_is_row T).mono (by decide)) hr (by rfl) T.f_is_row.g T.f_is_row.ok.kp T.f_is_row.b (passE (takes_of rfl rfl rfl rfl)) rfl (da_cons (de_var (pv 1)) (da_cons de_int da_nil))))) (dw_or (dt_not (dt_val (de_call ((okR_is_post T).mono (by decide)) hr (by rfl) T.f_is_post.g T.f_is_post.ok.kp T.f_is_post.b (passE (takes_of rfl rfl rfl rfl)) rfl (da_cons (de_var (pv 0)) (da_cons (de_ix (de_var (pv 1)) de_int (fun _ _ => rfl)) da_nil))))) (dw_or1 (dt_not (dt_val (de_call ((ok_is_number T).mono (by decide)) hr (by rfl) T.f_is_number.g T.f_is_number.ok.kp T.f_is_number.b (passE (takes_of rfl rfl rfl rfl)) rfl (da_cons (de_ix (de_var (pv 1)) de_int (fun _ _ => rfl)) da_nil)))))))) (dss_one (ds_ret [] de_bl)) dss_nil)
      (dss_one (ds_ret [] (de_and (de_call ((ok_is_whole T).mono (by decide)) hr (by rfl) T.f_is_whole.g T.f_is_whole.ok.kp T.f_is_whole.b (passE (takes_of rfl rfl rfl rfl)) rfl (da_cons (de_ix (de_var (pv 1)) de_int (fun _ _ => rfl)) da_nil)) (de_one (de_cmp dop_gt (de_ix (de_var (pv 1)) de_int (fun _ _ => rfl)) de_int (nomark _))))))), by decide +kernel, fun ds vs XQ Q hd hv h => ?_⟩
  obtain ⟨k, fs, kd, i, r, y, rfl, h1, h2, gy, ey, hk, hr1, hr2, q⟩ := h
  match vs, hv with
  | [v, v2], _ =>
  obtain ⟨x, t, m⟩ := r
  try simp only [frz, params, setAll, List.zipWith, List.length_cons, List.length_nil, Nat.reduceAdd, Nat.reduceSub, List.replicate, List.append_nil, List.cons_append, List.nil_append, getV_va, Pt.sl, true_and, List.getElem?_cons_zero, List.getElem?_cons_succ, List.set_cons_zero, List.set_cons_succ, ite_self, Bool.false_eq_true, if_false, if_true]
  have hrow : isRow y 3 = true := by unfold isRow; rw [ey]; rfl
  have a0 : atI (rowL (x, t, m)) 0 = some (.str x) := rfl
  have a1 : atI (rowL (x, t, m)) 1 = some (.int t) := rfl
  have a2 : atI (rowL (x, t, m)) 2 = some (.int m) := rfl
  refine gCall_of fun _ => ⟨y, 3, rfl, gy, ?_⟩
  rw [hrow]
  refine ⟨true, rfl, ?_⟩
  rw [if_neg (by decide), gIx_of ey a0]
  refine gCall_of fun _ => ⟨k, fs, kd, i, x, rfl, h1, h2, ?_⟩
  refine ⟨_, rfl, ?_⟩
  rw [hk, if_neg (by decide), gIx_of ey a1]
  refine gCall_of fun _ => ⟨.int t, rfl, rfl, _, rfl, ?_⟩
  have e1 : isNumber (.int t) = true := by simpa [isNumber] using hr1
  rw [e1, if_neg (by decide), gIx_of ey a2]
  refine gCall_of fun _ => ⟨.int m, rfl, rfl, _, rfl, ?_⟩
  rw [if_pos (by rfl), gIx_of ey a2, gI_of]
  refine ⟨trivial, ?_⟩
  have e2 : decide ((0 : Int) < m) = true := decide_eq_true hr2
  rw [e2]
  exact q

theorem sc_Plan_is_letter : FnScope ["self", "thing"] ["self", "thing"] (defScope s_Plan_is_letter) := ⟨rfl, rfl, rfl, by decide +kernel, rfl, by decide +kernel, by decide +kernel⟩
def c_Plan_is_letter : DC := fun ds _ _ Q => ∃ (k : Nat) (fs : List D) (kd : List (Str × D)) (i : Nat) (r : Row) (y : D), ds = [.obj k fs, y] ∧ (objN k)[i]? = some ("own_roads" : Str) ∧ fs[i]? = some (strK kd) ∧ y.good = true ∧ y.seq = some (rowL r) ∧ (kd.any fun p => decide (p.1 = r.1)) = true ∧ 0 ≤ r.2.1 ∧ 0 ≤ r.2.2 ∧ Q ⟨.bl true, true, none⟩
theorem ok_Plan_is_letter (T : Txt K mg) : FnD P w K mg base 3 T.f_Plan_is_letter.f T.f_Plan_is_letter.fd ["self", "thing"] 0 c_Plan_is_letter := by
  refine fn_ok T.f_Plan_is_letter.ok sc_Plan_is_letter fun cdv A outer s H E hr => ⟨_, _, (dss_one (ds_ret [] (de_and (de_call ((ok_is_row T).mono (by decide)) hr (by rfl) T.f_is_row.g T.f_is_row.ok.kp T.f_is_row.b (passE (takes_of rfl rfl rfl rfl)) rfl (da_cons (de_var (pv 1)) (da_cons de_int da_nil))) (de_and (de_call ((okR_is_post T).mono (by decide)) hr (by rfl) T.f_is_post.g T.f_is_post.ok.kp T.f_is_post.b (passE (takes_of rfl rfl rfl rfl)) rfl (da_cons (de_var (pv 0)) (da_cons (de_ix (de_var (pv 1)) de_int (fun _ _ => rfl)) da_nil))) (de_and (de_call ((ok_is_number T).mono (by decide)) hr (by rfl) T.f_is_number.g T.f_is_number.ok.kp T.f_is_number.b (passE (takes_of rfl rfl rfl rfl)) rfl (da_cons (de_ix (de_var (pv 1)) de_int (fun _ _ => rfl)) da_nil)) (de_one (de_call ((ok_is_number T).mono (by decide)) hr (by rfl) T.f_is_number.g T.f_is_number.ok.kp T.f_is_number.b (passE (takes_of rfl rfl rfl rfl)) rfl (da_cons (de_ix (de_var (pv 1)) de_int (fun _ _ => rfl)) da_nil)))))))), by decide +kernel, fun ds vs XQ Q hd hv h => ?_⟩
  obtain ⟨k, fs, kd, i, r, y, rfl, h1, h2, gy, ey, hk, hr1, hr2, q⟩ := h
  match vs, hv with
  | [v, v2], _ =>
  obtain ⟨x, t, m⟩ := r
  try simp only [frz, params, setAll, List.zipWith, List.length_cons, List.length_nil, Nat.reduceAdd, Nat.reduceSub, List.replicate, List.append_nil, List.cons_append, List.nil_append, getV_va, Pt.sl, true_and, List.getElem?_cons_zero, List.getElem?_cons_succ, List.set_cons_zero, List.set_cons_succ, ite_self, Bool.false_eq_true, if_false, if_true]
  have hrow : isRow y 3 = true := by unfold isRow; rw [ey]; rfl
  have a0 : atI (rowL (x, t, m)) 0 = some (.str x) := rfl
  have a1 : atI (rowL (x, t, m)) 1 = some (.int t) := rfl
  have a2 : atI (rowL (x, t, m)) 2 = some (.int m) := rfl
  refine gCall_of fun _ => ⟨y, 3, rfl, gy, _, rfl, ?_⟩
  rw [if_pos hrow, gIx_of ey a0]
  refine gCall_of fun _ => ⟨k, fs, kd, i, x, rfl, h1, h2, _, rfl, ?_⟩
  rw [if_pos hk, gIx_of ey a1]
  refine gCall_of fun _ => ⟨.int t, rfl, rfl, _, rfl, ?_⟩
  rw [if_pos (by simpa [isNumber] using hr1), gIx_of ey a2]
  refine gCall_of fun _ => ⟨.int m, rfl, rfl, ?_⟩
  have e : isNumber (.int m) = true := by simpa [isNumber] using hr2
  rw [e]
  exact q

theorem sc_first_bad : FnScope ["things", "is_right", "index", "thing"] ["things", "is_right"] (defScope s_first_bad) := ⟨rfl, rfl, rfl, by decide +kernel, rfl, by decide +kernel, by decide +kernel⟩
def c_first_bad (T : Txt K mg) : DC := fun ds _ _ Q => ∃ (things : D) (k : Nat) (fs : List D) (kd : List (Str × D)) (i : Nat) (l : List Row), ds = [things, .bm T.f_Plan_is_rider.f (.obj k fs)] ∧ (objN k)[i]? = some ("own_roads" : Str) ∧ fs[i]? = some (strK kd) ∧ Forms rowL l things ∧ (∀ r ∈ l, (kd.any fun p => decide (p.1 = r.1)) = true ∧ 0 ≤ r.2.1 ∧ 0 < r.2.2) ∧ Q ⟨.non, true, none⟩
theorem ok_first_bad (T : Txt K mg) : FnD P w K mg base 4 T.f_first_bad.f T.f_first_bad.fd ["things", "is_right"] 0 (c_first_bad T) := by
  refine fn_ok T.f_first_bad.ok sc_first_bad fun cdv A outer s H E hr => ⟨_, _, (dss_cons (ds_if [] (dt_not (dt_val (de_call ((ok_is_list T).mono (by decide)) hr (by rfl) T.f_is_list.g T.f_is_list.ok.kp T.f_is_list.b (passE (takes_of rfl rfl rfl rfl)) rfl (da_cons (de_var (pv 0)) da_nil)))) (dss_one (ds_ret [] de_int)) dss_nil)
      (dss_cons (ds_for [] (passes_of rfl) rfl (di_enumA (by rfl) T.n_enumerate (da_cons (de_var (pv 0)) da_nil)) (dg_tup (n := 2) rfl (dgs_cons (dg_name (pg_name (i := 2) sc_first_bad.nd rfl (Or.inl rfl))) (dgs_cons (dg_name (pg_name (i := 3) sc_first_bad.nd rfl (Or.inl rfl))) dgs_nil)))
      (dss_one (ds_if [] (dt_not (dt_val (de_callBm ((ok_Plan_is_rider T).mono (by decide)) hr T.bmR.fi T.f_Plan_is_rider.b (passE (takes_of rfl rfl rfl rfl)) (i := 1) rfl (by first | exact Or.inl rfl | exact Or.inr (Or.inl rfl) | exact Or.inr (Or.inr rfl)) (da_cons (de_var (pv 3)) da_nil) rfl))) (dss_one (ds_ret [] (de_var (pv 2)))) dss_nil)))
      (dss_one (ds_ret [] de_non)))), by decide +kernel, fun ds vs XQ Q hd hv h => ?_⟩
  obtain ⟨things, k, fs, kd, i, l, rfl, h1, h2, ⟨gt, ys, ey, pr⟩, hl, q⟩ := h
  match vs, hv with
  | [v, v2], _ =>
  try simp only [frz, params, setAll, List.zipWith, List.length_cons, List.length_nil, Nat.reduceAdd, Nat.reduceSub, List.replicate, List.append_nil, List.cons_append, List.nil_append, getV_va, Pt.sl, true_and, List.getElem?_cons_zero, List.getElem?_cons_succ, List.set_cons_zero, List.set_cons_succ, ite_self, Bool.false_eq_true, if_false, if_true]
  obtain ⟨gy, ly⟩ := good_seq gt ey
  refine gCall_of fun _ => ⟨things, rfl, gt, ?_⟩
  have e0 : isList things = true := by unfold isList; rw [ey]; rfl
  rw [e0]
  refine ⟨true, rfl, ?_⟩
  rw [if_neg (by decide)]
  refine ⟨_, ys, rfl, ey, .inl trivial, ?_⟩
  refine for_idx (fun n ρ => ∃ s2 s3, ρ = [Sl.va ⟨things, things.imm, some v⟩, .va ⟨.bm T.f_Plan_is_rider.f (.obj k fs), (D.bm T.f_Plan_is_rider.f (.obj k fs)).imm, some v2⟩, s2, s3]) _ 0 _ ⟨_, _, rfl⟩ (fun j x hx ρ hI K2 kk => ?_) fun ρ hI => ?_
  · obtain ⟨s2, s3, rfl⟩ := hI
    obtain ⟨y, hy, rfl⟩ := enumD_get hx
    obtain ⟨r, hr1, er, gr⟩ := paired_get pr hy
    have hm : r ∈ l := List.mem_of_getElem? hr1
    obtain ⟨c1, c2, c3⟩ := hl r hm
    try simp only [lcStep, true_and, wipeR, List.map_cons, List.map_nil, List.set_cons_succ, List.set_cons_zero, List.getElem?_cons_succ, List.getElem?_cons_zero, getV_va, if_true]
    rw [unp_seq (by rfl)]
    refine ⟨rfl, ?_⟩
    simp only [List.map_cons, List.map_nil]
    try simp only [frz, params, setAll, List.zipWith, List.length_cons, List.length_nil, Nat.reduceAdd, Nat.reduceSub, List.replicate, List.append_nil, List.cons_append, List.nil_append, getV_va, Pt.sl, true_and, List.getElem?_cons_zero, List.getElem?_cons_succ, List.set_cons_zero, List.set_cons_succ, ite_self, Bool.false_eq_true, if_false, if_true]
    refine ⟨_, _, _, rfl, gCall_of fun _ => ⟨k, fs, kd, i, r, y, rfl, h1, h2, gr, er, c1, c2, c3, ?_⟩⟩
    refine ⟨true, rfl, ?_⟩
    rw [if_neg (by decide)]
    exact kk _ ⟨_, _, rfl⟩
  · obtain ⟨s2, s3, rfl⟩ := hI
    try simp only [frz, params, setAll, List.zipWith, List.length_cons, List.length_nil, Nat.reduceAdd, Nat.reduceSub, List.replicate, List.append_nil, List.cons_append, List.nil_append, getV_va, Pt.sl, true_and, List.getElem?_cons_zero, List.getElem?_cons_succ, List.set_cons_zero, List.set_cons_succ, ite_self, Bool.false_eq_true, if_false, if_true]
    exact q

def cL_first_bad (T : Txt K mg) : DC := fun ds _ _ Q => ∃ (things : D) (k : Nat) (fs : List D) (kd : List (Str × D)) (i : Nat) (l : List Row), ds = [things, .bm T.f_Plan_is_letter.f (.obj k fs)] ∧ (objN k)[i]? = some ("own_roads" : Str) ∧ fs[i]? = some (strK kd) ∧ Forms rowL l things ∧ (∀ r ∈ l, (kd.any fun p => decide (p.1 = r.1)) = true ∧ 0 ≤ r.2.1 ∧ 0 ≤ r.2.2) ∧ Q ⟨.non, true, none⟩
theorem okL_first_bad (T : Txt K mg) : FnD P w K mg base 4 T.f_first_bad.f T.f_first_bad.fd ["things", "is_right"] 0 (cL_first_bad T) := by
  refine fn_ok T.f_first_bad.ok sc_first_bad fun cdv A outer s H E hr => ⟨_, _, (dss_cons (ds_if [] (dt_not (dt_val (de_call ((ok_is_list T).mono (by decide)) hr (by rfl) T.f_is_list.g T.f_is_list.ok.kp T.f_is_list.b (passE (takes_of rfl rfl rfl rfl)) rfl (da_cons (de_var (pv 0)) da_nil)))) (dss_one (ds_ret [] de_int)) dss_nil)
      (dss_cons (ds_for [] (passes_of rfl) rfl (di_enumA (by rfl) T.n_enumerate (da_cons (de_var (pv 0)) da_nil)) (dg_tup (n := 2) rfl (dgs_cons (dg_name (pg_name (i := 2) sc_first_bad.nd rfl (Or.inl rfl))) (dgs_cons (dg_name (pg_name (i := 3) sc_first_bad.nd rfl (Or.inl rfl))) dgs_nil)))
      (dss_one (ds_if [] (dt_not (dt_val (de_callBm ((ok_Plan_is_letter T).mono (by decide)) hr T.bmL.fi T.f_Plan_is_letter.b (passE (takes_of rfl rfl rfl rfl)) (i := 1) rfl (by first | exact Or.inl rfl | exact Or.inr (Or.inl rfl) | exact Or.inr (Or.inr rfl)) (da_cons (de_var (pv 3)) da_nil) rfl))) (dss_one (ds_ret [] (de_var (pv 2)))) dss_nil)))
      (dss_one (ds_ret [] de_non)))), by decide +kernel, fun ds vs XQ Q hd hv h => ?_⟩
  obtain ⟨things, k, fs, kd, i, l, rfl, h1, h2, ⟨gt, ys, ey, pr⟩, hl, q⟩ := h
  match vs, hv with
  | [v, v2], _ =>
  try simp only [frz, params, setAll, List.zipWith, List.length_cons, List.length_nil, Nat.reduceAdd, Nat.reduceSub, List.replicate, List.append_nil, List.cons_append, List.nil_append, getV_va, Pt.sl, true_and, List.getElem?_cons_zero, List.getElem?_cons_succ, List.set_cons_zero, List.set_cons_succ, ite_self, Bool.false_eq_true, if_false, if_true]
  obtain ⟨gy, ly⟩ := good_seq gt ey
  refine gCall_of fun _ => ⟨things, rfl, gt, ?_⟩
  have e0 : isList things = true := by unfold isList; rw [ey]; rfl
  rw [e0]
  refine ⟨true, rfl, ?_⟩
  rw [if_neg (by decide)]
  refine ⟨_, ys, rfl, ey, .inl trivial, ?_⟩
  refine for_idx (fun n ρ => ∃ s2 s3, ρ = [Sl.va ⟨things, things.imm, some v⟩, .va ⟨.bm T.f_Plan_is_letter.f (.obj k fs), (D.bm T.f_Plan_is_letter.f (.obj k fs)).imm, some v2⟩, s2, s3]) _ 0 _ ⟨_, _, rfl⟩ (fun j x hx ρ hI K2 kk => ?_) fun ρ hI => ?_
  · obtain ⟨s2, s3, rfl⟩ := hI
    obtain ⟨y, hy, rfl⟩ := enumD_get hx
    obtain ⟨r, hr1, er, gr⟩ := paired_get pr hy
    have hm : r ∈ l := List.mem_of_getElem? hr1
    obtain ⟨c1, c2, c3⟩ := hl r hm
    try simp only [lcStep, true_and, wipeR, List.map_cons, List.map_nil, List.set_cons_succ, List.set_cons_zero, List.getElem?_cons_succ, List.getElem?_cons_zero, getV_va, if_true]
    rw [unp_seq (by rfl)]
    refine ⟨rfl, ?_⟩
    simp only [List.map_cons, List.map_nil]
    try simp only [frz, params, setAll, List.zipWith, List.length_cons, List.length_nil, Nat.reduceAdd, Nat.reduceSub, List.replicate, List.append_nil, List.cons_append, List.nil_append, getV_va, Pt.sl, true_and, List.getElem?_cons_zero, List.getElem?_cons_succ, List.set_cons_zero, List.set_cons_succ, ite_self, Bool.false_eq_true, if_false, if_true]
    refine ⟨_, _, _, rfl, gCall_of fun _ => ⟨k, fs, kd, i, r, y, rfl, h1, h2, gr, er, c1, c2, c3, ?_⟩⟩
    refine ⟨true, rfl, ?_⟩
    rw [if_neg (by decide)]
    exact kk _ ⟨_, _, rfl⟩
  · obtain ⟨s2, s3, rfl⟩ := hI
    try simp only [frz, params, setAll, List.zipWith, List.length_cons, List.length_nil, Nat.reduceAdd, Nat.reduceSub, List.replicate, List.append_nil, List.cons_append, List.nil_append, getV_va, Pt.sl, true_and, List.getElem?_cons_zero, List.getElem?_cons_succ, List.set_cons_zero, List.set_cons_succ, ite_self, Bool.false_eq_true, if_false, if_true]
    exact q

theorem sc_first_bad_road : FnScope ["office", "roads", "known", "index", "road"] ["office", "roads"] (defScope s_first_bad_road) := ⟨rfl, rfl, rfl, by decide +kernel, rfl, by decide +kernel, by decide +kernel⟩
def c_first_bad_road : DC := fun ds _ _ Q => ∃ (office : Str) (R : D) (rs : List Road), ds = [.str office, R] ∧ NmOk office ∧ RoadsOk [office] rs ∧ rs.length ≤ 8 ∧ Forms roadL rs R ∧ Q ⟨.non, true, none⟩
theorem ok_first_bad_road (T : Txt K mg) : FnD P w K mg base 3 T.f_first_bad_road.f T.f_first_bad_road.fd ["office", "roads"] 0 c_first_bad_road := by
  refine fn_ok T.f_first_bad_road.ok sc_first_bad_road fun cdv A outer s H E hr => ⟨_, _, (dss_cons (ds_own [] dn_dnew (pg_name (i := 2) sc_first_bad_road.nd rfl (Or.inl rfl)) (fun _ _ a b => ps_asg a b))
      (dss_cons (ds_if [] (dt_not (dt_val (de_call ((ok_is_list T).mono (by decide)) hr (by rfl) T.f_is_list.g T.f_is_list.ok.kp T.f_is_list.b (passE (takes_of rfl rfl rfl rfl)) rfl (da_cons (de_var (pv 1)) da_nil)))) (dss_one (ds_ret [] de_int)) dss_nil)
      (dss_cons (ds_for [] (passes_of rfl) rfl (di_enumA (by rfl) T.n_enumerate (da_cons (de_var (pv 1)) da_nil)) (dg_tup (n := 2) rfl (dgs_cons (dg_name (pg_name (i := 3) sc_first_bad_road.nd rfl (Or.inl rfl))) (dgs_cons (dg_name (pg_name (i := 4) sc_first_bad_road.nd rfl (Or.inl rfl))) dgs_nil)))
      (dss_cons (ds_if [2] (DW.dt (dw_or (dt_not (dt_val (de_call ((ok_is_row T).mono (by decide)) hr (by rfl) T.f_is_row.g T.f_is_row.ok.kp T.f_is_row.b (passE (takes_of rfl rfl rfl rfl)) rfl (da_cons (de_var (pv 4)) (da_cons de_int da_nil))))) (dw_or (dt_not (dt_val (de_call ((ok_is_name T).mono (by decide)) hr (by rfl) T.f_is_name.g T.f_is_name.ok.kp T.f_is_name.b (passE (takes_of rfl rfl rfl rfl)) rfl (da_cons (de_ix (de_var (pv 4)) de_int (fun _ _ => rfl)) da_nil)))) (dw_or (dt_cmp (dop_eq hr.units) (de_ix (de_var (pv 4)) de_int (fun _ _ => rfl)) (de_var (pv 0)) (nomark _)) (dw_or1 (dt_has (neg := false) _ rfl hr.units (de_ix (de_var (pv 4)) de_int (fun _ _ => rfl)) (de_var (pv 2)) (by rfl))))))) (dss_one (ds_ret [] (de_var (pv 3)))) dss_nil)
      (dss_cons (ds_if [2] (DW.dt (dw_or (dt_not (dt_val (de_isi (T := "str") ty_str (de_ix (de_var (pv 4)) de_int (fun _ _ => rfl)) (by rfl) T.n_isinstance (by decide +kernel) (by rfl) T.n_str (by decide +kernel)))) (dw_or1 (DW.dt (dw_and (dt_cmp (dop_ne hr.units) (de_ix (de_var (pv 4)) de_int (fun _ _ => rfl)) (de_var (pv 0)) (nomark _)) (dw_and1 (dt_has (neg := true) _ rfl hr.units (de_ix (de_var (pv 4)) de_int (fun _ _ => rfl)) (de_var (pv 2)) (by rfl)))))))) (dss_one (ds_ret [] (de_var (pv 3)))) dss_nil)
      (dss_cons (ds_if [] (DW.dt (dw_or (dt_not (dt_val (de_call ((ok_is_whole T).mono (by decide)) hr (by rfl) T.f_is_whole.g T.f_is_whole.ok.kp T.f_is_whole.b (passE (takes_of rfl rfl rfl rfl)) rfl (da_cons (de_ix (de_var (pv 4)) de_int (fun _ _ => rfl)) da_nil)))) (dw_or1 (dt_cmp dop_lt (de_ix (de_var (pv 4)) de_int (fun _ _ => rfl)) de_int (nomark _))))) (dss_one (ds_ret [] (de_var (pv 3)))) dss_nil)
      (dss_one (ds_setD [] (i := 2) hr.units de_bl (de_ix (de_var (pv 4)) de_int (fun _ _ => rfl)) (pv 2)))))))
      (dss_one (ds_ret [] de_non))))), by decide +kernel, fun ds vs XQ Q hd hv h => ?_⟩
  obtain ⟨office, R, rs, rfl, ho, hr0, hl8, ⟨gR, ys, ey, pr⟩, q⟩ := h
  match vs, hv with
  | [v, v2], _ =>
  obtain ⟨facts, nd⟩ := hr0.facts fun x hx => by rw [List.mem_singleton] at hx; rw [hx]; exact ho
  try simp only [frz, params, setAll, List.zipWith, List.length_cons, List.length_nil, Nat.reduceAdd, Nat.reduceSub, List.replicate, List.append_nil, List.cons_append, List.nil_append, getV_va, Pt.sl, true_and, List.getElem?_cons_zero, List.getElem?_cons_succ, List.set_cons_zero, List.set_cons_succ, ite_self, Bool.false_eq_true, if_false, if_true]
  refine gCall_of fun _ => ⟨R, rfl, gR, ?_⟩
  have e0 : isList R = true := by unfold isList; rw [ey]; rfl
  rw [e0]
  refine ⟨true, rfl, ?_⟩
  rw [if_neg (by decide)]
  refine ⟨_, ys, rfl, ey, .inl trivial, ?_⟩
  have hyl : ys.length = rs.length := (Paired.length pr).symm
  refine for_idx (fun n ρ => ∃ s3 s4 m, ρ = [Sl.va ⟨.str office, (D.str office).imm, some v⟩, .va ⟨R, R.imm, some v2⟩, .ow (strK ((rs.take n).map fun r => (r.1, .bl true))) m, s3, s4]) _ 0 _ ⟨_, _, _, rfl⟩ (fun j x hx ρ hI K2 kk => ?_) fun ρ hI => ?_
  · obtain ⟨s3, s4, m, rfl⟩ := hI
    obtain ⟨y, hy, rfl⟩ := enumD_get hx
    obtain ⟨r, hr1, er, gr⟩ := paired_get pr hy
    have hm : r ∈ rs := List.mem_of_getElem? hr1
    obtain ⟨f1, f2, f3, f4, f5⟩ := facts r hm
    have a0 : atI (roadL r) 0 = some (.str r.1) := rfl
    have a1 : atI (roadL r) 1 = some (.str r.2.1) := rfl
    have a2 : atI (roadL r) 2 = some (.int r.2.2) := rfl
    have hrow : isRow y 3 = true := by unfold isRow; rw [er]; rfl
    try simp only [lcStep, true_and, wipeR, List.map_cons, List.map_nil, List.set_cons_succ, List.set_cons_zero, List.getElem?_cons_succ, List.getElem?_cons_zero, getV_va, if_true]
    rw [unp_seq (by rfl)]
    refine ⟨rfl, ?_⟩
    simp only [List.map_cons, List.map_nil]
    try simp only [frz, params, setAll, List.zipWith, List.length_cons, List.length_nil, Nat.reduceAdd, Nat.reduceSub, List.replicate, List.append_nil, List.cons_append, List.nil_append, getV_va, Pt.sl, true_and, List.getElem?_cons_zero, List.getElem?_cons_succ, List.set_cons_zero, List.set_cons_succ, ite_self, Bool.false_eq_true, if_false, if_true]
    refine gCall_of fun _ => ⟨y, 3, rfl, gr, ?_⟩
    rw [hrow]
    refine ⟨true, rfl, ?_⟩
    rw [if_neg (by decide), gIx_of er a0]
    refine gCall_of fun _ => ⟨r.1, rfl, f1, ?_⟩
    refine ⟨true, rfl, ?_⟩
    rw [if_neg (by decide), gIx_of er a0, gEq_str (nm_ok f1) (nm_ok ho)]
    have e1 : (r.1 == office) = false := by simpa using f5
    rw [e1]
    refine ⟨false, rfl, ?_⟩
    rw [if_neg (by decide), gIx_of er a0]
    rw [Nat.zero_add] at *
    obtain ⟨g1, g2, g3⟩ := hr0.at hr1
    have k0 : (((rs.take j).map fun r => (r.1, D.bl true)).any fun p => decide (p.1 = r.1)) = false := by
      rw [known_any, List.any_eq_false]
      exact fun s hs => by simpa using g3 s hs
    refine gHas_strK k0 ⟨false, rfl, ?_⟩
    rw [if_neg (by decide), gIx_of er a1]
    refine ⟨⟨_, rfl⟩, true, rfl, ?_⟩
    rw [if_neg (by decide), gIx_of er a1, gEq_str (nm_ok f2) (nm_ok ho)]
    have step : (true = true → (((rs.take j).map fun r => (r.1, D.bl true)).any fun p => decide (p.1 = r.2.1)) = true) ∨ r.2.1 = office := by
      rcases g1 with g1 | ⟨s, hs, e⟩
      · rw [List.mem_singleton] at g1
        exact .inr g1
      · refine .inl fun _ => ?_
        rw [known_any, List.any_eq_true]
        exact ⟨s, hs, by simpa using e⟩
    have hput : D.dct (putD (((rs.take j).map fun r => (r.1, D.bl true)).map fun p => ((.str p.1 : D), p.2)) (.inr r.1) (D.bl true)) = strK ((rs.take (j + 1)).map fun r => (r.1, D.bl true)) := by
      rw [putD_strK k0, List.take_succ_eq_append_getElem (List.getElem?_eq_some_iff.mp hr1).1, List.map_append, (List.getElem?_eq_some_iff.mp hr1).2]
      rfl
    by_cases ho2 : r.2.1 = office
    · refine ⟨false, by simp [ho2], ?_⟩
      rw [if_neg (by decide)]
      rw [gIx_of er a2]
      refine gCall_of fun _ => ⟨.int r.2.2, rfl, rfl, true, rfl, ?_⟩
      rw [if_neg (by decide), gIx_of er a2, gI_of]
      refine ⟨trivial, _, rfl, ?_⟩
      rw [if_neg (by simp; omega)]
      refine ⟨_, m, rfl, strK_plain _, by rw [List.length_map, List.length_map, List.length_take]; show _ < 16777216; omega, ?_⟩
      rw [gIx_of er a0]
      refine ⟨.inr r.1, rfl, ?_⟩
      rw [hput]
      exact kk _ ⟨_, _, _, rfl⟩
    · refine ⟨true, by simp [ho2], ?_⟩
      rw [if_pos rfl, gIx_of er a1]
      refine gHas_strK (step.resolve_right ho2 rfl) ⟨false, rfl, ?_⟩
      rw [if_neg (by decide)]
      rw [gIx_of er a2]
      refine gCall_of fun _ => ⟨.int r.2.2, rfl, rfl, true, rfl, ?_⟩
      rw [if_neg (by decide), gIx_of er a2, gI_of]
      refine ⟨trivial, _, rfl, ?_⟩
      rw [if_neg (by simp; omega)]
      refine ⟨_, m, rfl, strK_plain _, by rw [List.length_map, List.length_map, List.length_take]; show _ < 16777216; omega, ?_⟩
      rw [gIx_of er a0]
      refine ⟨.inr r.1, rfl, ?_⟩
      rw [hput]
      exact kk _ ⟨_, _, _, rfl⟩
  · obtain ⟨s3, s4, m, rfl⟩ := hI
    try simp only [frz, params, setAll, List.zipWith, List.length_cons, List.length_nil, Nat.reduceAdd, Nat.reduceSub, List.replicate, List.append_nil, List.cons_append, List.nil_append, getV_va, Pt.sl, true_and, List.getElem?_cons_zero, List.getElem?_cons_succ, List.set_cons_zero, List.set_cons_succ, ite_self, Bool.false_eq_true, if_false, if_true]
    exact q

end
theorem dc_mapS {gt : TDG} {ft : TDt} {fk fe : TD} {ρw : Ro} {Q : Dv → Prop} (kf : Dv → Str) (vf : Dv → D) : ∀ (xs : List Dv) (acc : List (Str × D)) (n : Bool), (acc.map (·.1) ++ xs.map kf).Nodup →
    (∀ x ∈ xs, ∀ (K : Key → D → Bool → Prop) (K0 : Prop), (∀ m, K (.inr (kf x)) (vf x) m) → gt x ρw fun ρ2 => ft ρ2 XQ0 fun b => if b = true then fk ρ2 XQ0 fun y => ∃ k, y.d = keyD k ∧ fe ρ2 XQ0 fun z => K k z.d z.fr else K0) →
    (∀ m, Q ⟨strK (acc ++ xs.map fun x => (kf x, vf x)), m, none⟩) → dcGo gt ft fk fe ρw Q xs (acc.map fun p => ((.str p.1 : D), p.2)) n
  | [], acc, n, _, _, q => by
    have := q n
    rw [List.map_nil, List.append_nil] at this
    exact this
  | x :: xs, acc, n, nd, st, q => by
    refine st x List.mem_cons_self (fun k d m => dcGo gt ft fk fe ρw Q xs (putD (acc.map fun p => ((.str p.1 : D), p.2)) k d) (n && m)) _ fun m => ?_
    have hn : (acc.any fun p => decide (p.1 = kf x)) = false := by
      rw [List.any_eq_false]
      intro p hp
      rw [List.nodup_append] at nd
      simpa using nd.2.2 p.1 (List.mem_map.mpr ⟨p, hp, rfl⟩) (kf x) (by simp)
    have e := putD_strK (d := vf x) hn
    unfold strK at e
    rw [D.dct.inj e]
    refine dc_mapS kf vf xs _ _ ?_ (fun y hy => st y (List.mem_cons_of_mem _ hy)) fun m => ?_
    · rw [List.map_append]
      simpa using nd
    · have := q m
      rw [List.map_cons] at this
      rw [List.append_assoc]
      exact this
def roadK (x : Dv) : Str := match x.d.seq with
  | some (.str a :: _) => a
  | _ => ""
def roadV (x : Dv) : D := match x.d.seq with
  | some [_, b, c] => .tup [b, c]
  | _ => .non
def roadKD (r : Road) : Str × D := (r.1, .tup [.str r.2.1, .int r.2.2])
theorem road_rows {n : Bool} : ∀ {rs : List Road} {ys : List D}, Paired (fun (r : Road) (y : D) => y.seq = some (roadL r) ∧ y.good = true) rs ys → (ys.map fun d => (⟨d, n, none⟩ : Dv)).map (fun x => (roadK x, roadV x)) = rs.map roadKD ∧ (ys.map fun d => (⟨d, n, none⟩ : Dv)).map roadK = rs.map (·.1)
  | _, _, .nil => ⟨rfl, rfl⟩
  | _, _, .cons (a := r) (b := y) ⟨e, _⟩ t => by
    obtain ⟨h1, h2⟩ := road_rows (n := n) t
    have e1 : roadK ⟨y, n, none⟩ = r.1 := by unfold roadK; rw [e]; rfl
    have e2 : roadV ⟨y, n, none⟩ = .tup [.str r.2.1, .int r.2.2] := by unfold roadV; rw [e]; rfl
    rw [List.map_cons, List.map_cons, List.map_cons, List.map_cons, List.map_cons, h1, h2, e1, e2]
    exact ⟨rfl, rfl⟩
def tupD (d : D) : D := .tup (d.seq.getD [])
theorem rows_tup : ∀ {l : List Row} {ys : List D}, Paired (fun (r : Row) (y : D) => y.seq = some (rowL r) ∧ y.good = true) l ys → ys.map tupD = l.map rowD
  | _, _, .nil => rfl
  | _, _, .cons (a := r) (b := y) ⟨e, _⟩ t => by
    rw [List.map_cons, List.map_cons, rows_tup t]
    unfold tupD
    rw [e]
    rfl
theorem road_get {rs : List Road} (nd : (rs.map (·.1)).Nodup) {r : Road} (hr : r ∈ rs) : getK ((rs.map roadKD).map fun p => ((.str p.1 : D), p.2)) (.inr r.1) = some (.tup [.str r.2.1, .int r.2.2]) := by
  rw [getK_map (fun p : Str × D => p.1) (fun p => p.2)]
  cases e : (rs.map roadKD).find? fun a => decide (a.1 = r.1) with
  | none => exact absurd (List.find?_eq_none.mp e _ (List.mem_map.mpr ⟨r, hr, rfl⟩)) (by simp [roadKD])
  | some s =>
    have h1 := List.find?_some e
    simp only [decide_eq_true_eq] at h1
    obtain ⟨t, ht, et⟩ := List.mem_map.mp (List.mem_of_find?_eq_some e)
    subst et
    rw [inj_nodup nd ht hr h1]
    rfl
def unS : D → Str
  | .str x => x
  | _ => ""
theorem srt_names (l : List Str) : ∃ zs : List Str, srtD (l.map D.str) = zs.map D.str ∧ zs.Perm l := by
  refine ⟨(srtD (l.map D.str)).map unS, ?_, ?_⟩
  · rw [List.map_map]
    have : ∀ d ∈ srtD (l.map D.str), (D.str ∘ unS) d = d := fun d hd => by
      obtain ⟨x, _, rfl⟩ := List.mem_map.mp ((srtD_perm _).mem_iff.mp hd)
      rfl
    exact (List.map_congr_left (g := id) this |>.trans (List.map_id _)).symm
  · have := (srtD_perm (l.map D.str)).map unS
    rw [List.map_map] at this
    have e : l.map (unS ∘ D.str) = l := (List.map_congr_left (g := id) fun _ _ => rfl).trans (List.map_id _)
    rwa [e] at this
theorem items_strs {Q : List Dv → Prop} {l : List D} {ks : List Str} {n : Bool} {v : Option V} (e : l = ks.map D.str) (q : ∀ f, Q (ks.map fun k => ⟨.str k, f, none⟩)) : items ⟨.lst l, n, v⟩ Q := by
  rw [items_seq rfl, e, List.map_map]
  exact q _
def parF (rs : List Road) (z : Str) : Str := ((rs.find? fun r => decide (r.1 = z)).map (·.2.1)).getD ""
theorem parF_at {rs : List Road} (nd : (rs.map (·.1)).Nodup) {r : Road} (hr : r ∈ rs) : parF rs r.1 = r.2.1 := by
  unfold parF
  cases e : rs.find? fun s => decide (s.1 = r.1) with
  | none => exact absurd (List.find?_eq_none.mp e r hr) (by simp)
  | some s =>
    have h1 := List.find?_some e
    simp only [decide_eq_true_eq] at h1
    rw [inj_nodup nd (List.mem_of_find?_eq_some e) hr h1]
    rfl
theorem behind_eq {p : PV} (nd : (p.roads.map (·.1)).Nodup) {zs : List Str} (hz : srtD ((p.roads.map (·.1)).map D.str) = zs.map D.str) (pz : zs.Perm (p.roads.map (·.1))) (k : Str) : p.behind k = (zs.filter fun z => parF p.roads z == k).map D.str := by
  have e0 : (p.roads.map fun r => D.str r.1) = (p.roads.map (·.1)).map D.str := by rw [List.map_map]; rfl
  unfold PV.behind
  rw [e0, hz, List.filter_map]
  congr 1
  refine List.filter_congr fun z hm => ?_
  obtain ⟨r, hr, e⟩ := List.mem_map.mp (pz.mem_iff.mp hm)
  subst e
  rw [parF_at nd hr]
  show (p.roads.any fun s => decide (s.1 = r.1) && decide (s.2.1 = k)) = (r.2.1 == k)
  rw [Bool.eq_iff_iff, List.any_eq_true]
  constructor
  · rintro ⟨s, hs, h⟩
    rw [Bool.and_eq_true, decide_eq_true_eq, decide_eq_true_eq] at h
    rw [inj_nodup nd hs hr h.1] at h
    simpa using h.2
  · intro h
    refine ⟨r, hr, ?_⟩
    simpa using h
theorem paired_mem {α β : Type} {P : α → β → Prop} {xs : List α} {ys : List β} (h : Paired P xs ys) {y : β} (hy : y ∈ ys) : ∃ x ∈ xs, P x y := by
  obtain ⟨i, hi⟩ := List.getElem?_of_mem hy
  obtain ⟨x, h1, h2⟩ := paired_get h hi
  exact ⟨x, List.mem_of_getElem? h1, h2⟩

section
variable {P : Program} {w : World} {K : PySem.W.Frag} {mg : Str → Option Value} {base : Heap}
theorem sc_Plan___init__ : FnScope ["self", "office", "roads", "riders", "letters", "wrong", "post", "other", "hours", "rider", "letter"] ["self", "office", "roads", "riders", "letters"] (defScope s_Plan___init__) := ⟨rfl, rfl, rfl, by decide +kernel, rfl, by decide +kernel, by decide +kernel⟩
def c_Plan___init__ : DC := fun ds _ _ Q => ∃ (office : Str) (R S T : D) (rs : List Road) (ra la : List Row), ds = [.str office, R, S, T] ∧ TreeOk office rs ∧ Forms roadL rs R ∧ Forms rowL ra S ∧ Forms rowL la T ∧ (∀ r ∈ ra, (∃ x ∈ rs, x.1 = r.1) ∧ 0 ≤ r.2.1 ∧ r.2.1 ≤ 10 ^ 6 ∧ 0 < r.2.2 ∧ r.2.2 ≤ 10 ^ 6) ∧ (∀ r ∈ la, (∃ x ∈ rs, x.1 = r.1) ∧ 0 ≤ r.2.1 ∧ r.2.1 ≤ 10 ^ 6 ∧ 0 ≤ r.2.2 ∧ r.2.2 ≤ 10 ^ 6) ∧ ra.length ≤ 1000 ∧ la.length ≤ 1000 ∧ ∀ f, Q ⟨(PV.mk office rs (sortT ra) (sortT la)).o, f, none⟩
theorem ok_Plan___init__ (T : Txt K mg) : FnM P w K mg base 5 T.f_Plan___init__.f T.f_Plan___init__.fd ["self", "office", "roads", "riders", "letters"] 0 c_Plan___init__ := by
  refine fnM_ok T.f_Plan___init__.ok sc_Plan___init__ fun cdv A outer s H E hr => ⟨_, _, (dss_cons (ds_if [] (dt_not (dt_val (de_call ((ok_is_name T).mono (by decide)) hr (by rfl) T.f_is_name.g T.f_is_name.ok.kp T.f_is_name.b (passE (takes_of rfl rfl rfl rfl)) rfl (da_cons (de_var (pv 1)) da_nil)))) (dss_one ds_never) dss_nil)
      (dss_cons (ds_asg [] (de_call ((ok_first_bad_road T).mono (by decide)) hr (by rfl) T.f_first_bad_road.g T.f_first_bad_road.ok.kp T.f_first_bad_road.b (passE (takes_of rfl rfl rfl rfl)) rfl (da_cons (de_var (pv 1)) (da_cons (de_var (pv 2)) da_nil))) (dg_name (pg_name (i := 5) sc_Plan___init__.nd rfl (Or.inl rfl))) (fun _ _ a b => ps_asg a b))
      (dss_cons (ds_if [] (dt_cmp dop_notN (de_var (pv 5)) de_non (nomark _)) (dss_one ds_never) dss_nil)
      (dss_cons (ds_ost [] T.clP (de_var (pv 1)) (pv 0) (by decide +kernel))
      (dss_cons (ds_ost [] T.clP (DN.de (dn_dc (own := [("post", 6), ("other", 7), ("hours", 8)]) rfl sc_Plan___init__.nd (di_seq (de_var (pv 2))) (blkOk_by (N := ["self", "office", "roads", "riders", "letters", "wrong", "post", "other", "hours", "rider", "letter"]) (sc := defScope s_Plan___init__) (by decide +kernel)) (fun _ _ _ _ _ => (dg_tup (n := 3) rfl (dgs_cons (dg_name (pg_name (i := 6) sc_Plan___init__.nd rfl (Or.inl rfl))) (dgs_cons (dg_name (pg_name (i := 7) sc_Plan___init__.nd rfl (Or.inl rfl))) (dgs_cons (dg_name (pg_name (i := 8) sc_Plan___init__.nd rfl (Or.inl rfl))) dgs_nil))))) (fun _ _ _ _ _ => dts_nil) (fun _ _ _ _ _ => (de_var (pv 6))) (fun _ _ _ _ _ => (de_tup (da_cons (de_var (pv 7)) (da_cons (de_var (pv 8)) da_nil)))) (by decide))) (pv 0) (by decide +kernel))
      (dss_cons (ds_asg [0] (de_call ((ok_first_bad T).mono (by decide)) hr (by rfl) T.f_first_bad.g T.f_first_bad.ok.kp T.f_first_bad.b (passE (takes_of rfl rfl rfl rfl)) rfl (da_cons (de_var (pv 3)) (da_cons (de_bnd (m := "is_rider") (g := T.f_Plan_is_rider.f) ⟨T.bmR, T.clP.cls⟩ (de_var (pv 0))) da_nil))) (dg_name (pg_name (i := 5) sc_Plan___init__.nd rfl (Or.inl rfl))) (fun _ _ a b => ps_asg a b))
      (dss_cons (ds_if [] (dt_cmp dop_notN (de_var (pv 5)) de_non (nomark _)) (dss_one ds_never) dss_nil)
      (dss_cons (ds_asg [0] (de_call ((okL_first_bad T).mono (by decide)) hr (by rfl) T.f_first_bad.g T.f_first_bad.ok.kp T.f_first_bad.b (passE (takes_of rfl rfl rfl rfl)) rfl (da_cons (de_var (pv 4)) (da_cons (de_bnd (m := "is_letter") (g := T.f_Plan_is_letter.f) ⟨T.bmL, T.clP.cls⟩ (de_var (pv 0))) da_nil))) (dg_name (pg_name (i := 5) sc_Plan___init__.nd rfl (Or.inl rfl))) (fun _ _ a b => ps_asg a b))
      (dss_cons (ds_if [] (dt_cmp dop_notN (de_var (pv 5)) de_non (nomark _)) (dss_one ds_never) dss_nil)
      (dss_cons (ds_ost [] T.clP (de_callB (dcl_sortedD (hr.mono (by decide))) (by rfl) T.n_sorted (by decide +kernel) (da_cons (DN.de (dn_lc (own := [("rider", 9)]) rfl sc_Plan___init__.nd (di_seq (de_var (pv 3))) (blkOk_by (N := ["self", "office", "roads", "riders", "letters", "wrong", "post", "other", "hours", "rider", "letter"]) (sc := defScope s_Plan___init__) (by decide +kernel)) (fun _ _ _ _ _ => (dg_name (pg_name (i := 9) sc_Plan___init__.nd rfl (Or.inl rfl)))) (fun _ _ _ _ _ => dts_nil) (fun _ _ _ _ _ => (de_callTy dcl_tuple (by rfl) T.n_tuple (by decide +kernel) (da_cons (de_var (pv 9)) da_nil))) (by decide))) da_nil)) (pv 0) (by decide +kernel))
      (dss_cons (ds_ost [] T.clP (de_callB (dcl_sortedD (hr.mono (by decide))) (by rfl) T.n_sorted (by decide +kernel) (da_cons (DN.de (dn_lc (own := [("letter", 10)]) rfl sc_Plan___init__.nd (di_seq (de_var (pv 4))) (blkOk_by (N := ["self", "office", "roads", "riders", "letters", "wrong", "post", "other", "hours", "rider", "letter"]) (sc := defScope s_Plan___init__) (by decide +kernel)) (fun _ _ _ _ _ => (dg_name (pg_name (i := 10) sc_Plan___init__.nd rfl (Or.inl rfl)))) (fun _ _ _ _ _ => dts_nil) (fun _ _ _ _ _ => (de_callTy dcl_tuple (by rfl) T.n_tuple (by decide +kernel) (da_cons (de_var (pv 10)) da_nil))) (by decide))) da_nil)) (pv 0) (by decide +kernel))
      (dss_behind (i := 0) (ip := 6) rfl sc_Plan___init__.nd hr.units T.clP (passes_of rfl) (pv 0) (pv 0) (di_seq (DN.de (dn_lst (da_cons (de_var (pv 1)) (da_starD rfl (de_fldO (clT_of T.clP) (pv 0)) da_nil))))) (blkOk_by (N := ["self", "office", "roads", "riders", "letters", "wrong", "post", "other", "hours", "rider", "letter"]) (sc := defScope s_Plan___init__) (own := [("post", 6)]) (by decide +kernel)) (fun _ _ _ _ _ => pg_name (i := 6) sc_Plan___init__.nd rfl (Or.inl rfl)) (fun _ _ _ _ _ => pv 6) (di_seq (de_callB (dcl_sortedK rfl) (by rfl) T.n_sorted (by decide +kernel) (da_cons (de_fldO (clT_of T.clP) (pv 0)) da_nil))) (pg_name (i := 6) sc_Plan___init__.nd rfl (Or.inl rfl)) (de_ix (de_dget hr.units (de_fldO (clT_of T.clP) (pv 0)) (de_var (pv 6)) (fun _ _ => rfl)) de_int (fun _ _ => rfl)) (fun _ _ => rfl) (fun _ a => pss_one (ps_expr (pe_bm PySem.F.plainAttrs_list PySem.F.slot_list_append PySem.F.type_list_append mt_append a (pa_cons (pv 6) pa_nil)))))))))))))))), by decide +kernel, fun aP ds vs XQ Q hd hv h => ?_⟩
  obtain ⟨office, R, S, T', rs, ra, la, rfl, ht, hR, hS, hT, hra, hla, lra, lla, q⟩ := h
  match vs, hv with
  | [v, v2, v3, v4], _ =>
  try simp only [frz, params, setAll, List.zipWith, List.length_cons, List.length_nil, Nat.reduceAdd, Nat.reduceSub, List.replicate, List.append_nil, List.cons_append, List.nil_append, getV_va, Pt.sl, true_and, List.getElem?_cons_zero, List.getElem?_cons_succ, List.set_cons_zero, List.set_cons_succ, ite_self, Bool.false_eq_true, if_false, if_true]
  refine gCall_of fun _ => ⟨office, rfl, ht.o, ?_⟩
  refine ⟨true, rfl, ?_⟩
  rw [if_neg (by decide)]
  refine gCall_of fun _ => ⟨office, R, rs, rfl, ht.o, ht.r, ht.l, hR, ?_⟩
  refine ⟨⟨false, rfl, ?_⟩, fun v z => nomatch z⟩
  rw [if_neg (by decide)]
  refine ⟨aP, 1, 2, [], true, rfl, by decide, by decide, rfl, ?_⟩
  obtain ⟨t1, t2⟩ := ht.facts
  have hl8 := ht.l
  obtain ⟨gR, ysR, eR, prR⟩ := hR
  have hlR : ysR.length = rs.length := (Paired.length prR).symm
  rw [items_seq eR]
  refine ⟨by rw [List.length_map]; show _ ≤ 16777216; omega, ?_⟩
  obtain ⟨hKD, hK⟩ := road_rows (n := Dv.fr ⟨R, R.imm, some v2⟩) prR
  refine dc_mapS roadK roadV _ [] true (by rw [hK]; exact t2) (fun x hx K K0 kk => ?_) fun mm => ?_
  · obtain ⟨y, hy, rfl⟩ := List.mem_map.mp hx
    obtain ⟨r, hr, er, gr⟩ := paired_mem prR hy
    try simp only [lcStep, true_and, wipeR, List.map_cons, List.map_nil, List.set_cons_succ, List.set_cons_zero, List.getElem?_cons_succ, List.getElem?_cons_zero, getV_va, if_true]
    rw [unp_seq er]
    refine ⟨rfl, ?_⟩
    simp only [roadL, List.map_cons, List.map_nil]
    try simp only [frz, params, setAll, List.zipWith, List.length_cons, List.length_nil, Nat.reduceAdd, Nat.reduceSub, List.replicate, List.append_nil, List.cons_append, List.nil_append, getV_va, Pt.sl, true_and, List.getElem?_cons_zero, List.getElem?_cons_succ, List.set_cons_zero, List.set_cons_succ, ite_self, Bool.false_eq_true, if_false, if_true]
    have e1 : roadK ⟨y, Dv.fr ⟨R, R.imm, some v2⟩, none⟩ = r.1 := by unfold roadK; rw [er]; rfl
    have e2 : roadV ⟨y, Dv.fr ⟨R, R.imm, some v2⟩, none⟩ = .tup [.str r.2.1, .int r.2.2] := by unfold roadV; rw [er]; rfl
    refine ⟨.inr r.1, rfl, by decide, ?_⟩
    rw [e1, e2] at kk
    exact kk _
  rw [hKD, List.nil_append]
  refine ⟨aP, 2, 3, _, _, rfl, by decide, by decide, rfl, ?_⟩
  refine ⟨_, _, rfl, by rw [pk_mod (by decide)]; decide, by rw [objN_pk (by decide)]; decide +kernel, ?_⟩
  have hany : ∀ {x : Str}, (∃ r ∈ rs, r.1 = x) → ((rs.map roadKD).any fun p => decide (p.1 = x)) = true := fun {x} ⟨r, hr, e⟩ => List.any_eq_true.mpr ⟨_, List.mem_map.mpr ⟨r, hr, rfl⟩, decide_eq_true e⟩
  refine gCall_of fun _ => ⟨S, pk aP 3, _, rs.map roadKD, 1, ra, rfl, by rw [objN_pk (by decide)]; rfl, rfl, hS, fun r hr => ?_, ?_⟩
  · obtain ⟨h1, h2, _, h3, _⟩ := hra r hr
    exact ⟨hany h1, h2, h3⟩
  try simp only [D.sca, frz, params, setAll, List.zipWith, List.length_cons, List.length_nil, Nat.reduceAdd, Nat.reduceSub, List.replicate, List.append_nil, List.cons_append, List.nil_append, getV_va, Pt.sl, true_and, List.getElem?_cons_zero, List.getElem?_cons_succ, List.set_cons_zero, List.set_cons_succ, ite_self, Bool.false_eq_true, if_false, if_true]
  refine ⟨⟨false, rfl, ?_⟩, fun v z => nomatch z⟩
  rw [if_neg (by decide)]
  refine ⟨_, _, rfl, by rw [pk_mod (by decide)]; decide, by rw [objN_pk (by decide)]; decide +kernel, ?_⟩
  refine gCall_of fun _ => ⟨T', pk aP 3, _, rs.map roadKD, 1, la, rfl, by rw [objN_pk (by decide)]; rfl, rfl, hT, fun r hr => ?_, ?_⟩
  · obtain ⟨h1, h2, _, h3, _⟩ := hla r hr
    exact ⟨hany h1, h2, h3⟩
  try simp only [D.sca, frz, params, setAll, List.zipWith, List.length_cons, List.length_nil, Nat.reduceAdd, Nat.reduceSub, List.replicate, List.append_nil, List.cons_append, List.nil_append, getV_va, Pt.sl, true_and, List.getElem?_cons_zero, List.getElem?_cons_succ, List.set_cons_zero, List.set_cons_succ, ite_self, Bool.false_eq_true, if_false, if_true]
  refine ⟨⟨false, rfl, ?_⟩, fun v z => nomatch z⟩
  rw [if_neg (by decide)]
  obtain ⟨gS, ysS, eS, prS⟩ := hS
  have hlS : ysS.length = ra.length := (Paired.length prS).symm
  rw [items_seq eS]
  refine ⟨by rw [List.length_map]; show _ ≤ 16777216; omega, ?_⟩
  refine lc_mapA (g := tupD) (fun d hd K1 K0 kk => ?_) fun mS => ?_
  · obtain ⟨r, hr, er, gr⟩ := paired_mem prS hd
    try simp only [lcStep, true_and, wipeR, List.map_cons, List.map_nil, List.set_cons_succ, List.set_cons_zero, List.getElem?_cons_succ, List.getElem?_cons_zero, getV_va, if_true]
    try simp only [frz, params, setAll, List.zipWith, List.length_cons, List.length_nil, Nat.reduceAdd, Nat.reduceSub, List.replicate, List.append_nil, List.cons_append, List.nil_append, getV_va, Pt.sl, true_and, List.getElem?_cons_zero, List.getElem?_cons_succ, List.set_cons_zero, List.set_cons_succ, ite_self, Bool.false_eq_true, if_false, if_true]
    refine g1_tup er ?_
    have e : tupD d = .tup (rowL r) := by unfold tupD; rw [er]; rfl
    rw [e] at kk
    exact kk _ _
  rw [rows_tup prS, g1_of]
  refine ⟨_, rfl, canSort_row (n := 10 ^ 6) (by decide) fun r hr => ?_, ?_⟩
  · obtain ⟨⟨x, hx, ex⟩, b1, b2, b3, b4⟩ := hra r hr
    exact ⟨ex ▸ (t1 x hx).1, by omega, by omega⟩
  rw [srt_rows]
  refine ⟨aP, 3, 4, _, _, rfl, by decide, by decide, rfl, ?_⟩
  obtain ⟨gT, ysT, eT, prT⟩ := hT
  have hlT : ysT.length = la.length := (Paired.length prT).symm
  rw [items_seq eT]
  refine ⟨by rw [List.length_map]; show _ ≤ 16777216; omega, ?_⟩
  refine lc_mapA (g := tupD) (fun d hd K1 K0 kk => ?_) fun mT => ?_
  · obtain ⟨r, hr, er, gr⟩ := paired_mem prT hd
    try simp only [lcStep, true_and, wipeR, List.map_cons, List.map_nil, List.set_cons_succ, List.set_cons_zero, List.getElem?_cons_succ, List.getElem?_cons_zero, getV_va, if_true]
    try simp only [frz, params, setAll, List.zipWith, List.length_cons, List.length_nil, Nat.reduceAdd, Nat.reduceSub, List.replicate, List.append_nil, List.cons_append, List.nil_append, getV_va, Pt.sl, true_and, List.getElem?_cons_zero, List.getElem?_cons_succ, List.set_cons_zero, List.set_cons_succ, ite_self, Bool.false_eq_true, if_false, if_true]
    refine g1_tup er ?_
    have e : tupD d = .tup (rowL r) := by unfold tupD; rw [er]; rfl
    rw [e] at kk
    exact kk _ _
  rw [rows_tup prT, g1_of]
  refine ⟨_, rfl, canSort_row (n := 10 ^ 6) (by decide) fun r hr => ?_, ?_⟩
  · obtain ⟨⟨x, hx, ex⟩, b1, b2, b3, b4⟩ := hla r hr
    exact ⟨ex ▸ (t1 x hx).1, by omega, by omega⟩
  rw [srt_rows]
  refine ⟨aP, 4, 5, _, _, rfl, by decide, by decide, rfl, ?_⟩
  refine ⟨by decide, by decide, aP, _, _, _, _, _, rfl, fun j d n hj => ?_, ?_⟩
  · match j, hj with
    | 0, _ => rfl
    | 1, hj => simp at hj
    | 2, hj => simp at hj
    | 3, hj => simp at hj
    | 4, hj => simp at hj
    | 5, hj => simp at hj
    | 6, hj => simp at hj
    | 7, hj => simp at hj
    | 8, hj => simp at hj
    | 9, hj => simp at hj
    | 10, hj => simp at hj
    | j + 11, hj => simp at hj
  refine ⟨pk aP 5, _, _, 1, _, rfl, by rw [objN_pk (by decide)]; rfl, rfl, rs.map roadKD, rfl, by rw [List.length_map, List.length_map]; omega, ?_⟩
  refine items_strs (ks := office :: rs.map (·.1)) ?_ fun f1 => ⟨_, f1, rfl, ?_, ?_, fun b => ?_⟩
  · rw [List.map_cons, List.map_cons, List.map_map, List.map_map, List.map_map]
    rfl
  · refine List.nodup_cons.mpr ⟨fun z => ?_, t2⟩
    obtain ⟨r, hr, e⟩ := List.mem_map.mp z
    exact (t1 r hr).2.2.2.2 (by rw [e]; simp)
  · rw [List.length_cons, List.length_map]
    show _ < 16777216
    omega
  refine ⟨pk aP 0, _, _, 1, _, rfl, by rw [objN_pk (by decide)]; rfl, rfl, ?_⟩
  rw [g1_of]
  refine ⟨rs.map roadKD, rfl, by rw [List.length_map]; omega, ?_⟩
  obtain ⟨zs, hzs, pzs⟩ := srt_names (rs.map (·.1))
  have hzs2 : srtD ((rs.map roadKD).map fun p => .str p.1) = zs.map D.str := by
    rw [← hzs, List.map_map, List.map_map]
    rfl
  refine items_strs hzs2 fun f2 => ⟨zs, f2, rfl, ?_, parF rs, fun z hz => ?_, ?_⟩
  · rw [pzs.length_eq, List.length_map]
    show _ < 16777216
    omega
  · obtain ⟨r, hr, e⟩ := List.mem_map.mp (pzs.mem_iff.mp hz)
    subst e
    rw [parF_at t2 hr]
    refine ⟨?_, ?_⟩
    · rcases List.getElem?_of_mem hr with ⟨j, hj⟩
      rcases (ht.r.at hj).1 with h | ⟨s, hs, h⟩
      · rw [List.mem_singleton] at h
        rw [h]
        exact List.mem_cons_self
      · exact List.mem_cons_of_mem _ (List.mem_map.mpr ⟨s, List.mem_of_mem_take hs, h⟩)
    · refine ⟨pk aP 0, _, _, 1, _, rfl, by rw [objN_pk (by decide)]; rfl, rfl, ?_⟩
      refine ⟨_, .inr r.1, _, rfl, rfl, road_get t2 hr, ?_⟩
      dsimp only
      rw [gIx_of rfl (show atI [D.str r.2.1, .int r.2.2] 0 = some (.str r.2.1) from rfl)]
  refine ⟨_, _, rfl, ?_⟩
  have e1 : strK (rs.map roadKD) = roadsD ⟨office, rs, sortT ra, sortT la⟩ := by
    unfold strK roadsD
    rw [List.map_map]
    rfl
  have e2 : D.dct ((office :: rs.map (·.1)).map fun k => (.str k, .lst ((zs.filter fun z => parF rs z == k).map D.str))) = behindD ⟨office, rs, sortT ra, sortT la⟩ := by
    unfold behindD
    congr 1
    refine List.map_congr_left fun k _ => ?_
    rw [behind_eq (p := ⟨office, rs, sortT ra, sortT la⟩) t2 hzs pzs k]
  rw [e1, e2]
  exact q _

end
theorem PlanOk.re {p : PV} (h : PlanOk p) {rs : List Road} (hr : RoadsOk [p.office] rs) (pr : rs.Perm p.roads) : PlanOk (p.re rs) :=
  ⟨⟨h.t.o, hr, fun e => h.t.ne (by have e : rs = [] := e; rw [e] at pr; exact List.nil_perm.mp pr), by rw [show (p.re rs).roads = rs from rfl, pr.length_eq]; exact h.t.l⟩, h.ro, h.lo, fun r hr => let ⟨x, hx, e⟩ := h.rp r hr; ⟨x, pr.mem_iff.mpr hx, e⟩, fun r hr => let ⟨x, hx, e⟩ := h.lp r hr; ⟨x, pr.mem_iff.mpr hx, e⟩, h.rb, h.lb, h.rl, h.ll⟩
theorem nic_row {r : Row} (h : NmOk r.1) (h1 : r.2.1.natAbs ≤ 10 ^ 30) (h2 : r.2.2.natAbs ≤ 10 ^ 30) : Nic 1 (3 * 1923 + 3) (rowD r) := .tup (l := 3) (by simp) (by decide) fun x hx => by
  simp only [List.mem_cons, List.not_mem_nil, or_false] at hx
  rcases hx with rfl | rfl | rfl
  · exact .str (nm_ok h) (Nat.le_trans h.l5 (by decide))
  · exact .int h1
  · exact .int h2
theorem nic_road {r : Road} (h : NmOk r.1) (h1 : NmOk r.2.1) (h2 : r.2.2.natAbs ≤ 10 ^ 30) : Nic 1 (3 * 1923 + 3) (roadD r) := .tup (l := 3) (by simp) (by decide) fun x hx => by
  simp only [List.mem_cons, List.not_mem_nil, or_false] at hx
  rcases hx with rfl | rfl | rfl
  · exact .str (nm_ok h) (Nat.le_trans h.l5 (by decide))
  · exact .str (nm_ok h1) (Nat.le_trans h1.l5 (by decide))
  · exact .int h2
theorem perm_rows {l : List Row} {ys : List D} (h : ys.Perm (l.map rowD)) : ∃ m : List Row, ys = m.map rowD ∧ m.Perm l := by
  have key : ∀ y ∈ ys, ∃ r : Row, y = rowD r := fun y hy => let ⟨r, _, e⟩ := List.mem_map.mp (h.mem_iff.mp hy); ⟨r, e.symm⟩
  have ex : ∃ m : List Row, ys = m.map rowD := by
    clear h
    induction ys with
    | nil => exact ⟨[], rfl⟩
    | cons y ys ih =>
      obtain ⟨r, e⟩ := key y (by simp)
      obtain ⟨m, em⟩ := ih fun z hz => key z (by simp [hz])
      exact ⟨r :: m, by rw [e, em]; rfl⟩
  obtain ⟨m, rfl⟩ := ex
  refine ⟨m, rfl, ?_⟩
  let un : D → Row := fun d => match d with
    | .tup [.str a, .int i, .int j] => (a, i, j)
    | _ => ("", 0, 0)
  have := h.map un
  rw [List.map_map, List.map_map] at this
  have e : ∀ l : List Row, l.map (un ∘ rowD) = l := fun l => (List.map_congr_left (g := id) fun _ _ => rfl).trans (List.map_id _)
  rwa [e, e] at this
theorem seq_row (r : Row) : (rowD r).seq = some (rowL r) := rfl
theorem seq_road (r : Road) : (roadD r).seq = some (roadL r) := rfl

section
variable {P : Program} {w : World} {K : PySem.W.Frag} {mg : Str → Option Value} {base : Heap}
theorem sc__law_made : FnScope ["stream", "plan", "office", "roads", "riders", "letters", "some", "notes"] ["stream", "plan"] (defScope s__law_made) := ⟨rfl, rfl, rfl, by decide +kernel, rfl, by decide +kernel, by decide +kernel⟩
def c__law_made : DC := fun ds _ _ Q => ∃ p : PV, ds = [.strm, p.d] ∧ PlanOk p ∧ ∀ f, Q ⟨p.o, f, none⟩
theorem ok__law_made (T : Txt K mg) : FnD P w K mg base 10 T.f__law_made.f T.f__law_made.fd ["stream", "plan"] (BIG ^ 12) c__law_made := by
  refine fn_ok T.f__law_made.ok sc__law_made fun cdv A outer s H E hr => ⟨_, _, (dss_cons (ds_asg [] (de_var (pv 1)) (dg_tup (n := 4) rfl (dgs_cons (dg_name (pg_name (i := 2) sc__law_made.nd rfl (Or.inl rfl))) (dgs_cons (dg_name (pg_name (i := 3) sc__law_made.nd rfl (Or.inl rfl))) (dgs_cons (dg_name (pg_name (i := 4) sc__law_made.nd rfl (Or.inl rfl))) (dgs_cons (dg_name (pg_name (i := 5) sc__law_made.nd rfl (Or.inl rfl))) dgs_nil))))) (fun _ _ a b => ps_asg a b))
      (dss_cons (ds_par2 (i := 6) (j := 7) [] (dp_va (de_call ((ok__law_loose T 7).mono (by decide)) hr (by rfl) T.f__law_loose.g T.f__law_loose.ok.kp T.f__law_loose.b (passE (takes_of rfl rfl rfl rfl)) rfl (da_cons (de_var (pv 0)) (da_cons (de_call ((ok__law_mixed T).mono (by decide)) hr (by rfl) T.f__law_mixed.g T.f__law_mixed.ok.kp T.f__law_mixed.b (passE (takes_of rfl rfl rfl rfl)) rfl (da_cons (de_var (pv 0)) (da_cons (de_var (pv 4)) da_nil))) da_nil)))) (dp_va (de_call ((ok__law_loose T 7).mono (by decide)) hr (by rfl) T.f__law_loose.g T.f__law_loose.ok.kp T.f__law_loose.b (passE (takes_of rfl rfl rfl rfl)) rfl (da_cons (de_var (pv 0)) (da_cons (de_call ((ok__law_mixed T).mono (by decide)) hr (by rfl) T.f__law_mixed.g T.f__law_mixed.ok.kp T.f__law_mixed.b (passE (takes_of rfl rfl rfl rfl)) rfl (da_cons (de_var (pv 0)) (da_cons (de_var (pv 5)) da_nil))) da_nil)))) rfl sc__law_made.nd rfl rfl (by decide) (by rfl) (by rfl) (by rfl))
      (dss_one (ds_ret [] (de_make T.mkP ((ok_Plan___init__ T).mono (by decide)) hr (by rfl) T.g_Plan T.f_Plan___init__.b (passE (takes_of rfl rfl rfl rfl)) rfl (da_cons (de_var (pv 2)) (da_cons (de_call ((ok__law_loose T 7).mono (by decide)) hr (by rfl) T.f__law_loose.g T.f__law_loose.ok.kp T.f__law_loose.b (passE (takes_of rfl rfl rfl rfl)) rfl (da_cons (de_var (pv 0)) (da_cons (de_var (pv 3)) da_nil))) (da_cons (de_var (pv 6)) (da_cons (de_var (pv 7)) da_nil))))))))), by decide +kernel, fun ds vs XQ Q hd hv h => ?_⟩
  obtain ⟨p, rfl, hp, q⟩ := h
  match vs, hv with
  | [v, v2], _ =>
  have h2 := hp.rl
  have h3 := hp.ll
  have hl8 := hp.t.l
  obtain ⟨t1, t2⟩ := hp.t.facts
  try simp only [frz, params, setAll, List.zipWith, List.length_cons, List.length_nil, Nat.reduceAdd, Nat.reduceSub, List.replicate, List.append_nil, List.cons_append, List.nil_append, getV_va, Pt.sl, true_and, List.getElem?_cons_zero, List.getElem?_cons_succ, List.set_cons_zero, List.set_cons_succ, ite_self, Bool.false_eq_true, if_false, if_true]
  rw [unp_seq (PV.seq p)]
  refine ⟨rfl, ?_⟩
  simp only [List.map_cons, List.map_nil]
  try simp only [frz, params, setAll, List.zipWith, List.length_cons, List.length_nil, Nat.reduceAdd, Nat.reduceSub, List.replicate, List.append_nil, List.cons_append, List.nil_append, getV_va, Pt.sl, true_and, List.getElem?_cons_zero, List.getElem?_cons_succ, List.set_cons_zero, List.set_cons_succ, ite_self, Bool.false_eq_true, if_false, if_true]
  refine gCall_of fun _ => ⟨_, p.riders.map rowD, rfl, rfl, by rw [List.length_map]; omega, fun ys f1 py => ?_⟩
  obtain ⟨ra, rfl, pra⟩ := perm_rows py
  dsimp only
  have n1 : Nic 2 (100 * (3 * 1923 + 3 + 2) + 3) (.lst (p.roads.map roadD)) := .lst (by rw [List.length_map]; omega) (by decide) fun x hx => by
    obtain ⟨r, hr, rfl⟩ := List.mem_map.mp hx
    obtain ⟨q1, q2, q3, q4, _⟩ := t1 r hr
    exact nic_road q1 q2 (by omega)
  have n2 : Nic 2 (100 * (3 * 1923 + 3 + 2) + 3) (.lst (ra.map rowD)) := .lst (by rw [List.length_map, pra.length_eq]; omega) (by decide) fun x hx => by
    obtain ⟨r, hr, rfl⟩ := List.mem_map.mp hx
    have hr' := pra.mem_iff.mp hr
    obtain ⟨x, hx, ex⟩ := hp.rp r hr'
    obtain ⟨b1, b2, b3, b4⟩ := hp.rb r hr'
    exact nic_row (ex ▸ (t1 x hx).1) (by omega) (by omega)
  obtain ⟨g1, _, _, g4, _⟩ := n1.all
  obtain ⟨g1', _, _, g4', _⟩ := n2.all
  refine gCall_of fun _ => ⟨.lst (ra.map rowD), rfl, g1', by omega, fun b fb l2 => ?_⟩
  dsimp only
  refine gCall_of fun _ => ⟨_, p.letters.map rowD, rfl, rfl, by rw [List.length_map]; omega, fun ys f2 py => ?_⟩
  obtain ⟨la, rfl, pla⟩ := perm_rows py
  dsimp only
  have n3 : Nic 2 (100 * (3 * 1923 + 3 + 2) + 3) (.lst (la.map rowD)) := .lst (by rw [List.length_map, pla.length_eq]; omega) (by decide) fun x hx => by
    obtain ⟨r, hr, rfl⟩ := List.mem_map.mp hx
    have hr' := pla.mem_iff.mp hr
    obtain ⟨x, hx, ex⟩ := hp.lp r hr'
    obtain ⟨b1, b2, b3, b4⟩ := hp.lb r hr'
    exact nic_row (ex ▸ (t1 x hx).1) (by omega) (by omega)
  obtain ⟨g1'', _, _, g4'', _⟩ := n3.all
  refine gCall_of fun _ => ⟨.lst (la.map rowD), rfl, g1'', by omega, fun c fc l3 => ?_⟩
  try simp only [frz, params, setAll, List.zipWith, List.length_cons, List.length_nil, Nat.reduceAdd, Nat.reduceSub, List.replicate, List.append_nil, List.cons_append, List.nil_append, getV_va, Pt.sl, true_and, List.getElem?_cons_zero, List.getElem?_cons_succ, List.set_cons_zero, List.set_cons_succ, ite_self, Bool.false_eq_true, if_false, if_true]
  refine gCall_of fun _ => ⟨.lst (p.roads.map roadD), rfl, g1, by omega, fun a fa l1 => ?_⟩
  dsimp only
  refine gCall_of fun _ => ⟨p.office, a, b, c, p.roads, ra, la, rfl, hp.t, forms_of l1 (Nic.loose n1 l1).all.1 seq_road roadL_flat, forms_of l2 (Nic.loose n2 l2).all.1 seq_row rowL_flat, forms_of l3 (Nic.loose n3 l3).all.1 seq_row rowL_flat, fun r hr => ?_, fun r hr => ?_, by rw [pra.length_eq]; omega, by rw [pla.length_eq]; omega, fun ff => ?_⟩
  · have hr' := pra.mem_iff.mp hr
    obtain ⟨b1, b2, b3, b4⟩ := hp.rb r hr'
    exact ⟨hp.rp r hr', b1, by omega, by omega, by omega⟩
  · have hr' := pla.mem_iff.mp hr
    obtain ⟨b1, b2, b3, b4⟩ := hp.lb r hr'
    exact ⟨hp.lp r hr', b1, by omega, by omega, by omega⟩
  rw [sortT_of_perm pra hp.ro, sortT_of_perm pla hp.lo]
  exact q ff

end
end My

set_option Elab.async false
set_option linter.all false
set_option maxRecDepth 100000
set_option maxHeartbeats 4000000
set_option pp.maxSteps 6000
namespace My
open PySem PySem.Spec PyProof.Rows L2 DL
set_option pp.maxSteps 3000
theorem perm_roads {l : List Road} {ys : List D} (h : ys.Perm (l.map roadD)) : ∃ m : List Road, ys = m.map roadD ∧ m.Perm l := by
  have key : ∀ y ∈ ys, ∃ r : Road, y = roadD r := fun y hy => let ⟨r, _, e⟩ := List.mem_map.mp (h.mem_iff.mp hy); ⟨r, e.symm⟩
  have ex : ∃ m : List Road, ys = m.map roadD := by
    clear h
    induction ys with
    | nil => exact ⟨[], rfl⟩
    | cons y ys ih =>
      obtain ⟨r, e⟩ := key y (by simp)
      obtain ⟨m, em⟩ := ih fun z hz => key z (by simp [hz])
      exact ⟨r :: m, by rw [e, em]; rfl⟩
  obtain ⟨m, rfl⟩ := ex
  refine ⟨m, rfl, ?_⟩
  let un : D → Road := fun d => match d with
    | .tup [.str a, .str b, .int j] => (a, b, j)
    | _ => ("", "", 0)
  have := h.map un
  rw [List.map_map, List.map_map] at this
  have e : ∀ l : List Road, l.map (un ∘ roadD) = l := fun l => (List.map_congr_left (g := id) fun _ _ => rfl).trans (List.map_id _)
  rwa [e, e] at this
theorem holds_made {rs : List Road} {xs : List Dv} {ys : List D} (hx : xs.map (·.d) = rs.map roadD) (h : Paired (fun (x : Dv) d => ∃ (r : Road) (m : Int), x.d = roadD r ∧ d = D.tup [.str r.1, .int m] ∧ 0 ≤ m ∧ m ≤ 4) xs ys) : ∃ hz : List (Str × Int), ys = (hz.map fun x => ((Sum.inr x.1 : Key), D.int x.2)).map DL.pairD ∧ hz.map (·.1) = rs.map (·.1) ∧ ∀ x ∈ hz, 0 ≤ x.2 ∧ x.2 ≤ 4 := by
  induction rs generalizing xs ys with
  | nil =>
    have : xs = [] := List.map_eq_nil_iff.mp hx
    subst this
    cases h
    exact ⟨[], rfl, rfl, fun x h => nomatch h⟩
  | cons r rs ih =>
    cases h with
    | nil => cases hx
    | @cons x d xs ys a t =>
      rw [List.map_cons, List.map_cons] at hx
      injection hx with hx1 hx2
      obtain ⟨r', m, e1, rfl, m0, m1⟩ := a
      rw [hx1] at e1
      have e2 : r.1 = r'.1 := by
        have := congrArg D.seq e1
        simp only [roadD, D.seq] at this
        injection this with this
        injection this with this
        injection this
      obtain ⟨hz, rfl, h2, h3⟩ := ih hx2 t
      refine ⟨(r.1, m) :: hz, by rw [e2]; rfl, by rw [List.map_cons, List.map_cons, h2], fun y hy => ?_⟩
      rcases List.mem_cons.mp hy with rfl | hy
      · exact ⟨m0, m1⟩
      · exact h3 y hy
section
variable {P : Program} {w : World} {K : PySem.W.Frag} {mg : Str → Option Value} {base : Heap}
theorem sc__law_s_plan : FnScope ["stream", "riders", "letters", "k", "office", "roads", "names", "span", "some", "notes", "road"] ["stream", "riders", "letters"] (defScope s__law_s_plan) := ⟨rfl, rfl, rfl, by decide +kernel, rfl, by decide +kernel, by decide +kernel⟩
def c__law_s_plan : DC := fun ds _ _ Q => ∃ a b : Int, ds = [.strm, .int a, .int b] ∧ 0 ≤ a ∧ a ≤ 80 ∧ 0 ≤ b ∧ b ≤ 80 ∧ ∀ p : PV, PlanOk p → p.riders.length ≤ 80 → p.letters.length ≤ 80 → ∀ f, Q ⟨p.d, f, none⟩
theorem ok__law_s_plan (T : Txt K mg) : FnD P w K mg base 5 T.f__law_s_plan.f T.f__law_s_plan.fd ["stream", "riders", "letters"] (BIG ^ 14) c__law_s_plan := by
  refine fn_ok T.f__law_s_plan.ok sc__law_s_plan fun cdv A outer s H E hr => ⟨_, _, (dss_cons (ds_asg [] (de_call ((ok__law_tree T).mono (by decide)) hr (by rfl) T.f__law_tree.g T.f__law_tree.ok.kp T.f__law_tree.b (passE (takes_of rfl rfl rfl rfl)) rfl (da_cons (de_var (pv 0)) (da_cons de_int da_nil))) (dg_tup (n := 2) rfl (dgs_cons (dg_name (pg_name (i := 4) sc__law_s_plan.nd rfl (Or.inl rfl))) (dgs_cons (dg_name (pg_name (i := 5) sc__law_s_plan.nd rfl (Or.inl rfl))) dgs_nil))) (fun _ _ a b => ps_asg a b))
      (dss_cons (ds_par2 (i := 6) (j := 7) [] (dp_va (DN.de (dn_lc (own := [("road", 10)]) rfl sc__law_s_plan.nd (di_seq (de_var (pv 5))) (blkOk_by (N := ["stream", "riders", "letters", "k", "office", "roads", "names", "span", "some", "notes", "road"]) (sc := defScope s__law_s_plan) (by decide +kernel)) (fun _ _ _ _ _ => (dg_name (pg_name (i := 10) sc__law_s_plan.nd rfl (Or.inl rfl)))) (fun _ _ _ _ _ => dts_nil) (fun _ _ _ _ _ => (de_ix (de_var (pv 10)) de_int (fun _ _ => rfl))) (by decide)))) (dp_va (de_call ((ok__law_pick T).mono (by decide)) hr (by rfl) T.f__law_pick.g T.f__law_pick.ok.kp T.f__law_pick.b (passE (takes_of rfl rfl rfl rfl)) rfl (da_cons (de_var (pv 0)) (da_cons (de_lst (da_cons de_int (da_cons de_int (da_cons de_int (da_cons de_int da_nil))))) da_nil)))) rfl sc__law_s_plan.nd rfl rfl (by decide) (by rfl) (by rfl) (by rfl))
      (dss_cons (ds_par2 (i := 8) (j := 9) [] (dp_ow (dn_lst da_nil)) (dp_ow (dn_lst da_nil)) rfl sc__law_s_plan.nd rfl rfl (by decide) (by rfl) (by rfl) (by rfl))
      (dss_cons (ds_for [] (passes_of rfl) rfl (di_range1 (by rfl) T.n_range (da_cons (de_call ((ok__law_draw T).mono (by decide)) hr (by rfl) T.f__law_draw.g T.f__law_draw.ok.kp T.f__law_draw.b (passE (takes_of rfl rfl rfl rfl)) rfl (da_cons (de_var (pv 0)) (da_cons (de_op dop_add (de_var (pv 1)) de_int) da_nil))) da_nil)) (dg_name (pg_name (i := 3) sc__law_s_plan.nd rfl (Or.inl rfl)))
      (dss_one (ds_append [] (de_tup (da_cons (de_call ((ok__law_pick T).mono (by decide)) hr (by rfl) T.f__law_pick.g T.f__law_pick.ok.kp T.f__law_pick.b (passE (takes_of rfl rfl rfl rfl)) rfl (da_cons (de_var (pv 0)) (da_cons (de_var (pv 6)) da_nil))) (da_cons (de_call ((ok__law_draw T).mono (by decide)) hr (by rfl) T.f__law_draw.g T.f__law_draw.ok.kp T.f__law_draw.b (passE (takes_of rfl rfl rfl rfl)) rfl (da_cons (de_var (pv 0)) (da_cons (de_var (pv 7)) da_nil))) (da_cons (de_op dop_add de_int (de_call ((ok__law_draw T).mono (by decide)) hr (by rfl) T.f__law_draw.g T.f__law_draw.ok.kp T.f__law_draw.b (passE (takes_of rfl rfl rfl rfl)) rfl (da_cons (de_var (pv 0)) (da_cons de_int da_nil)))) da_nil)))) (fun _ a => ps_expr (pe_bm PySem.F.plainAttrs_list PySem.F.slot_list_append PySem.F.type_list_append mt_append (pv 8) (pa_cons a pa_nil))))))
      (dss_cons (ds_for [] (passes_of rfl) rfl (di_range1 (by rfl) T.n_range (da_cons (de_call ((ok__law_draw T).mono (by decide)) hr (by rfl) T.f__law_draw.g T.f__law_draw.ok.kp T.f__law_draw.b (passE (takes_of rfl rfl rfl rfl)) rfl (da_cons (de_var (pv 0)) (da_cons (de_op dop_add (de_var (pv 2)) de_int) da_nil))) da_nil)) (dg_name (pg_name (i := 3) sc__law_s_plan.nd rfl (Or.inl rfl)))
      (dss_one (ds_append [] (de_tup (da_cons (de_call ((ok__law_pick T).mono (by decide)) hr (by rfl) T.f__law_pick.g T.f__law_pick.ok.kp T.f__law_pick.b (passE (takes_of rfl rfl rfl rfl)) rfl (da_cons (de_var (pv 0)) (da_cons (de_var (pv 6)) da_nil))) (da_cons (de_call ((ok__law_draw T).mono (by decide)) hr (by rfl) T.f__law_draw.g T.f__law_draw.ok.kp T.f__law_draw.b (passE (takes_of rfl rfl rfl rfl)) rfl (da_cons (de_var (pv 0)) (da_cons (de_op dop_add (de_var (pv 7)) de_int) da_nil))) (da_cons (de_op dop_add de_int (de_call ((ok__law_draw T).mono (by decide)) hr (by rfl) T.f__law_draw.g T.f__law_draw.ok.kp T.f__law_draw.b (passE (takes_of rfl rfl rfl rfl)) rfl (da_cons (de_var (pv 0)) (da_cons de_int da_nil)))) da_nil)))) (fun _ a => ps_expr (pe_bm PySem.F.plainAttrs_list PySem.F.slot_list_append PySem.F.type_list_append mt_append (pv 9) (pa_cons a pa_nil))))))
      (dss_one (ds_ret [8, 9] (de_tup (da_cons (de_var (pv 4)) (da_cons (de_var (pv 5)) (da_cons (de_callB (dcl_sortedD (hr.mono (by decide))) (by rfl) T.n_sorted (by decide +kernel) (da_cons (de_var (pv 8)) da_nil)) (da_cons (de_callB (dcl_sortedD (hr.mono (by decide))) (by rfl) T.n_sorted (by decide +kernel) (da_cons (de_var (pv 9)) da_nil)) da_nil)))))))))))), by decide +kernel, fun ds vs XQ Q hd hv h => ?_⟩
  obtain ⟨a, b, rfl, a0, a1, b0, b1, q⟩ := h
  match vs, hv with
  | [v, v2, v3], _ =>
  try simp only [frz, params, setAll, List.zipWith, List.length_cons, List.length_nil, Nat.reduceAdd, Nat.reduceSub, List.replicate, List.append_nil, List.cons_append, List.nil_append, getV_va, Pt.sl, true_and, List.getElem?_cons_zero, List.getElem?_cons_succ, List.set_cons_zero, List.set_cons_succ, ite_self, Bool.false_eq_true, if_false, if_true]
  refine gCall_of fun _ => ⟨3, rfl, by decide, by decide, fun office roads ht f => ?_⟩
  dsimp only
  rw [unp_seq (by rfl)]
  refine ⟨rfl, ?_⟩
  simp only [List.map_cons, List.map_nil]
  try simp only [frz, params, setAll, List.zipWith, List.length_cons, List.length_nil, Nat.reduceAdd, Nat.reduceSub, List.replicate, List.append_nil, List.cons_append, List.nil_append, getV_va, Pt.sl, true_and, List.getElem?_cons_zero, List.getElem?_cons_succ, List.set_cons_zero, List.set_cons_succ, ite_self, Bool.false_eq_true, if_false, if_true]
  have hrl := ht.l
  rw [items_seq (by rfl), List.map_map]
  refine ⟨by rw [List.length_map]; unfold BIG; omega, lc_mapA (g := fun r : Road => D.str r.1) (fun r hr2 K1 K0 k1 => ?_) fun f1 => ?_⟩
  · try simp only [lcStep, true_and, wipeR, List.map_cons, List.map_nil, List.set_cons_succ, List.set_cons_zero, List.getElem?_cons_succ, List.getElem?_cons_zero, getV_va, if_true]
    exact ⟨_, rfl, k1 _ _⟩
  have en : roads.map (fun r : Road => D.str r.1) = (roads.map (·.1)).map D.str := by rw [List.map_map]; rfl
  rw [en]
  have nne : roads.map (·.1) ≠ [] := by
    intro z
    exact ht.ne (List.map_eq_nil_iff.mp z)
  have hnl : (roads.map (·.1)).length ≤ 8 := by rw [List.length_map]; exact hrl
  have hnm : ∀ x ∈ roads.map (·.1), ∃ r ∈ roads, r.1 = x := fun x hx => by
    obtain ⟨r, hr, e⟩ := List.mem_map.mp hx
    exact ⟨r, hr, e⟩
  generalize hns : roads.map (·.1) = names at nne hnl hnm
  have pk : ∀ {ρ : Ro} {XQ : XQT} {Q : Dv → Prop} {n n2 : Bool} {v v2 : Option V}, (∀ x, (∃ r ∈ roads, r.1 = x) → ∀ f, Q ⟨.str x, f, none⟩) → gCall c__law_pick ρ XQ [⟨.strm, n, v⟩, ⟨.lst (names.map D.str), n2, v2⟩] Q := fun h => gPickS names nne (by omega) fun x hx f => h x (hnm x hx) f
  refine ⟨by decide, gPickI [3, 8, 8, 20] (by decide) (by decide) fun sp hsp f2 => ?_⟩
  have hsp2 : 3 ≤ sp ∧ sp ≤ 20 := by
    simp only [List.mem_cons, List.not_mem_nil, or_false] at hsp
    omega
  refine ⟨by decide, by decide, ?_⟩
  rw [gAdd_int]
  refine gDraw (by omega) (by omega) fun many m0 m1 => ?_
  refine ⟨by omega, by omega, .inr (by rw [rgD_len]; unfold BIG; omega), ?_⟩
  refine for_idx (fun i ρ => ∃ (s3 : Sl) (f4 f5 f6 f7 f8 f9 : Bool) (S N : List Row), ρ = [Sl.va ⟨.strm, D.strm.imm, some v⟩, .va ⟨.int a, (D.int a).imm, some v2⟩, .va ⟨.int b, (D.int b).imm, some v3⟩, s3, .va ⟨.str office, f4, none⟩, .va ⟨.lst (roads.map roadD), f5, none⟩, .va ⟨.lst (names.map D.str), f6, none⟩, .va ⟨.int sp, f7, none⟩, .ow (.lst (S.map rowD)) f8, .ow (.lst (N.map rowD)) f9, .un] ∧ S.length ≤ i ∧ N = [] ∧ ∀ r ∈ S, (∃ x ∈ roads, x.1 = r.1) ∧ 0 ≤ r.2.1 ∧ r.2.1 ≤ 1000 ∧ 1 ≤ r.2.2 ∧ r.2.2 ≤ 100) _ 0 _ ⟨_, _, _, _, _, _, _, [], [], rfl, by simp, rfl, fun r h => (nomatch h)⟩ (fun i x hx ρ hI K kk => ?_) fun ρ hI => ?_
  · obtain ⟨s3, f4, f5, f6, f7, f8, f9, S, N, rfl, hl, rfl, hS⟩ := hI
    obtain ⟨hi, rfl⟩ := rgD_get hx
    try simp only [frz, params, setAll, List.zipWith, List.length_cons, List.length_nil, Nat.reduceAdd, Nat.reduceSub, List.replicate, List.append_nil, List.cons_append, List.nil_append, getV_va, Pt.sl, true_and, List.getElem?_cons_zero, List.getElem?_cons_succ, List.set_cons_zero, List.set_cons_succ, ite_self, Bool.false_eq_true, if_false, if_true]
    refine ⟨⟨_, _, rfl⟩, pk fun x hxr fx => ?_⟩
    refine gDraw (by omega) (by omega) fun t t0 t1 => gDraw (by decide) (by decide) fun w w0 w1 => ?_
    rw [gAdd_int]
    refine ⟨by decide, _, _, rfl, by rw [List.length_map]; unfold BIG; omega, kk _ ⟨_, _, _, _, _, _, _, S ++ [(x, t, 1 + w)], [], (by rw [List.map_append]; exact rfl), by rw [List.length_append]; show S.length + 1 ≤ _; omega, rfl, fun r hr2 => ?_⟩⟩
    rcases List.mem_append.mp hr2 with hr2 | hr2
    · exact hS r hr2
    · rw [List.mem_singleton] at hr2
      subst hr2
      exact ⟨hxr, t0, by show t ≤ 1000; omega, by show (1 : Int) ≤ 1 + w; omega, by show 1 + w ≤ (100 : Int); omega⟩
  obtain ⟨s3, f4, f5, f6, f7, f8, f9, S, N, rfl, hSl, rfl, hS⟩ := hI
  rw [rgD_len] at hSl
  try simp only [frz, params, setAll, List.zipWith, List.length_cons, List.length_nil, Nat.reduceAdd, Nat.reduceSub, List.replicate, List.append_nil, List.cons_append, List.nil_append, getV_va, Pt.sl, true_and, List.getElem?_cons_zero, List.getElem?_cons_succ, List.set_cons_zero, List.set_cons_succ, ite_self, Bool.false_eq_true, if_false, if_true]
  rw [gAdd_int]
  refine gDraw (by omega) (by omega) fun notes n0 n1 => ?_
  refine ⟨by omega, by omega, .inr (by rw [rgD_len]; unfold BIG; omega), ?_⟩
  refine for_idx (fun i ρ => ∃ (s3 : Sl) (f4 f5 f6 f7 f8 f9 : Bool) (N : List Row), ρ = [Sl.va ⟨.strm, D.strm.imm, some v⟩, .va ⟨.int a, (D.int a).imm, some v2⟩, .va ⟨.int b, (D.int b).imm, some v3⟩, s3, .va ⟨.str office, f4, none⟩, .va ⟨.lst (roads.map roadD), f5, none⟩, .va ⟨.lst (names.map D.str), f6, none⟩, .va ⟨.int sp, f7, none⟩, .ow (.lst (S.map rowD)) f8, .ow (.lst (N.map rowD)) f9, .un] ∧ N.length ≤ i ∧ ∀ r ∈ N, (∃ x ∈ roads, x.1 = r.1) ∧ 0 ≤ r.2.1 ∧ r.2.1 ≤ 1000 ∧ 0 ≤ r.2.2 ∧ r.2.2 ≤ 300000) _ 0 _ ⟨_, _, _, _, _, _, _, [], rfl, by simp, fun r h => (nomatch h)⟩ (fun i x hx ρ hI K kk => ?_) fun ρ hI => ?_
  · obtain ⟨s3, f4, f5, f6, f7, f8, f9, N, rfl, hl, hN⟩ := hI
    obtain ⟨hi, rfl⟩ := rgD_get hx
    try simp only [frz, params, setAll, List.zipWith, List.length_cons, List.length_nil, Nat.reduceAdd, Nat.reduceSub, List.replicate, List.append_nil, List.cons_append, List.nil_append, getV_va, Pt.sl, true_and, List.getElem?_cons_zero, List.getElem?_cons_succ, List.set_cons_zero, List.set_cons_succ, ite_self, Bool.false_eq_true, if_false, if_true]
    refine ⟨⟨_, _, rfl⟩, pk fun x hxr fx => ?_⟩
    rw [gAdd_int]
    refine gDraw (by omega) (by omega) fun t t0 t1 => gDraw (by decide) (by decide) fun w w0 w1 => ?_
    rw [gAdd_int]
    refine ⟨by decide, _, _, rfl, by rw [List.length_map]; unfold BIG; omega, kk _ ⟨_, _, _, _, _, _, _, N ++ [(x, t, 40 + w)], (by rw [List.map_append]; exact rfl), by rw [List.length_append]; show N.length + 1 ≤ _; omega, fun r hr2 => ?_⟩⟩
    rcases List.mem_append.mp hr2 with hr2 | hr2
    · exact hN r hr2
    · rw [List.mem_singleton] at hr2
      subst hr2
      exact ⟨hxr, t0, by show t ≤ 1000; omega, by show (0 : Int) ≤ 40 + w; omega, by show 40 + w ≤ (300000 : Int); omega⟩
  obtain ⟨s3, f4, f5, f6, f7, f8, f9, N, rfl, hNl, hN⟩ := hI
  rw [rgD_len] at hNl
  try simp only [frz, params, setAll, List.zipWith, List.length_cons, List.length_nil, Nat.reduceAdd, Nat.reduceSub, List.replicate, List.append_nil, List.cons_append, List.nil_append, getV_va, Pt.sl, true_and, List.getElem?_cons_zero, List.getElem?_cons_succ, List.set_cons_zero, List.set_cons_succ, ite_self, Bool.false_eq_true, if_false, if_true]
  obtain ⟨t1, t2⟩ := ht.facts
  rw [g1_of]
  refine ⟨_, rfl, canSort_row (n := 300000) (by decide) fun r hr => ?_, ?_⟩
  · obtain ⟨⟨x, hx, ex⟩, b1, b2, b3, b4⟩ := hS r hr
    exact ⟨ex ▸ (t1 x hx).1, by omega, by omega⟩
  rw [srt_rows]
  dsimp only
  rw [g1_of]
  refine ⟨_, rfl, canSort_row (n := 300000) (by decide) fun r hr => ?_, ?_⟩
  · obtain ⟨⟨x, hx, ex⟩, b1, b2, b3, b4⟩ := hN r hr
    exact ⟨ex ▸ (t1 x hx).1, by omega, by omega⟩
  rw [srt_rows]
  refine ⟨by decide, q ⟨office, roads, sortT S, sortT N⟩ ⟨ht, sortT_ord _, sortT_ord _, fun r hr => (hS r (sortT_mem hr)).1, fun r hr => (hN r (sortT_mem hr)).1, fun r hr => (hS r (sortT_mem hr)).2, fun r hr => (hN r (sortT_mem hr)).2, ?_, ?_⟩ ?_ ?_ _⟩
  · show (sortT S).length ≤ 100
    rw [sortT_len]; omega
  · show (sortT N).length ≤ 100
    rw [sortT_len]; omega
  · show (sortT S).length ≤ 80
    rw [sortT_len]; omega
  · show (sortT N).length ≤ 80
    rw [sortT_len]; omega

theorem sc__law_s_brings : FnScope ["stream", "plan", "most", "rider"] ["stream", "plan"] (defScope s__law_s_brings) := ⟨rfl, rfl, rfl, by decide +kernel, rfl, by decide +kernel, by decide +kernel⟩
def c__law_s_brings : DC := fun ds _ _ Q => ∃ p : PV, ds = [.strm, p.d] ∧ p.riders.length ≤ 100 ∧ ∀ bs : List Int, bs.length = p.riders.length → (∀ b ∈ bs, 0 ≤ b ∧ b ≤ 4) → ∀ f, Q ⟨.lst (bs.map D.int), f, none⟩
theorem ok__law_s_brings (T : Txt K mg) : FnD P w K mg base 3 T.f__law_s_brings.f T.f__law_s_brings.fd ["stream", "plan"] (BIG ^ 6) c__law_s_brings := by
  refine fn_ok T.f__law_s_brings.ok sc__law_s_brings fun cdv A outer s H E hr => ⟨_, _, (dss_cons (ds_asg [] (de_call ((ok__law_pick T).mono (by decide)) hr (by rfl) T.f__law_pick.g T.f__law_pick.ok.kp T.f__law_pick.b (passE (takes_of rfl rfl rfl rfl)) rfl (da_cons (de_var (pv 0)) (da_cons (de_lst (da_cons de_int (da_cons de_int (da_cons de_int da_nil)))) da_nil))) (dg_name (pg_name (i := 2) sc__law_s_brings.nd rfl (Or.inr rfl))) (fun _ _ a b => ps_asg a b))
      (dss_one (ds_ret [] (DN.de (dn_lc (own := [("rider", 3)]) rfl sc__law_s_brings.nd (di_seq (de_ix (de_var (pv 1)) de_int (fun _ _ => rfl))) (blkOk_by (N := ["stream", "plan", "most", "rider"]) (sc := defScope s__law_s_brings) (by decide +kernel)) (fun _ _ _ _ _ => (dg_name (pg_name (i := 3) sc__law_s_brings.nd rfl (Or.inl rfl)))) (fun _ _ _ _ _ => dts_nil) (fun _ _ _ _ _ => (de_call ((ok__law_draw T).mono (by decide)) hr (by rfl) T.f__law_draw.g T.f__law_draw.ok.kp T.f__law_draw.b passL rfl (da_cons (de_var (pv 0)) (da_cons (de_op dop_add (de_var (pv 2)) de_int) da_nil)))) (by decide)))))), by decide +kernel, fun ds vs XQ Q hd hv h => ?_⟩
  obtain ⟨p, rfl, hl, q⟩ := h
  match vs, hv with
  | [v, v2], _ =>
  try simp only [frz, params, setAll, List.zipWith, List.length_cons, List.length_nil, Nat.reduceAdd, Nat.reduceSub, List.replicate, List.append_nil, List.cons_append, List.nil_append, getV_va, Pt.sl, true_and, List.getElem?_cons_zero, List.getElem?_cons_succ, List.set_cons_zero, List.set_cons_succ, ite_self, Bool.false_eq_true, if_false, if_true]
  refine ⟨by decide, gPickI [1, 2, 4] (by decide) (by decide) fun m hm f => ?_⟩
  have hm4 : 1 ≤ m ∧ m ≤ 4 := by
    simp only [List.mem_cons, List.not_mem_nil, or_false] at hm
    omega
  rw [gIx_of (PV.seq p) (PV.at2 p)]
  rw [items_seq rfl]
  refine ⟨by rw [List.length_map, List.length_map]; unfold BIG; omega, ?_⟩
  refine lc_rel0 (fun _ d => ∃ b : Int, d = .int b ∧ 0 ≤ b ∧ b ≤ 4) (fun y hy K1 K0 kk => ?_) fun ys m2 hps => ?_
  · try simp only [lcStep, true_and, wipeR, List.map_cons, List.map_nil, List.set_cons_succ, List.set_cons_zero, List.getElem?_cons_succ, List.getElem?_cons_zero, getV_va, if_true]
    try simp only [frz, params, setAll, List.zipWith, List.length_cons, List.length_nil, Nat.reduceAdd, Nat.reduceSub, List.replicate, List.append_nil, List.cons_append, List.nil_append, getV_va, Pt.sl, true_and, List.getElem?_cons_zero, List.getElem?_cons_succ, List.set_cons_zero, List.set_cons_succ, ite_self, Bool.false_eq_true, if_false, if_true]
    rw [gAdd_int]
    exact gDraw (by omega) (by omega) fun b b0 b1 => kk _ _ _ ⟨b, rfl, b0, by omega⟩
  · have : ∃ bs : List Int, ys = bs.map D.int ∧ bs.length = p.riders.length ∧ ∀ b ∈ bs, 0 ≤ b ∧ b ≤ 4 := by
      rw [List.map_map] at hps
      generalize p.riders = R at hps
      clear hl q
      induction R generalizing ys with
      | nil => cases hps; exact ⟨[], rfl, rfl, fun b h => nomatch h⟩
      | cons r R ih =>
        cases hps with
        | cons a t =>
          obtain ⟨b, rfl, b0, b1⟩ := a
          obtain ⟨bs, rfl, h1, h2⟩ := ih _ t
          exact ⟨b :: bs, rfl, by rw [List.length_cons, List.length_cons, h1], fun c hc => (List.mem_cons.mp hc).elim (fun e => e ▸ ⟨b0, b1⟩) (h2 c)⟩
    obtain ⟨bs, rfl, h1, h2⟩ := this
    exact q bs h1 h2 _

theorem sc__law_s_holds : FnScope ["stream", "plan", "most", "road"] ["stream", "plan"] (defScope s__law_s_holds) := ⟨rfl, rfl, rfl, by decide +kernel, rfl, by decide +kernel, by decide +kernel⟩
def c__law_s_holds : DC := fun ds _ _ Q => ∃ p : PV, ds = [.strm, p.d] ∧ PlanOk p ∧ ∀ hz : List (Str × Int), (hz.map (·.1)).Perm (p.roads.map (·.1)) → (∀ x ∈ hz, 0 ≤ x.2 ∧ x.2 ≤ 4) → ∀ f, Q ⟨holdsD hz, f, none⟩
theorem ok__law_s_holds (T : Txt K mg) : FnD P w K mg base 3 T.f__law_s_holds.f T.f__law_s_holds.fd ["stream", "plan"] (BIG ^ 6) c__law_s_holds := by
  refine fn_ok T.f__law_s_holds.ok sc__law_s_holds fun cdv A outer s H E hr => ⟨_, _, (dss_cons (ds_asg [] (de_call ((ok__law_pick T).mono (by decide)) hr (by rfl) T.f__law_pick.g T.f__law_pick.ok.kp T.f__law_pick.b (passE (takes_of rfl rfl rfl rfl)) rfl (da_cons (de_var (pv 0)) (da_cons (de_lst (da_cons de_int (da_cons de_int (da_cons de_int da_nil)))) da_nil))) (dg_name (pg_name (i := 2) sc__law_s_holds.nd rfl (Or.inr rfl))) (fun _ _ a b => ps_asg a b))
      (dss_one (ds_ret [] (de_callTy (dcl_dictP rfl) (by rfl) T.n_dict (by decide +kernel) (da_cons (DN.de (dn_lc (own := [("road", 3)]) rfl sc__law_s_holds.nd (di_seq (de_call ((ok__law_mixed T).mono (by decide)) hr (by rfl) T.f__law_mixed.g T.f__law_mixed.ok.kp T.f__law_mixed.b (passE (takes_of rfl rfl rfl rfl)) rfl (da_cons (de_var (pv 0)) (da_cons (de_ix (de_var (pv 1)) de_int (fun _ _ => rfl)) da_nil)))) (blkOk_by (N := ["stream", "plan", "most", "road"]) (sc := defScope s__law_s_holds) (by decide +kernel)) (fun _ _ _ _ _ => (dg_name (pg_name (i := 3) sc__law_s_holds.nd rfl (Or.inl rfl)))) (fun _ _ _ _ _ => dts_nil) (fun _ _ _ _ _ => (de_tup (da_cons (de_ix (de_var (pv 3)) de_int (fun _ _ => rfl)) (da_cons (de_call ((ok__law_draw T).mono (by decide)) hr (by rfl) T.f__law_draw.g T.f__law_draw.ok.kp T.f__law_draw.b passL rfl (da_cons (de_var (pv 0)) (da_cons (de_op dop_add (de_var (pv 2)) de_int) da_nil))) da_nil)))) (by decide))) da_nil))))), by decide +kernel, fun ds vs XQ Q hd hv h => ?_⟩
  obtain ⟨p, rfl, hp, q⟩ := h
  match vs, hv with
  | [v, v2], _ =>
  try simp only [frz, params, setAll, List.zipWith, List.length_cons, List.length_nil, Nat.reduceAdd, Nat.reduceSub, List.replicate, List.append_nil, List.cons_append, List.nil_append, getV_va, Pt.sl, true_and, List.getElem?_cons_zero, List.getElem?_cons_succ, List.set_cons_zero, List.set_cons_succ, ite_self, Bool.false_eq_true, if_false, if_true]
  refine ⟨by decide, gPickI [1, 2, 4] (by decide) (by decide) fun m hm f => ?_⟩
  have hm4 : 1 ≤ m ∧ m ≤ 4 := by
    simp only [List.mem_cons, List.not_mem_nil, or_false] at hm
    omega
  have hl8 := hp.t.l
  obtain ⟨t1, t2⟩ := hp.t.facts
  rw [gIx_of (PV.seq p) (show atI [D.str p.office, .lst (p.roads.map roadD), .lst (p.riders.map rowD), .lst (p.letters.map rowD)] 1 = some (.lst (p.roads.map roadD)) from rfl)]
  refine gCall_of fun _ => ⟨_, p.roads.map roadD, rfl, rfl, by rw [List.length_map]; omega, fun ys f1 py => ?_⟩
  obtain ⟨rs, rfl, prs⟩ := perm_roads py
  dsimp only
  rw [items_seq rfl]
  refine ⟨by rw [List.length_map, List.length_map, prs.length_eq]; unfold BIG; omega, ?_⟩
  refine lc_rel0 (fun (x : Dv) d => ∃ (r : Road) (m : Int), x.d = roadD r ∧ d = D.tup [.str r.1, .int m] ∧ 0 ≤ m ∧ m ≤ 4) (fun y hy K1 K0 kk => ?_) fun ys m2 hps => ?_
  · obtain ⟨d, hd, rfl⟩ := List.mem_map.mp hy
    obtain ⟨r, hr, rfl⟩ := List.mem_map.mp hd
    try simp only [lcStep, true_and, wipeR, List.map_cons, List.map_nil, List.set_cons_succ, List.set_cons_zero, List.getElem?_cons_succ, List.getElem?_cons_zero, getV_va, if_true]
    try simp only [frz, params, setAll, List.zipWith, List.length_cons, List.length_nil, Nat.reduceAdd, Nat.reduceSub, List.replicate, List.append_nil, List.cons_append, List.nil_append, getV_va, Pt.sl, true_and, List.getElem?_cons_zero, List.getElem?_cons_succ, List.set_cons_zero, List.set_cons_succ, ite_self, Bool.false_eq_true, if_false, if_true]
    rw [gIx_of (seq_road r) (show atI (roadL r) 0 = some (.str r.1) from rfl), gAdd_int]
    exact gDraw (by omega) (by omega) fun b b0 b1 => ⟨by decide, kk _ _ _ ⟨r, b, rfl, rfl, b0, by omega⟩⟩
  · obtain ⟨hz, rfl, h2, h3⟩ := holds_made (rs := rs) (by rw [List.map_map]; exact (List.map_congr_left (g := id) fun _ _ => rfl).trans (List.map_id _)) hps
    rw [g1_of]
    refine ⟨_, rfl, ?_, ?_⟩
    · rw [List.map_map]
      have nd : (hz.map (·.1)).Nodup := by rw [h2]; exact (prs.map _).nodup_iff.mpr t2
      have e : hz.map ((fun x : Key × D => x.1) ∘ fun x : Str × Int => ((Sum.inr x.1 : Key), D.int x.2)) = (hz.map (·.1)).map Sum.inr := by rw [List.map_map]; rfl
      rw [e]
      exact List.Pairwise.map _ (fun a b h z => h (Sum.inr.inj z)) nd
    · have e : dctD (hz.map fun x => ((Sum.inr x.1 : Key), D.int x.2)) = holdsD hz := by
        unfold dctD holdsD
        rw [List.map_map]
        rfl
      rw [e]
      exact q hz (by rw [h2]; exact prs.map _) h3 _

end
end My

set_option Elab.async false
set_option linter.all false
set_option maxRecDepth 100000
set_option maxHeartbeats 4000000
set_option pp.maxSteps 6000
namespace My
open PySem PySem.Spec PyProof.Rows L2 DL
section
variable {P : Program} {w : World} {K : PySem.W.Frag} {mg : Str → Option Value} {base : Heap}
theorem sc__law_spoilt : FnScope ["thing", "part", "key"] ["thing"] (defScope s__law_spoilt) := ⟨rfl, rfl, rfl, by decide +kernel, rfl, by decide +kernel, by decide +kernel⟩
theorem ex_at {X : Cx} {body : List Stmt} {N : Ends} {σ : L2.St} {H : Hp} {C : TS → Prop} (h : ∃ t, PSs X body t ∧ C t) (k : ∀ t : TS, C t → t N σ H) : ∃ t, PSs X body t ∧ t N σ H := let ⟨t, a, b⟩ := h; ⟨t, a, k t b⟩
theorem ok__law_spoilt (T : Txt K mg) : ∀ k, FnOk P w K mg base (L2.CX P w) k T.f__law_spoilt.f T.f__law_spoilt.fd ["thing"] (spSp K k)
  | 0 => spOk_none
  | k + 1 => by
    have IH := ok__law_spoilt T k
    refine T.f__law_spoilt.ok.ok sc__law_spoilt (fun vs H Q E h => by obtain ⟨v, _, _, _, rfl, _⟩ := h; rfl) (fun cdv A outer s H vs Q E hr h => ?_)
    obtain ⟨v, M, d, n, rfl, g, tb, sp, hb, hn, hd, q⟩ := h
    refine ex_at (spoil_reads (k := k) (dt_val (de_isi (T := "dict") ty_dict (de_var (pv 0)) (by rfl) T.n_isinstance (by decide +kernel) (by rfl) T.n_dict (by decide +kernel))) (dt_val (de_isiT (tys_ok2 ty_list ty_tuple) (de_var (pv 0)) (pa_tyCons (T := "list") (by rfl) T.n_list (by decide +kernel) (pa_tyCons (T := "tuple") (by rfl) T.n_tuple (by decide +kernel) pa_tyNil)) (by rfl) T.n_isinstance (by decide +kernel))) (dt_val (de_isi (T := "list") ty_list (de_var (pv 0)) (by rfl) T.n_isinstance (by decide +kernel) (by rfl) T.n_list (by decide +kernel))) (fun x Q h hq => ⟨rfl, h, _, rfl, hq⟩) (fun x Q h hq => ⟨h, _, rfl, hq⟩) (fun x Q h hq => ⟨rfl, h, _, rfl, hq⟩)
      (passes_of rfl) rfl (pv 0) (pg_name (i := 1) sc__law_spoilt.nd rfl (Or.inl rfl)) (pe_call IH hr (by rfl) T.f__law_spoilt.g T.f__law_spoilt.ok.kp T.f__law_spoilt.b .nil (passE (takes_of rfl rfl rfl rfl)) (pa_cons (pv 1) pa_nil)) (pe_bm PySem.F.plainAttrs_list PySem.F.slot_list_append PySem.F.type_list_append mt_append (pv 0) (pa_cons pe_str pa_nil)) (by rfl) (by rfl) (fun _ => rfl)) fun t st => st v M d n H _ g tb sp hb hn hd fun σ' H' e t => q H' e t

end
end My

set_option Elab.async false
set_option linter.all false
set_option maxRecDepth 100000
set_option maxHeartbeats 4000000
set_option pp.maxSteps 6000
namespace My
open PySem PySem.Spec PyProof.Rows L2 DL
set_option pp.maxSteps 4000
/-- what happens: tick, 0 a letter or 1 a rider, its index, its post -/
abbrev E4 : Type := Int × Int × Nat × Str
def e4D (e : E4) : D := .tup [.int e.1, .int e.2.1, .int (e.2.2.1 : Nat), .str e.2.2.2]
def leRows : Nat → List Row → List E4
  | _, [] => []
  | i, r :: rs => (r.2.1, 0, i, r.1) :: leRows (i + 1) rs
def riRows (gone : List Nat) : Nat → List Row → List E4
  | _, [] => []
  | i, r :: rs => if i ∈ gone then riRows gone (i + 1) rs else (r.2.1, 1, i, r.1) :: riRows gone (i + 1) rs
def sort4 (es : List E4) : List E4 := es.mergeSort fun a b => leD (e4D a) (e4D b)
theorem srt_e4 (es : List E4) : srtD (es.map e4D) = (sort4 es).map e4D := (List.map_mergeSort (f := e4D) (r := fun a b => leD (e4D a) (e4D b)) (s := leD) fun _ _ _ _ => rfl).symm
theorem sort4_perm (es : List E4) : (sort4 es).Perm es := List.mergeSort_perm _ _
def leRF (y : Dv) : Option D := match y.d with
  | .tup [.int k, .tup [.str z, .int t, _]] => some (.tup [.int t, .int 0, .int k, .str z])
  | _ => none
def riRF (gone : List Nat) (y : Dv) : Option D := match y.d with
  | .tup [.int k, .tup [.str z, .int t, _]] => if k.toNat ∈ gone then none else some (.tup [.int t, .int 1, .int k, .str z])
  | _ => none
theorem enum_leR (n : Bool) : ∀ (rs : List Row) (i : Nat), (enumD n i (rs.map rowD)).filterMap leRF = (leRows i rs).map e4D
  | [], _ => rfl
  | r :: rs, i => by
    rw [List.map_cons, enumD, List.filterMap_cons, enum_leR n rs (i + 1)]
    rfl
theorem enum_riR (gone : List Nat) (n : Bool) : ∀ (rs : List Row) (i : Nat), (enumD n i (rs.map rowD)).filterMap (riRF gone) = (riRows gone i rs).map e4D
  | [], _ => rfl
  | r :: rs, i => by
    rw [List.map_cons, enumD, List.filterMap_cons, enum_riR gone n rs (i + 1)]
    show _ = (if i ∈ gone then riRows gone (i + 1) rs else (r.2.1, 1, i, r.1) :: riRows gone (i + 1) rs).map _
    by_cases h : i ∈ gone
    · simp only [riRF, rowD, Int.toNat_natCast, if_pos h]
    · simp only [riRF, rowD, Int.toNat_natCast, if_neg h, List.map_cons]
      rfl
/-- what the drawers hold, changed at one post -/
def setP (f : Str → Int) (x : Str) (v : Int) : Str → Int := fun y => if y = x then v else f y
/-- the law's own going through all that happens -/
def lawRun (hf : Str → Int) (bs : List Int) : List E4 → (Str → Int) → List Nat
  | [], _ => []
  | e :: es, f => if e.2.1 = 1 then lawRun hf bs es (setP f e.2.2.2 (min (hf e.2.2.2) (f e.2.2.2 + bs.getD e.2.2.1 0)))
    else if f e.2.2.2 = 0 then e.2.2.1 :: lawRun hf bs es f else lawRun hf bs es (setP f e.2.2.2 (f e.2.2.2 - 1))
def leftD (ks : List Str) (f : Str → Int) : D := .dct (ks.map fun k => (.str k, .int (f k)))
/-- at one post alone -/
def postRun (hold : Int) (bs : List Int) : List E4 → Int → List Nat
  | [], _ => []
  | e :: es, l => if e.2.1 = 1 then postRun hold bs es (min hold (l + bs.getD e.2.2.1 0))
    else if l = 0 then e.2.2.1 :: postRun hold bs es l else postRun hold bs es (l - 1)
/-- what is found of a post is what is found at it alone -/
theorem lawRun_post (hf : Str → Int) (bs : List Int) (x : Str) : ∀ (es : List E4) (f : Str → Int) (at_ : Nat → Str), (∀ e ∈ es, e.2.1 ≠ 1 → at_ e.2.2.1 = e.2.2.2) →
    (lawRun hf bs es f).filter (fun k => decide (at_ k = x)) = postRun (hf x) bs (es.filter fun e => decide (e.2.2.2 = x)) (f x)
  | [], _, _, _ => rfl
  | e :: es, f, at_, h => by
    have ih := fun f => lawRun_post hf bs x es f at_ fun e' he => h e' (List.mem_cons_of_mem _ he)
    rw [lawRun]
    by_cases hx : e.2.2.2 = x
    · rw [List.filter_cons_of_pos (l := es) (p := fun e : E4 => decide (e.2.2.2 = x)) (a := e) (by simpa using hx), postRun]
      by_cases hw : e.2.1 = 1
      · rw [if_pos hw, if_pos hw, ih]
        simp only [setP, hx, if_true]
      · have ha := h e List.mem_cons_self hw
        rw [if_neg hw, if_neg hw]
        by_cases h0 : f e.2.2.2 = 0
        · rw [if_pos h0, if_pos (hx ▸ h0), List.filter_cons_of_pos (by simpa using ha.trans hx), ih]
        · rw [if_neg h0, if_neg (hx ▸ h0), ih]
          simp only [setP, hx, if_true]
    · rw [List.filter_cons_of_neg (l := es) (p := fun e : E4 => decide (e.2.2.2 = x)) (a := e) (by simpa using hx)]
      have hx' : ¬ x = e.2.2.2 := fun z => hx z.symm
      by_cases hw : e.2.1 = 1
      · rw [if_pos hw, ih]
        simp only [setP, hx', if_false]
      · have ha := h e List.mem_cons_self hw
        rw [if_neg hw]
        by_cases h0 : f e.2.2.2 = 0
        · rw [if_pos h0, List.filter_cons_of_neg (by simpa [ha] using hx), ih]
        · rw [if_neg h0, ih]
          simp only [setP, hx', if_false]
/-- what happens at a post, as the program goes through it; riders behind the last letter left out -/
def evGo (p : PV) (gone : List Nat) (x : Str) : List Nat → Int → List E4
  | [], _ => []
  | l :: ls, s => (((riAt x s (tickAt p.letters l) 0 p.riders).filter fun k => decide (k ∉ gone)).map fun k => ((tickAt p.riders k, 1, k, x) : E4)) ++ (tickAt p.letters l, 0, l, x) :: evGo p gone x ls (tickAt p.letters l)
theorem postRun_riders (hold : Int) (bs : List Int) (gone : List Nat) (tk : Nat → Int) (x : Str) (es : List E4) : ∀ (ks : List Nat) (L : Int),
    postRun hold bs (((ks.filter fun k => decide (k ∉ gone)).map fun k => ((tk k, 1, k, x) : E4)) ++ es) L = postRun hold bs es (ks.foldl (stepR gone hold bs) L)
  | [], _ => rfl
  | k :: ks, L => by
    rw [List.foldl_cons]
    by_cases h : k ∈ gone
    · rw [List.filter_cons_of_neg (by simpa using h), postRun_riders hold bs gone tk x es ks L]
      congr 2
      unfold stepR
      rw [if_pos h]
    · rw [List.filter_cons_of_pos (by simpa using h), List.map_cons, List.cons_append, postRun]
      rw [if_pos rfl, postRun_riders hold bs gone tk x es ks]
      congr 2
      unfold stepR
      rw [if_neg h]
theorem stepR_nn {hold : Int} {bs : List Int} {gone : List Nat} (h0 : 0 ≤ hold) (hb : ∀ b ∈ bs, 0 ≤ b) : ∀ (ks : List Nat) {L : Int}, 0 ≤ L → 0 ≤ ks.foldl (stepR gone hold bs) L
  | [], _, h => h
  | k :: ks, L, h => by
    rw [List.foldl_cons]
    refine stepR_nn h0 hb ks ?_
    unfold stepR
    split
    · exact h
    · have : 0 ≤ bs.getD k 0 := by
        rw [List.getD_eq_getElem?_getD]
        cases e : bs[k]? with
        | none => exact Int.le_refl 0
        | some b => exact hb b (List.mem_of_getElem? e)
      omega
/-- the program's loop finds what is found at the post alone -/
theorem postRun_evGo {p : PV} {gone : List Nat} {hold : Int} {bs : List Int} {x : Str} (h0 : 0 ≤ hold) (hb : ∀ b ∈ bs, 0 ≤ b) : ∀ (ls : List Nat) (L s : Int), 0 ≤ L → postRun hold bs (evGo p gone x ls s) L = unGo p gone hold bs x ls L s
  | [], _, _, _ => rfl
  | l :: ls, L, s, hL => by
    rw [evGo, unGo, postRun_riders, postRun, if_neg (fun z : (0 : Int) = 1 => by omega)]
    have hn := stepR_nn (gone := gone) h0 hb (riAt x s (tickAt p.letters l) 0 p.riders) hL
    generalize (riAt x s (tickAt p.letters l) 0 p.riders).foldl (stepR gone hold bs) L = L2 at *
    by_cases hz : L2 = 0
    · rw [if_pos hz, if_pos hz]
      subst hz
      rw [postRun_evGo h0 hb ls 0 _ (Int.le_refl 0)]
      rfl
    · rw [if_neg hz, if_neg hz, show max 0 (L2 - 1) = L2 - 1 by omega, postRun_evGo h0 hb ls _ _ (by omega)]
      rfl
theorem leD_e4 {a b : E4} (hx : a.2.2.2 = b.2.2.2) (h : a.1 < b.1 ∨ a.1 = b.1 ∧ (a.2.1 < b.2.1 ∨ a.2.1 = b.2.1 ∧ a.2.2.1 ≤ b.2.2.1)) : leD (e4D a) (e4D b) = true := by
  obtain ⟨t, w, k, x⟩ := a
  obtain ⟨t', w', k', x'⟩ := b
  have hx : x = x' := hx
  subst hx
  simp only at h
  show (!PyProof.Rows.lexLt PyProof.Rows.itemOrd (tokD (e4D (t', w', k', x))) (tokD (e4D (t, w, k, x)))) = true
  have e : PyProof.Rows.lexLt PyProof.Rows.itemOrd (tokD (e4D (t', w', k', x))) (tokD (e4D (t, w, k, x))) = false := by
    show PyProof.Rows.lexLt PyProof.Rows.itemOrd (.inl 1 :: .inl t' :: .inl 1 :: .inl w' :: .inl 1 :: .inl (k' : Int) :: .inl 1 :: .inr x.cps.toList :: _) (.inl 1 :: .inl t :: .inl 1 :: .inl w :: .inl 1 :: .inl (k : Int) :: .inl 1 :: .inr x.cps.toList :: _) = false
    rw [PyProof.Rows.lex_self]
    rcases h with h | ⟨rfl, h⟩
    · rw [PyProof.Rows.lex_diff (fun z => by cases z; omega)]
      exact decide_eq_false (by omega)
    rw [PyProof.Rows.lex_self, PyProof.Rows.lex_self]
    rcases h with h | ⟨rfl, h⟩
    · rw [PyProof.Rows.lex_diff (fun z => by cases z; omega)]
      exact decide_eq_false (by omega)
    rw [PyProof.Rows.lex_self, PyProof.Rows.lex_self]
    by_cases e : k = k'
    · subst e
      rw [PyProof.Rows.lex_self, PyProof.Rows.lex_self, PyProof.Rows.lex_self]
      rfl
    · rw [PyProof.Rows.lex_diff (fun z => by cases z; omega)]
      exact decide_eq_false (by omega)
  rw [e]
  rfl
theorem e4D_inj {a b : E4} (h : e4D a = e4D b) : a = b := by
  obtain ⟨t, w, k, x⟩ := a
  obtain ⟨t', w', k', x'⟩ := b
  unfold e4D at h
  simp only [D.tup.injEq, List.cons.injEq, D.int.injEq, D.str.injEq, and_true] at h
  obtain ⟨h1, h2, h3, h4⟩ := h
  have h3 : k = k' := by omega
  subst h1 h2 h3 h4
  rfl
theorem map_e4 : ∀ {xs ys : List E4}, xs.map e4D = ys.map e4D → xs = ys
  | [], [], _ => rfl
  | [], _ :: _, h => by cases h
  | _ :: _, [], h => by cases h
  | a :: xs, b :: ys, h => by
    rw [List.map_cons, List.map_cons] at h
    injection h with h1 h2
    rw [e4D_inj h1, map_e4 h2]
theorem tok_e4 {a b : E4} (h : tokD (e4D a) = tokD (e4D b)) : a = b := by
  obtain ⟨t, w, k, x⟩ := a
  obtain ⟨t', w', k', x'⟩ := b
  have h : (.inl 1 :: .inl t :: .inl 1 :: .inl w :: .inl 1 :: .inl (k : Int) :: .inl 1 :: .inr x.cps.toList :: [.inl 0] : List (Sum Int (List Nat))) = .inl 1 :: .inl t' :: .inl 1 :: .inl w' :: .inl 1 :: .inl (k' : Int) :: .inl 1 :: .inr x'.cps.toList :: [.inl 0] := h
  simp only [List.cons.injEq, Sum.inl.injEq, Sum.inr.injEq, true_and, and_true] at h
  obtain ⟨h1, h2, h3, h4⟩ := h
  have h3 : k = k' := by omega
  have h4 : x = x' := str_ext h4
  subst h1 h2 h3 h4
  rfl
/-- a list in order that has just the things of a post is the law's rows of it -/
theorem filter_sort4 {rows es : List E4} (q : E4 → Bool) (p : es.Perm (rows.filter q)) (h : es.Pairwise fun a b => leD (e4D a) (e4D b) = true) : (sort4 rows).filter q = es := by
  have s1 : (sort4 rows).Pairwise fun a b => leD (e4D a) (e4D b) = true := by
    have := List.pairwise_mergeSort (le := fun a b : E4 => leD (e4D a) (e4D b)) (fun a b c => leD_ok.trans _ _ _) (fun a b => by simpa using leD_ok.total (e4D a) (e4D b)) rows
    exact this
  have s2 : ((sort4 rows).filter q).Pairwise fun a b => leD (e4D a) (e4D b) = true := s1.filter _
  have p2 : ((sort4 rows).filter q).Perm es := ((sort4_perm rows).filter q).trans p.symm
  have e1 := srtD_of (xs := ((sort4 rows).filter q).map e4D) (List.pairwise_map.mpr s2)
  have e2 := srtD_of (xs := es.map e4D) (List.pairwise_map.mpr h)
  have e3 := srt_eq (p2.map e4D) fun a ha b hb e => by
    obtain ⟨a, _, rfl⟩ := List.mem_map.mp ha
    obtain ⟨b, _, rfl⟩ := List.mem_map.mp hb
    rw [tok_e4 e]
  rw [e1, e2] at e3
  exact map_e4 e3
/-- the riders of a post from a tick on -/
def riFr (x : Str) (s : Int) : Nat → List Row → List Nat
  | _, [] => []
  | i, r :: rs => if r.1 = x ∧ s ≤ r.2.1 then i :: riFr x s (i + 1) rs else riFr x s (i + 1) rs
theorem riFr_split {x : Str} {s t : Int} (h : s ≤ t) : ∀ (rs : List Row) (i : Nat), (riFr x s i rs).Perm (riAt x s t i rs ++ riFr x t i rs)
  | [], _ => .refl _
  | r :: rs, i => by
    have ih := riFr_split (x := x) h rs (i + 1)
    unfold riFr riAt
    by_cases hx : r.1 = x
    · by_cases hs : s ≤ r.2.1
      · by_cases ht : r.2.1 < t
        · rw [if_pos ⟨hx, hs⟩, if_pos ⟨hx, hs, ht⟩, if_neg (fun z => by omega)]
          exact ih.cons i
        · rw [if_pos ⟨hx, hs⟩, if_neg (fun z => ht z.2.2), if_pos ⟨hx, by omega⟩]
          exact (ih.cons i).trans List.perm_middle.symm
      · rw [if_neg (fun z => hs z.2), if_neg (fun z => hs z.2.1), if_neg (fun z => by omega)]
        exact ih
    · rw [if_neg (fun z => hx z.1), if_neg (fun z => hx z.1), if_neg (fun z => hx z.1)]
      exact ih
def riE (p : PV) (gone : List Nat) (x : Str) (ks : List Nat) : List E4 := (ks.filter fun k => decide (k ∉ gone)).map fun k => ((tickAt p.riders k, 1, k, x) : E4)
def leE (p : PV) (x : Str) (ls : List Nat) : List E4 := ls.map fun l => ((tickAt p.letters l, 0, l, x) : E4)
/-- all that happens at a post, from a tick on -/
def evT (p : PV) (gone : List Nat) (x : Str) : List Nat → Int → List E4
  | [], s => riE p gone x (riFr x s 0 p.riders)
  | l :: ls, s => riE p gone x (riAt x s (tickAt p.letters l) 0 p.riders) ++ (tickAt p.letters l, 0, l, x) :: evT p gone x ls (tickAt p.letters l)
theorem riE_app {p : PV} {gone : List Nat} {x : Str} (a b : List Nat) : riE p gone x (a ++ b) = riE p gone x a ++ riE p gone x b := by unfold riE; rw [List.filter_append, List.map_append]
theorem riE_perm {p : PV} {gone : List Nat} {x : Str} {a b : List Nat} (h : a.Perm b) : (riE p gone x a).Perm (riE p gone x b) := (h.filter _).map _
/-- ticks one behind another -/
def Ticks (p : PV) : Int → List Nat → Prop
  | _, [] => True
  | s, l :: ls => s ≤ tickAt p.letters l ∧ Ticks p (tickAt p.letters l) ls
theorem evT_perm {p : PV} {gone : List Nat} {x : Str} : ∀ (ls : List Nat) (s : Int), Ticks p s ls → (evT p gone x ls s).Perm (leE p x ls ++ riE p gone x (riFr x s 0 p.riders))
  | [], _, _ => .refl _
  | l :: ls, s, h => by
    have ih := evT_perm (gone := gone) (x := x) ls _ h.2
    have sp := riE_perm (p := p) (gone := gone) (x := x) (riFr_split (x := x) h.1 p.riders 0)
    rw [riE_app] at sp
    unfold evT leE
    rw [List.map_cons, List.cons_append]
    refine List.perm_middle.trans (.cons _ ?_)
    refine ((List.Perm.append_left _ ih).trans ?_).trans (List.Perm.append_left _ sp.symm)
    unfold leE
    rw [← List.append_assoc, ← List.append_assoc]
    exact List.perm_append_comm.append_right _
theorem postRun_evT {p : PV} {gone : List Nat} {hold : Int} {bs : List Int} {x : Str} (h0 : 0 ≤ hold) (hb : ∀ b ∈ bs, 0 ≤ b) : ∀ (ls : List Nat) (L s : Int), 0 ≤ L → postRun hold bs (evT p gone x ls s) L = unGo p gone hold bs x ls L s
  | [], L, s, _ => by
    have := postRun_riders hold bs gone (tickAt p.riders) x [] (riFr x s 0 p.riders) L
    rw [List.append_nil] at this
    exact this
  | l :: ls, L, s, hL => by
    rw [evT, unGo]
    unfold riE
    rw [postRun_riders, postRun, if_neg (fun z : (0 : Int) = 1 => by omega)]
    have hn := stepR_nn (gone := gone) h0 hb (riAt x s (tickAt p.letters l) 0 p.riders) hL
    generalize (riAt x s (tickAt p.letters l) 0 p.riders).foldl (stepR gone hold bs) L = L2 at *
    by_cases hz : L2 = 0
    · rw [if_pos hz, if_pos hz]
      subst hz
      rw [postRun_evT h0 hb ls 0 _ (Int.le_refl 0)]
      rfl
    · rw [if_neg hz, if_neg hz, show max 0 (L2 - 1) = L2 - 1 by omega, postRun_evT h0 hb ls _ _ (by omega)]
      rfl
theorem leRows_post {full : List Row} {x : Str} : ∀ (rs : List Row) (i : Nat), (∀ j r, rs[j]? = some r → full[i + j]? = some r) → (leRows i rs).filter (fun e => decide (e.2.2.2 = x)) = (mineAt x i rs).map fun l => ((tickAt full l, 0, l, x) : E4)
  | [], _, _ => rfl
  | r :: rs, i, h => by
    have ih := leRows_post (x := x) rs (i + 1) fun j r' hj => by
      have := h (j + 1) r' (by simpa using hj)
      rwa [show i + (j + 1) = i + 1 + j by omega] at this
    have et : tickAt full i = r.2.1 := by
      have := h 0 r rfl
      unfold tickAt
      rw [Nat.add_zero] at this
      rw [this]
      rfl
    unfold leRows mineAt
    by_cases hx : r.1 = x
    · rw [List.filter_cons_of_pos (by simpa using hx), if_pos hx, List.map_cons, ih, et, hx]
    · rw [List.filter_cons_of_neg (by simpa using hx), if_neg hx, ih]
theorem riRows_post {full : List Row} {gone : List Nat} {x : Str} : ∀ (rs : List Row) (i : Nat), (∀ j r, rs[j]? = some r → full[i + j]? = some r) → (∀ r ∈ rs, 0 ≤ r.2.1) → (riRows gone i rs).filter (fun e => decide (e.2.2.2 = x)) = ((riFr x 0 i rs).filter fun k => decide (k ∉ gone)).map fun k => ((tickAt full k, 1, k, x) : E4)
  | [], _, _, _ => rfl
  | r :: rs, i, h, h0 => by
    have ih := riRows_post (gone := gone) (x := x) rs (i + 1) (fun j r' hj => by
      have := h (j + 1) r' (by simpa using hj)
      rwa [show i + (j + 1) = i + 1 + j by omega] at this) fun r' hr => h0 r' (List.mem_cons_of_mem _ hr)
    have et : tickAt full i = r.2.1 := by
      have := h 0 r rfl
      unfold tickAt
      rw [Nat.add_zero] at this
      rw [this]
      rfl
    have hz := h0 r List.mem_cons_self
    unfold riRows riFr
    by_cases hg : i ∈ gone
    · rw [if_pos hg, ih]
      split
      · rw [List.filter_cons_of_neg (by simpa using hg)]
      · rfl
    · rw [if_neg hg]
      by_cases hx : r.1 = x
      · rw [List.filter_cons_of_pos (by simpa using hx), if_pos ⟨hx, hz⟩, List.filter_cons_of_pos (by simpa using hg), List.map_cons, ih, et, hx]
      · rw [List.filter_cons_of_neg (by simpa using hx), if_neg (fun z => hx z.1), ih]
/-- the law's rows of a post -/
theorem rows_post {p : PV} {gone : List Nat} {x : Str} (h0 : ∀ r ∈ p.riders, 0 ≤ r.2.1) : (leRows 0 p.letters ++ riRows gone 0 p.riders).filter (fun e => decide (e.2.2.2 = x)) = leE p x (mineN p.letters x) ++ riE p gone x (riFr x 0 0 p.riders) := by
  rw [List.filter_append, leRows_post (full := p.letters) p.letters 0 (fun j r h => by rw [Nat.zero_add]; exact h), riRows_post (full := p.riders) p.riders 0 (fun j r h => by rw [Nat.zero_add]; exact h) h0]
  rfl
theorem riAt_sub {x : Str} {s e : Int} : ∀ (rs : List Row) (i : Nat), (riAt x s e i rs).Sublist (mineAt x i rs)
  | [], _ => .slnil
  | r :: rs, i => by
    have ih := riAt_sub (x := x) (s := s) (e := e) rs (i + 1)
    unfold riAt mineAt
    by_cases hx : r.1 = x
    · rw [if_pos hx]
      split
      · exact ih.cons₂ i
      · exact ih.cons i
    · rw [if_neg (fun z => hx z.1), if_neg hx]
      exact ih
theorem riFr_sub {x : Str} {s : Int} : ∀ (rs : List Row) (i : Nat), (riFr x s i rs).Sublist (mineAt x i rs)
  | [], _ => .slnil
  | r :: rs, i => by
    have ih := riFr_sub (x := x) (s := s) rs (i + 1)
    unfold riFr mineAt
    by_cases hx : r.1 = x
    · rw [if_pos hx]
      split
      · exact ih.cons₂ i
      · exact ih.cons i
    · rw [if_neg (fun z => hx z.1), if_neg hx]
      exact ih
theorem mineAt_pw {full : List Row} {x : Str} : ∀ (rs : List Row) (i : Nat), (∀ j r, rs[j]? = some r → full[i + j]? = some r) → TickOrd rs → (mineAt x i rs).Pairwise fun a b => a < b ∧ tickAt full a ≤ tickAt full b
  | [], _, _, _ => .nil
  | r :: rs, i, h, ho => by
    obtain ⟨h1, h2⟩ := List.pairwise_cons.mp ho
    have hn : ∀ j r', rs[j]? = some r' → full[i + 1 + j]? = some r' := fun j r' hj => by
      have := h (j + 1) r' (by simpa using hj)
      rwa [show i + (j + 1) = i + 1 + j by omega] at this
    have ih := mineAt_pw (x := x) rs (i + 1) hn h2
    have et : tickAt full i = r.2.1 := by
      have := h 0 r rfl
      unfold tickAt
      rw [Nat.add_zero] at this
      rw [this]
      rfl
    unfold mineAt
    split
    · rename_i hx
      refine List.pairwise_cons.mpr ⟨fun k hk => ?_, ih⟩
      obtain ⟨g1, g2, r', g3, g4⟩ := mem_mineAt hk
      have := hn _ _ g3
      rw [show i + 1 + (k - (i + 1)) = k by omega] at this
      have ek : tickAt full k = r'.2.1 := by unfold tickAt; rw [this]; rfl
      exact ⟨by omega, by rw [et, ek]; exact h1 r' (List.mem_of_getElem? g3) (hx.trans g4.symm)⟩
    · exact ih
theorem riE_ord {p : PV} {gone : List Nat} {x : Str} {ks : List Nat} (h : ks.Pairwise fun a b => a < b ∧ tickAt p.riders a ≤ tickAt p.riders b) : (riE p gone x ks).Pairwise fun a b => leD (e4D a) (e4D b) = true := by
  unfold riE
  rw [List.pairwise_map]
  refine (h.filter _).imp fun {a b} ⟨h1, h2⟩ => leD_e4 rfl ?_
  rcases Int.lt_or_eq_of_le h2 with h | h
  · exact .inl h
  · exact .inr ⟨h, .inr ⟨rfl, Nat.le_of_lt h1⟩⟩
theorem riE_mem {p : PV} {gone : List Nat} {x : Str} {ks : List Nat} {e : E4} (h : e ∈ riE p gone x ks) : e.2.2.2 = x ∧ e.2.1 = 1 ∧ ∃ k ∈ ks, e.1 = tickAt p.riders k := by
  obtain ⟨k, hk, rfl⟩ := List.mem_map.mp h
  exact ⟨rfl, rfl, k, (List.mem_filter.mp hk).1, rfl⟩
theorem riAt_tick {full : List Row} {x : Str} {s e : Int} : ∀ (rs : List Row) (i : Nat), (∀ j r, rs[j]? = some r → full[i + j]? = some r) → ∀ k ∈ riAt x s e i rs, s ≤ tickAt full k ∧ tickAt full k < e
  | [], _, _, _, h => nomatch h
  | r :: rs, i, h, k, hk => by
    have ih := riAt_tick (x := x) (s := s) (e := e) rs (i + 1) (fun j r' hj => by
      have := h (j + 1) r' (by simpa using hj)
      rwa [show i + (j + 1) = i + 1 + j by omega] at this)
    have et : tickAt full i = r.2.1 := by
      have := h 0 r rfl
      unfold tickAt
      rw [Nat.add_zero] at this
      rw [this]
      rfl
    unfold riAt at hk
    split at hk
    · rename_i hx
      rcases List.mem_cons.mp hk with rfl | hk
      · rw [et]; exact hx.2
      · exact ih k hk
    · exact ih k hk
theorem riFr_tick {full : List Row} {x : Str} {s : Int} : ∀ (rs : List Row) (i : Nat), (∀ j r, rs[j]? = some r → full[i + j]? = some r) → ∀ k ∈ riFr x s i rs, s ≤ tickAt full k
  | [], _, _, _, h => nomatch h
  | r :: rs, i, h, k, hk => by
    have ih := riFr_tick (x := x) (s := s) rs (i + 1) (fun j r' hj => by
      have := h (j + 1) r' (by simpa using hj)
      rwa [show i + (j + 1) = i + 1 + j by omega] at this)
    have et : tickAt full i = r.2.1 := by
      have := h 0 r rfl
      unfold tickAt
      rw [Nat.add_zero] at this
      rw [this]
      rfl
    unfold riFr at hk
    split at hk
    · rename_i hx
      rcases List.mem_cons.mp hk with rfl | hk
      · rw [et]; exact hx.2
      · exact ih k hk
    · exact ih k hk
theorem evT_mem {p : PV} {gone : List Nat} {x : Str} : ∀ (ls : List Nat) (s : Int), Ticks p s ls → ∀ e ∈ evT p gone x ls s, e.2.2.2 = x ∧ s ≤ e.1 ∧ (e.2.1 = 1 ∨ e.2.1 = 0 ∧ e.2.2.1 ∈ ls)
  | [], s, _, e, he => by
    obtain ⟨h1, h2, k, hk, h3⟩ := riE_mem he
    exact ⟨h1, by rw [h3]; exact riFr_tick (full := p.riders) p.riders 0 (fun j r h => by rw [Nat.zero_add]; exact h) k hk, .inl h2⟩
  | l :: ls, s, ht, e, he => by
    rw [evT] at he
    rcases List.mem_append.mp he with he | he
    · obtain ⟨h1, h2, k, hk, h3⟩ := riE_mem he
      exact ⟨h1, by rw [h3]; exact (riAt_tick (full := p.riders) p.riders 0 (fun j r h => by rw [Nat.zero_add]; exact h) k hk).1, .inl h2⟩
    · rcases List.mem_cons.mp he with rfl | he
      · exact ⟨rfl, ht.1, .inr ⟨rfl, List.mem_cons_self⟩⟩
      · obtain ⟨h1, h2, h3⟩ := evT_mem ls _ ht.2 e he
        exact ⟨h1, by have := ht.1; omega, h3.imp id fun z => ⟨z.1, List.mem_cons_of_mem _ z.2⟩⟩
theorem evT_ord {p : PV} {gone : List Nat} {x : Str} (hr : TickOrd p.riders) : ∀ (ls : List Nat) (s : Int), Ticks p s ls → ls.Pairwise (fun a b => a < b) → (evT p gone x ls s).Pairwise fun a b => leD (e4D a) (e4D b) = true
  | [], s, _, _ => riE_ord ((mineAt_pw (full := p.riders) p.riders 0 (fun j r h => by rw [Nat.zero_add]; exact h) hr).sublist (riFr_sub p.riders 0))
  | l :: ls, s, ht, hl => by
    obtain ⟨l1, l2⟩ := List.pairwise_cons.mp hl
    rw [evT]
    refine List.pairwise_append.mpr ⟨riE_ord ((mineAt_pw (full := p.riders) p.riders 0 (fun j r h => by rw [Nat.zero_add]; exact h) hr).sublist (riAt_sub p.riders 0)), List.pairwise_cons.mpr ⟨fun e he => ?_, evT_ord hr ls _ ht.2 l2⟩, fun a ha b hb => ?_⟩
    · obtain ⟨h1, h2, h3⟩ := evT_mem ls _ ht.2 e he
      refine leD_e4 h1.symm ?_
      rcases h3 with h3 | ⟨h3, h4⟩
      · simp only [h3]
        omega
      · have := l1 _ h4
        rcases Int.lt_or_eq_of_le h2 with h | h
        · exact .inl h
        · exact .inr ⟨h, .inr ⟨h3.symm, Nat.le_of_lt this⟩⟩
    · obtain ⟨a1, a2, k, hk, a3⟩ := riE_mem ha
      have a4 := (riAt_tick (full := p.riders) p.riders 0 (fun j r h => by rw [Nat.zero_add]; exact h) k hk).2
      have hb2 : b.2.2.2 = x ∧ tickAt p.letters l ≤ b.1 := by
        rcases List.mem_cons.mp hb with rfl | hb
        · exact ⟨rfl, Int.le_refl _⟩
        · obtain ⟨h1, h2, _⟩ := evT_mem ls _ ht.2 b hb
          exact ⟨h1, h2⟩
      exact leD_e4 (a1.trans hb2.1.symm) (.inl (by omega))
def postAt (rs : List Row) (k : Nat) : Str := (rs[k]?.map (·.1)).getD ""
theorem leRows_mem {e : E4} : ∀ {rs : List Row} {i : Nat}, e ∈ leRows i rs → ∃ j r, rs[j]? = some r ∧ e = (r.2.1, 0, i + j, r.1)
  | [], _, h => nomatch h
  | r :: rs, i, h => by
    unfold leRows at h
    rcases List.mem_cons.mp h with rfl | h
    · exact ⟨0, r, rfl, rfl⟩
    · obtain ⟨j, r', h1, h2⟩ := leRows_mem h
      exact ⟨j + 1, r', by simpa using h1, by rw [h2, show i + (j + 1) = i + 1 + j by omega]⟩
theorem riRows_mem {e : E4} {gone : List Nat} : ∀ {rs : List Row} {i : Nat}, e ∈ riRows gone i rs → e.2.1 = 1
  | [], _, h => nomatch h
  | r :: rs, i, h => by
    unfold riRows at h
    split at h
    · exact riRows_mem h
    · rcases List.mem_cons.mp h with rfl | h
      · rfl
      · exact riRows_mem h
theorem ticks_of {p : PV} : ∀ {ls : List Nat} {s : Int}, (ls.Pairwise fun a b => a < b ∧ tickAt p.letters a ≤ tickAt p.letters b) → (∀ l ∈ ls, s ≤ tickAt p.letters l) → Ticks p s ls
  | [], _, _, _ => trivial
  | l :: ls, s, h, h0 => by
    obtain ⟨h1, h2⟩ := List.pairwise_cons.mp h
    exact ⟨h0 l List.mem_cons_self, ticks_of h2 fun k hk => (h1 k hk).2⟩
/-- what the law finds of a post is what the program finds of it -/
theorem law_post {p : PV} {gone : List Nat} {hf : Str → Int} {bs : List Int} {x : Str} (ho : TickOrd p.letters) (hr : TickOrd p.riders) (l0 : ∀ r ∈ p.letters, 0 ≤ r.2.1) (r0 : ∀ r ∈ p.riders, 0 ≤ r.2.1) (h0 : 0 ≤ hf x) (hb : ∀ b ∈ bs, 0 ≤ b) :
    (lawRun hf bs (sort4 (leRows 0 p.letters ++ riRows gone 0 p.riders)) hf).filter (fun k => decide (postAt p.letters k = x)) = unN p gone (hf x) bs x := by
  have link : ∀ j r, p.letters[j]? = some r → p.letters[0 + j]? = some r := fun j r h => by rw [Nat.zero_add]; exact h
  have pw := mineAt_pw (full := p.letters) (x := x) p.letters 0 link ho
  have hT : Ticks p 0 (mineN p.letters x) := ticks_of pw fun l hl => by
    obtain ⟨_, r, h1, _⟩ := mem_mine hl
    have : tickAt p.letters l = r.2.1 := by unfold tickAt; rw [h1]; rfl
    rw [this]
    exact l0 r (List.mem_of_getElem? h1)
  rw [lawRun_post hf bs x _ hf (postAt p.letters) fun e he hw => ?_]
  · rw [filter_sort4 (rows := leRows 0 p.letters ++ riRows gone 0 p.riders) (es := evT p gone x (mineN p.letters x) 0) (fun e => decide (e.2.2.2 = x)) (by rw [rows_post r0]; exact evT_perm _ 0 hT) (evT_ord hr _ 0 hT (pw.imp fun h => h.1))]
    exact postRun_evT h0 hb _ _ _ h0
  · rcases List.mem_append.mp ((sort4_perm _).mem_iff.mp he) with he | he
    · obtain ⟨j, r, h1, rfl⟩ := leRows_mem he
      unfold postAt
      simp only [Nat.zero_add]
      rw [h1]
      rfl
    · exact absurd (riRows_mem he) hw
theorem perm_classes {f : Nat → Str} : ∀ (xs : List Str) (F : List Nat), xs.Nodup → (∀ k ∈ F, f k ∈ xs) → F.Perm (xs.flatMap fun x => F.filter fun k => decide (f k = x))
  | [], F, _, h => by
    have : F = [] := List.eq_nil_iff_forall_not_mem.mpr fun k hk => nomatch h k hk
    rw [this]
    exact .refl _
  | x :: xs, F, nd, h => by
    obtain ⟨n1, n2⟩ := List.nodup_cons.mp nd
    have ih := perm_classes (f := f) xs (F.filter fun k => !decide (f k = x)) n2 fun k hk => by
      obtain ⟨k1, k2⟩ := List.mem_filter.mp hk
      exact (List.mem_cons.mp (h k k1)).resolve_left (by simpa using k2)
    have e : (xs.flatMap fun y => (F.filter fun k => !decide (f k = x)).filter fun k => decide (f k = y)) = xs.flatMap fun y => F.filter fun k => decide (f k = y) := by
      rw [List.flatMap_def, List.flatMap_def]
      congr 1
      refine List.map_congr_left fun y hy => ?_
      rw [List.filter_filter]
      refine List.filter_congr fun k _ => ?_
      by_cases hk : f k = y
      · have : ¬ f k = x := fun z => n1 (by rw [← z, hk]; exact hy)
        simp [hk] at *
        exact this
      · simp [hk]
    rw [e] at ih
    rw [List.flatMap_cons]
    exact (List.filter_append_perm (fun k => decide (f k = x)) F).symm.trans (List.Perm.append_left _ ih)
theorem lawRun_mem {hf : Str → Int} {bs : List Int} {k : Nat} : ∀ {es : List E4} {f : Str → Int}, k ∈ lawRun hf bs es f → ∃ e ∈ es, e.2.1 ≠ 1 ∧ e.2.2.1 = k
  | [], _, h => nomatch h
  | e :: es, f, h => by
    have go : ∀ {g : Str → Int}, k ∈ lawRun hf bs es g → ∃ e' ∈ e :: es, e'.2.1 ≠ 1 ∧ e'.2.2.1 = k := fun h => let ⟨e', h1, h2⟩ := lawRun_mem h; ⟨e', List.mem_cons_of_mem _ h1, h2⟩
    rw [lawRun] at h
    split at h
    · exact go h
    · rename_i hw
      split at h
      · rcases List.mem_cons.mp h with rfl | h
        · exact ⟨e, List.mem_cons_self, hw, rfl⟩
        · exact go h
      · exact go h
/-- what the law finds is what the program finds, in another order -/
theorem law_all {p : PV} {gone : List Nat} {hf : Str → Int} {bs : List Int} (ho : TickOrd p.letters) (hr : TickOrd p.riders) (l0 : ∀ r ∈ p.letters, 0 ≤ r.2.1) (r0 : ∀ r ∈ p.riders, 0 ≤ r.2.1) (h0 : ∀ r ∈ p.roads, 0 ≤ hf r.1) (hb : ∀ b ∈ bs, 0 ≤ b)
    (nd : (p.roads.map (·.1)).Nodup) (lp : ∀ r ∈ p.letters, ∃ x ∈ p.roads, x.1 = r.1) : (lawRun hf bs (sort4 (leRows 0 p.letters ++ riRows gone 0 p.riders)) hf).Perm (unAll p gone hf bs p.roads) := by
  have pc := perm_classes (f := postAt p.letters) (p.roads.map (·.1)) (lawRun hf bs (sort4 (leRows 0 p.letters ++ riRows gone 0 p.riders)) hf) nd fun k hk => by
    obtain ⟨e, he, hw, ek⟩ := lawRun_mem hk
    rcases List.mem_append.mp ((sort4_perm _).mem_iff.mp he) with he | he
    · obtain ⟨j, r, h1, rfl⟩ := leRows_mem he
      have ek : 0 + j = k := ek
      have ek : j = k := by omega
      subst ek
      obtain ⟨x, hx, ex⟩ := lp r (List.mem_of_getElem? h1)
      have e1 : postAt p.letters j = r.1 := by unfold postAt; rw [h1]; rfl
      rw [e1, ← ex]
      exact List.mem_map_of_mem hx
    · exact absurd (riRows_mem he) hw
  refine pc.trans ?_
  have e : ((p.roads.map (·.1)).flatMap fun x => (lawRun hf bs (sort4 (leRows 0 p.letters ++ riRows gone 0 p.riders)) hf).filter fun k => decide (postAt p.letters k = x)) = unAll p gone hf bs p.roads := by
    unfold unAll
    rw [List.flatMap_def, List.flatMap_def, List.map_map]
    congr 1
    exact List.map_congr_left fun r hr' => law_post ho hr l0 r0 (h0 r hr') hb
  rw [e]
theorem tok_int {i j : Int} (h : tokD (.int i) = tokD (.int j)) : i = j := by
  have h : ([.inl i] : List (Sum Int (List Nat))) = [.inl j] := h
  injection h with h
  injection h
theorem law_srt {p : PV} {gone : List Nat} {hf : Str → Int} {bs : List Int} (ho : TickOrd p.letters) (hr : TickOrd p.riders) (l0 : ∀ r ∈ p.letters, 0 ≤ r.2.1) (r0 : ∀ r ∈ p.riders, 0 ≤ r.2.1) (h0 : ∀ r ∈ p.roads, 0 ≤ hf r.1) (hb : ∀ b ∈ bs, 0 ≤ b)
    (nd : (p.roads.map (·.1)).Nodup) (lp : ∀ r ∈ p.letters, ∃ x ∈ p.roads, x.1 = r.1) : srtD (intsD (lawRun hf bs (sort4 (leRows 0 p.letters ++ riRows gone 0 p.riders)) hf)) = srtD (intsD (unAll p gone hf bs p.roads)) :=
  srt_eq ((law_all ho hr l0 r0 h0 hb nd lp).map _) fun a ha b hb e => by
    obtain ⟨i, _, rfl⟩ := List.mem_map.mp ha
    obtain ⟨j, _, rfl⟩ := List.mem_map.mp hb
    rw [tok_int e]
theorem tickOrd_of {l : List Row} (h : InOrd l) : TickOrd l := by
  have hp := sortT_pw l
  unfold InOrd at h
  rw [h] at hp
  refine hp.imp fun {a b} hab hx => ?_
  obtain ⟨x, t, u⟩ := a
  obtain ⟨y, t', u'⟩ := b
  have hx : x = y := hx
  subst hx
  by_cases hlt : t ≤ t'
  · exact hlt
  have e : PyProof.Rows.lexLt PyProof.Rows.itemOrd (tokD (trD (x, t', u'))) (tokD (trD (x, t, u))) = true := by
    show PyProof.Rows.lexLt PyProof.Rows.itemOrd (.inl 1 :: .inr x.cps.toList :: .inl 1 :: .inl t' :: _) (.inl 1 :: .inr x.cps.toList :: .inl 1 :: .inl t :: _) = true
    rw [PyProof.Rows.lex_self, PyProof.Rows.lex_self, PyProof.Rows.lex_self, PyProof.Rows.lex_diff (fun z => by cases z; omega)]
    exact decide_eq_true (by omega)
  have hab : (!PyProof.Rows.lexLt PyProof.Rows.itemOrd (tokD (trD (x, t', u'))) (tokD (trD (x, t, u)))) = true := hab
  rw [e] at hab
  cases hab
/-- what the drawers hold, as a function -/
def hfz (hz : List (Str × Int)) (x : Str) : Int := ((hz.find? fun a => decide (a.1 = x)).map (·.2)).getD 0
theorem hfz_mem : ∀ {hz : List (Str × Int)}, (hz.map (·.1)).Nodup → ∀ z ∈ hz, hz.find? (fun a => decide (a.1 = z.1)) = some z
  | [], _, z, h => nomatch h
  | a :: hz, nd, z, h => by
    obtain ⟨n1, n2⟩ := List.nodup_cons.mp nd
    rcases List.mem_cons.mp h with rfl | h
    · rw [List.find?_cons_of_pos (by simp)]
    · have : ¬ a.1 = z.1 := fun e => n1 (by show a.1 ∈ _; rw [e]; exact List.mem_map_of_mem h)
      rw [List.find?_cons_of_neg (by simpa using this)]
      exact hfz_mem n2 z h
theorem left_holds {hz : List (Str × Int)} (nd : (hz.map (·.1)).Nodup) : holdsD hz = leftD (hz.map (·.1)) (hfz hz) := by
  unfold holdsD leftD
  rw [List.map_map]
  congr 1
  refine List.map_congr_left fun z hz' => ?_
  show _ = ((D.str z.1 : D), D.int (hfz hz z.1))
  unfold hfz
  rw [hfz_mem nd z hz']
  rfl
theorem getK_left {ks : List Str} {f : Str → Int} {x : Str} (h : x ∈ ks) : getK (ks.map fun k => ((.str k : D), D.int (f k))) (.inr x) = some (.int (f x)) := by
  rw [getK_map (fun k : Str => k) (fun k => .int (f k))]
  induction ks with
  | nil => nomatch h
  | cons k ks ih =>
    by_cases e : k = x
    · subst e
      rw [List.find?_cons_of_pos (by simp)]
      rfl
    · rw [List.find?_cons_of_neg (by simpa using e)]
      exact ih ((List.mem_cons.mp h).resolve_left fun z => e z.symm)
theorem getK_holds {hz : List (Str × Int)} (nd : (hz.map (·.1)).Nodup) {x : Str} (h : x ∈ hz.map (·.1)) : getK (hz.map fun x => ((.str x.1 : D), D.int x.2)) (.inr x) = some (.int (hfz hz x)) := by
  have := left_holds nd
  unfold holdsD leftD at this
  injection this with this
  rw [this]
  exact getK_left h
theorem putD_left {ks : List Str} {f : Str → Int} {x : Str} {v : Int} (h : x ∈ ks) : D.dct (putD (ks.map fun k => ((.str k : D), D.int (f k))) (.inr x) (.int v)) = leftD ks (setP f x v) := by
  unfold putD leftD
  have e : ((ks.map fun k => ((.str k : D), D.int (f k))).any fun p => isKey p.1 (.inr x)) = true := by
    rw [List.any_map]
    exact List.any_eq_true.mpr ⟨x, h, by simp [isKey]⟩
  rw [if_pos e, List.map_map]
  congr 1
  refine List.map_congr_left fun k _ => ?_
  unfold setP
  by_cases e : k = x
  · simp [isKey, e]
  · simp [isKey, e]
theorem left_plain (ks : List Str) (f : Str → Int) : PlainK (ks.map fun k => ((.str k : D), D.int (f k))) := fun p hp => by
  obtain ⟨k, _, rfl⟩ := List.mem_map.mp hp
  exact ⟨.inr k, rfl⟩
/-- what is asked of at once -/
structure TaskOk (p : PV) (gone : List Nat) (hz : List (Str × Int)) (bs : List Int) : Prop where
  nd : gone.Nodup
  gl : gone.length ≤ 100
  lt : ∀ k ∈ gone, k < p.riders.length
  hp : (hz.map (·.1)).Perm (p.roads.map (·.1))
  h4 : ∀ x ∈ hz, 0 ≤ x.2 ∧ x.2 ≤ 4
  bl : bs.length = p.riders.length
  b4 : ∀ b ∈ bs, 0 ≤ b ∧ b ≤ 4
def dueD (p : PV) (gone : List Nat) (hz : List (Str × Int)) (bs : List Int) : D := .lst (srtD (intsD (unAll p gone (hfz hz) bs p.roads)))
end My

set_option Elab.async false
set_option linter.all false
set_option maxRecDepth 100000
set_option maxHeartbeats 4000000
set_option pp.maxSteps 6000
namespace My
open PySem PySem.Spec PyProof.Rows L2 DL
set_option pp.maxSteps 4000
theorem riRows_mem2 {e : E4} {gone : List Nat} : ∀ {rs : List Row} {i : Nat}, e ∈ riRows gone i rs → ∃ j r, rs[j]? = some r ∧ e = (r.2.1, 1, i + j, r.1)
  | [], _, h => nomatch h
  | r :: rs, i, h => by
    have go : e ∈ riRows gone (i + 1) rs → ∃ j r', (r :: rs)[j]? = some r' ∧ e = (r'.2.1, 1, i + j, r'.1) := fun h => by
      obtain ⟨j, r', h1, h2⟩ := riRows_mem2 h
      exact ⟨j + 1, r', by simpa using h1, by rw [h2, show i + (j + 1) = i + 1 + j by omega]⟩
    unfold riRows at h
    split at h
    · exact go h
    · rcases List.mem_cons.mp h with rfl | h
      · exact ⟨0, r, rfl, rfl⟩
      · exact go h
theorem leRows_len : ∀ {rs : List Row} {i : Nat}, (leRows i rs).length ≤ rs.length
  | [], _ => Nat.le_refl _
  | r :: rs, i => by
    unfold leRows
    have := leRows_len (rs := rs) (i := i + 1)
    simp only [List.length_cons]
    omega
theorem riRows_len {gone : List Nat} : ∀ {rs : List Row} {i : Nat}, (riRows gone i rs).length ≤ rs.length
  | [], _ => Nat.le_refl _
  | r :: rs, i => by
    unfold riRows
    have := riRows_len (gone := gone) (rs := rs) (i := i + 1)
    split <;> simp only [List.length_cons] <;> omega
theorem canSort_e4 {l : List E4} (h : ∀ e ∈ l, PyData.strOk e.2.2.2 = true ∧ e.1.natAbs ≤ 10 ^ 30 ∧ e.2.1.natAbs ≤ 10 ^ 30 ∧ e.2.2.1 ≤ 10 ^ 30) : CanSort (l.map e4D) := by
  refine ⟨shwL_of fun d hd => ?_, fun d hd d' hd' => ?_, .inl fun d hd => ?_, fun d hd => ?_⟩
  · obtain ⟨r, hr, rfl⟩ := List.mem_map.mp hd
    obtain ⟨h1, h2, h3, h4⟩ := h r hr
    have h5 : ((r.2.2.1 : Nat) : Int).natAbs ≤ 10 ^ 30 := by omega
    simp only [e4D, D.shw, D.shwL, h1, decide_eq_true (log_ok h2), decide_eq_true (log_ok h3), decide_eq_true (log_ok h5)]
    rfl
  · rw [List.map_map] at hd hd'
    obtain ⟨r, _, rfl⟩ := List.mem_map.mp hd
    obtain ⟨r', _, rfl⟩ := List.mem_map.mp hd'
    rfl
  · rw [List.map_map] at hd
    obtain ⟨r, _, rfl⟩ := List.mem_map.mp hd
    exact ⟨_, _, rfl⟩
  · obtain ⟨r, _, rfl⟩ := List.mem_map.mp hd
    exact Nat.le_trans (show _ ≤ 2 by simp [e4D, D.dep, D.depL]) (by decide)
theorem items_e4 {Q : List Dv → Prop} {es : List E4} {n : Bool} {v : Option V} (q : ∀ f, Q (es.map fun e => ⟨e4D e, f, none⟩)) : items ⟨.lst (es.map e4D), n, v⟩ Q := by
  rw [items_seq rfl, List.map_map]
  exact q _
theorem gIn_seqN {gone : List Nat} {k : Nat} {n n' : Bool} {v v' : Option V} {Q : Dv → Prop} (q : Q ⟨.bl (!decide (k ∈ gone)), true, none⟩) : gIn true ⟨.int (k : Nat), n, v⟩ ⟨.lst (intsD gone), n', v'⟩ Q := by
  have ei : intsD gone = (gone.map fun (k : Nat) => (k : Int)).map D.int := by unfold intsD; rw [List.map_map]; rfl
  have em : decide ((k : Int) ∈ gone.map fun (k : Nat) => (k : Int)) = decide (k ∈ gone) := by
    rw [decide_eq_decide, List.mem_map]
    refine ⟨fun ⟨a, h, e⟩ => ?_, fun h => ⟨k, h, rfl⟩⟩
    have : a = k := Int.ofNat.inj e
    exact this ▸ h
  rw [ei]
  refine ⟨rfl, scaL_ints _, ?_⟩
  rw [isIn_ints, em]
  exact q
section
variable {P : Program} {w : World} {K : PySem.W.Frag} {mg : Str → Option Value} {base : Heap}
theorem sc__law_unstamped : FnScope ["plan", "gone", "holds", "brings", "rows", "left", "found", "tick", "way", "k", "post", "due", "room"] ["plan", "gone", "holds", "brings"] (defScope s__law_unstamped) := ⟨rfl, rfl, rfl, by decide +kernel, rfl, by decide +kernel, by decide +kernel⟩
def c__law_unstamped : DC := fun ds _ _ Q => ∃ (p : PV) (gone : List Nat) (hz : List (Str × Int)) (bs : List Int), ds = [p.d, .lst (intsD gone), holdsD hz, .lst (bs.map D.int)] ∧ PlanOk p ∧ TaskOk p gone hz bs ∧ ∀ f, Q ⟨dueD p gone hz bs, f, none⟩
theorem ok__law_unstamped (T : Txt K mg) : FnD P w K mg base 1 T.f__law_unstamped.f T.f__law_unstamped.fd ["plan", "gone", "holds", "brings"] 0 c__law_unstamped := by
  refine fn_ok T.f__law_unstamped.ok sc__law_unstamped fun cdv A outer s H E hr => ⟨_, _, (dss_cons (ds_par2 (i := 5) (j := 6) [] (dp_ow (dn_dictP rfl (by rfl) T.n_dict (da_cons (DN.de (dn_lcK (own := [("post", 10)]) rfl sc__law_unstamped.nd (dik_keys (dpl_var (pv 2))) (blkOk_by (N := ["plan", "gone", "holds", "brings", "rows", "left", "found", "tick", "way", "k", "post", "due", "room"]) (sc := defScope s__law_unstamped) (by decide +kernel)) (fun _ _ _ _ _ => (dg_name (pg_name (i := 10) sc__law_unstamped.nd rfl (Or.inl rfl)))) (fun _ _ _ _ _ => dts_nil) (fun _ _ _ _ _ => (de_tup (da_cons (de_var (pv 10)) (da_cons (de_dget hr.units (de_var (pv 2)) (de_var (pv 10)) (fun _ _ => rfl)) da_nil)))) (by decide))) da_nil))) (dp_ow (dn_lst da_nil)) rfl sc__law_unstamped.nd rfl rfl (by decide) (by rfl) (by rfl) (by rfl))
      (dss_cons (ds_setLcO (i := 4) (own := [("k", 9), ("post", 10), ("tick", 7), ("due", 11)]) [] rfl sc__law_unstamped.nd rfl rfl (sw_true rfl rfl rfl (by decide +kernel)) (di_enum (by rfl) T.n_enumerate (da_cons (de_ix (de_var (pv 0)) de_int (fun _ _ => rfl)) da_nil)) (blkOk_by (N := ["plan", "gone", "holds", "brings", "rows", "left", "found", "tick", "way", "k", "post", "due", "room"]) (sc := defScope s__law_unstamped) (by decide +kernel)) (fun _ _ _ _ _ => (dg_tup (n := 2) rfl (dgs_cons (dg_name (pg_name (i := 9) sc__law_unstamped.nd rfl (Or.inl rfl))) (dgs_cons (dg_tup (n := 3) rfl (dgs_cons (dg_name (pg_name (i := 10) sc__law_unstamped.nd rfl (Or.inl rfl))) (dgs_cons (dg_name (pg_name (i := 7) sc__law_unstamped.nd rfl (Or.inl rfl))) (dgs_cons (dg_name (pg_name (i := 11) sc__law_unstamped.nd rfl (Or.inl rfl))) dgs_nil)))) dgs_nil)))) (fun _ _ _ _ _ => dts_nil) (fun _ _ _ _ _ => (de_tup (da_cons (de_var (pv 7)) (da_cons de_int (da_cons (de_var (pv 9)) (da_cons (de_var (pv 10)) da_nil)))))) (by decide))
      (dss_cons (ds_extend [] (DN.de (dn_lc (own := [("k", 9), ("post", 10), ("tick", 7), ("room", 12)]) rfl sc__law_unstamped.nd (di_enum (by rfl) T.n_enumerate (da_cons (de_ix (de_var (pv 0)) de_int (fun _ _ => rfl)) da_nil)) (blkOk_by (N := ["plan", "gone", "holds", "brings", "rows", "left", "found", "tick", "way", "k", "post", "due", "room"]) (sc := defScope s__law_unstamped) (by decide +kernel)) (fun _ _ _ _ _ => (dg_tup (n := 2) rfl (dgs_cons (dg_name (pg_name (i := 9) sc__law_unstamped.nd rfl (Or.inl rfl))) (dgs_cons (dg_tup (n := 3) rfl (dgs_cons (dg_name (pg_name (i := 10) sc__law_unstamped.nd rfl (Or.inl rfl))) (dgs_cons (dg_name (pg_name (i := 7) sc__law_unstamped.nd rfl (Or.inl rfl))) (dgs_cons (dg_name (pg_name (i := 12) sc__law_unstamped.nd rfl (Or.inl rfl))) dgs_nil)))) dgs_nil)))) (fun _ _ _ _ _ => (dts_one (dt_cmp dop_notIn (de_var (pv 9)) (de_var (pv 1)) (by rfl)))) (fun _ _ _ _ _ => (de_tup (da_cons (de_var (pv 7)) (da_cons de_int (da_cons (de_var (pv 9)) (da_cons (de_var (pv 10)) da_nil)))))) (by decide))) (fun _ a => ps_expr (pe_bm PySem.F.plainAttrs_list PySem.F.slot_list_extend PySem.F.type_list_extend mt_extend (pv 4) (pa_cons a pa_nil))))
      (dss_cons (ds_for [4] (passes_of rfl) rfl (di_seq (de_callB (dcl_sortedD (hr.mono (by decide))) (by rfl) T.n_sorted (by decide +kernel) (da_cons (de_var (pv 4)) da_nil))) (dg_tup (n := 4) rfl (dgs_cons (dg_name (pg_name (i := 7) sc__law_unstamped.nd rfl (Or.inl rfl))) (dgs_cons (dg_name (pg_name (i := 8) sc__law_unstamped.nd rfl (Or.inl rfl))) (dgs_cons (dg_name (pg_name (i := 9) sc__law_unstamped.nd rfl (Or.inl rfl))) (dgs_cons (dg_name (pg_name (i := 10) sc__law_unstamped.nd rfl (Or.inl rfl))) dgs_nil)))))
      (dss_one (ds_if [] (dt_cmp (dop_eq hr.units) (de_var (pv 8)) de_int (nomark _)) (dss_one (ds_setD [5] (i := 5) hr.units (de_callB (dcl_min2 rfl) (by rfl) T.n_min (by decide +kernel) (da_cons (de_dget hr.units (de_var (pv 2)) (de_var (pv 10)) (fun _ _ => rfl)) (da_cons (de_op dop_add (de_dget hr.units (de_var (pv 5)) (de_var (pv 10)) (fun _ _ => rfl)) (de_ix (de_var (pv 3)) (de_var (pv 9)) (fun _ _ => rfl))) da_nil))) (de_var (pv 10)) (pv 5))) (dss_one (ds_if [5] (dt_cmp (dop_eq hr.units) (de_dget hr.units (de_var (pv 5)) (de_var (pv 10)) (fun _ _ => rfl)) de_int (nomark _)) (dss_one (ds_append [] (de_var (pv 9)) (fun _ a => ps_expr (pe_bm PySem.F.plainAttrs_list PySem.F.slot_list_append PySem.F.type_list_append mt_append (pv 6) (pa_cons a pa_nil))))) (dss_one (ds_setD [5] (i := 5) hr.units (de_op dop_sub (de_dget hr.units (de_var (pv 5)) (de_var (pv 10)) (fun _ _ => rfl)) de_int) (de_var (pv 10)) (pv 5))))))))
      (dss_one (ds_ret [6] (de_callB (dcl_sortedD (hr.mono (by decide))) (by rfl) T.n_sorted (by decide +kernel) (da_cons (de_var (pv 6)) da_nil)))))))), by decide +kernel, fun ds vs XQ Q hd hv h => ?_⟩
  obtain ⟨p, gone, hz, bs, rfl, hp, ht, q⟩ := h
  match vs, hv with
  | [v, v2, v3, v4], _ =>
  try simp only [frz, params, setAll, List.zipWith, List.length_cons, List.length_nil, Nat.reduceAdd, Nat.reduceSub, List.replicate, List.append_nil, List.cons_append, List.nil_append, getV_va, Pt.sl, true_and, List.getElem?_cons_zero, List.getElem?_cons_succ, List.set_cons_zero, List.set_cons_succ, ite_self, Bool.false_eq_true, if_false, if_true]
  obtain ⟨t1, t2⟩ := hp.t.facts
  have hl8 := hp.t.l
  have hrl := hp.rl
  have hll := hp.ll
  have ndz : (hz.map (·.1)).Nodup := ht.hp.nodup_iff.mpr t2
  have hzl : hz.length ≤ 8 := by
    have := ht.hp.length_eq
    rw [List.length_map, List.length_map] at this
    omega
  refine ⟨_, _, rfl, rfl, holds_plain hz, by rw [keysD, List.length_map, List.length_map]; unfold BIG; omega, ?_⟩
  rw [keysD, List.map_map]
  refine lc_mapA (g := fun z : Str × Int => .tup [.str z.1, .int (hfz hz z.1)]) (fun z hzm K1 K0 k1 => ?_) fun m => ?_
  · try simp only [lcStep, true_and, wipeR, List.map_cons, List.map_nil, List.set_cons_succ, List.set_cons_zero, List.getElem?_cons_succ, List.getElem?_cons_zero, getV_va, if_true]
    exact ⟨_, .inr z.1, .int (hfz hz z.1), rfl, rfl, getK_holds ndz (List.mem_map_of_mem hzm), by decide, k1 _ _⟩
  refine ⟨_, hz.map fun z => ((Sum.inr z.1 : Key), D.int (hfz hz z.1)), rfl, by rw [List.map_map]; rfl, ?_, by decide, ?_⟩
  · rw [List.map_map]
    have e : hz.map ((fun x : Key × D => x.1) ∘ fun x : Str × Int => ((Sum.inr x.1 : Key), D.int (hfz hz x.1))) = (hz.map (·.1)).map Sum.inr := by rw [List.map_map]; rfl
    rw [e]
    exact List.Pairwise.map _ (fun a b h z => h (Sum.inr.inj z)) ndz
  have eleft : dctD (hz.map fun z => ((Sum.inr z.1 : Key), D.int (hfz hz z.1))) = leftD (hz.map (·.1)) (hfz hz) := by
    unfold dctD leftD
    rw [List.map_map, List.map_map]
    rfl
  rw [eleft, gIx_of (PV.seq p) (show atI [D.str p.office, .lst (p.roads.map roadD), .lst (p.riders.map rowD), .lst (p.letters.map rowD)] 3 = some (.lst (p.letters.map rowD)) from rfl)]
  dsimp only
  refine ⟨by rw [enumD_len, List.length_map]; unfold BIG; omega, lc_any leRF (fun y hy K1 K0 k1 k0 => ?_) fun f1 => ?_⟩
  · obtain ⟨i, hi⟩ := List.mem_iff_getElem?.mp hy
    obtain ⟨d, hd, rfl⟩ := enumD_get hi
    rw [List.getElem?_map] at hd
    cases e : p.letters[i]? with
    | none => rw [e] at hd; cases hd
    | some r =>
      rw [e] at hd
      cases hd
      try simp only [lcStep, true_and, wipeR, List.map_cons, List.map_nil, List.set_cons_succ, List.set_cons_zero, List.getElem?_cons_succ, List.getElem?_cons_zero, getV_va, if_true]
      rw [unp_seq (by rfl)]
      refine ⟨rfl, ?_⟩
      simp only [List.map_cons, List.map_nil]
      rw [unp_seq (by rfl)]
      refine ⟨rfl, ?_⟩
      simp only [List.map_cons, List.map_nil]
      refine ⟨trivial, trivial, ?_⟩
      try simp only [frz, params, setAll, List.zipWith, List.length_cons, List.length_nil, Nat.reduceAdd, Nat.reduceSub, List.replicate, List.append_nil, List.cons_append, List.nil_append, getV_va, Pt.sl, true_and, List.getElem?_cons_zero, List.getElem?_cons_succ, List.set_cons_zero, List.set_cons_succ, ite_self, Bool.false_eq_true, if_false, if_true]
      exact ⟨by decide, k1 _ rfl _ _⟩
  rw [enum_leR, List.nil_append]
  refine ⟨⟨_, _, rfl⟩, ?_⟩
  rw [gIx_of (PV.seq p) (show atI [D.str p.office, .lst (p.roads.map roadD), .lst (p.riders.map rowD), .lst (p.letters.map rowD)] 2 = some (.lst (p.riders.map rowD)) from rfl)]
  dsimp only
  refine ⟨by rw [enumD_len, List.length_map]; unfold BIG; omega, lc_any (riRF gone) (fun y hy K1 K0 k1 k0 => ?_) fun f2 => ?_⟩
  · obtain ⟨i, hi⟩ := List.mem_iff_getElem?.mp hy
    obtain ⟨d, hd, rfl⟩ := enumD_get hi
    rw [List.getElem?_map] at hd
    cases e : p.riders[i]? with
    | none => rw [e] at hd; cases hd
    | some r =>
      rw [e] at hd
      cases hd
      try simp only [lcStep, true_and, wipeR, List.map_cons, List.map_nil, List.set_cons_succ, List.set_cons_zero, List.getElem?_cons_succ, List.getElem?_cons_zero, getV_va, if_true]
      rw [unp_seq (by rfl)]
      refine ⟨rfl, ?_⟩
      simp only [List.map_cons, List.map_nil]
      rw [unp_seq (by rfl)]
      refine ⟨rfl, ?_⟩
      simp only [List.map_cons, List.map_nil]
      refine ⟨trivial, trivial, ?_⟩
      try simp only [frz, params, setAll, List.zipWith, List.length_cons, List.length_nil, Nat.reduceAdd, Nat.reduceSub, List.replicate, List.append_nil, List.cons_append, List.nil_append, getV_va, Pt.sl, true_and, List.getElem?_cons_zero, List.getElem?_cons_succ, List.set_cons_zero, List.set_cons_succ, ite_self, Bool.false_eq_true, if_false, if_true]
      refine gIn_seqN ⟨_, rfl, ?_⟩
      by_cases h : 0 + i ∈ gone
      · rw [if_neg (by simpa using h)]
        exact k0 (by show (if (((0 + i : Nat) : Int)).toNat ∈ gone then _ else _) = _; rw [Int.toNat_natCast, if_pos h])
      · rw [if_pos (by simpa using h)]
        exact ⟨by decide, k1 _ (by show (if (((0 + i : Nat) : Int)).toNat ∈ gone then _ else _) = _; rw [Int.toNat_natCast, if_neg h]) _ _⟩
  rw [enum_riR, List.nil_append]
  refine ⟨_, _, _, rfl, rfl, ?_, ?_⟩
  · have h1 := leRows_len (rs := p.letters) (i := 0)
    have h2 := riRows_len (gone := gone) (rs := p.riders) (i := 0)
    rw [List.length_map, List.length_map]
    unfold BIG
    omega
  rw [← List.map_append, g1_of]
  have hrow : ∀ e ∈ leRows 0 p.letters ++ riRows gone 0 p.riders, (e.2.1 = 0 ∨ e.2.1 = 1 ∧ e.2.2.1 < bs.length) ∧ 0 ≤ e.1 ∧ e.1 ≤ 1000 ∧ e.2.2.1 < 1000 ∧ e.2.2.2 ∈ hz.map (·.1) ∧ PyData.strOk e.2.2.2 = true := fun e he => by
    rcases List.mem_append.mp he with he | he
    · obtain ⟨j, r, hj, rfl⟩ := leRows_mem he
      have hm : r ∈ p.letters := List.mem_of_getElem? hj
      obtain ⟨x, hx, ex⟩ := hp.lp r hm
      obtain ⟨b1, b2, _, _⟩ := hp.lb r hm
      have hlt := (List.getElem?_eq_some_iff.mp hj).1
      exact ⟨.inl rfl, b1, b2, by show 0 + j < 1000; omega, ht.hp.mem_iff.mpr (by show r.1 ∈ _; rw [← ex]; exact List.mem_map_of_mem hx), ex ▸ nm_ok (t1 x hx).1⟩
    · obtain ⟨j, r, hj, rfl⟩ := riRows_mem2 he
      have hm : r ∈ p.riders := List.mem_of_getElem? hj
      obtain ⟨x, hx, ex⟩ := hp.rp r hm
      obtain ⟨b1, b2, _, _⟩ := hp.rb r hm
      have hlt := (List.getElem?_eq_some_iff.mp hj).1
      have hbl := ht.bl
      exact ⟨.inr ⟨rfl, by show 0 + j < bs.length; omega⟩, b1, b2, by show 0 + j < 1000; omega, ht.hp.mem_iff.mpr (by show r.1 ∈ _; rw [← ex]; exact List.mem_map_of_mem hx), ex ▸ nm_ok (t1 x hx).1⟩
  refine ⟨_, rfl, canSort_e4 fun e he => ?_, ?_⟩
  · obtain ⟨h0, h1, h2, h3, h4, h5⟩ := hrow e he
    refine ⟨h5, by omega, by omega, by omega⟩
  rw [srt_e4]
  have hes : ∀ e ∈ sort4 (leRows 0 p.letters ++ riRows gone 0 p.riders), e ∈ leRows 0 p.letters ++ riRows gone 0 p.riders := fun e he => (sort4_perm _).mem_iff.mp he
  have hesl : (sort4 (leRows 0 p.letters ++ riRows gone 0 p.riders)).length ≤ 200 := by
    rw [(sort4_perm _).length_eq, List.length_append]
    have h1 := leRows_len (rs := p.letters) (i := 0)
    have h2 := riRows_len (gone := gone) (rs := p.riders) (i := 0)
    omega
  have hfin := law_srt (gone := gone) (hf := hfz hz) (bs := bs) (tickOrd_of hp.lo) (tickOrd_of hp.ro) (fun r hr => (hp.lb r hr).1) (fun r hr => (hp.rb r hr).1) (fun r hr => by
    obtain ⟨z, hzm, ez⟩ := List.mem_map.mp (ht.hp.mem_iff.mpr (List.mem_map_of_mem (f := (·.1)) hr))
    have ez : z.1 = r.1 := ez
    unfold hfz
    rw [← ez, hfz_mem ndz z hzm]
    exact (ht.h4 z hzm).1) (fun b hb => (ht.b4 b hb).1) t2 hp.lp
  generalize sort4 (leRows 0 p.letters ++ riRows gone 0 p.riders) = es at hes hesl hfin
  dsimp only
  refine items_e4 fun fr => ⟨.inl trivial, ?_⟩
  refine for_idx (fun n ρ => ∃ (f : Str → Int) (F : List Nat) (m5 m6 : Bool) (s4 s7 s8 s9 s10 : Sl), ρ = [Sl.va ⟨p.d, p.d.imm, some v⟩, .va ⟨.lst (intsD gone), (D.lst (intsD gone)).imm, some v2⟩, .va ⟨holdsD hz, (holdsD hz).imm, some v3⟩, .va ⟨.lst (bs.map D.int), (D.lst (bs.map D.int)).imm, some v4⟩, s4, .ow (leftD (hz.map (·.1)) f) m5, .ow (.lst (intsD F)) m6, s7, s8, s9, s10, .un, .un] ∧
    F ++ lawRun (hfz hz) bs (es.drop n) f = lawRun (hfz hz) bs es (hfz hz) ∧ F.length ≤ n) _ 0 _ ⟨hfz hz, [], _, _, _, _, _, _, _, rfl, rfl, Nat.le_refl _⟩ (fun j y hy ρ hI K2 kk => ?_) fun ρ hI => ?_
  · obtain ⟨f, F, m5, m6, s4, s7, s8, s9, s10, rfl, hF, hFl⟩ := hI
    rw [List.getElem?_map] at hy
    cases ek : es[j]? with
    | none => rw [ek] at hy; cases hy
    | some e =>
    rw [ek] at hy
    cases hy
    rw [Nat.zero_add] at hF hFl kk
    have hm := List.mem_of_getElem? ek
    have hjl := (List.getElem?_eq_some_iff.mp ek).1
    obtain ⟨h0, h1, h2, h3, h4, h5⟩ := hrow e (hes e hm)
    rw [drop_get ek, lawRun] at hF
    obtain ⟨t, w, k, x⟩ := e
    simp only at h0 h1 h2 h3 h4 h5 hF
    rw [unp_seq (by rfl)]
    refine ⟨rfl, ?_⟩
    simp only [List.map_cons, List.map_nil]
    refine ⟨trivial, ?_⟩
    try simp only [D.sca, frz, params, setAll, List.zipWith, List.length_cons, List.length_nil, Nat.reduceAdd, Nat.reduceSub, List.replicate, List.append_nil, List.cons_append, List.nil_append, getV_va, Pt.sl, true_and, List.getElem?_cons_zero, List.getElem?_cons_succ, List.set_cons_zero, List.set_cons_succ, ite_self, Bool.false_eq_true, if_false, if_true]
    rw [gEq_int]
    refine ⟨_, rfl, ?_⟩
    by_cases hw : w = 1
    · rw [if_pos (by simpa using hw)]
      rw [if_pos hw] at hF
      have hk : k < bs.length := by omega
      obtain ⟨b, hb⟩ : ∃ b, bs[k]? = some b := ⟨bs[k], List.getElem?_eq_getElem hk⟩
      have hbd : bs.getD k 0 = b := by rw [List.getD_eq_getElem?_getD, hb]; rfl
      rw [hbd] at hF
      try simp only [D.sca, frz, params, setAll, List.zipWith, List.length_cons, List.length_nil, Nat.reduceAdd, Nat.reduceSub, List.replicate, List.append_nil, List.cons_append, List.nil_append, getV_va, Pt.sl, true_and, List.getElem?_cons_zero, List.getElem?_cons_succ, List.set_cons_zero, List.set_cons_succ, ite_self, Bool.false_eq_true, if_false, if_true]
      refine ⟨_, .inr x, .int _, rfl, rfl, getK_holds ndz h4, ?_⟩
      refine ⟨_, .inr x, .int (f x), rfl, rfl, getK_left h4, ?_⟩
      dsimp only
      rw [gIx_of (by rfl) (show atI (bs.map D.int) (k : Nat) = some (.int b) by rw [atI_mapK, atI_natK hb]; rfl), gAdd_int, g2I_int]
      have hmin : (if f x + b < hfz hz x then f x + b else hfz hz x) = min (hfz hz x) (f x + b) := by split <;> omega
      rw [hmin]
      try simp only [D.sca, frz, params, setAll, List.zipWith, List.length_cons, List.length_nil, Nat.reduceAdd, Nat.reduceSub, List.replicate, List.append_nil, List.cons_append, List.nil_append, getV_va, Pt.sl, true_and, List.getElem?_cons_zero, List.getElem?_cons_succ, List.set_cons_zero, List.set_cons_succ, ite_self, Bool.false_eq_true, if_false, if_true]
      refine ⟨_, _, rfl, left_plain _ _, by rw [List.length_map, List.length_map]; unfold BIG; omega, .inr x, rfl, ?_⟩
      rw [putD_left h4]
      exact kk _ ⟨_, F, _, _, _, _, _, _, _, rfl, hF, by omega⟩
    · rw [if_neg (by simpa using hw)]
      rw [if_neg hw] at hF
      try simp only [D.sca, frz, params, setAll, List.zipWith, List.length_cons, List.length_nil, Nat.reduceAdd, Nat.reduceSub, List.replicate, List.append_nil, List.cons_append, List.nil_append, getV_va, Pt.sl, true_and, List.getElem?_cons_zero, List.getElem?_cons_succ, List.set_cons_zero, List.set_cons_succ, ite_self, Bool.false_eq_true, if_false, if_true]
      refine ⟨_, .inr x, .int (f x), rfl, rfl, getK_left h4, ?_⟩
      dsimp only
      rw [gEq_int]
      refine ⟨_, rfl, ?_⟩
      by_cases hz0 : f x = 0
      · rw [if_pos (by simpa using hz0)]
        rw [if_pos hz0] at hF
        try simp only [D.sca, frz, params, setAll, List.zipWith, List.length_cons, List.length_nil, Nat.reduceAdd, Nat.reduceSub, List.replicate, List.append_nil, List.cons_append, List.nil_append, getV_va, Pt.sl, true_and, List.getElem?_cons_zero, List.getElem?_cons_succ, List.set_cons_zero, List.set_cons_succ, ite_self, Bool.false_eq_true, if_false, if_true]
        refine ⟨⟨_, _, rfl⟩, _, _, rfl, by unfold intsD; rw [List.length_map]; show _ < 16777216; omega, ?_⟩
        have e : intsD F ++ [D.int (k : Nat)] = intsD (F ++ [k]) := by unfold intsD; rw [List.map_append]; rfl
        rw [e]
        exact kk _ ⟨f, F ++ [k], _, _, _, _, _, _, _, rfl, by rw [List.append_assoc]; exact hF, by rw [List.length_append, List.length_singleton]; omega⟩
      · rw [if_neg (by simpa using hz0)]
        rw [if_neg hz0] at hF
        try simp only [D.sca, frz, params, setAll, List.zipWith, List.length_cons, List.length_nil, Nat.reduceAdd, Nat.reduceSub, List.replicate, List.append_nil, List.cons_append, List.nil_append, getV_va, Pt.sl, true_and, List.getElem?_cons_zero, List.getElem?_cons_succ, List.set_cons_zero, List.set_cons_succ, ite_self, Bool.false_eq_true, if_false, if_true]
        refine ⟨_, .inr x, .int (f x), rfl, rfl, getK_left h4, ?_⟩
        dsimp only
        rw [gI_of]
        refine ⟨trivial, ?_⟩
        try simp only [D.sca, frz, params, setAll, List.zipWith, List.length_cons, List.length_nil, Nat.reduceAdd, Nat.reduceSub, List.replicate, List.append_nil, List.cons_append, List.nil_append, getV_va, Pt.sl, true_and, List.getElem?_cons_zero, List.getElem?_cons_succ, List.set_cons_zero, List.set_cons_succ, ite_self, Bool.false_eq_true, if_false, if_true]
        refine ⟨_, _, rfl, left_plain _ _, by rw [List.length_map, List.length_map]; unfold BIG; omega, .inr x, rfl, ?_⟩
        rw [putD_left h4]
        exact kk _ ⟨_, F, _, _, _, _, _, _, _, rfl, hF, by omega⟩
  · obtain ⟨f, F, m5, m6, s4, s7, s8, s9, s10, rfl, hF, hFl⟩ := hI
    rw [List.length_map, Nat.zero_add, List.drop_length] at hF
    have hF : F ++ [] = _ := hF
    rw [List.append_nil] at hF
    subst hF
    try simp only [frz, params, setAll, List.zipWith, List.length_cons, List.length_nil, Nat.reduceAdd, Nat.reduceSub, List.replicate, List.append_nil, List.cons_append, List.nil_append, getV_va, Pt.sl, true_and, List.getElem?_cons_zero, List.getElem?_cons_succ, List.set_cons_zero, List.set_cons_succ, ite_self, Bool.false_eq_true, if_false, if_true]
    rw [g1_of]
    refine ⟨_, rfl, canSort_ks fun k hk => ?_, ?_⟩
    · obtain ⟨e, he, _, rfl⟩ := lawRun_mem hk
      have := (hrow e (hes e he)).2.2.2.1
      omega
    · rw [hfin]
      exact q _

end
end My

set_option Elab.async false
set_option linter.all false
set_option maxRecDepth 100000
set_option maxHeartbeats 4000000
set_option pp.maxSteps 6000
namespace My
open PySem PySem.Spec PyProof.Rows L2 DL
/-! a row of letters of one post, a rider between any two -/
def grL (g d : Int) (n : Nat) : List Row := (List.range n).map fun (k : Nat) => ("a", g * (k : Int), d)
def grR (g : Int) (n : Nat) : List Row := (List.range n).map fun (k : Nat) => ("a", g * (k : Int) + 1, 1)
def grP (g d : Int) (n : Nat) : PV := ⟨"o", [("a", "o", 1)], grR g (n - 1), grL g d n⟩
theorem riAt_gr {g : Int} (hg : 2 ≤ g) (j : Nat) : ∀ (m i : Nat), riAt "a" (g * (j : Int)) (g * ((j : Int) + 1)) i ((List.range' i m).map fun (k : Nat) => (("a", g * (k : Int) + 1, 1) : Row)) = if i ≤ j ∧ j < i + m then [j] else []
  | 0, i => by rw [if_neg (by omega)]; rfl
  | m + 1, i => by
    have ih := riAt_gr hg j m (i + 1)
    rw [List.range'_succ, List.map_cons]
    unfold riAt
    by_cases e : i = j
    · subst e
      rw [if_pos ⟨rfl, by show g * (i : Int) ≤ g * (i : Int) + 1; omega, by show g * (i : Int) + 1 < g * ((i : Int) + 1); rw [Int.mul_add]; omega⟩, ih, if_neg (by omega), if_pos ⟨by omega, by omega⟩]
    · have : ¬ (("a" : Str) = "a" ∧ g * (j : Int) ≤ g * (i : Int) + 1 ∧ g * (i : Int) + 1 < g * ((j : Int) + 1)) := fun ⟨_, h1, h2⟩ => by
        rcases Nat.lt_or_gt_of_ne e with h | h
        · have : g * ((i : Int) + 1) ≤ g * (j : Int) := Int.mul_le_mul_of_nonneg_left (by omega) (by omega)
          rw [Int.mul_add] at this
          omega
        · have : g * ((j : Int) + 1) ≤ g * (i : Int) := Int.mul_le_mul_of_nonneg_left (by omega) (by omega)
          omega
      rw [if_neg this, ih]
      by_cases h : i ≤ j ∧ j < i + (m + 1)
      · rw [if_pos h, if_pos ⟨by omega, by omega⟩]
      · rw [if_neg h, if_neg (by omega)]
theorem riAt_gr0 {g : Int} (hg : 2 ≤ g) : ∀ (m i : Nat), riAt "a" 0 0 i ((List.range' i m).map fun (k : Nat) => (("a", g * (k : Int) + 1, 1) : Row)) = []
  | 0, i => rfl
  | m + 1, i => by
    have ih := riAt_gr0 hg m (i + 1)
    rw [List.range'_succ, List.map_cons]
    unfold riAt
    have : 0 ≤ g * (i : Int) := Int.mul_nonneg (by omega) (by omega)
    rw [if_neg (fun ⟨_, _, h⟩ => by have h : g * (i : Int) + 1 < 0 := h; omega), ih]
theorem tick_gr {g d : Int} {n j : Nat} (h : j < n) : tickAt (grL g d n) j = g * (j : Int) := by
  unfold tickAt grL
  rw [List.getElem?_map, List.getElem?_range h]
  rfl
theorem mine_gr {g d : Int} : ∀ (m i : Nat), mineAt "a" i ((List.range' i m).map fun (k : Nat) => (("a", g * (k : Int), d) : Row)) = List.range' i m
  | 0, i => rfl
  | m + 1, i => by
    rw [List.range'_succ, List.map_cons]
    unfold mineAt
    rw [if_pos rfl, mine_gr m (i + 1)]
theorem un_step {g d : Int} (hg : 2 ≤ g) {n i m : Nat} {gone : List Nat} {hold : Int} {bs : List Int} {L : Int} (h : i + 1 + (m + 1) = n) :
    unGo (grP g d n) gone hold bs "a" (List.range' (i + 1) (m + 1)) L (g * (i : Int)) = (if stepR gone hold bs L i = 0 then [i + 1] else []) ++ unGo (grP g d n) gone hold bs "a" (List.range' (i + 1 + 1) m) (max 0 (stepR gone hold bs L i - 1)) (g * ((i + 1 : Nat) : Int)) := by
  have et : tickAt (grP g d n).letters (i + 1) = g * ((i + 1 : Nat) : Int) := tick_gr (by omega)
  have er : riAt "a" (g * (i : Int)) (g * ((i + 1 : Nat) : Int)) 0 (grP g d n).riders = [i] := by
    have := riAt_gr hg i (n - 1) 0
    rw [if_pos ⟨by omega, by omega⟩] at this
    show riAt "a" (g * (i : Int)) (g * ((i + 1 : Nat) : Int)) 0 (grR g (n - 1)) = [i]
    unfold grR
    rw [List.range_eq_range', show ((i + 1 : Nat) : Int) = (i : Int) + 1 by omega]
    exact this
  rw [List.range'_succ, unGo, et, er]
  rfl
theorem ones_get {n i : Nat} {b : Int} (h : i < n) : (List.replicate n b).getD i 0 = b := by
  rw [List.getD_eq_getElem?_getD, List.getElem?_replicate, if_pos h]
  rfl
theorem un_a3 {g d : Int} (hg : 2 ≤ g) {n first : Nat} {hold c : Int} (h1 : 1 ≤ c) (h2 : c ≤ hold) : ∀ (m i : Nat), i + 1 + m = n → first < i → unGo (grP g d n) [first] hold (List.replicate (n - 1) 1) "a" (List.range' (i + 1) m) (c - 1) (g * (i : Int)) = []
  | 0, i, _, _ => rfl
  | m + 1, i, h, hf => by
    have es : stepR [first] hold (List.replicate (n - 1) 1) (c - 1) i = c := by
      unfold stepR
      rw [if_neg (by rw [List.mem_singleton]; omega), ones_get (by omega)]
      omega
    rw [un_step hg h, es, if_neg (by omega), show max 0 (c - 1) = c - 1 by omega, un_a3 hg h1 h2 m (i + 1) (by omega) (by omega)]
    rfl
theorem un_a1 {g d : Int} (hg : 2 ≤ g) {n first : Nat} {hold : Int} (h1 : 1 ≤ hold) (hf : first < n - 1) : ∀ (m i : Nat), i + 1 + m = n → i ≤ first → unGo (grP g d n) [first] hold (List.replicate (n - 1) 1) "a" (List.range' (i + 1) m) (hold - 1) (g * (i : Int)) = if hold = 1 then [first + 1] else []
  | 0, i, h, hi => by omega
  | m + 1, i, h, hi => by
    rw [un_step hg h]
    by_cases e : i = first
    · subst e
      have es : stepR [i] hold (List.replicate (n - 1) 1) (hold - 1) i = hold - 1 := by
        unfold stepR
        rw [if_pos (List.mem_singleton.mpr rfl)]
      rw [es]
      by_cases e1 : hold = 1
      · subst e1
        rw [if_pos (by omega), if_pos rfl, show max 0 ((1 : Int) - 1 - 1) = 1 - 1 by omega, un_a3 hg (by omega) (by omega) m (i + 1) (by omega) (by omega)]
        rfl
      · rw [if_neg (by omega), if_neg e1, show max 0 (hold - 1 - 1) = (hold - 1) - 1 by omega, un_a3 hg (by omega) (by omega) m (i + 1) (by omega) (by omega)]
        rfl
    · have es : stepR [first] hold (List.replicate (n - 1) 1) (hold - 1) i = hold := by
        unfold stepR
        rw [if_neg (by rw [List.mem_singleton]; exact e), ones_get (by omega)]
        omega
      rw [es, if_neg (by omega), show max 0 (hold - 1) = hold - 1 by omega, un_a1 hg h1 hf m (i + 1) (by omega) (by omega)]
      rfl
theorem un_b {g d : Int} (hg : 2 ≤ g) {n : Nat} {hold : Int} (h0 : 0 ≤ hold) : ∀ (m i : Nat), i + 1 + m = n → unGo (grP g d n) [] hold (List.replicate (n - 1) 0) "a" (List.range' (i + 1) m) (max 0 (hold - ((i : Int) + 1))) (g * (i : Int)) = (List.range' (i + 1) m).filter fun (k : Nat) => decide (hold ≤ (k : Int))
  | 0, i, _ => rfl
  | m + 1, i, h => by
    have es : stepR [] hold (List.replicate (n - 1) 0) (max 0 (hold - ((i : Int) + 1))) i = max 0 (hold - ((i : Int) + 1)) := by
      unfold stepR
      rw [if_neg (fun z => nomatch z), ones_get (by omega)]
      omega
    have e2 : max 0 (max 0 (hold - ((i : Int) + 1)) - 1) = max 0 (hold - (((i + 1 : Nat) : Int) + 1)) := by omega
    rw [un_step hg h, es, e2, un_b hg h0 m (i + 1) (by omega), List.range'_succ]
    by_cases e : hold ≤ ((i + 1 : Nat) : Int)
    · rw [if_pos (by omega), List.filter_cons_of_pos (by simpa using e)]
      rfl
    · rw [if_neg (by omega), List.filter_cons_of_neg (by simpa using e)]
      rfl
theorem un_0 {g d : Int} (hg : 2 ≤ g) {n : Nat} {gone : List Nat} {hold : Int} {bs : List Int} (hn : 0 < n) (hh : 1 ≤ hold) :
    unN (grP g d n) gone hold bs "a" = unGo (grP g d n) gone hold bs "a" (List.range' 1 (n - 1)) (hold - 1) (g * ((0 : Nat) : Int)) := by
  have em : mineN (grP g d n).letters "a" = 0 :: List.range' 1 (n - 1) := by
    have := mine_gr (g := g) (d := d) n 0
    unfold mineN
    show mineAt "a" 0 (grL g d n) = _
    unfold grL
    rw [List.range_eq_range', this]
    obtain ⟨m, rfl⟩ : ∃ m, n = m + 1 := ⟨n - 1, by omega⟩
    rw [List.range'_succ]
    rfl
  have et : tickAt (grP g d n).letters 0 = g * ((0 : Nat) : Int) := tick_gr hn
  have er : riAt "a" 0 (g * ((0 : Nat) : Int)) 0 (grP g d n).riders = [] := by
    have := riAt_gr0 hg (n - 1) 0
    show riAt "a" 0 (g * ((0 : Nat) : Int)) 0 (grR g (n - 1)) = []
    unfold grR
    rw [List.range_eq_range', show g * ((0 : Nat) : Int) = 0 by simp]
    exact this
  unfold unN
  rw [em, unGo, et, er, List.foldl_nil, if_neg (by omega), show max 0 (hold - 1) = hold - 1 by omega]
  rfl
theorem un_great1 {g d : Int} (hg : 2 ≤ g) {n first : Nat} {hold : Int} (hh : 1 ≤ hold) (hf : first < n - 1) : unN (grP g d n) [first] hold (List.replicate (n - 1) 1) "a" = if hold = 1 then [first + 1] else [] := by
  rw [un_0 hg (by omega) hh]
  exact un_a1 hg hh hf (n - 1) 0 (by omega) (Nat.zero_le _)
theorem filter_rg (h : Nat) {n : Nat} (hn : h ≤ n) : ∀ (m i : Nat), i + m = n → ((List.range' i m).filter fun (k : Nat) => decide ((h : Int) ≤ (k : Int))) = List.range' (max i h) (n - max i h)
  | 0, i, e => by
    rw [show n - max i h = 0 by omega]
    rfl
  | m + 1, i, e => by
    rw [List.range'_succ]
    by_cases hi : h ≤ i
    · rw [List.filter_cons_of_pos (by simpa using hi), filter_rg h hn m (i + 1) (by omega), show max i h = i by omega, show max (i + 1) h = i + 1 by omega, show n - i = (n - (i + 1)) + 1 by omega, List.range'_succ]
    · rw [List.filter_cons_of_neg (by simpa using hi), filter_rg h hn m (i + 1) (by omega), show max (i + 1) h = max i h by omega]
theorem un_great2 {g d : Int} (hg : 2 ≤ g) {n hold : Nat} (hh : 1 ≤ hold) (hn : hold ≤ n) : unN (grP g d n) [] (hold : Int) (List.replicate (n - 1) 0) "a" = List.range' hold (n - hold) := by
  rw [un_0 hg (by omega) (by omega)]
  have := un_b (d := d) hg (n := n) (hold := (hold : Int)) (by omega) (n - 1) 0 (by omega)
  rw [show max 0 ((hold : Int) - (((0 : Nat) : Int) + 1)) = (hold : Int) - 1 by omega] at this
  rw [this, filter_rg hold hn (n - 1) (0 + 1) (by omega), show max (0 + 1) hold = hold by omega]
theorem leD_int {a b : Int} (h : a ≤ b) : leD (.int a) (.int b) = true := by
  show (!PyProof.Rows.lexLt PyProof.Rows.itemOrd (tokD (.int b)) (tokD (.int a))) = true
  have e : PyProof.Rows.lexLt PyProof.Rows.itemOrd (tokD (.int b)) (tokD (.int a)) = false := by
    show PyProof.Rows.lexLt PyProof.Rows.itemOrd [.inl b] [.inl a] = false
    by_cases e : a = b
    · subst e
      rw [PyProof.Rows.lex_self]
      rfl
    · rw [PyProof.Rows.lex_diff (fun z => by cases z; omega)]
      exact decide_eq_false (by omega)
  rw [e]
  rfl
theorem srt_rg (h m : Nat) : srtD (intsD (List.range' h m)) = intsD (List.range' h m) := by
  refine srtD_of ?_
  unfold intsD
  rw [List.pairwise_map]
  exact (List.pairwise_lt_range' (s := h) (n := m)).imp fun h => leD_int (by omega)
theorem unAll_one {p : PV} {gone : List Nat} {hf : Str → Int} {bs : List Int} {r : Road} : unAll p gone hf bs [r] = unN p gone (hf r.1) bs r.1 := by
  unfold unAll
  simp
theorem unAll_gone {p : PV} {gone gone' : List Nat} {hf : Str → Int} {bs : List Int} {rs : List Road} (h : ∀ k, k ∈ gone ↔ k ∈ gone') : unAll p gone hf bs rs = unAll p gone' hf bs rs := by
  have es : ∀ hold : Int, stepR gone hold bs = stepR gone' hold bs := fun hold => by
    funext L k
    unfold stepR
    simp only [h]
  have eg : ∀ (hold : Int) (x : Str) (ls : List Nat) (L S : Int), unGo p gone hold bs x ls L S = unGo p gone' hold bs x ls L S := fun hold x ls => by
    induction ls with
    | nil => exact fun _ _ => rfl
    | cons l ls ih =>
      intro L S
      rw [unGo, unGo, es, ih]
  unfold unAll unN
  simp only [eg]
end My

set_option Elab.async false
set_option linter.all false
set_option maxRecDepth 100000
set_option maxHeartbeats 4000000
set_option pp.maxSteps 6000
namespace My
open PySem PySem.Spec PyProof.Rows L2 DL
set_option pp.maxSteps 3000
theorem perm_un {α : Type} {f : α → D} (un : D → α) (h : ∀ a, un (f a) = a) {l : List α} {ys : List D} (p : ys.Perm (l.map f)) : ∃ m : List α, ys = m.map f ∧ m.Perm l := by
  refine ⟨ys.map un, ?_, ?_⟩
  · rw [List.map_map]
    refine ((List.map_congr_left fun y hy => ?_).trans (List.map_id _)).symm
    obtain ⟨a, _, rfl⟩ := List.mem_map.mp (p.mem_iff.mp hy)
    show f (un (f a)) = f a
    rw [h]
  · have := p.map un
    rw [List.map_map] at this
    refine this.trans ?_
    have e : l.map (un ∘ f) = l := (List.map_congr_left (g := id) fun a _ => h a).trans (List.map_id _)
    rw [e]
def unI : D → Nat
  | .int i => i.toNat
  | _ => 0
def unP : D → Str × Int
  | .tup [.str x, .int i] => (x, i)
  | _ => ("", 0)
theorem ints_flat (ks : List Nat) : ∀ x ∈ intsD ks, x.seq = none := fun x hx => by
  obtain ⟨k, _, rfl⟩ := List.mem_map.mp hx
  rfl
theorem int_flat (ks : List Int) : ∀ x ∈ ks.map D.int, x.seq = none := fun x hx => by
  obtain ⟨k, _, rfl⟩ := List.mem_map.mp hx
  rfl
theorem widK_le : ∀ {l : List (D × D)} {w : Nat}, (∀ p ∈ l, p.1.wid0 + p.2.wid0 ≤ w) → D.widK l ≤ l.length * (w + 6)
  | [], _, _ => Nat.zero_le _
  | p :: l, w, h => by
    have h1 := h p List.mem_cons_self
    have h2 := widK_le (l := l) (w := w) fun q hq => h q (List.mem_cons_of_mem _ hq)
    rw [D.widK, List.length_cons, Nat.succ_mul]
    omega
theorem holds_shw {hz : List (Str × Int)} (h : ∀ x ∈ hz, PyData.strOk x.1 = true ∧ x.2.natAbs ≤ 10 ^ 30) : (holdsD hz).shw = true := by
  show ((hz.map fun x => ((D.str x.1 : D), D.int x.2)).all fun p => p.1.shw0 && p.2.shw0) = true
  rw [List.all_eq_true]
  intro p hp
  obtain ⟨x, hx, rfl⟩ := List.mem_map.mp hp
  obtain ⟨h1, h2⟩ := h x hx
  simp only [D.shw0, h1, decide_eq_true (log_ok h2)]
  rfl
theorem holds_wid {hz : List (Str × Int)} (h : ∀ x ∈ hz, x.1.length ≤ 5) (hl : hz.length ≤ 8) : (holdsD hz).wid ≤ 20000 := by
  show D.widK (hz.map fun x => ((D.str x.1 : D), D.int x.2)) + 2 ≤ 20000
  have := widK_le (l := hz.map fun x => ((D.str x.1 : D), D.int x.2)) (w := 2000) fun p hp => by
    obtain ⟨x, hx, rfl⟩ := List.mem_map.mp hp
    have := h x hx
    show 10 * x.1.length + 2 + 1921 ≤ 2000
    omega
  rw [List.length_map] at this
  omega
section
variable {P : Program} {w : World} {K : PySem.W.Frag} {mg : Str → Option Value} {base : Heap}
theorem TaskOk.zl {p : PV} {gone : List Nat} {hz : List (Str × Int)} {bs : List Int} (hp : PlanOk p) (ht : TaskOk p gone hz bs) : hz.length = p.roads.length := by
  have := ht.hp.length_eq
  rwa [List.length_map, List.length_map] at this
/-- the program's answer -/
theorem gUn {p : PV} {gone gone' : List Nat} {hz hz' : List (Str × Int)} {bs : List Int} {G B : D} {ρ : Ro} {XQ : XQT} {n1 n2 n3 n4 : Bool} {v1 v2 v3 v4 : Option V} {Q : Dv → Prop} (hp : PlanOk p) (ht : TaskOk p gone hz bs) (pg : gone'.Perm gone) (ph : hz'.Perm hz)
    (gG : G.good = true) (eG : G.seq = some (intsD gone')) (gB : B.good = true) (eB : B.seq = some (bs.map D.int)) (q : Q ⟨dueD p gone hz bs, true, none⟩) : gCall c_unstamped ρ XQ [⟨p.o, n1, v1⟩, ⟨G, n2, v2⟩, ⟨holdsD hz', n3, v3⟩, ⟨B, n4, v4⟩] Q := by
  obtain ⟨t1, t2⟩ := hp.t.facts
  have hl8 := hp.t.l
  have hzl := ht.zl hp
  have ndz : (hz.map (·.1)).Nodup := ht.hp.nodup_iff.mpr t2
  have ndz' : (hz'.map (·.1)).Nodup := (ph.map _).nodup_iff.mpr ndz
  have gl := ht.gl
  refine gCall_of fun _ => ⟨p, G, B, gone', hz', hfz hz, bs, rfl, hp.ok, tickOrd_of hp.lo, fun r hr => nm_ok (t1 r hr).1, by omega, gG, eG, pg.nodup_iff.mpr ht.nd, fun k hk => ht.lt k (pg.mem_iff.mp hk), by rw [pg.length_eq]; omega, ⟨by rw [ph.length_eq]; exact hzl, fun x hx => ?_, fun x hx => (ht.h4 x (ph.mem_iff.mp hx)).1, by rw [ph.length_eq]; omega⟩, fun r hr => ?_, gB, eB, ht.bl, fun b hb => (ht.b4 b hb).1, ?_⟩
  · have : x.1 ∈ p.roads.map (·.1) := ht.hp.mem_iff.mp (List.mem_map_of_mem (f := (·.1)) (ph.mem_iff.mp hx))
    obtain ⟨r, hr, e⟩ := List.mem_map.mp this
    exact List.any_eq_true.mpr ⟨r, hr, by simpa using e⟩
  · obtain ⟨z, hzm, ez⟩ := List.mem_map.mp (ht.hp.mem_iff.mpr (List.mem_map_of_mem (f := (·.1)) hr))
    have ez : z.1 = r.1 := ez
    unfold hfz
    rw [← ez, hfz_mem ndz z hzm, hfz_mem ndz' z (ph.mem_iff.mpr hzm)]
    rfl
  · rw [unAll_gone (gone' := gone) fun k => pg.mem_iff]
    exact q
theorem due_mem {p : PV} {gone : List Nat} {hz : List (Str × Int)} {bs : List Int} : ∀ x ∈ srtD (intsD (unAll p gone (hfz hz) bs p.roads)), ∃ k : Nat, x = .int (k : Nat) := fun x hx => by
  obtain ⟨k, _, rfl⟩ := List.mem_map.mp ((srtD_perm _).mem_iff.mp hx)
  exact ⟨k, rfl⟩
theorem unAll_len {p : PV} (hp : p.Ok) {gone : List Nat} {hf : Str → Int} {bs : List Int} : ∀ rs : List Road, (unAll p gone hf bs rs).length ≤ 1000 * rs.length
  | [] => Nat.le_refl _
  | r :: rs => by
    have h1 := unAll_len hp (gone := gone) (hf := hf) (bs := bs) rs
    have h2 := unN_len hp (gone := gone) (hold := hf r.1) (bs := bs) (x := r.1)
    have e : unAll p gone hf bs (r :: rs) = unN p gone (hf r.1) bs r.1 ++ unAll p gone hf bs rs := by unfold unAll; rw [List.flatMap_cons]
    rw [e, List.length_append, List.length_cons]
    omega
theorem due_len {p : PV} (hp : PlanOk p) {gone : List Nat} {hz : List (Str × Int)} {bs : List Int} : (srtD (intsD (unAll p gone (hfz hz) bs p.roads))).length ≤ 8000 := by
  have h1 := unAll_len hp.ok (gone := gone) (hf := hfz hz) (bs := bs) p.roads
  have h2 := hp.t.l
  rw [(srtD_perm _).length_eq]
  unfold intsD
  rw [List.length_map]
  omega
theorem due_nice {p : PV} (hp : PlanOk p) {gone : List Nat} {hz : List (Str × Int)} {bs : List Int} : (dueD p gone hz bs).good = true ∧ (dueD p gone hz bs).smp = true ∧ (dueD p gone hz bs).rnk ≤ 1 := by
  have hm := due_mem (p := p) (gone := gone) (hz := hz) (bs := bs)
  have hl := due_len hp (gone := gone) (hz := hz) (bs := bs)
  unfold dueD
  generalize srtD (intsD (unAll p gone (hfz hz) bs p.roads)) = xs at hm hl
  refine ⟨?_, smpL_of fun x hx => ?_, ?_⟩
  · simp only [D.good, Bool.and_eq_true, decide_eq_true_eq]
    exact ⟨goodL_of fun x hx => by obtain ⟨k, rfl⟩ := hm x hx; rfl, by omega⟩
  · obtain ⟨k, rfl⟩ := hm x hx
    rfl
  · exact Nat.succ_le_succ (rnkL_le fun x hx => by obtain ⟨k, rfl⟩ := hm x hx; exact Nat.le_refl _)
theorem due_fits {p : PV} (hp : PlanOk p) {gone : List Nat} {hz : List (Str × Int)} {bs : List Int} {N : Nat} (hN : N ≤ 100) : D.fitsS N 1 (dueD p gone hz bs) ∧ (dueD p gone hz bs).cntL = 1 := by
  have hm := due_mem (p := p) (gone := gone) (hz := hz) (bs := bs)
  have hl := due_len hp (gone := gone) (hz := hz) (bs := bs)
  unfold dueD
  generalize srtD (intsD (unAll p gone (hfz hz) bs p.roads)) = xs at hm hl
  refine ⟨⟨by unfold BIG; omega, fun x hx => by obtain ⟨k, rfl⟩ := hm x hx; trivial⟩, ?_⟩
  show D.cntLs xs + 1 = 1
  have : ∀ ys : List D, (∀ x ∈ ys, ∃ k : Nat, x = .int (k : Nat)) → D.cntLs ys = 0 := fun ys => by
    induction ys with
    | nil => exact fun _ => rfl
    | cons y ys ih =>
      intro h
      obtain ⟨k, rfl⟩ := h y List.mem_cons_self
      show 0 + D.cntLs ys = 0
      rw [ih fun x hx => h x (List.mem_cons_of_mem _ hx)]
  rw [this xs hm]
theorem gRepr_of {x : D} {k w : Nat} {n : Bool} {v : Option V} {Q : Dv → Prop} (h : Nic k w x) (hk : k ≤ 60) (hw : w ≤ BIG) (hsm : ∃ o, K.lookup sysModules = some o) (q : Q ⟨.str x.pyd.shown, true, none⟩) : gRepr K ⟨x, n, v⟩ Q :=
  ⟨h.all.2.2.1, Nat.le_trans h.all.2.2.2.2.2 hw, Nat.le_trans h.all.2.2.2.2.1 hk, fun _ => hsm, q⟩
theorem gSame {x : D} {ρ : Ro} {XQ : XQT} {n1 n2 : Bool} {v1 v2 : Option V} {Q : Dv → Prop} (h1 : x.good = true) (h2 : x.smp = true) (h3 : x.rnk < 7) (q : Q ⟨.bl true, true, none⟩) : gCall (c__law_same 7) ρ XQ [⟨x, n1, v1⟩, ⟨x, n2, v2⟩] Q := gCall_of fun _ => ⟨x, rfl, h1, h2, h3, q⟩
theorem sc__law_asked_right : FnScope ["stream", "plan", "made", "gone", "holds", "brings", "due", "handed", "was", "found"] ["stream", "plan", "made", "gone", "holds", "brings"] (defScope s__law_asked_right) := ⟨rfl, rfl, rfl, by decide +kernel, rfl, by decide +kernel, by decide +kernel⟩
def c__law_asked_right : DC := fun ds _ _ Q => ∃ (p : PV) (gone : List Nat) (hz : List (Str × Int)) (bs : List Int), ds = [.strm, p.d, p.o, .lst (intsD gone), holdsD hz, .lst (bs.map D.int)] ∧ PlanOk p ∧ TaskOk p gone hz bs ∧ Q ⟨.bl true, true, none⟩
theorem ok__law_asked_right (T : Txt K mg) (hsm : ∃ o, K.lookup sysModules = some o) : FnG P w K mg base 10 T.f__law_asked_right.f T.f__law_asked_right.fd ["stream", "plan", "made", "gone", "holds", "brings"] (BIG ^ 12) c__law_asked_right := by
  refine fnG_ok T.f__law_asked_right.ok sc__law_asked_right fun A outer s H E hr hgd => ⟨_, _, (dss_cons (ds_asg [] (de_call ((ok__law_unstamped T).mono (by decide)) hr (by rfl) T.f__law_unstamped.g T.f__law_unstamped.ok.kp T.f__law_unstamped.b (passE (takes_of rfl rfl rfl rfl)) rfl (da_cons (de_var (pv 1)) (da_cons (de_var (pv 3)) (da_cons (de_var (pv 4)) (da_cons (de_var (pv 5)) da_nil))))) (dg_name (pg_name (i := 6) sc__law_asked_right.nd rfl (Or.inl rfl))) (fun _ _ a b => ps_asg a b))
      (dss_cons (ds_own [] (dn_lst (da_cons (de_call ((ok__law_loose T 7).mono (by decide)) hr (by rfl) T.f__law_loose.g T.f__law_loose.ok.kp T.f__law_loose.b (passE (takes_of rfl rfl rfl rfl)) rfl (da_cons (de_var (pv 0)) (da_cons (de_call ((ok__law_mixed T).mono (by decide)) hr (by rfl) T.f__law_mixed.g T.f__law_mixed.ok.kp T.f__law_mixed.b (passE (takes_of rfl rfl rfl rfl)) rfl (da_cons (de_var (pv 0)) (da_cons (de_var (pv 3)) da_nil))) da_nil))) (da_cons (de_callTy (dcl_dictP rfl) (by rfl) T.n_dict (by decide +kernel) (da_cons (de_call ((ok__law_mixed T).mono (by decide)) hr (by rfl) T.f__law_mixed.g T.f__law_mixed.ok.kp T.f__law_mixed.b (passE (takes_of rfl rfl rfl rfl)) rfl (da_cons (de_var (pv 0)) (da_cons (de_items rfl (by rfl) T.n_list (de_var (pv 4))) da_nil))) da_nil)) da_nil))) (pg_name (i := 7) sc__law_asked_right.nd rfl (Or.inl rfl)) (fun _ _ a b => ps_asg a b))
      (dss_cons (ds_append [] (de_call ((ok__law_loose T 7).mono (by decide)) hr (by rfl) T.f__law_loose.g T.f__law_loose.ok.kp T.f__law_loose.b (passE (takes_of rfl rfl rfl rfl)) rfl (da_cons (de_var (pv 0)) (da_cons (de_var (pv 5)) da_nil))) (fun _ a => ps_expr (pe_bm PySem.F.plainAttrs_list PySem.F.slot_list_append PySem.F.type_list_append mt_append (pv 7) (pa_cons a pa_nil))))
      (dss_spoil (k := 9) (mid := ((defBody s__law_asked_right).drop 3).take 3) (rest := (defBody s__law_asked_right).drop 7) [8, 9] [9] (ok__law_spoilt T 9) (hr.mono (by decide)) (by rfl) T.f__law_spoilt.g T.f__law_spoilt.ok.kp T.f__law_spoilt.b (passE (takes_of rfl rfl rfl rfl))
      (dss_cons (ds_par2 (i := 8) (j := 9) [] (dp_va (de_callB (dcl_repr hgd (hr.mono (by decide))) (by rfl) T.n_repr (by decide +kernel) (da_cons (de_var (pv 7)) da_nil))) (dp_ow (dn_lst (da_cons (de_call ((ok_unstamped T).mono (by decide)) hr (by rfl) T.f_unstamped.g T.f_unstamped.ok.kp T.f_unstamped.b (passE (takes_of rfl rfl rfl rfl)) rfl (da_cons (de_var (pv 2)) (da_cons (de_ix (de_var (pv 7)) de_int (fun _ _ => rfl)) (da_cons (de_ix (de_var (pv 7)) de_int (fun _ _ => rfl)) (da_cons (de_ix (de_var (pv 7)) de_int (fun _ _ => rfl)) da_nil))))) da_nil))) rfl sc__law_asked_right.nd rfl rfl (by decide) (by rfl) (by rfl) (by rfl))
      (dss_cons (ds_append [] (de_callNK (ks := ["brings", "holds", "gone", "plan"]) (ix := [3, 2, 1, 0]) ((ok_unstamped T).mono (by decide)) hr (by rfl) T.f_unstamped.g T.f_unstamped.ok.kp (kbn_of [3, 2, 1, 0] T.f_unstamped.ok fun _ _ _ _ _ _ ws hl => match ws, hl with | [_, _, _, _], _ => rfl) (passE (takes_of rfl rfl rfl rfl)) (dk_cons (de_callTy dcl_list (by rfl) T.n_list (by decide +kernel) (da_cons (de_var (pv 5)) da_nil)) (dk_cons (de_callTy (dcl_dictP rfl) (by rfl) T.n_dict (by decide +kernel) (da_cons (de_items rfl (by rfl) T.n_list (de_var (pv 4))) da_nil)) (dk_cons (de_callTy dcl_list (by rfl) T.n_list (by decide +kernel) (da_cons (de_var (pv 3)) da_nil)) (dk_cons (de_var (pv 2)) dk_nil))))) (fun _ a => ps_expr (pe_bm PySem.F.plainAttrs_list PySem.F.slot_list_append PySem.F.type_list_append mt_append (pv 9) (pa_cons a pa_nil))))
      (dss_one (ds_if [9] (DW.dt (dw_or (dt_not (dt_val (de_call ((ok__law_same T 7).mono (by decide)) hr (by rfl) T.f__law_same.g T.f__law_same.ok.kp T.f__law_same.b (passE (takes_of rfl rfl rfl rfl)) rfl (da_cons (de_var (pv 9)) (da_cons (de_lst (da_cons (de_var (pv 6)) (da_cons (de_var (pv 6)) da_nil))) da_nil))))) (dw_or1 (dt_cmp dop_neS (de_callB (dcl_repr hgd (hr.mono (by decide))) (by rfl) T.n_repr (by decide +kernel) (da_cons (de_var (pv 7)) da_nil)) (de_var (pv 8)) (nomark _))))) (dss_one (ds_ret [] de_bl)) dss_nil))))
      (da_cons (de_var (pv 9)) da_nil)
      (dss_one (ds_ret [] (de_call ((ok__law_same T 7).mono (by decide)) hr (by rfl) T.f__law_same.g T.f__law_same.ok.kp T.f__law_same.b (passE (takes_of rfl rfl rfl rfl)) rfl (da_cons (de_call ((ok_unstamped T).mono (by decide)) hr (by rfl) T.f_unstamped.g T.f_unstamped.ok.kp T.f_unstamped.b (passE (takes_of rfl rfl rfl rfl)) rfl (da_cons (de_var (pv 2)) (da_cons (de_ixO (i := 7) (pv 7) de_int (fun _ _ => rfl)) (da_cons (de_ixO (i := 7) (pv 7) de_int (fun _ _ => rfl)) (da_cons (de_ixO (i := 7) (pv 7) de_int (fun _ _ => rfl)) da_nil))))) (da_cons (de_var (pv 6)) da_nil))))))))), by decide +kernel, fun ds vs XQ Q hd hv h => ?_⟩
  obtain ⟨p, gone, hz, bs, rfl, hp, ht, q⟩ := h
  match vs, hv with
  | [v, v2, v3, v4, v5, v6], _ =>
  try simp only [frz, params, setAll, List.zipWith, List.length_cons, List.length_nil, Nat.reduceAdd, Nat.reduceSub, List.replicate, List.append_nil, List.cons_append, List.nil_append, getV_va, Pt.sl, true_and, List.getElem?_cons_zero, List.getElem?_cons_succ, List.set_cons_zero, List.set_cons_succ, ite_self, Bool.false_eq_true, if_false, if_true]
  obtain ⟨t1, t2⟩ := hp.t.facts
  have hl8 := hp.t.l
  have hzl := ht.zl hp
  have hrl := hp.rl
  have gl := ht.gl
  have ndz : (hz.map (·.1)).Nodup := ht.hp.nodup_iff.mpr t2
  refine gCall_of fun _ => ⟨p, gone, hz, bs, rfl, hp, ht, fun f => ?_⟩
  dsimp only
  refine gCall_of fun _ => ⟨_, intsD gone, rfl, rfl, by unfold intsD; rw [List.length_map]; omega, fun ys f1 py => ?_⟩
  obtain ⟨gone', rfl, pg⟩ := perm_un (f := fun k : Nat => D.int (k : Nat)) unI (fun a => Int.toNat_natCast a) py
  dsimp only
  have ng : Nic 1 200000 (.lst (intsD gone')) := .mono (.lst (l := 100) (k := 0) (w := 1921) (by unfold intsD; rw [List.length_map, pg.length_eq]; omega) (by decide) fun x hx => by
    obtain ⟨k, hk, rfl⟩ := List.mem_map.mp hx
    have := ht.lt k (pg.mem_iff.mp hk)
    exact .int (by omega)) (by decide) (by decide)
  have ng0 : Nic 1 200000 (.lst (intsD gone)) := .mono (.lst (l := 100) (k := 0) (w := 1921) (by unfold intsD; rw [List.length_map]; omega) (by decide) fun x hx => by
    obtain ⟨k, hk, rfl⟩ := List.mem_map.mp hx
    have := ht.lt k hk
    exact .int (by omega)) (by decide) (by decide)
  have nb : Nic 1 200000 (.lst (bs.map D.int)) := .mono (.lst (l := 100) (k := 0) (w := 1921) (by rw [List.length_map, ht.bl]; omega) (by decide) fun x hx => by
    obtain ⟨k, hk, rfl⟩ := List.mem_map.mp hx
    have := ht.b4 k hk
    exact .int (by omega)) (by decide) (by decide)
  have e1 : intsD gone' = gone'.map fun (k : Nat) => D.int (k : Nat) := rfl
  rw [← e1]
  refine gCall_of fun _ => ⟨.lst (intsD gone'), rfl, ng.all.1, Nat.lt_of_le_of_lt ng.all.2.2.2.1 (by decide), fun b fb l2 => ?_⟩
  dsimp only
  refine ⟨_, rfl, fun q hq ks z => ?_, ?_⟩
  · obtain ⟨x, _, rfl⟩ := List.mem_map.mp hq
    cases z
  refine gCall_of fun _ => ⟨_, _, rfl, rfl, by rw [List.length_map, List.length_map]; omega, fun ys f2 py => ?_⟩
  have py' : ys.Perm (hz.map fun x => DL.pairD ((Sum.inr x.1 : Key), D.int x.2)) := by rw [List.map_map] at py; exact py
  obtain ⟨hz', rfl, ph⟩ := perm_un unP (fun _ => rfl) py'
  have ndz' : (hz'.map (·.1)).Nodup := (ph.map _).nodup_iff.mpr ndz
  dsimp only
  rw [g1_of]
  refine ⟨hz'.map fun x => ((Sum.inr x.1 : Key), D.int x.2), by rw [List.map_map]; rfl, ?_, ?_⟩
  · rw [List.map_map]
    have e : hz'.map ((fun x : Key × D => x.1) ∘ fun x : Str × Int => ((Sum.inr x.1 : Key), D.int x.2)) = (hz'.map (·.1)).map Sum.inr := by rw [List.map_map]; rfl
    rw [e]
    exact List.Pairwise.map _ (fun a b h z => h (Sum.inr.inj z)) ndz'
  have ed : dctD (hz'.map fun x => ((Sum.inr x.1 : Key), D.int x.2)) = holdsD hz' := by
    unfold dctD holdsD
    rw [List.map_map]
    rfl
  rw [ed]
  refine ⟨by decide, ⟨_, _, rfl⟩, gCall_of fun _ => ⟨.lst (bs.map D.int), rfl, nb.all.1, Nat.lt_of_le_of_lt nb.all.2.2.2.1 (by decide), fun c fc l3 => ?_⟩⟩
  refine ⟨_, _, rfl, by show 2 < BIG; decide, fun u => ?_⟩
  have nb2 := Nic.loose ng l2
  have nc2 := Nic.loose nb l3
  obtain ⟨bys, eb, lb⟩ := l2.seq rfl
  have lb := looseL_flat lb (ints_flat gone')
  subst lb
  obtain ⟨cys, ec, lc⟩ := l3.seq rfl
  have lc := looseL_flat lc (int_flat bs)
  subst lc
  simp only [pinS, pin1, List.map_cons, List.map_nil, List.cons_append, List.nil_append]
  try simp only [frz, params, setAll, List.zipWith, List.length_cons, List.length_nil, Nat.reduceAdd, Nat.reduceSub, List.replicate, List.append_nil, List.cons_append, List.nil_append, getV_va, Pt.sl, true_and, List.getElem?_cons_zero, List.getElem?_cons_succ, List.set_cons_zero, List.set_cons_succ, ite_self, Bool.false_eq_true, if_false, if_true]
  have hst : ∀ x ∈ hz', PyData.strOk x.1 = true ∧ x.2.natAbs ≤ 10 ^ 30 ∧ x.1.length ≤ 5 := fun x hx => by
    have hx2 := ph.mem_iff.mp hx
    have h4 := ht.h4 x hx2
    have : x.1 ∈ p.roads.map (·.1) := ht.hp.mem_iff.mp (List.mem_map_of_mem (f := (·.1)) hx2)
    obtain ⟨r, hr, e⟩ := List.mem_map.mp this
    have e : r.1 = x.1 := e
    exact ⟨e ▸ nm_ok (t1 r hr).1, by omega, e ▸ (t1 r hr).1.l5⟩
  have hshw := holds_shw fun x hx => ⟨(hst x hx).1, (hst x hx).2.1⟩
  have hwid := holds_wid (fun x hx => (hst x hx).2.2) (by rw [ph.length_eq]; omega)
  obtain ⟨gb1, _, gb3, _, gb5, gb6⟩ := nb2.all
  obtain ⟨gc1, _, gc3, _, gc5, gc6⟩ := nc2.all
  have rp : ∀ {n : Bool} {v : Option V} {Q : Dv → Prop}, Q ⟨.str (D.lst [b, holdsD hz', c]).pyd.shown, true, none⟩ → gRepr K ⟨.lst [b, holdsD hz', c], n, v⟩ Q := fun q => by
    refine ⟨?_, ?_, ?_, fun _ => hsm, q⟩
    · show (b.shw && ((holdsD hz').shw && (c.shw && true))) = true
      rw [gb3, hshw, gc3]
      rfl
    · show (b.wid + 2) + (((holdsD hz').wid + 2) + ((c.wid + 2) + 0)) + 2 ≤ BIG
      unfold BIG
      omega
    · show D.depL [b, holdsD hz', c] + 1 ≤ 60
      have : D.depL [b, holdsD hz', c] ≤ 2 := depL_le fun x hx => by
        simp only [List.mem_cons, List.not_mem_nil, or_false] at hx
        rcases hx with rfl | rfl | rfl
        · exact Nat.le_trans gb5 (by decide)
        · exact Nat.zero_le _
        · exact Nat.le_trans gc5 (by decide)
      omega
  rw [g1_of]
  refine rp ?_
  dsimp only
  rw [gIx_of rfl (show atI [b, holdsD hz', c] 0 = some b from rfl), gIx_of rfl (show atI [b, holdsD hz', c] 1 = some (holdsD hz') from rfl), gIx_of rfl (show atI [b, holdsD hz', c] 2 = some c from rfl)]
  refine gUn hp ht pg ph gb1 eb gc1 ec ?_
  try simp only [frz, params, setAll, List.zipWith, List.length_cons, List.length_nil, Nat.reduceAdd, Nat.reduceSub, List.replicate, List.append_nil, List.cons_append, List.nil_append, getV_va, Pt.sl, true_and, List.getElem?_cons_zero, List.getElem?_cons_succ, List.set_cons_zero, List.set_cons_succ, ite_self, Bool.false_eq_true, if_false, if_true]
  refine ⟨by decide, ⟨_, _, rfl⟩, ?_⟩
  rw [g1_of]
  dsimp only
  refine ⟨_, rfl, fun q hq ks z => ?_, ?_⟩
  · obtain ⟨x, _, rfl⟩ := List.mem_map.mp hq
    cases z
  rw [g1_of]
  refine ⟨hz.map fun x => ((Sum.inr x.1 : Key), D.int x.2), by rw [List.map_map, List.map_map]; rfl, ?_, ?_⟩
  · rw [List.map_map]
    have e : hz.map ((fun x : Key × D => x.1) ∘ fun x : Str × Int => ((Sum.inr x.1 : Key), D.int x.2)) = (hz.map (·.1)).map Sum.inr := by rw [List.map_map]; rfl
    rw [e]
    exact List.Pairwise.map _ (fun a b h z => h (Sum.inr.inj z)) ndz
  have ed2 : dctD (hz.map fun x => ((Sum.inr x.1 : Key), D.int x.2)) = holdsD hz := by
    unfold dctD holdsD
    rw [List.map_map]
    rfl
  rw [ed2]
  dsimp only
  rw [g1_of]
  dsimp only
  refine ⟨rfl, ?_⟩
  refine gUn (gone' := gone) (hz' := hz) hp ht (.refl _) (.refl _) ng0.all.1 rfl nb.all.1 rfl ?_
  obtain ⟨d1, d2, d3⟩ := due_nice hp (gone := gone) (hz := hz) (bs := bs)
  obtain ⟨d4, d5⟩ := due_fits hp (gone := gone) (hz := hz) (bs := bs) (N := 3) (by decide)
  refine ⟨_, _, rfl, by show 1 < BIG; decide, by decide, gSame (x := .lst [dueD p gone hz bs, dueD p gone hz bs]) ?_ ?_ ?_ ?_⟩
  · simp only [D.good, D.goodL, d1]
    rfl
  · show D.smpL [dueD p gone hz bs, dueD p gone hz bs] = true
    simp only [D.smpL, d2]
    rfl
  · have : (D.lst [dueD p gone hz bs, dueD p gone hz bs]).rnk ≤ 2 := Nat.succ_le_succ (rnkL_le fun x hx => by
      simp only [List.mem_cons, List.not_mem_nil, or_false] at hx
      rcases hx with rfl | rfl <;> exact d3)
    omega
  refine ⟨true, rfl, ?_⟩
  rw [if_neg (by decide)]
  rw [g1_of]
  refine rp ?_
  refine ⟨_, _, rfl, rfl, _, rfl, ?_⟩
  rw [if_neg (by simp)]
  have hcl : (D.lst [dueD p gone hz bs, dueD p gone hz bs]).cntL = 3 := by
    show (dueD p gone hz bs).cntL + ((dueD p gone hz bs).cntL + 0) + 1 = 3
    rw [d5]
  refine ⟨rfl, ⟨2, by decide, ?_⟩, ?_, rfl, ?_⟩
  · show D.fitsS (D.lst [dueD p gone hz bs, dueD p gone hz bs]).cntL 2 (D.lst [dueD p gone hz bs, dueD p gone hz bs])
    rw [hcl]
    refine ⟨by show 2 + 3 < BIG; decide, fun x hx => ?_⟩
    simp only [List.mem_cons, List.not_mem_nil, or_false] at hx
    rcases hx with rfl | rfl <;> exact d4
  · show (D.lst [dueD p gone hz bs, dueD p gone hz bs]).cntL < BIG
    rw [hcl]
    decide
  simp only [dropS, List.set_cons_zero, List.set_cons_succ]
  try simp only [frz, params, setAll, List.zipWith, List.length_cons, List.length_nil, Nat.reduceAdd, Nat.reduceSub, List.replicate, List.append_nil, List.cons_append, List.nil_append, getV_va, Pt.sl, true_and, List.getElem?_cons_zero, List.getElem?_cons_succ, List.set_cons_zero, List.set_cons_succ, ite_self, Bool.false_eq_true, if_false, if_true]
  refine ⟨_, _, rfl, _, _, rfl, rfl, _, _, rfl, _, _, rfl, rfl, _, _, rfl, _, _, rfl, rfl, ?_⟩
  refine gUn hp ht pg ph gb1 eb gc1 ec ?_
  exact gSame d1 d2 (by omega) q

end
end My

set_option Elab.async false
set_option linter.all false
set_option maxRecDepth 100000
set_option maxHeartbeats 4000000
set_option pp.maxSteps 6000
namespace My
open PySem PySem.Spec PyProof.Rows L2 DL
set_option pp.maxSteps 3000
theorem leD_tick {x : Str} {i j a b : Int} (h : i < j) : leD (trD (x, i, a)) (trD (x, j, b)) = true := by
  show (!PyProof.Rows.lexLt PyProof.Rows.itemOrd (tokD (trD (x, j, b))) (tokD (trD (x, i, a)))) = true
  have e : PyProof.Rows.lexLt PyProof.Rows.itemOrd (tokD (trD (x, j, b))) (tokD (trD (x, i, a))) = false := by
    show PyProof.Rows.lexLt PyProof.Rows.itemOrd (.inl 1 :: .inr x.cps.toList :: .inl 1 :: .inl j :: _) (.inl 1 :: .inr x.cps.toList :: .inl 1 :: .inl i :: _) = false
    rw [PyProof.Rows.lex_self, PyProof.Rows.lex_self, PyProof.Rows.lex_self, PyProof.Rows.lex_diff (fun z => by cases z; omega)]
    exact decide_eq_false (by omega)
  rw [e]
  rfl
theorem leD_refl {d : D} : leD d d = true := by
  rcases leD_ok.total d d with h | h <;> exact h
/-- letters of one post, tick by tick -/
theorem ord_ticks {x : Str} {a : Int} {l : List Row} (h : l.Pairwise fun r s => r.2.1 ≤ s.2.1) (hx : ∀ r ∈ l, r.1 = x ∧ r.2.2 = a) : InOrd l := by
  refine List.mergeSort_of_pairwise (h.imp_of_mem fun {r s} hr hs hrs => ?_)
  obtain ⟨y, i, b⟩ := r
  obtain ⟨z, j, c⟩ := s
  obtain ⟨rfl, rfl⟩ := hx _ hr
  obtain ⟨e1, e2⟩ := hx _ hs
  have e1 : z = y := e1
  have e2 : c = b := e2
  subst e1 e2
  have hrs : i ≤ j := hrs
  by_cases h2 : i = j
  · subst h2
    exact leD_refl
  · exact leD_tick (by omega)

theorem nm_a : NmOk "a" := ⟨by decide +kernel, by decide +kernel, by decide +kernel⟩
theorem nm_o : NmOk "o" := ⟨by decide +kernel, by decide +kernel, by decide +kernel⟩
theorem treeA : TreeOk "o" [("a", "o", 1)] := ⟨nm_o, ⟨nm_a, by decide +kernel, by decide +kernel, by decide, by decide, trivial⟩, by decide, by decide⟩
theorem forms_map {α : Type} {f : α → List D} {h : α → D} (e : ∀ a, (h a).seq = some (f a)) {l : List α} (g : ∀ a ∈ l, (h a).good = true) (hl : l.length ≤ 100000) : Forms f l (.lst (l.map h)) := by
  refine ⟨?_, _, rfl, ?_⟩
  · simp only [D.good, Bool.and_eq_true, decide_eq_true_eq, List.length_map]
    refine ⟨goodL_of fun x hx => ?_, hl⟩
    obtain ⟨a, ha, rfl⟩ := List.mem_map.mp hx
    exact g a ha
  · clear hl
    induction l with
    | nil => exact .nil
    | cons a l ih => exact .cons ⟨e a, g a List.mem_cons_self⟩ (ih fun b hb => g b (List.mem_cons_of_mem _ hb))
theorem row_good {r : Row} (h : NmOk r.1) : (rowD r).good = true := by
  have h1 := nm_ok h
  have h2 := h.l5
  simp only [rowD, D.good, D.goodL, h1, Bool.true_and, Bool.and_true, Bool.and_eq_true, decide_eq_true_eq, List.length_cons, List.length_nil]
  omega
theorem grR_mem {g : Int} {n : Nat} {r : Row} (h : r ∈ grR g n) : ∃ k : Nat, k < n ∧ r = (("a", g * (k : Int) + 1, 1) : Row) := by
  obtain ⟨k, hk, rfl⟩ := List.mem_map.mp h
  exact ⟨k, List.mem_range.mp hk, rfl⟩
theorem grL_mem {g d : Int} {n : Nat} {r : Row} (h : r ∈ grL g d n) : ∃ k : Nat, k < n ∧ r = (("a", g * (k : Int), d) : Row) := by
  obtain ⟨k, hk, rfl⟩ := List.mem_map.mp h
  exact ⟨k, List.mem_range.mp hk, rfl⟩
theorem mul_bd {g : Int} {k n : Nat} (h0 : 0 ≤ g) (h1 : g ≤ 10) (h2 : k < n) (h3 : n ≤ 60) : 0 ≤ g * (k : Int) ∧ g * (k : Int) ≤ 590 := by
  refine ⟨Int.mul_nonneg h0 (by omega), ?_⟩
  have h4 : g * (k : Int) ≤ 10 * (k : Int) := Int.mul_le_mul_of_nonneg_right h1 (by omega)
  omega
theorem grP_ok {g d : Int} {n : Nat} (h0 : 0 ≤ g) (h1 : g ≤ 10) (h2 : n ≤ 60) (h3 : 0 ≤ d) (h4 : d ≤ 300000) : PlanOk (grP g d n) := by
  refine ⟨treeA, ord_ticks (x := "a") (a := 1) ?_ fun r hr => ?_, ord_ticks (x := "a") (a := d) ?_ fun r hr => ?_, fun r hr => ?_, fun r hr => ?_, fun r hr => ?_, fun r hr => ?_, ?_, ?_⟩
  · show (grR g (n - 1)).Pairwise _
    unfold grR
    rw [List.pairwise_map]
    refine List.pairwise_lt_range.imp fun {i j} h => ?_
    have : g * (i : Int) ≤ g * (j : Int) := Int.mul_le_mul_of_nonneg_left (by omega) h0
    show g * (i : Int) + 1 ≤ g * (j : Int) + 1
    omega
  · obtain ⟨k, hk, rfl⟩ := grR_mem hr
    exact ⟨rfl, rfl⟩
  · show (grL g d n).Pairwise _
    unfold grL
    rw [List.pairwise_map]
    exact List.pairwise_lt_range.imp fun {i j} h => Int.mul_le_mul_of_nonneg_left (by omega) h0
  · obtain ⟨k, hk, rfl⟩ := grL_mem hr
    exact ⟨rfl, rfl⟩
  · obtain ⟨k, hk, rfl⟩ := grR_mem hr
    exact ⟨_, List.mem_singleton.mpr rfl, rfl⟩
  · obtain ⟨k, hk, rfl⟩ := grL_mem hr
    exact ⟨_, List.mem_singleton.mpr rfl, rfl⟩
  · obtain ⟨k, hk, rfl⟩ := grR_mem hr
    have := mul_bd (k := k) h0 h1 (show k < n by omega) h2
    exact ⟨by show 0 ≤ g * (k : Int) + 1; omega, by show g * (k : Int) + 1 ≤ 1000; omega, by show (1 : Int) ≤ 1; omega, by show (1 : Int) ≤ 100; omega⟩
  · obtain ⟨k, hk, rfl⟩ := grL_mem hr
    have := mul_bd (k := k) h0 h1 hk h2
    exact ⟨this.1, by show g * (k : Int) ≤ 1000; omega, h3, h4⟩
  · show (grR g (n - 1)).length ≤ 100
    unfold grR
    rw [List.length_map, List.length_range]
    omega
  · show (grL g d n).length ≤ 100
    unfold grL
    rw [List.length_map, List.length_range]
    omega
theorem rgD0 (m : Nat) : rgD 0 m = (List.range m).map fun (k : Nat) => (⟨.int (k : Nat), true, none⟩ : Dv) := by
  unfold rgD
  refine List.map_congr_left fun k _ => ?_
  rw [Int.zero_add]
theorem rep_ints (b : Int) : ∀ m : Nat, (List.replicate m [D.int b]).flatten = (List.replicate m b).map D.int
  | 0 => rfl
  | m + 1 => by
    rw [List.replicate_succ, List.flatten_cons, rep_ints b m, List.replicate_succ, List.map_cons]
    rfl
theorem good_ints {is : List Int} (h : is.length ≤ 1000) : (D.lst (is.map D.int)).good = true := by
  simp only [D.good, Bool.and_eq_true, decide_eq_true_eq, List.length_map]
  refine ⟨goodL_of fun x hx => ?_, by omega⟩
  obtain ⟨a, ha, rfl⟩ := List.mem_map.mp hx
  rfl
theorem hf_one {h : Int} : hfz [("a", h)] "a" = h := by simp [hfz]
theorem srt_small {ks : List Nat} (h : ks.length ≤ 1) : srtD (intsD ks) = intsD ks := by
  refine srtD_of ?_
  match ks, h with
  | [], _ => exact .nil
  | [k], _ => exact List.pairwise_singleton _ _
theorem task_gr {g d : Int} {n : Nat} {gone : List Nat} {h b : Int} (hg : ∀ k ∈ gone, k < n - 1) (nd : gone.Nodup) (hl : gone.length ≤ 100) (h0 : 0 ≤ h) (h1 : h ≤ 4) (b0 : 0 ≤ b) (b1 : b ≤ 4) : TaskOk (grP g d n) gone [("a", h)] (List.replicate (n - 1) b) := by
  refine ⟨nd, hl, fun k hk => ?_, .refl _, fun x hx => ?_, ?_, fun x hx => ?_⟩
  · show k < (grR g (n - 1)).length
    unfold grR
    rw [List.length_map, List.length_range]
    exact hg k hk
  · rw [List.mem_singleton] at hx
    subst hx
    exact ⟨h0, h1⟩
  · show _ = (grR g (n - 1)).length
    unfold grR
    rw [List.length_replicate, List.length_map, List.length_range]
  · rw [(List.mem_replicate.mp hx).2]
    exact ⟨b0, b1⟩
theorem due_gr1 {g d : Int} (hg : 2 ≤ g) {n first : Nat} {hold : Int} (hh : 1 ≤ hold) (hf : first < n - 1) : dueD (grP g d n) [first] [("a", hold)] (List.replicate (n - 1) 1) = .lst (intsD (if hold = 1 then [first + 1] else [])) := by
  unfold dueD
  rw [show (grP g d n).roads = ([("a", "o", 1)] : List Road) from rfl, unAll_one, hf_one, un_great1 hg hh hf, srt_small (by split <;> simp)]
theorem due_gr2 {g d : Int} (hg : 2 ≤ g) {n hold : Nat} (hh : 1 ≤ hold) (hn : hold ≤ n) : dueD (grP g d n) [] [("a", (hold : Int))] (List.replicate (n - 1) 0) = .lst (intsD (List.range' hold (n - hold))) := by
  unfold dueD
  rw [show (grP g d n).roads = ([("a", "o", 1)] : List Road) from rfl, unAll_one, hf_one, un_great2 hg hh hn, srt_rg]
theorem ll_nice {ls : List (List Nat)} (h1 : ls.length ≤ 100) (h2 : ∀ l ∈ ls, l.length ≤ 100 ∧ ∀ k ∈ l, k ≤ 1000) : Nic 2 (100 * (100 * (1921 + 2) + 3 + 2) + 3) (.lst (ls.map fun l => .lst (intsD l))) :=
  .lst (by rw [List.length_map]; exact h1) (by decide) fun x hx => by
    obtain ⟨l, hl, rfl⟩ := List.mem_map.mp hx
    obtain ⟨h3, h4⟩ := h2 l hl
    exact .lst (by unfold intsD; rw [List.length_map]; exact h3) (by decide) fun y hy => by
      obtain ⟨k, hk, rfl⟩ := List.mem_map.mp hy
      have := h4 k hk
      exact .int (by omega)
section
variable {P : Program} {w : World} {K : PySem.W.Frag} {mg : Str → Option Value} {base : Heap}
theorem sc__law_great_right : FnScope ["stream", "found", "number", "hold", "gap", "riders", "letters", "made", "first", "k"] ["stream"] (defScope s__law_great_right) := ⟨rfl, rfl, rfl, by decide +kernel, rfl, by decide +kernel, by decide +kernel⟩
def c__law_great_right : DC := fun ds _ _ Q => ds = [.strm] ∧ Q ⟨.bl true, true, none⟩
theorem ok__law_great_right (T : Txt K mg) : FnD P w K mg base 9 T.f__law_great_right.f T.f__law_great_right.fd ["stream"] (BIG ^ 12) c__law_great_right := by
  refine fn_ok T.f__law_great_right.ok sc__law_great_right fun cdv A outer s H E hr => ⟨_, _, (dss_cons (ds_asg [] (de_tup (da_cons (de_op dop_add de_int (de_call ((ok__law_draw T).mono (by decide)) hr (by rfl) T.f__law_draw.g T.f__law_draw.ok.kp T.f__law_draw.b (passE (takes_of rfl rfl rfl rfl)) rfl (da_cons (de_var (pv 0)) (da_cons de_int da_nil)))) (da_cons (de_op dop_add de_int (de_call ((ok__law_draw T).mono (by decide)) hr (by rfl) T.f__law_draw.g T.f__law_draw.ok.kp T.f__law_draw.b (passE (takes_of rfl rfl rfl rfl)) rfl (da_cons (de_var (pv 0)) (da_cons de_int da_nil)))) (da_cons (de_op dop_add de_int (de_call ((ok__law_draw T).mono (by decide)) hr (by rfl) T.f__law_draw.g T.f__law_draw.ok.kp T.f__law_draw.b (passE (takes_of rfl rfl rfl rfl)) rfl (da_cons (de_var (pv 0)) (da_cons de_int da_nil)))) da_nil)))) (dg_tup (n := 3) rfl (dgs_cons (dg_name (pg_name (i := 2) sc__law_great_right.nd rfl (Or.inl rfl))) (dgs_cons (dg_name (pg_name (i := 3) sc__law_great_right.nd rfl (Or.inl rfl))) (dgs_cons (dg_name (pg_name (i := 4) sc__law_great_right.nd rfl (Or.inr rfl))) dgs_nil)))) (fun _ _ a b => ps_asg a b))
      (dss_cons (ds_par2 (i := 5) (j := 6) [] (dp_va (DN.de (dn_lc (own := [("k", 9)]) rfl sc__law_great_right.nd (di_range1 (by rfl) T.n_range (da_cons (de_op dop_sub (de_var (pv 2)) de_int) da_nil)) (blkOk_by (N := ["stream", "found", "number", "hold", "gap", "riders", "letters", "made", "first", "k"]) (sc := defScope s__law_great_right) (by decide +kernel)) (fun _ _ _ _ _ => (dg_name (pg_name (i := 9) sc__law_great_right.nd rfl (Or.inl rfl)))) (fun _ _ _ _ _ => dts_nil) (fun _ _ _ _ _ => (de_tup (da_cons de_str (da_cons (de_op dop_add (de_op dop_mul (de_var (pv 4)) (de_var (pv 9))) de_int) (da_cons de_int da_nil))))) (by decide)))) (dp_va (DN.de (dn_lc (own := [("k", 9)]) rfl sc__law_great_right.nd (di_range1 (by rfl) T.n_range (da_cons (de_var (pv 2)) da_nil)) (blkOk_by (N := ["stream", "found", "number", "hold", "gap", "riders", "letters", "made", "first", "k"]) (sc := defScope s__law_great_right) (by decide +kernel)) (fun _ _ _ _ _ => (dg_name (pg_name (i := 9) sc__law_great_right.nd rfl (Or.inl rfl)))) (fun _ _ _ _ _ => dts_nil) (fun _ _ _ _ _ => (de_tup (da_cons de_str (da_cons (de_op dop_mul (de_var (pv 4)) (de_var (pv 9))) (da_cons de_int da_nil))))) (by decide)))) rfl sc__law_great_right.nd rfl rfl (by decide) (by rfl) (by rfl) (by rfl))
      (dss_cons (ds_par2 (i := 7) (j := 8) [] (dp_va (de_make T.mkP ((ok_Plan___init__ T).mono (by decide)) hr (by rfl) T.g_Plan T.f_Plan___init__.b (passE (takes_of rfl rfl rfl rfl)) rfl (da_cons de_str (da_cons (de_lst (da_cons (de_tup (da_cons de_str (da_cons de_str (da_cons de_int da_nil)))) da_nil)) (da_cons (de_call ((ok__law_mixed T).mono (by decide)) hr (by rfl) T.f__law_mixed.g T.f__law_mixed.ok.kp T.f__law_mixed.b (passE (takes_of rfl rfl rfl rfl)) rfl (da_cons (de_var (pv 0)) (da_cons (de_var (pv 5)) da_nil))) (da_cons (de_var (pv 6)) da_nil)))))) (dp_va (de_call ((ok__law_draw T).mono (by decide)) hr (by rfl) T.f__law_draw.g T.f__law_draw.ok.kp T.f__law_draw.b (passE (takes_of rfl rfl rfl rfl)) rfl (da_cons (de_var (pv 0)) (da_cons (de_op dop_sub (de_var (pv 2)) de_int) da_nil)))) rfl sc__law_great_right.nd rfl rfl (by decide) (by rfl) (by rfl) (by rfl))
      (dss_cons (ds_asg [] (de_lst (da_cons (de_call ((ok_unstamped T).mono (by decide)) hr (by rfl) T.f_unstamped.g T.f_unstamped.ok.kp T.f_unstamped.b (passE (takes_of rfl rfl rfl rfl)) rfl (da_cons (de_var (pv 7)) (da_cons (de_lst (da_cons (de_var (pv 8)) da_nil)) (da_cons (DN.de (dn_disp (dpp_cons de_str (de_var (pv 3)) dpp_nil) rfl rfl (fun z => nomatch z) (by decide))) (da_cons (de_op dop_mul (de_lst (da_cons de_int da_nil)) (de_op dop_sub (de_var (pv 2)) de_int)) da_nil))))) (da_cons (de_call ((ok_unstamped T).mono (by decide)) hr (by rfl) T.f_unstamped.g T.f_unstamped.ok.kp T.f_unstamped.b (passE (takes_of rfl rfl rfl rfl)) rfl (da_cons (de_var (pv 7)) (da_cons (de_lst da_nil) (da_cons (DN.de (dn_disp (dpp_cons de_str (de_var (pv 3)) dpp_nil) rfl rfl (fun z => nomatch z) (by decide))) (da_cons (de_op dop_mul (de_lst (da_cons de_int da_nil)) (de_op dop_sub (de_var (pv 2)) de_int)) da_nil))))) da_nil))) (dg_name (pg_name (i := 1) sc__law_great_right.nd rfl (Or.inl rfl))) (fun _ _ a b => ps_asg a b))
      (dss_one (ds_ret [] (de_call ((ok__law_same T 7).mono (by decide)) hr (by rfl) T.f__law_same.g T.f__law_same.ok.kp T.f__law_same.b (passE (takes_of rfl rfl rfl rfl)) rfl (da_cons (de_var (pv 1)) (da_cons (de_lst (da_cons (de_if (dt_cmp (dop_eq hr.units) (de_var (pv 3)) de_int (nomark _)) (de_lst (da_cons (de_op dop_add (de_var (pv 8)) de_int) da_nil)) (de_lst da_nil)) (da_cons (de_listRg2 rfl (by rfl) T.n_list (by rfl) T.n_range (de_var (pv 3)) (de_var (pv 2))) da_nil))) da_nil))))))))), by decide +kernel, fun ds vs XQ Q hd hv h => ?_⟩
  obtain ⟨rfl, q⟩ := h
  match vs, hv with
  | [v], _ =>
  try simp only [frz, params, setAll, List.zipWith, List.length_cons, List.length_nil, Nat.reduceAdd, Nat.reduceSub, List.replicate, List.append_nil, List.cons_append, List.nil_append, getV_va, Pt.sl, true_and, List.getElem?_cons_zero, List.getElem?_cons_succ, List.set_cons_zero, List.set_cons_succ, ite_self, Bool.false_eq_true, if_false, if_true]
  refine gDraw (by decide) (by decide) fun a a0 a1 => ?_
  rw [gAdd_int]
  refine gDraw (by decide) (by decide) fun b b0 b1 => ?_
  rw [gAdd_int]
  refine gDraw (by decide) (by decide) fun c c0 c1 => ?_
  rw [gAdd_int]
  obtain ⟨n, hn⟩ : ∃ n : Nat, 30 + a = (n : Int) := ⟨(30 + a).toNat, by omega⟩
  obtain ⟨hold, hh⟩ : ∃ n : Nat, 1 + b = (n : Int) := ⟨(1 + b).toNat, by omega⟩
  obtain ⟨g, hg⟩ : ∃ g : Int, 2 + c = g := ⟨_, rfl⟩
  rw [hn, hh, hg]
  refine ⟨by decide, ?_⟩
  rw [unp_seq (by rfl)]
  refine ⟨rfl, ?_⟩
  simp only [List.map_cons, List.map_nil]
  refine ⟨trivial, ?_⟩
  try simp only [frz, params, setAll, List.zipWith, List.length_cons, List.length_nil, Nat.reduceAdd, Nat.reduceSub, List.replicate, List.append_nil, List.cons_append, List.nil_append, getV_va, Pt.sl, true_and, List.getElem?_cons_zero, List.getElem?_cons_succ, List.set_cons_zero, List.set_cons_succ, ite_self, Bool.false_eq_true, if_false, if_true]
  rw [gI_of]
  refine ⟨trivial, ?_⟩
  dsimp only
  rw [show ((n : Int) - 1).toNat = n - 1 by omega, rgD0]
  refine ⟨by omega, by omega, by rw [List.length_map, List.length_range]; unfold BIG; omega, ?_⟩
  refine lc_mapA (g := fun k : Nat => rowD ("a", g * (k : Int) + 1, 1)) (fun k hk K1 K0 k1 => ?_) fun m1 => ?_
  · try simp only [lcStep, true_and, wipeR, List.map_cons, List.map_nil, List.set_cons_succ, List.set_cons_zero, List.getElem?_cons_succ, List.getElem?_cons_zero, getV_va, if_true]
    refine ⟨.inl ⟨by omega, by omega⟩, ?_⟩
    dsimp only
    rw [gAdd_int]
    exact ⟨by decide, k1 _ _⟩
  have e1 : ((List.range (n - 1)).map fun k : Nat => rowD ("a", g * (k : Int) + 1, 1)) = (grR g (n - 1)).map rowD := by unfold grR; rw [List.map_map]; rfl
  rw [e1]
  try dsimp only
  rw [show ((n : Int)).toNat = n by omega, rgD0]
  refine ⟨by omega, by omega, by rw [List.length_map, List.length_range]; unfold BIG; omega, ?_⟩
  refine lc_mapA (g := fun k : Nat => rowD ("a", g * (k : Int), 2000)) (fun k hk K1 K0 k1 => ?_) fun m2 => ?_
  · try simp only [lcStep, true_and, wipeR, List.map_cons, List.map_nil, List.set_cons_succ, List.set_cons_zero, List.getElem?_cons_succ, List.getElem?_cons_zero, getV_va, if_true]
    refine ⟨.inl ⟨by omega, by omega⟩, ?_⟩
    exact ⟨by decide, k1 _ _⟩
  have e2 : ((List.range n).map fun k : Nat => rowD ("a", g * (k : Int), 2000)) = (grL g 2000 n).map rowD := by unfold grL; rw [List.map_map]; rfl
  rw [e2]
  try simp only [frz, params, setAll, List.zipWith, List.length_cons, List.length_nil, Nat.reduceAdd, Nat.reduceSub, List.replicate, List.append_nil, List.cons_append, List.nil_append, getV_va, Pt.sl, true_and, List.getElem?_cons_zero, List.getElem?_cons_succ, List.set_cons_zero, List.set_cons_succ, ite_self, Bool.false_eq_true, if_false, if_true]
  have hp : PlanOk (grP g 2000 n) := grP_ok (by omega) (by omega) (by omega) (by decide) (by decide)
  have lR : (grR g (n - 1)).length ≤ 100 := hp.rl
  have lL : (grL g 2000 n).length ≤ 100 := hp.ll
  refine ⟨by decide, by decide, gCall_of fun _ => ⟨_, (grR g (n - 1)).map rowD, rfl, rfl, by rw [List.length_map]; omega, fun ys f1 py => ?_⟩⟩
  obtain ⟨ra, rfl, pra⟩ := perm_rows py
  dsimp only
  refine gCall_of fun _ => ⟨"o", _, _, _, [("a", "o", 1)], ra, grL g 2000 n, rfl, treeA, forms_map (h := roadD) seq_road (fun r hr => ?_) (by decide), forms_map seq_row (fun r hr => ?_) (by rw [pra.length_eq]; omega), forms_map seq_row (fun r hr => ?_) (by omega), fun r hr => ?_, fun r hr => ?_, by rw [pra.length_eq]; omega, by omega, fun ff => ?_⟩
  · rw [List.mem_singleton] at hr
    subst hr
    decide +kernel
  · obtain ⟨k, hk, rfl⟩ := grR_mem (pra.mem_iff.mp hr)
    exact row_good nm_a
  · obtain ⟨k, hk, rfl⟩ := grL_mem hr
    exact row_good nm_a
  · have hr' := pra.mem_iff.mp hr
    obtain ⟨b1, b2, b3, b4⟩ := hp.rb r hr'
    exact ⟨hp.rp r hr', b1, by omega, by omega, by omega⟩
  · obtain ⟨b1, b2, b3, b4⟩ := hp.lb r hr
    exact ⟨hp.lp r hr, b1, by omega, by omega, by omega⟩
  have hro : sortT ra = grR g (n - 1) := sortT_of_perm pra hp.ro
  have hlo : sortT (grL g 2000 n) = grL g 2000 n := sortT_of_perm (.refl _) hp.lo
  rw [hro, hlo, show (⟨"o", [("a", "o", 1)], grR g (n - 1), grL g 2000 n⟩ : PV) = grP g 2000 n from rfl]
  dsimp only
  rw [gI_of]
  refine ⟨trivial, gDraw (by omega) (by omega) fun f f0 f1 => ?_⟩
  obtain ⟨first, hf⟩ : ∃ n : Nat, f = (n : Int) := ⟨f.toNat, by omega⟩
  subst hf
  try simp only [frz, params, setAll, List.zipWith, List.length_cons, List.length_nil, Nat.reduceAdd, Nat.reduceSub, List.replicate, List.append_nil, List.cons_append, List.nil_append, getV_va, Pt.sl, true_and, List.getElem?_cons_zero, List.getElem?_cons_succ, List.set_cons_zero, List.set_cons_succ, ite_self, Bool.false_eq_true, if_false, if_true]
  refine ⟨by decide, [(Sum.inr "a", .int (hold : Nat))], rfl, by show 1 ≤ 15; decide, List.pairwise_singleton _ _, by decide, ?_⟩
  rw [gI_of]
  refine ⟨trivial, by omega, by omega, by show 1 * _ ≤ 16777216; omega, ?_⟩
  rw [show ((n : Int) - 1).toNat = n - 1 by omega, rep_ints]
  refine gUn (gone' := [first]) (hz' := [("a", (hold : Int))]) hp (task_gr (fun k hk => by rw [List.mem_singleton] at hk; omega) (List.pairwise_singleton _ _) (by show 1 ≤ 100; decide) (by omega) (by omega) (by decide) (by decide)) (.refl _) (.refl _) rfl rfl (good_ints (by rw [List.length_replicate]; omega)) rfl ?_
  rw [due_gr1 (by omega) (by omega) (by omega)]
  refine ⟨by decide, [(Sum.inr "a", .int (hold : Nat))], rfl, by show 1 ≤ 15; decide, List.pairwise_singleton _ _, by decide, ?_⟩
  rw [gI_of]
  refine ⟨trivial, by omega, by omega, by show 1 * _ ≤ 16777216; omega, ?_⟩
  rw [show ((n : Int) - 1).toNat = n - 1 by omega, rep_ints]
  refine gUn (gone' := []) (hz' := [("a", (hold : Int))]) hp (task_gr (gone := []) (fun k hk => (List.not_mem_nil hk).elim) .nil (by decide) (by omega) (by omega) (by decide) (by decide)) (.refl _) (.refl _) rfl rfl (good_ints (by rw [List.length_replicate]; omega)) rfl ?_
  rw [due_gr2 (by omega) (by omega) (by omega)]
  try simp only [frz, params, setAll, List.zipWith, List.length_cons, List.length_nil, Nat.reduceAdd, Nat.reduceSub, List.replicate, List.append_nil, List.cons_append, List.nil_append, getV_va, Pt.sl, true_and, List.getElem?_cons_zero, List.getElem?_cons_succ, List.set_cons_zero, List.set_cons_succ, ite_self, Bool.false_eq_true, if_false, if_true]
  refine ⟨by decide, ?_⟩
  rw [gEq_int]
  refine ⟨_, rfl, ?_⟩
  have er : ((List.range ((n : Int) - (hold : Int)).toNat).map fun k : Nat => D.int ((hold : Int) + (k : Int))) = intsD (List.range' hold (n - hold)) := by
    unfold intsD
    rw [show ((n : Int) - (hold : Int)).toNat = n - hold by omega, List.range'_eq_map_range, List.map_map]
    refine List.map_congr_left fun k _ => ?_
    show D.int ((hold : Int) + (k : Int)) = D.int ((hold + k : Nat) : Int)
    rw [Int.natCast_add]
  have fin : ∀ {A : List Nat} {ρ : Ro} {n1 n2 : Bool}, A.length ≤ 1 → (∀ k ∈ A, k ≤ 1000) → gCall (c__law_same 7) ρ XQ [⟨.lst [.lst (intsD A), .lst (intsD (List.range' hold (n - hold)))], n1, none⟩, ⟨.lst [.lst (intsD A), .lst (intsD (List.range' hold (n - hold)))], n2, none⟩] fun r => Q { d := r.d, n := r.n } := fun {A} ρ n1 n2 h1 h2 => by
    have nn := ll_nice (ls := [A, List.range' hold (n - hold)]) (by show 2 ≤ 100; decide) fun l hl => by
      simp only [List.mem_cons, List.not_mem_nil, or_false] at hl
      rcases hl with rfl | rfl
      · exact ⟨by omega, h2⟩
      · refine ⟨by rw [List.length_range']; omega, fun k hk => ?_⟩
        have := List.mem_range'_1.mp hk
        omega
    obtain ⟨q1, q2, _, q4, _⟩ := nn.all
    exact gSame q1 q2 (Nat.lt_of_le_of_lt q4 (by decide)) q
  by_cases hb : (hold : Int) = 1
  · rw [if_pos (by simpa using hb), if_pos hb, gAdd_int]
    refine ⟨by decide, _, _, rfl, rfl, by omega, by omega, by omega, by omega, by decide, ?_⟩
    rw [er]
    exact fin (A := [first + 1]) (by show 1 ≤ 1; decide) fun k hk => by
      rw [List.mem_singleton] at hk
      omega
  · rw [if_neg (by simpa using hb), if_neg hb]
    refine ⟨by decide, _, _, rfl, rfl, by omega, by omega, by omega, by omega, by decide, ?_⟩
    rw [er]
    exact fin (A := []) (by decide) fun k hk => (List.not_mem_nil hk).elim

end
end My

set_option Elab.async false
set_option linter.all false
set_option maxRecDepth 100000
set_option maxHeartbeats 4000000
set_option pp.maxSteps 6000
namespace My
open PySem PySem.Spec PyProof.Rows L2 DL
set_option pp.maxSteps 3000
theorem PlanOk.nic {p : PV} (hp : PlanOk p) : Nic 3 (4 * (100 * (3 * 1923 + 3 + 2) + 3 + 2) + 3) p.d := by
  have h2 := hp.rl
  have h3 := hp.ll
  have hl8 := hp.t.l
  obtain ⟨t1, t2⟩ := hp.t.facts
  refine .tup (l := 4) (by simp) (by decide) fun x hx => ?_
  simp only [List.mem_cons, List.not_mem_nil, or_false] at hx
  rcases hx with rfl | rfl | rfl | rfl
  · exact .mono (.str (nm_ok hp.t.o) (Nat.le_trans hp.t.o.l5 (by decide))) (by decide) (by decide)
  · exact .lst (by rw [List.length_map]; omega) (by decide) fun x hx => by
      obtain ⟨r, hr, rfl⟩ := List.mem_map.mp hx
      obtain ⟨q1, q2, q3, q4, _⟩ := t1 r hr
      exact nic_road q1 q2 (by omega)
  · exact .lst (by rw [List.length_map]; omega) (by decide) fun x hx => by
      obtain ⟨r, hr, rfl⟩ := List.mem_map.mp hx
      obtain ⟨x, hx, ex⟩ := hp.rp r hr
      obtain ⟨b1, b2, b3, b4⟩ := hp.rb r hr
      exact nic_row (ex ▸ (t1 x hx).1) (by omega) (by omega)
  · exact .lst (by rw [List.length_map]; omega) (by decide) fun x hx => by
      obtain ⟨r, hr, rfl⟩ := List.mem_map.mp hx
      obtain ⟨x, hx, ex⟩ := hp.lp r hr
      obtain ⟨b1, b2, b3, b4⟩ := hp.lb r hr
      exact nic_row (ex ▸ (t1 x hx).1) (by omega) (by omega)
theorem items_ll {Q : List Dv → Prop} (ls : List (List Nat)) {n : Bool} {v : Option V} (q : ∀ f, Q (ls.map fun l => ⟨.lst (intsD l), f, none⟩)) : items ⟨.tup (ls.map fun l => .lst (intsD l)), n, v⟩ Q := by
  rw [items_seq rfl, List.map_map]
  exact q _
abbrev Tk : Type := List Nat × List (Str × Int) × List Int
def tkD (t : Tk) : D := .tup [.lst (intsD t.1), holdsD t.2.1, .lst (t.2.2.map D.int)]
theorem cut_sub {α : Type} (xs : List α) (lo hi : Option Int) : (cutL xs lo hi).Sublist xs := (List.take_sublist _ _).trans (List.drop_sublist _ _)
def dueC (gone : List Nat) : List Nat := unAll (grP 2 9 4) gone (hfz [("a", 1)]) [1, 1, 1] [("a", "o", 1)]
theorem due_c (gone : List Nat) : dueD (grP 2 9 4) gone [("a", 1)] [1, 1, 1] = .lst (srtD (intsD (dueC gone))) := rfl
theorem srt_c {ks : List Nat} (h : ks.Pairwise (· ≤ ·)) : srtD (intsD ks) = intsD ks := by
  refine srtD_of ?_
  unfold intsD
  rw [List.pairwise_map]
  exact h.imp fun h => leD_int (by omega)
theorem due_0 : dueD (grP 2 9 4) [] [("a", 1)] [1, 1, 1] = .lst (intsD []) := by
  rw [due_c, show dueC [] = [] by decide +kernel, srt_c (by decide)]
theorem due_1 : dueD (grP 2 9 4) [0] [("a", 1)] [1, 1, 1] = .lst (intsD [1]) := by
  rw [due_c, show dueC [0] = [1] by decide +kernel, srt_c (by decide)]
theorem due_2 : dueD (grP 2 9 4) [0, 1] [("a", 1)] [1, 1, 1] = .lst (intsD [1, 2]) := by
  rw [due_c, show dueC [0, 1] = [1, 2] by decide +kernel, srt_c (by decide)]
theorem due_3 : dueD (grP 2 9 4) [2, 1] [("a", 1)] [1, 1, 1] = .lst (intsD [2, 3]) := by
  rw [due_c, show dueC [2, 1] = [2, 3] by decide +kernel, srt_c (by decide)]
section
variable {P : Program} {w : World} {K : PySem.W.Frag} {mg : Str → Option Value} {base : Heap}
theorem sc__law_stream : FnScope ["script"] ["script"] (defScope s__law_stream) := ⟨rfl, rfl, rfl, by decide +kernel, rfl, by decide +kernel, by decide +kernel⟩
theorem ok__law_stream (T : Txt K mg) : FnOk P w K mg base (L2.CX P w) 1 T.f__law_stream.f T.f__law_stream.fd ["script"] (spLayS K) :=
  T.f__law_stream.ok.ok sc__law_stream (fun vs H Q E h => h.1) (fun cdv A outer s H vs Q E hr h => by
    obtain ⟨hl, a, xs, rfl, ha, l, q⟩ := h
    refine ⟨_, pss_one (ps_ret (pe_lst (pa_cons (pe_callTy call_list_of (by rfl) T.n_list (by decide +kernel) (pa_cons (pv 0) pa_nil)) (pa_cons pe_int (pa_cons pe_int (pa_cons pe_int pa_nil)))))), ?_⟩
    refine ⟨_, rfl, a, xs, rfl, .inl ha, fun p hp => ?_⟩
    refine ⟨by show 4 ≤ sizeLine; rw [sizeLine_eq]; decide, fun r hr => ?_⟩
    exact q p r hp hr)
theorem sc_law : FnScope ["script", "stream", "turn", "made", "found", "plan", "tasks", "again", "kept", "number", "gone", "holds", "brings", "k"] ["script"] (defScope s_law) := ⟨rfl, rfl, rfl, by decide +kernel, rfl, by decide +kernel, by decide +kernel⟩
def c_law : DC := fun ds vs XQ Q => ∃ a : Addr, ds = [.vee (.ref a)] ∧ vs = [.ref a] ∧ XQ .none "" .non ∧ XQ .none "script" (.ref a) ∧ Q ⟨.bl true, true, none⟩
theorem ok_law (T : Txt K mg) (hsm : ∃ o, K.lookup sysModules = some o) : FnG P w K mg base 11 T.f_law.f T.f_law.fd ["script"] (BIG ^ 16) c_law := by
  refine fnG_ok T.f_law.ok sc_law fun A outer s H E hr hgd => ⟨_, _, (dss_strm (dstrm_script ((ok__law_stream T).mono (by decide)) hr (by rfl) T.f__law_stream.g T.f__law_stream.ok.kp T.f__law_stream.b (passE (takes_of rfl rfl rfl rfl)) rfl (da_cons (de_var (pv 0)) da_nil)) (pg_name (i := 1) sc_law.nd rfl (Or.inl rfl)) (fun _ _ a b => ps_asg a b)
      (dss_cons (ds_for [] (passes_of rfl) rfl (di_range1 (by rfl) T.n_range (da_cons de_int da_nil)) (dg_name (pg_name (i := 2) sc_law.nd rfl (Or.inl rfl)))
      (dss_cons (ds_asg [] (de_imp (g := fun ρ XQ Q => ∃ (i : Int) (n : Bool) (v : Option V) (n2 : Bool) (v2 : Option V), ρ[2]? = some (.va ⟨.int i, n, v⟩) ∧ ρ[1]? = some (.va ⟨.strm, n2, v2⟩) ∧ ∀ p : PV, PlanOk p → p.riders.length ≤ 80 → p.letters.length ≤ 80 → ∀ f, Q ⟨p.d, f, none⟩) (de_if (dt_cmp dop_lt (de_var (pv 2)) de_int (nomark _)) (de_call ((ok__law_s_plan T).mono (by decide)) hr (by rfl) T.f__law_s_plan.g T.f__law_s_plan.ok.kp T.f__law_s_plan.b (passE (takes_of rfl rfl rfl rfl)) rfl (da_cons (de_var (pv 1)) (da_cons de_int (da_cons de_int da_nil)))) (de_call ((ok__law_s_plan T).mono (by decide)) hr (by rfl) T.f__law_s_plan.g T.f__law_s_plan.ok.kp T.f__law_s_plan.b (passE (takes_of rfl rfl rfl rfl)) rfl (da_cons (de_var (pv 1)) (da_cons de_int (da_cons de_int da_nil))))) (fun ρ XQ Q h => by
      obtain ⟨i, n, v, n2, v2, h1, h2, q⟩ := h
      rw [h1, h2, getV_va]
      dsimp only
      rw [gI_of]
      refine ⟨trivial, _, rfl, ?_⟩
      by_cases hi : i < 5
      · rw [if_pos (by simpa using hi), getV_va]
        refine ⟨rfl, ?_⟩
        exact gCall_of fun _ => ⟨8, 10, rfl, by decide, by decide, by decide, by decide, fun p hp h3 h4 f => q p hp h3 h4 f⟩
      · rw [if_neg (by simpa using hi), getV_va]
        refine ⟨rfl, ?_⟩
        exact gCall_of fun _ => ⟨60, 80, rfl, by decide, by decide, by decide, by decide, fun p hp h3 h4 f => q p hp h3 h4 f⟩)) (dg_name (pg_name (i := 5) sc_law.nd rfl (Or.inl rfl))) (fun _ _ a b => ps_asg a b))
      (dss_cons (ds_asg [] (de_tup (da_cons (de_call ((ok__law_made T).mono (by decide)) hr (by rfl) T.f__law_made.g T.f__law_made.ok.kp T.f__law_made.b (passE (takes_of rfl rfl rfl rfl)) rfl (da_cons (de_var (pv 1)) (da_cons (de_var (pv 5)) da_nil))) (da_cons (de_callB (dcl_repr hgd (hr.mono (by decide))) (by rfl) T.n_repr (by decide +kernel) (da_cons (de_var (pv 5)) da_nil)) (da_cons (de_callB dcl_len (by rfl) T.n_len (by decide +kernel) (da_cons (de_ix (de_var (pv 5)) de_int (fun _ _ => rfl)) da_nil)) da_nil)))) (dg_tup (n := 3) rfl (dgs_cons (dg_name (pg_name (i := 3) sc_law.nd rfl (Or.inr rfl))) (dgs_cons (dg_name (pg_name (i := 8) sc_law.nd rfl (Or.inl rfl))) (dgs_cons (dg_name (pg_name (i := 9) sc_law.nd rfl (Or.inl rfl))) dgs_nil)))) (fun _ _ a b => ps_asg a b))
      (dss_cons (ds_own [] (dn_lst da_nil) (pg_name (i := 6) sc_law.nd rfl (Or.inl rfl)) (fun _ _ a b => ps_asg a b))
      (dss_cons (ds_for [] (passes_of rfl) rfl (di_range1 (by rfl) T.n_range (da_cons de_int da_nil)) (dg_name (pg_name (i := 7) sc_law.nd rfl (Or.inl rfl)))
      (dss_cons (ds_asg [] (de_slice (de_call ((ok__law_mixed T).mono (by decide)) hr (by rfl) T.f__law_mixed.g T.f__law_mixed.ok.kp T.f__law_mixed.b (passE (takes_of rfl rfl rfl rfl)) rfl (da_cons (de_var (pv 1)) (da_cons (de_listRg rfl (by rfl) T.n_list (by rfl) T.n_range (de_var (pv 9))) da_nil))) do_none (do_some (de_call ((ok__law_pick T).mono (by decide)) hr (by rfl) T.f__law_pick.g T.f__law_pick.ok.kp T.f__law_pick.b (passE (takes_of rfl rfl rfl rfl)) rfl (da_cons (de_var (pv 1)) (da_cons (de_lst (da_cons de_int (da_cons de_int (da_cons de_int (da_cons (de_var (pv 9)) da_nil))))) da_nil))))) (dg_name (pg_name (i := 10) sc_law.nd rfl (Or.inl rfl))) (fun _ _ a b => ps_asg a b))
      (dss_one (ds_append [] (de_tup (da_cons (de_var (pv 10)) (da_cons (de_call ((ok__law_s_holds T).mono (by decide)) hr (by rfl) T.f__law_s_holds.g T.f__law_s_holds.ok.kp T.f__law_s_holds.b (passE (takes_of rfl rfl rfl rfl)) rfl (da_cons (de_var (pv 1)) (da_cons (de_var (pv 5)) da_nil))) (da_cons (de_call ((ok__law_s_brings T).mono (by decide)) hr (by rfl) T.f__law_s_brings.g T.f__law_s_brings.ok.kp T.f__law_s_brings.b (passE (takes_of rfl rfl rfl rfl)) rfl (da_cons (de_var (pv 1)) (da_cons (de_var (pv 5)) da_nil))) da_nil)))) (fun _ a => ps_expr (pe_bm PySem.F.plainAttrs_list PySem.F.slot_list_append PySem.F.type_list_append mt_append (pv 6) (pa_cons a pa_nil)))))))
      (dss_cons (ds_append [] (de_tup (da_cons (de_ix (de_ixO (i := 6) (pv 6) de_int (fun _ _ => rfl)) de_int (fun _ _ => rfl)) (da_cons (de_ix (de_ixO (i := 6) (pv 6) de_int (fun _ _ => rfl)) de_int (fun _ _ => rfl)) (da_cons (de_ix (de_ixO (i := 6) (pv 6) de_int (fun _ _ => rfl)) de_int (fun _ _ => rfl)) da_nil)))) (fun _ a => ps_expr (pe_bm PySem.F.plainAttrs_list PySem.F.slot_list_append PySem.F.type_list_append mt_append (pv 6) (pa_cons a pa_nil))))
      (dss_cons (ds_for [6] (passes_of rfl) rfl (di_seq (de_op dop_add (de_var (pv 6)) (de_slice (de_var (pv 6)) do_none (do_some de_int)))) (dg_tup (n := 3) rfl (dgs_cons (dg_name (pg_name (i := 10) sc_law.nd rfl (Or.inl rfl))) (dgs_cons (dg_name (pg_name (i := 11) sc_law.nd rfl (Or.inl rfl))) (dgs_cons (dg_name (pg_name (i := 12) sc_law.nd rfl (Or.inl rfl))) dgs_nil))))
      (dss_one (ds_if [] (dt_not (dt_val (de_callG ((ok__law_asked_right T hsm).mono (by decide)) hr hgd (by rfl) T.f__law_asked_right.g T.f__law_asked_right.ok.kp T.f__law_asked_right.b (passE (takes_of rfl rfl rfl rfl)) rfl (da_cons (de_var (pv 1)) (da_cons (de_var (pv 5)) (da_cons (de_var (pv 3)) (da_cons (de_var (pv 10)) (da_cons (de_var (pv 11)) (da_cons (de_var (pv 12)) da_nil))))))))) (dss_one (ds_ret [] de_bl)) dss_nil)))
      (dss_one (ds_if [] (dt_cmp dop_neS (de_callB (dcl_repr hgd (hr.mono (by decide))) (by rfl) T.n_repr (by decide +kernel) (da_cons (de_var (pv 5)) da_nil)) (de_var (pv 8)) (nomark _)) (dss_one (ds_ret [] de_bl)) dss_nil)))))))))
      (dss_cons (ds_asg [] (de_make T.mkP ((ok_Plan___init__ T).mono (by decide)) hr (by rfl) T.g_Plan T.f_Plan___init__.b (passE (takes_of rfl rfl rfl rfl)) rfl (da_cons de_str (da_cons (de_lst (da_cons (de_tup (da_cons de_str (da_cons de_str (da_cons de_int da_nil)))) da_nil)) (da_cons (de_lst (da_cons (de_tup (da_cons de_str (da_cons de_int (da_cons de_int da_nil)))) (da_cons (de_tup (da_cons de_str (da_cons de_int (da_cons de_int da_nil)))) (da_cons (de_tup (da_cons de_str (da_cons de_int (da_cons de_int da_nil)))) da_nil)))) (da_cons (DN.de (dn_lc (own := [("k", 13)]) rfl sc_law.nd (di_seq (de_tup (da_cons de_int (da_cons de_int (da_cons de_int (da_cons de_int da_nil)))))) (blkOk_by (N := ["script", "stream", "turn", "made", "found", "plan", "tasks", "again", "kept", "number", "gone", "holds", "brings", "k"]) (sc := defScope s_law) (by decide +kernel)) (fun _ _ _ _ _ => (dg_name (pg_name (i := 13) sc_law.nd rfl (Or.inl rfl)))) (fun _ _ _ _ _ => dts_nil) (fun _ _ _ _ _ => (de_tup (da_cons de_str (da_cons (de_var (pv 13)) (da_cons de_int da_nil))))) (by decide))) da_nil))))) (dg_name (pg_name (i := 3) sc_law.nd rfl (Or.inr rfl))) (fun _ _ a b => ps_asg a b))
      (dss_cons (ds_setLc (i := 4) (own := [("gone", 10)]) [] rfl sc_law.nd rfl rfl (sw_true rfl rfl rfl (by decide +kernel)) (di_seq (de_tup (da_cons (de_lst da_nil) (da_cons (de_lst (da_cons de_int da_nil)) (da_cons (de_lst (da_cons de_int (da_cons de_int da_nil))) (da_cons (de_lst (da_cons de_int (da_cons de_int da_nil))) da_nil)))))) (blkOk_by (N := ["script", "stream", "turn", "made", "found", "plan", "tasks", "again", "kept", "number", "gone", "holds", "brings", "k"]) (sc := defScope s_law) (by decide +kernel)) (fun _ _ _ _ _ => (dg_name (pg_name (i := 10) sc_law.nd rfl (Or.inl rfl)))) (fun _ _ _ _ _ => dts_nil) (fun _ _ _ _ _ => (de_call ((ok_unstamped T).mono (by decide)) hr (by rfl) T.f_unstamped.g T.f_unstamped.ok.kp T.f_unstamped.b passL rfl (da_cons (de_var (pv 3)) (da_cons (de_var (pv 10)) (da_cons (DN.de (dn_disp (dpp_cons de_str de_int dpp_nil) rfl rfl (fun z => nomatch z) (by decide))) (da_cons (de_lst (da_cons de_int (da_cons de_int (da_cons de_int da_nil)))) da_nil)))))) (by decide))
      (dss_one (ds_ret [] (de_and (de_call ((ok__law_same T 7).mono (by decide)) hr (by rfl) T.f__law_same.g T.f__law_same.ok.kp T.f__law_same.b (passE (takes_of rfl rfl rfl rfl)) rfl (da_cons (de_var (pv 4)) (da_cons (de_lst (da_cons (de_lst da_nil) (da_cons (de_lst (da_cons de_int da_nil)) (da_cons (de_lst (da_cons de_int (da_cons de_int da_nil))) (da_cons (de_lst (da_cons de_int (da_cons de_int da_nil))) da_nil))))) da_nil))) (de_one (de_call ((ok__law_great_right T).mono (by decide)) hr (by rfl) T.f__law_great_right.g T.f__law_great_right.ok.kp T.f__law_great_right.b (passE (takes_of rfl rfl rfl rfl)) rfl (da_cons (de_var (pv 1)) da_nil)))))))))), by decide +kernel, fun ds vs XQ Q hd hv h => ?_⟩
  obtain ⟨a, rfl, rfl, x1, x2, q⟩ := h
  try simp only [frz, params, setAll, List.zipWith, List.length_cons, List.length_nil, Nat.reduceAdd, Nat.reduceSub, List.replicate, List.append_nil, List.cons_append, List.nil_append, getV_va, Pt.sl, true_and, List.getElem?_cons_zero, List.getElem?_cons_succ, List.set_cons_zero, List.set_cons_succ, ite_self, Bool.false_eq_true, if_false, if_true]
  refine ⟨x1, ⟨_, a, rfl, rfl, x2⟩, ?_⟩
  refine ⟨by decide, by decide, .inr (by rw [rgD_len]; decide), ?_⟩
  refine for_idx (fun i ρ => ∃ s2 s3 s4 s5 s6 s7 s8 s9 s10 s11 s12, ρ = [.va ⟨.vee (.ref a), (D.vee (.ref a)).imm, some (.ref a)⟩, .va ⟨.strm, true, none⟩, s2, s3, s4, s5, s6, s7, s8, s9, s10, s11, s12, .un]) _ 0 _ ⟨_, _, _, _, _, _, _, _, _, _, _, rfl⟩ (fun i x hx ρ hI K kk => ?_) fun ρ hI => ?_
  · obtain ⟨s2, s3, s4, s5, s6, s7, s8, s9, s10, s11, s12, rfl⟩ := hI
    obtain ⟨hi, rfl⟩ := rgD_get hx
    try simp only [frz, params, setAll, List.zipWith, List.length_cons, List.length_nil, Nat.reduceAdd, Nat.reduceSub, List.replicate, List.append_nil, List.cons_append, List.nil_append, getV_va, Pt.sl, true_and, List.getElem?_cons_zero, List.getElem?_cons_succ, List.set_cons_zero, List.set_cons_succ, ite_self, Bool.false_eq_true, if_false, if_true]
    refine ⟨_, _, _, _, _, rfl, rfl, fun p hp hr80 hl80 f => ?_⟩
    try simp only [frz, params, setAll, List.zipWith, List.length_cons, List.length_nil, Nat.reduceAdd, Nat.reduceSub, List.replicate, List.append_nil, List.cons_append, List.nil_append, getV_va, Pt.sl, true_and, List.getElem?_cons_zero, List.getElem?_cons_succ, List.set_cons_zero, List.set_cons_succ, ite_self, Bool.false_eq_true, if_false, if_true]
    refine gCall_of fun _ => ⟨p, rfl, hp, fun f2 => ?_⟩
    dsimp only
    have hpn := hp.nic
    rw [g1_of]
    refine gRepr_of hpn (by decide) (by decide) hsm ?_
    rw [gIx_of (PV.seq p) (show atI [D.str p.office, .lst (p.roads.map roadD), .lst (p.riders.map rowD), .lst (p.letters.map rowD)] 2 = some (.lst (p.riders.map rowD)) from rfl), g1_of, gLen_of (by rfl), List.length_map]
    refine ⟨by decide, ?_⟩
    rw [unp_seq (by rfl)]
    refine ⟨rfl, ?_⟩
    simp only [List.map_cons, List.map_nil]
    refine ⟨trivial, ?_⟩
    try simp only [frz, params, setAll, List.zipWith, List.length_cons, List.length_nil, Nat.reduceAdd, Nat.reduceSub, List.replicate, List.append_nil, List.cons_append, List.nil_append, getV_va, Pt.sl, true_and, List.getElem?_cons_zero, List.getElem?_cons_succ, List.set_cons_zero, List.set_cons_succ, ite_self, Bool.false_eq_true, if_false, if_true]
    refine ⟨by decide, by decide, by decide, .inr (by rw [rgD_len]; decide), ?_⟩
    refine for_idx (fun i ρ => ∃ s4 s7 n3 v3 n5 v5 n6 n8 v8 n9 v9 s10 s11 s12 s2, ∃ ts : List Tk, ρ = [.va ⟨.vee (.ref a), (D.vee (.ref a)).imm, some (.ref a)⟩, .va ⟨.strm, true, none⟩, s2, .va ⟨p.o, n3, v3⟩, s4, .va ⟨p.d, n5, v5⟩, .ow (.lst (ts.map tkD)) n6, s7, .va ⟨.str p.d.pyd.shown, n8, v8⟩, .va ⟨.int (p.riders.length : Nat), n9, v9⟩, s10, s11, s12, .un] ∧ ts.length = i ∧ ∀ t ∈ ts, TaskOk p t.1 t.2.1 t.2.2) _ 0 _ ⟨_, _, _, _, _, _, _, _, _, _, _, _, _, _, _, [], rfl, rfl, fun t h => (List.not_mem_nil h).elim⟩ (fun j y hy ρ hI K2 kk2 => ?_) fun ρ hI => ?_
    · obtain ⟨s4, s7, n3, v3, n5, v5, n6, n8, v8, n9, v9, s10, s11, s12, s2, ts, rfl, htl, hts⟩ := hI
      obtain ⟨hj, rfl⟩ := rgD_get hy
      have hj3 : j < 3 := hj
      try simp only [frz, params, setAll, List.zipWith, List.length_cons, List.length_nil, Nat.reduceAdd, Nat.reduceSub, List.replicate, List.append_nil, List.cons_append, List.nil_append, getV_va, Pt.sl, true_and, List.getElem?_cons_zero, List.getElem?_cons_succ, List.set_cons_zero, List.set_cons_succ, ite_self, Bool.false_eq_true, if_false, if_true]
      refine ⟨_, rfl, by unfold BIG; omega, gCall_of fun _ => ⟨_, (List.range p.riders.length).map fun k : Nat => D.int (k : Nat), rfl, rfl, by rw [List.length_map, List.length_range]; omega, fun ys f1 py => ?_⟩⟩
      obtain ⟨ks, rfl, pks⟩ := perm_un (f := fun k : Nat => D.int (k : Nat)) unI (fun a => Int.toNat_natCast a) py
      dsimp only
      refine ⟨by decide, gPickI [0, 1, 2, (p.riders.length : Int)] (by simp) (by simp) fun m hm fm => ?_⟩
      refine ⟨_, rfl, ?_⟩
      simp only [gSl]
      rw [cut_map]
      have hsub := cut_sub ks none (some m)
      have hgl : (cutL ks none (some m)).length ≤ 80 := by
        have := hsub.length_le
        rw [pks.length_eq, List.length_range] at this
        omega
      have hgd : (cutL ks none (some m)).Nodup := (pks.nodup_iff.mpr List.nodup_range).sublist hsub
      have hgt : ∀ k ∈ cutL ks none (some m), k < p.riders.length := fun k hk => List.mem_range.mp (pks.mem_iff.mp (hsub.subset hk))
      generalize cutL ks none (some m) = gone at hgl hgd hgt
      try simp only [frz, params, setAll, List.zipWith, List.length_cons, List.length_nil, Nat.reduceAdd, Nat.reduceSub, List.replicate, List.append_nil, List.cons_append, List.nil_append, getV_va, Pt.sl, true_and, List.getElem?_cons_zero, List.getElem?_cons_succ, List.set_cons_zero, List.set_cons_succ, ite_self, Bool.false_eq_true, if_false, if_true]
      refine ⟨⟨_, _, rfl⟩, gCall_of fun _ => ⟨p, rfl, hp, fun hz h1 h2 f3 => ?_⟩⟩
      dsimp only
      refine gCall_of fun _ => ⟨p, rfl, hp.rl, fun bs b1 b2 f4 => ?_⟩
      dsimp only
      refine ⟨by decide, _, _, rfl, by rw [List.length_map]; unfold BIG; omega, ?_⟩
      have et : ts.map tkD ++ [D.tup [.lst (gone.map fun k : Nat => D.int (k : Nat)), holdsD hz, .lst (bs.map D.int)]] = (ts ++ [(gone, hz, bs)]).map tkD := by rw [List.map_append]; rfl
      rw [et]
      refine kk2 _ ⟨_, _, _, _, _, _, _, _, _, _, _, _, _, _, _, ts ++ [(gone, hz, bs)], rfl, by rw [List.length_append, htl]; rfl, fun t ht => ?_⟩
      rcases List.mem_append.mp ht with ht | ht
      · exact hts t ht
      · rw [List.mem_singleton] at ht
        subst ht
        exact ⟨hgd, by show gone.length ≤ 100; omega, hgt, h1, h2, b1, b2⟩
    obtain ⟨s4, s7, n3, v3, n5, v5, n6, n8, v8, n9, v9, s10, s11, s12, s2, ts, rfl, htl, hts⟩ := hI
    rw [rgD_len] at htl
    have htl : ts.length = 3 := htl
    match ts, htl with
    | [ta, tb, tc], _ =>
    try simp only [frz, params, setAll, List.zipWith, List.length_cons, List.length_nil, Nat.reduceAdd, Nat.reduceSub, List.replicate, List.append_nil, List.cons_append, List.nil_append, getV_va, Pt.sl, true_and, List.getElem?_cons_zero, List.getElem?_cons_succ, List.set_cons_zero, List.set_cons_succ, ite_self, Bool.false_eq_true, if_false, if_true]
    refine ⟨⟨_, _, rfl⟩, _, _, rfl, _, _, rfl, rfl, ?_⟩
    rw [gIx_of (ds := [.lst (intsD ta.1), holdsD ta.2.1, .lst (ta.2.2.map D.int)]) rfl (show atI [D.lst (intsD ta.1), holdsD ta.2.1, .lst (ta.2.2.map D.int)] 0 = some (.lst (intsD ta.1)) from rfl)]
    refine ⟨_, _, rfl, _, _, rfl, rfl, ?_⟩
    rw [gIx_of (ds := [.lst (intsD ta.1), holdsD ta.2.1, .lst (ta.2.2.map D.int)]) rfl (show atI [D.lst (intsD ta.1), holdsD ta.2.1, .lst (ta.2.2.map D.int)] 1 = some (holdsD ta.2.1) from rfl)]
    refine ⟨_, _, rfl, _, _, rfl, rfl, ?_⟩
    rw [gIx_of (ds := [.lst (intsD tb.1), holdsD tb.2.1, .lst (tb.2.2.map D.int)]) rfl (show atI [D.lst (intsD tb.1), holdsD tb.2.1, .lst (tb.2.2.map D.int)] 2 = some (.lst (tb.2.2.map D.int)) from rfl)]
    refine ⟨by decide, _, _, rfl, by show 3 < BIG; decide, ?_⟩
    try simp only [frz, params, setAll, List.zipWith, List.length_cons, List.length_nil, Nat.reduceAdd, Nat.reduceSub, List.replicate, List.append_nil, List.cons_append, List.nil_append, getV_va, Pt.sl, true_and, List.getElem?_cons_zero, List.getElem?_cons_succ, List.set_cons_zero, List.set_cons_succ, ite_self, Bool.false_eq_true, if_false, if_true]
    have h4 : TaskOk p ta.1 ta.2.1 tb.2.2 := by
      have g1 := hts ta (by simp)
      have g2 := hts tb (by simp)
      exact ⟨g1.nd, g1.gl, g1.lt, g1.hp, g1.h4, g2.bl, g2.b4⟩
    have e4 : List.map tkD [ta, tb, tc] ++ [D.tup [D.lst (intsD ta.1), holdsD ta.2.1, D.lst (List.map D.int tb.2.2)]] = [ta, tb, tc, (ta.1, ta.2.1, tb.2.2)].map tkD := rfl
    have hts4 : ∀ t ∈ [ta, tb, tc, (ta.1, ta.2.1, tb.2.2)], TaskOk p t.1 t.2.1 t.2.2 := fun t ht => by
      simp only [List.mem_cons, List.not_mem_nil, or_false] at ht
      rcases ht with rfl | rfl | rfl | rfl
      · exact hts _ (by simp)
      · exact hts _ (by simp)
      · exact hts _ (by simp)
      · exact h4
    rw [e4]
    have hl4 : [ta, tb, tc, (ta.1, ta.2.1, tb.2.2)].length = 4 := rfl
    generalize [ta, tb, tc, (ta.1, ta.2.1, tb.2.2)] = t4 at hts4 hl4
    refine ⟨_, rfl, ?_⟩
    simp only [gSl]
    rw [cut_map, gAdd_lst]
    have hcl := (cut_sub t4 none (some 1)).length_le
    refine ⟨by rw [List.length_map, List.length_map]; unfold BIG; omega, ?_⟩
    rw [← List.map_append]
    have hts5 : ∀ t ∈ t4 ++ cutL t4 none (some 1), TaskOk p t.1 t.2.1 t.2.2 := fun t ht => (List.mem_append.mp ht).elim (hts4 t) fun h => hts4 t (cut_mem h)
    have hl5 : (t4 ++ cutL t4 none (some 1)).length ≤ 8 := by rw [List.length_append]; omega
    generalize t4 ++ cutL t4 none (some 1) = t5 at hts5 hl5
    rw [items_seq rfl, List.map_map]
    refine ⟨.inr (by rw [List.length_map]; unfold BIG; omega), ?_⟩
    refine for_idx (fun i ρ => ∃ s4 s6 s7 n3 v3 n5 v5 n8 v8 n9 v9 s10 s11 s12 s2, ρ = [.va ⟨.vee (.ref a), (D.vee (.ref a)).imm, some (.ref a)⟩, .va ⟨.strm, true, none⟩, s2, .va ⟨p.o, n3, v3⟩, s4, .va ⟨p.d, n5, v5⟩, s6, s7, .va ⟨.str p.d.pyd.shown, n8, v8⟩, .va ⟨.int (p.riders.length : Nat), n9, v9⟩, s10, s11, s12, .un]) _ 0 _ ⟨_, _, _, _, _, _, _, _, _, _, _, _, _, _, _, rfl⟩ (fun j y hy ρ hI K2 kk2 => ?_) fun ρ hI => ?_
    · obtain ⟨s4, s6, s7, n3, v3, n5, v5, n8, v8, n9, v9, s10, s11, s12, s2, rfl⟩ := hI
      obtain ⟨t, ht, rfl⟩ := List.mem_map.mp (List.mem_of_getElem? hy)
      rw [unp_seq (by rfl)]
      refine ⟨rfl, ?_⟩
      simp only [List.map_cons, List.map_nil]
      refine ⟨trivial, ?_⟩
      try simp only [frz, params, setAll, List.zipWith, List.length_cons, List.length_nil, Nat.reduceAdd, Nat.reduceSub, List.replicate, List.append_nil, List.cons_append, List.nil_append, getV_va, Pt.sl, true_and, List.getElem?_cons_zero, List.getElem?_cons_succ, List.set_cons_zero, List.set_cons_succ, ite_self, Bool.false_eq_true, if_false, if_true]
      refine gCall_of fun _ => ⟨p, t.1, t.2.1, t.2.2, rfl, hp, hts5 t ht, ?_⟩
      refine ⟨true, rfl, ?_⟩
      rw [if_neg (by decide)]
      exact kk2 _ ⟨_, _, _, _, _, _, _, _, _, _, _, _, _, _, _, rfl⟩
    obtain ⟨s4, s6, s7, n3, v3, n5, v5, n8, v8, n9, v9, s10, s11, s12, s2, rfl⟩ := hI
    try simp only [frz, params, setAll, List.zipWith, List.length_cons, List.length_nil, Nat.reduceAdd, Nat.reduceSub, List.replicate, List.append_nil, List.cons_append, List.nil_append, getV_va, Pt.sl, true_and, List.getElem?_cons_zero, List.getElem?_cons_succ, List.set_cons_zero, List.set_cons_succ, ite_self, Bool.false_eq_true, if_false, if_true]
    rw [g1_of]
    refine gRepr_of hpn (by decide) (by decide) hsm ?_
    refine ⟨_, _, rfl, rfl, _, rfl, ?_⟩
    rw [if_neg (by simp)]
    exact kk _ ⟨_, _, _, _, _, _, _, _, _, _, _, rfl⟩
  · obtain ⟨s2, s3, s4, s5, s6, s7, s8, s9, s10, s11, s12, rfl⟩ := hI
    try simp only [frz, params, setAll, List.zipWith, List.length_cons, List.length_nil, Nat.reduceAdd, Nat.reduceSub, List.replicate, List.append_nil, List.cons_append, List.nil_append, getV_va, Pt.sl, true_and, List.getElem?_cons_zero, List.getElem?_cons_succ, List.set_cons_zero, List.set_cons_succ, ite_self, Bool.false_eq_true, if_false, if_true]
    refine ⟨by decide, by decide, by decide, by decide, by decide, by decide, by decide, ?_⟩
    simp only [List.map_cons, List.map_nil]
    rw [items_seq rfl]
    refine ⟨by show 4 ≤ BIG; decide, lc_map (fun x => D.tup [.str "a", x.d, .int 9]) (fun y hy K1 K0 k1 => ?_) fun m => ?_⟩
    · try simp only [lcStep, true_and, wipeR, List.map_cons, List.map_nil, List.set_cons_succ, List.set_cons_zero, List.getElem?_cons_succ, List.getElem?_cons_zero, getV_va, if_true]
      exact ⟨by decide, k1 _ _⟩
    have hp : PlanOk (grP 2 9 4) := grP_ok (by decide) (by decide) (by decide) (by decide) (by decide)
    have hlo : sortT (grL 2 9 4) = grL 2 9 4 := sortT_of_perm (.refl _) hp.lo
    have hro : sortT (grR 2 3) = grR 2 3 := sortT_of_perm (.refl _) hp.ro
    refine gCall_of fun _ => ⟨"o", _, _, _, [("a", "o", 1)], grR 2 3, grL 2 9 4, rfl, treeA, forms_map (h := roadD) seq_road (fun r hr => ?_) (by decide), forms_map (h := rowD) seq_row (fun r hr => ?_) (by decide), forms_map (h := rowD) seq_row (fun r hr => ?_) (by decide), fun r hr => ?_, fun r hr => ?_, by decide, by decide, fun ff => ?_⟩
    · rw [List.mem_singleton] at hr
      subst hr
      decide +kernel
    · obtain ⟨k, hk, rfl⟩ := grR_mem hr
      exact row_good nm_a
    · obtain ⟨k, hk, rfl⟩ := grL_mem hr
      exact row_good nm_a
    · obtain ⟨b1, b2, b3, b4⟩ := hp.rb r hr
      exact ⟨hp.rp r hr, b1, by omega, by omega, by omega⟩
    · obtain ⟨b1, b2, b3, b4⟩ := hp.lb r hr
      exact ⟨hp.lp r hr, b1, by omega, by omega, by omega⟩
    rw [hro, hlo, show (⟨"o", [("a", "o", 1)], grR 2 3, grL 2 9 4⟩ : PV) = grP 2 9 4 from rfl]
    try simp only [frz, params, setAll, List.zipWith, List.length_cons, List.length_nil, Nat.reduceAdd, Nat.reduceSub, List.replicate, List.append_nil, List.cons_append, List.nil_append, getV_va, Pt.sl, true_and, List.getElem?_cons_zero, List.getElem?_cons_succ, List.set_cons_zero, List.set_cons_succ, ite_self, Bool.false_eq_true, if_false, if_true]
    refine ⟨by decide, by decide, by decide, by decide, by decide, ?_⟩
    refine items_ll [[], [0], [0, 1], [2, 1]] fun fr => ?_
    refine ⟨by show 4 ≤ BIG; decide, lc_mapA (g := fun l => dueD (grP 2 9 4) l [("a", 1)] [1, 1, 1]) (fun l hl K1 K0 k1 => ?_) fun m2 => ?_⟩
    · try simp only [lcStep, true_and, wipeR, List.map_cons, List.map_nil, List.set_cons_succ, List.set_cons_zero, List.getElem?_cons_succ, List.getElem?_cons_zero, getV_va, if_true]
      refine ⟨[(Sum.inr "a", .int 1)], rfl, by decide, List.pairwise_singleton _ _, by decide, ?_⟩
      have hl2 : l.Nodup ∧ l.length ≤ 100 ∧ ∀ k ∈ l, k < 3 := by
        simp only [List.mem_cons, List.not_mem_nil, or_false] at hl
        rcases hl with rfl | rfl | rfl | rfl <;> exact ⟨by decide, by decide, by decide⟩
      exact gUn (p := grP 2 9 4) (gone' := l) (hz' := [("a", 1)]) (bs := [1, 1, 1]) hp (task_gr (n := 4) (b := 1) (h := 1) hl2.2.2 hl2.1 hl2.2.1 (by decide) (by decide) (by decide) (by decide)) (.refl _) (.refl _) (by
        simp only [List.mem_cons, List.not_mem_nil, or_false] at hl
        rcases hl with rfl | rfl | rfl | rfl <;> rfl) rfl rfl rfl (k1 _ _)
    simp only [List.map_cons, List.map_nil]
    rw [due_0, due_1, due_2, due_3]
    refine ⟨by decide, by decide, by decide, by decide, by decide, ?_⟩
    have nn := ll_nice (ls := [[], [1], [1, 2], [2, 3]]) (by decide) fun l hl => by
      simp only [List.mem_cons, List.not_mem_nil, or_false] at hl
      rcases hl with rfl | rfl | rfl | rfl <;> exact ⟨by decide, by decide⟩
    obtain ⟨q1, q2, _, q4, _⟩ := nn.all
    refine gSame q1 q2 (Nat.lt_of_le_of_lt q4 (by decide)) ⟨true, rfl, ?_⟩
    rw [if_pos rfl]
    exact gCall_of fun _ => ⟨rfl, rfl, q⟩

end
end My

set_option Elab.async false
set_option linter.all false
set_option maxRecDepth 100000
set_option maxHeartbeats 0
namespace My
open PySem PySem.Spec PyProof.Rows L2 DL
theorem txt_of {K : PySem.W.Frag} {h : Heap} {mg : Str → Option Value} (X : K.In h) (G : h.Ns mainGlobals mg) (t : Told fa fn tf ex h K) : ∃ T : Txt K mg, T.f_law.f = He.ga K "law" := by
  obtain ⟨fd_is_list, F_is_list⟩ := t.d.def_ 0 (d := d0) rfl
  obtain ⟨fd_is_whole, F_is_whole⟩ := t.d.def_ 1 (d := d1) rfl
  obtain ⟨fd_is_number, F_is_number⟩ := t.d.def_ 2 (d := d2) rfl
  obtain ⟨fd_is_row, F_is_row⟩ := t.d.def_ 3 (d := d3) rfl
  obtain ⟨fd_is_name, F_is_name⟩ := t.d.def_ 4 (d := d4) rfl
  obtain ⟨fd_first_bad, F_first_bad⟩ := t.d.def_ 5 (d := d5) rfl
  obtain ⟨fd_first_bad_index, F_first_bad_index⟩ := t.d.def_ 6 (d := d6) rfl
  obtain ⟨fd_first_bad_road, F_first_bad_road⟩ := t.d.def_ 7 (d := d7) rfl
  obtain ⟨fd_is_post, F_is_post⟩ := t.d.def_ 8 (d := d8) rfl
  obtain ⟨fd_check_plan, F_check_plan⟩ := t.d.def_ 9 (d := d9) rfl
  obtain ⟨fd_check_gone, F_check_gone⟩ := t.d.def_ 10 (d := d10) rfl
  obtain ⟨fd_check_holds, F_check_holds⟩ := t.d.def_ 11 (d := d11) rfl
  obtain ⟨fd_check_brings, F_check_brings⟩ := t.d.def_ 12 (d := d12) rfl
  obtain ⟨fd_letters_at, F_letters_at⟩ := t.d.def_ 13 (d := d13) rfl
  obtain ⟨fd_riders_at, F_riders_at⟩ := t.d.def_ 14 (d := d14) rfl
  obtain ⟨fd_unstamped_at, F_unstamped_at⟩ := t.d.def_ 15 (d := d15) rfl
  obtain ⟨fd_unstamped, F_unstamped⟩ := t.d.def_ 16 (d := d16) rfl
  obtain ⟨fd__law_stream, F__law_stream⟩ := t.d.def_ 17 (d := d17) rfl
  obtain ⟨fd__law_draw, F__law_draw⟩ := t.d.def_ 18 (d := d18) rfl
  obtain ⟨fd__law_pick, F__law_pick⟩ := t.d.def_ 19 (d := d19) rfl
  obtain ⟨fd__law_mixed, F__law_mixed⟩ := t.d.def_ 20 (d := d20) rfl
  obtain ⟨fd__law_same, F__law_same⟩ := t.d.def_ 21 (d := d21) rfl
  obtain ⟨fd__law_loose, F__law_loose⟩ := t.d.def_ 22 (d := d22) rfl
  obtain ⟨fd__law_names, F__law_names⟩ := t.d.def_ 23 (d := d23) rfl
  obtain ⟨fd__law_spoilt, F__law_spoilt⟩ := t.d.def_ 24 (d := d24) rfl
  obtain ⟨fd__law_tree, F__law_tree⟩ := t.d.def_ 25 (d := d25) rfl
  obtain ⟨fd__law_made, F__law_made⟩ := t.d.def_ 26 (d := d26) rfl
  obtain ⟨fd__law_s_plan, F__law_s_plan⟩ := t.d.def_ 27 (d := d27) rfl
  obtain ⟨fd__law_s_holds, F__law_s_holds⟩ := t.d.def_ 28 (d := d28) rfl
  obtain ⟨fd__law_s_brings, F__law_s_brings⟩ := t.d.def_ 29 (d := d29) rfl
  obtain ⟨fd__law_unstamped, F__law_unstamped⟩ := t.d.def_ 30 (d := d30) rfl
  obtain ⟨fd__law_asked_right, F__law_asked_right⟩ := t.d.def_ 31 (d := d31) rfl
  obtain ⟨fd__law_great_right, F__law_great_right⟩ := t.d.def_ 32 (d := d32) rfl
  obtain ⟨fd_law, F_law⟩ := t.d.def_ 33 (d := d33) rfl
  obtain ⟨fd_Plan___init__, F_Plan___init__⟩ := t.d.def_ 34 (d := d34) rfl
  obtain ⟨fd_Plan_is_rider, F_Plan_is_rider⟩ := t.d.def_ 35 (d := d35) rfl
  obtain ⟨fd_Plan_is_letter, F_Plan_is_letter⟩ := t.d.def_ 36 (d := d36) rfl
  exact ⟨⟨He.free_ok X G (t.d.fact 34 (f := .free "ValueError") rfl), He.free_ok X G (t.d.fact 35 (f := .free "abs") rfl), He.free_ok X G (t.d.fact 36 (f := .free "all") rfl), He.free_ok X G (t.d.fact 37 (f := .free "bool") rfl), He.free_ok X G (t.d.fact 38 (f := .free "dict") rfl), He.free_ok X G (t.d.fact 39 (f := .free "enumerate") rfl), He.free_ok X G (t.d.fact 40 (f := .free "int") rfl), He.free_ok X G (t.d.fact 41 (f := .free "isinstance") rfl), He.free_ok X G (t.d.fact 42 (f := .free "len") rfl), He.free_ok X G (t.d.fact 43 (f := .free "list") rfl), He.free_ok X G (t.d.fact 44 (f := .free "max") rfl), He.free_ok X G (t.d.fact 45 (f := .free "min") rfl), He.free_ok X G (t.d.fact 46 (f := .free "range") rfl), He.free_ok X G (t.d.fact 47 (f := .free "repr") rfl), He.free_ok X G (t.d.fact 48 (f := .free "sorted") rfl), He.free_ok X G (t.d.fact 49 (f := .free "str") rfl), He.free_ok X G (t.d.fact 50 (f := .free "tuple") rfl), He.free_ok X G (t.d.fact 51 (f := .free "zip") rfl), ⟨He.ga K "is_list", fd_is_list, F_is_list, He.glo_ok X G (t.d.fact 0 (f := .glo "is_list") rfl), F_is_list.bindsN fun _ _ _ _ _ _ us hl => match us, hl with | [_], _ => rfl⟩, ⟨He.ga K "is_whole", fd_is_whole, F_is_whole, He.glo_ok X G (t.d.fact 1 (f := .glo "is_whole") rfl), F_is_whole.bindsN fun _ _ _ _ _ _ us hl => match us, hl with | [_], _ => rfl⟩, ⟨He.ga K "is_number", fd_is_number, F_is_number, He.glo_ok X G (t.d.fact 2 (f := .glo "is_number") rfl), F_is_number.bindsN fun _ _ _ _ _ _ us hl => match us, hl with | [_], _ => rfl⟩, ⟨He.ga K "is_row", fd_is_row, F_is_row, He.glo_ok X G (t.d.fact 3 (f := .glo "is_row") rfl), F_is_row.bindsN fun _ _ _ _ _ _ us hl => match us, hl with | [_, _], _ => rfl⟩, ⟨He.ga K "is_name", fd_is_name, F_is_name, He.glo_ok X G (t.d.fact 4 (f := .glo "is_name") rfl), F_is_name.bindsN fun _ _ _ _ _ _ us hl => match us, hl with | [_], _ => rfl⟩, ⟨He.ga K "first_bad", fd_first_bad, F_first_bad, He.glo_ok X G (t.d.fact 5 (f := .glo "first_bad") rfl), F_first_bad.bindsN fun _ _ _ _ _ _ us hl => match us, hl with | [_, _], _ => rfl⟩, ⟨He.ga K "first_bad_index", fd_first_bad_index, F_first_bad_index, He.glo_ok X G (t.d.fact 6 (f := .glo "first_bad_index") rfl), F_first_bad_index.bindsN fun _ _ _ _ _ _ us hl => match us, hl with | [_, _], _ => rfl⟩, ⟨He.ga K "first_bad_road", fd_first_bad_road, F_first_bad_road, He.glo_ok X G (t.d.fact 7 (f := .glo "first_bad_road") rfl), F_first_bad_road.bindsN fun _ _ _ _ _ _ us hl => match us, hl with | [_, _], _ => rfl⟩, ⟨He.ga K "is_post", fd_is_post, F_is_post, He.glo_ok X G (t.d.fact 8 (f := .glo "is_post") rfl), F_is_post.bindsN fun _ _ _ _ _ _ us hl => match us, hl with | [_, _], _ => rfl⟩, ⟨He.ga K "check_plan", fd_check_plan, F_check_plan, He.glo_ok X G (t.d.fact 9 (f := .glo "check_plan") rfl), F_check_plan.bindsN fun _ _ _ _ _ _ us hl => match us, hl with | [_], _ => rfl⟩, ⟨He.ga K "check_gone", fd_check_gone, F_check_gone, He.glo_ok X G (t.d.fact 10 (f := .glo "check_gone") rfl), F_check_gone.bindsN fun _ _ _ _ _ _ us hl => match us, hl with | [_, _], _ => rfl⟩, ⟨He.ga K "check_holds", fd_check_holds, F_check_holds, He.glo_ok X G (t.d.fact 11 (f := .glo "check_holds") rfl), F_check_holds.bindsN fun _ _ _ _ _ _ us hl => match us, hl with | [_, _], _ => rfl⟩, ⟨He.ga K "check_brings", fd_check_brings, F_check_brings, He.glo_ok X G (t.d.fact 12 (f := .glo "check_brings") rfl), F_check_brings.bindsN fun _ _ _ _ _ _ us hl => match us, hl with | [_, _], _ => rfl⟩, ⟨He.ga K "letters_at", fd_letters_at, F_letters_at, He.glo_ok X G (t.d.fact 13 (f := .glo "letters_at") rfl), F_letters_at.bindsN fun _ _ _ _ _ _ us hl => match us, hl with | [_, _], _ => rfl⟩, ⟨He.ga K "riders_at", fd_riders_at, F_riders_at, He.glo_ok X G (t.d.fact 14 (f := .glo "riders_at") rfl), F_riders_at.bindsN fun _ _ _ _ _ _ us hl => match us, hl with | [_, _, _, _], _ => rfl⟩, ⟨He.ga K "unstamped_at", fd_unstamped_at, F_unstamped_at, He.glo_ok X G (t.d.fact 15 (f := .glo "unstamped_at") rfl), F_unstamped_at.bindsN fun _ _ _ _ _ _ us hl => match us, hl with | [_, _, _, _, _], _ => rfl⟩, ⟨He.ga K "unstamped", fd_unstamped, F_unstamped, He.glo_ok X G (t.d.fact 16 (f := .glo "unstamped") rfl), F_unstamped.bindsN fun _ _ _ _ _ _ us hl => match us, hl with | [_, _, _, _], _ => rfl⟩, ⟨He.ga K "_law_stream", fd__law_stream, F__law_stream, He.glo_ok X G (t.d.fact 17 (f := .glo "_law_stream") rfl), F__law_stream.bindsN fun _ _ _ _ _ _ us hl => match us, hl with | [_], _ => rfl⟩, ⟨He.ga K "_law_draw", fd__law_draw, F__law_draw, He.glo_ok X G (t.d.fact 18 (f := .glo "_law_draw") rfl), F__law_draw.bindsN fun _ _ _ _ _ _ us hl => match us, hl with | [_, _], _ => rfl⟩, ⟨He.ga K "_law_pick", fd__law_pick, F__law_pick, He.glo_ok X G (t.d.fact 19 (f := .glo "_law_pick") rfl), F__law_pick.bindsN fun _ _ _ _ _ _ us hl => match us, hl with | [_, _], _ => rfl⟩, ⟨He.ga K "_law_mixed", fd__law_mixed, F__law_mixed, He.glo_ok X G (t.d.fact 20 (f := .glo "_law_mixed") rfl), F__law_mixed.bindsN fun _ _ _ _ _ _ us hl => match us, hl with | [_, _], _ => rfl⟩, ⟨He.ga K "_law_same", fd__law_same, F__law_same, He.glo_ok X G (t.d.fact 21 (f := .glo "_law_same") rfl), F__law_same.bindsN fun _ _ _ _ _ _ us hl => match us, hl with | [_, _], _ => rfl⟩, ⟨He.ga K "_law_loose", fd__law_loose, F__law_loose, He.glo_ok X G (t.d.fact 22 (f := .glo "_law_loose") rfl), F__law_loose.bindsN fun _ _ _ _ _ _ us hl => match us, hl with | [_, _], _ => rfl⟩, ⟨He.ga K "_law_names", fd__law_names, F__law_names, He.glo_ok X G (t.d.fact 23 (f := .glo "_law_names") rfl), F__law_names.bindsN fun _ _ _ _ _ _ us hl => match us, hl with | [_, _], _ => rfl⟩, ⟨He.ga K "_law_spoilt", fd__law_spoilt, F__law_spoilt, He.glo_ok X G (t.d.fact 24 (f := .glo "_law_spoilt") rfl), F__law_spoilt.bindsN fun _ _ _ _ _ _ us hl => match us, hl with | [_], _ => rfl⟩, ⟨He.ga K "_law_tree", fd__law_tree, F__law_tree, He.glo_ok X G (t.d.fact 25 (f := .glo "_law_tree") rfl), F__law_tree.bindsN fun _ _ _ _ _ _ us hl => match us, hl with | [_, _], _ => rfl⟩, ⟨He.ga K "_law_made", fd__law_made, F__law_made, He.glo_ok X G (t.d.fact 26 (f := .glo "_law_made") rfl), F__law_made.bindsN fun _ _ _ _ _ _ us hl => match us, hl with | [_, _], _ => rfl⟩, ⟨He.ga K "_law_s_plan", fd__law_s_plan, F__law_s_plan, He.glo_ok X G (t.d.fact 27 (f := .glo "_law_s_plan") rfl), F__law_s_plan.bindsN fun _ _ _ _ _ _ us hl => match us, hl with | [_, _, _], _ => rfl⟩, ⟨He.ga K "_law_s_holds", fd__law_s_holds, F__law_s_holds, He.glo_ok X G (t.d.fact 28 (f := .glo "_law_s_holds") rfl), F__law_s_holds.bindsN fun _ _ _ _ _ _ us hl => match us, hl with | [_, _], _ => rfl⟩, ⟨He.ga K "_law_s_brings", fd__law_s_brings, F__law_s_brings, He.glo_ok X G (t.d.fact 29 (f := .glo "_law_s_brings") rfl), F__law_s_brings.bindsN fun _ _ _ _ _ _ us hl => match us, hl with | [_, _], _ => rfl⟩, ⟨He.ga K "_law_unstamped", fd__law_unstamped, F__law_unstamped, He.glo_ok X G (t.d.fact 30 (f := .glo "_law_unstamped") rfl), F__law_unstamped.bindsN fun _ _ _ _ _ _ us hl => match us, hl with | [_, _, _, _], _ => rfl⟩, ⟨He.ga K "_law_asked_right", fd__law_asked_right, F__law_asked_right, He.glo_ok X G (t.d.fact 31 (f := .glo "_law_asked_right") rfl), F__law_asked_right.bindsN fun _ _ _ _ _ _ us hl => match us, hl with | [_, _, _, _, _, _], _ => rfl⟩, ⟨He.ga K "_law_great_right", fd__law_great_right, F__law_great_right, He.glo_ok X G (t.d.fact 32 (f := .glo "_law_great_right") rfl), F__law_great_right.bindsN fun _ _ _ _ _ _ us hl => match us, hl with | [_], _ => rfl⟩, ⟨He.ga K "law", fd_law, F_law, He.glo_ok X G (t.d.fact 33 (f := .glo "law") rfl), F_law.bindsN fun _ _ _ _ _ _ us hl => match us, hl with | [_], _ => rfl⟩, clB_plan (He.ba (He.ba t.ex).1).1, He.glo_ok X G (t.d.fact 52 (f := .glo "Plan") rfl), He.str_ok X G (t.d.fact 54 (f := .str "LETTERS" "abcdefghijklmnopqrstuvwxyz") rfl), ⟨He.ma K (He.ga K "Plan") "__init__", fd_Plan___init__, F_Plan___init__, F_Plan___init__.bindsN fun _ _ _ _ _ _ us hl => match us, hl with | [_, _, _, _, _], _ => rfl⟩, ⟨He.ma K (He.ga K "Plan") "is_rider", fd_Plan_is_rider, F_Plan_is_rider, F_Plan_is_rider.bindsN fun _ _ _ _ _ _ us hl => match us, hl with | [_, _], _ => rfl⟩, ⟨He.ma K (He.ga K "Plan") "is_letter", fd_Plan_is_letter, F_Plan_is_letter, F_Plan_is_letter.bindsN fun _ _ _ _ _ _ us hl => match us, hl with | [_, _], _ => rfl⟩, He.mkr_ok (t.d.fact 53 (f := .mkr "Plan") rfl), bmB_ok (He.ba (He.ba t.ex).1).2 (by decide +kernel), bmB_ok (He.ba t.ex).2 (by decide +kernel)⟩, rfl⟩
theorem law_code {K : PySem.W.Frag} {mg : Str → Option Value} (T : Txt K mg) (e : T.f_law.f = He.ga K "law") : T.f_law.fd.code = .ref (He.codeOf K ("law", none)) := by
  obtain ⟨oc, od, dV, kV, doc, pm, an, cdv, ct, osl, efd, lk, hcd, _, _⟩ := T.f_law.ok.ex
  obtain ⟨c, ec⟩ := He.codeIn_ref hcd
  have e2 : T.f_law.fd.code = .ref c := by rw [efd]; exact ec
  rw [e] at lk
  rw [e2, He.codeOf_eq (p := ("law", none)) lk e2]
theorem walk : PySem.W.WalkO (PySem.W.view R.prog [51]) names (PySem.W.XL (PySem.W.view R.prog [51]) []) hk.says PySem.Challenge.rw_postriders_k34_whole_letters_without_sta.row.toRowW (HandSHeadRun.topDef R.prog 51) [] (fun f vs => PySem.call f vs) := by
  refine walk_G (n := 63) rfl (by decide) (by kernel_rfl) ?F
  intro w mg fL h Y G hmg0
  obtain ⟨K, KX, t⟩ := Y
  have hmg : mg ("law" : PySem.Str) = some (.ref fL) := by
    have e : (HandSHeadRun.topDef R.prog 51).name = ("law" : PySem.Str) := by kernel_rfl
    rw [← e]
    exact hmg0
  obtain ⟨T, eL⟩ := txt_of KX G t
  have ef := T.f_law.g.symm.trans hmg
  cases ef
  refine ⟨K, _, KX, lawG_of (k := 11) (fd := T.f_law.fd) KX t (by decide) (by unfold LIM; decide +kernel) (fun s u => T.f_law.ok.bindsA (ps := ["script"]) (fun _ _ _ _ _ _ us hl => match us, hl with | [_], _ => rfl) s [u] rfl) (fun base hK hN hT => ok_law T t.sm) fun a Q q => ⟨a, rfl, rfl, ⟨rfl, .inl rfl⟩, ⟨rfl, .inr ⟨rfl, rfl⟩⟩, q⟩⟩
end My
open PySem PySem.W PySem.Calls PyProof.Rows
theorem PySem.Challenge.cw_postriders_k34_whole_letters_without_sta_holds : PySem.Challenge.rw_postriders_k34_whole_letters_without_sta.Holds := by
  w_on; o_law
  refine HandSHeadRun.head_any (r := My.R) (q := view My.R.prog [51]) (H := My.hk) (ob := My.ob) (M := 20000) (loose := My.names) (d := HandSHeadRun.topDef My.R.prog 51) (kwd := []) My.ob_eq (by kernel_rfl) (fun s => by kernel_rfl) My.run (by kernel_rfl) (by kernel_rfl) (by kernel_rfl)
    (by rfl) (by first | assumption | decide +kernel) (by decide +kernel) ⟨rfl, rfl, rfl, rfl, rfl, by decide +kernel⟩ ?hw ?hc
  case hw => w_witness2
  case hc => exact My.walk

