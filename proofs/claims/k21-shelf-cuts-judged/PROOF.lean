import PyProof.Rows.All
import HandS.HeadHook4
import Wide.All
import OpenK.AllK
import Wide.FinOn
import HandS.Base
import HandS.Call
import HandS.Exc
import HandS.ExcInit
import HandS.ExcField
import HandS.NestedK
import HandS.Codes
import HandS.More
import HandS.Words
import HandS.HeadWalk
import HandS.HeadEnd
import HandS.Head2
import PySem.Challenge.RW_postriders_k21_whole_shelf_cuts_judged
import HandS.List
import HandS.Comp
import HandS.Dict
import HandS.Iter
import HandS.Zip
import HandS.IsInst
import HandS.Ends
import HandS.WordsExc
import HandS.Defaults
import HandS.Lambda
import HandS.TupAny
import HandS.TupMul
import HandS.Conv
import HandS.NoneIn
import PyProof.Rows.RuleB_pow
import HandS.TryOnly
import HandS.MakeKwOnly
import PyProof.ReprRoads
import PyProof.CallFns
import PyProof.StrLawsRepr
import PyProof.FitsInt
import PyProof.DictList
import PyProof.Rows.RegStrFacts
import HandS.EndTab
import HandS.Style
import HandS.SortInts
import HandS.ListItems
import KE.KRevSl
import KE.SortData
import KE.GoesEnum
import HandS.DictComp
import HandS.Star
import KE.KDictSum
import HandS.Text
/-! DL, part 0: the defs that make lambdas (each law has its own list). -/
namespace DL
open PySem
def lamDefs : List Str := ["law"]
/-- their tables of code objects, the lambdas' names -/
def tabK (K : PySem.W.Frag) : List (Addr × Str) := lamDefs.map fun d => (He.tabOf K (He.codeOf K (d, none)), d ++ ".<locals>." ++ "<lambda>")
end DL

set_option Elab.async false
set_option linter.all false
set_option maxRecDepth 100000
set_option maxHeartbeats 4000000
/-! DL, part hk: what the head is asked. -/
namespace DL
open PySem PySem.Spec PyProof.Rows L2

/-- the class object at C, as an own exception class beneath ValueError has it -/
def isExcO (C : Addr) : Obj → Bool
  | ⟨ty, _, .cls c, sl⟩ => decide (ty = .type "type") && (c.hasDict && (!c.hasDel &&
      ((match sl.toList with
        | [_, _, _, _, some (.builtin n), _] => decide (n = "ValueError.__new__")
        | _ => false) &&
       (match c.mro with
        | .ref D :: r => decide (D = C) && PySem.HandSPX.refsVE r
        | _ => false))))
  | _ => false
theorem isExcO_ok {C : Addr} {o : Obj} (h : isExcO C o = true) : ∃ nm q N bs bm sn sub ab col dd k0 k1 k2 k3 k5, o = excClassObj nm q C N bs bm true sn sub ab col dd k0 k1 k2 k3 k5 "ValueError.__new__" ∧ PySem.HandSPX.refsVE bm = true := by
  obtain ⟨ty, dd, dt, sl⟩ := o
  cases dt with
  | cls c =>
    obtain ⟨nm, bs, mro, ns, qn, hd, sn, sub, ab, col, del⟩ := c
    obtain ⟨h1, r1⟩ := He.ba h
    obtain ⟨h2, r2⟩ := He.ba r1
    obtain ⟨h3, r3⟩ := He.ba r2
    obtain ⟨h4, h5⟩ := He.ba r3
    clear r1 r2 r3 h
    have e1 := of_decide_eq_true h1
    have e2 : hd = true := h2
    have e3 : del = false := by
      have h3 : (!del) = true := h3
      cases del with
      | false => rfl
      | true => cases h3
    subst e1 e2 e3
    obtain ⟨sl⟩ := sl
    dsimp only at h4 h5
    split at h4
    · rename_i k0 k1 k2 k3 n k5
      have en := of_decide_eq_true h4
      subst en
      split at h5
      · rename_i D r
        obtain ⟨h6, h7⟩ := He.ba h5
        have eD := of_decide_eq_true h6
        subst eD
        exact ⟨_, _, _, _, _, _, _, _, _, _, _, _, _, _, _, rfl, h7⟩
      · cases h5
    · cases h4
  | _ => cases h
/-- an own exception class of one field, as the written part tells it -/
def excB (x fld : Str) (K : PySem.W.Frag) : Bool :=
  let C := He.ga K x
  (match K.lookup C with
   | some o => isExcO C o
   | none => false) &&
  ((He.Fa.meth x "__init__").ok K && ((He.Fa.noat x fld).ok K && ((He.Fa.exm x x true).ok K && (L2.xfB K C && (He.eqO (PySem.W.findIn K (.ref C) "__setattr__") (some (some (.builtin "object.__setattr__"))) &&
    (decide (PySem.W.typeIn K (.ref C) = some (.type "type")) && (PySem.W.keepIn K (.ref C) && decide (PySem.W.typeIn K (.ref (He.ma K C "__init__")) = some (.type "function")))))))))
/-! ### the hook -/
/-- what the head looks at: all that the top's names reach in n steps, and sys.modules -/
def lookK (n : Nat) (g : Addr → Option Obj) : PySem.W.Frag := He.frT g (sysModules :: He.asD g n)
abbrev SeenT : Type := He.AlD × Bool
def seeH (n : Nat) (fa : List He.Fa) (fn : List He.DefD) (tf : List He.Defn) (ex : PySem.W.Frag → Bool) (g : Addr → Option Obj) : SeenT :=
  (He.obsD fa fn (lookK n g), ((lookK n g).lookup sysModules).isSome && ex (lookK n g) && He.tabsB g tf (lookK n g))
structure Told (fa : List He.Fa) (fn : List He.DefD) (tf : List He.Defn) (ex : PySem.W.Frag → Bool) (h : Heap) (K : PySem.W.Frag) : Prop where
  d : He.SaysD fa fn K
  sm : ∃ o, K.lookup sysModules = some o
  ex : ex K = true
  cd : ∀ p ∈ tf, PySem.W.codeHdIn K (He.cT K p).1 (He.cT K p).2 = true
  no : ∀ p ∈ tf, K.lookup (He.cT K p).2 = none
  em : ∀ p ∈ tf, h.get? (He.cT K p).2 = some { cls := .none, data := .fields #[] }
theorem told_of {n : Nat} {fa : List He.Fa} {fn : List He.DefD} {tf : List He.Defn} {ex : PySem.W.Frag → Bool} {h : Heap} (e : seeH n fa fn tf ex h.get? = (He.valD fn, true)) : Told fa fn tf ex h (lookK n h.get?) := by
  have e1 : He.obsD fa fn (lookK n h.get?) = He.valD fn := congrArg Prod.fst e
  obtain ⟨h12, h3⟩ := He.ba (congrArg Prod.snd e)
  obtain ⟨h1, h2⟩ := He.ba h12
  have tb : ∀ p ∈ tf, PySem.W.codeHdIn (lookK n h.get?) (He.cT (lookK n h.get?) p).1 (He.cT (lookK n h.get?) p).2 = true ∧ ∃ o, h.get? (He.cT (lookK n h.get?) p).2 = some o ∧ He.emptyTab o = true := fun p hp => by
    obtain ⟨a1, a2⟩ := He.ba (List.all_eq_true.mp h3 p hp)
    refine ⟨a1, ?_⟩
    revert a2
    cases h.get? (He.cT (lookK n h.get?) p).2 with
    | none => exact fun z => nomatch z
    | some o => exact fun z => ⟨o, rfl, z⟩
  exact ⟨e1, Option.isSome_iff_exists.mp h1, h2, fun p hp => (tb p hp).1, fun p hp => (let ⟨_, o, q, z⟩ := tb p hp; He.frT_none q z), fun p hp => by
    obtain ⟨_, o, q, z⟩ := tb p hp
    exact q.trans (congrArg some (He.emptyTab_eq z))⟩
def hookH (n : Nat) (fa : List He.Fa) (fn : List He.DefD) (tf : List He.Defn) (ex : PySem.W.Frag → Bool) : PySem.W.Hook where
  α := SeenT
  obs := fun s => seeH n fa fn tf ex s.heap.get?
  val := fun _ => (He.valD fn, true)
  says := fun _ h => ∃ K : PySem.W.Frag, K.In h ∧ Told fa fn tf ex h K
  of := fun _ _ e => ⟨_, He.frT_in, told_of e⟩
  keeps := fun _ _ _ ⟨K, i, t⟩ k => ⟨K, PySem.W.Frag.In.keeps i k, ⟨t.d, t.sm, t.ex, t.cd, t.no, fun p hp => k _ _ (t.em p hp)⟩⟩
theorem seeH_eq {n : Nat} {fa : List He.Fa} {fn : List He.DefD} {tf : List He.Defn} {ex : PySem.W.Frag → Bool} {g : Addr → Option Obj} {s : Shared} (h : ∀ a, g a = s.heap.get? a) : seeH n fa fn tf ex g = (hookH n fa fn tf ex).obs s := congrArg (seeH n fa fn tf ex) (funext h)

def insB (K : PySem.W.Frag) (x : Str) : Bool := (He.Fa.cls x).ok K && (He.eqO (PySem.W.findIn K (.ref (He.ga K x)) "__class__") (some (some (.builtin "object.__class__"))) && (He.eqO (PySem.W.specialIn K (.builtin "object.__class__") "__get__") (some (some (.builtin "getset_descriptor.__get__"))) &&
  (decide (PySem.W.takesIn K (.builtin "object.__class__") = some true) && (decide (PySem.W.mroIn K (He.ga K x) (.type "object") = some true) && decide (PySem.W.kitOne K (.ref (He.ga K x)) (.ref (He.ga K x)) = some true)))))
theorem insB_ok {K : PySem.W.Frag} {x : Str} (h : insB K x = true) : C8.InsC K (He.ga K x) := by
  obtain ⟨h1, h⟩ := He.ba h
  obtain ⟨h2, h⟩ := He.ba h
  obtain ⟨h3, h⟩ := He.ba h
  obtain ⟨h4, h⟩ := He.ba h
  obtain ⟨h5, h6⟩ := He.ba h
  exact ⟨He.cls_ok h1, He.eqO_ok h2, He.eqO_ok h3, of_decide_eq_true h4, of_decide_eq_true h5, of_decide_eq_true h6⟩
def clB (K : PySem.W.Frag) (x : Str) (fs : List Str) : Bool := insB K x && fs.all fun f => (He.Fa.noat x f).ok K
def bmB (K : PySem.W.Frag) (x m : Str) : Bool := (He.Fa.meth x m).ok K && (He.eqO (PySem.W.specialIn K (.ref (He.ma K (He.ga K x) m)) "__get__") (some (some (.builtin "function.__get__"))) && (decide (PySem.W.takesIn K (.ref (He.ma K (He.ga K x) m)) = some false) && PySem.W.fnIn K (He.ma K (He.ga K x) m)))
theorem bmB_ok {K : PySem.W.Frag} {x m : Str} (h : bmB K x m = true) (hc : PySem.W.copiedNames.contains m = false) : BMeth K (He.ga K x) m (He.ma K (He.ga K x) m) := by
  obtain ⟨h1, h⟩ := He.ba h
  obtain ⟨h2, h⟩ := He.ba h
  obtain ⟨h3, h4⟩ := He.ba h
  exact ⟨He.meth_ok h1, He.eqO_ok h2, of_decide_eq_true h3, hc, h4⟩
end DL

set_option Elab.async false
set_option linter.all false
set_option maxRecDepth 100000
set_option maxHeartbeats 0
namespace My
open PySem PySem.Spec PyProof.Rows L2 DL
def top (i : Nat) : Stmt := PySem.Challenge.pw_postriders_k21_whole_shelf_cuts_judged.main.body.getD i (.Pass ⟨0, 0, 0, 0⟩)
abbrev s__wall : Stmt := top 0
abbrev s_is_list : Stmt := top 3
abbrev s_is_whole : Stmt := top 4
abbrev s_is_number : Stmt := top 5
abbrev s_is_row : Stmt := top 6
abbrev s_is_name : Stmt := top 7
abbrev s_first_bad : Stmt := top 8
abbrev s_greatest_of : Stmt := top 9
abbrev s_first_bad_road : Stmt := top 19
abbrev s_is_post : Stmt := top 21
abbrev s_check_plan : Stmt := top 22
abbrev s_check_many : Stmt := top 23
abbrev s_is_end : Stmt := top 28
abbrev s_check_end : Stmt := top 29
abbrev s_riders_of : Stmt := top 30
abbrev s_written : Stmt := top 32
abbrev s_away_of : Stmt := top 33
abbrev s_between_of : Stmt := top 34
abbrev s_rooms_of : Stmt := top 35
abbrev s_room_but : Stmt := top 36
abbrev s_is_cut_for : Stmt := top 37
abbrev s_more_than : Stmt := top 38
abbrev s_is_shelf_cut : Stmt := top 39
abbrev s_check_size : Stmt := top 40
abbrev s_shelf_cut_fault : Stmt := top 41
abbrev s__law_stream : Stmt := top 43
abbrev s__law_draw : Stmt := top 44
abbrev s__law_pick : Stmt := top 45
abbrev s__law_mixed : Stmt := top 46
abbrev s__law_same : Stmt := top 47
abbrev s__law_loose : Stmt := top 48
abbrev s__law_names : Stmt := top 49
abbrev s__law_ride : Stmt := top 50
abbrev s__law_room : Stmt := top 51
abbrev s__law_tree : Stmt := top 52
abbrev s__law_plan : Stmt := top 53
abbrev s__law_turned : Stmt := top 54
abbrev s__law_made_of : Stmt := top 55
abbrev s__law_ends : Stmt := top 56
abbrev s__law_endful : Stmt := top 57
abbrev s__law_mine : Stmt := top 58
abbrev s__law_is_whole : Stmt := top 59
abbrev s__law_away : Stmt := top 60
abbrev s__law_between : Stmt := top 61
abbrev s__law_written : Stmt := top 62
abbrev s__law_is_shelf_cut : Stmt := top 63
abbrev s__law_more : Stmt := top 64
abbrev s__law_steady : Stmt := top 65
abbrev s__law_scene : Stmt := top 66
abbrev s__law_things : Stmt := top 67
abbrev s__law_cuts_right : Stmt := top 68
abbrev s_law : Stmt := top 69
abbrev s_BadOffice___init__ : Stmt := inClass (top 12) 0
abbrev s_BadRoads___init__ : Stmt := inClass (top 13) 0
abbrev s_BadRiders___init__ : Stmt := inClass (top 14) 0
abbrev s_BadLetters___init__ : Stmt := inClass (top 15) 0
abbrev s_BadPlan___init__ : Stmt := inClass (top 16) 0
abbrev s_BadMany___init__ : Stmt := inClass (top 17) 0
abbrev s_Plan___init__ : Stmt := inClass (top 20) 0
abbrev s_Plan_is_rider : Stmt := inClass (top 20) 1
abbrev s_Plan_is_letter : Stmt := inClass (top 20) 2
abbrev s_Plan_office : Stmt := inClass (top 20) 3
abbrev s_Plan_posts : Stmt := inClass (top 20) 4
abbrev s_Plan_next_of : Stmt := inClass (top 20) 5
abbrev s_Plan_hours_of : Stmt := inClass (top 20) 6
abbrev s_Plan_riders : Stmt := inClass (top 20) 7
abbrev s_Plan_letters : Stmt := inClass (top 20) 8
abbrev s_Plan___eq__ : Stmt := inClass (top 20) 9
abbrev s_NoEnd___init__ : Stmt := inClass (top 25) 0
abbrev s_BadSize___init__ : Stmt := inClass (top 26) 0
def d0 : He.DefD := ⟨("is_list", none), "is_list", "is_list", defArgs s_is_list, defBody s_is_list, defScope s_is_list, [], []⟩
def d1 : He.DefD := ⟨("is_whole", none), "is_whole", "is_whole", defArgs s_is_whole, defBody s_is_whole, defScope s_is_whole, [], []⟩
def d2 : He.DefD := ⟨("is_number", none), "is_number", "is_number", defArgs s_is_number, defBody s_is_number, defScope s_is_number, [], []⟩
def d3 : He.DefD := ⟨("is_row", none), "is_row", "is_row", defArgs s_is_row, defBody s_is_row, defScope s_is_row, [], []⟩
def d4 : He.DefD := ⟨("is_name", none), "is_name", "is_name", defArgs s_is_name, defBody s_is_name, defScope s_is_name, [], []⟩
def d5 : He.DefD := ⟨("first_bad", none), "first_bad", "first_bad", defArgs s_first_bad, defBody s_first_bad, defScope s_first_bad, [], []⟩
def d6 : He.DefD := ⟨("greatest_of", none), "greatest_of", "greatest_of", defArgs s_greatest_of, defBody s_greatest_of, defScope s_greatest_of, [], []⟩
def d7 : He.DefD := ⟨("first_bad_road", none), "first_bad_road", "first_bad_road", defArgs s_first_bad_road, defBody s_first_bad_road, defScope s_first_bad_road, [], []⟩
def d8 : He.DefD := ⟨("is_post", none), "is_post", "is_post", defArgs s_is_post, defBody s_is_post, defScope s_is_post, [], []⟩
def d9 : He.DefD := ⟨("check_plan", none), "check_plan", "check_plan", defArgs s_check_plan, defBody s_check_plan, defScope s_check_plan, [], []⟩
def d10 : He.DefD := ⟨("check_many", none), "check_many", "check_many", defArgs s_check_many, defBody s_check_many, defScope s_check_many, [], []⟩
def d11 : He.DefD := ⟨("is_end", none), "is_end", "is_end", defArgs s_is_end, defBody s_is_end, defScope s_is_end, [], []⟩
def d12 : He.DefD := ⟨("check_end", none), "check_end", "check_end", defArgs s_check_end, defBody s_check_end, defScope s_check_end, [], []⟩
def d13 : He.DefD := ⟨("riders_of", none), "riders_of", "riders_of", defArgs s_riders_of, defBody s_riders_of, defScope s_riders_of, [], []⟩
def d14 : He.DefD := ⟨("written", none), "written", "written", defArgs s_written, defBody s_written, defScope s_written, [], []⟩
def d15 : He.DefD := ⟨("away_of", none), "away_of", "away_of", defArgs s_away_of, defBody s_away_of, defScope s_away_of, [], []⟩
def d16 : He.DefD := ⟨("between_of", none), "between_of", "between_of", defArgs s_between_of, defBody s_between_of, defScope s_between_of, [], []⟩
def d17 : He.DefD := ⟨("rooms_of", none), "rooms_of", "rooms_of", defArgs s_rooms_of, defBody s_rooms_of, defScope s_rooms_of, [], []⟩
def d18 : He.DefD := ⟨("room_but", none), "room_but", "room_but", defArgs s_room_but, defBody s_room_but, defScope s_room_but, [], []⟩
def d19 : He.DefD := ⟨("is_cut_for", none), "is_cut_for", "is_cut_for", defArgs s_is_cut_for, defBody s_is_cut_for, defScope s_is_cut_for, [], []⟩
def d20 : He.DefD := ⟨("more_than", none), "more_than", "more_than", defArgs s_more_than, defBody s_more_than, defScope s_more_than, [], []⟩
def d21 : He.DefD := ⟨("is_shelf_cut", none), "is_shelf_cut", "is_shelf_cut", defArgs s_is_shelf_cut, defBody s_is_shelf_cut, defScope s_is_shelf_cut, [], []⟩
def d22 : He.DefD := ⟨("check_size", none), "check_size", "check_size", defArgs s_check_size, defBody s_check_size, defScope s_check_size, [], []⟩
def d23 : He.DefD := ⟨("shelf_cut_fault", none), "shelf_cut_fault", "shelf_cut_fault", defArgs s_shelf_cut_fault, defBody s_shelf_cut_fault, defScope s_shelf_cut_fault, [], []⟩
def d24 : He.DefD := ⟨("_law_stream", none), "_law_stream", "_law_stream", defArgs s__law_stream, defBody s__law_stream, defScope s__law_stream, [], []⟩
def d25 : He.DefD := ⟨("_law_draw", none), "_law_draw", "_law_draw", defArgs s__law_draw, defBody s__law_draw, defScope s__law_draw, [], []⟩
def d26 : He.DefD := ⟨("_law_pick", none), "_law_pick", "_law_pick", defArgs s__law_pick, defBody s__law_pick, defScope s__law_pick, [], []⟩
def d27 : He.DefD := ⟨("_law_mixed", none), "_law_mixed", "_law_mixed", defArgs s__law_mixed, defBody s__law_mixed, defScope s__law_mixed, [], []⟩
def d28 : He.DefD := ⟨("_law_same", none), "_law_same", "_law_same", defArgs s__law_same, defBody s__law_same, defScope s__law_same, [], []⟩
def d29 : He.DefD := ⟨("_law_loose", none), "_law_loose", "_law_loose", defArgs s__law_loose, defBody s__law_loose, defScope s__law_loose, [], []⟩
def d30 : He.DefD := ⟨("_law_names", none), "_law_names", "_law_names", defArgs s__law_names, defBody s__law_names, defScope s__law_names, [], []⟩
def d31 : He.DefD := ⟨("_law_ride", none), "_law_ride", "_law_ride", defArgs s__law_ride, defBody s__law_ride, defScope s__law_ride, [], []⟩
def d32 : He.DefD := ⟨("_law_room", none), "_law_room", "_law_room", defArgs s__law_room, defBody s__law_room, defScope s__law_room, [], []⟩
def d33 : He.DefD := ⟨("_law_tree", none), "_law_tree", "_law_tree", defArgs s__law_tree, defBody s__law_tree, defScope s__law_tree, [], []⟩
def d34 : He.DefD := ⟨("_law_plan", none), "_law_plan", "_law_plan", defArgs s__law_plan, defBody s__law_plan, defScope s__law_plan, [], []⟩
def d35 : He.DefD := ⟨("_law_turned", none), "_law_turned", "_law_turned", defArgs s__law_turned, defBody s__law_turned, defScope s__law_turned, [], []⟩
def d36 : He.DefD := ⟨("_law_made_of", none), "_law_made_of", "_law_made_of", defArgs s__law_made_of, defBody s__law_made_of, defScope s__law_made_of, [], []⟩
def d37 : He.DefD := ⟨("_law_ends", none), "_law_ends", "_law_ends", defArgs s__law_ends, defBody s__law_ends, defScope s__law_ends, [], []⟩
def d38 : He.DefD := ⟨("_law_endful", none), "_law_endful", "_law_endful", defArgs s__law_endful, defBody s__law_endful, defScope s__law_endful, [], []⟩
def d39 : He.DefD := ⟨("_law_mine", none), "_law_mine", "_law_mine", defArgs s__law_mine, defBody s__law_mine, defScope s__law_mine, [], []⟩
def d40 : He.DefD := ⟨("_law_is_whole", none), "_law_is_whole", "_law_is_whole", defArgs s__law_is_whole, defBody s__law_is_whole, defScope s__law_is_whole, [], []⟩
def d41 : He.DefD := ⟨("_law_away", none), "_law_away", "_law_away", defArgs s__law_away, defBody s__law_away, defScope s__law_away, [], []⟩
def d42 : He.DefD := ⟨("_law_between", none), "_law_between", "_law_between", defArgs s__law_between, defBody s__law_between, defScope s__law_between, [], []⟩
def d43 : He.DefD := ⟨("_law_written", none), "_law_written", "_law_written", defArgs s__law_written, defBody s__law_written, defScope s__law_written, [], []⟩
def d44 : He.DefD := ⟨("_law_is_shelf_cut", none), "_law_is_shelf_cut", "_law_is_shelf_cut", defArgs s__law_is_shelf_cut, defBody s__law_is_shelf_cut, defScope s__law_is_shelf_cut, [], []⟩
def d45 : He.DefD := ⟨("_law_more", none), "_law_more", "_law_more", defArgs s__law_more, defBody s__law_more, defScope s__law_more, [], []⟩
def d46 : He.DefD := ⟨("_law_steady", none), "_law_steady", "_law_steady", defArgs s__law_steady, defBody s__law_steady, defScope s__law_steady, [], []⟩
def d47 : He.DefD := ⟨("_law_scene", none), "_law_scene", "_law_scene", defArgs s__law_scene, defBody s__law_scene, defScope s__law_scene, [], []⟩
def d48 : He.DefD := ⟨("_law_things", none), "_law_things", "_law_things", defArgs s__law_things, defBody s__law_things, defScope s__law_things, [], []⟩
def d49 : He.DefD := ⟨("_law_cuts_right", none), "_law_cuts_right", "_law_cuts_right", defArgs s__law_cuts_right, defBody s__law_cuts_right, defScope s__law_cuts_right, [], []⟩
def d50 : He.DefD := ⟨("law", none), "law", "law", defArgs s_law, defBody s_law, defScope s_law, [], []⟩
def d51 : He.DefD := ⟨("Plan", some "__init__"), "__init__", "Plan.__init__", defArgs s_Plan___init__, defBody s_Plan___init__, defScope s_Plan___init__, [], []⟩
def d52 : He.DefD := ⟨("Plan", some "is_rider"), "is_rider", "Plan.is_rider", defArgs s_Plan_is_rider, defBody s_Plan_is_rider, defScope s_Plan_is_rider, [], []⟩
def d53 : He.DefD := ⟨("Plan", some "is_letter"), "is_letter", "Plan.is_letter", defArgs s_Plan_is_letter, defBody s_Plan_is_letter, defScope s_Plan_is_letter, [], []⟩
def fn : List He.DefD := [d0, d1, d2, d3, d4, d5, d6, d7, d8, d9, d10, d11, d12, d13, d14, d15, d16, d17, d18, d19, d20, d21, d22, d23, d24, d25, d26, d27, d28, d29, d30, d31, d32, d33, d34, d35, d36, d37, d38, d39, d40, d41, d42, d43, d44, d45, d46, d47, d48, d49, d50, d51, d52, d53]
def fa : List He.Fa := [.glo "is_list", .glo "is_whole", .glo "is_number", .glo "is_row", .glo "is_name", .glo "first_bad", .glo "greatest_of", .glo "first_bad_road", .glo "is_post", .glo "check_plan", .glo "check_many", .glo "is_end", .glo "check_end", .glo "riders_of", .glo "written", .glo "away_of", .glo "between_of", .glo "rooms_of", .glo "room_but", .glo "is_cut_for", .glo "more_than", .glo "is_shelf_cut", .glo "check_size", .glo "shelf_cut_fault", .glo "_law_stream", .glo "_law_draw", .glo "_law_pick", .glo "_law_mixed", .glo "_law_same", .glo "_law_loose", .glo "_law_names", .glo "_law_ride", .glo "_law_room", .glo "_law_tree", .glo "_law_plan", .glo "_law_turned", .glo "_law_made_of", .glo "_law_ends", .glo "_law_endful", .glo "_law_mine", .glo "_law_is_whole", .glo "_law_away", .glo "_law_between", .glo "_law_written", .glo "_law_is_shelf_cut", .glo "_law_more", .glo "_law_steady", .glo "_law_scene", .glo "_law_things", .glo "_law_cuts_right", .glo "law", .free "ValueError", .free "abs", .free "all", .free "bool", .free "dict", .free "enumerate", .free "int", .free "isinstance", .free "len", .free "list", .free "max", .free "range", .free "repr", .free "sorted", .free "str", .free "sum", .free "tuple", .free "zip", .glo "Plan", .mkr "Plan", .str "LETTERS" "abcdefghijklmnopqrstuvwxyz"]
def names0 : List PySem.Str := ["_wall", "LETTERS", "is_list", "is_whole", "is_number", "is_row", "is_name", "first_bad", "greatest_of", "PostError", "BadOffice", "BadRoads", "BadRiders", "BadLetters", "BadPlan", "BadMany", "first_bad_road", "Plan", "is_post", "check_plan", "check_many", "NoEnd", "BadSize", "is_end", "check_end", "riders_of", "written", "away_of", "between_of", "rooms_of"]
def names1 : List PySem.Str := ["room_but", "is_cut_for", "more_than", "is_shelf_cut", "check_size", "shelf_cut_fault", "_law_stream", "_law_draw", "_law_pick", "_law_mixed", "_law_same", "_law_loose", "_law_names", "_law_ride", "_law_room", "_law_tree", "_law_plan", "_law_turned", "_law_made_of", "_law_ends", "_law_endful", "_law_mine", "_law_is_whole", "_law_away", "_law_between", "_law_written", "_law_is_shelf_cut", "_law_more", "_law_steady", "_law_scene"]
def names2 : List PySem.Str := ["_law_things", "_law_cuts_right"]
def names : List PySem.Str := names0 ++ names1 ++ names2
def tf : List He.Defn := lamDefs.map fun d => (d, none)
def ex (K : PySem.W.Frag) : Bool := clB K "Plan" ["own_office", "own_roads", "own_riders", "own_letters", "own_behind"] && bmB K "Plan" "is_rider" && bmB K "Plan" "is_letter"
abbrev R : PySem.W.OpenRow := PySem.W.OpenLaw.row PySem.Challenge.rw_postriders_k21_whole_shelf_cuts_judged
abbrev hk : PySem.W.Hook := hookH 4 fa fn tf ex
def ob (s : PySem.W.SharedT) : SeenT := seeH 4 fa fn tf ex (HandSHeadRun.getT s)
theorem ob_eq (s : PySem.W.SharedT) : ob s = hk.obs s.abs := seeH_eq (HandSHeadRun.getT_eq s)
theorem run (w : World) : HandSHeadRun.RunEq R (PySem.W.view R.prog [69]) hk ob 20000 names w := by
  intro os
  kernel_rfl
end My

set_option Elab.async false
set_option linter.all false
set_option maxRecDepth 100000
set_option maxHeartbeats 4000000
/-! DL, part a: deep data by value over the hand layer: data, what a value stands for, extension of the heap. -/
namespace DL
/-- more draws than this are never made -/
@[irreducible] def LIM : Nat := 2 ^ 100000
open PySem PySem.Spec PyProof.Rows L2

inductive D where
  | non | bl (b : Bool) | int (i : Int) | str (x : Str)
  | lst (xs : List D) | tup (xs : List D) | dct (kvs : List (D × D)) | strm | vee (v : V) | obj (c : Nat) (fs : List D) | bm (g : Addr) (d : D)
/-- own classes whose instances are told by value: where the class stands, its attributes' names; a code of 16 on tells the address, too -/
def objCr (K : PySem.W.Frag) : Nat → Addr
  | 6 => He.ga K "Desk"
  | _ => He.ga K "Plan"
def objNr : Nat → List Str
  | 0 => ["own_office", "own_roads", "own_riders", "own_letters", "own_behind"]
  | 2 => ["own_office"]
  | 3 => ["own_office", "own_roads"]
  | 4 => ["own_office", "own_roads", "own_riders"]
  | 5 => ["own_office", "own_roads", "own_riders", "own_letters"]
  | _ => []
def objC (K : PySem.W.Frag) (k : Nat) : Addr := objCr K (k % 16)
def objN (k : Nat) : List Str := objNr (k % 16)
/-- a code that tells where the instance stands -/
def Pin (k : Nat) (a : Addr) : Prop := 16 ≤ k → k / 16 = a + 1
def pk (a : Addr) (j : Nat) : Nat := 16 * (a + 1) + j
theorem pk_mod {a : Addr} {j : Nat} (h : j < 16) : pk a j % 16 = j := by unfold pk; omega
theorem pin_aux (a b j : Nat) (h : j < 16) (q : (16 * (a + 1) + j) / 16 = b + 1) : a = b := by
  have h1 : 16 * (a + 1) + j < 16 * (b + 1) + 16 := by omega
  have h2 : 16 * (b + 1) ≤ 16 * (a + 1) + j := by omega
  rcases Nat.lt_trichotomy a b with h | h | h
  · omega
  · exact h
  · omega
theorem pin_pk {a b : Addr} {j : Nat} (h : j < 16) : Pin (pk a j) b ↔ a = b := by
  unfold Pin pk
  constructor
  · intro q
    exact pin_aux a b j h (q (by omega))
  · rintro rfl _
    omega
theorem pin_lt {k : Nat} {a : Addr} (h : k < 16) : Pin k a := fun z => absurd z (by omega)
theorem objN_pk {a : Addr} {j : Nat} (h : j < 16) : objN (pk a j) = objNr j := by unfold objN; rw [pk_mod h]
theorem objC_pk {K : PySem.W.Frag} {a : Addr} {j : Nat} (h : j < 16) : objC K (pk a j) = objCr K j := by unfold objC; rw [pk_mod h]
theorem objC_plan {K : PySem.W.Frag} {k : Nat} (h : k % 16 ≤ 5) : objC K k = objC K 0 := by
  unfold objC
  generalize k % 16 = r at h
  match r, h with
  | 0, _ => rfl
  | 1, _ => rfl
  | 2, _ => rfl
  | 3, _ => rfl
  | 4, _ => rfl
  | 5, _ => rfl
  | r + 6, h => omega

/-- frozen places: never changed again by the def that runs -/
abbrev Reg := Addr → Prop
/-- the written part, the heap at the def's entry, the drawing stream (its list, its list of cells) -/
structure Fx where
  K : PySem.W.Frag
  H0 : Hp
  R0 : Reg
  st : Option (Addr × Addr)
  L : Nat
  P : Addr → Prop
def Fx.T (F : Fx) : List (Addr × Str) := tabK F.K
def Fx.mx (F : Fx) (a : Addr) : Prop := ∃ p, F.st = some p ∧ (a = p.1 ∨ a = p.2)
/-- more than any cell of a script -/
@[irreducible] def CBIT : Nat := 2 ^ 1048576
theorem cbit_eq : CBIT = 2 ^ 1048576 := by unfold CBIT; rfl
/-- the cells that are left, the great number -/
def CellsOk (xs : List Int) (c : Int) : Prop := xs.length ≤ 1000 ∧ (∀ x ∈ xs, x.natAbs < CBIT) ∧ c.natAbs < CBIT
/-- the stream's state, at most B draws so far -/
def StrmOk (H : Hp) (p : Addr × Addr) (B : Nat) : Prop := p.1 ≠ p.2 ∧ ∃ (xs : List Int) (c n s : Int), H p.1 = some (.lst [.ref p.2, .int c, .int n, .int s]) ∧ H p.2 = some (.lst (xs.map V.int)) ∧
  0 ≤ c ∧ 0 ≤ n ∧ n ≤ (B : Int) ∧ 0 ≤ s ∧ s < 2147483629 ∧ CellsOk xs c
theorem StrmOk.mono {H : Hp} {p : Addr × Addr} {B B' : Nat} (h : StrmOk H p B) (l : B ≤ B') : StrmOk H p B' := by
  obtain ⟨a, xs, c, n, s, h1, h2, h3, h4, h5, h6, h7⟩ := h
  exact ⟨a, xs, c, n, s, h1, h2, h3, h4, by omega, h6, h7⟩
def Fx.inv (F : Fx) (B : Nat) (H : Hp) : Prop := ∀ p, F.st = some p → StrmOk H p B
theorem Fx.inv.mono {F : Fx} {B B' : Nat} {H : Hp} (h : F.inv B H) (l : B ≤ B') : F.inv B' H := fun p e => (h p e).mono l
/-- not a table of code objects -/
def NoTbl (o : HO) : Prop := ∀ ps, o ≠ .tbl ps
/-- nothing there but, at most, a table of code objects -/
def Nn (H : Hp) (a : Addr) : Prop := ∀ o, H a = some o → ¬ NoTbl o
theorem Nn.of {H : Hp} {a : Addr} (h : H a = none) : Nn H a := fun o e => by rw [h] at e; cases e
theorem NoTbl.lst {xs : List V} : NoTbl (.lst xs) := fun _ z => nomatch z
theorem NoTbl.tup {xs : List V} : NoTbl (.tup xs) := fun _ z => nomatch z
theorem NoTbl.dK {xs : List (Key × V)} : NoTbl (.dK xs) := fun _ z => nomatch z
theorem NoTbl.dT {xs : List (List Key × V)} : NoTbl (.dT xs) := fun _ z => nomatch z
theorem NoTbl.ins {C dx : Addr} {fs : List (Str × V)} : NoTbl (.ins C dx fs) := fun _ z => nomatch z
theorem NoTbl.met {g a : Addr} : NoTbl (.met g a) := fun _ z => nomatch z
theorem NoTbl.frz {o : Obj} {u : HO} : NoTbl (.frz o u) := fun _ z => nomatch z

theorem mx_lst {F : Fx} {B : Nat} {H : Hp} (I : F.inv B H) {a : Addr} (m : F.mx a) : ∃ xs, H a = some (.lst xs) := by
  obtain ⟨p, e, m⟩ := m
  obtain ⟨_, xs, c, n, s, h1, h2, _⟩ := I p e
  rcases m with m | m <;> subst m
  · exact ⟨_, h1⟩
  · exact ⟨_, h2⟩

structure HpOk (F : Fx) (B : Nat) (R : Reg) (H : Hp) : Prop where
  inv : F.inv B H
  good : ∀ a, R a → ¬ F.mx a ∧ ∃ o, H a = some o ∧ NoTbl o
  ent : ∀ a o, ¬ F.mx a → F.H0 a = some o → NoTbl o → H a = some o
  ent2 : ∀ a, Nn H a → Nn F.H0 a
  reg0 : ∀ a, R a → F.R0 a ∨ Nn F.H0 a
  tab : LamX.Tabs F.T H
  lim : F.L ≤ LIM
  pn : ∀ a, Nn H a → F.P a

structure Ext (F : Fx) (R : Reg) (H : Hp) (R' : Reg) (H' : Hp) : Prop where
  reg : ∀ a, R a → R' a
  keep : ∀ a o, ¬ F.mx a → H a = some o → NoTbl o → H' a = some o
  new : ∀ a, R' a → R a ∨ Nn H a
  there : ∀ a, Nn H' a → Nn H a
theorem Ext.refl {F : Fx} {R : Reg} {H : Hp} : Ext F R H R H := ⟨fun _ h => h, fun _ _ _ h _ => h, fun _ h => .inl h, fun _ h => h⟩
theorem Ext.trans {F : Fx} {R R1 R2 : Reg} {H H1 H2 : Hp} (a : Ext F R H R1 H1) (b : Ext F R1 H1 R2 H2) : Ext F R H R2 H2 :=
  ⟨fun x h => b.reg x (a.reg x h), fun x o m h n => b.keep x o m (a.keep x o m h n) n, fun x h => (b.new x h).elim (a.new x) fun z => .inr (a.there x z), fun x h => a.there x (b.there x h)⟩

/-! ### what a value stands for -/
mutual
inductive RpD (F : Fx) (H : Hp) (R : Reg) : Bool → V → D → Prop
  | non {n : Bool} : RpD F H R n .non .non
  | bl {n : Bool} (b : Bool) : RpD F H R n (.bl b) (.bl b)
  | int {n : Bool} (i : Int) : RpD F H R n (.int i) (.int i)
  | str {n : Bool} (x : Str) : RpD F H R n (.str x) (.str x)
  | lst {n : Bool} {a : Addr} {vs : List V} {ds : List D} : H a = some (.lst vs) → R a → (n = true → F.P a) → RpL F H R n vs ds → RpD F H R n (.ref a) (.lst ds)
  | tup {n : Bool} {a : Addr} {vs : List V} {ds : List D} : SqT F.K H a vs → RpL F H R n vs ds → RpD F H R n (.ref a) (.tup ds)
  | dK {n : Bool} {a : Addr} {kvs : List (Key × V)} {ds : List (D × D)} : H a = some (.dK kvs) → R a → (n = true → F.P a) → RpK F H R n kvs ds → RpD F H R n (.ref a) (.dct ds)
  | dT {n : Bool} {a : Addr} {kvs : List (List Key × V)} {ds : List (D × D)} : H a = some (.dT kvs) → R a → (n = true → F.P a) → RpT F H R n kvs ds → RpD F H R n (.ref a) (.dct ds)
  | strm {n : Bool} {p : Addr × Addr} : F.st = some p → RpD F H R n (.ref p.1) .strm
  | vee {n : Bool} (v : V) : RpD F H R n v (.vee v)
  | obj {n : Bool} {a dx : Addr} {ns : List Str} {vs : List V} {k : Nat} {ds : List D} : H a = some (.ins (objC F.K k) dx (ns.zip vs)) → R a → (n = true → F.P a) → ns = objN k → ns.length = vs.length → RpL F H R n vs ds → RpD F H R n (.ref a) (.obj k ds)
  | bm {n : Bool} {q a g : Addr} {d : D} : H q = some (.met g a) → R q → (n = true → F.P q) → RpD F H R n (.ref a) d → RpD F H R n (.ref q) (.bm g d)
inductive RpL (F : Fx) (H : Hp) (R : Reg) : Bool → List V → List D → Prop
  | nil {n : Bool} : RpL F H R n [] []
  | cons {n : Bool} {v : V} {vs : List V} {d : D} {ds : List D} : RpD F H R n v d → RpL F H R n vs ds → RpL F H R n (v :: vs) (d :: ds)
inductive RpK (F : Fx) (H : Hp) (R : Reg) : Bool → List (Key × V) → List (D × D) → Prop
  | nil {n : Bool} : RpK F H R n [] []
  | consI {n : Bool} {i : Int} {v : V} {vs : List (Key × V)} {d : D} {ds : List (D × D)} : RpD F H R n v d → RpK F H R n vs ds → RpK F H R n ((.inl i, v) :: vs) ((.int i, d) :: ds)
  | consS {n : Bool} {x : Str} {v : V} {vs : List (Key × V)} {d : D} {ds : List (D × D)} : RpD F H R n v d → RpK F H R n vs ds → RpK F H R n ((.inr x, v) :: vs) ((.str x, d) :: ds)
inductive RpT (F : Fx) (H : Hp) (R : Reg) : Bool → List (List Key × V) → List (D × D) → Prop
  | one {n : Bool} {k : List Key} {v : V} {ks : List D} {d : D} : RpL F H R true (k.map kV) ks → RpD F H R n v d → RpT F H R n [(k, v)] [(.tup ks, d)]
  | cons {n : Bool} {k : List Key} {v : V} {vs : List (List Key × V)} {ks : List D} {d : D} {ds : List (D × D)} : RpL F H R true (k.map kV) ks → RpD F H R n v d → RpT F H R n vs ds → RpT F H R n ((k, v) :: vs) ((.tup ks, d) :: ds)
end

/-- a value: its data, whether all lists and dicts in it are new since the entry, the concrete value where it is known -/
structure Dv where
  d : D
  n : Bool := true
  v : Option V := none
def Rp (F : Fx) (H : Hp) (R : Reg) (x : Dv) (v : V) : Prop := RpD F H R x.n v x.d ∧ ∀ u, x.v = some u → u = v

/-- what a change of heap, of frozen places, of the entry must keep for a value's data -/
structure Mv (F : Fx) (R : Reg) (H : Hp) (F' : Fx) (R' : Reg) (H' : Hp) (n n' : Bool) : Prop where
  K : F'.K = F.K
  st : ∀ p, F.st = some p → F'.st = some p
  reg : ∀ a o, R a → H a = some o → NoTbl o → R' a ∧ H' a = some o
  tup : ∀ a vs, SqT F.K H a vs → SqT F.K H' a vs
  new : n' = true → ∀ a o, R a → H a = some o → NoTbl o → (n = true → F.P a) → F'.P a

mutual
theorem RpD.mv {F F' : Fx} {R R' : Reg} {H H' : Hp} : ∀ {n n' : Bool} {d : D} {v : V}, Mv F R H F' R' H' n n' → RpD F H R n v d → RpD F' H' R' n' v d
  | _, _, _, _, _, .non => .non
  | _, _, _, _, _, .bl b => .bl b
  | _, _, _, _, _, .int i => .int i
  | _, _, _, _, _, .str x => .str x
  | _, _, _, _, m, .lst h r w t => .lst (m.reg _ _ r h .lst).2 (m.reg _ _ r h .lst).1 (fun z => m.new z _ _ r h .lst w) (RpL.mv m t)
  | _, _, _, _, m, .tup h t => .tup (by rw [m.K]; exact m.tup _ _ h) (RpL.mv m t)
  | _, _, _, _, m, .dK h r w t => .dK (m.reg _ _ r h .dK).2 (m.reg _ _ r h .dK).1 (fun z => m.new z _ _ r h .dK w) (RpK.mv m t)
  | _, _, _, _, m, .dT h r w t => .dT (m.reg _ _ r h .dT).2 (m.reg _ _ r h .dT).1 (fun z => m.new z _ _ r h .dT w) (RpT.mv m t)
  | _, _, _, _, m, .strm e => .strm (m.st _ e)
  | _, _, _, _, _, .vee v => .vee v
  | _, _, _, _, m, .obj h r w c e t => .obj (by rw [m.K]; exact (m.reg _ _ r h .ins).2) (m.reg _ _ r h .ins).1 (fun z => m.new z _ _ r h .ins w) c e (RpL.mv m t)
  | _, _, _, _, m, .bm h r w t => .bm (m.reg _ _ r h .met).2 (m.reg _ _ r h .met).1 (fun z => m.new z _ _ r h .met w) (RpD.mv m t)
theorem RpL.mv {F F' : Fx} {R R' : Reg} {H H' : Hp} : ∀ {n n' : Bool} {ds : List D} {vs : List V}, Mv F R H F' R' H' n n' → RpL F H R n vs ds → RpL F' H' R' n' vs ds
  | _, _, _, _, _, .nil => .nil
  | _, _, _, _, m, .cons a b => .cons (RpD.mv m a) (RpL.mv m b)
theorem RpK.mv {F F' : Fx} {R R' : Reg} {H H' : Hp} : ∀ {n n' : Bool} {ds : List (D × D)} {vs : List (Key × V)}, Mv F R H F' R' H' n n' → RpK F H R n vs ds → RpK F' H' R' n' vs ds
  | _, _, _, _, _, .nil => .nil
  | _, _, _, _, m, .consI a b => .consI (RpD.mv m a) (RpK.mv m b)
  | _, _, _, _, m, .consS a b => .consS (RpD.mv m a) (RpK.mv m b)
theorem RpT.mv {F F' : Fx} {R R' : Reg} {H H' : Hp} : ∀ {n n' : Bool} {ds : List (D × D)} {vs : List (List Key × V)}, Mv F R H F' R' H' n n' → RpT F H R n vs ds → RpT F' H' R' n' vs ds
  | _, _, _, _, m, .one k a => .one (RpL.mv0 m k) (RpD.mv m a)
  | _, _, _, _, m, .cons k a b => .cons (RpL.mv0 m k) (RpD.mv m a) (RpT.mv m b)
/-- keys: flat -/
theorem RpL.mv0 {F F' : Fx} {R R' : Reg} {H H' : Hp} : ∀ {n n' : Bool} {k : List Key} {ks : List D}, Mv F R H F' R' H' n n' → RpL F H R true (k.map kV) ks → RpL F' H' R' true (k.map kV) ks
  | _, _, [], _, _, .nil => .nil
  | _, _, .inl i :: k, _, m, .cons a b => by
    refine .cons ?_ (RpL.mv0 m b)
    cases a with
    | int => exact .int i
    | vee => exact .vee _
  | _, _, .inr x :: k, _, m, .cons a b => by
    refine .cons ?_ (RpL.mv0 m b)
    cases a with
    | str => exact .str x
    | vee => exact .vee _
end

theorem sqT_keep {F : Fx} {B : Nat} {H H' : Hp} (I : F.inv B H) (k : ∀ a o, ¬ F.mx a → H a = some o → NoTbl o → H' a = some o) {a : Addr} {vs : List V} (h : SqT F.K H a vs) : SqT F.K H' a vs := by
  have nm : ∀ o, H a = some o → (∀ xs, o ≠ .lst xs) → ¬ F.mx a := fun o e n m => by
    obtain ⟨xs, z⟩ := mx_lst I m
    rw [e] at z
    exact n xs (Option.some.inj z)
  rcases h with (h | ⟨o, h⟩) | h
  · exact .inl (.inl (k a _ (nm _ h fun _ z => nomatch z) h .tup))
  · exact .inl (.inr ⟨o, k a _ (nm _ h fun _ z => nomatch z) h .frz⟩)
  · exact .inr h

theorem Ext.mv {F : Fx} {B : Nat} {R R' : Reg} {H H' : Hp} (I : HpOk F B R H) (e : Ext F R H R' H') {n n' : Bool} (h : n' = true → n = true) : Mv F R H F R' H' n n' :=
  ⟨rfl, fun _ z => z, fun a o r ha nt => ⟨e.reg a r, e.keep a o (I.good a r).1 ha nt⟩, fun _ _ h => sqT_keep I.inv e.keep h, fun z _ _ _ _ _ q => q (h z)⟩
theorem RpD.ext {F : Fx} {B : Nat} {R R' : Reg} {H H' : Hp} {n : Bool} {v : V} {d : D} (h : RpD F H R n v d) (I : HpOk F B R H) (e : Ext F R H R' H') : RpD F H' R' n v d := h.mv (e.mv I fun z => z)
theorem RpL.ext {F : Fx} {B : Nat} {R R' : Reg} {H H' : Hp} {n : Bool} {v : List V} {d : List D} (h : RpL F H R n v d) (I : HpOk F B R H) (e : Ext F R H R' H') : RpL F H' R' n v d := h.mv (e.mv I fun z => z)
theorem Rp.ext {F : Fx} {B : Nat} {R R' : Reg} {H H' : Hp} {x : Dv} {v : V} (h : Rp F H R x v) (I : HpOk F B R H) (e : Ext F R H R' H') : Rp F H' R' x v := ⟨h.1.ext I e, h.2⟩
theorem mv_weak {F : Fx} {R : Reg} {H : Hp} {n n' : Bool} (h : n' = true → n = true) : Mv F R H F R H n n' := ⟨rfl, fun _ z => z, fun _ _ r h _ => ⟨r, h⟩, fun _ _ h => h, fun z _ _ _ _ _ q => q (h z)⟩
theorem RpD.weak {F : Fx} {R : Reg} {H : Hp} {n n' : Bool} {v : V} {d : D} (h : RpD F H R n v d) (w : n' = true → n = true) : RpD F H R n' v d := h.mv (mv_weak w)
theorem RpL.weak {F : Fx} {R : Reg} {H : Hp} {n n' : Bool} {v : List V} {d : List D} (h : RpL F H R n v d) (w : n' = true → n = true) : RpL F H R n' v d := h.mv (mv_weak w)

theorem RpL.len {F : Fx} {R : Reg} {H : Hp} : ∀ {n : Bool} {vs : List V} {ds : List D}, RpL F H R n vs ds → vs.length = ds.length
  | _, _, _, .nil => rfl
  | _, _, _, .cons _ b => by rw [List.length_cons, List.length_cons, b.len]
theorem RpL.get {F : Fx} {R : Reg} {H : Hp} : ∀ {n : Bool} {vs : List V} {ds : List D} {i : Nat} {d : D}, RpL F H R n vs ds → ds[i]? = some d → ∃ v, vs[i]? = some v ∧ RpD F H R n v d
  | _, _, _, _, _, .nil, e => by simp at e
  | _, _, _, 0, _, .cons a _, e => by simp at e; subst e; exact ⟨_, rfl, a⟩
  | _, _, _, i + 1, _, .cons _ b, e => by
    obtain ⟨v, h1, h2⟩ := RpL.get (i := i) b (by simpa using e)
    exact ⟨v, by simpa using h1, h2⟩
theorem RpL.get' {F : Fx} {R : Reg} {H : Hp} : ∀ {n : Bool} {vs : List V} {ds : List D} {i : Nat} {v : V}, RpL F H R n vs ds → vs[i]? = some v → ∃ d, ds[i]? = some d ∧ RpD F H R n v d
  | _, _, _, _, _, .nil, e => by simp at e
  | _, _, _, 0, _, .cons a _, e => by simp at e; subst e; exact ⟨_, rfl, a⟩
  | _, _, _, i + 1, _, .cons _ b, e => by
    obtain ⟨v, h1, h2⟩ := RpL.get' (i := i) b (by simpa using e)
    exact ⟨v, by simpa using h1, h2⟩
theorem RpL.app {F : Fx} {R : Reg} {H : Hp} : ∀ {n : Bool} {vs us : List V} {ds es : List D}, RpL F H R n vs ds → RpL F H R n us es → RpL F H R n (vs ++ us) (ds ++ es)
  | _, _, _, _, _, .nil, b => b
  | _, _, _, _, _, .cons a t, b => .cons a (t.app b)
theorem RpL.take {F : Fx} {R : Reg} {H : Hp} : ∀ {n : Bool} {vs : List V} {ds : List D} (k : Nat), RpL F H R n vs ds → RpL F H R n (vs.take k) (ds.take k)
  | _, _, _, 0, _ => .nil
  | _, _, _, k + 1, .nil => .nil
  | _, _, _, k + 1, .cons a t => .cons a (RpL.take k t)
theorem RpL.drop {F : Fx} {R : Reg} {H : Hp} : ∀ {n : Bool} {vs : List V} {ds : List D} (k : Nat), RpL F H R n vs ds → RpL F H R n (vs.drop k) (ds.drop k)
  | _, _, _, 0, h => h
  | _, _, _, k + 1, .nil => .nil
  | _, _, _, k + 1, .cons a t => RpL.drop k t
theorem RpL.set {F : Fx} {R : Reg} {H : Hp} {v : V} {d : D} : ∀ {n : Bool} {vs : List V} {ds : List D} (k : Nat), RpD F H R n v d → RpL F H R n vs ds → RpL F H R n (vs.set k v) (ds.set k d)
  | _, _, _, _, _, .nil => .nil
  | _, _, _, 0, a, .cons _ t => .cons a t
  | _, _, _, k + 1, a, .cons b t => .cons b (RpL.set k a t)
theorem RpL.rev {F : Fx} {R : Reg} {H : Hp} {n : Bool} {vs : List V} {ds : List D} (h : RpL F H R n vs ds) : RpL F H R n vs.reverse ds.reverse := by
  induction vs generalizing ds with
  | nil => cases h; exact .nil
  | cons v vs ih =>
    cases h with
    | cons a t => rw [List.reverse_cons, List.reverse_cons]; exact (ih t).app (.cons a .nil)

/-! ### data that holds no list, no dict -/
mutual
def D.imm : D → Bool
  | .lst _ => false
  | .dct _ => false
  | .vee _ => false
  | .obj _ _ => false
  | .bm _ _ => false
  | .tup ds => D.immL ds
  | _ => true
def D.immL : List D → Bool
  | [] => true
  | d :: ds => D.imm d && D.immL ds
end
mutual
theorem RpD.imm {F : Fx} {R : Reg} {H : Hp} : ∀ {n : Bool} {v : V} {d : D}, RpD F H R n v d → D.imm d = true → RpD F H R true v d
  | _, _, _, .non, _ => .non
  | _, _, _, .bl b, _ => .bl b
  | _, _, _, .int i, _ => .int i
  | _, _, _, .str x, _ => .str x
  | _, _, _, .tup h t, e => .tup h (RpL.imm t (by simpa [D.imm] using e))
  | _, _, _, .strm h, _ => .strm h
theorem RpL.imm {F : Fx} {R : Reg} {H : Hp} : ∀ {n : Bool} {v : List V} {d : List D}, RpL F H R n v d → D.immL d = true → RpL F H R true v d
  | _, _, _, .nil, _ => .nil
  | _, _, _, .cons a b, e => by
    simp only [D.immL, Bool.and_eq_true] at e
    exact .cons (a.imm e.1) (b.imm e.2)
end
/-- new, or holds nothing that changes -/
def Dv.fr (x : Dv) : Bool := x.n || x.d.imm
theorem Rp.fr {F : Fx} {R : Reg} {H : Hp} {x : Dv} {v : V} (h : Rp F H R x v) : RpD F H R x.fr v x.d := by
  cases e : x.n with
  | true => have := h.1; rw [e] at this; exact this.weak fun _ => rfl
  | false =>
    unfold Dv.fr
    rw [e, Bool.false_or]
    cases e2 : x.d.imm with
    | true => exact h.1.imm e2
    | false => exact h.1.weak fun z => nomatch z
/-- scalars -/
def D.sca : D → Bool
  | .non => true
  | .bl _ => true
  | .int _ => true
  | .str _ => true
  | _ => false
theorem RpD.sca {F F' : Fx} {R R' : Reg} {H H' : Hp} {n n' : Bool} {v : V} {d : D} (h : RpD F H R n v d) (s : d.sca = true) : RpD F' H' R' n' v d := by
  cases h with
  | non => exact .non
  | bl b => exact .bl b
  | int i => exact .int i
  | str x => exact .str x
  | _ => cases s
end DL

set_option Elab.async false
set_option linter.all false
set_option maxRecDepth 100000
set_option maxHeartbeats 4000000
/-! DL, part b: the judgements; names, constants, operators, displays. -/
namespace DL
open PySem PySem.Spec PyProof.Rows L2

abbrev XQT := Value → Str → V → Prop
inductive Sl where
  | un | va (x : Dv) | ow (d : D) (n : Bool)
abbrev Ro := List Sl
abbrev TD := Ro → XQT → (Dv → Prop) → Prop
abbrev TDs := Ro → XQT → (List Dv → Prop) → Prop
abbrev TDt := Ro → XQT → (Bool → Prop) → Prop

theorem RpK.ext {F : Fx} {B : Nat} {R R' : Reg} {H H' : Hp} {n : Bool} {v : List (Key × V)} {d : List (D × D)} (h : RpK F H R n v d) (I : HpOk F B R H) (e : Ext F R H R' H') : RpK F H' R' n v d := h.mv (e.mv I fun z => z)
theorem RpT.ext {F : Fx} {B : Nat} {R R' : Reg} {H H' : Hp} {n : Bool} {v : List (List Key × V)} {d : List (D × D)} (h : RpT F H R n v d) (I : HpOk F B R H) (e : Ext F R H R' H') : RpT F H' R' n v d := h.mv (e.mv I fun z => z)

/-- an own list or dict: nobody else knows it -/
def OwAt (F : Fx) (H : Hp) (R : Reg) (a : Addr) (n : Bool) : D → Prop
  | .lst ds => ∃ vs, H a = some (.lst vs) ∧ RpL F H R n vs ds
  | .dct ds => (∃ kvs, H a = some (.dK kvs) ∧ RpK F H R n kvs ds) ∨ ∃ kvs, H a = some (.dT kvs) ∧ RpT F H R n kvs ds
  | .obj k ds => ∃ dx vs, H a = some (.ins (objC F.K k) dx ((objN k).zip vs)) ∧ ((objN k).length = vs.length ∧ Pin k a) ∧ RpL F H R n vs ds
  | _ => False
structure Own (F : Fx) (H : Hp) (R : Reg) (a : Addr) (d : D) (n : Bool) : Prop where
  nr : ¬ R a
  nm : ¬ F.mx a
  n0 : Nn F.H0 a
  p0 : F.P a
  at_ : OwAt F H R a n d
theorem Own.some {F : Fx} {H : Hp} {R : Reg} {a : Addr} {d : D} {n : Bool} (h : Own F H R a d n) : ∃ o, H a = some o ∧ NoTbl o := by
  have z := h.at_
  cases d with
  | lst ds => obtain ⟨vs, e, _⟩ := z; exact ⟨_, e, .lst⟩
  | dct ds =>
    rcases z with ⟨_, e, _⟩ | ⟨_, e, _⟩
    · exact ⟨_, e, .dK⟩
    · exact ⟨_, e, .dT⟩
  | obj k ds => obtain ⟨_, _, e, _⟩ := z; exact ⟨_, e, .ins⟩
  | _ => exact z.elim
theorem Own.ext {F : Fx} {B : Nat} {R R' : Reg} {H H' : Hp} {a : Addr} {d : D} {n : Bool} (h : Own F H R a d n) (I : HpOk F B R H) (e : Ext F R H R' H') : Own F H' R' a d n := by
  obtain ⟨o, ho, nt⟩ := h.some
  refine ⟨fun z => ?_, h.nm, h.n0, h.p0, ?_⟩
  · rcases e.new a z with z | z
    · exact h.nr z
    · exact z o ho nt
  · have z := h.at_
    cases d with
    | lst ds => obtain ⟨vs, q, r⟩ := z; exact ⟨vs, e.keep _ _ h.nm q .lst, r.ext I e⟩
    | dct ds =>
      rcases z with ⟨kvs, q, r⟩ | ⟨kvs, q, r⟩
      · exact .inl ⟨kvs, e.keep _ _ h.nm q .dK, r.ext I e⟩
      · exact .inr ⟨kvs, e.keep _ _ h.nm q .dT, r.ext I e⟩
    | obj k ds => obtain ⟨dx, vs, q, l, r⟩ := z; exact ⟨dx, vs, e.keep _ _ h.nm q .ins, l, r.ext I e⟩
    | _ => exact z.elim

structure StOk (F : Fx) (B : Nat) (R : Reg) (H : Hp) (σ : L2.St) (ρ : Ro) (α : Nat → Addr) : Prop where
  hp : HpOk F B R H
  len : σ.length = ρ.length
  va : ∀ (i : Nat) x, ρ[i]? = some (.va x) → ∃ v, σ[i]? = some (some v) ∧ Rp F H R x v
  ow : ∀ (i : Nat) d n, ρ[i]? = some (.ow d n) → σ[i]? = some (some (.ref (α i))) ∧ Own F H R (α i) d n
  dis : ∀ (i j : Nat) d n d' n', ρ[i]? = some (.ow d n) → ρ[j]? = some (.ow d' n') → α i = α j → i = j
theorem StOk.ext {F : Fx} {B B' : Nat} {R R' : Reg} {H H' : Hp} {σ : L2.St} {ρ : Ro} {α : Nat → Addr} (S : StOk F B R H σ ρ α) (e : Ext F R H R' H') (o : HpOk F B' R' H') : StOk F B' R' H' σ ρ α :=
  ⟨o, S.len, fun i x h => let ⟨v, a, b⟩ := S.va i x h; ⟨v, a, b.ext S.hp e⟩, fun i d n h => let ⟨a, b⟩ := S.ow i d n h; ⟨a, b.ext S.hp e⟩, S.dis⟩
theorem HpOk.mono {F : Fx} {B B' : Nat} {R : Reg} {H : Hp} (h : HpOk F B R H) (l : B ≤ B') : HpOk F B' R H := ⟨h.inv.mono l, h.good, h.ent, h.ent2, h.reg0, h.tab, h.lim, h.pn⟩
theorem StOk.mono {F : Fx} {B B' : Nat} {R : Reg} {H : Hp} {σ : L2.St} {ρ : Ro} {α : Nat → Addr} (S : StOk F B R H σ ρ α) (l : B ≤ B') : StOk F B' R H σ ρ α := ⟨S.hp.mono l, S.len, S.va, S.ow, S.dis⟩

/-! ### a new object -/
def Reg.add (R : Reg) (p : Addr) : Reg := fun a => R a ∨ a = p
theorem mx_none {F : Fx} {B : Nat} {H : Hp} (I : F.inv B H) {p : Addr} (h : H p = none) : ¬ F.mx p := fun m => by
  obtain ⟨xs, z⟩ := mx_lst I m
  rw [h] at z; cases z
theorem inv_upd {F : Fx} {B : Nat} {H : Hp} {p : Addr} {o : HO} (I : F.inv B H) (h : ¬ F.mx p) : F.inv B (upd H p o) := fun q e => by
  obtain ⟨a, xs, c, n, s, h1, h2, r⟩ := I q e
  have n1 : q.1 ≠ p := fun z => h ⟨q, e, .inl z.symm⟩
  have n2 : q.2 ≠ p := fun z => h ⟨q, e, .inr z.symm⟩
  exact ⟨a, xs, c, n, s, by rw [upd_ne n1]; exact h1, by rw [upd_ne n2]; exact h2, r⟩
theorem nn_upd {H : Hp} {p a : Addr} {o : HO} (h : Nn H p) (e : Nn (upd H p o) a) : Nn H a := by
  by_cases z : a = p
  · rw [z]; exact h
  · exact fun u q => e u (by rw [upd_ne z]; exact q)
theorem none_upd {H : Hp} {p a : Addr} {o : HO} (e : upd H p o a = none) : H a = none := by
  by_cases z : a = p
  · subst z; rw [upd_same] at e; cases e
  · rwa [upd_ne z] at e
theorem ne_of_nn {H : Hp} {a b : Addr} {o : HO} (e : H b = some o) (t : NoTbl o) (n : Nn H a) : b ≠ a := fun z => n o (z ▸ e) t
theorem tab_new {T : List (Addr × Str)} {H : Hp} {p : Addr} {o : HO} (t : LamX.Tabs T H) (h : H p = none) : LamX.Tabs T (upd H p o) := t.ext fun b u e => by rw [upd_ne (ne_of_none e h)]; exact e
/-- neither a table nor a code object -/
def Plain (u : HO) : Prop := (∀ ps, u ≠ .tbl ps) ∧ ∀ f, u ≠ .ext f
theorem Plain.lst {xs : List V} : Plain (.lst xs) := ⟨fun _ z => (nomatch z), fun _ z => (nomatch z)⟩
theorem Plain.dK {xs : List (Key × V)} : Plain (.dK xs) := ⟨fun _ z => (nomatch z), fun _ z => (nomatch z)⟩
theorem Plain.dT {xs : List (List Key × V)} : Plain (.dT xs) := ⟨fun _ z => (nomatch z), fun _ z => (nomatch z)⟩
theorem tab_keep {T : List (Addr × Str)} {H H' : Hp} (t : LamX.Tabs T H) (k : ∀ b o, ¬ Plain o → H b = some o → H' b = some o) : LamX.Tabs T H' := fun p hp => by
  obtain ⟨ps, h1, h2, h3⟩ := t p hp
  refine ⟨ps, k _ _ (fun z => z.1 ps rfl) h1, h2, fun pos cv hc => ?_⟩
  obtain ⟨c, e1, e2⟩ := h3 pos cv hc
  exact ⟨c, e1, k _ _ (fun z => z.2 _ rfl) e2⟩
theorem tab_put {T : List (Addr × Str)} {H : Hp} {a : Addr} {o u : HO} (t : LamX.Tabs T H) (h : H a = some u) (p : Plain u) : LamX.Tabs T (upd H a o) := tab_keep t fun b w n e => by
  rw [upd_ne (fun z => by subst z; rw [h] at e; cases e; exact n p)]
  exact e
section
variable {F : Fx} {B : Nat} {R : Reg} {H : Hp} {p : Addr} {o : HO}
theorem Rp.of {n : Bool} {v : V} {d : D} (h : RpD F H R n v d) : Rp F H R ⟨d, n, none⟩ v := ⟨h, fun _ z => by cases z⟩
theorem HpOk.new0 (I : HpOk F B R H) (h : H p = none) (nt : NoTbl o) : HpOk F B R (upd H p o) :=
  ⟨inv_upd I.inv (mx_none I.inv h), fun a r => let ⟨m, u, e, t⟩ := I.good a r; ⟨m, u, by rw [upd_ne (ne_of_none e h)]; exact e, t⟩, fun a u m e t => by
    have q := I.ent a u m e t
    rw [upd_ne (ne_of_none q h)]; exact q, fun a e => I.ent2 a (nn_upd (.of h) e), I.reg0, tab_new I.tab h, I.lim, fun a e => I.pn a (nn_upd (.of h) e)⟩
theorem HpOk.new (I : HpOk F B R H) (h : H p = none) (nt : NoTbl o) : HpOk F B (R.add p) (upd H p o) := by
  have J := I.new0 h nt
  refine ⟨J.inv, fun a r => ?_, J.ent, J.ent2, fun a r => r.elim (I.reg0 a) fun z => .inr (by rw [z]; exact I.ent2 p (.of h)), J.tab, J.lim, J.pn⟩
  rcases r with r | r
  · exact J.good a r
  · subst r; exact ⟨mx_none I.inv h, o, upd_same, nt⟩
theorem Ext.new0 (h : H p = none) : Ext F R H R (upd H p o) :=
  ⟨fun _ r => r, fun a u _ e _ => by rw [upd_ne (ne_of_none e h)]; exact e, fun _ r => .inl r, fun a e => nn_upd (.of h) e⟩
theorem Ext.new1 (h : H p = none) : Ext F R H (R.add p) (upd H p o) :=
  ⟨fun _ r => .inl r, (Ext.new0 (F := F) (R := R) h).keep, fun a r => r.elim .inl fun z => .inr (by rw [z]; exact .of h), (Ext.new0 (F := F) (R := R) h).there⟩
theorem Ext.frz {F : Fx} {R : Reg} {H : Hp} {p : Addr} (h : H p = none) {H' : Hp} (e : Ext F R H R H') : Ext F R H (R.add p) H' :=
  ⟨fun _ r => .inl r, e.keep, fun a r => r.elim .inl fun z => .inr (by rw [z]; exact .of h), e.there⟩
end

/-! ### exceptions -/
/-- a list that the written part holds, or that is never changed -/
def SqF (K : PySem.W.Frag) (H : Hp) (a : Addr) (xs : List V) : Prop := (∃ o, H a = some (.frz o (.lst xs))) ∨
  ∃ (o : Obj) (its : Array Value) (n : Nat), K.lookup a = some o ∧ o.cls = .type "list" ∧ o.dict = none ∧ o.data = .seq its n ∧ its.size ≤ sizeLine ∧ Vals xs its.toList
theorem SqF.sql {K : PySem.W.Frag} {H : Hp} {a : Addr} {xs : List V} (h : SqF K H a xs) : SqL K H a xs := h.elim (fun h => .inl (.inr h)) .inr
theorem SqF.keep {K : PySem.W.Frag} {H H' : Hp} {a : Addr} {xs : List V} (h : SqF K H a xs) (k : ∀ o u, H a = some (.frz o u) → H' a = some (.frz o u)) : SqF K H' a xs := h.elim (fun ⟨o, z⟩ => .inl ⟨o, k _ _ z⟩) .inr
/-- what may be asked of no class: no stream is drawn from; the script -/
def XLk (F : Fx) (x : Str) (v : V) : Prop := (x = "" → F.st = none) ∧ (x = "script" → F.st = none ∧ ∃ (a : Addr) (ns : List Int), v = .ref a ∧ SqF F.K F.H0 a (ns.map V.int) ∧ ns.length ≤ 63 ∧ ∀ z ∈ ns, z.natAbs < CBIT)
/-- what is raised: its class, its one field, the field's value; all is kept till then -/
def XLink (F : Fx) (E : XK) (XQ : XQT) : Prop := (∀ x v, XQ .none x v → XLk F x v) ∧ ∀ C f v dx H', XQ (.ref C) f v → (∀ a o, ¬ F.mx a → F.H0 a = some o → NoTbl o → H' a = some o) → (∀ a, Nn H' a → Nn F.H0 a) → F.inv F.L H' → LamX.Tabs F.T H' → H' dx = some (.xd [(f, v)]) → E (.ref C) (some dx) H'

/-! ### the judgements -/
def DE (X : Cx) (E : XK) (c : Nat) (e : Expr) (f : TD) : Prop := ∃ t : TE, PE X e t ∧ ∀ F B R H σ ρ α XQ Q (K : VK), F.K = X.K → XLink F E XQ → B + c ≤ F.L → StOk F B R H σ ρ α → f ρ XQ Q →
  (∀ v x R' H', Ext F R H R' H' → HpOk F (B + c) R' H' → Rp F H' R' x v → Q x → K v H') → t σ H K
def DA (X : Cx) (E : XK) (c : Nat) (es : List Expr) (f : TDs) : Prop := ∃ t : TA, PA X es t ∧ ∀ F B R H σ ρ α XQ Q (K : List V → Hp → Prop), F.K = X.K → XLink F E XQ → B + c ≤ F.L → StOk F B R H σ ρ α → f ρ XQ Q →
  (∀ vs xs R' H', Ext F R H R' H' → HpOk F (B + c) R' H' → Paired (fun x v => Rp F H' R' x v) xs vs → Q xs → K vs H') → t σ H K
def DT (X : Cx) (E : XK) (c : Nat) (e : Expr) (f : TDt) : Prop := ∃ t : TT, PT X e t ∧ ∀ F B R H σ ρ α XQ Q (K : Bool → Hp → Prop), F.K = X.K → XLink F E XQ → B + c ≤ F.L → StOk F B R H σ ρ α → f ρ XQ Q →
  (∀ b R' H', Ext F R H R' H' → HpOk F (B + c) R' H' → Q b → K b H') → t σ H K
def DW (X : Cx) (E : XK) (c : Nat) (e : Expr) (f : TDt) : Prop := ∃ t : TT, PW X e t ∧ ∀ F B R H σ ρ α XQ Q (K : Bool → Hp → Prop), F.K = X.K → XLink F E XQ → B + c ≤ F.L → StOk F B R H σ ρ α → f ρ XQ Q →
  (∀ b R' H', Ext F R H R' H' → HpOk F (B + c) R' H' → Q b → K b H') → t σ H K
/-- an expression that makes a list or a dict that nobody else knows -/
def DN (X : Cx) (E : XK) (c : Nat) (e : Expr) (f : TD) : Prop := ∃ t : TE, PE X e t ∧ ∀ F B R H σ ρ α XQ Q (K : VK), F.K = X.K → XLink F E XQ → B + c ≤ F.L → StOk F B R H σ ρ α → f ρ XQ Q →
  (∀ a d n R' H', Ext F R H R' H' → HpOk F (B + c) R' H' → Own F H' R' a d n → Nn H a → Q ⟨d, n, none⟩ → K (.ref a) H') → t σ H K

theorem Ow.rp {F : Fx} {R : Reg} {H : Hp} {a : Addr} {d : D} {n : Bool} (h : Own F H R a d n) : RpD F H (R.add a) n (.ref a) d := by
  have z := h.at_
  have m : Mv F R H F (R.add a) H n n := ⟨rfl, fun _ z => z, fun _ _ r h _ => ⟨.inl r, h⟩, fun _ _ h => h, fun z _ _ _ _ _ q => q z⟩
  cases d with
  | lst ds => obtain ⟨vs, q, r⟩ := z; exact .lst q (.inr rfl) (fun _ => h.p0) (r.mv m)
  | dct ds =>
    rcases z with ⟨kvs, q, r⟩ | ⟨kvs, q, r⟩
    · exact .dK q (.inr rfl) (fun _ => h.p0) (r.mv m)
    · exact .dT q (.inr rfl) (fun _ => h.p0) (r.mv m)
  | obj k ds => obtain ⟨dx, vs, q, l, r⟩ := z; exact .obj q (.inr rfl) (fun _ => h.p0) rfl l.1 (r.mv m)
  | _ => exact z.elim
theorem HpOk.frz {F : Fx} {B : Nat} {R : Reg} {H : Hp} {a : Addr} {d : D} {n : Bool} (I : HpOk F B R H) (h : Own F H R a d n) : HpOk F B (R.add a) H :=
  ⟨I.inv, fun b r => r.elim (I.good b) fun z => by subst z; exact ⟨h.nm, h.some⟩, I.ent, I.ent2, fun b r => r.elim (I.reg0 b) fun z => .inr (by rw [z]; exact h.n0), I.tab, I.lim, I.pn⟩
/-- a new one is a value like others -/
theorem DN.de {X : Cx} {E : XK} {c : Nat} {e : Expr} {f : TD} (h : DN X E c e f) : DE X E c e f := by
  obtain ⟨t, p, s⟩ := h
  refine ⟨t, p, fun F B R H σ ρ α XQ Q K hK hX hB S hf k => s F B R H σ ρ α XQ Q K hK hX hB S hf fun a d n R' H' e' o' w hn q => ?_⟩
  refine k _ _ (R'.add a) H' ⟨fun x r => .inl (e'.reg x r), e'.keep, fun x r => r.elim (e'.new x) fun z => .inr (by rw [z]; exact hn), e'.there⟩ (o'.frz w) (.of (Ow.rp w)) q

section
variable {X : Cx} {E : XK} {c ca cb cc : Nat} {a b : Expr} {fa fb : TD} {pos : Pos}

/-- a slot's value -/
def getV : Option Sl → (Dv → Prop) → Prop
  | some (.va x), Q => Q x
  | _, _ => False
theorem getV_some {o : Option Sl} {Q : Dv → Prop} (h : getV o Q) : ∃ x, o = some (.va x) ∧ Q x := by
  match o, h with
  | some (.va x), h => exact ⟨x, rfl, h⟩
theorem de_var {i : Nat} {x : Str} (h : PE X (.Name x pos) (tVar i)) : DE X E 0 (.Name x pos) (fun ρ _ Q => getV ρ[i]? Q) :=
  ⟨_, h, fun F B R H σ ρ α XQ Q K _ _ _ S q k => by
    obtain ⟨x, e, q⟩ := getV_some q
    obtain ⟨v, e2, r⟩ := S.va i x e
    exact ⟨v, e2, k v x R H .refl S.hp r q⟩⟩
theorem de_c {e : Expr} {v : V} {d : D} (h : PE X e (tC v)) (r : ∀ F H R n, RpD F H R n v d) : DE X E 0 e (fun _ _ Q => Q ⟨d, true, some v⟩) :=
  ⟨_, h, fun F B R H σ ρ α XQ Q K _ _ _ S q k => k v _ R H .refl S.hp ⟨r F H R true, fun u z => (Option.some.inj z).symm⟩ q⟩
theorem de_int {i : Int} {j : Nat} : DE X E 0 (.Constant (.int i) j pos) (fun _ _ Q => Q ⟨.int i, true, some (.int i)⟩) := de_c pe_int fun _ _ _ _ => .int i
theorem de_str {x : Str} {j : Nat} : DE X E 0 (.Constant (.str x) j pos) (fun _ _ Q => Q ⟨.str x, true, some (.str x)⟩) := de_c pe_str fun _ _ _ _ => .str x
theorem de_bl {x : Bool} {j : Nat} : DE X E 0 (.Constant (.bool x) j pos) (fun _ _ Q => Q ⟨.bl x, true, some (.bl x)⟩) := de_c pe_bl fun _ _ _ _ => .bl x
theorem de_non {j : Nat} : DE X E 0 (.Constant .none j pos) (fun _ _ Q => Q ⟨.non, true, some .non⟩) := de_c pe_non fun _ _ _ _ => .non

/-! ### two values -/
abbrev GD2 := Dv → Dv → (Dv → Prop) → Prop
def DOp (X : Cx) (f : Value → Value → Sem Value) (g : GD2) : Prop := ∃ r : R2, OpR X f r ∧ ∀ F B R H v u x y Q (K : VK), F.K = X.K → HpOk F B R H → Rp F H R x v → Rp F H R y u → g x y Q →
  (∀ w z R' H', Ext F R H R' H' → HpOk F B R' H' → Rp F H' R' z w → Q z → K w H') → r v u H K
theorem de_two {r : R2} {t : TE → TE → TE} {e : Expr} {g : GD2} (ht : ∀ ta tb, t ta tb = tOp r ta tb) (pe : ∀ ta tb, PE X a ta → PE X b tb → PE X e (t ta tb))
    (sr : ∀ F B R H v u x y Q (K : VK), F.K = X.K → HpOk F B R H → Rp F H R x v → Rp F H R y u → g x y Q → (∀ w z R' H', Ext F R H R' H' → HpOk F B R' H' → Rp F H' R' z w → Q z → K w H') → r v u H K)
    (ha : DE X E ca a fa) (hb : DE X E cb b fb) : DE X E (ca + cb) e (fun ρ XQ Q => fa ρ XQ fun x => fb ρ XQ fun y => g x y Q) := by
  obtain ⟨ta, pa, sa⟩ := ha
  obtain ⟨tb, pb, sb⟩ := hb
  refine ⟨_, pe ta tb pa pb, fun F B R H σ ρ α XQ Q K hK hX hB S h k => ?_⟩
  rw [ht]
  refine sa F B R H σ ρ α XQ _ _ hK hX (by omega) S h fun v x R1 H1 e1 o1 r1 q1 => ?_
  refine sb F (B + ca) R1 H1 σ ρ α XQ _ _ hK hX (by omega) (S.ext e1 o1) q1 fun u y R2 H2 e2 o2 r2 q2 => ?_
  refine sr F (B + ca + cb) R2 H2 v u x y Q K hK o2 (r1.ext o1 e2) r2 q2 fun w z R3 H3 e3 o3 r3 q3 => ?_
  exact k w z R3 H3 ((e1.trans e2).trans e3) (by rw [← Nat.add_assoc]; exact o3) r3 q3
theorem de_op {op : Operator} {g : GD2} (ho : DOp X (binaryOp op) g) (ha : DE X E ca a fa) (hb : DE X E cb b fb) : DE X E (ca + cb) (.BinOp a op b pos) (fun ρ XQ Q => fa ρ XQ fun x => fb ρ XQ fun y => g x y Q) := by
  obtain ⟨r, hr, sr⟩ := ho
  exact de_two (t := fun ta tb => tOp r ta tb) (fun _ _ => rfl) (fun _ _ pa pb => pe_op hr pa pb) sr ha hb
theorem de_cmp {op : CmpOp} {g : GD2} (ho : DOp X (compareOp op) g) (ha : DE X E ca a fa) (hb : DE X E cb b fb) (hm : behindInMarks op b = false) : DE X E (ca + cb) (.Compare a [op] [b] pos) (fun ρ XQ Q => fa ρ XQ fun x => fb ρ XQ fun y => g x y Q) := by
  obtain ⟨r, hr, sr⟩ := ho
  exact de_two (t := fun ta tb => tOp r ta tb) (fun _ _ => rfl) (fun _ _ pa pb => pe_cmpR hr pa pb hm) sr ha hb
/-- as a test -/
theorem dt_cmp {op : CmpOp} {g : GD2} (ho : DOp X (compareOp op) g) (ha : DE X E ca a fa) (hb : DE X E cb b fb) (hm : behindInMarks op b = false) : DT X E (ca + cb) (.Compare a [op] [b] pos) (fun ρ XQ Q => fa ρ XQ fun x => fb ρ XQ fun y => g x y fun z => ∃ c, z.d = .bl c ∧ Q c) := by
  obtain ⟨r, hr, sr⟩ := ho
  obtain ⟨ta, pa, sa⟩ := ha
  obtain ⟨tb, pb, sb⟩ := hb
  refine ⟨_, pt_cmpR hr pa pb hm, fun F B R H σ ρ α XQ Q K hK hX hB S h k => ?_⟩
  refine sa F B R H σ ρ α XQ _ _ hK hX (by omega) S h fun v x R1 H1 e1 o1 r1 q1 => ?_
  refine sb F (B + ca) R1 H1 σ ρ α XQ _ _ hK hX (by omega) (S.ext e1 o1) q1 fun u y R2 H2 e2 o2 r2 q2 => ?_
  refine sr F (B + ca + cb) R2 H2 v u x y _ _ hK o2 (r1.ext o1 e2) r2 q2 fun w z R3 H3 e3 o3 r3 q3 => ?_
  obtain ⟨c, ec, q3⟩ := q3
  have r4 := r3.1
  rw [ec] at r4
  cases r4
  exact ⟨c, rfl, k c R3 H3 ((e1.trans e2).trans e3) (by rw [← Nat.add_assoc]; exact o3) q3⟩
/-- a value that is a truth value, as a test -/
theorem dt_val (ha : DE X E ca a fa) (he : ∀ whole, isTrue a X.env whole = (do let v ← whole; standAt a.pos; holding [v] (truthy v)) := by intro _; rfl) : DT X E ca a (fun ρ XQ Q => fa ρ XQ fun x => ∃ c, x.d = .bl c ∧ Q c) := by
  obtain ⟨ta, pa, sa⟩ := ha
  refine ⟨_, pt_val pa he, fun F B R H σ ρ α XQ Q K hK hX hB S h k => ?_⟩
  refine sa F B R H σ ρ α XQ _ _ hK hX hB S h fun v x R1 H1 e1 o1 r1 q1 => ?_
  obtain ⟨c, ec, q1⟩ := q1
  have r4 := r1.1
  rw [ec] at r4
  cases r4
  exact ⟨c, rfl, k c R1 H1 e1 o1 q1⟩

/-! ### and, or, not, if else -/
theorem dw_and1 {ta : TDt} (ha : DT X E ca a ta) : DW X E ca (.BoolOp .And [a] pos) ta := by
  obtain ⟨t, p, s⟩ := ha
  exact ⟨t, pw_and1 p, s⟩
theorem dw_or1 {ta : TDt} (ha : DT X E ca a ta) : DW X E ca (.BoolOp .Or [a] pos) ta := by
  obtain ⟨t, p, s⟩ := ha
  exact ⟨t, pw_or1 p, s⟩
theorem dw_and {ta tb : TDt} {rest : List Expr} (ha : DT X E ca a ta) (hb : DW X E cb (.BoolOp .And (b :: rest) pos) tb) : DW X E (ca + cb) (.BoolOp .And (a :: b :: rest) pos) (fun ρ XQ Q => ta ρ XQ fun k => if k = true then tb ρ XQ Q else Q false) := by
  obtain ⟨t, p, s⟩ := ha
  obtain ⟨u, p2, s2⟩ := hb
  refine ⟨_, pw_and p p2, fun F B R H σ ρ α XQ Q K hK hX hB S h k => ?_⟩
  refine s F B R H σ ρ α XQ _ _ hK hX (by omega) S h fun z R1 H1 e1 o1 q1 => ?_
  cases z with
  | true => exact s2 F (B + ca) R1 H1 σ ρ α XQ _ _ hK hX (by omega) (S.ext e1 o1) q1 fun z R2 H2 e2 o2 q2 => k z R2 H2 (e1.trans e2) (by rw [← Nat.add_assoc]; exact o2) q2
  | false => exact k false R1 H1 e1 (o1.mono (by omega)) q1
theorem dw_or {ta tb : TDt} {rest : List Expr} (ha : DT X E ca a ta) (hb : DW X E cb (.BoolOp .Or (b :: rest) pos) tb) : DW X E (ca + cb) (.BoolOp .Or (a :: b :: rest) pos) (fun ρ XQ Q => ta ρ XQ fun k => if k = true then Q true else tb ρ XQ Q) := by
  obtain ⟨t, p, s⟩ := ha
  obtain ⟨u, p2, s2⟩ := hb
  refine ⟨_, pw_or p p2, fun F B R H σ ρ α XQ Q K hK hX hB S h k => ?_⟩
  refine s F B R H σ ρ α XQ _ _ hK hX (by omega) S h fun z R1 H1 e1 o1 q1 => ?_
  cases z with
  | false => exact s2 F (B + ca) R1 H1 σ ρ α XQ _ _ hK hX (by omega) (S.ext e1 o1) q1 fun z R2 H2 e2 o2 q2 => k z R2 H2 (e1.trans e2) (by rw [← Nat.add_assoc]; exact o2) q2
  | true => exact k true R1 H1 e1 (o1.mono (by omega)) q1
theorem DW.dt {ta : TDt} (h : DW X E ca a ta) : DT X E ca a ta := by
  obtain ⟨t, p, s⟩ := h
  exact ⟨t, p.pt, s⟩
theorem dt_not {ta : TDt} (ha : DT X E ca a ta) : DT X E ca (.UnaryOp .Not a pos) (fun ρ XQ Q => ta ρ XQ fun k => Q (!k)) := by
  obtain ⟨t, p, s⟩ := ha
  exact ⟨_, pt_not p, fun F B R H σ ρ α XQ Q K hK hX hB S h k => s F B R H σ ρ α XQ _ _ hK hX hB S h fun z R1 H1 e1 o1 q1 => k (!z) R1 H1 e1 o1 q1⟩
/-- as values -/
theorem de_one {op : BoolOp} (ha : DE X E ca a fa) : DE X E ca (.BoolOp op [a] pos) fa := by
  obtain ⟨t, p, s⟩ := ha
  exact ⟨t, pe_one p, s⟩
theorem de_and {rest : List Expr} (ha : DE X E ca a fa) (hb : DE X E cb (.BoolOp .And (b :: rest) pos) fb) : DE X E (ca + cb) (.BoolOp .And (a :: b :: rest) pos) (fun ρ XQ Q => fa ρ XQ fun x => ∃ k, x.d = .bl k ∧ if k = true then fb ρ XQ Q else Q ⟨.bl false, true, none⟩) := by
  obtain ⟨t, p, s⟩ := ha
  obtain ⟨u, p2, s2⟩ := hb
  refine ⟨_, pe_and p p2, fun F B R H σ ρ α XQ Q K hK hX hB S h k => ?_⟩
  refine s F B R H σ ρ α XQ _ _ hK hX (by omega) S h fun v x R1 H1 e1 o1 r1 q1 => ?_
  obtain ⟨z, ez, q1⟩ := q1
  have r4 := r1.1
  rw [ez] at r4
  cases r4
  refine ⟨z, rfl, ?_⟩
  cases z with
  | true => exact s2 F (B + ca) R1 H1 σ ρ α XQ _ _ hK hX (by omega) (S.ext e1 o1) q1 fun v z R2 H2 e2 o2 r2 q2 => k v z R2 H2 (e1.trans e2) (by rw [← Nat.add_assoc]; exact o2) r2 q2
  | false => exact k _ _ R1 H1 e1 (o1.mono (by omega)) (.of (.bl false)) q1
theorem de_or {rest : List Expr} (ha : DE X E ca a fa) (hb : DE X E cb (.BoolOp .Or (b :: rest) pos) fb) : DE X E (ca + cb) (.BoolOp .Or (a :: b :: rest) pos) (fun ρ XQ Q => fa ρ XQ fun x => ∃ k, x.d = .bl k ∧ if k = true then Q ⟨.bl true, true, none⟩ else fb ρ XQ Q) := by
  obtain ⟨t, p, s⟩ := ha
  obtain ⟨u, p2, s2⟩ := hb
  refine ⟨_, pe_or p p2, fun F B R H σ ρ α XQ Q K hK hX hB S h k => ?_⟩
  refine s F B R H σ ρ α XQ _ _ hK hX (by omega) S h fun v x R1 H1 e1 o1 r1 q1 => ?_
  obtain ⟨z, ez, q1⟩ := q1
  have r4 := r1.1
  rw [ez] at r4
  cases r4
  refine ⟨z, rfl, ?_⟩
  cases z with
  | false => exact s2 F (B + ca) R1 H1 σ ρ α XQ _ _ hK hX (by omega) (S.ext e1 o1) q1 fun v z R2 H2 e2 o2 r2 q2 => k v z R2 H2 (e1.trans e2) (by rw [← Nat.add_assoc]; exact o2) r2 q2
  | true => exact k _ _ R1 H1 e1 (o1.mono (by omega)) (.of (.bl true)) q1
theorem de_not (ha : DE X E ca a fa) : DE X E ca (.UnaryOp .Not a pos) (fun ρ XQ Q => fa ρ XQ fun x => ∃ k, x.d = .bl k ∧ Q ⟨.bl (!k), true, none⟩) := by
  obtain ⟨t, p, s⟩ := ha
  refine ⟨_, pe_not p, fun F B R H σ ρ α XQ Q K hK hX hB S h k => ?_⟩
  refine s F B R H σ ρ α XQ _ _ hK hX hB S h fun v x R1 H1 e1 o1 r1 q1 => ?_
  obtain ⟨z, ez, q1⟩ := q1
  have r4 := r1.1
  rw [ez] at r4
  cases r4
  exact ⟨z, rfl, k _ _ R1 H1 e1 o1 (.of (.bl (!z))) q1⟩
theorem de_if {t : TDt} {e : Expr} (hc : DT X E cc e t) (ha : DE X E ca a fa) (hb : DE X E cb b fb) : DE X E (cc + (ca + cb)) (.IfExp e a b pos) (fun ρ XQ Q => t ρ XQ fun k => if k = true then fa ρ XQ Q else fb ρ XQ Q) := by
  obtain ⟨tc, pc, sc⟩ := hc
  obtain ⟨ta, pa, sa⟩ := ha
  obtain ⟨tb, pb, sb⟩ := hb
  refine ⟨_, pe_ifExp pc pa pb, fun F B R H σ ρ α XQ Q K hK hX hB S h k => ?_⟩
  refine sc F B R H σ ρ α XQ _ _ hK hX (by omega) S h fun z R1 H1 e1 o1 q1 => ?_
  cases z with
  | true => exact sa F (B + cc) R1 H1 σ ρ α XQ _ _ hK hX (by omega) (S.ext e1 o1) q1 fun v z R2 H2 e2 o2 r2 q2 => k v z R2 H2 (e1.trans e2) (o2.mono (by omega)) r2 q2
  | false => exact sb F (B + cc) R1 H1 σ ρ α XQ _ _ hK hX (by omega) (S.ext e1 o1) q1 fun v z R2 H2 e2 o2 r2 q2 => k v z R2 H2 (e1.trans e2) (o2.mono (by omega)) r2 q2

/-! ### argument lists, displays -/
theorem da_nil : DA X E 0 [] (fun _ _ Q => Q []) := ⟨_, pa_nil, fun F B R H σ ρ α XQ Q K _ _ _ S h k => k [] [] R H .refl S.hp .nil h⟩
theorem Paired.imp {α β : Type} {P P' : α → β → Prop} (h : ∀ a b, P a b → P' a b) : ∀ {xs : List α} {ys : List β}, Paired P xs ys → Paired P' xs ys
  | _, _, .nil => .nil
  | _, _, .cons a t => .cons (h _ _ a) (Paired.imp h t)
theorem da_cons {es : List Expr} {fs : TDs} (ha : DE X E ca a fa) (hr : DA X E cb es fs) (hs : starEach (a :: es) X.env = (false, eval a X.env) :: starEach es X.env := by rfl) : DA X E (ca + cb) (a :: es) (fun ρ XQ Q => fa ρ XQ fun x => fs ρ XQ fun xs => Q (x :: xs)) := by
  obtain ⟨t, p, s⟩ := ha
  obtain ⟨u, p2, s2⟩ := hr
  refine ⟨_, pa_cons p p2 hs, fun F B R H σ ρ α XQ Q K hK hX hB S h k => ?_⟩
  refine s F B R H σ ρ α XQ _ _ hK hX (by omega) S h fun v x R1 H1 e1 o1 r1 q1 => ?_
  exact s2 F (B + ca) R1 H1 σ ρ α XQ _ _ hK hX (by omega) (S.ext e1 o1) q1 fun vs xs R2 H2 e2 o2 r2 q2 => k (v :: vs) (x :: xs) R2 H2 (e1.trans e2) (by rw [← Nat.add_assoc]; exact o2) (.cons (r1.ext o1 e2) r2) q2
/-- all are new -/
def allFr : List Dv → Bool
  | [] => true
  | x :: xs => x.fr && allFr xs
theorem rpl_of {F : Fx} {H : Hp} {R : Reg} : ∀ {xs : List Dv} {vs : List V}, Paired (fun x v => Rp F H R x v) xs vs → RpL F H R (allFr xs) vs (xs.map (·.d))
  | _, _, .nil => .nil
  | _, _, .cons a t => .cons (a.fr.weak fun z => (Bool.and_eq_true_iff.mp z).1) ((rpl_of t).weak fun z => (Bool.and_eq_true_iff.mp z).2)
theorem de_tup {es : List Expr} {fs : TDs} {x1 : Nat} (h : DA X E c es fs) : DE X E c (.Tuple es x1 pos) (fun ρ XQ Q => fs ρ XQ fun xs => xs.length ≤ 1000 ∧ Q ⟨.tup (xs.map (·.d)), allFr xs, none⟩) := by
  obtain ⟨t, p, s⟩ := h
  refine ⟨_, pe_tup p, fun F B R H σ ρ α XQ Q K hK hX hB S h k => ?_⟩
  refine s F B R H σ ρ α XQ _ _ hK hX hB S h fun vs xs R1 H1 e1 o1 r1 ⟨hl, q1⟩ => ?_
  have l := rpl_of r1
  refine ⟨by rw [l.len, List.length_map, sizeLine_eq]; omega, fun q hq => ?_⟩
  have e2 : Ext F R1 H1 R1 (upd H1 q (.tup vs)) := .new0 hq
  exact k _ _ R1 _ (e1.trans e2) (o1.new0 hq .tup) (.of (.tup (SqT.of upd_same) (l.ext o1 e2))) q1
theorem dn_lst {es : List Expr} {fs : TDs} (h : DA X E c es fs) : DN X E c (.List es pos) (fun ρ XQ Q => fs ρ XQ fun xs => xs.length ≤ 1000 ∧ Q ⟨.lst (xs.map (·.d)), allFr xs, none⟩) := by
  obtain ⟨t, p, s⟩ := h
  refine ⟨_, pe_lst p, fun F B R H σ ρ α XQ Q K hK hX hB S h k => ?_⟩
  refine s F B R H σ ρ α XQ _ _ hK hX hB S h fun vs xs R1 H1 e1 o1 r1 ⟨hl, q1⟩ => ?_
  have l := rpl_of r1
  refine ⟨by rw [l.len, List.length_map, sizeLine_eq]; omega, fun q hq => ?_⟩
  have e2 : Ext F R1 H1 R1 (upd H1 q (.lst vs)) := .new0 hq
  refine k q (.lst (xs.map (·.d))) (allFr xs) R1 _ (e1.trans e2) (o1.new0 hq .lst) ⟨fun r => ?_, mx_none o1.inv hq, o1.ent2 q (.of hq), o1.pn q (.of hq), ⟨vs, upd_same, l.ext o1 e2⟩⟩ (e1.there q (.of hq)) q1
  obtain ⟨_, o, z, _⟩ := o1.good q r
  rw [hq] at z; cases z
theorem de_lst {es : List Expr} {fs : TDs} (h : DA X E c es fs) : DE X E c (.List es pos) (fun ρ XQ Q => fs ρ XQ fun xs => xs.length ≤ 1000 ∧ Q ⟨.lst (xs.map (·.d)), allFr xs, none⟩) := (dn_lst h).de
end
end DL

set_option Elab.async false
set_option linter.all false
set_option maxRecDepth 100000
set_option maxHeartbeats 4000000
/-! DL, part v: a tuple times a number, where the tuple itself is told. -/
namespace DL
open PySem PySem.Spec PyProof.Rows L2
theorem tuple_mulS (l : Addr) (items : Array Value) (n : Nat) (dd : Option Addr) (sl : Array (Option Value)) (x : Int) (u : Tok) (h0 : 0 ≤ x) (h1 : x ≤ 1000) (c1 : (items.isEmpty || x == 1) = true) :
    Meets (Builtin.«tuple.__mul__» ⟨[.ref l, .int x u], []⟩) (fun _ R s => s.heap.get? l = some { cls := .type "tuple", dict := dd, data := .seq items n, slots := sl } ∧ R (.ok (.ret (.ref l))) { s with heap := s.heap, toks := s.toks }) :=
  .of_wp fun prog w A R s h => by
    obtain ⟨hp, g, d, tk, os⟩ := s
    obtain ⟨hl, h⟩ := h
    have f1 := AutoSeq1.idx_int
    have c0 : (decide (x < -(2 ^ 63)) || decide (x ≥ 2 ^ 63)) = false := by
      rw [decide_eq_false (by omega), decide_eq_false (by omega)] <;> rfl
    wp_walk using wpAny_loadPart' hl
    repeat (first
      | (refine wpAny_ite_false (decide_eq_false (by rw [c0]; exact Bool.false_ne_true)) ?_; wp_walk using wpAny_loadPart' hl)
      | (refine wpAny_ite_true (decide_eq_true c1) ?_; wp_walk using wpAny_loadPart' hl))
    exact ⟨_, rfl, h⟩
def rRepS (K : PySem.W.Frag) : R2 := fun x y H Q => ∃ l k xs, x = .ref l ∧ y = .int k ∧ SqT K H l xs ∧ (xs = [] ∨ k = 1) ∧ 0 ≤ k ∧ k ≤ 1000 ∧ Q (.ref l) H
theorem op_repS {X : Cx} : OpR X (binaryOp .Mult) (rRepS X.K) := by
  intro pins s σ H x y v u Q I rx ry h
  obtain ⟨l, k, xs, rfl, rfl, hT, hne, h1, h2, q⟩ := h
  cases rx
  obtain ⟨t, rfl⟩ := ry
  obtain ⟨its, r, ⟨⟨cls, dd, data, sl⟩, ho, hc, n, hd⟩, hs⟩ := I.tuple hT
  simp only at hc hd
  subst hc hd
  have c1 : (its.toArray.isEmpty || k == 1) = true := by
    rcases hne with e | e
    · subst e
      have : its = [] := by cases r; rfl
      rw [this]; rfl
    · rw [e]; simp
  refine wpAny_binaryOp_repeat_ref (T := "tuple") (U := "int") (by decide) ⟨_, ho, rfl⟩ (fun s' => typeIs_int s' k t) noFill_tuple_mul F.fills_int_mul F.slot_int_rmul repeat_tuple F.slot_int_index.lookup
    (call_meets F.slot_int_rmul (typeIs_int s k t) F.entry_int_rmul (F.args_int_rmul_2 _ _) (int_rmul_tuple k t l its.toArray n dd sl)
      ⟨ho, rfl, ⟨_, ho, rfl⟩, call_meets F.slot_tuple_mul ⟨_, ho, rfl⟩ F.entry_tuple_mul (F.args_tuple_mul_2 _ _) (tuple_mulS l its.toArray n dd sl k t h1 h2 c1) ⟨ho, ?_⟩⟩)
  exact ⟨.ref l, H, I, rfl, q⟩
end DL

set_option Elab.async false
set_option linter.all false
set_option maxRecDepth 100000
set_option maxHeartbeats 4000000
/-! DL, part c: operators on data. -/
namespace DL
open PySem PySem.Spec PyProof.Rows L2

/-- the greatest length -/
abbrev BIG : Nat := 16777216
theorem le_line {n : Nat} (h : n ≤ BIG) : n ≤ sizeLine := by rw [sizeLine_eq]; exact h
theorem lt_line {n : Nat} (h : n < BIG) : n < sizeLine := by rw [sizeLine_eq]; exact h

/-! ### equality of data -/
mutual
def D.eqv : D → D → Bool
  | .non, .non => true
  | .bl a, .bl b => a == b
  | .bl a, .int j => (if a then 1 else 0) == j
  | .int i, .bl b => i == (if b then 1 else 0)
  | .int i, .int j => i == j
  | .str x, .str y => x == y
  | .lst xs, .lst ys => D.eqvL xs ys
  | .tup xs, .tup ys => D.eqvL xs ys
  | _, _ => false
def D.eqvL : List D → List D → Bool
  | [], [] => true
  | x :: xs, y :: ys => D.eqv x y && D.eqvL xs ys
  | _, _ => false
end
mutual
def D.py : D → PyData
  | .non => .none
  | .bl b => .bool b
  | .int i => .int i
  | .str x => .str x
  | .lst xs => .list (D.pyL xs)
  | .tup xs => .tuple (D.pyL xs)
  | _ => .none
def D.pyL : List D → List PyData
  | [] => []
  | x :: xs => D.py x :: D.pyL xs
end
mutual
/-- data of None, truth values, ints, texts, lists and tuples -/
def D.pln : D → Bool
  | .lst xs => D.plnL xs
  | .tup xs => D.plnL xs
  | .dct _ => false
  | .strm => false
  | .vee _ => false
  | .obj _ _ => false
  | .bm _ _ => false
  | .str x => PyData.strOk x
  | _ => true
def D.plnL : List D → Bool
  | [] => true
  | x :: xs => D.pln x && D.plnL xs
end
mutual
def D.dep : D → Nat
  | .lst xs => D.depL xs + 1
  | .tup xs => D.depL xs + 1
  | _ => 0
def D.depL : List D → Nat
  | [] => 0
  | x :: xs => max (D.dep x) (D.depL xs)
end
mutual
theorem pln_lay : ∀ d : D, d.pln = true → d.py.canLay0 = true
  | .non, _ => rfl
  | .bl _, _ => rfl
  | .int _, _ => rfl
  | .str x, h => by simpa [D.pln, D.py, PyData.canLay0] using h
  | .lst xs, h => by simpa [D.py, PyData.canLay0] using plnL_lay xs (by simpa [D.pln] using h)
  | .tup xs, h => by simpa [D.py, PyData.canLay0] using plnL_lay xs (by simpa [D.pln] using h)
theorem plnL_lay : ∀ d : List D, D.plnL d = true → PyData.canLayAll0 (D.pyL d) = true
  | [], _ => rfl
  | x :: xs, h => by
    simp only [D.plnL, Bool.and_eq_true] at h
    simp only [D.pyL, PyData.canLayAll0, pln_lay x h.1, plnL_lay xs h.2, Bool.and_self]
end
mutual
theorem dep_py : ∀ d : D, d.py.depth = d.dep
  | .non => rfl
  | .bl _ => rfl
  | .int _ => rfl
  | .str _ => rfl
  | .dct _ => rfl
  | .strm => rfl
  | .vee _ => rfl
  | .obj _ _ => rfl
  | .bm _ _ => rfl
  | .lst xs => by simp only [D.py, PyData.depth, D.dep, depL_py xs]
  | .tup xs => by simp only [D.py, PyData.depth, D.dep, depL_py xs]
theorem depL_py : ∀ d : List D, PyData.depthAll (D.pyL d) = D.depL d
  | [] => rfl
  | x :: xs => by simp only [D.pyL, PyData.depthAll, D.depL, dep_py x, depL_py xs]
end
/-- data that == looks through -/
def D.shp (d : D) : Bool := d.pln && decide (d.dep ≤ 64)
theorem shp_shaped {d : D} (h : d.shp = true) : SeqAt.shaped d.py = true := by
  unfold D.shp at h
  unfold SeqAt.shaped
  simp only [Bool.and_eq_true, decide_eq_true_eq] at h ⊢
  exact ⟨pln_lay d h.1, by rw [dep_py]; exact h.2⟩
mutual
theorem eqv_py : ∀ d e : D, d.pln = true → e.pln = true → PyData.eqv d.py e.py = D.eqv d e
  | .lst xs, .lst ys, h, k => by simpa [D.py, PyData.eqv, D.eqv] using eqvL_py xs ys (by simpa [D.pln] using h) (by simpa [D.pln] using k)
  | .tup xs, .tup ys, h, k => by simpa [D.py, PyData.eqv, D.eqv] using eqvL_py xs ys (by simpa [D.pln] using h) (by simpa [D.pln] using k)
  | .non, e, _, k => by cases e <;> simp_all [D.py, PyData.eqv, D.eqv, D.pln]
  | .bl _, e, _, k => by cases e <;> simp_all [D.py, PyData.eqv, D.eqv, D.pln]
  | .int _, e, _, k => by cases e <;> simp_all [D.py, PyData.eqv, D.eqv, D.pln]
  | .str _, e, _, k => by cases e <;> simp_all [D.py, PyData.eqv, D.eqv, D.pln]
  | .lst _, .non, _, _ => rfl
  | .lst _, .bl _, _, _ => rfl
  | .lst _, .int _, _, _ => rfl
  | .lst _, .str _, _, _ => rfl
  | .lst _, .tup _, _, _ => rfl
  | .tup _, .non, _, _ => rfl
  | .tup _, .bl _, _, _ => rfl
  | .tup _, .int _, _, _ => rfl
  | .tup _, .str _, _, _ => rfl
  | .tup _, .lst _, _, _ => rfl
theorem eqvL_py : ∀ d e : List D, D.plnL d = true → D.plnL e = true → PyData.eqvAll (D.pyL d) (D.pyL e) = D.eqvL d e
  | [], [], _, _ => rfl
  | [], _ :: _, _, _ => rfl
  | _ :: _, [], _, _ => rfl
  | x :: xs, y :: ys, h, k => by
    simp only [D.plnL, Bool.and_eq_true] at h k
    simp only [D.pyL, PyData.eqvAll, D.eqvL, eqv_py x y h.1 k.1, eqvL_py xs ys h.2 k.2]
end
mutual
theorem RpD.dp {F : Fx} {H : Hp} {R : Reg} : ∀ {n : Bool} {v : V} {d : D}, RpD F H R n v d → d.pln = true → Dp F.K H v d.py
  | _, _, _, .non, _ => .non
  | _, _, _, .bl b, _ => .bl b
  | _, _, _, .int i, _ => .int i
  | _, _, _, .str x, _ => .str x
  | _, _, _, .lst h _ _ t, e => .lst (.of h) (t.dp (by simpa [D.pln] using e))
  | _, _, _, .tup h t, e => .tup h (t.dp (by simpa [D.pln] using e))
theorem RpL.dp {F : Fx} {H : Hp} {R : Reg} : ∀ {n : Bool} {v : List V} {d : List D}, RpL F H R n v d → D.plnL d = true → DpAll F.K H v (D.pyL d)
  | _, _, _, .nil, _ => .nil
  | _, _, _, .cons a t, e => by
    simp only [D.plnL, Bool.and_eq_true] at e
    exact .cons (a.dp e.1) (t.dp e.2)
end
section
variable {X : Cx}
def gEq (neg : Bool) : GD2 := fun x y Q => x.d.shp = true ∧ y.d.shp = true ∧ Q ⟨.bl (if neg then !D.eqv x.d y.d else D.eqv x.d y.d), true, none⟩
theorem shp_pln {d : D} (h : d.shp = true) : d.pln = true := (Bool.and_eq_true_iff.mp h).1
theorem dop_eq (hu : X.A.units + 64 < cLine) : DOp X (compareOp .Eq) (gEq false) :=
  ⟨_, op_eqD hu, fun F B R H v u x y Q K hK I rx ry ⟨hx, hy, q⟩ k => ⟨x.d.py, y.d.py, by rw [← hK]; exact rx.1.dp (shp_pln hx), by rw [← hK]; exact ry.1.dp (shp_pln hy), shp_shaped hx, shp_shaped hy, by
    rw [eqv_py _ _ (shp_pln hx) (shp_pln hy)]
    exact k _ _ R H .refl I (.of (.bl _)) q⟩⟩
theorem dop_ne (hu : X.A.units + 64 < cLine) : DOp X (compareOp .NotEq) (gEq true) :=
  ⟨_, op_neD hu, fun F B R H v u x y Q K hK I rx ry ⟨hx, hy, q⟩ k => ⟨x.d.py, y.d.py, by rw [← hK]; exact rx.1.dp (shp_pln hx), by rw [← hK]; exact ry.1.dp (shp_pln hy), shp_shaped hx, shp_shaped hy, by
    rw [eqv_py _ _ (shp_pln hx) (shp_pln hy)]
    exact k _ _ R H .refl I (.of (.bl _)) q⟩⟩

/-! ### ints -/
/-- two ints in, a scalar out -/
def gI (C : Int → Int → Prop) (g : Int → Int → D) : GD2 := fun x y Q => match x.d, y.d with
  | .int i, .int j => C i j ∧ Q ⟨g i j, true, none⟩
  | _, _ => False
theorem dop_I {f : Value → Value → Sem Value} {C : Int → Int → Prop} {gv : Int → Int → V} {g : Int → Int → D} (h : OpR X f (rI C gv)) (hg : ∀ F H R i j, RpD F H R true (gv i j) (g i j)) : DOp X f (gI C g) :=
  ⟨_, h, fun F B R H v u x y Q K hK I rx ry q k => by
    obtain ⟨dx, nx, vx⟩ := x
    obtain ⟨dy, ny, vy⟩ := y
    cases dx <;> cases dy <;> try exact q.elim
    have r1 := rx.1
    have r2 := ry.1
    cases r1
    cases r2
    exact ⟨_, _, rfl, rfl, q.1, k _ _ R H .refl I (.of (hg F H R _ _)) q.2⟩⟩
theorem rI0_I {gv : Int → Int → V} {f : Value → Value → Sem Value} (h : OpR X f (rI0 gv)) : OpR X f (rI (fun _ _ => True) gv) := fun pins s σ H x y v u Q I rx ry ⟨i, j, e1, e2, _, q⟩ => h pins s σ H x y v u Q I rx ry ⟨i, j, e1, e2, q⟩
theorem dop_lt : DOp X (compareOp .Lt) (gI (fun _ _ => True) fun i j => .bl (decide (i < j))) := dop_I (rI0_I op_lt) fun _ _ _ _ _ => .bl _
theorem dop_le : DOp X (compareOp .LtE) (gI (fun _ _ => True) fun i j => .bl (decide (i ≤ j))) := dop_I (rI0_I op_le) fun _ _ _ _ _ => .bl _
theorem dop_gt : DOp X (compareOp .Gt) (gI (fun _ _ => True) fun i j => .bl (decide (j < i))) := dop_I (rI0_I op_gt) fun _ _ _ _ _ => .bl _
theorem dop_ge : DOp X (compareOp .GtE) (gI (fun _ _ => True) fun i j => .bl (decide (j ≤ i))) := dop_I (rI0_I op_ge) fun _ _ _ _ _ => .bl _
theorem dop_sub : DOp X (binaryOp .Sub) (gI (fun _ _ => True) fun i j => .int (i - j)) := dop_I (rI0_I op_sub) fun _ _ _ _ _ => .int _
theorem dop_mod : DOp X (binaryOp .Mod) (gI (fun _ j => 0 < j) fun i j => .int (i % j)) := dop_I op_mod fun _ _ _ _ _ => .int _
theorem dop_fdiv : DOp X (binaryOp .FloorDiv) (gI CDiv fun i j => .int (i / j)) := dop_I op_fdiv fun _ _ _ _ _ => .int _
theorem dop_pow : DOp X (binaryOp .Pow) (gI CPow fun i j => .int (i ^ j.toNat)) := dop_I op_pow fun _ _ _ _ _ => .int _

/-! ### +, * -/
def gAdd : GD2 := fun x y Q => match x.d, y.d with
  | .int i, .int j => Q ⟨.int (i + j), true, none⟩
  | .int i, .bl j => Q ⟨.int (i + b2i j), true, none⟩
  | .str i, .str j => i.length + j.length ≤ BIG ∧ Q ⟨.str (i ++ j), true, none⟩
  | .lst xs, .lst ys => xs.length + ys.length ≤ BIG ∧ Q ⟨.lst (xs ++ ys), x.fr && y.fr, none⟩
  | .tup xs, .tup ys => xs.length + ys.length ≤ BIG ∧ Q ⟨.tup (xs ++ ys), x.fr && y.fr, none⟩
  | _, _ => False
theorem not_frozen {F : Fx} {B : Nat} {R : Reg} {H : Hp} (o : HpOk F B R H) {q : Addr} (hq : H q = none) : ¬ R q := fun r => by
  obtain ⟨_, u, z, _⟩ := o.good q r
  rw [hq] at z; cases z
/-- a new list is told -/
theorem new_lst {F : Fx} {B : Nat} {R : Reg} {H : Hp} {n : Bool} {vs : List V} {ds : List D} {q : Addr} (I : HpOk F B R H) (hq : H q = none) (l : RpL F H R n vs ds) : Ext F R H (R.add q) (upd H q (.lst vs)) ∧ HpOk F B (R.add q) (upd H q (.lst vs)) ∧ RpD F (upd H q (.lst vs)) (R.add q) n (.ref q) (.lst ds) :=
  ⟨.new1 hq, I.new hq .lst, .lst upd_same (.inr rfl) (fun _ => I.pn q (.of hq)) (l.ext I (.new1 hq))⟩
theorem new_tup {F : Fx} {B : Nat} {R : Reg} {H : Hp} {n : Bool} {vs : List V} {ds : List D} {q : Addr} (I : HpOk F B R H) (hq : H q = none) (l : RpL F H R n vs ds) : Ext F R H R (upd H q (.tup vs)) ∧ HpOk F B R (upd H q (.tup vs)) ∧ RpD F (upd H q (.tup vs)) R n (.ref q) (.tup ds) :=
  ⟨.new0 hq, I.new0 hq .tup, .tup (.of upd_same) (l.ext I (.new0 hq))⟩
theorem and_l {a b : Bool} : (a && b) = true → a = true := fun h => (Bool.and_eq_true_iff.mp h).1
theorem and_r {a b : Bool} : (a && b) = true → b = true := fun h => (Bool.and_eq_true_iff.mp h).2
/-- the items of a list as they are known to be new -/
theorem Rp.lstL {F : Fx} {R : Reg} {H : Hp} {x : Dv} {v : V} {ds : List D} (h : Rp F H R x v) (e : x.d = .lst ds) : ∃ a vs, v = .ref a ∧ H a = some (.lst vs) ∧ RpL F H R x.fr vs ds := by
  have r := h.fr
  rw [e] at r
  cases r with
  | lst h1 _ _ t => exact ⟨_, _, rfl, h1, t⟩
theorem Rp.tupL {F : Fx} {R : Reg} {H : Hp} {x : Dv} {v : V} {ds : List D} (h : Rp F H R x v) (e : x.d = .tup ds) : ∃ a vs, v = .ref a ∧ SqT F.K H a vs ∧ RpL F H R x.fr vs ds := by
  have r := h.fr
  rw [e] at r
  cases r with
  | tup h1 t => exact ⟨_, _, rfl, h1, t⟩
theorem dop_add : DOp X (binaryOp .Add) gAdd :=
  ⟨_, ((op_add.or op_add_ib).or op_add_str).or (op_cat.or op_catA), fun F B R H v u x y Q K hK I rx ry q k => by
    obtain ⟨dx, nx, vx⟩ := x
    obtain ⟨dy, ny, vy⟩ := y
    cases dx <;> cases dy <;> try exact q.elim
    case int.int =>
      have r1 := rx.1; have r2 := ry.1
      cases r1; cases r2
      exact .inl (.inl (.inl ⟨_, _, rfl, rfl, k _ _ R H .refl I (.of (.int _)) q⟩))
    case int.bl =>
      have r1 := rx.1; have r2 := ry.1
      cases r1; cases r2
      exact .inl (.inl (.inr ⟨_, _, rfl, rfl, k _ _ R H .refl I (.of (.int _)) q⟩))
    case str.str =>
      have r1 := rx.1; have r2 := ry.1
      cases r1; cases r2
      exact .inl (.inr ⟨_, _, rfl, rfl, le_line q.1, k _ _ R H .refl I (.of (.str _)) q.2⟩)
    case lst.lst xs ys =>
      obtain ⟨a, vs, rfl, ha, la⟩ := rx.lstL rfl
      obtain ⟨b, us, rfl, hb, lb⟩ := ry.lstL rfl
      refine .inr (.inl ⟨a, b, vs, us, rfl, rfl, ha, hb, le_line (by rw [la.len, lb.len]; exact q.1), fun p hp => ?_⟩)
      obtain ⟨e, o, r⟩ := new_lst I hp ((la.weak and_l).app (lb.weak and_r))
      exact k _ _ _ _ e o (.of r) q.2
    case tup.tup xs ys =>
      obtain ⟨a, vs, rfl, ha, la⟩ := rx.tupL rfl
      obtain ⟨b, us, rfl, hb, lb⟩ := ry.tupL rfl
      refine .inr (.inr ⟨a, b, vs, us, rfl, rfl, hK ▸ ha, hK ▸ hb, le_line (by rw [la.len, lb.len]; exact q.1), fun z => ?_, fun z1 z2 => ?_, fun _ _ p hp => ?_⟩)
      · subst z
        cases la
        refine k _ ⟨.tup ys, _, none⟩ R H .refl I (.of (.tup hb (lb.weak and_r))) q.2
      · subst z2
        cases lb
        refine k _ ⟨.tup xs, _, none⟩ R H .refl I (.of (.tup ha (la.weak and_l))) (by have := q.2; rw [List.append_nil] at this; exact this)
      · obtain ⟨e, o, r⟩ := new_tup I hp ((la.weak and_l).app (lb.weak and_r))
        exact k _ _ _ _ e o (.of r) q.2⟩
theorem rep_rpl {F : Fx} {H : Hp} {R : Reg} {n : Bool} {vs : List V} {ds : List D} (h : RpL F H R n vs ds) : ∀ k : Nat, RpL F H R n (List.replicate k vs).flatten (List.replicate k ds).flatten
  | 0 => .nil
  | k + 1 => by rw [List.replicate_succ, List.flatten_cons, List.replicate_succ, List.flatten_cons]; exact h.app (rep_rpl h k)
def gMul : GD2 := fun x y Q => match x.d, y.d with
  | .int i, .int j => CMul i j ∧ Q ⟨.int (i * j), true, none⟩
  | .lst xs, .int k => -(2 ^ 63) ≤ k ∧ k < 2 ^ 63 ∧ xs.length * k.toNat ≤ BIG ∧ Q ⟨.lst (List.replicate k.toNat xs).flatten, x.fr, none⟩
  | .tup xs, .int k => 1 ≤ k ∧ k ≤ 1000 ∧ xs.length ≤ 1000 ∧ Q ⟨.tup (List.replicate k.toNat xs).flatten, x.fr, none⟩
  | _, _ => False
theorem dop_mul : DOp X (binaryOp .Mult) gMul :=
  ⟨_, op_mul.or (op_rep.or (op_repS.or op_repT)), fun F B R H v u x y Q K hK I rx ry q k => by
    obtain ⟨dx, nx, vx⟩ := x
    obtain ⟨dy, ny, vy⟩ := y
    cases dx <;> cases dy <;> try exact q.elim
    case int.int =>
      have r1 := rx.1; have r2 := ry.1
      cases r1; cases r2
      exact .inl ⟨_, _, rfl, rfl, q.1, k _ _ R H .refl I (.of (.int _)) q.2⟩
    case lst.int xs j =>
      obtain ⟨a, vs, rfl, ha, la⟩ := rx.lstL rfl
      have r2 := ry.1
      cases r2
      obtain ⟨q1, q2, q3, q4⟩ := q
      refine .inr (.inl ⟨a, j, vs, rfl, rfl, ha, q1, q2, le_line (by rw [la.len]; exact q3), fun p hp => ?_⟩)
      obtain ⟨e, o, r⟩ := new_lst I hp (rep_rpl la j.toNat)
      exact k _ _ _ _ e o (.of r) q4
    case tup.int xs j =>
      obtain ⟨a, vs, rfl, ha, la⟩ := rx.tupL rfl
      have r2 := ry.1
      cases r2
      obtain ⟨q1, q2, q3, q4⟩ := q
      by_cases z : vs = [] ∨ j = 1
      · refine .inr (.inr (.inl ⟨a, j, vs, rfl, rfl, hK ▸ ha, z, by omega, q2, ?_⟩))
        have ef : (List.replicate j.toNat xs).flatten = xs := by
          rcases z with z | z
          · subst z
            cases la
            simp
          · subst z
            simp
        rw [ef] at q4
        exact k _ ⟨.tup xs, _, none⟩ R H .refl I (.of (.tup ha la)) q4
      · have z1 : vs ≠ [] := fun e => z (.inl e)
        have z2 : j ≠ 1 := fun e => z (.inr e)
        refine .inr (.inr (.inr ⟨a, j, vs, rfl, rfl, hK ▸ ha, z1, by omega, q2, by rw [la.len]; exact q3, fun p hp => ?_⟩))
        obtain ⟨e, o, r⟩ := new_tup I hp (rep_rpl la j.toNat)
        exact k _ _ _ _ e o (.of r) q4⟩

/-! ### is None, in -/
theorem dop_isN : DOp X (compareOp .Is) (fun x y Q => y.d = .non ∧ Q ⟨.bl (match x.d with | .non => true | _ => false), true, none⟩ ∧ ∀ v, x.d ≠ .vee v) :=
  ⟨_, op_isN, fun F B R H v u x y Q K hK I rx ry ⟨e, q, nv⟩ k => by
    have r2 := ry.1
    rw [e] at r2
    cases r2
    refine ⟨rfl, ?_⟩
    have w : decide (v = .non) = (match x.d with | .non => true | _ => false) := by
      have r1 := rx.1
      obtain ⟨dx, nx, vx⟩ := x
      cases r1 <;> first | rfl | exact absurd rfl (nv _)
    rw [w]
    exact k _ _ R H .refl I (.of (.bl _)) q⟩
theorem dop_notN : DOp X (compareOp .IsNot) (fun x y Q => y.d = .non ∧ Q ⟨.bl (match x.d with | .non => false | _ => true), true, none⟩ ∧ ∀ v, x.d ≠ .vee v) :=
  ⟨_, op_notN, fun F B R H v u x y Q K hK I rx ry ⟨e, q, nv⟩ k => by
    have r2 := ry.1
    rw [e] at r2
    cases r2
    refine ⟨rfl, ?_⟩
    have w : (!decide (v = .non)) = (match x.d with | .non => false | _ => true) := by
      have r1 := rx.1
      obtain ⟨dx, nx, vx⟩ := x
      cases r1 <;> first | rfl | exact absurd rfl (nv _)
    rw [w]
    exact k _ _ R H .refl I (.of (.bl _)) q⟩
/-- x in a list or a tuple of scalars -/
def D.scaL : List D → Bool
  | [] => true
  | x :: xs => x.sca && D.scaL xs
def D.isIn (x : D) : List D → Bool
  | [] => false
  | y :: ys => D.eqv y x || D.isIn x ys
theorem sca_flat {F : Fx} {H : Hp} {R : Reg} {n : Bool} {v : V} {d : D} (h : RpD F H R n v d) (s : d.sca = true) : flatV v = true := by
  cases h <;> first | rfl | cases s
theorem sca_eq {F : Fx} {H : Hp} {R : Reg} {n m : Bool} {v u : V} {d e : D} (h : RpD F H R n v d) (k : RpD F H R m u e) (s : d.sca = true) (s2 : e.sca = true) : eqV v u = D.eqv d e := by
  cases h <;> cases k <;> first | rfl | (simp [D.sca] at s; done) | (simp [D.sca] at s2; done) | simp [eqV, D.eqv]
theorem scaL_flat {F : Fx} {H : Hp} {R : Reg} : ∀ {n : Bool} {vs : List V} {ds : List D}, RpL F H R n vs ds → D.scaL ds = true → vs.all flatV = true
  | _, _, _, .nil, _ => rfl
  | _, _, _, .cons a t, e => by
    simp only [D.scaL, Bool.and_eq_true] at e
    rw [List.all_cons, sca_flat a e.1, scaL_flat t e.2, Bool.and_self]
theorem isIn_eq {F : Fx} {H : Hp} {R : Reg} {m : Bool} {u : V} {e : D} (k : RpD F H R m u e) (s2 : e.sca = true) : ∀ {n : Bool} {vs : List V} {ds : List D}, RpL F H R n vs ds → D.scaL ds = true → inV u vs = D.isIn e ds
  | _, _, _, .nil, _ => rfl
  | _, _, _, .cons a t, z => by
    simp only [D.scaL, Bool.and_eq_true] at z
    show (eqV _ u || inV u _) = _
    rw [sca_eq a k z.1 s2, isIn_eq k s2 t z.2]
    rfl
def gIn (neg : Bool) : GD2 := fun x y Q => x.d.sca = true ∧ match y.d with
  | .lst ds => D.scaL ds = true ∧ Q ⟨.bl (if neg then !D.isIn x.d ds else D.isIn x.d ds), true, none⟩
  | .tup ds => D.scaL ds = true ∧ Q ⟨.bl (if neg then !D.isIn x.d ds else D.isIn x.d ds), true, none⟩
  | _ => False
theorem gIn_of {neg : Bool} (F B R H v u x y) (Q : Dv → Prop) (K : VK) (hK : F.K = X.K) (I : HpOk F B R H) (rx : Rp F H R x v) (ry : Rp F H R y u) (q : gIn neg x y Q)
    (k : ∀ w z R' H', Ext F R H R' H' → HpOk F B R' H' → Rp F H' R' z w → Q z → K w H') : rIn X.K neg v u H K := by
  obtain ⟨dy, ny, vy⟩ := y
  obtain ⟨sx, q⟩ := q
  cases dy <;> try exact q.elim
  case lst ds =>
    obtain ⟨a, vs, rfl, ha, la⟩ := ry.lstL rfl
    refine ⟨a, vs, rfl, .inl (.of ha), sca_flat rx.1 sx, scaL_flat la q.1, ?_⟩
    rw [isIn_eq rx.1 sx la q.1]
    exact k _ _ R H .refl I (.of (.bl _)) q.2
  case tup ds =>
    obtain ⟨a, vs, rfl, ha, la⟩ := ry.tupL rfl
    refine ⟨a, vs, rfl, .inr (hK ▸ ha), sca_flat rx.1 sx, scaL_flat la q.1, ?_⟩
    rw [isIn_eq rx.1 sx la q.1]
    exact k _ _ R H .refl I (.of (.bl _)) q.2
theorem dop_in : DOp X (compareOp .In) (gIn false) := ⟨_, op_in_seq, gIn_of⟩
theorem dop_notIn : DOp X (compareOp .NotIn) (gIn true) := ⟨_, op_notIn_seq, gIn_of⟩
end
end DL

set_option Elab.async false
set_option linter.all false
set_option maxRecDepth 100000
set_option maxHeartbeats 4000000
/-! DL, part d: calls of built-ins, subscripts, slices, isinstance, calls of defs. -/
namespace DL
open PySem PySem.Spec PyProof.Rows L2

/-! ### built-ins on data -/
abbrev GDs := List Dv → (Dv → Prop) → Prop
def DCl (X : Cx) (f : Value) (g : GDs) : Prop := ∃ r : List V → Hp → VK → Prop, CallR X f r ∧ ∀ F B R H vs xs Q (K : VK), F.K = X.K → HpOk F B R H → Paired (fun x v => Rp F H R x v) xs vs → g xs Q →
  (∀ w z R' H', Ext F R H R' H' → HpOk F B R' H' → Rp F H' R' z w → Q z → K w H') → r vs H K
section
variable {X : Cx} {E : XK} {c ca cb cc : Nat} {a b e : Expr} {es : List Expr} {fa fb fe : TD} {fs : TDs} {pos p : Pos} {x : Str}
theorem dcl_use {r : List V → Hp → VK → Prop} {g : GDs} (sr : ∀ F B R H vs xs Q (K : VK), F.K = X.K → HpOk F B R H → Paired (fun x v => Rp F H R x v) xs vs → g xs Q →
    (∀ w z R' H', Ext F R H R' H' → HpOk F B R' H' → Rp F H' R' z w → Q z → K w H') → r vs H K) (pe : ∀ t, PA X es t → PE X e (tCB r t)) (ha : DA X E c es fs) : DE X E c e (fun ρ XQ Q => fs ρ XQ fun xs => g xs Q) := by
  obtain ⟨t, p, s⟩ := ha
  refine ⟨_, pe t p, fun F B R H σ ρ α XQ Q K hK hX hB S h k => ?_⟩
  refine s F B R H σ ρ α XQ _ _ hK hX hB S h fun vs xs R1 H1 e1 o1 r1 q1 => ?_
  exact sr F _ R1 H1 vs xs Q K hK o1 r1 q1 fun w z R2 H2 e2 o2 r2 q2 => k w z R2 H2 (e1.trans e2) o2 r2 q2
theorem de_callB {id : String} {g : GDs} (hc : DCl X (.builtin id) g) (hg : Gl X x) (hm : X.mg x = none) (hv : bootBuiltins x = some (.builtin id)) (ha : DA X E c (e :: es) fs) (hn : x ≠ "__name__" := by decide) (hdb : (x == ("__debug__" : Str)) = false := by decide)
    (he : starEach (e :: es) X.env = (false, eval e X.env) :: starEach es X.env := by rfl) (hpl : (backTo pos (starEach es X.env)).any (·.1) = false := by rfl) : DE X E c (.Call (.Name x p) (e :: es) [] pos) (fun ρ XQ Q => fs ρ XQ fun xs => g xs Q) := by
  obtain ⟨r, hr, sr⟩ := hc
  exact dcl_use sr (fun t pa => pe_callB hr hg hm hv pa hn hdb he hpl) ha
theorem de_callTy {T : String} {g : GDs} (hc : DCl X (.type T) g) (hg : Gl X x) (hm : X.mg x = none) (hv : bootBuiltins x = some (.type T)) (ha : DA X E c (e :: es) fs) (hn : x ≠ "__name__" := by decide) (hdb : (x == ("__debug__" : Str)) = false := by decide)
    (he : starEach (e :: es) X.env = (false, eval e X.env) :: starEach es X.env := by rfl) (hpl : (backTo pos (starEach es X.env)).any (·.1) = false := by rfl) : DE X E c (.Call (.Name x p) (e :: es) [] pos) (fun ρ XQ Q => fs ρ XQ fun xs => g xs Q) := by
  obtain ⟨r, hr, sr⟩ := hc
  exact dcl_use sr (fun t pa => pe_callTy hr hg hm hv pa hn hdb he hpl) ha
/-- one argument -/
def g1 (g : Dv → (Dv → Prop) → Prop) : GDs := fun xs Q => match xs with
  | [x] => g x Q
  | _ => False
theorem dcl1 {f : Value} {g : Dv → (Dv → Prop) → Prop} {r : List V → Hp → VK → Prop} (hr : CallR X f r)
    (h : ∀ F B R H v x Q (K : VK), F.K = X.K → HpOk F B R H → Rp F H R x v → g x Q → (∀ w z R' H', Ext F R H R' H' → HpOk F B R' H' → Rp F H' R' z w → Q z → K w H') → r [v] H K) : DCl X f (g1 g) :=
  ⟨r, hr, fun F B R H vs xs Q K hK I rs q k => by
    match xs, vs, rs, q with
    | [x], [v], .cons r1 .nil, q => exact h F B R H v x Q K hK I r1 q k⟩
def gLen : Dv → (Dv → Prop) → Prop := fun x Q => match x.d with
  | .lst ds => Q ⟨.int ds.length, true, none⟩
  | .tup ds => Q ⟨.int ds.length, true, none⟩
  | .str s => s.length ≤ BIG ∧ Q ⟨.int s.length, true, none⟩
  | _ => False
theorem dcl_len : DCl X (.builtin "len") (g1 gLen) := dcl1 call_len fun F B R H v x Q K hK I r q k => by
  obtain ⟨d, n, vo⟩ := x
  cases d <;> try exact q.elim
  case lst ds =>
    obtain ⟨a, vs, rfl, ha, la⟩ := r.lstL rfl
    refine ⟨_, vs.length, rfl, .inl ⟨vs, .of ha, rfl⟩, k _ _ R H .refl I (.of ?_) q⟩
    rw [la.len]; exact .int _
  case tup ds =>
    obtain ⟨a, vs, rfl, ha, la⟩ := r.tupL rfl
    refine ⟨_, vs.length, rfl, .inr ⟨vs, hK ▸ ha, rfl⟩, k _ _ R H .refl I (.of ?_) q⟩
    rw [la.len]; exact .int _
  case str s =>
    have r1 := r.1
    cases r1
    exact ⟨_, s.length, rfl, ⟨le_line q.1, rfl⟩, k _ _ R H .refl I (.of (.int _)) q.2⟩
theorem rpl_bls {F : Fx} {H : Hp} {R : Reg} : ∀ {n : Bool} {bs : List Bool} {vs : List V}, RpL F H R n vs (bs.map D.bl) → vs = bs.map V.bl
  | _, [], _, .nil => rfl
  | _, b :: bs, _, .cons a t => by
    cases a
    rw [rpl_bls t]
    rfl
theorem rpl_ints {F : Fx} {H : Hp} {R : Reg} : ∀ {n : Bool} {bs : List Int} {vs : List V}, RpL F H R n vs (bs.map D.int) → vs = bs.map V.int
  | _, [], _, .nil => rfl
  | _, b :: bs, _, .cons a t => by
    cases a
    rw [rpl_ints t]
    rfl
theorem rpl_of_ints {F : Fx} {H : Hp} {R : Reg} {n : Bool} : ∀ bs : List Int, RpL F H R n (bs.map V.int) (bs.map D.int)
  | [] => .nil
  | b :: bs => .cons (.int b) (rpl_of_ints bs)
theorem dcl_all (hc : X.calm = true) : DCl X (.builtin "all") (g1 fun x Q => ∃ bs : List Bool, x.d = .lst (bs.map D.bl) ∧ Q ⟨.bl (bs.all id), true, none⟩) := dcl1 (cr_all hc) fun F B R H v x Q K hK I r ⟨bs, e, q⟩ k => by
  obtain ⟨a, vs, rfl, ha, la⟩ := r.lstL e
  rw [rpl_bls la] at ha
  exact ⟨a, bs, rfl, .of ha, k _ _ R H .refl I (.of (.bl _)) q⟩
theorem dcl_any (hc : X.calm = true) : DCl X (.builtin "any") (g1 fun x Q => ∃ bs : List Bool, x.d = .lst (bs.map D.bl) ∧ Q ⟨.bl (bs.any id), true, none⟩) := dcl1 (cr_any hc) fun F B R H v x Q K hK I r ⟨bs, e, q⟩ k => by
  obtain ⟨a, vs, rfl, ha, la⟩ := r.lstL e
  rw [rpl_bls la] at ha
  exact ⟨a, bs, rfl, .of ha, k _ _ R H .refl I (.of (.bl _)) q⟩
theorem dcl_int : DCl X (.type "int") (g1 fun x Q => match x.d with | .int i => Q ⟨.int i, true, none⟩ | .bl b => Q ⟨.int (if b then 1 else 0), true, none⟩ | _ => False) := dcl1 call_int1 fun F B R H v x Q K hK I r q k => by
  obtain ⟨d, n, vo⟩ := x
  have r1 := r.1
  cases d <;> try exact q.elim
  case int i => cases r1; exact .inl ⟨i, rfl, k _ _ R H .refl I (.of (.int _)) q⟩
  case bl i => cases r1; exact .inr ⟨i, rfl, k _ _ R H .refl I (.of (.int _)) q⟩
theorem dcl_abs : DCl X (.builtin "abs") (g1 fun x Q => match x.d with | .int i => Q ⟨.int (if i < 0 then -i else i), true, none⟩ | _ => False) := dcl1 call_abs fun F B R H v x Q K hK I r q k => by
  obtain ⟨d, n, vo⟩ := x
  have r1 := r.1
  cases d <;> try exact q.elim
  case int i => cases r1; exact ⟨i, rfl, k _ _ R H .refl I (.of (.int _)) q⟩
/-- list(x), tuple(x) of a list or a tuple -/
theorem dcl_list : DCl X (.type "list") (g1 fun x Q => match x.d with | .lst ds => Q ⟨.lst ds, x.fr, none⟩ | .tup ds => Q ⟨.lst ds, x.fr, none⟩ | _ => False) := dcl1 call_list_of fun F B R H v x Q K hK I r q k => by
  obtain ⟨d, n, vo⟩ := x
  cases d <;> try exact q.elim
  case lst ds =>
    obtain ⟨a, vs, rfl, ha, la⟩ := r.lstL rfl
    refine ⟨a, vs, rfl, .inl (.of ha), fun l hl => ?_⟩
    obtain ⟨e, o, r⟩ := new_lst I hl la
    exact k _ _ _ _ e o (.of r) q
  case tup ds =>
    obtain ⟨a, vs, rfl, ha, la⟩ := r.tupL rfl
    refine ⟨a, vs, rfl, .inr (hK ▸ ha), fun l hl => ?_⟩
    obtain ⟨e, o, r⟩ := new_lst I hl la
    exact k _ _ _ _ e o (.of r) q
theorem dcl_tuple : DCl X (.type "tuple") (g1 fun x Q => match x.d with | .lst ds => Q ⟨.tup ds, x.fr, none⟩ | .tup ds => Q ⟨.tup ds, x.fr, none⟩ | _ => False) := dcl1 call_tuple_of fun F B R H v x Q K hK I r q k => by
  obtain ⟨d, n, vo⟩ := x
  cases d <;> try exact q.elim
  case lst ds =>
    obtain ⟨a, vs, rfl, ha, la⟩ := r.lstL rfl
    refine ⟨a, vs, rfl, .inl ⟨.of ha, fun l hl => ?_⟩⟩
    obtain ⟨e, o, r⟩ := new_tup I hl la
    exact k _ _ _ _ e o (.of r) q
  case tup ds =>
    obtain ⟨a, vs, rfl, ha, la⟩ := r.tupL rfl
    exact ⟨a, vs, rfl, .inr ⟨hK ▸ ha, k _ _ R H .refl I (.of (.tup ha la)) q⟩⟩
/-- max, min of two ints -/
def g2I (g : Int → Int → Int) : GDs := fun xs Q => match xs with
  | [x, y] => match x.d, y.d with
    | .int i, .int j => Q ⟨.int (g i j), true, none⟩
    | _, _ => False
  | _ => False
theorem dcl_2I {f : Value} {g : Int → Int → Int} (hr : CallR X f (fun xs H Q => ∃ i j, xs = [.int i, .int j] ∧ Q (.int (g i j)) H)) : DCl X f (g2I g) :=
  ⟨_, hr, fun F B R H vs xs Q K hK I rs q k => by
    match xs, vs, rs, q with
    | [x, y], [v, u], .cons r1 (.cons r2 .nil), q =>
      obtain ⟨dx, nx, vx⟩ := x
      obtain ⟨dy, ny, vy⟩ := y
      cases dx <;> cases dy <;> try exact q.elim
      have z1 := r1.1; have z2 := r2.1
      cases z1; cases z2
      exact ⟨_, _, rfl, k _ _ R H .refl I (.of (.int _)) q⟩⟩
theorem dcl_max2 (hc : X.calm = true) : DCl X (.builtin "max") (g2I fun i j => if j > i then j else i) := dcl_2I (call_max2 hc)
theorem dcl_min2 (hc : X.calm = true) : DCl X (.builtin "min") (g2I fun i j => if j < i then j else i) := dcl_2I (call_min2 hc)

/-! ### subscripts, slices -/
theorem atI_map {α β : Type} {xs : List α} {ys : List β} (hl : xs.length = ys.length) {i : Int} {d : β} (h : atI ys i = some d) : ∃ j : Nat, ys[j]? = some d ∧ ∀ v, xs[j]? = some v → atI xs i = some v := by
  unfold atI at h
  rw [← hl] at h
  cases e : ixN xs.length i with
  | none => rw [e] at h; cases h
  | some j =>
    rw [e] at h
    exact ⟨j, h, fun v hv => by unfold atI; rw [e]; exact hv⟩
theorem atI_rp {F : Fx} {H : Hp} {R : Reg} {n : Bool} {vs : List V} {ds : List D} (l : RpL F H R n vs ds) {i : Int} {d : D} (h : atI ds i = some d) : ∃ v, atI vs i = some v ∧ RpD F H R n v d := by
  obtain ⟨j, h1, h2⟩ := atI_map l.len h
  obtain ⟨v, h3, r⟩ := l.get h1
  exact ⟨v, h2 v h3, r⟩
def gIx : GD2 := fun x y Q => match x.d, y.d with
  | .lst ds, .int i => ∃ d, atI ds i = some d ∧ Q ⟨d, x.fr, none⟩
  | .tup ds, .int i => ∃ d, atI ds i = some d ∧ Q ⟨d, x.fr, none⟩
  | .str s, .int i => s.length ≤ BIG ∧ ∃ c, atI s.cps.toList i = some c ∧ Q ⟨.str ⟨#[c]⟩, true, none⟩
  | _, _ => False
theorem de_ix (ha : DE X E ca a fa) (hb : DE X E cb b fb) (hs : PlainIx b) : DE X E (ca + cb) (.Subscript a b pos) (fun ρ XQ Q => fa ρ XQ fun x => fb ρ XQ fun y => gIx x y Q) :=
  de_two (t := fun ta tb => tOp (rIx X.K) ta tb) (fun _ _ => rfl) (fun _ _ pa pb => pe_ix ix_seq pa pb hs) (fun F B R H v u x y Q K hK I rx ry q k => by
    obtain ⟨dx, nx, vx⟩ := x
    obtain ⟨dy, ny, vy⟩ := y
    have r2 := ry.1
    cases dx <;> cases dy <;> try exact q.elim
    case lst.int ds i =>
      obtain ⟨a, vs, rfl, ha, la⟩ := rx.lstL rfl
      obtain ⟨d, hd, q⟩ := q
      obtain ⟨w, hw, r⟩ := atI_rp la hd
      cases r2
      exact .inl ⟨a, vs, i, w, rfl, rfl, .of ha, hw, k _ _ R H .refl I (.of r) q⟩
    case tup.int ds i =>
      obtain ⟨a, vs, rfl, ha, la⟩ := rx.tupL rfl
      obtain ⟨d, hd, q⟩ := q
      obtain ⟨w, hw, r⟩ := atI_rp la hd
      cases r2
      exact .inr (.inl ⟨a, vs, i, w, rfl, rfl, hK ▸ ha, hw, k _ _ R H .refl I (.of r) q⟩)
    case str.int s i =>
      have r1 := rx.1
      cases r1; cases r2
      obtain ⟨h1, c, h2, q⟩ := q
      exact .inr (.inr ⟨s, i, c, rfl, rfl, le_line h1, h2, k _ _ R H .refl I (.of (.str _)) q⟩)) ha hb
def cutL {α : Type} (xs : List α) (lo hi : Option Int) : List α := (xs.drop (HT.sIx xs.length 0 lo)).take (HT.sIx xs.length xs.length hi - HT.sIx xs.length 0 lo)
abbrev TDo := Ro → XQT → (Option Int → Prop) → Prop
def DO (X : Cx) (E : XK) (c : Nat) (e : Option Expr) (f : TDo) : Prop := ∃ t : TO, PO X e t ∧ ∀ F B R H σ ρ α XQ Q (K : Option Int → Hp → Prop), F.K = X.K → XLink F E XQ → B + c ≤ F.L → StOk F B R H σ ρ α → f ρ XQ Q →
  (∀ o R' H', Ext F R H R' H' → HpOk F (B + c) R' H' → Q o → K o H') → t σ H K
theorem do_none : DO X E 0 none (fun _ _ Q => Q none) := ⟨_, po_none, fun F B R H σ ρ α XQ Q K _ _ _ S h k => k none R H .refl S.hp h⟩
theorem do_some (ha : DE X E ca a fa) : DO X E ca (some a) (fun ρ XQ Q => fa ρ XQ fun x => ∃ i, x.d = .int i ∧ Q (some i)) := by
  obtain ⟨t, p, s⟩ := ha
  refine ⟨_, po_some p, fun F B R H σ ρ α XQ Q K hK hX hB S h k => ?_⟩
  refine s F B R H σ ρ α XQ _ _ hK hX hB S h fun v x R1 H1 e1 o1 r1 ⟨i, ei, q1⟩ => ?_
  have r2 := r1.1
  rw [ei] at r2
  cases r2
  exact ⟨i, rfl, k (some i) R1 H1 e1 o1 q1⟩
def gSl : Dv → Option Int → Option Int → (Dv → Prop) → Prop := fun x lo hi Q => match x.d with
  | .lst ds => Q ⟨.lst (cutL ds lo hi), x.fr, none⟩
  | .tup ds => Q ⟨.tup (cutL ds lo hi), x.fr, none⟩
  | _ => False
theorem cut_rp {F : Fx} {H : Hp} {R : Reg} {n : Bool} {vs : List V} {ds : List D} (l : RpL F H R n vs ds) (lo hi : Option Int) : RpL F H R n (cutV vs lo hi) (cutL ds lo hi) := by
  unfold cutV cutL
  rw [l.len]
  exact (l.drop _).take _
theorem cutL_all {α : Type} {xs : List α} {lo hi : Option Int} (h : HT.sIx xs.length 0 lo = 0 ∧ HT.sIx xs.length xs.length hi = xs.length) : cutL xs lo hi = xs := by
  unfold cutL
  rw [h.1, h.2, List.drop_zero, Nat.sub_zero, List.take_length]
theorem de_slice {lo hi : Option Expr} {fl fh : TDo} {p2 : Pos} (ha : DE X E ca a fa) (hl : DO X E cb lo fl) (hh : DO X E cc hi fh) : DE X E (ca + cb + cc) (.Subscript a (.Slice lo hi none p2) pos) (fun ρ XQ Q => fa ρ XQ fun x => fl ρ XQ fun l => fh ρ XQ fun h => gSl x l h Q) := by
  obtain ⟨ta, pa, sa⟩ := ha
  obtain ⟨tl, pl, sl⟩ := hl
  obtain ⟨th, ph, sh⟩ := hh
  refine ⟨_, pe_slice (sl_list.or sl_tupA) pa pl ph, fun F B R H σ ρ α XQ Q K hK hX hB S h k => ?_⟩
  refine sa F B R H σ ρ α XQ _ _ hK hX (by omega) S h fun v x R1 H1 e1 o1 r1 q1 => ?_
  refine sl F (B + ca) R1 H1 σ ρ α XQ _ _ hK hX (by omega) (S.ext e1 o1) q1 fun lo R2 H2 e2 o2 q2 => ?_
  refine sh F (B + ca + cb) R2 H2 σ ρ α XQ _ _ hK hX (by omega) ((S.ext e1 o1).ext e2 o2) q2 fun hi R3 H3 e3 o3 q3 => ?_
  have r3 := (r1.ext o1 e2).ext o2 e3
  have o3' : HpOk F (B + (ca + cb + cc)) R3 H3 := by have : B + (ca + cb + cc) = B + ca + cb + cc := by omega
                                                     rw [this]; exact o3
  have e13 := (e1.trans e2).trans e3
  obtain ⟨d, n, vo⟩ := x
  cases d <;> try exact q3.elim
  case lst ds =>
    obtain ⟨a, vs, rfl, ha, la⟩ := r3.lstL rfl
    refine .inl ⟨a, vs, rfl, .of ha, fun p hp => ?_⟩
    obtain ⟨e, o, r⟩ := new_lst o3' hp (cut_rp la lo hi)
    exact k _ _ _ _ (e13.trans e) o (.of r) q3
  case tup ds =>
    obtain ⟨a, vs, rfl, ha, la⟩ := r3.tupL rfl
    refine .inr ⟨a, vs, rfl, hK ▸ ha, fun w => ?_, fun w p hp => ?_⟩
    · rw [la.len] at w
      refine k (.ref a) ⟨.tup (cutL ds lo hi), Dv.fr ⟨.tup ds, n, vo⟩, none⟩ R3 H3 e13 o3' (.of ?_) q3
      show RpD F H3 R3 _ _ (.tup (cutL ds lo hi))
      rw [cutL_all w]
      exact .tup ha la
    · obtain ⟨e, o, r⟩ := new_tup o3' hp (cut_rp la lo hi)
      exact k _ _ _ _ (e13.trans e) o (.of r) q3

/-! ### isinstance -/
def D.ty : D → Option String
  | .non => some "NoneType"
  | .bl _ => some "bool"
  | .int _ => some "int"
  | .str _ => some "str"
  | .lst _ => some "list"
  | .tup _ => some "tuple"
  | .dct _ => some "dict"
  | .strm => some "list"
  | .vee _ => none
  | .obj _ _ => none
  | .bm _ _ => none
def D.isa (T : String) (d : D) : Bool := match d with
  | .non => T == "NoneType"
  | .bl _ => T == "bool" || T == "int"
  | .int _ => T == "int"
  | .str _ => T == "str"
  | .lst _ => T == "list"
  | .tup _ => T == "tuple"
  | .dct _ => T == "dict"
  | .strm => T == "list"
  | .vee _ => false
  | .obj _ _ => false
  | .bm _ _ => false
def TyOk (T : String) : Prop := ∀ (d : D) s, d.ty = some s → kitB s T = some (d.isa T)
theorem tyOk_of {T : String} (h1 : kitB "NoneType" T = some (T == "NoneType")) (h2 : kitB "bool" T = some (T == "bool" || T == "int")) (h3 : kitB "int" T = some (T == "int")) (h4 : kitB "str" T = some (T == "str")) (h5 : kitB "list" T = some (T == "list")) (h6 : kitB "tuple" T = some (T == "tuple")) (h7 : kitB "dict" T = some (T == "dict")) : TyOk T := fun d s e => by
  cases d <;> first | (cases e; assumption) | (simp [D.ty] at e; done)
theorem ty_int : TyOk "int" := tyOk_of (by decide +kernel) (by decide +kernel) (by decide +kernel) (by decide +kernel) (by decide +kernel) (by decide +kernel) (by decide +kernel)
theorem ty_bool : TyOk "bool" := tyOk_of (by decide +kernel) (by decide +kernel) (by decide +kernel) (by decide +kernel) (by decide +kernel) (by decide +kernel) (by decide +kernel)
theorem ty_str : TyOk "str" := tyOk_of (by decide +kernel) (by decide +kernel) (by decide +kernel) (by decide +kernel) (by decide +kernel) (by decide +kernel) (by decide +kernel)
theorem ty_list : TyOk "list" := tyOk_of (by decide +kernel) (by decide +kernel) (by decide +kernel) (by decide +kernel) (by decide +kernel) (by decide +kernel) (by decide +kernel)
theorem ty_tuple : TyOk "tuple" := tyOk_of (by decide +kernel) (by decide +kernel) (by decide +kernel) (by decide +kernel) (by decide +kernel) (by decide +kernel) (by decide +kernel)
theorem ty_dict : TyOk "dict" := tyOk_of (by decide +kernel) (by decide +kernel) (by decide +kernel) (by decide +kernel) (by decide +kernel) (by decide +kernel) (by decide +kernel)
theorem rp_ty {F : Fx} {B : Nat} {H : Hp} {R : Reg} (I : HpOk F B R H) {n : Bool} {v : V} {d : D} (h : RpD F H R n v d) {s : String} (e : d.ty = some s) : TyX F.K H v (.type s) := by
  cases h with
  | non => cases e; exact .base .non
  | bl b => cases e; exact .base (.bl b)
  | int i => cases e; exact .base (.int i)
  | str x => cases e; exact .base (.str x)
  | lst h _ _ _ => cases e; exact .base (.lst h)
  | tup h _ =>
    cases e
    rcases h with (h | ⟨o, h⟩) | ⟨o, its, m, hk, hc, _⟩
    · exact .base (.tup h)
    · exact .fTuple h
    · exact .kTuple hk hc
  | dK h _ _ _ => cases e; exact .base (.dK h)
  | dT h _ _ _ => cases e; exact .base (.dT h)
  | strm h =>
    cases e
    obtain ⟨_, xs, c, m, t, h1, _⟩ := I.inv _ h
    exact .base (.lst h1)
  | vee v => cases e
  | obj _ _ _ _ _ _ => cases e
  | bm _ _ _ _ => cases e
def D.known (d : D) : Prop := ∃ s, d.ty = some s
theorem dcl_isi {T : String} (hT : TyOk T) : DCl X (.builtin "isinstance") (fun xs Q => match xs with
    | [x, y] => y.d = .vee (.ty T) ∧ (∃ s, x.d.ty = some s) ∧ Q ⟨.bl (x.d.isa T), true, none⟩
    | _ => False) :=
  ⟨_, call_isi, fun F B R H vs xs Q K hK I rs q k => by
    match xs, vs, rs, q with
    | [x, y], [v, u], .cons r1 (.cons r2 .nil), ⟨ey, ⟨s, es⟩, q⟩ =>
      have z2 := r2.1
      rw [ey] at z2
      cases z2
      exact ⟨v, .ty T, .type s, .type T, x.d.isa T, rfl, .ty T, hK ▸ rp_ty I r1.1 es, kit_ty (hT _ s es), k _ _ R H .refl I (.of (.bl _)) q⟩⟩
theorem de_ty {T : String} (hg : Gl X x) (hm : X.mg x = none) (hv : bootBuiltins x = some (.type T)) (hn : x ≠ "__name__" := by decide) (hd : (x == ("__debug__" : Str)) = false := by decide) : DE X E 0 (.Name x pos) (fun _ _ Q => Q ⟨.vee (.ty T), true, none⟩) :=
  ⟨_, pe_bltn (v := .ty T) hg hm hv rfl hn hd, fun F B R H σ ρ α XQ Q K _ _ _ S q k => k _ _ R H .refl S.hp (.of (.vee _)) q⟩
/-- isinstance(e, T) -/
theorem de_isi {T : String} {xi xT : Str} {p1 p2 : Pos} (hT : TyOk T) (ha : DE X E c a fa) (hg : Gl X xi) (hm : X.mg xi = none) (hv : bootBuiltins xi = some (.builtin "isinstance")) (hgT : Gl X xT) (hmT : X.mg xT = none) (hvT : bootBuiltins xT = some (.type T))
    (hn : xi ≠ "__name__" := by decide) (hdb : (xi == ("__debug__" : Str)) = false := by decide) (hn2 : xT ≠ "__name__" := by decide) (hd2 : (xT == ("__debug__" : Str)) = false := by decide)
    (he : starEach [a, .Name xT p2] X.env = (false, eval a X.env) :: starEach [.Name xT p2] X.env := by rfl) (he2 : starEach [.Name xT p2] X.env = (false, eval (.Name xT p2) X.env) :: starEach [] X.env := by rfl) (hpl : (backTo pos (starEach [.Name xT p2] X.env)).any (·.1) = false := by rfl) :
    DE X E c (.Call (.Name xi p1) [a, .Name xT p2] [] pos) (fun ρ XQ Q => fa ρ XQ fun x => (D.vee (.ty T) = D.vee (.ty T)) ∧ (∃ s, x.d.ty = some s) ∧ Q ⟨.bl (x.d.isa T), true, none⟩) :=
  de_callB (E := E) (dcl_isi hT) hg hm hv (da_cons ha (da_cons (de_ty hgT hmT hvT hn2 hd2) da_nil he2) he) hn hdb he hpl
/-- several written classes -/
def tTyL (Ts : List String) : TA := fun _ H Q => Q (Ts.map V.ty) H
theorem pa_tyNil : PA X [] (tTyL []) := pa_nil
theorem pa_tyCons {T : String} {Ts : List String} {tys : List Expr} (hg : Gl X x) (hm : X.mg x = none) (hv : bootBuiltins x = some (.type T)) (hr : PA X tys (tTyL Ts)) (hn : x ≠ "__name__" := by decide) (hd : (x == ("__debug__" : Str)) = false := by decide)
    (hs : starEach (.Name x pos :: tys) X.env = (false, eval (.Name x pos) X.env) :: starEach tys X.env := by rfl) : PA X (.Name x pos :: tys) (tTyL (T :: Ts)) := pa_cons (pe_bltn (v := .ty T) hg hm hv rfl hn hd) hr hs
theorem cls_tys : ∀ Ts : List String, Paired ClsV (Ts.map V.ty) (Ts.map Value.type)
  | [] => .nil
  | T :: Ts => .cons (.ty T) (cls_tys Ts)
theorem kit_tys {K : PySem.W.Frag} {d : D} {s : String} (es : d.ty = some s) : ∀ {Ts : List String}, (∀ T ∈ Ts, TyOk T) → PySem.W.kitAny K (.type s) (Ts.map Value.type) = some (Ts.any fun T => d.isa T)
  | [], _ => rfl
  | T :: Ts, h => by
    refine kitAny_cons (kit_ty (h T List.mem_cons_self d s es)) (fun e => ?_) (fun e => ?_)
    · rw [List.any_cons, e, Bool.false_or]
      exact kit_tys es fun T' hT' => h T' (List.mem_cons_of_mem _ hT')
    · rw [List.any_cons, e, Bool.true_or]
theorem de_isiT {Ts : List String} {xi : Str} {tys : List Expr} {p1 p2 : Pos} {k : Nat} (hT : ∀ T ∈ Ts, TyOk T) (ha : DE X E c a fa) (hp : PA X tys (tTyL Ts)) (hg : Gl X xi) (hm : X.mg xi = none) (hv : bootBuiltins xi = some (.builtin "isinstance")) (hl : Ts.length ≤ 1000 := by decide)
    (hn : xi ≠ "__name__" := by decide) (hdb : (xi == ("__debug__" : Str)) = false := by decide)
    (he : starEach [a, .Tuple tys k p2] X.env = (false, eval a X.env) :: starEach [.Tuple tys k p2] X.env := by rfl) (he2 : starEach [.Tuple tys k p2] X.env = (false, eval (.Tuple tys k p2) X.env) :: starEach [] X.env := by rfl) (hpl : (backTo pos (starEach [.Tuple tys k p2] X.env)).any (·.1) = false := by rfl) :
    DE X E c (.Call (.Name xi p1) [a, .Tuple tys k p2] [] pos) (fun ρ XQ Q => fa ρ XQ fun x => (∃ s, x.d.ty = some s) ∧ Q ⟨.bl (Ts.any fun T => x.d.isa T), true, none⟩) := by
  obtain ⟨ta, pa, sa⟩ := ha
  refine ⟨_, pe_callB call_isiT hg hm hv (pa_cons pa (pa_cons (pe_tup hp) pa_nil he2) he) hn hdb he hpl, fun F B R H σ ρ α XQ Q K hK hX hB S h k => ?_⟩
  refine sa F B R H σ ρ α XQ _ _ hK hX hB S h fun v x R1 H1 e1 o1 r1 ⟨⟨s, es⟩, q1⟩ => ?_
  refine ⟨le_line (by rw [List.length_map]; exact Nat.le_trans hl (by decide)), fun tp htp => ?_⟩
  have e2 : Ext F R1 H1 R1 (upd H1 tp (.tup (Ts.map V.ty))) := .new0 htp
  have o2 := o1.new0 htp (.tup (xs := Ts.map V.ty))
  exact ⟨v, tp, Ts.map V.ty, .type s, Ts.map Value.type, _, rfl, upd_same, cls_tys Ts, hK ▸ rp_ty o2 (r1.1.ext o1 e2) es, kit_tys es hT, k _ _ R1 _ (e1.trans e2) o2 (.of (.bl _)) q1⟩
end
end DL

set_option Elab.async false
set_option linter.all false
set_option maxRecDepth 100000
set_option maxHeartbeats 4000000
/-! DL, part e: statements, defs. -/
namespace DL
open PySem PySem.Spec PyProof.Rows L2

/-! ### frozen places stay -/
structure Fz (F : Fx) (R : Reg) (H : Hp) (R' : Reg) (H' : Hp) : Prop where
  reg : ∀ a, R a → R' a
  keep : ∀ a o, R a → H a = some o → NoTbl o → H' a = some o
  tup : ∀ a vs, SqT F.K H a vs → SqT F.K H' a vs
theorem Fz.refl {F : Fx} {R : Reg} {H : Hp} : Fz F R H R H := ⟨fun _ h => h, fun _ _ _ h _ => h, fun _ _ h => h⟩
theorem Fz.trans {F : Fx} {R R1 R2 : Reg} {H H1 H2 : Hp} (a : Fz F R H R1 H1) (b : Fz F R1 H1 R2 H2) : Fz F R H R2 H2 :=
  ⟨fun x h => b.reg x (a.reg x h), fun x o r h n => b.keep x o (a.reg x r) (a.keep x o r h n) n, fun x vs h => b.tup x vs (a.tup x vs h)⟩
theorem Ext.fz {F : Fx} {B : Nat} {R R' : Reg} {H H' : Hp} (I : HpOk F B R H) (e : Ext F R H R' H') : Fz F R H R' H' :=
  ⟨e.reg, fun a o r h n => e.keep a o (I.good a r).1 h n, fun _ _ h => sqT_keep I.inv e.keep h⟩
theorem Fz.mv {F : Fx} {R R' : Reg} {H H' : Hp} (e : Fz F R H R' H') {n n' : Bool} (h : n' = true → n = true) : Mv F R H F R' H' n n' :=
  ⟨rfl, fun _ z => z, fun a o r ha nt => ⟨e.reg a r, e.keep a o r ha nt⟩, e.tup, fun z _ _ _ _ _ q => q (h z)⟩
theorem Rp.fz {F : Fx} {R R' : Reg} {H H' : Hp} {x : Dv} {v : V} (h : Rp F H R x v) (e : Fz F R H R' H') : Rp F H' R' x v := ⟨h.1.mv (e.mv fun z => z), h.2⟩
theorem RpL.fz {F : Fx} {R R' : Reg} {H H' : Hp} {n : Bool} {v : List V} {d : List D} (h : RpL F H R n v d) (e : Fz F R H R' H') : RpL F H' R' n v d := h.mv (e.mv fun z => z)

/-! ### own things read as values -/
/-- the slots in l are read as values from now on -/
def frz : List Nat → Ro → Ro
  | [], ρ => ρ
  | i :: l, ρ => frz l (match ρ[i]? with | some (.ow d n) => ρ.set i (.va ⟨d, n, none⟩) | _ => ρ)
theorem set_get {α : Type} {l : List α} {i : Nat} {x : α} {j : Nat} {y : α} (h : (l.set i x)[j]? = some y) : (j = i ∧ y = x) ∨ (j ≠ i ∧ l[j]? = some y) := by
  by_cases e : j = i
  · subst e
    rw [List.getElem?_set] at h
    split at h
    · split at h
      · exact .inl ⟨rfl, (Option.some.inj h).symm⟩
      · cases h
    · exact absurd rfl ‹_›
  · rw [List.getElem?_set_ne (Ne.symm e)] at h
    exact .inr ⟨e, h⟩
/-- one slot frozen -/
theorem StOk.frz1 {F : Fx} {B : Nat} {R : Reg} {H : Hp} {σ : L2.St} {ρ : Ro} {α : Nat → Addr} (S : StOk F B R H σ ρ α) {i : Nat} {d : D} {n : Bool} (h : ρ[i]? = some (.ow d n)) : StOk F B (R.add (α i)) H σ (ρ.set i (.va ⟨d, n, none⟩)) α := by
  obtain ⟨e, w⟩ := S.ow i d n h
  have m : ∀ m, Mv F R H F (R.add (α i)) H m m := fun m => ⟨rfl, fun _ z => z, fun _ _ r h _ => ⟨.inl r, h⟩, fun _ _ h => h, fun z _ _ _ _ _ q => q z⟩
  refine ⟨S.hp.frz w, by rw [List.length_set]; exact S.len, fun j x hj => ?_, fun j d' n' hj => ?_, fun j k d1 n1 d2 n2 hj hk => ?_⟩
  · rcases set_get hj with ⟨rfl, rfl' ⟩ | ⟨ne, hj⟩
    · cases rfl'
      exact ⟨_, e, .of (Ow.rp w)⟩
    · obtain ⟨v, e1, r⟩ := S.va j x hj
      exact ⟨v, e1, r.1.mv (m _), r.2⟩
  · rcases set_get hj with ⟨rfl, z⟩ | ⟨ne, hj⟩
    · cases z
    · obtain ⟨e1, w1⟩ := S.ow j d' n' hj
      refine ⟨e1, fun z => z.elim w1.nr fun z => ne (S.dis j i _ _ _ _ hj h z), w1.nm, w1.n0, w1.p0, ?_⟩
      have q := w1.at_
      cases d' with
      | lst ds => obtain ⟨vs, a, b⟩ := q; exact ⟨vs, a, b.mv (m _)⟩
      | dct ds =>
        rcases q with ⟨vs, a, b⟩ | ⟨vs, a, b⟩
        · exact .inl ⟨vs, a, b.mv (m _)⟩
        · exact .inr ⟨vs, a, b.mv (m _)⟩
      | obj k ds => obtain ⟨dx, vs, a, l, b⟩ := q; exact ⟨dx, vs, a, l, b.mv (m _)⟩
      | _ => exact q.elim
  · rcases set_get hj with ⟨rfl, z⟩ | ⟨ne, hj⟩
    · cases z
    · rcases set_get hk with ⟨rfl, z⟩ | ⟨ne2, hk⟩
      · cases z
      · exact S.dis j k _ _ _ _ hj hk
/-- fewer places are frozen again: those that were to begin with, and what is new -/
theorem StOk.back {F : Fx} {B B' : Nat} {R R1 R' : Reg} {H H' : Hp} {σ : L2.St} {ρ : Ro} {α : Nat → Addr} (S : StOk F B R H σ ρ α) (hR : ∀ a, R a → R1 a) (e : Ext F R1 H R' H') (o : HpOk F B' R' H') :
    StOk F B' (fun a => R' a ∧ (R a ∨ Nn H a)) H' σ ρ α ∧ Fz F R H (fun a => R' a ∧ (R a ∨ Nn H a)) H' := by
  have hz : Fz F R H (fun a => R' a ∧ (R a ∨ Nn H a)) H' := ⟨fun a r => ⟨e.reg a (hR a r), .inl r⟩, fun a u r h n => e.keep a u (S.hp.good a r).1 h n, fun _ _ h => sqT_keep S.hp.inv e.keep h⟩
  refine ⟨⟨⟨o.inv, fun a r => o.good a r.1, o.ent, o.ent2, fun a r => o.reg0 a r.1, o.tab, o.lim, o.pn⟩, S.len, fun i x h => ?_, fun i d n h => ?_, S.dis⟩, hz⟩
  · obtain ⟨v, a, r⟩ := S.va i x h
    exact ⟨v, a, r.fz hz⟩
  · obtain ⟨a, w⟩ := S.ow i d n h
    obtain ⟨u, hu, nt⟩ := w.some
    refine ⟨a, ⟨fun z => z.2.elim w.nr fun z => z u hu nt, w.nm, w.n0, w.p0, ?_⟩⟩
    have q := w.at_
    cases d with
    | lst ds => obtain ⟨vs, a, b⟩ := q; exact ⟨vs, e.keep _ _ w.nm a .lst, b.mv (hz.mv fun z => z)⟩
    | dct ds =>
      rcases q with ⟨vs, a, b⟩ | ⟨vs, a, b⟩
      · exact .inl ⟨vs, e.keep _ _ w.nm a .dK, b.mv (hz.mv fun z => z)⟩
      · exact .inr ⟨vs, e.keep _ _ w.nm a .dT, b.mv (hz.mv fun z => z)⟩
    | obj k ds => obtain ⟨dx, vs, a, l, b⟩ := q; exact ⟨dx, vs, e.keep _ _ w.nm a .ins, l, b.mv (hz.mv fun z => z)⟩
    | _ => exact q.elim
/-- several slots frozen -/
theorem StOk.frzs {F : Fx} {B : Nat} {H : Hp} {σ : L2.St} {α : Nat → Addr} : ∀ (l : List Nat) {R : Reg} {ρ : Ro}, StOk F B R H σ ρ α → ∃ R1, StOk F B R1 H σ (frz l ρ) α ∧ ∀ a, R a → R1 a
  | [], R, _, S => ⟨R, S, fun _ h => h⟩
  | i :: l, R, ρ, S => by
    unfold frz
    split
    · rename_i d n h
      obtain ⟨R1, S1, h1⟩ := StOk.frzs l (S.frz1 h)
      exact ⟨R1, S1, fun a r => h1 a (.inl r)⟩
    · exact StOk.frzs l S

section
variable {X : Cx} {E : XK} {c ca cb cc : Nat} {a b e : Expr} {es : List Expr} {fa fb fe : TD} {fs : TDs} {pos p : Pos} {x : Str}
/-- an expression evaluated while the slots in l are read: a scalar lets them be own again -/
theorem run_frz {l : List Nat} {t : TE} {F : Fx} {B : Nat} {R : Reg} {H : Hp} {σ : L2.St} {ρ : Ro} {α : Nat → Addr} {XQ : XQT} {Q : Dv → Ro → Prop} {K : VK}
    (s : ∀ F B R H σ ρ α XQ Q (K : VK), F.K = X.K → XLink F E XQ → B + c ≤ F.L → StOk F B R H σ ρ α → fa ρ XQ Q → (∀ v x R' H', Ext F R H R' H' → HpOk F (B + c) R' H' → Rp F H' R' x v → Q x → K v H') → t σ H K)
    (hK : F.K = X.K) (hX : XLink F E XQ) (hB : B + c ≤ F.L) (S : StOk F B R H σ ρ α) (h : fa (frz l ρ) XQ fun x => Q x (if x.d.sca = true then ρ else frz l ρ))
    (k : ∀ v x ρ' R' H', Fz F R H R' H' → StOk F (B + c) R' H' σ ρ' α → Rp F H' R' x v → Q x ρ' → K v H') : t σ H K := by
  obtain ⟨R1, S1, h1⟩ := S.frzs l
  refine s F B R1 H σ (frz l ρ) α XQ _ K hK hX hB S1 h fun v x R' H' e' o' r' q' => ?_
  by_cases hs : x.d.sca = true
  · rw [if_pos hs] at q'
    obtain ⟨S2, z⟩ := S.back h1 e' o'
    exact k v x ρ _ H' z S2 ⟨r'.1.sca hs, r'.2⟩ q'
  · rw [if_neg hs] at q'
    have z : Fz F R H R1 H := ⟨h1, fun _ _ _ h _ => h, fun _ _ h => h⟩
    exact k v x _ R' H' (z.trans (e'.fz S1.hp)) (S1.ext e' o') r' q'
theorem run_frzT {l : List Nat} {ft : TDt} {t : TT} {F : Fx} {B : Nat} {R : Reg} {H : Hp} {σ : L2.St} {ρ : Ro} {α : Nat → Addr} {XQ : XQT} {Q : Bool → Prop} {K : Bool → Hp → Prop}
    (s : ∀ F B R H σ ρ α XQ Q (K : Bool → Hp → Prop), F.K = X.K → XLink F E XQ → B + c ≤ F.L → StOk F B R H σ ρ α → ft ρ XQ Q → (∀ b R' H', Ext F R H R' H' → HpOk F (B + c) R' H' → Q b → K b H') → t σ H K)
    (hK : F.K = X.K) (hX : XLink F E XQ) (hB : B + c ≤ F.L) (S : StOk F B R H σ ρ α) (h : ft (frz l ρ) XQ Q)
    (k : ∀ b R' H', Fz F R H R' H' → StOk F (B + c) R' H' σ ρ α → Q b → K b H') : t σ H K := by
  obtain ⟨R1, S1, h1⟩ := S.frzs l
  refine s F B R1 H σ (frz l ρ) α XQ _ K hK hX hB S1 h fun b R' H' e' o' q' => ?_
  obtain ⟨S2, z⟩ := S.back h1 e' o'
  exact k b _ H' z S2 q'

/-! ### statements -/
structure DEnds where
  nx : Ro → Prop
  rt : Dv → Prop
  bk : Ro → Prop := fun _ => False
  ct : Ro → Prop := fun _ => False
abbrev TDS := DEnds → Ro → XQT → Prop
structure EndsOk (F : Fx) (B : Nat) (R : Reg) (H : Hp) (N : DEnds) (K : Ends) : Prop where
  nx : ∀ σ' H' ρ' R' α', Fz F R H R' H' → StOk F B R' H' σ' ρ' α' → N.nx ρ' → K.nx σ' H'
  rt : ∀ v x R' H', Fz F R H R' H' → HpOk F B R' H' → Rp F H' R' x v → N.rt x → K.rt v H'
  bk : ∀ σ' H' ρ' R' α', Fz F R H R' H' → StOk F B R' H' σ' ρ' α' → N.bk ρ' → K.bk σ' H'
  ct : ∀ σ' H' ρ' R' α', Fz F R H R' H' → StOk F B R' H' σ' ρ' α' → N.ct ρ' → K.ct σ' H'
theorem EndsOk.fz {F : Fx} {B : Nat} {R R1 : Reg} {H H1 : Hp} {N : DEnds} {K : Ends} (h : EndsOk F B R H N K) (z : Fz F R H R1 H1) : EndsOk F B R1 H1 N K :=
  ⟨fun σ' H' ρ' R' α' q => h.nx σ' H' ρ' R' α' (z.trans q), fun v x R' H' q => h.rt v x R' H' (z.trans q), fun σ' H' ρ' R' α' q => h.bk σ' H' ρ' R' α' (z.trans q), fun σ' H' ρ' R' α' q => h.ct σ' H' ρ' R' α' (z.trans q)⟩
theorem EndsOk.mono {F : Fx} {B B' : Nat} {R : Reg} {H : Hp} {N : DEnds} {K : Ends} (h : EndsOk F B' R H N K) (l : B ≤ B') : EndsOk F B R H N K :=
  ⟨fun σ' H' ρ' R' α' q S => h.nx σ' H' ρ' R' α' q (S.mono l), fun v x R' H' q o => h.rt v x R' H' q (o.mono l), fun σ' H' ρ' R' α' q S => h.bk σ' H' ρ' R' α' q (S.mono l), fun σ' H' ρ' R' α' q S => h.ct σ' H' ρ' R' α' q (S.mono l)⟩
def DS (X : Cx) (E : XK) (c : Nat) (st : Stmt) (g : TDS) : Prop := ∃ t : TS, PS X st t ∧ ∀ F B R H σ ρ α XQ N (K : Ends), F.K = X.K → XLink F E XQ → B + c ≤ F.L → StOk F B R H σ ρ α → g N ρ XQ → EndsOk F (B + c) R H N K → t K σ H
def DSs (X : Cx) (E : XK) (c : Nat) (st : List Stmt) (g : TDS) : Prop := ∃ t : TS, PSs X st t ∧ ∀ F B R H σ ρ α XQ N (K : Ends), F.K = X.K → XLink F E XQ → B + c ≤ F.L → StOk F B R H σ ρ α → g N ρ XQ → EndsOk F (B + c) R H N K → t K σ H

theorem dss_nil : DSs X E 0 [] (fun N ρ _ => N.nx ρ) := ⟨_, pss_nil, fun F B R H σ ρ α XQ N K _ _ _ S h k => k.nx σ H ρ R α .refl S h⟩
theorem dss_cons {st : Stmt} {rest : List Stmt} {g1 g2 : TDS} (h1 : DS X E ca st g1) (h2 : DSs X E cb rest g2) : DSs X E (ca + cb) (st :: rest) (fun N ρ XQ => g1 { N with nx := fun ρ' => g2 N ρ' XQ } ρ XQ) := by
  obtain ⟨t1, p1, s1⟩ := h1
  obtain ⟨t2, p2, s2⟩ := h2
  refine ⟨_, pss_cons p1 p2, fun F B R H σ ρ α XQ N K hK hX hB S h k => ?_⟩
  have k0 : EndsOk F (B + ca) R H N K := k.mono (by omega)
  refine s1 F B R H σ ρ α XQ _ _ hK hX (by omega) S h ⟨fun σ' H' ρ' R' α' z S' q => ?_, k0.rt, k0.bk, k0.ct⟩
  exact s2 F (B + ca) R' H' σ' ρ' α' XQ _ _ hK hX (by omega) S' q ((k.fz z).mono (by omega))
theorem dss_one {st : Stmt} {g : TDS} (h : DS X E c st g) : DSs X E c [st] g := by
  obtain ⟨t, p, s⟩ := h
  exact ⟨t, pss_one p, s⟩
theorem ds_pass : DS X E 0 (.Pass pos) (fun N ρ _ => N.nx ρ) := ⟨_, ps_pass, fun F B R H σ ρ α XQ N K _ _ _ S h k => k.nx σ H ρ R α .refl S h⟩
theorem ds_break : DS X E 0 (.Break pos) (fun N ρ _ => N.bk ρ) := ⟨_, ps_break, fun F B R H σ ρ α XQ N K _ _ _ S h k => k.bk σ H ρ R α .refl S h⟩
theorem ds_continue : DS X E 0 (.Continue pos) (fun N ρ _ => N.ct ρ) := ⟨_, ps_continue, fun F B R H σ ρ α XQ N K _ _ _ S h k => k.ct σ H ρ R α .refl S h⟩
theorem ds_ret (l : List Nat) (h : DE X E c e fe) : DS X E c (.Return (some e) pos) (fun N ρ XQ => fe (frz l ρ) XQ N.rt) := by
  obtain ⟨t, p, s⟩ := h
  refine ⟨_, ps_ret p, fun F B R H σ ρ α XQ N K hK hX hB S h k => ?_⟩
  obtain ⟨R1, S1, h1⟩ := S.frzs l
  refine s F B R1 H σ (frz l ρ) α XQ _ _ hK hX hB S1 h fun v x R' H' e' o' r' q' => ?_
  have z : Fz F R H R1 H := ⟨h1, fun _ _ _ h _ => h, fun _ _ h => h⟩
  exact k.rt v x R' H' (z.trans (e'.fz S1.hp)) o' r' q'
theorem ds_retN : DS X E 0 (.Return none pos) (fun N _ _ => N.rt ⟨.non, true, none⟩) := ⟨_, ps_retN, fun F B R H σ ρ α XQ N K _ _ _ S h k => k.rt .non _ R H .refl S.hp (.of .non) h⟩
theorem ds_if (l : List Nat) {tc : TDt} {as bs : List Stmt} {ga gb : TDS} (hc : DT X E cc e tc) (ha : DSs X E ca as ga) (hb : DSs X E cb bs gb) : DS X E (cc + (ca + cb)) (.If e as bs pos) (fun N ρ XQ => tc (frz l ρ) XQ fun b => if b = true then ga N ρ XQ else gb N ρ XQ) := by
  obtain ⟨t, p, s⟩ := hc
  obtain ⟨ta, pa, sa⟩ := ha
  obtain ⟨tb, pb, sb⟩ := hb
  refine ⟨_, ps_if p pa pb, fun F B R H σ ρ α XQ N K hK hX hB S h k => ?_⟩
  refine run_frzT (X := X) (E := E) (c := cc) s hK hX (by omega) S h fun b R' H' z S' q => ?_
  cases b with
  | true => exact sa F (B + cc) R' H' σ ρ α XQ N K hK hX (by omega) S' q ((k.fz z).mono (by omega))
  | false => exact sb F (B + cc) R' H' σ ρ α XQ N K hK hX (by omega) S' q ((k.fz z).mono (by omega))
theorem ds_expr (l : List Nat) (h : DE X E c e fe) (hs : swapsWith e none pos.line X.env = pure false := by rfl) : DS X E c (.Expr e pos) (fun N ρ XQ => fe (frz l ρ) XQ fun x => N.nx (if x.d.sca = true then ρ else frz l ρ)) := by
  obtain ⟨t, p, s⟩ := h
  refine ⟨_, ps_expr p hs, fun F B R H σ ρ α XQ N K hK hX hB S h k => ?_⟩
  exact run_frz (X := X) (E := E) (c := c) (Q := fun _ ρ' => N.nx ρ') s hK hX hB S h fun v x ρ' R' H' z S' _ q => k.nx σ H' ρ' R' α z S' q

/-! ### targets -/
abbrev TDG := Dv → Ro → (Ro → Prop) → Prop
abbrev TDGs := List Dv → Ro → (Ro → Prop) → Prop
/-- the slots in l alone may differ -/
def SetOnly (l : List Nat) (σ σ' : L2.St) : Prop := σ'.length = σ.length ∧ ∀ j, j ∉ l → σ'[j]? = σ[j]?
theorem SetOnly.refl {l : List Nat} {σ : L2.St} : SetOnly l σ σ := ⟨rfl, fun _ _ => rfl⟩
theorem SetOnly.trans {l k : List Nat} {σ σ1 σ2 : L2.St} (a : SetOnly l σ σ1) (b : SetOnly k σ1 σ2) : SetOnly (l ++ k) σ σ2 :=
  ⟨b.1.trans a.1, fun j h => (b.2 j fun z => h (List.mem_append_right _ z)).trans (a.2 j fun z => h (List.mem_append_left _ z))⟩
def DG (X : Cx) (l : List Nat) (tg : Expr) (g : TDG) : Prop := ∃ t : TG, PG X tg t ∧ ∀ F B R H σ ρ α v x Q (K : L2.St → Hp → Prop), F.K = X.K → StOk F B R H σ ρ α → Rp F H R x v → g x ρ Q → (∀ σ' ρ', StOk F B R H σ' ρ' α → SetOnly l σ σ' → Q ρ' → K σ' H) → t v σ H K
def DGs (X : Cx) (l : List Nat) (tgs : List Expr) (g : TDGs) : Prop := ∃ t : TGs, PGs X tgs t ∧ ∀ F B R H σ ρ α vs xs Q (K : L2.St → Hp → Prop), F.K = X.K → StOk F B R H σ ρ α → Paired (fun x v => Rp F H R x v) xs vs → g xs ρ Q → (∀ σ' ρ', StOk F B R H σ' ρ' α → SetOnly l σ σ' → Q ρ' → K σ' H) → t vs σ H K
theorem StOk.setva {F : Fx} {B : Nat} {R : Reg} {H : Hp} {σ : L2.St} {ρ : Ro} {α : Nat → Addr} (S : StOk F B R H σ ρ α) (i : Nat) {x : Dv} {v : V} (r : Rp F H R x v) : StOk F B R H (σ.set i (some v)) (ρ.set i (.va x)) α := by
  have len' : (σ.set i (some v)).length = (ρ.set i (.va x)).length := by rw [List.length_set, List.length_set]; exact S.len
  refine ⟨S.hp, len', fun j y hj => ?_, fun j d n hj => ?_, fun j k d1 n1 d2 n2 hj hk => ?_⟩
  · have hl : j < (ρ.set i (.va x)).length := (List.getElem?_eq_some_iff.mp hj).1
    rcases set_get hj with ⟨rfl, z⟩ | ⟨ne, hj⟩
    · cases z
      rw [List.length_set, ← S.len] at hl
      exact ⟨v, by rw [List.getElem?_set_self hl], r⟩
    · obtain ⟨u, e1, q⟩ := S.va j y hj
      exact ⟨u, by rw [List.getElem?_set_ne (Ne.symm ne)]; exact e1, q⟩
  · rcases set_get hj with ⟨rfl, z⟩ | ⟨ne, hj⟩
    · cases z
    · obtain ⟨e1, w⟩ := S.ow j d n hj
      exact ⟨by rw [List.getElem?_set_ne (Ne.symm ne)]; exact e1, w⟩
  · rcases set_get hj with ⟨rfl, z⟩ | ⟨ne, hj⟩
    · cases z
    · rcases set_get hk with ⟨rfl, z⟩ | ⟨ne2, hk⟩
      · cases z
      · exact S.dis j k _ _ _ _ hj hk
theorem dg_name {i : Nat} (h : PG X (.Name x pos) (gName i)) : DG X [i] (.Name x pos) (fun x ρ Q => Q (ρ.set i (.va x))) :=
  ⟨_, h, fun F B R H σ ρ α v x Q K _ S r q k => k _ _ (S.setva i r) ⟨List.length_set .., fun j hj => List.getElem?_set_ne (fun z => hj (by simp [z]))⟩ q⟩
theorem dgs_nil : DGs X [] [] (fun xs ρ Q => xs = [] ∧ Q ρ) := ⟨_, pgs_nil, fun F B R H σ ρ α vs xs Q K _ S r q k => by
  obtain ⟨rfl, q⟩ := q
  cases r
  exact ⟨rfl, k σ ρ S .refl q⟩⟩
theorem dgs_cons {l1 l2 : List Nat} {e : Expr} {es : List Expr} {g : TDG} {gs : TDGs} (h1 : DG X l1 e g) (h2 : DGs X l2 es gs) (hs : (assignEach (e :: es) X.env).map (·.2) = assign e X.env :: (assignEach es X.env).map (·.2) := by rfl) : DGs X (l1 ++ l2) (e :: es) (fun xs ρ Q => match xs with | x :: r => g x ρ fun ρ' => gs r ρ' Q | [] => False) := by
  obtain ⟨t1, p1, s1⟩ := h1
  obtain ⟨t2, p2, s2⟩ := h2
  refine ⟨_, pgs_cons p1 p2 hs, fun F B R H σ ρ α vs xs Q K hK S r q k => ?_⟩
  match xs, vs, r, q with
  | x :: xs, v :: vs, .cons r1 r2, q =>
    refine ⟨v, vs, rfl, s1 F B R H σ ρ α v x _ _ hK S r1 q fun σ' ρ' S' w q' => ?_⟩
    exact s2 F B R H σ' ρ' α vs xs Q K hK S' r2 q' fun σ2 ρ2 S2 w2 q2 => k σ2 ρ2 S2 (w.trans w2) q2
theorem PG.or {tg : Expr} {t u : TG} (h : PG X tg t) (k : PG X tg u) : PG X tg (fun v σ H Q => t v σ H Q ∨ u v σ H Q) :=
  ⟨fun pins s σ H v w Q I r q => q.elim (fun q => h.run pins s σ H v w Q I r q) fun q => k.run pins s σ H v w Q I r q⟩
theorem paired_of {F : Fx} {H : Hp} {R : Reg} {n : Bool} : ∀ {vs : List V} {ds : List D}, RpL F H R n vs ds → Paired (fun x v => Rp F H R x v) (ds.map fun d => ⟨d, n, none⟩) vs
  | _, _, .nil => .nil
  | _, _, .cons a t => .cons (.of a) (paired_of t)
/-- the items of a list or a tuple, n of them, to gs -/
def unp (n : Nat) (gs : TDGs) : TDG := fun x ρ Q => match x.d with
  | .tup ds => ds.length = n ∧ gs (ds.map fun d => ⟨d, x.fr, none⟩) ρ Q
  | .lst ds => ds.length = n ∧ gs (ds.map fun d => ⟨d, x.fr, none⟩) ρ Q
  | _ => False
theorem dg_tup {l : List Nat} {es : List Expr} {k n : Nat} {gs : TDGs} (hc : X.calm = true) (h : DGs X l es gs) (hn : (assignEach es X.env).length = n := by rfl) (hst : (assignEach es X.env).findIdx? (·.1) = none := by rfl) :
    DG X l (.Tuple es k pos) (unp n gs) := by
  obtain ⟨t, p, s⟩ := h
  refine ⟨_, PG.or (pg_tup hc p hn hst) (pg_unl hc p hn hst), fun F B R H σ ρ α v x Q K hK S r q k => ?_⟩
  obtain ⟨d, m, vo⟩ := x
  cases d <;> try exact q.elim
  case tup ds =>
    obtain ⟨a, vs, rfl, ha, la⟩ := r.tupL rfl
    exact .inl ⟨a, vs, rfl, hK ▸ ha, by rw [la.len]; exact q.1, s F B R H σ ρ α vs _ Q K hK S (paired_of la) q.2 k⟩
  case lst ds =>
    obtain ⟨a, vs, rfl, ha, la⟩ := r.lstL rfl
    exact .inr ⟨a, vs, rfl, .of ha, by rw [la.len]; exact q.1, s F B R H σ ρ α vs _ Q K hK S (paired_of la) q.2 k⟩
/-- target = e -/
theorem ds_asg (l : List Nat) {l2 : List Nat} {tg : Expr} {g : TDG} (he : DE X E c e fe) (hg : DG X l2 tg g) (ps : ∀ te t, PE X e te → PG X tg t → PS X (.Assign [tg] e pos) (tAsg te t)) : DS X E c (.Assign [tg] e pos) (fun N ρ XQ => fe (frz l ρ) XQ fun x => g x (if x.d.sca = true then ρ else frz l ρ) N.nx) := by
  obtain ⟨t, p, s⟩ := he
  obtain ⟨t2, p2, s2⟩ := hg
  refine ⟨_, ps t t2 p p2, fun F B R H σ ρ α XQ N K hK hX hB S h k => ?_⟩
  refine run_frz (X := X) (E := E) (c := c) (Q := fun x ρ' => g x ρ' N.nx) s hK hX hB S h fun v x ρ' R' H' z S' r q => ?_
  exact s2 F (B + c) R' H' σ ρ' α v x _ _ hK S' r q fun σ2 ρ2 S2 _ q2 => k.nx σ2 H' ρ2 R' α z S2 q2
/-- x = e, e a list or dict that is made here: x's own from now on -/
theorem ds_own (l : List Nat) {i : Nat} {tg : Expr} (he : DN X E c e fe) (hg : PG X tg (gName i)) (ps : ∀ te t, PE X e te → PG X tg t → PS X (.Assign [tg] e pos) (tAsg te t)) : DS X E c (.Assign [tg] e pos) (fun N ρ XQ => fe (frz l ρ) XQ fun x => N.nx ((frz l ρ).set i (.ow x.d x.n))) := by
  obtain ⟨t, p, s⟩ := he
  refine ⟨_, ps t _ p hg, fun F B R H σ ρ α XQ N K hK hX hB S h k => ?_⟩
  obtain ⟨R1, S1, h1⟩ := S.frzs l
  refine s F B R1 H σ (frz l ρ) α XQ _ _ hK hX hB S1 h fun a d n R' H' e' o' w hn q => ?_
  have z : Fz F R H R1 H := ⟨h1, fun _ _ _ h _ => h, fun _ _ h => h⟩
  have S2 := S1.ext e' o'
  have z2 := z.trans (e'.fz S1.hp)
  have ne : ∀ j d n, (frz l ρ)[j]? = some (.ow d n) → α j ≠ a := fun j d n hj z => by
    obtain ⟨o, ho, nt⟩ := (S1.ow j d n hj).2.some
    exact hn o (z ▸ ho) nt
  refine k.nx (σ.set i (some (.ref a))) H' ((frz l ρ).set i (.ow d n)) R' (fun j => if j = i then a else α j) z2 ⟨o', by rw [List.length_set, List.length_set]; exact S2.len, fun j y hj => ?_, fun j d' n' hj => ?_, fun j m d1 n1 d2 n2 hj hm e => ?_⟩ q
  · rcases set_get hj with ⟨rfl, z⟩ | ⟨nj, hj⟩
    · cases z
    · obtain ⟨u, e1, q⟩ := S2.va j y hj
      exact ⟨u, by rw [List.getElem?_set_ne (Ne.symm nj)]; exact e1, q⟩
  · have hl : j < ((frz l ρ).set i (.ow d n)).length := (List.getElem?_eq_some_iff.mp hj).1
    rcases set_get hj with ⟨ej, z⟩ | ⟨nj, hj'⟩
    · cases z
      rw [List.length_set, ← S1.len] at hl
      rw [ej] at hl ⊢
      rw [if_pos rfl]
      exact ⟨by rw [List.getElem?_set_self hl], w⟩
    · rw [if_neg nj]
      obtain ⟨e1, w1⟩ := S2.ow j d' n' hj'
      exact ⟨by rw [List.getElem?_set_ne (Ne.symm nj)]; exact e1, w1⟩
  · rcases set_get hj with ⟨ej, z⟩ | ⟨nj, hj'⟩
    · rcases set_get hm with ⟨em, _⟩ | ⟨nm, hm'⟩
      · rw [ej, em]
      · rw [if_pos ej, if_neg nm] at e
        exact absurd e.symm (ne m _ _ hm')
    · rcases set_get hm with ⟨em, _⟩ | ⟨nm, hm'⟩
      · rw [if_neg nj, if_pos em] at e
        exact absurd e (ne j _ _ hj')
      · rw [if_neg nj, if_neg nm] at e
        exact S2.dis j m _ _ _ _ hj' hm' e
end
end DL

set_option Elab.async false
set_option linter.all false
set_option maxRecDepth 100000
set_option maxHeartbeats 4000000
/-! DL, part f: what is walked, for, while, comprehensions. -/
namespace DL
open PySem PySem.Spec PyProof.Rows L2

/-- an iterator that yields xs, whatever happens to what is not frozen -/
def Walks (F : Fx) (R : Reg) (H : Hp) (J : It) (xs : List Dv) : Prop := ∀ (i : Nat) B R' H', Fz F R H R' H' → HpOk F B R' H' → (i = xs.length → J.stop i H') ∧
  ∀ x, xs[i]? = some x → J.go i H' ∧ ∀ v H'', J.yld i H' v H'' → ∃ R'', Ext F R' H' R'' H'' ∧ HpOk F B R'' H'' ∧ Rp F H'' R'' x v
theorem Walks.fz {F : Fx} {R R1 : Reg} {H H1 : Hp} {J : It} {xs : List Dv} (w : Walks F R H J xs) (z : Fz F R H R1 H1) : Walks F R1 H1 J xs := fun i B R' H' q o => w i B R' H' (z.trans q) o
def DI (X : Cx) (E : XK) (c : Nat) (tg iter : Expr) (f : TDs) : Prop := ∃ wi : TI, PI X tg iter wi ∧ ∀ F B R H σ ρ α XQ Q (K : It → Hp → Prop), F.K = X.K → XLink F E XQ → B + c ≤ F.L → StOk F B R H σ ρ α → f ρ XQ Q →
  (∀ J xs R' H', Ext F R H R' H' → HpOk F (B + c) R' H' → Q xs → Walks F R' H' J xs → K J H') → wi σ H K

def forGo (gt : TDG) (gb : TDS) (N : DEnds) (XQ : XQT) : List Dv → Ro → Prop
  | [], ρ => N.nx ρ
  | x :: xs, ρ => gt x ρ fun ρ' => gb { N with nx := forGo gt gb N XQ xs, ct := forGo gt gb N XQ xs, bk := N.nx } ρ' XQ
section
variable {X : Cx} {E : XK} {c ca cb cc ci : Nat} {a b e tg iter : Expr} {es : List Expr} {fa fb fe : TD} {fi : TDs} {fs : TDs} {pos p : Pos} {x : Str}
theorem ds_for (l : List Nat) {l2 : List Nat} {body : List Stmt} {gt : TDG} {gb : TDS} (hp : PassesOwn (model X.prog X.w) X.A X.env X.xe) (hc : X.calm = true) (hi : DI X E ci tg iter fi) (hg : DG X l2 tg gt) (hb : DSs X E cb body gb)
    (hs : ∀ x, foldedSetIterable iter X.env x = pure x := by intro _; rfl) :
    DS X E (ci + BIG * cb) (.For tg iter body [] pos) (fun N ρ XQ => fi (frz l ρ) XQ fun xs => (cb = 0 ∨ xs.length ≤ BIG) ∧ forGo gt gb N XQ xs (frz l ρ)) := by
  obtain ⟨wi, pi, si⟩ := hi
  obtain ⟨tt, pt, st⟩ := hg
  obtain ⟨tb, pb, sb⟩ := hb
  refine ⟨_, ps_for hp hc pi pt pb hs, fun F B R H σ ρ α XQ N K hK hX hB S h k => ?_⟩
  obtain ⟨R1, S1, h1⟩ := S.frzs l
  have z1 : Fz F R H R1 H := ⟨h1, fun _ _ _ h _ => h, fun _ _ h => h⟩
  refine si F B R1 H σ (frz l ρ) α XQ _ _ hK hX (by omega) S1 h fun J xs R2 H2 e2 o2 ⟨hz, q⟩ w => ?_
  have z2 := z1.trans (e2.fz S1.hp)
  have le : ∀ i, i ≤ xs.length → i * cb ≤ BIG * cb := fun i hi => by
    rcases hz with hz | hz
    · rw [hz]; simp
    · exact Nat.mul_le_mul_right _ (Nat.le_trans hi hz)
  refine ⟨fun i m σ' H' => m = xs.length - i ∧ i ≤ xs.length ∧ ∃ R' ρ' α', Fz F R2 H2 R' H' ∧ StOk F (B + ci + i * cb) R' H' σ' ρ' α' ∧ forGo gt gb N XQ (xs.drop i) ρ', ⟨_, rfl, Nat.zero_le _, R2, frz l ρ, α, .refl, by simpa using S1.ext e2 o2, by simpa using q⟩, ?_⟩
  rintro i m σ' H' ⟨rfl, hi, R', ρ', α', z, S', q⟩
  by_cases hlt : i < xs.length
  · refine .inr ?_
    have hx : xs[i]? = some xs[i] := by simp [hlt]
    obtain ⟨go, yl⟩ := (w i _ R' H' z S'.hp).2 _ hx
    rw [List.drop_eq_getElem_cons hlt] at q
    refine ⟨go, fun σ2 H2' => ∃ R'' ρ'' α'', Fz F R2 H2 R'' H2' ∧ StOk F (B + ci + (i + 1) * cb) R'' H2' σ2 ρ'' α'' ∧ forGo gt gb N XQ (xs.drop (i + 1)) ρ'', fun σ2 H2' q2 => ⟨_, by omega, rfl, hlt, q2⟩, fun v H'' y => ?_⟩
    obtain ⟨R'', ex, ox, rx⟩ := yl v H'' y
    have z3 := z.trans (ex.fz S'.hp)
    refine st F _ R'' H'' σ' ρ' α' v _ _ _ hK (S'.ext ex ox) rx q fun σ3 ρ3 S3 _ q3 => ?_
    have e1 : B + ci + (i + 1) * cb = B + ci + i * cb + cb := by rw [Nat.add_mul, Nat.one_mul]; omega
    have e3 : B + ci + (i + 1) * cb ≤ B + (ci + BIG * cb) := by have := le (i + 1) hlt; omega
    have kk : EndsOk F (B + ci + i * cb + cb) R'' H'' N K := (k.fz (z2.trans z3)).mono (by omega)
    refine sb F _ R'' H'' σ3 ρ3 α' XQ _ _ hK hX (by omega) S3 q3 ⟨fun σ4 H4 ρ4 R4 α4 z4 S4 q4 => ⟨R4, ρ4, α4, z3.trans z4, by rw [e1]; exact S4, q4⟩, kk.rt, kk.nx, fun σ4 H4 ρ4 R4 α4 z4 S4 q4 => ⟨R4, ρ4, α4, z3.trans z4, by rw [e1]; exact S4, q4⟩⟩
  · have hl : i = xs.length := by omega
    refine .inl ⟨(w i _ R' H' z S'.hp).1 hl, ?_⟩
    rw [hl, List.drop_length] at q
    exact k.nx σ' H' ρ' R' α' (z2.trans z) (S'.mono (by have := le i hi; omega)) q

/-- while: at most n turns -/
def whN (tc : TDt) (gb : TDS) (l : List Nat) (N : DEnds) (XQ : XQT) : Nat → Ro → Prop
  | 0, _ => False
  | n + 1, ρ => tc (frz l ρ) XQ fun b => if b = true then gb { N with nx := whN tc gb l N XQ n, ct := whN tc gb l N XQ n, bk := N.nx } ρ XQ else N.nx ρ
theorem ds_while (l : List Nat) {body : List Stmt} {tc : TDt} {gb : TDS} (hp : PassesOwn (model X.prog X.w) X.A X.env X.xe) (hc : DT X E 0 e tc) (hb : DSs X E 0 body gb) : DS X E 0 (.While e body [] pos) (fun N ρ XQ => ∃ n, whN tc gb l N XQ n ρ) := by
  obtain ⟨t, pt, st⟩ := hc
  obtain ⟨tb, pb, sb⟩ := hb
  refine ⟨_, ps_while hp pt pb, fun F B R H σ ρ α XQ N K hK hX hB S ⟨n, h⟩ k => ?_⟩
  refine ⟨fun m σ' H' => ∃ R' ρ' α', Fz F R H R' H' ∧ StOk F B R' H' σ' ρ' α' ∧ whN tc gb l N XQ m ρ', ⟨n, R, ρ, α, .refl, S, h⟩, ?_⟩
  rintro m σ' H' ⟨R', ρ', α', z, S', q⟩
  cases m with
  | zero => exact q.elim
  | succ m =>
    refine run_frzT (X := X) (E := E) (c := 0) st hK hX hB S' q fun b R2 H2 z2 S2 q2 => ?_
    cases b with
    | true =>
      refine ⟨fun σ3 H3 => ∃ R3 ρ3 α3, Fz F R H R3 H3 ∧ StOk F B R3 H3 σ3 ρ3 α3 ∧ whN tc gb l N XQ m ρ3, fun σ3 H3 q3 => ⟨m, Nat.lt_succ_self m, q3⟩, ?_⟩
      have kk : EndsOk F B R2 H2 N K := k.fz (z.trans z2)
      exact sb F B R2 H2 σ' ρ' α' XQ _ _ hK hX hB S2 q2 ⟨fun σ4 H4 ρ4 R4 α4 z4 S4 q4 => ⟨R4, ρ4, α4, (z.trans z2).trans z4, S4, q4⟩, kk.rt, kk.nx, fun σ4 H4 ρ4 R4 α4 z4 S4 q4 => ⟨R4, ρ4, α4, (z.trans z2).trans z4, S4, q4⟩⟩
    | false => exact k.nx σ' H2 ρ' R2 α' (z.trans z2) S2 q2

/-! ### what is walked -/
theorem walks_list {F : Fx} {R : Reg} {H : Hp} {K : PySem.W.Frag} {a : Addr} {n : Bool} {vs : List V} {ds : List D} (ha : H a = some (.lst vs)) (hr : R a) (l : RpL F H R n vs ds) : Walks F R H (Itl K a) (ds.map fun d => ⟨d, n, none⟩) := fun i B R' H' z o => by
  have ha' := z.keep a _ hr ha .lst
  have l' := l.fz z
  refine ⟨fun hl => ⟨vs, .of ha', by rw [hl, List.length_map, l.len]; exact Nat.le_refl _⟩, fun x hx => ?_⟩
  rw [List.getElem?_map] at hx
  cases hd : ds[i]? with
  | none => rw [hd] at hx; cases hx
  | some d =>
    rw [hd] at hx
    cases hx
    obtain ⟨v, hv, r⟩ := l'.get hd
    refine ⟨⟨vs, v, .of ha', hv⟩, fun u H'' ⟨e, y⟩ => ?_⟩
    subst e
    rw [y vs (.of ha')] at hv
    cases hv
    exact ⟨R', .refl, o, .of r⟩
theorem walks_tup {F : Fx} {R : Reg} {H : Hp} {a : Addr} {n : Bool} {vs : List V} {ds : List D} (ha : SqT F.K H a vs) (l : RpL F H R n vs ds) : Walks F R H (Itt F.K a) (ds.map fun d => ⟨d, n, none⟩) := fun i B R' H' z o => by
  have ha' := z.tup a _ ha
  have l' := l.fz z
  refine ⟨fun hl => ⟨vs, ha', by rw [hl, List.length_map, l.len]; exact Nat.le_refl _⟩, fun x hx => ?_⟩
  rw [List.getElem?_map] at hx
  cases hd : ds[i]? with
  | none => rw [hd] at hx; cases hx
  | some d =>
    rw [hd] at hx
    cases hx
    obtain ⟨v, hv, r⟩ := l'.get hd
    refine ⟨⟨vs, v, ha', hv⟩, fun u H'' ⟨e, y⟩ => ?_⟩
    subst e
    rw [y vs ha'] at hv
    cases hv
    exact ⟨R', .refl, o, .of r⟩
/-- over a list or a tuple -/
def iSeq (K : PySem.W.Frag) (tl : TE) : TI := fun σ H R => tl σ H fun x H1 => ∃ a, x = .ref a ∧ ((∃ xs, SqL K H1 a xs ∧ R (Itl K a) H1) ∨ ∃ xs, SqT K H1 a xs ∧ R (Itt K a) H1)
theorem pi_seq {tl : TE} (hl : PE X e tl) : PI X tg e (iSeq X.K tl) := by
  refine ⟨fun pins st σ H Rr In hw => thn (hl.run pins st σ H _ In hw) fun u st1 ⟨y, Hn, Jn, ry, a, ey, q⟩ => ?_⟩
  subst ey
  cases ry
  have newRec : ∀ (n : String) (dt : Data), Inv X pins σ Hn { st1 with heap := st1.heap.push { cls := .type n, data := dt } } := fun n dt => Jn.kept (t' := st1.toks) fun _ _ z => Heap.get?_push_of_some _ z
  have newOk : ∀ b ∈ [st1.heap.objs.size], FpOk X pins Hn b := fun b hb => by
    rw [List.mem_singleton.mp hb]
    exact Jn.fpOk (Nat.le_refl _) (Jn.hok.fresh (Nat.le_refl _))
  rcases q with ⟨xs, hq, q⟩ | ⟨xs, hq, q⟩
  · obtain ⟨its, _, pl, _⟩ := Jn.list hq
    exact wpAny_pyIter_list pl.isList ⟨st1.heap.objs.size, [st1.heap.objs.size], _, _, Hn, rfl, newRec _ _, turn_list a _, ⟨_, Heap.get?_push_size _ rfl, rfl, rfl⟩, newOk, q⟩
  · obtain ⟨its, _, pt, _⟩ := Jn.tuple hq
    exact wpAny_pyIter_tuple (show st1.heap.IsTuple a its.toArray from pt) ⟨st1.heap.objs.size, [st1.heap.objs.size], _, _, Hn, rfl, newRec _ _, turn_tuple a _, ⟨_, Heap.get?_push_size _ rfl, rfl, rfl⟩, newOk, q⟩
/-- the items of a list or a tuple -/
def items (x : Dv) (Q : List Dv → Prop) : Prop := match x.d with
  | .lst ds => Q (ds.map fun d => ⟨d, x.fr, none⟩)
  | .tup ds => Q (ds.map fun d => ⟨d, x.fr, none⟩)
  | _ => False
theorem Rp.lstR {F : Fx} {R : Reg} {H : Hp} {x : Dv} {v : V} {ds : List D} (h : Rp F H R x v) (e : x.d = .lst ds) : ∃ a vs, v = .ref a ∧ H a = some (.lst vs) ∧ R a ∧ RpL F H R x.fr vs ds := by
  have r := h.fr
  rw [e] at r
  cases r with
  | lst h1 h2 _ t => exact ⟨_, _, rfl, h1, h2, t⟩
theorem di_seq (he : DE X E c e fe) : DI X E c tg e (fun ρ XQ Q => fe ρ XQ fun x => items x Q) := by
  obtain ⟨t, p, s⟩ := he
  refine ⟨_, pi_seq p, fun F B R H σ ρ α XQ Q K hK hX hB S h k => ?_⟩
  refine s F B R H σ ρ α XQ _ _ hK hX hB S h fun v x R' H' e' o' r' q' => ?_
  unfold items at q'
  obtain ⟨d, n, vo⟩ := x
  cases d <;> try exact q'.elim
  case lst ds =>
    obtain ⟨a, vs, rfl, ha, hr, la⟩ := r'.lstR rfl
    exact ⟨a, rfl, .inl ⟨vs, .of ha, k _ _ R' H' e' o' q' (walks_list ha hr la)⟩⟩
  case tup ds =>
    obtain ⟨a, vs, rfl, ha, la⟩ := r'.tupL rfl
    exact ⟨a, rfl, .inr ⟨vs, hK ▸ ha, hK ▸ k _ _ R' H' e' o' q' (walks_tup ha la)⟩⟩
/-- lo, lo + 1, .. : n ints -/
def rgD (lo : Int) (n : Nat) : List Dv := (List.range n).map fun i => ⟨.int (lo + (i : Nat)), true, none⟩
theorem walks_range {F : Fx} {R : Reg} {H : Hp} {lo : Int} {n : Nat} : Walks F R H (Itr lo n) (rgD lo n) := fun i B R' H' z o => by
  unfold rgD
  refine ⟨fun hl => by rw [hl, List.length_map, List.length_range]; exact Nat.le_refl _, fun x hx => ?_⟩
  rw [List.getElem?_map] at hx
  by_cases hi : i < n
  · rw [List.getElem?_range hi] at hx
    cases hx
    refine ⟨hi, fun u H'' ⟨e1, e2⟩ => ?_⟩
    subst e1 e2
    exact ⟨R', .refl, o, .of (.int _)⟩
  · rw [List.getElem?_eq_none (by rw [List.length_range]; omega)] at hx
    cases hx
theorem di_range1 {p2 : Pos} (hg : Gl X "range") (hm : X.mg "range" = none) (ha : DA X E c [a] fs) (hs : starEach [a] X.env = [(false, eval a X.env)] := by rfl) :
    DI X E c tg (.Call (.Name "range" p) [a] [] p2) (fun ρ XQ Q => fs ρ XQ fun xs => match xs with | [x] => (match x.d with | .int j => -(2 ^ 62) ≤ j ∧ j < 2 ^ 62 ∧ Q (rgD 0 j.toNat) | _ => False) | _ => False) := by
  obtain ⟨t, pt, s⟩ := ha
  refine ⟨_, pi_range1 hg hm pt hs, fun F B R H σ ρ α XQ Q K hK hX hB S h k => ?_⟩
  refine s F B R H σ ρ α XQ _ _ hK hX hB S h fun vs xs R' H' e' o' r' q' => ?_
  match xs, vs, r', q' with
  | [⟨d, n, vo⟩], [v], .cons r1 .nil, q' =>
    cases d <;> try exact q'.elim
    have r2 := r1.1
    cases r2
    exact ⟨_, rfl, q'.1, q'.2.1, k _ _ R' H' e' o' q'.2.2 walks_range⟩
theorem di_range2 {p2 : Pos} (hg : Gl X "range") (hm : X.mg "range" = none) (ha : DA X E c [a, b] fs) (hs : starEach [a, b] X.env = [(false, eval a X.env), (false, eval b X.env)] := by rfl) (hs2 : starEach [b] X.env = [(false, eval b X.env)] := by rfl) :
    DI X E c tg (.Call (.Name "range" p) [a, b] [] p2) (fun ρ XQ Q => fs ρ XQ fun xs => match xs with | [x, y] => (match x.d, y.d with | .int i, .int j => (-(2 ^ 62) ≤ i ∧ i < 2 ^ 62 ∧ -(2 ^ 62) ≤ j ∧ j < 2 ^ 62) ∧ Q (rgD i (j - i).toNat) | _, _ => False) | _ => False) := by
  obtain ⟨t, pt, s⟩ := ha
  refine ⟨_, pi_range2 hg hm pt hs hs2, fun F B R H σ ρ α XQ Q K hK hX hB S h k => ?_⟩
  refine s F B R H σ ρ α XQ _ _ hK hX hB S h fun vs xs R' H' e' o' r' q' => ?_
  match xs, vs, r', q' with
  | [⟨d, n, vo⟩, ⟨d2, n2, vo2⟩], [v, u], .cons r1 (.cons r2 .nil), q' =>
    cases d <;> cases d2 <;> try exact q'.elim
    have z1 := r1.1
    have z2 := r2.1
    cases z1; cases z2
    exact ⟨_, _, rfl, q'.1, k _ _ R' H' e' o' q'.2 walks_range⟩
end
end DL

set_option Elab.async false
set_option linter.all false
set_option maxRecDepth 100000
set_option maxHeartbeats 4000000
/-! DL, part g: list comprehensions. -/
namespace DL
open PySem PySem.Spec PyProof.Rows L2

/-- the tests of a comprehension -/
def DTs (X : Cx) (E : XK) (c : Nat) (es : List Expr) (f : TDt) : Prop := ∃ t : TT, PTs X es t ∧ ∀ F B R H σ ρ α XQ Q (K : Bool → Hp → Prop), F.K = X.K → XLink F E XQ → B + c ≤ F.L → StOk F B R H σ ρ α → f ρ XQ Q →
  (∀ b R' H', Ext F R H R' H' → HpOk F (B + c) R' H' → Q b → K b H') → t σ H K
/-- nothing is raised -/
abbrev XQ0 : XQT := fun _ _ _ => False
theorem xlink0 {F : Fx} {E : XK} : XLink F E XQ0 := ⟨fun _ _ h => h.elim, fun _ _ _ _ _ h => h.elim⟩
/-- slots forgotten -/
def wipeR (ρ : Ro) : List Nat → Ro
  | [] => ρ
  | v :: vs => (wipeR ρ vs).set v .un
theorem wipeR_len (ρ : Ro) : ∀ vs, (wipeR ρ vs).length = ρ.length
  | [] => rfl
  | v :: vs => by unfold wipeR; rw [List.length_set, wipeR_len ρ vs]
theorem wipeR_get {ρ : Ro} {i : Nat} {x : Sl} (hx : x ≠ .un) : ∀ {vs : List Nat}, (wipeR ρ vs)[i]? = some x → ρ[i]? = some x ∧ i ∉ vs
  | [], h => ⟨h, by simp⟩
  | v :: vs, h => by
    unfold wipeR at h
    rcases set_get h with ⟨_, z⟩ | ⟨ne, h⟩
    · exact absurd z hx
    · obtain ⟨a, b⟩ := wipeR_get hx h
      exact ⟨a, fun z => (List.mem_cons.mp z).elim ne b⟩
theorem wipe_get {σ : L2.St} {i : Nat} : ∀ {vs : List Nat}, i ∉ vs → (wipe σ vs)[i]? = σ[i]?
  | [], _ => rfl
  | v :: vs, h => by
    show ((wipe σ vs).set v none)[i]? = _
    rw [List.getElem?_set_ne (fun z => h (by simp [z])), wipe_get fun z => h (List.mem_cons_of_mem _ z)]
theorem wipe_in {σ : L2.St} {i : Nat} : ∀ {vs : List Nat}, i ∈ vs → (wipe σ vs)[i]? = if i < σ.length then some none else none
  | [], h => by cases h
  | v :: vs, h => by
    show ((wipe σ vs).set v none)[i]? = _
    by_cases e : i = v
    · rw [e, List.getElem?_set]
      rw [if_pos rfl]
      simp [L2.wipe_length]
    · rw [List.getElem?_set_ne (Ne.symm e)]
      exact wipe_in ((List.mem_cons.mp h).resolve_left e)
theorem wipe_eq {σ σ' : L2.St} {l vs : List Nat} (h : SetOnly l σ σ') (hl : ∀ i ∈ l, i ∈ vs) : wipe σ' vs = wipe σ vs := by
  apply List.ext_getElem?
  intro i
  by_cases hi : i ∈ vs
  · rw [wipe_in hi, wipe_in hi, h.1]
  · rw [wipe_get hi, wipe_get hi]
    exact h.2 i fun z => hi (hl i z)
theorem wipe_wipe (σ : L2.St) (vs : List Nat) : wipe (wipe σ vs) vs = wipe σ vs := by
  apply List.ext_getElem?
  intro i
  by_cases hi : i ∈ vs
  · rw [wipe_in hi, wipe_in hi, L2.wipe_length]
  · rw [wipe_get hi]
theorem StOk.wipe {F : Fx} {B : Nat} {R : Reg} {H : Hp} {σ : L2.St} {ρ : Ro} {α : Nat → Addr} (S : StOk F B R H σ ρ α) (vs : List Nat) : StOk F B R H (wipe σ vs) (wipeR ρ vs) α :=
  ⟨S.hp, by rw [L2.wipe_length, wipeR_len]; exact S.len, fun i x h => by
    obtain ⟨a, b⟩ := wipeR_get (fun z => by cases z) h
    obtain ⟨v, e, r⟩ := S.va i x a
    exact ⟨v, by rw [wipe_get b]; exact e, r⟩, fun i d n h => by
    obtain ⟨a, b⟩ := wipeR_get (fun z => by cases z) h
    obtain ⟨e, r⟩ := S.ow i d n a
    exact ⟨by rw [wipe_get b]; exact e, r⟩, fun i j d n d' n' h k => S.dis i j d n d' n' (wipeR_get (fun z => by cases z) h).1 (wipeR_get (fun z => by cases z) k).1⟩

/-- an object that is not frozen is put -/
theorem HpOk.put {F : Fx} {B : Nat} {R : Reg} {H : Hp} {a : Addr} {o : HO} (I : HpOk F B R H) (nr : ¬ R a) (nm : ¬ F.mx a) (n0 : Nn F.H0 a) {u0 : HO} (hu : H a = some u0) (pu : Plain u0) (nt : NoTbl o) : HpOk F B R (upd H a o) :=
  ⟨inv_upd I.inv nm, fun b r => by
    have ne : b ≠ a := fun z => nr (z ▸ r)
    rw [upd_ne ne]
    exact I.good b r, fun b u m e t => by rw [upd_ne (ne_of_nn e t n0)]; exact I.ent b u m e t, fun b e => by
    by_cases z : b = a
    · rw [z]; exact n0
    · exact I.ent2 b fun u q => e u (by rw [upd_ne z]; exact q), I.reg0, tab_put I.tab hu pu, I.lim, fun b e => by
    by_cases z : b = a
    · subst z; exact absurd nt (e o upd_same)
    · exact I.pn b fun u q => e u (by rw [upd_ne z]; exact q)⟩
theorem Fz.put {F : Fx} {R : Reg} {H : Hp} {a : Addr} {o u : HO} (nr : ¬ R a) (h : H a = some u) (nt : ∀ xs, u ≠ .tup xs) (nf : ∀ ob w, u ≠ .frz ob w) : Fz F R H R (upd H a o) :=
  ⟨fun _ r => r, fun b w r e _ => by rw [upd_ne (fun z : b = a => nr (z ▸ r))]; exact e, fun b vs q => by
    have ne : ∀ w, H b = some w → ((∃ xs, w = .tup xs) ∨ ∃ ob x, w = .frz ob x) → b ≠ a := fun w e k z => by
      subst z
      rw [h] at e
      cases e
      rcases k with ⟨xs, k⟩ | ⟨ob, x, k⟩
      · exact nt xs k
      · exact nf ob x k
    rcases q with (q | ⟨ob, q⟩) | q
    · exact .inl (.inl (by rw [upd_ne (ne _ q (.inl ⟨_, rfl⟩))]; exact q))
    · exact .inl (.inr ⟨ob, by rw [upd_ne (ne _ q (.inr ⟨_, _, rfl⟩))]; exact q⟩)
    · exact .inr q⟩

/-- what a comprehension makes -/
def lcGo (gt : TDG) (ft : TDt) (fe : TD) (ρw : Ro) (Q : Dv → Prop) : List Dv → List D → Bool → Prop
  | [], acc, n => Q ⟨.lst acc, n, none⟩
  | x :: xs, acc, n => gt x ρw fun ρ2 => ft ρ2 XQ0 fun b => if b = true then fe ρ2 XQ0 fun y => lcGo gt ft fe ρw Q xs (acc ++ [y.d]) (n && y.fr) else lcGo gt ft fe ρw Q xs acc n
section
variable {X : Cx} {E : XK} {c ca cb cc ci ct ce : Nat} {a b e tg iter elt : Expr} {es : List Expr} {fa fb fe : TD} {fi : TDs} {fs : TDs} {ft : TDt} {pos p : Pos} {x : Str}
theorem dts_nil : DTs X E 0 [] (fun _ _ Q => Q true) := ⟨_, pts_nil, fun F B R H σ ρ α XQ Q K _ _ _ S h k => k true R H .refl S.hp h⟩
theorem dts_one (h : DT X E c e ft) : DTs X E c [e] ft := by
  obtain ⟨t, p, s⟩ := h
  exact ⟨t, pts_one p, s⟩
theorem dn_lc_of {own : List (Str × Nat)} {l : List Nat} {gt : TDG} {wi : TI} {g : TG} {tt : TT} {te : TE}
    (si : ∀ F B R H σ ρ α XQ Q (K : It → Hp → Prop), F.K = X.K → XLink F E XQ → B + ci ≤ F.L → StOk F B R H σ ρ α → fi ρ XQ Q → (∀ J xs R' H', Ext F R H R' H' → HpOk F (B + ci) R' H' → Q xs → Walks F R' H' J xs → K J H') → wi σ H K)
    (sg : ∀ F B R H σ ρ α v x Q (K : L2.St → Hp → Prop), F.K = X.K → StOk F B R H σ ρ α → Rp F H R x v → gt x ρ Q → (∀ σ' ρ', StOk F B R H σ' ρ' α → SetOnly l σ σ' → Q ρ' → K σ' H) → g v σ H K)
    (st : ∀ F B R H σ ρ α XQ Q (K : Bool → Hp → Prop), F.K = X.K → XLink F E0 XQ → B + ct ≤ F.L → StOk F B R H σ ρ α → ft ρ XQ Q → (∀ b R' H', Ext F R H R' H' → HpOk F (B + ct) R' H' → Q b → K b H') → tt σ H K)
    (se : ∀ F B R H σ ρ α XQ Q (K : VK), F.K = X.K → XLink F E0 XQ → B + ce ≤ F.L → StOk F B R H σ ρ α → fe ρ XQ Q → (∀ v x R' H', Ext F R H R' H' → HpOk F (B + ce) R' H' → Rp F H' R' x v → Q x → K v H') → te σ H K)
    (hl : ∀ i ∈ l, i ∈ own.map (·.2)) :
    ∀ F B R H σ ρ α XQ Q (K : VK), F.K = X.K → XLink F E XQ → B + (ci + BIG * (ct + ce)) ≤ F.L → StOk F B R H σ ρ α → (fi ρ XQ fun xs => xs.length ≤ BIG ∧ lcGo gt ft fe (wipeR ρ (own.map (·.2))) Q xs [] true) →
      (∀ a d n R' H', Ext F R H R' H' → HpOk F (B + (ci + BIG * (ct + ce))) R' H' → Own F H' R' a d n → Nn H a → Q ⟨d, n, none⟩ → K (.ref a) H') → tLc wi g tt te (own.map (·.2)) σ H K := fun F B R H σ ρ α XQ Q K hK hX hB S h k => by
  refine si F B R H σ ρ α XQ _ _ hK hX (by omega) S h fun J xs R1 H1 e1 o1 ⟨hz, q⟩ w => fun D hD => ?_
  have n0 := o1.ent2 D (.of hD)
  have nm := mx_none o1.inv hD
  have nr := not_frozen o1 hD
  have S1 := S.ext e1 o1
  have le : ∀ i, i ≤ xs.length → i * (ct + ce) ≤ BIG * (ct + ce) := fun i hi => Nat.mul_le_mul_right _ (Nat.le_trans hi hz)
  -- the turn's state
  refine ⟨fun i m H' => m = xs.length - i ∧ i ≤ xs.length ∧ ∃ R' acc accD n, acc.length ≤ i ∧ H' D = some (.lst acc) ∧ ¬ R' D ∧ Ext F R1 H1 R' H' ∧ HpOk F (B + ci + i * (ct + ce)) R' H' ∧ RpL F H' R' n acc accD ∧ lcGo gt ft fe (wipeR ρ (own.map (·.2))) Q (xs.drop i) accD n,
    ⟨_, rfl, Nat.zero_le _, R1, [], [], true, Nat.le_refl _, upd_same, nr, .new0 hD, by simpa using o1.new0 hD .lst, .nil, by simpa using q⟩, ?_⟩
  rintro i m H' ⟨rfl, hi, R', acc, accD, n, hacc, hH, nR, e2, o2, la, q⟩
  have zf : Fz F R1 H1 R' H' := e2.fz o1
  by_cases hlt : i < xs.length
  · refine .inr ?_
    have hx : xs[i]? = some xs[i] := by simp [hlt]
    obtain ⟨go, yl⟩ := (w i _ R' H' zf o2).2 _ hx
    rw [List.drop_eq_getElem_cons hlt] at q
    refine ⟨go, fun H2 => ∃ R2 acc2 accD2 n2, acc2.length ≤ i + 1 ∧ H2 D = some (.lst acc2) ∧ ¬ R2 D ∧ Ext F R1 H1 R2 H2 ∧ HpOk F (B + ci + (i + 1) * (ct + ce)) R2 H2 ∧ RpL F H2 R2 n2 acc2 accD2 ∧ lcGo gt ft fe (wipeR ρ (own.map (·.2))) Q (xs.drop (i + 1)) accD2 n2, fun H2 q2 => ⟨_, by omega, rfl, hlt, q2⟩, fun v H'' y => ?_⟩
    obtain ⟨R'', ex, ox, rx⟩ := yl v H'' y
    have S3 : StOk F (B + ci + i * (ct + ce)) R'' H'' (wipe σ (own.map (·.2))) (wipeR ρ (own.map (·.2))) α := ((S1.ext e2 o2).ext ex ox).wipe _
    have hD2 : H'' D = some (.lst acc) := ex.keep D _ nm hH .lst
    have nR2 : ¬ R'' D := fun z => (ex.new D z).elim nR fun z => z _ hH .lst
    have le2 := le (i + 1) hlt
    have e3 : B + ci + (i + 1) * (ct + ce) = B + ci + i * (ct + ce) + ct + ce := by rw [Nat.add_mul, Nat.one_mul]; omega
    refine sg F _ R'' H'' _ _ α v _ _ _ hK S3 rx q fun σ4 ρ4 S4 so q4 => ⟨?_, ?_⟩
    · rw [wipe_eq so hl, wipe_wipe]
    refine st F _ R'' H'' σ4 ρ4 α XQ0 _ _ hK xlink0 (by omega) S4 q4 fun bb R5 H5 e5 o5 q5 => ?_
    have hD5 : H5 D = some (.lst acc) := e5.keep D _ nm hD2 .lst
    have nR5 : ¬ R5 D := fun z => (e5.new D z).elim nR2 fun z => z _ hD2 .lst
    have e15 := (e2.trans ex).trans e5
    cases bb with
    | true =>
      refine se F _ R5 H5 σ4 ρ4 α XQ0 _ _ hK xlink0 (by omega) (S4.ext e5 o5) q5 fun u y R6 H6 e6 o6 r6 q6 => ?_
      have hD6 : H6 D = some (.lst acc) := e6.keep D _ nm hD5 .lst
      have nR6 : ¬ R6 D := fun z => (e6.new D z).elim nR5 fun z => z _ hD5 .lst
      have fz6 : Fz F R6 H6 R6 (upd H6 D (.lst (acc ++ [u]))) := Fz.put nR6 hD6 (fun _ z => nomatch z) fun _ _ z => nomatch z
      have la6 : RpL F H6 R6 n acc accD := la.fz (((ex.fz o2).trans (e5.fz ox)).trans (e6.fz o5))
      have e16 := e15.trans e6
      refine ⟨acc, hD6, lt_line (by omega), R6, acc ++ [u], accD ++ [y.d], n && y.fr, by rw [List.length_append, List.length_cons, List.length_nil]; omega, upd_same, nR6, ⟨e16.reg, fun b o m hb nt => by
        rw [upd_ne (ne_of_none hb hD)]
        exact e16.keep b o m hb nt, e16.new, fun b hb => ?_⟩, by rw [e3]; exact o6.put nR6 nm n0 hD6 .lst .lst, ((la6.weak and_l).app (.cons (r6.fr.weak and_r) .nil)).fz fz6, q6⟩
      by_cases z : b = D
      · rw [z]; exact .of hD
      · exact e16.there b fun u q => hb u (by rw [upd_ne z]; exact q)
    | false =>
      exact ⟨R5, acc, accD, n, by omega, hD5, nR5, e15, o5.mono (by omega), la.fz ((ex.fz o2).trans (e5.fz ox)), q5⟩
  · have hle : i = xs.length := by omega
    refine .inl ⟨(w i _ R' H' zf o2).1 hle, ?_⟩
    rw [hle, List.drop_length] at q
    refine k D (.lst accD) n R' H' ⟨fun a r => e2.reg a (e1.reg a r), fun a o m ha nt => e2.keep a o m (e1.keep a o m ha nt) nt, fun a r => (e2.new a r).elim (e1.new a) fun z => .inr (e1.there a z), fun a z => e1.there a (e2.there a z)⟩ (o2.mono (by have := le i hi; omega)) ⟨nR, nm, n0, o1.pn D (.of hD), ⟨acc, hH, la⟩⟩ (e1.there D (.of hD)) q
theorem dn_lc {scope : Scope} {own : List (Str × Nat)} {l : List Nat} {gt : TDG} (hc : X.calm = true) (hN : X.N.Nodup) (hi : DI X E ci tg iter fi) {ifs : List Expr} (ok : BlkOk X.N X.env.scope scope own)
    (hg : ∀ s H C cl fp, DG (X.blk s H scope (compEnvC scope cl C X.env) fp) l tg gt) (ht : ∀ s H C cl fp, DTs (X.blk s H scope (compEnvC scope cl C X.env) fp) E0 ct ifs ft) (he : ∀ s H C cl fp, DE (X.blk s H scope (compEnvC scope cl C X.env) fp) E0 ce elt fe)
    (hl : ∀ i ∈ l, i ∈ own.map (·.2)) (hs : ∀ x, foldedSetIterable iter X.env x = pure x := by intro _; rfl) :
    DN X E (ci + BIG * (ct + ce)) (.ListComp elt [⟨tg, iter, ifs, 0⟩] scope pos) (fun ρ XQ Q => fi ρ XQ fun xs => xs.length ≤ BIG ∧ lcGo gt ft fe (wipeR ρ (own.map (·.2))) Q xs [] true) := by
  obtain ⟨wi, pi, si⟩ := hi
  have hG : ∃ g : TG, (∀ s H C cl fp, PG (X.blk s H scope (compEnvC scope cl C X.env) fp) tg g) ∧ ∀ F B R H σ ρ α v x Q (K : L2.St → Hp → Prop), F.K = X.K → StOk F B R H σ ρ α → Rp F H R x v → gt x ρ Q → (∀ σ' ρ', StOk F B R H σ' ρ' α → SetOnly l σ σ' → Q ρ' → K σ' H) → g v σ H K :=
    ⟨fun v σ H Q => ∀ s H0 C cl fp, (hg s H0 C cl fp).choose v σ H Q, fun s H C cl fp => ⟨fun pins s' σ H' v u Q I r q => (hg s H C cl fp).choose_spec.1.run pins s' σ H' v u Q I r (q s H C cl fp)⟩,
      fun F B R H σ ρ α v x Q K hK S r q k s H0 C cl fp => (hg s H0 C cl fp).choose_spec.2 F B R H σ ρ α v x Q K hK S r q k⟩
  have hT : ∃ tt : TT, (∀ s H C cl fp, PTs (X.blk s H scope (compEnvC scope cl C X.env) fp) ifs tt) ∧ ∀ F B R H σ ρ α XQ Q (K : Bool → Hp → Prop), F.K = X.K → XLink F E0 XQ → B + ct ≤ F.L → StOk F B R H σ ρ α → ft ρ XQ Q → (∀ b R' H', Ext F R H R' H' → HpOk F (B + ct) R' H' → Q b → K b H') → tt σ H K :=
    ⟨fun σ H Q => ∀ s H0 C cl fp, (ht s H0 C cl fp).choose σ H Q, fun s H C cl fp => ⟨fun pins s' σ H' Q I q => (ht s H C cl fp).choose_spec.1.run pins s' σ H' Q I (q s H C cl fp)⟩,
      fun F B R H σ ρ α XQ Q K hK hX hB S q k s H0 C cl fp => (ht s H0 C cl fp).choose_spec.2 F B R H σ ρ α XQ Q K hK hX hB S q k⟩
  have hE : ∃ te : TE, (∀ s H C cl fp, PE (X.blk s H scope (compEnvC scope cl C X.env) fp) elt te) ∧ ∀ F B R H σ ρ α XQ Q (K : VK), F.K = X.K → XLink F E0 XQ → B + ce ≤ F.L → StOk F B R H σ ρ α → fe ρ XQ Q → (∀ v x R' H', Ext F R H R' H' → HpOk F (B + ce) R' H' → Rp F H' R' x v → Q x → K v H') → te σ H K :=
    ⟨fun σ H Q => ∀ s H0 C cl fp, (he s H0 C cl fp).choose σ H Q, fun s H C cl fp => ⟨fun pins s' σ H' Q I q => (he s H C cl fp).choose_spec.1.run pins s' σ H' Q I (q s H C cl fp)⟩,
      fun F B R H σ ρ α XQ Q K hK hX hB S q k s H0 C cl fp => (he s H0 C cl fp).choose_spec.2 F B R H σ ρ α XQ Q K hK hX hB S q k⟩
  obtain ⟨g, pg, sg⟩ := hG
  obtain ⟨tt, pt, st⟩ := hT
  obtain ⟨te, pe, se⟩ := hE
  exact ⟨_, pe_lc hc hN pi ok pg pt pe hs, dn_lc_of si sg st se hl⟩
/-- y = [..] on one line -/
theorem ds_setLc (lf : List Nat) {i : Nat} {y : Str} {py spos : Pos} {scope : Scope} {own : List (Str × Nat)} {l : List Nat} {gt : TDG} (hc : X.calm = true) (hN : X.N.Nodup) (hy : X.N[i]? = some y) (hyl : X.env.scope.names.lookup y = some .local) {ifs : List Expr}
    (hsw : swapsWith (.ListComp elt [⟨tg, iter, ifs, 0⟩] scope pos) (some (.Name y py)) spos.line X.env = pure true) (hi : DI X E ci tg iter fi) (ok : BlkOk X.N X.env.scope scope own)
    (hg : ∀ s H C cl fp, DG (X.blk s H scope (compEnvC scope cl C X.env) fp) l tg gt) (ht : ∀ s H C cl fp, DTs (X.blk s H scope (compEnvC scope cl C X.env) fp) E0 ct ifs ft) (he : ∀ s H C cl fp, DE (X.blk s H scope (compEnvC scope cl C X.env) fp) E0 ce elt fe)
    (hl : ∀ i ∈ l, i ∈ own.map (·.2)) (hs : ∀ x, foldedSetIterable iter X.env x = pure x := by intro _; rfl) :
    DS X E (ci + BIG * (ct + ce)) (.Assign [.Name y py] (.ListComp elt [⟨tg, iter, ifs, 0⟩] scope pos) spos) (fun N ρ XQ => fi (frz lf ρ) XQ fun xs => xs.length ≤ BIG ∧ lcGo gt ft fe (wipeR (frz lf ρ) (own.map (·.2))) (fun x => N.nx ((frz lf ρ).set i (.va x))) xs [] true) := by
  obtain ⟨wi, pi, si⟩ := hi
  have hG : ∃ g : TG, (∀ s H C cl fp, PG (X.blk s H scope (compEnvC scope cl C X.env) fp) tg g) ∧ ∀ F B R H σ ρ α v x Q (K : L2.St → Hp → Prop), F.K = X.K → StOk F B R H σ ρ α → Rp F H R x v → gt x ρ Q → (∀ σ' ρ', StOk F B R H σ' ρ' α → SetOnly l σ σ' → Q ρ' → K σ' H) → g v σ H K :=
    ⟨fun v σ H Q => ∀ s H0 C cl fp, (hg s H0 C cl fp).choose v σ H Q, fun s H C cl fp => ⟨fun pins s' σ H' v u Q I r q => (hg s H C cl fp).choose_spec.1.run pins s' σ H' v u Q I r (q s H C cl fp)⟩,
      fun F B R H σ ρ α v x Q K hK S r q k s H0 C cl fp => (hg s H0 C cl fp).choose_spec.2 F B R H σ ρ α v x Q K hK S r q k⟩
  have hT : ∃ tt : TT, (∀ s H C cl fp, PTs (X.blk s H scope (compEnvC scope cl C X.env) fp) ifs tt) ∧ ∀ F B R H σ ρ α XQ Q (K : Bool → Hp → Prop), F.K = X.K → XLink F E0 XQ → B + ct ≤ F.L → StOk F B R H σ ρ α → ft ρ XQ Q → (∀ b R' H', Ext F R H R' H' → HpOk F (B + ct) R' H' → Q b → K b H') → tt σ H K :=
    ⟨fun σ H Q => ∀ s H0 C cl fp, (ht s H0 C cl fp).choose σ H Q, fun s H C cl fp => ⟨fun pins s' σ H' Q I q => (ht s H C cl fp).choose_spec.1.run pins s' σ H' Q I (q s H C cl fp)⟩,
      fun F B R H σ ρ α XQ Q K hK hX hB S q k s H0 C cl fp => (ht s H0 C cl fp).choose_spec.2 F B R H σ ρ α XQ Q K hK hX hB S q k⟩
  have hE : ∃ te : TE, (∀ s H C cl fp, PE (X.blk s H scope (compEnvC scope cl C X.env) fp) elt te) ∧ ∀ F B R H σ ρ α XQ Q (K : VK), F.K = X.K → XLink F E0 XQ → B + ce ≤ F.L → StOk F B R H σ ρ α → fe ρ XQ Q → (∀ v x R' H', Ext F R H R' H' → HpOk F (B + ce) R' H' → Rp F H' R' x v → Q x → K v H') → te σ H K :=
    ⟨fun σ H Q => ∀ s H0 C cl fp, (he s H0 C cl fp).choose σ H Q, fun s H C cl fp => ⟨fun pins s' σ H' Q I q => (he s H C cl fp).choose_spec.1.run pins s' σ H' Q I (q s H C cl fp)⟩,
      fun F B R H σ ρ α XQ Q K hK hX hB S q k s H0 C cl fp => (he s H0 C cl fp).choose_spec.2 F B R H σ ρ α XQ Q K hK hX hB S q k⟩
  obtain ⟨g, pg, sg⟩ := hG
  obtain ⟨tt, pt, st⟩ := hT
  obtain ⟨te, pe, se⟩ := hE
  refine ⟨_, ps_setLc hc hN hy hyl hsw pi ok pg pt pe hs, fun F B R H σ ρ α XQ N K hK hX hB S h k => ?_⟩
  obtain ⟨R1, S1, h1⟩ := S.frzs lf
  refine dn_lc_of si sg st se hl F B R1 H σ (frz lf ρ) α XQ _ _ hK hX hB S1 h fun a d n R' H' e' o' w hn q => ?_
  have z : Fz F R H R1 H := ⟨h1, fun _ _ _ h _ => h, fun _ _ h => h⟩
  have ee : Ext F R1 H (R'.add a) H' := ⟨fun x r => .inl (e'.reg x r), e'.keep, fun x r => r.elim (e'.new x) fun z => .inr (by rw [z]; exact hn), e'.there⟩
  exact k.nx _ H' _ (R'.add a) α (z.trans (ee.fz S1.hp)) ((S1.ext ee (o'.frz w)).setva i (.of (Ow.rp w))) q
end
end DL

set_option Elab.async false
set_option linter.all false
set_option maxRecDepth 100000
set_option maxHeartbeats 4000000
/-! DL, part h: zip, enumerate; own lists changed; calls of defs; defs. -/
namespace DL
open PySem PySem.Spec PyProof.Rows L2

section
variable {X : Cx} {E : XK} {c ca cb cc ci ct ce : Nat} {a b e tg iter elt : Expr} {es : List Expr} {fa fb fe : TD} {fi : TDs} {fs : TDs} {ft : TDt} {pos p : Pos} {x : Str}
/-! ### zip, enumerate -/
def zipD (n : Bool) : List D → List D → List Dv
  | x :: xs, y :: ys => ⟨.tup [x, y], n, none⟩ :: zipD n xs ys
  | _, _ => []
theorem zipD_get {n : Bool} : ∀ {xs ys : List D} {i : Nat} {z : Dv}, (zipD n xs ys)[i]? = some z → ∃ x y, xs[i]? = some x ∧ ys[i]? = some y ∧ z = ⟨.tup [x, y], n, none⟩
  | [], _, _, _, h => by simp [zipD] at h
  | _ :: _, [], _, _, h => by simp [zipD] at h
  | x :: xs, y :: ys, 0, z, h => by
    simp [zipD] at h
    exact ⟨x, y, rfl, rfl, h.symm⟩
  | x :: xs, y :: ys, i + 1, z, h => by
    obtain ⟨u, v, h1, h2, h3⟩ := zipD_get (i := i) (xs := xs) (ys := ys) (z := z) (by simpa [zipD] using h)
    exact ⟨u, v, by simpa using h1, by simpa using h2, h3⟩
theorem zipD_len {n : Bool} : ∀ xs ys : List D, (zipD n xs ys).length = min xs.length ys.length
  | [], _ => by simp [zipD]
  | _ :: _, [] => by simp [zipD]
  | x :: xs, y :: ys => by simp [zipD, zipD_len xs ys]
theorem walks_zip {F : Fx} {R : Reg} {H : Hp} {K : PySem.W.Frag} {a b : Addr} {n m : Bool} {vs us : List V} {ds es : List D} (ha : H a = some (.lst vs)) (ra : R a) (la : RpL F H R n vs ds) (hb : H b = some (.lst us)) (rb : R b) (lb : RpL F H R m us es) :
    Walks F R H (Itz K a b) (zipD (n && m) ds es) := fun i B R' H' z o => by
  have ha' := z.keep a _ ra ha .lst
  have hb' := z.keep b _ rb hb .lst
  have la' := la.fz z
  have lb' := lb.fz z
  refine ⟨fun hl => ⟨vs, us, .of ha', .of hb', ?_⟩, fun x hx => ?_⟩
  · rw [zipD_len] at hl
    rw [la.len, lb.len]
    omega
  · obtain ⟨d, e, h1, h2, rfl⟩ := zipD_get hx
    obtain ⟨v, hv, r⟩ := la'.get h1
    obtain ⟨u, hu, r2⟩ := lb'.get h2
    refine ⟨⟨vs, us, v, u, .of ha', .of hb', hv, hu⟩, fun w H'' ⟨T, x, y, e1, hT, e2, h3, h4⟩ => ?_⟩
    subst e1 e2
    rw [h3 vs (.of ha')] at hv
    rw [h4 us (.of hb')] at hu
    cases hv; cases hu
    obtain ⟨q1, q2, q3⟩ := new_tup (n := n && m) (vs := [v, u]) (ds := [d, e]) o hT (.cons (r.weak and_l) (.cons (r2.weak and_r) .nil))
    exact ⟨R', q1, q2, .of q3⟩
theorem walks_zipT {F : Fx} {R : Reg} {H : Hp} {a b : Addr} {n m : Bool} {vs us : List V} {ds es : List D} (ha : SqT F.K H a vs) (la : RpL F H R n vs ds) (hb : SqT F.K H b us) (lb : RpL F H R m us es) :
    Walks F R H (RZ.ItzT F.K a b) (zipD (n && m) ds es) := fun i B R' H' z o => by
  have ha' := z.tup a _ ha
  have hb' := z.tup b _ hb
  have la' := la.fz z
  have lb' := lb.fz z
  refine ⟨fun hl => ⟨vs, us, ha', hb', ?_⟩, fun x hx => ?_⟩
  · rw [zipD_len] at hl
    rw [la.len, lb.len]
    omega
  · obtain ⟨d, e, h1, h2, rfl⟩ := zipD_get hx
    obtain ⟨v, hv, r⟩ := la'.get h1
    obtain ⟨u, hu, r2⟩ := lb'.get h2
    refine ⟨⟨vs, us, v, u, ha', hb', hv, hu⟩, fun w H'' ⟨T, x, y, e1, hT, e2, h3, h4⟩ => ?_⟩
    subst e1 e2
    rw [h3 vs ha'] at hv
    rw [h4 us hb'] at hu
    cases hv; cases hu
    obtain ⟨q1, q2, q3⟩ := new_tup (n := n && m) (vs := [v, u]) (ds := [d, e]) o hT (.cons (r.weak and_l) (.cons (r2.weak and_r) .nil))
    exact ⟨R', q1, q2, .of q3⟩
def gZip (xs : List Dv) (Q : List Dv → Prop) : Prop := match xs with
  | [x, y] => (match x.d, y.d with
    | .lst ds, .lst es => Q (zipD (x.fr && y.fr) ds es)
    | .tup ds, .tup es => Q (zipD (x.fr && y.fr) ds es)
    | _, _ => False)
  | _ => False
theorem di_zip {elts : List Expr} {kk : Nat} {tpos : Pos} (hg : Gl X "zip") (hm : X.mg "zip" = none) (ha : DA X E c [a, b] fs) (hs : starEach [a, b] X.env = (false, eval a X.env) :: starEach [b] X.env := by rfl) (hpl : (backTo pos (starEach [b] X.env)).any (·.1) = false := by rfl) :
    DI X E c (.Tuple elts kk tpos) (.Call (.Name "zip" p) [a, b] [] pos) (fun ρ XQ Q => fs ρ XQ fun xs => gZip xs Q) := by
  obtain ⟨t, pt, s⟩ := ha
  refine ⟨_, RZ.pi_zipA hg hm pt hs hpl, fun F B R H σ ρ α XQ Q K hK hX hB S h k => ?_⟩
  refine s F B R H σ ρ α XQ _ _ hK hX hB S h fun vs xs R' H' e' o' r' q' => ?_
  match xs, vs, r', q' with
  | [⟨d, n, vo⟩, ⟨d2, n2, vo2⟩], [v, u], .cons r1 (.cons r2 .nil), q' =>
    cases d <;> cases d2 <;> try exact q'.elim
    case lst.lst ds es =>
      obtain ⟨a, vs, rfl, ha, ra, la⟩ := r1.lstR rfl
      obtain ⟨b, us, rfl, hb, rb, lb⟩ := r2.lstR rfl
      exact ⟨a, b, vs, us, rfl, .inl ⟨.of ha, .of hb, k _ _ R' H' e' o' q' (walks_zip ha ra la hb rb lb)⟩⟩
    case tup.tup ds es =>
      obtain ⟨a, vs, rfl, ha, la⟩ := r1.tupL rfl
      obtain ⟨b, us, rfl, hb, lb⟩ := r2.tupL rfl
      exact ⟨a, b, vs, us, rfl, .inr ⟨hK ▸ ha, hK ▸ hb, hK ▸ k _ _ R' H' e' o' q' (walks_zipT ha la hb lb)⟩⟩
def enumD (n : Bool) : Nat → List D → List Dv
  | _, [] => []
  | i, x :: xs => ⟨.tup [.int (i : Nat), x], n, none⟩ :: enumD n (i + 1) xs
theorem enumD_len {n : Bool} : ∀ (i : Nat) (xs : List D), (enumD n i xs).length = xs.length
  | _, [] => rfl
  | i, x :: xs => by simp [enumD, enumD_len (i + 1) xs]
theorem enumD_get {n : Bool} : ∀ {xs : List D} {j i : Nat} {z : Dv}, (enumD n j xs)[i]? = some z → ∃ x, xs[i]? = some x ∧ z = ⟨.tup [.int ((j + i : Nat) : Int), x], n, none⟩
  | [], _, _, _, h => by simp [enumD] at h
  | x :: xs, j, 0, z, h => by
    simp [enumD] at h
    exact ⟨x, rfl, by rw [← h]; rfl⟩
  | x :: xs, j, i + 1, z, h => by
    obtain ⟨u, h1, h3⟩ := enumD_get (xs := xs) (j := j + 1) (i := i) (z := z) (by simpa [enumD] using h)
    exact ⟨u, by simpa using h1, by rw [h3]; congr 3; simp; omega⟩
theorem walks_enum {F : Fx} {R : Reg} {H : Hp} {K : PySem.W.Frag} {a : Addr} {n : Bool} {vs : List V} {ds : List D} (ha : H a = some (.lst vs)) (ra : R a) (la : RpL F H R n vs ds) : Walks F R H (Ite K a) (enumD n 0 ds) := fun i B R' H' z o => by
  have ha' := z.keep a _ ra ha .lst
  have la' := la.fz z
  refine ⟨fun hl => ⟨vs, .of ha', ?_⟩, fun x hx => ?_⟩
  · rw [enumD_len] at hl
    rw [la.len]
    omega
  · obtain ⟨d, h1, rfl⟩ := enumD_get hx
    obtain ⟨v, hv, r⟩ := la'.get h1
    refine ⟨⟨vs, v, .of ha', hv⟩, fun w H'' ⟨T, x, e1, hT, e2, h3⟩ => ?_⟩
    subst e1 e2
    rw [h3 vs (.of ha')] at hv
    cases hv
    rw [Nat.zero_add]
    obtain ⟨q1, q2, q3⟩ := new_tup (n := n) (vs := [.int (i : Nat), v]) (ds := [.int (i : Nat), d]) o hT (.cons (.int _) (.cons r .nil))
    exact ⟨R', q1, q2, .of q3⟩
theorem di_enum {elts : List Expr} {kk : Nat} {tpos : Pos} (hg : Gl X "enumerate") (hm : X.mg "enumerate" = none) (ha : DA X E c [a] fs) (hs : starEach [a] X.env = [(false, eval a X.env)] := by rfl) :
    DI X E c (.Tuple elts kk tpos) (.Call (.Name "enumerate" p) [a] [] pos) (fun ρ XQ Q => fs ρ XQ fun xs => match xs with | [x] => (match x.d with | .lst ds => Q (enumD x.fr 0 ds) | _ => False) | _ => False) := by
  obtain ⟨t, pt, s⟩ := ha
  refine ⟨_, pi_enum hg hm pt hs, fun F B R H σ ρ α XQ Q K hK hX hB S h k => ?_⟩
  refine s F B R H σ ρ α XQ _ _ hK hX hB S h fun vs xs R' H' e' o' r' q' => ?_
  match xs, vs, r', q' with
  | [⟨d, n, vo⟩], [v], .cons r1 .nil, q' =>
    cases d <;> try exact q'.elim
    case lst ds =>
      obtain ⟨a, vs, rfl, ha, ra, la⟩ := r1.lstR rfl
      exact ⟨a, vs, rfl, .of ha, k _ _ R' H' e' o' q' (walks_enum ha ra la)⟩

/-! ### own lists changed -/
theorem StOk.setow {F : Fx} {B : Nat} {R : Reg} {H : Hp} {σ : L2.St} {ρ : Ro} {α : Nat → Addr} (S : StOk F B R H σ ρ α) {i : Nat} {ds : List D} {n : Bool} (h : ρ[i]? = some (.ow (.lst ds) n)) {vs : List V} {ds' : List D} {m : Bool} (l : RpL F H R m vs ds') :
    StOk F B R (upd H (α i) (.lst vs)) σ (ρ.set i (.ow (.lst ds') m)) α ∧ Fz F R H R (upd H (α i) (.lst vs)) := by
  obtain ⟨e, w⟩ := S.ow i _ _ h
  obtain ⟨us, hu, lu⟩ := w.at_
  have z : Fz F R H R (upd H (α i) (.lst vs)) := Fz.put w.nr hu (fun _ z => nomatch z) fun _ _ z => nomatch z
  refine ⟨⟨S.hp.put w.nr w.nm w.n0 hu .lst .lst, by rw [List.length_set]; exact S.len, fun j x hj => ?_, fun j d k hj => ?_, fun j k d1 n1 d2 n2 hj hk ea => ?_⟩, z⟩
  · rcases set_get hj with ⟨_, q⟩ | ⟨ne, hj'⟩
    · cases q
    · obtain ⟨v, e1, r⟩ := S.va j x hj'
      exact ⟨v, e1, r.fz z⟩
  · rcases set_get hj with ⟨ej, q⟩ | ⟨ne, hj'⟩
    · cases q
      rw [ej]
      exact ⟨e, w.nr, w.nm, w.n0, w.p0, ⟨vs, upd_same, l.fz z⟩⟩
    · obtain ⟨e1, w1⟩ := S.ow j d k hj'
      have na : α j ≠ α i := fun q => ne (S.dis j i _ _ _ _ hj' h q)
      refine ⟨e1, w1.nr, w1.nm, w1.n0, w1.p0, ?_⟩
      have q := w1.at_
      cases d with
      | lst ds => obtain ⟨ws, a, b⟩ := q; exact ⟨ws, by rw [upd_ne na]; exact a, b.fz z⟩
      | dct ds =>
        rcases q with ⟨ws, a, b⟩ | ⟨ws, a, b⟩
        · exact .inl ⟨ws, by rw [upd_ne na]; exact a, b.mv (z.mv fun z => z)⟩
        · exact .inr ⟨ws, by rw [upd_ne na]; exact a, b.mv (z.mv fun z => z)⟩
      | obj k ds => obtain ⟨dx, ws, a, l, b⟩ := q; exact ⟨dx, ws, by rw [upd_ne na]; exact a, l, b.fz z⟩
      | _ => exact q.elim
  · rcases set_get hj with ⟨ej, _⟩ | ⟨nj, hj'⟩ <;> rcases set_get hk with ⟨ek, _⟩ | ⟨nk, hk'⟩
    · rw [ej, ek]
    · rw [ej] at ea ⊢
      exact S.dis i k _ _ _ _ h hk' ea
    · rw [ek] at ea ⊢
      exact S.dis j i _ _ _ _ hj' h ea
    · exact S.dis j k _ _ _ _ hj' hk' ea
/-- x.append(e), x an own list -/
theorem ds_append (l : List Nat) {i : Nat} {p1 apos : Pos} (he : DE X E c e fe) (ps : ∀ te, PE X e te → PS X (.Expr (.Call (.Attribute (.Name x p1) "append" apos) [e] [] p) pos) (tDrop (tBM X.K "list" rAppend (tVar i) (tCons te tNil)))) :
    DS X E c (.Expr (.Call (.Attribute (.Name x p1) "append" apos) [e] [] p) pos) (fun N ρ XQ => (∃ ds n, ρ[i]? = some (.ow (.lst ds) n)) ∧ fe (frz l ρ) XQ fun y => ∃ ds n, (if y.d.sca = true then ρ else frz l ρ)[i]? = some (.ow (.lst ds) n) ∧ ds.length < BIG ∧ N.nx ((if y.d.sca = true then ρ else frz l ρ).set i (.ow (.lst (ds ++ [y.d])) (n && y.fr)))) := by
  obtain ⟨t, p, s⟩ := he
  refine ⟨_, ps t p, fun F B R H σ ρ α XQ N K hK hX hB S ⟨⟨ds0, n0, h0⟩, h⟩ k => ?_⟩
  obtain ⟨e0, w0⟩ := S.ow i _ _ h0
  obtain ⟨vs0, hv0, _⟩ := w0.at_
  refine ⟨_, e0, Or.inl ⟨rfl, _, SqL.of hv0⟩, ?_⟩
  refine run_frz (X := X) (E := E) (c := c) (Q := fun y ρ' => ∃ ds n, ρ'[i]? = some (.ow (.lst ds) n) ∧ ds.length < BIG ∧ N.nx (ρ'.set i (.ow (.lst (ds ++ [y.d])) (n && y.fr)))) s hK hX hB S h fun v y ρ' R' H' z S' r ⟨ds, n, h1, hl, q⟩ => ?_
  obtain ⟨e1, w1⟩ := S'.ow i _ _ h1
  have e2 : V.ref (α i) = V.ref (α i) := rfl
  obtain ⟨vs, hv, lv⟩ := w1.at_
  refine ⟨α i, vs, v, rfl, rfl, hv, lt_line (by rw [lv.len]; exact hl), ?_⟩
  obtain ⟨S2, z2⟩ := S'.setow h1 (vs := vs ++ [v]) (ds' := ds ++ [y.d]) (m := n && y.fr) ((lv.weak and_l).app (.cons (r.fr.weak and_r) .nil))
  exact k.nx σ _ _ R' α (z.trans z2) S2 q
/-- x.extend(e), x an own list, e a list -/
theorem ds_extend (l : List Nat) {i : Nat} {p1 apos : Pos} (he : DE X E c e fe) (ps : ∀ te, PE X e te → PS X (.Expr (.Call (.Attribute (.Name x p1) "extend" apos) [e] [] p) pos) (tDrop (tBM X.K "list" rExtend (tVar i) (tCons te tNil)))) :
    DS X E c (.Expr (.Call (.Attribute (.Name x p1) "extend" apos) [e] [] p) pos) (fun N ρ XQ => (∃ ds n, ρ[i]? = some (.ow (.lst ds) n)) ∧ fe (frz l ρ) XQ fun y => ∃ ds n es, (if y.d.sca = true then ρ else frz l ρ)[i]? = some (.ow (.lst ds) n) ∧ y.d = .lst es ∧ ds.length + es.length ≤ BIG ∧ N.nx ((if y.d.sca = true then ρ else frz l ρ).set i (.ow (.lst (ds ++ es)) (n && y.fr)))) := by
  obtain ⟨t, p, s⟩ := he
  refine ⟨_, ps t p, fun F B R H σ ρ α XQ N K hK hX hB S ⟨⟨ds0, n0, h0⟩, h⟩ k => ?_⟩
  obtain ⟨e0, w0⟩ := S.ow i _ _ h0
  obtain ⟨vs0, hv0, _⟩ := w0.at_
  refine ⟨_, e0, Or.inl ⟨rfl, _, SqL.of hv0⟩, ?_⟩
  refine run_frz (X := X) (E := E) (c := c) (Q := fun y ρ' => ∃ ds n es, ρ'[i]? = some (.ow (.lst ds) n) ∧ y.d = .lst es ∧ ds.length + es.length ≤ BIG ∧ N.nx (ρ'.set i (.ow (.lst (ds ++ es)) (n && y.fr)))) s hK hX hB S h fun v y ρ' R' H' z S' r ⟨ds, n, es, h1, ey, hl, q⟩ => ?_
  obtain ⟨e1, w1⟩ := S'.ow i _ _ h1
  obtain ⟨vs, hv, lv⟩ := w1.at_
  obtain ⟨b, us, rfl, hb, lb⟩ := r.lstL ey
  refine ⟨α i, b, vs, us, rfl, rfl, hv, hb, le_line (by rw [lv.len, lb.len]; exact hl), ?_⟩
  obtain ⟨S2, z2⟩ := S'.setow h1 (vs := vs ++ us) (ds' := ds ++ es) (m := n && y.fr) ((lv.weak and_l).app (lb.weak and_r))
  exact k.nx σ _ _ R' α (z.trans z2) S2 q

/-! ### defs -/
/-- a def's contract: the arguments' data, their values; what may be raised; what is wanted of the answer -/
abbrev DC := List D → List V → XQT → (Dv → Prop) → Prop
def spD (K : PySem.W.Frag) (np cost : Nat) (g : DC) : Sp := fun vs H Q Ex => vs.length = np ∧ ∃ (R : Reg) (st : Option (Addr × Addr)) (L B : Nat) (ds : List D) (XQ : XQT) (QD : Dv → Prop), HpOk ⟨K, H, R, st, L, Nn H⟩ B R H ∧ B + cost ≤ L ∧
  Paired (fun d v => RpD ⟨K, H, R, st, L, Nn H⟩ H R d.imm v d) ds vs ∧ g ds vs XQ QD ∧ XLink ⟨K, H, R, st, L, Nn H⟩ Ex XQ ∧
  ∀ v x R' H', Ext ⟨K, H, R, st, L, Nn H⟩ R H R' H' → HpOk ⟨K, H, R, st, L, Nn H⟩ (B + cost) R' H' → Rp ⟨K, H, R, st, L, Nn H⟩ H' R' x v → QD x → Q v H'
/-- the slots at a def's entry -/
def params (ds : List D) (vs : List V) (n : Nat) : Ro := (List.zipWith (fun d v => Sl.va ⟨d, d.imm, some v⟩) ds vs) ++ List.replicate n .un
abbrev FnD (P : Program) (w : World) (K : PySem.W.Frag) (mg : Str → Option Value) (base : Heap) (k : Nat) (f : Addr) (fd : FuncData) (ps : List Str) (cost : Nat) (g : DC) : Prop := FnOk P w K mg base (L2.CX P w) k f fd ps (spD K ps.length cost g)

mutual
theorem RpD.reI {F F' : Fx} (hK : F'.K = F.K) (hs : F'.st = F.st) {H : Hp} {R : Reg} : ∀ {n : Bool} {v : V} {d : D}, RpD F H R n v d → RpD F' H R d.imm v d
  | _, _, _, .non => .non
  | _, _, _, .bl b => .bl b
  | _, _, _, .int i => .int i
  | _, _, _, .str x => .str x
  | _, _, _, .lst h r _ t => .lst h r (fun z => nomatch z) (RpL.re0 hK hs t)
  | _, _, .tup ds, .tup h t => .tup (by rw [hK]; exact h) (RpL.reI hK hs t)
  | _, _, _, .dK h r _ t => .dK h r (fun z => nomatch z) (t.mv ⟨hK, fun _ z => by rw [hs]; exact z, fun _ _ r h _ => ⟨r, h⟩, fun _ _ h => h, fun z => nomatch z⟩)
  | _, _, _, .dT h r _ t => .dT h r (fun z => nomatch z) (t.mv ⟨hK, fun _ z => by rw [hs]; exact z, fun _ _ r h _ => ⟨r, h⟩, fun _ _ h => h, fun z => nomatch z⟩)
  | _, _, _, .strm e => .strm (by rw [hs]; exact e)
  | _, _, _, .vee v => .vee v
  | _, _, _, .obj h r _ c e t => .obj (by rw [hK]; exact h) r (fun z => nomatch z) c e (RpL.re0 hK hs t)
  | _, _, _, .bm h r _ t => .bm h r (fun z => nomatch z) ((RpD.reI hK hs t).weak fun z => nomatch z)
theorem RpL.reI {F F' : Fx} (hK : F'.K = F.K) (hs : F'.st = F.st) {H : Hp} {R : Reg} : ∀ {n : Bool} {v : List V} {d : List D}, RpL F H R n v d → RpL F' H R (D.immL d) v d
  | _, _, _, .nil => .nil
  | _, _, _, .cons a t => .cons ((RpD.reI hK hs a).weak and_l) ((RpL.reI hK hs t).weak and_r)
theorem RpL.re0 {F F' : Fx} (hK : F'.K = F.K) (hs : F'.st = F.st) {H : Hp} {R : Reg} : ∀ {n : Bool} {v : List V} {d : List D}, RpL F H R n v d → RpL F' H R false v d
  | _, _, _, .nil => .nil
  | _, _, _, .cons a t => .cons ((RpD.reI hK hs a).weak fun z => nomatch z) (RpL.re0 hK hs t)
end
theorem paired_re {F F' : Fx} (hK : F'.K = F.K) (hs : F'.st = F.st) {H : Hp} {R : Reg} : ∀ {xs : List Dv} {vs : List V}, Paired (fun x v => Rp F H R x v) xs vs → Paired (fun d v => RpD F' H R d.imm v d) (xs.map (·.d)) vs
  | _, _, .nil => .nil
  | _, _, .cons a t => .cons (a.1.reI hK hs) (paired_re hK hs t)
/-- concrete values as far as they are known -/
def Conc (x : Dv) (v : V) : Prop := (∀ u, x.v = some u → u = v) ∧ (match x.d with | .non => v = .non | .bl b => v = .bl b | .int i => v = .int i | .str s => v = .str s | _ => True)
theorem Rp.conc {F : Fx} {H : Hp} {R : Reg} {x : Dv} {v : V} (h : Rp F H R x v) : Conc x v := by
  refine ⟨h.2, ?_⟩
  have r := h.1
  generalize x.d = d at r
  cases r <;> first | rfl | trivial
theorem paired_conc {F : Fx} {H : Hp} {R : Reg} : ∀ {xs : List Dv} {vs : List V}, Paired (fun x v => Rp F H R x v) xs vs → Paired Conc xs vs
  | _, _, .nil => .nil
  | _, _, .cons a t => .cons a.conc (paired_conc t)
/-- a call told by its contract -/
def gCall (g : DC) : Ro → XQT → List Dv → (Dv → Prop) → Prop := fun _ XQ xs Q => ∀ vs, Paired Conc xs vs → g (xs.map (·.d)) vs XQ fun r => Q { r with v := none }
theorem call_core {ps : List Str} {cost : Nat} {g : DC} {F : Fx} {B : Nat} {R : Reg} {H : Hp} {vs : List V} {xs : List Dv} {XQ : XQT} {Q : Dv → Prop} {K : VK} (hK : F.K = X.K) (hX : XLink F E XQ) (hB : B + cost ≤ F.L) (o : HpOk F B R H) (r : Paired (fun x v => Rp F H R x v) xs vs) (hl : xs.length = ps.length) (q : gCall g [] XQ xs Q)
    (k : ∀ v x R' H', Ext F R H R' H' → HpOk F (B + cost) R' H' → Rp F H' R' x v → Q x → K v H') : spD X.K ps.length cost g vs H K E := by
  obtain ⟨FK, FH0, FR0, st, L, FP⟩ := F
  cases hK
  refine ⟨by rw [← hl]; exact (Paired.length r).symm, R, st, L, B, xs.map (·.d), XQ, _, ⟨o.inv, o.good, fun a u _ e _ => e, fun a e => e, fun a r => .inl r, o.tab, o.lim, fun a e => e⟩, hB, paired_re (F := ⟨X.K, FH0, FR0, st, L, FP⟩) (F' := ⟨X.K, H, R, st, L, Nn H⟩) rfl rfl r, q vs (paired_conc r), ⟨fun x v h => ⟨(hX.1 x v h).1, fun e => ?_⟩, ?_⟩, ?_⟩
  · obtain ⟨hs, a, ns, ea, sq, l⟩ := (hX.1 x v h).2 e
    exact ⟨hs, a, ns, ea, sq.keep fun o' u h' => o.ent a _ (fun ⟨p, ep, _⟩ => by rw [show st = none from hs] at ep; cases ep) h' .frz, l⟩
  · intro C f v dx H' hx hk ht hi hb hd
    exact hX.2 C f v dx H' hx (fun a u m e nt => hk a u m (o.ent a u m e nt) nt) (fun a e => o.ent2 a (ht a e)) hi hb hd
  · intro v x R' H' e' o' r' q'
    have n2 : ∀ a, Nn H a → Nn FH0 a := o.ent2
    have p2 : ∀ a, Nn H a → FP a := o.pn
    refine k v { x with v := none } R' H' ⟨e'.reg, e'.keep, e'.new, e'.there⟩ ⟨o'.inv, o'.good, fun a u m e nt => o'.ent a u m (o.ent a u m e nt) nt, fun a e => n2 a (o'.ent2 a e), fun a r => (o'.reg0 a r).elim (o.reg0 a) fun z => .inr (n2 a z), o'.tab, o'.lim, fun a e => p2 a (o'.pn a e)⟩ ?_ q'
    have mv : Mv ⟨X.K, H, R, st, L, Nn H⟩ R' H' ⟨X.K, FH0, FR0, st, L, FP⟩ R' H' x.n x.n := ⟨rfl, fun _ z => z, fun _ _ r h _ => ⟨r, h⟩, fun _ _ h => h, fun z a u _ _ _ w => p2 a (w z)⟩
    exact .of (r'.1.mv mv)
theorem de_call {k : Nat} {f : Addr} {fd : FuncData} {ps : List Str} {cost : Nat} {g : DC} (F : FnD X.prog X.w X.K X.mg X.base k f fd ps cost g) (hr : Room k X.A) (hg : Gl X x) (hm : X.mg x = some (.ref f)) (hk : PySem.W.keepIn X.K (.ref f) = true) (hb : Binds X.K fd ps [])
    (hx : Passes (L2.CX X.prog X.w) X E) (hn : (e :: es).length = ps.length) (ha : DA X E c (e :: es) fs) (hdb : (x == ("__debug__" : Str)) = false := by decide) (he : starEach (e :: es) X.env = (false, eval e X.env) :: starEach es X.env := by rfl) (hpl : (backTo pos (starEach es X.env)).any (·.1) = false := by rfl) :
    DE X E (c + cost) (.Call (.Name x p) (e :: es) [] pos) (fun ρ XQ Q => fs ρ XQ fun xs => xs.length = ps.length ∧ gCall g ρ XQ xs Q) := by
  obtain ⟨t, pt, s⟩ := ha
  refine ⟨_, pe_call F hr hg hm hk hb .nil hx pt hdb he hpl, fun F B R H σ ρ α XQ Q K hK hX hB S h k => ?_⟩
  refine s F B R H σ ρ α XQ _ _ hK hX (by omega) S h fun vs xs R' H' e' o' r' ⟨hl, q'⟩ => ?_
  rw [List.append_nil]
  exact call_core hK hX (by omega) o' r' hl q' fun v x R2 H2 e2 o2 r2 q2 => k v x R2 H2 (e'.trans e2) (by rw [← Nat.add_assoc]; exact o2) r2 q2
theorem start_get {ds : List D} {vs : List V} {F : Fx} {H : Hp} {R : Reg} (h : Paired (fun d v => RpD F H R d.imm v d) ds vs) (N : List Str) : ∀ (i : Nat) x, (params ds vs (N.length - vs.length))[i]? = some (.va x) → ∃ v, (L2.start N vs)[i]? = some (some v) ∧ Rp F H R x v := by
  intro i x hx
  unfold params at hx
  unfold L2.start
  have hl : (List.zipWith (fun d v => Sl.va ⟨d, d.imm, some v⟩) ds vs).length = vs.length := by rw [List.length_zipWith, Paired.length h, Nat.min_self]
  by_cases hi : i < vs.length
  · rw [List.getElem?_append_left (by rw [hl]; exact hi)] at hx
    rw [List.getElem?_append_left (by rw [List.length_map]; exact hi)]
    have : ∀ {ds : List D} {vs : List V} {i : Nat}, Paired (fun d v => RpD F H R d.imm v d) ds vs → (List.zipWith (fun d v => Sl.va ⟨d, d.imm, some v⟩) ds vs)[i]? = some (.va x) → ∃ v, (vs.map some)[i]? = some (some v) ∧ Rp F H R x v := by
      intro ds vs i h
      induction h generalizing i with
      | nil => intro q; simp at q
      | @cons d v ds vs a t ih =>
        intro q
        cases i with
        | zero =>
          simp at q
          refine ⟨v, rfl, ?_⟩
          rw [← q]
          exact ⟨a, fun u z => (Option.some.inj z).symm⟩
        | succ j =>
          obtain ⟨v, a, b⟩ := ih (i := j) (by simpa using q)
          exact ⟨v, by simpa using a, b⟩
    exact this h hx
  · rw [List.getElem?_append_right (by rw [hl]; omega)] at hx
    rw [List.getElem?_replicate] at hx
    split at hx <;> cases hx
theorem params_ow {ds : List D} {vs : List V} {n i : Nat} {d : D} {m : Bool} : (params ds vs n)[i]? ≠ some (.ow d m) := by
  intro h
  unfold params at h
  rcases List.mem_append.mp (List.mem_of_getElem? h) with z | z
  · rw [List.zipWith_eq_zipWith_take_min] at z
    obtain ⟨a, ha, e⟩ := List.mem_iff_getElem.mp z
    simp at e
  · rw [List.mem_replicate] at z
    cases z.2
end
/-- a def keeps its contract: its body's reading -/
theorem fn_ok {P : Program} {w : World} {K : PySem.W.Frag} {mg : Str → Option Value} {base : Heap} {x qual : Str} {pr : Arguments} {body : List Stmt} {scope : Scope} {f : Addr} {fd : FuncData} {N ps : List Str} {k cost : Nat} {g : DC} (F : FunD K x qual pr body scope [] [] f fd) (S : FnScope N ps scope)
    (hbody : ∀ (cdv : Value) (A : Around) (outer : List Env) (s : Shared) (H : Hp) (E : XK), Room k (A.deeper (envOfC qual scope s.heap.objs.size f cdv)) →
      ∃ (c : Nat) (gb : TDS), DSs (cxOf (L2.CX P w) P w K mg base N qual scope f cdv A outer s H E) E c body gb ∧ c ≤ cost ∧ ∀ ds vs XQ Q, ds.length = ps.length → vs.length = ps.length → g ds vs XQ Q → gb { nx := fun _ => Q ⟨.non, true, none⟩, rt := fun r => Q { r with v := none } } (params ds vs (N.length - vs.length)) XQ) : FnD P w K mg base (k + 1) f fd ps cost g := by
  refine F.ok S (fun vs H Q E h => h.1) (fun cdv A outer s H vs Q E hr h => ?_)
  obtain ⟨hl, R, st, L, B, ds, XQ, QD, o, hB, r, q, hX, k⟩ := h
  obtain ⟨c, gb, ⟨t, p, sm⟩, hc, hg⟩ := hbody cdv A outer s H E hr
  have hd : ds.length = ps.length := by rw [Paired.length r]; exact hl
  refine ⟨t, p, sm ⟨K, H, R, st, L, Nn H⟩ B R H (L2.start N vs) (params ds vs (N.length - vs.length)) (fun _ => 0) XQ _ _ rfl hX (show B + c ≤ L by omega) ⟨o, ?_, start_get r N, fun i d n z => absurd z params_ow, fun i j d n d' n' z => absurd z params_ow⟩ (hg ds vs XQ QD hd hl q) ?_⟩
  · unfold L2.start params
    rw [List.length_append, List.length_append, List.length_map, List.length_replicate, List.length_replicate, List.length_zipWith, hd, hl, Nat.min_self]
  have fin : ∀ {R' H'}, Fz ⟨K, H, R, st, L, Nn H⟩ R H R' H' → HpOk ⟨K, H, R, st, L, Nn H⟩ (B + cost) R' H' → Ext ⟨K, H, R, st, L, Nn H⟩ R H R' H' := fun z o' => ⟨z.reg, o'.ent, o'.reg0, o'.ent2⟩
  exact ⟨fun σ' H' ρ' R' α' z S' q' => k .non ⟨.non, true, none⟩ R' H' (fin z (S'.hp.mono (by omega))) (S'.hp.mono (by omega)) (.of .non) q', fun v x R' H' z o' r' q' => k v { x with v := none } R' H' (fin z (o'.mono (by omega))) (o'.mono (by omega)) (.of r'.1) q', fun _ _ _ _ _ _ _ q => q.elim, fun _ _ _ _ _ _ _ q => q.elim⟩
/-- what a callee raises passes out of the def -/
theorem passE {X : Cx} {E : XK} (tk : Takes X (fun cls d _ H => E cls d H)) : Passes (L2.CX X.prog X.w) X E := passes_call tk fun _ _ _ _ h => h
end DL

set_option Elab.async false
set_option linter.all false
set_option maxRecDepth 100000
set_option maxHeartbeats 4000000
/-! DL, part i: chains, signs, {} , constants of the module. -/
namespace DL
open PySem PySem.Spec PyProof.Rows L2
section
variable {X : Cx} {E : XK} {c ca cb cc : Nat} {a b e d : Expr} {es : List Expr} {fa fb fc fe : TD} {fs : TDs} {pos p : Pos} {x : Str}
theorem de_neg (ha : DE X E c a fa) : DE X E c (.UnaryOp .USub a pos) (fun ρ XQ Q => fa ρ XQ fun x => match x.d with | .int i => Q ⟨.int (-i), true, none⟩ | _ => False) := by
  obtain ⟨t, p, s⟩ := ha
  refine ⟨_, pe_un un_neg p, fun F B R H σ ρ α XQ Q K hK hX hB S h k => s F B R H σ ρ α XQ _ _ hK hX hB S h fun v x R' H' e' o' r' q' => ?_⟩
  obtain ⟨d, n, vo⟩ := x
  have r2 := r'.1
  cases d <;> try exact q'.elim
  case int i =>
    cases r2
    exact ⟨i, rfl, k _ _ R' H' e' o' (.of (.int _)) q'⟩
/-- a op b op' d -/
def gChain (g g' : GD2) (fc : TD) : Ro → XQT → Dv → Dv → (Dv → Prop) → Prop := fun ρ XQ x y Q => g x y fun z => ∃ k, z.d = .bl k ∧ if k = true then fc ρ XQ fun w => g' y w Q else Q ⟨.bl false, true, none⟩
theorem chain_core {r r' : R2} {g g' : GD2} (sr : ∀ F B R H v u x y Q (K : VK), F.K = X.K → HpOk F B R H → Rp F H R x v → Rp F H R y u → g x y Q → (∀ w z R' H', Ext F R H R' H' → HpOk F B R' H' → Rp F H' R' z w → Q z → K w H') → r v u H K)
    (sr' : ∀ F B R H v u x y Q (K : VK), F.K = X.K → HpOk F B R H → Rp F H R x v → Rp F H R y u → g' x y Q → (∀ w z R' H', Ext F R H R' H' → HpOk F B R' H' → Rp F H' R' z w → Q z → K w H') → r' v u H K)
    {ta tb tc : TE}
    (sa : ∀ F B R H σ ρ α XQ Q (K : VK), F.K = X.K → XLink F E XQ → B + ca ≤ F.L → StOk F B R H σ ρ α → fa ρ XQ Q → (∀ v x R' H', Ext F R H R' H' → HpOk F (B + ca) R' H' → Rp F H' R' x v → Q x → K v H') → ta σ H K)
    (sb : ∀ F B R H σ ρ α XQ Q (K : VK), F.K = X.K → XLink F E XQ → B + cb ≤ F.L → StOk F B R H σ ρ α → fb ρ XQ Q → (∀ v x R' H', Ext F R H R' H' → HpOk F (B + cb) R' H' → Rp F H' R' x v → Q x → K v H') → tb σ H K)
    (sc : ∀ F B R H σ ρ α XQ Q (K : VK), F.K = X.K → XLink F E XQ → B + cc ≤ F.L → StOk F B R H σ ρ α → fc ρ XQ Q → (∀ v x R' H', Ext F R H R' H' → HpOk F (B + cc) R' H' → Rp F H' R' x v → Q x → K v H') → tc σ H K) :
    ∀ F B R H σ ρ α XQ Q (K : VK), F.K = X.K → XLink F E XQ → B + (ca + cb + cc) ≤ F.L → StOk F B R H σ ρ α → (fa ρ XQ fun x => fb ρ XQ fun y => gChain g g' fc ρ XQ x y Q) →
      (∀ v x R' H', Ext F R H R' H' → HpOk F (B + (ca + cb + cc)) R' H' → Rp F H' R' x v → Q x → K v H') → tChain r r' ta tb tc σ H K := fun F B R H σ ρ α XQ Q K hK hX hB S h k => by
  refine sa F B R H σ ρ α XQ _ _ hK hX (by omega) S h fun v x R1 H1 e1 o1 r1 q1 => ?_
  refine sb F (B + ca) R1 H1 σ ρ α XQ _ _ hK hX (by omega) (S.ext e1 o1) q1 fun u y R2 H2 e2 o2 r2 q2 => ?_
  refine sr F (B + ca + cb) R2 H2 v u x y _ _ hK o2 (r1.ext o1 e2) r2 q2 fun w z R3 H3 e3 o3 r3 q3 => ?_
  obtain ⟨kk, ek, q3⟩ := q3
  have r4 := r3.1
  rw [ek] at r4
  cases r4
  refine ⟨kk, rfl, ?_⟩
  cases kk with
  | false => exact k _ _ R3 H3 ((e1.trans e2).trans e3) (o3.mono (by omega)) (.of (.bl _)) q3
  | true =>
    have S3 := ((S.ext e1 o1).ext e2 o2).ext e3 o3
    refine sc F (B + ca + cb) R3 H3 σ ρ α XQ _ _ hK hX (by omega) S3 q3 fun w' z' R4 H4 e4 o4 r4 q4 => ?_
    refine sr' F _ R4 H4 u w' y z' Q K hK o4 ((r2.ext o2 e3).ext o3 e4) r4 q4 fun w5 z5 R5 H5 e5 o5 r5 q5 => ?_
    exact k w5 z5 R5 H5 ((((e1.trans e2).trans e3).trans e4).trans e5) (o5.mono (by omega)) r5 q5
theorem de_chain {op op' : CmpOp} {g g' : GD2} (ho : DOp X (compareOp op) g) (ho' : DOp X (compareOp op') g') (ha : DE X E ca a fa) (hb : DE X E cb b fb) (hd : DE X E cc d fc) (hm : lastMarks [op, op'] [b, d] = false := by with_unfolding_all rfl) :
    DE X E (ca + cb + cc) (.Compare a [op, op'] [b, d] pos) (fun ρ XQ Q => fa ρ XQ fun x => fb ρ XQ fun y => gChain g g' fc ρ XQ x y Q) := by
  obtain ⟨r, hr, sr⟩ := ho
  obtain ⟨r', hr', sr'⟩ := ho'
  obtain ⟨ta, pa, sa⟩ := ha
  obtain ⟨tb, pb, sb⟩ := hb
  obtain ⟨tc, pc, sc⟩ := hd
  exact ⟨_, pe_chain hr hr' pa pb pc hm, chain_core sr sr' sa sb sc⟩
theorem dt_chain {op op' : CmpOp} {g g' : GD2} (ho : DOp X (compareOp op) g) (ho' : DOp X (compareOp op') g') (ha : DE X E ca a fa) (hb : DE X E cb b fb) (hd : DE X E cc d fc) (hm : lastMarks [op, op'] [b, d] = false := by with_unfolding_all rfl) :
    DT X E (ca + cb + cc) (.Compare a [op, op'] [b, d] pos) (fun ρ XQ Q => fa ρ XQ fun x => fb ρ XQ fun y => gChain g g' fc ρ XQ x y fun z => ∃ k, z.d = .bl k ∧ Q k) := by
  obtain ⟨r, hr, sr⟩ := ho
  obtain ⟨r', hr', sr'⟩ := ho'
  obtain ⟨ta, pa, sa⟩ := ha
  obtain ⟨tb, pb, sb⟩ := hb
  obtain ⟨tc, pc, sc⟩ := hd
  refine ⟨_, pt_chain hr hr' pa pb pc hm, fun F B R H σ ρ α XQ Q K hK hX hB S h k => ?_⟩
  refine chain_core sr sr' sa sb sc F B R H σ ρ α XQ _ _ hK hX hB S h fun v x R' H' e' o' r' ⟨kk, ek, q'⟩ => ?_
  have r4 := r'.1
  rw [ek] at r4
  cases r4
  exact ⟨kk, rfl, k kk R' H' e' o' q'⟩
/-- {} -/
theorem dn_dnew : DN X E 0 (.Dict [] [] pos) (fun _ _ Q => Q ⟨.dct [], true, none⟩) :=
  ⟨_, pe_dnewK, fun F B R H σ ρ α XQ Q K _ _ _ S q k => fun p hp => k p (.dct []) true R _ (.new0 hp) (S.hp.new0 hp .dK) ⟨not_frozen S.hp hp, mx_none S.hp.inv hp, S.hp.ent2 p (.of hp), S.hp.pn p (.of hp), .inl ⟨[], upd_same, .nil⟩⟩ (.of hp) q⟩
end
theorem tys_ok2 {a b : String} (ha : TyOk a) (hb : TyOk b) : ∀ T ∈ [a, b], TyOk T := fun T h => by
  rcases List.mem_cons.mp h with rfl | h
  · exact ha
  · rw [List.mem_singleton.mp h]; exact hb
theorem tys_ok3 {a b c : String} (ha : TyOk a) (hb : TyOk b) (hc : TyOk c) : ∀ T ∈ [a, b, c], TyOk T := fun T h => by
  rcases List.mem_cons.mp h with rfl | h
  · exact ha
  · exact tys_ok2 hb hc T h
end DL

set_option Elab.async false
set_option linter.all false
set_option maxRecDepth 100000
set_option maxHeartbeats 4000000
/-! DL, part j: words for the plain side: sequences, good data, comprehensions as maps. -/
namespace DL
open PySem PySem.Spec PyProof.Rows L2

/-- the items of a list or a tuple -/
def D.seq : D → Option (List D)
  | .lst xs => some xs
  | .tup xs => some xs
  | _ => none
mutual
/-- data of a sound size, of kinds that isinstance knows -/
def D.good : D → Bool
  | .lst xs => D.goodL xs && decide (xs.length ≤ 100000)
  | .tup xs => D.goodL xs && decide (xs.length ≤ 100000)
  | .dct kvs => D.goodP kvs && decide (kvs.length ≤ 100000)
  | .str x => PyData.strOk x && decide (x.length ≤ 100000)
  | .strm => false
  | .vee _ => false
  | .obj _ _ => false
  | .bm _ _ => false
  | _ => true
def D.goodL : List D → Bool
  | [] => true
  | x :: xs => D.good x && D.goodL xs
def D.goodP : List (D × D) → Bool
  | [] => true
  | (k, v) :: xs => D.good k && D.good v && D.goodP xs
end
theorem good_ty {d : D} (h : d.good = true) : ∃ s, d.ty = some s := by
  cases d <;> first | exact ⟨_, rfl⟩ | (simp [D.good] at h)
theorem goodL_mem : ∀ {xs : List D}, D.goodL xs = true → ∀ x ∈ xs, x.good = true
  | [], _, _, h => by cases h
  | y :: ys, h, x, hx => by
    simp only [D.goodL, Bool.and_eq_true] at h
    rcases List.mem_cons.mp hx with rfl | hx
    · exact h.1
    · exact goodL_mem h.2 x hx
theorem goodL_of : ∀ {xs : List D}, (∀ x ∈ xs, x.good = true) → D.goodL xs = true
  | [], _ => rfl
  | y :: ys, h => by
    simp only [D.goodL, Bool.and_eq_true]
    exact ⟨h y List.mem_cons_self, goodL_of fun x hx => h x (List.mem_cons_of_mem _ hx)⟩
theorem good_seq {d : D} (h : d.good = true) {xs : List D} (e : d.seq = some xs) : (∀ x ∈ xs, x.good = true) ∧ xs.length ≤ 100000 := by
  cases d <;> first | (cases e; done) | skip
  all_goals
    cases e
    simp only [D.good, Bool.and_eq_true, decide_eq_true_eq] at h
    exact ⟨goodL_mem h.1, h.2⟩

/-! ### comprehensions -/
/-- one turn -/
def lcStep (gt : TDG) (ft : TDt) (fe : TD) (ρw : Ro) (x : Dv) (K1 : Dv → Prop) (K0 : Prop) : Prop := gt x ρw fun ρ2 => ft ρ2 XQ0 fun b => if b = true then fe ρ2 XQ0 K1 else K0
theorem lcGo_cons {gt : TDG} {ft : TDt} {fe : TD} {ρw : Ro} {Q : Dv → Prop} {x : Dv} {xs : List Dv} {acc : List D} {n : Bool} :
    lcGo gt ft fe ρw Q (x :: xs) acc n = lcStep gt ft fe ρw x (fun y => lcGo gt ft fe ρw Q xs (acc ++ [y.d]) (n && y.fr)) (lcGo gt ft fe ρw Q xs acc n) := rfl
/-- each item gives what F says, or nothing -/
theorem lc_any {gt : TDG} {ft : TDt} {fe : TD} {ρw : Ro} {Q : Dv → Prop} (F : Dv → Option D) : ∀ {xs : List Dv} {acc : List D} {n : Bool},
    (∀ x ∈ xs, ∀ (K1 : Dv → Prop) (K0 : Prop), (∀ d, F x = some d → ∀ m v, K1 ⟨d, m, v⟩) → (F x = none → K0) → lcStep gt ft fe ρw x K1 K0) → (∀ m, Q ⟨.lst (acc ++ xs.filterMap F), m, none⟩) → lcGo gt ft fe ρw Q xs acc n
  | [], acc, n, _, q => by
    have := q n
    rw [List.filterMap_nil, List.append_nil] at this
    exact this
  | x :: xs, acc, n, h, q => by
    rw [lcGo_cons]
    refine h x List.mem_cons_self _ _ (fun d e m v => ?_) (fun e => ?_)
    · refine lc_any F (fun y hy => h y (List.mem_cons_of_mem _ hy)) fun m' => ?_
      have := q m'
      rw [List.filterMap_cons, e] at this
      simpa using this
    · refine lc_any F (fun y hy => h y (List.mem_cons_of_mem _ hy)) fun m' => ?_
      have := q m'
      rw [List.filterMap_cons, e] at this
      exact this
/-- a map -/
theorem lc_map {gt : TDG} {ft : TDt} {fe : TD} {ρw : Ro} {Q : Dv → Prop} (F : Dv → D) {xs : List Dv} (h : ∀ x ∈ xs, ∀ (K1 : Dv → Prop) (K0 : Prop), (∀ m v, K1 ⟨F x, m, v⟩) → lcStep gt ft fe ρw x K1 K0) (q : ∀ m, Q ⟨.lst (xs.map F), m, none⟩) : lcGo gt ft fe ρw Q xs [] true :=
  lc_any (fun x => some (F x)) (fun x hx K1 K0 h1 _ => h x hx K1 K0 (h1 _ rfl)) (by simpa [List.filterMap_eq_map] using q)
/-- all fresh -/
theorem lc_new {gt : TDG} {ft : TDt} {fe : TD} {ρw : Ro} {Q : Dv → Prop} (F : Dv → Option D) : ∀ {xs : List Dv} {acc : List D},
    (∀ x ∈ xs, ∀ (K1 : Dv → Prop) (K0 : Prop), (∀ d, F x = some d → ∀ v, K1 ⟨d, true, v⟩) → (F x = none → K0) → lcStep gt ft fe ρw x K1 K0) → Q ⟨.lst (acc ++ xs.filterMap F), true, none⟩ → lcGo gt ft fe ρw Q xs acc true
  | [], acc, _, q => by
    rw [List.filterMap_nil, List.append_nil] at q
    exact q
  | x :: xs, acc, h, q => by
    rw [lcGo_cons]
    refine h x List.mem_cons_self _ _ (fun d e v => ?_) (fun e => ?_)
    · have z : ((true : Bool) && Dv.fr ⟨d, true, v⟩) = true := rfl
      rw [z]
      refine lc_new F (fun y hy => h y (List.mem_cons_of_mem _ hy)) ?_
      rw [List.filterMap_cons, e] at q
      simpa using q
    · refine lc_new F (fun y hy => h y (List.mem_cons_of_mem _ hy)) ?_
      rw [List.filterMap_cons, e] at q
      exact q
theorem lc_mapN {gt : TDG} {ft : TDt} {fe : TD} {ρw : Ro} {Q : Dv → Prop} (F : Dv → D) {xs : List Dv} (h : ∀ x ∈ xs, ∀ (K1 : Dv → Prop) (K0 : Prop), (∀ v, K1 ⟨F x, true, v⟩) → lcStep gt ft fe ρw x K1 K0) (q : Q ⟨.lst (xs.map F), true, none⟩) : lcGo gt ft fe ρw Q xs [] true :=
  lc_new (fun x => some (F x)) (fun x hx K1 K0 h1 _ => h x hx K1 K0 (h1 _ rfl)) (by simpa [List.filterMap_eq_map] using q)
/-! ### lists and tuples alike -/
theorem getV_va {x : Dv} {Q : Dv → Prop} : getV (some (.va x)) Q = Q x := rfl
theorem items_seq {x : Dv} {Q : List Dv → Prop} {ds : List D} (h : x.d.seq = some ds) : items x Q = Q (ds.map fun d => ⟨d, x.fr, none⟩) := by
  obtain ⟨d, n, v⟩ := x
  cases d <;> first | (cases h; rfl) | (simp [D.seq] at h)
theorem unp_seq {n : Nat} {gs : TDGs} {x : Dv} {ρ : Ro} {Q : Ro → Prop} {ds : List D} (h : x.d.seq = some ds) : unp n gs x ρ Q = (ds.length = n ∧ gs (ds.map fun d => ⟨d, x.fr, none⟩) ρ Q) := by
  obtain ⟨d, k, v⟩ := x
  cases d <;> first | (cases h; rfl) | (simp [D.seq] at h)
theorem gLen_seq {x : Dv} {Q : Dv → Prop} {ds : List D} (h : x.d.seq = some ds) : gLen x Q = Q ⟨.int ds.length, true, none⟩ := by
  obtain ⟨d, k, v⟩ := x
  cases d <;> first | (cases h; rfl) | (simp [D.seq] at h)
theorem gIx_seq {x y : Dv} {Q : Dv → Prop} {ds : List D} {i : Int} (h : x.d.seq = some ds) (hy : y.d = .int i) : gIx x y Q = ∃ d, atI ds i = some d ∧ Q ⟨d, x.fr, none⟩ := by
  obtain ⟨d, k, v⟩ := x
  obtain ⟨d2, k2, v2⟩ := y
  cases hy
  cases d <;> first | (cases h; rfl) | (simp [D.seq] at h)
/-- the same kind with other items -/
def D.like : D → List D → D
  | .tup _, ds => .tup ds
  | _, ds => .lst ds
theorem like_seq {a : D} {ds : List D} : (a.like ds).seq = some ds := by cases a <;> rfl
theorem gSl_seq {x : Dv} {lo hi : Option Int} {Q : Dv → Prop} {ds : List D} (h : x.d.seq = some ds) : gSl x lo hi Q = Q ⟨x.d.like (cutL ds lo hi), x.fr, none⟩ := by
  obtain ⟨d, k, v⟩ := x
  cases d <;> first | (cases h; rfl) | (simp [D.seq] at h)
/-- all([..]), any([..]) over a comprehension of truth values -/
theorem all_go {gt : TDG} {ft : TDt} {fe : TD} {ρw : Ro} {Q : Dv → Prop} (f : Dv → Bool) {xs : List Dv} (h : ∀ x ∈ xs, ∀ (K1 : Dv → Prop) (K0 : Prop), (∀ v, K1 ⟨.bl (f x), true, v⟩) → lcStep gt ft fe ρw x K1 K0) (q : Q ⟨.bl (xs.all f), true, none⟩) :
    lcGo gt ft fe ρw (fun x => g1 (fun x Q => ∃ bs : List Bool, x.d = .lst (bs.map D.bl) ∧ Q ⟨.bl (bs.all id), true, none⟩) [x] Q) xs [] true :=
  lc_mapN (fun x => .bl (f x)) h ⟨xs.map f, by simp, by simpa [List.all_map] using q⟩
theorem any_go {gt : TDG} {ft : TDt} {fe : TD} {ρw : Ro} {Q : Dv → Prop} (f : Dv → Bool) {xs : List Dv} (h : ∀ x ∈ xs, ∀ (K1 : Dv → Prop) (K0 : Prop), (∀ v, K1 ⟨.bl (f x), true, v⟩) → lcStep gt ft fe ρw x K1 K0) (q : Q ⟨.bl (xs.any f), true, none⟩) :
    lcGo gt ft fe ρw (fun x => g1 (fun x Q => ∃ bs : List Bool, x.d = .lst (bs.map D.bl) ∧ Q ⟨.bl (bs.any id), true, none⟩) [x] Q) xs [] true :=
  lc_mapN (fun x => .bl (f x)) h ⟨xs.map f, by simp, by simpa [List.any_map] using q⟩
theorem gZip_seq {x y : Dv} {Q : List Dv → Prop} {ds es : List D} (h : x.d.seq = some ds) (hy : y.d = x.d.like es) : gZip [x, y] Q = Q (zipD (x.fr && y.fr) ds es) := by
  obtain ⟨d, k, v⟩ := x
  obtain ⟨d2, k2, v2⟩ := y
  cases hy
  cases d <;> first | (cases h; rfl) | (simp [D.seq] at h)
theorem cut1 {α : Type} (xs : List α) : cutL xs (some 1) none = xs.drop 1 := by
  unfold cutL
  have h1 : HT.sIx xs.length 0 (some 1) = min 1 xs.length := HT.sIx_nat xs.length 0 1
  rw [h1, HT.sIx_none]
  cases xs with
  | nil => rfl
  | cons x xs => simp
theorem gCall_of {g : DC} {ρ : Ro} {XQ : XQT} {xs : List Dv} {Q : Dv → Prop} (h : ∀ vs, g (xs.map (·.d)) vs XQ fun r => Q { r with v := none }) : gCall g ρ XQ xs Q := fun vs _ => h vs
end DL

set_option Elab.async false
set_option linter.all false
set_option maxRecDepth 100000
set_option maxHeartbeats 4000000
/-! DL, part k: powers of great ints; the stream of draws. -/
namespace DL
open PySem PySem.Spec PyProof.Rows L2

theorem op_powW {X : Cx} : OpR X (binaryOp .Pow) (rI (fun i j => 0 ≤ j ∧ (Builtin.Int.intBits i : Int) * j ≤ 2 ^ 27) fun i j => .int (i ^ j.toNat)) := opI fun _ _ _ _ _ _ _ hc q => pow_int hc.1 hc.2 q
theorem bits_le {i : Int} {k : Nat} (h0 : 0 ≤ i) (h : i < 2 ^ k) : Builtin.Int.intBits i ≤ k := by
  unfold Builtin.Int.intBits
  split
  · exact Nat.zero_le _
  · rename_i hz
    have hn : i.natAbs < 2 ^ k := by
      have e : (i.natAbs : Int) = i := Int.natAbs_of_nonneg h0
      have : (i.natAbs : Int) < ((2 ^ k : Nat) : Int) := by rw [e, Int.natCast_pow]; exact h
      exact Int.ofNat_lt.mp this
    have hp : i.natAbs ≠ 0 := fun z => hz (by simpa using z)
    have := (Nat.log2_lt hp).mpr hn
    omega
/-- the stream's lists after some changes at them alone -/
structure StrmUp (H H' : Hp) (p : Addr × Addr) (B' : Nat) : Prop where
  off : ∀ a, a ≠ p.1 → a ≠ p.2 → ∀ o, H a = some o → H' a = some o
  ok : StrmOk H' p B'
theorem strm_ext {F : Fx} {B B' : Nat} {R : Reg} {H H' : Hp} {p : Addr × Addr} (hst : F.st = some p) (I : HpOk F B R H) (u : StrmUp H H' p B') : Ext F R H R H' ∧ HpOk F B' R H' := by
  have off : ∀ a o, ¬ F.mx a → H a = some o → H' a = some o := fun a o m h => u.off a (fun z => m ⟨p, hst, .inl z⟩) (fun z => m ⟨p, hst, .inr z⟩) o h
  have inv' : F.inv B' H' := fun q hq => by rw [hst] at hq; cases hq; exact u.ok
  have lst' : ∀ a, F.mx a → ∃ xs, H' a = some (.lst xs) := fun a m => mx_lst inv' m
  refine ⟨⟨fun _ r => r, fun a o m h _ => off a o m h, fun _ r => .inl r, fun a h o e => fun nt => ?_⟩, ⟨inv', fun a r => ?_, fun a o m h nt => off a o m (I.ent a o m h nt), fun a h o e => fun nt => ?_, I.reg0, tab_keep I.tab fun b o n e => off b o (fun m => ?_) e, I.lim, fun a h => I.pn a fun o e nt => ?_⟩⟩
  · by_cases m : F.mx a
    · obtain ⟨xs, z⟩ := lst' a m
      exact h _ z .lst
    · exact h _ (off a o m e) nt
  · obtain ⟨m, o, ho, nt⟩ := I.good a r
    exact ⟨m, o, off a o m ho, nt⟩
  · by_cases m : F.mx a
    · obtain ⟨xs, z⟩ := lst' a m
      exact h _ z .lst
    · exact h _ (off a o m (I.ent a o m e nt)) nt
  · obtain ⟨xs, z⟩ := mx_lst I.inv m
    rw [e] at z
    cases z
    exact n .lst
  · by_cases m : F.mx a
    · obtain ⟨xs, z⟩ := lst' a m
      exact h _ z .lst
    · exact h _ (off a o m e) nt
/-- a drawn number below another one -/
def cDraw : DC := fun ds _ _ Q => ∃ m : Int, ds = [.strm, .int m] ∧ 0 < m ∧ m < 1073741824 ∧ ∀ k : Int, 0 ≤ k → k < m → Q ⟨.int k, true, none⟩
theorem lim_bits {n : Int} {B : Nat} (h : n ≤ (B : Int)) (hB : B ≤ LIM) : n < 2 ^ 100001 := by
  have h1 : (B : Int) ≤ ((2 ^ 100000 : Nat) : Int) := Int.ofNat_le.mpr (by unfold LIM at hB; exact hB)
  rw [Int.natCast_pow] at h1
  have h2 : (2 : Int) ^ 100001 = 2 ^ 100000 * 2 := Int.pow_succ 2 100000
  have h3 : (0 : Int) < 2 ^ 100000 := Int.pow_pos (by decide)
  have h4 : ((2 : Nat) : Int) = 2 := rfl
  rw [h4] at h1
  generalize (2 : Int) ^ 100000 = z at h1 h2 h3
  omega
end DL

set_option Elab.async false
set_option linter.all false
set_option maxRecDepth 100000
set_option maxHeartbeats 4000000
/-! DL, part l: the draw's reading. -/
namespace DL
open PySem PySem.Spec PyProof.Rows L2

/-- the stream's two lists -/
structure StrmAt (H : Hp) (a b : Addr) (xs : List Int) (c n s : Int) : Prop where
  top : H a = some (.lst [.ref b, .int c, .int n, .int s])
  low : H b = some (.lst (xs.map V.int))
theorem StrmAt.off {H H' : Hp} {a b : Addr} {xs : List Int} {c n s : Int} (h : StrmAt H a b xs c n s) (ha : H' a = H a) (hb : H' b = H b) : StrmAt H' a b xs c n s := ⟨ha.trans h.top, hb.trans h.low⟩
theorem StrmAt.put {H : Hp} {a b : Addr} {xs : List Int} {c n s c' n' s' : Int} (h : StrmAt H a b xs c n s) (hne : a ≠ b) : StrmAt (upd H a (.lst [.ref b, .int c', .int n', .int s'])) a b xs c' n' s' := ⟨upd_same, by rw [upd_ne hne.symm]; exact h.low⟩
theorem dp_ints {K : PySem.W.Frag} {H : Hp} : ∀ xs : List Int, DpAll K H (xs.map V.int) (xs.map PyData.int)
  | [] => .nil
  | x :: xs => .cons (.int x) (dp_ints xs)
theorem lay_ints : ∀ xs : List Int, PyData.canLayAll0 (xs.map PyData.int) = true
  | [] => rfl
  | x :: xs => by
    rw [List.map_cons, PyData.canLayAll0, lay_ints xs]
    rfl
theorem dep_ints : ∀ xs : List Int, PyData.depthAll (xs.map PyData.int) ≤ 1
  | [] => by decide
  | x :: xs => by
    have := dep_ints xs
    rw [List.map_cons, PyData.depthAll]
    simp only [PyData.depth]
    omega
theorem shaped_ints (xs : List Int) : SeqAt.shaped (.list (xs.map PyData.int)) = true := by
  unfold SeqAt.shaped
  rw [PyData.canLay0, lay_ints]
  have := dep_ints xs
  exact decide_eq_true (by simp only [PyData.depth]; omega)
theorem six (xs : List Int) {x : Int} : seqIndex? 0 ((x :: xs).map V.int).length = some 0 := by
  unfold seqIndex?
  simp
def drawTest (K : PySem.W.Frag) : TT := tAnd (tTest (tOp rEq (tOp (rIxL K) (tVar 0) (tC (V.int 1))) (tC (V.int 0)))) (tTest (tOp (rNeD K) (tOp (rIxL K) (tVar 0) (tC (V.int 0))) (tLst tNil)))
def drawBody (K : PySem.W.Frag) : TS := tSeq (tAsg (tCB (fun xs H Q => ∃ i, xs = [V.int i] ∧ Q (V.int (if i < 0 then -i else i)) H) (tCons (tBM K "list" rPopAt (tOp (rIxL K) (tVar 0) (tC (V.int 0))) (tCons (tC (V.int 0)) tNil)) tNil)) (gName 2))
    (tSeq (tAsg (tOp (rI (fun x j => 0 < j) fun i j => V.int (i % j)) (tCB (fun xs H Q => (∃ i, xs = [V.int i] ∧ Q (V.int i) H) ∨ ∃ k, xs = [V.bl k] ∧ Q (V.int (if k = true then 1 else 0)) H) (tCons (tOp (rI0 fun i j => V.int (i + j)) (tOp (rI0 fun i j => V.int (i + j)) (tOp (rI CMul fun i j => V.int (i * j)) (tOp (rIxL K) (tVar 0) (tC (V.int 3))) (tC (V.int 6151))) (tVar 2)) (tC (V.int 7))) tNil)) (tC (V.int 2147483629))) (gSub (tVar 0) (tC (V.int 3)) rSetL))
      (tAsg (tIf (tTest (tOp (rI0 fun i j => V.bl (decide (j ≤ i))) (tVar 2) (tOp (rI CPow fun i j => V.int (i ^ j.toNat)) (tC (V.int 10)) (tC (V.int 18))))) (tVar 2) (tC (V.int 0))) (gSub (tVar 0) (tC (V.int 1)) rSetL)))
/-- the cells that are taken: what is left of them, the great number, the mixed one -/
def takeC : List Int → Int → Int → List Int × Int × Int
  | x :: xs, c, s => if c = 0 then takeC xs (if (10 : Int) ^ (18 : Int).toNat ≤ (if x < 0 then -x else x) then (if x < 0 then -x else x) else 0) ((s * 6151 + (if x < 0 then -x else x) + 7) % 2147483629) else (x :: xs, c, s)
  | [], c, s => ([], c, s)
theorem takeC_stop {xs : List Int} {c s : Int} (h : c ≠ 0) : takeC xs c s = (xs, c, s) := by
  cases xs with
  | nil => rfl
  | cons x xs => unfold takeC; rw [if_neg h]
theorem takeC_go {x : Int} {xs : List Int} {s : Int} : takeC (x :: xs) 0 s = takeC xs (if (10 : Int) ^ (18 : Int).toNat ≤ (if x < 0 then -x else x) then (if x < 0 then -x else x) else 0) ((s * 6151 + (if x < 0 then -x else x) + 7) % 2147483629) := by
  rw [takeC, if_pos rfl]
theorem takeC_cells : ∀ {xs : List Int} {c s : Int}, CellsOk xs c → CellsOk (takeC xs c s).1 (takeC xs c s).2.1
  | [], _, _, h => h
  | x :: xs, c, s, h => by
    unfold takeC
    split
    · refine takeC_cells ⟨by have := h.1; simp only [List.length_cons] at this; omega, fun y hy => h.2.1 y (List.mem_cons_of_mem _ hy), ?_⟩
      have hx := h.2.1 x List.mem_cons_self
      have hy : (if x < 0 then -x else x).natAbs = x.natAbs := by
        split
        · exact Int.natAbs_neg x
        · rfl
      generalize (if x < 0 then -x else x) = y at hy
      by_cases hb : (10 : Int) ^ (18 : Int).toNat ≤ y
      · rw [if_pos hb, hy]; exact hx
      · rw [if_neg hb, cbit_eq]; exact Nat.two_pow_pos _
    · exact h
def hashV (s n m : Int) : Int := ((((s + 8191 * n + 50021) ^ (5 : Int).toNat % 2147483587) * 40009 + 20011 * n + 31) ^ (3 : Int).toNat % 1000000009) % m
/-- a draw: the number, the stream behind it -/
def drawV (m : Int) (xs : List Int) (c n s : Int) : Int × List Int × Int × Int :=
  if 0 < (takeC xs c s).2.1 then ((takeC xs c s).2.1 % m, (takeC xs c s).1, (takeC xs c s).2.1 / m, (takeC xs c s).2.2) else (hashV (takeC xs c s).2.2 (n + 1) m, (takeC xs c s).1, (takeC xs c s).2.1, (takeC xs c s).2.2)
theorem drawV_cells {m : Int} {xs : List Int} {c n s : Int} (hm : 0 < m) (h : CellsOk xs c) : CellsOk (drawV m xs c n s).2.1 (drawV m xs c n s).2.2.1 := by
  have h1 := takeC_cells (s := s) h
  unfold drawV
  by_cases hp : 0 < (takeC xs c s).2.1
  · rw [if_pos hp]
    refine ⟨h1.1, h1.2.1, Nat.lt_of_le_of_lt ?_ h1.2.2⟩
    show ((takeC xs c s).2.1 / m).natAbs ≤ (takeC xs c s).2.1.natAbs
    have a1 : 0 ≤ (takeC xs c s).2.1 / m := Int.ediv_nonneg (by omega) (by omega)
    have a2 : (takeC xs c s).2.1 / m ≤ (takeC xs c s).2.1 := Int.ediv_le_self _ (by omega)
    omega
  · rw [if_neg hp]
    exact h1
/-- the cells that are taken -/
theorem draw_loop {K : PySem.W.Frag} {a b : Addr} {m : Int} (hne : a ≠ b) {D : Ends} {H0 : Hp} {n : Int} {xs0 : List Int} {c0 s0 : Int} {cell : Option V} (hS : StrmAt H0 a b xs0 c0 n s0) (hc : 0 ≤ c0) (h0 : 0 ≤ s0) (h1 : s0 < 2147483629)
    (fin : ∀ xs c s cell H, takeC xs0 c0 s0 = (xs, c, s) → StrmAt H a b xs c n s → 0 ≤ c → 0 ≤ s → s < 2147483629 → (∀ x, x ≠ a → x ≠ b → ∀ o, H0 x = some o → H x = some o) → (∀ x, H x = none → H0 x = none) → D.nx [some (.ref a), some (.int m), cell, none, none] H) :
    tWhile (drawTest K) (drawBody K) D [some (.ref a), some (.int m), cell, none, none] H0 := by
  refine while_by (fun σ H => ∃ xs c s cell, σ = [some (.ref a), some (.int m), cell, none, none] ∧ takeC xs c s = takeC xs0 c0 s0 ∧ StrmAt H a b xs c n s ∧ 0 ≤ c ∧ 0 ≤ s ∧ s < 2147483629 ∧ (∀ x, x ≠ a → x ≠ b → ∀ o, H0 x = some o → H x = some o) ∧ (∀ x, H x = none → H0 x = none)) (fun σ H => match H b with | some (.lst l) => l.length | _ => 0)
    ⟨xs0, c0, s0, cell, rfl, rfl, hS, hc, h0, h1, fun _ _ _ _ h => h, fun _ h => h⟩ ?_ ?_
  · rintro σ H ⟨xs, c, s, cell, rfl, ht, hS, hc, h0, h1, off, bk⟩
    refine ⟨_, rfl, a, _, 1, _, rfl, rfl, .of hS.top, rfl, rfl, _, rfl, ?_⟩
    by_cases hz : c = 0
    · subst hz
      show (if _ then _ else _)
      rw [if_pos (by simp)]
      refine ⟨_, rfl, a, _, 0, _, rfl, rfl, .of hS.top, rfl, Nat.zero_le _, fun p hp => ?_⟩
      have na : a ≠ p := fun z => by rw [← z, hS.top] at hp; cases hp
      have nb : b ≠ p := fun z => by rw [← z, hS.low] at hp; cases hp
      have hS1 : StrmAt (upd H p (.lst [])) a b xs 0 n s := hS.off (upd_ne na) (upd_ne nb)
      have off1 : ∀ x, x ≠ a → x ≠ b → ∀ o, H0 x = some o → upd H p (.lst []) x = some o := fun x e1 e2 o h => by
        rw [upd_ne (fun z => by subst z; have := off x e1 e2 o h; rw [hp] at this; cases this)]
        exact off x e1 e2 o h
      have bk1 : ∀ x, upd H p (.lst []) x = none → H0 x = none := fun x h => by
        by_cases e : x = p
        · rw [e]; exact bk p hp
        · rw [upd_ne e] at h; exact bk x h
      refine ⟨_, _, .lst (.of hS1.low) (dp_ints xs), .lst (.of upd_same) .nil, shaped_ints xs, rfl, _, rfl, ?_⟩
      cases xs with
      | nil => exact fin [] 0 s cell _ ht.symm hS1 hc h0 h1 off1 bk1
      | cons x xs =>
        rw [if_pos (by rfl)]
        have hlen : (match H b with | some (HO.lst l) => l.length | _ => 0) = xs.length + 1 := by rw [hS.low]; simp
        rw [hlen]
        rw [takeC_go] at ht
        generalize hx : (if x < 0 then -x else x) = y at ht
        have hy : 0 ≤ y := by rw [← hx]; split <;> omega
        refine ⟨_, rfl, a, _, 0, _, rfl, rfl, .of hS1.top, rfl, .inl ⟨rfl, _, .of hS1.low⟩, b, _, 0, 0, _, rfl, rfl, hS1.low, by decide, by decide, six _, rfl, x, rfl, ?_⟩
        rw [hx]
        have hS2 : StrmAt (upd (upd H p (.lst [])) b (.lst (xs.map V.int))) a b xs 0 n s := ⟨by rw [upd_ne hne]; exact hS1.top, upd_same⟩
        refine ⟨_, rfl, a, _, 3, _, rfl, rfl, .of hS2.top, rfl, _, _, rfl, rfl, .inr ⟨by decide, by decide⟩, _, rfl, _, _, rfl, rfl, _, _, rfl, rfl, .inl ⟨_, rfl, _, _, rfl, rfl, (show (0 : Int) < 2147483629 from by decide), _, rfl, a, _, 3, 3, rfl, rfl, hS2.top, rfl, ?_⟩⟩
        have hm0 : 0 ≤ (s * 6151 + y + 7) % 2147483629 := Int.emod_nonneg _ (by decide)
        have hm1 : (s * 6151 + y + 7) % 2147483629 < 2147483629 := Int.emod_lt_of_pos _ (by decide)
        have hS3 := hS2.put (c' := 0) (n' := n) (s' := (s * 6151 + y + 7) % 2147483629) hne
        refine ⟨_, rfl, _, _, rfl, rfl, ⟨by decide, by decide, by decide⟩, _, _, rfl, rfl, _, rfl, ?_⟩

        have fin2 : ∀ z : Int, 0 ≤ z → (if (10 : Int) ^ (18 : Int).toNat ≤ y then y else 0) = z → ∀ H', H' = upd (upd (upd (upd H p (.lst [])) b (.lst (xs.map V.int))) a (.lst [V.ref b, V.int 0, V.int n, V.int ((s * 6151 + y + 7) % 2147483629)])) a (.lst [V.ref b, V.int z, V.int n, V.int ((s * 6151 + y + 7) % 2147483629)]) →
            (∃ xs c s cell, [some (V.ref a), some (V.int m), some (V.int y), none, none] = [some (.ref a), some (.int m), cell, none, none] ∧ takeC xs c s = takeC xs0 c0 s0 ∧ StrmAt H' a b xs c n s ∧ 0 ≤ c ∧ 0 ≤ s ∧ s < 2147483629 ∧ (∀ x, x ≠ a → x ≠ b → ∀ o, H0 x = some o → H' x = some o) ∧ (∀ x, H' x = none → H0 x = none)) ∧ (match H' b with | some (HO.lst l) => l.length | _ => 0) < xs.length + 1 := by
          rintro z hz ez H' rfl
          rw [ez] at ht
          have hS4 := hS3.put (c' := z) (n' := n) (s' := (s * 6151 + y + 7) % 2147483629) hne
          refine ⟨⟨xs, z, _, _, rfl, ht, hS4, hz, hm0, hm1, fun x e1 e2 o h => ?_, fun x h => ?_⟩, ?_⟩
          · rw [upd_ne e1, upd_ne e1, upd_ne e2]; exact off1 x e1 e2 o h
          · by_cases e1 : x = a
            · rw [e1, upd_same] at h; cases h
            · rw [upd_ne e1, upd_ne e1] at h
              by_cases e2 : x = b
              · rw [e2, upd_same] at h; cases h
              · rw [upd_ne e2] at h; exact bk1 x h
          · rw [hS4.low]; simp
        by_cases hb : (10 : Int) ^ (18 : Int).toNat ≤ y
        · show (if _ then _ else _)
          rw [if_pos (by simpa using hb)]
          exact ⟨_, rfl, _, rfl, a, _, 1, 1, rfl, rfl, hS3.top, rfl, fin2 y hy (if_pos hb) _ rfl⟩
        · show (if _ then _ else _)
          rw [if_neg (by simpa using hb)]
          exact ⟨_, rfl, a, _, 1, 1, rfl, rfl, hS3.top, rfl, fin2 0 (by decide) (if_neg hb) _ rfl⟩
    · show (if _ then _ else _)
      rw [if_neg (by simpa using hz)]
      exact fin xs c s cell H (by rw [← ht, takeC_stop hz]) hS hc h0 h1 off bk
  · intro σ H Q1 Q2 hq hw
    obtain ⟨v, e1, q, ys, i, u, e2, e3, e4, e5, e6, k, e7, e8⟩ := hw
    refine ⟨v, e1, q, ys, i, u, e2, e3, e4, e5, e6, k, e7, ?_⟩
    cases k with
    | false => exact hq _ _ e8
    | true =>
      obtain ⟨v, e1, q, ys, i, u, e2, e3, e4, e5, e6, e8⟩ := e8
      refine ⟨v, e1, q, ys, i, u, e2, e3, e4, e5, e6, fun p hp => ?_⟩
      obtain ⟨d, e, f1, f2, f3, f4, k, f5, f6⟩ := e8 p hp
      exact ⟨d, e, f1, f2, f3, f4, k, f5, hq _ _ f6⟩
def drawAll (K : PySem.W.Frag) : TS := tSeq (tAsg (tOp (rI0 fun i j => V.int (i + j)) (tOp (rIxL K) (tVar 0) (tC (V.int 2))) (tC (V.int 1))) (gSub (tVar 0) (tC (V.int 2)) rSetL)) (tSeq (tWhile (drawTest K) (drawBody K)) (tSeq (tIfS (tTest (tOp (rI0 fun i j => V.bl (decide (j < i))) (tOp (rIxL K) (tVar 0) (tC (V.int 1))) (tC (V.int 0)))) (tSeq (tAsg (tOp (rI (fun x j => 0 < j) fun i j => V.int (i % j)) (tCB (fun xs H Q => (∃ i, xs = [V.int i] ∧ Q (V.int i) H) ∨ ∃ k, xs = [V.bl k] ∧ Q (V.int (if k = true then 1 else 0)) H) (tCons (tOp (rIxL K) (tVar 0) (tC (V.int 1))) tNil)) (tVar 1)) (gName 3)) (tSeq (tAsg (tOp (rI CDiv fun i j => V.int (i / j)) (tOp (rIxL K) (tVar 0) (tC (V.int 1))) (tVar 1)) (gSub (tVar 0) (tC (V.int 1)) rSetL)) (tRet (tVar 3)))) tNext) (tSeq (tAsg (tOp (rI (fun x j => 0 < j) fun i j => V.int (i % j)) (tCB (fun xs H Q => (∃ i, xs = [V.int i] ∧ Q (V.int i) H) ∨ ∃ k, xs = [V.bl k] ∧ Q (V.int (if k = true then 1 else 0)) H) (tCons (tOp (rI (fun i j => 0 ≤ j ∧ (Builtin.Int.intBits i : Int) * j ≤ 2 ^ 27) fun i j => V.int (i ^ j.toNat)) (tOp (rI0 fun i j => V.int (i + j)) (tOp (rI0 fun i j => V.int (i + j)) (tOp (rIxL K) (tVar 0) (tC (V.int 3))) (tOp (rI CMul fun i j => V.int (i * j)) (tC (V.int 8191)) (tOp (rIxL K) (tVar 0) (tC (V.int 2))))) (tC (V.int 50021))) (tC (V.int 5))) tNil)) (tC (V.int 2147483587))) (gName 4))
    (tRet (tOp (rI (fun x j => 0 < j) fun i j => V.int (i % j)) (tOp (rI (fun x j => 0 < j) fun i j => V.int (i % j)) (tCB (fun xs H Q => (∃ i, xs = [V.int i] ∧ Q (V.int i) H) ∨ ∃ k, xs = [V.bl k] ∧ Q (V.int (if k = true then 1 else 0)) H) (tCons (tOp (rI (fun i j => 0 ≤ j ∧ (Builtin.Int.intBits i : Int) * j ≤ 2 ^ 27) fun i j => V.int (i ^ j.toNat)) (tOp (rI0 fun i j => V.int (i + j)) (tOp (rI0 fun i j => V.int (i + j)) (tOp (rI CMul fun i j => V.int (i * j)) (tVar 4) (tC (V.int 40009))) (tOp (rI CMul fun i j => V.int (i * j)) (tC (V.int 20011)) (tOp (rIxL K) (tVar 0) (tC (V.int 2))))) (tC (V.int 31))) (tC (V.int 3))) tNil)) (tC (V.int 1000000009))) (tVar 1))))))
theorem pow_bits {i : Int} (h0 : 0 ≤ i) (h : i < 2 ^ 100021) (j : Int) (hj0 : 0 ≤ j) (hj : j ≤ 5) : (Builtin.Int.intBits i : Int) * j ≤ 2 ^ 27 := by
  have h1 := bits_le h0 h
  have h2 : ((Builtin.Int.intBits i : Nat) : Int) ≤ 100021 := by omega
  have h3 : (Builtin.Int.intBits i : Int) * j ≤ 100021 * j := Int.mul_le_mul_of_nonneg_right h2 hj0
  have h4 : (2 : Int) ^ 27 = 134217728 := by decide
  rw [h4]
  omega
theorem wide_big : ∃ Y : Int, 1 ≤ Y ∧ (2 : Int) ^ 100001 = 4294967296 * Y ∧ (2 : Int) ^ 100021 = 4503599627370496 * Y :=
  ⟨2 ^ 99969, Int.pow_pos (by decide), by rw [show (4294967296 : Int) = 2 ^ 32 from rfl, ← Int.pow_add], by rw [show (4503599627370496 : Int) = 2 ^ 52 from rfl, ← Int.pow_add]⟩
theorem draw_readsV {K : PySem.W.Frag} {H : Hp} {a b : Addr} {m : Int} {xs0 : List Int} {c0 n s0 : Int} (hne : a ≠ b) (hS : StrmAt H a b xs0 c0 n s0) (hc : 0 ≤ c0) (hn : 0 ≤ n) (hnB : n + 1 < 2 ^ 100001) (h0 : 0 ≤ s0) (h1 : s0 < 2147483629) (hm0 : 0 < m) (hm1 : m < 1073741824)
    {Q : VK} {Qn : L2.St → Hp → Prop} (q : ∀ k H', 0 ≤ k → k < m → (∃ xs' c' s', drawV m xs0 c0 n s0 = (k, xs', c', s') ∧ StrmAt H' a b xs' c' (n + 1) s' ∧ 0 ≤ c' ∧ 0 ≤ s' ∧ s' < 2147483629) → (∀ x, x ≠ a → x ≠ b → ∀ o, H x = some o → H' x = some o) → (∀ x, H' x = none → H x = none) → Q (.int k) H') :
    drawAll K { nx := Qn, rt := Q } [some (.ref a), some (.int m), none, none, none] H := by
  refine ⟨_, rfl, a, _, 2, _, rfl, rfl, .of hS.top, rfl, _, _, rfl, rfl, _, rfl, a, _, 2, 2, rfl, rfl, hS.top, rfl, ?_⟩
  refine draw_loop hne (hS.put (c' := c0) (n' := n + 1) (s' := s0) hne) hc h0 h1 fun xs c s cell H1 ht hS hc h0 h1 kp bk => ?_
  have kp1 : ∀ x, x ≠ a → x ≠ b → ∀ o, H x = some o → H1 x = some o := fun x e1 e2 o h => kp x e1 e2 o (by rw [upd_ne e1]; exact h)
  have bk1 : ∀ x, H1 x = none → H x = none := fun x h => by
    by_cases e : x = a
    · rw [e, hS.top] at h; cases h
    · have := bk x h
      rwa [upd_ne e] at this
  clear kp bk
  refine ⟨_, rfl, a, _, 1, _, rfl, rfl, .of hS.top, rfl, _, _, rfl, rfl, _, rfl, ?_⟩
  show (if _ then _ else _)
  by_cases hp : 0 < c
  · rw [if_pos (by simpa using hp)]
    refine ⟨_, rfl, a, _, 1, _, rfl, rfl, .of hS.top, rfl, .inl ⟨_, rfl, _, rfl, _, _, rfl, rfl, hm0, ?_⟩⟩
    refine ⟨_, rfl, a, _, 1, _, rfl, rfl, .of hS.top, rfl, _, rfl, _, _, rfl, rfl, ⟨hm0, hm1⟩, _, rfl, a, _, 1, 1, rfl, rfl, hS.top, rfl, ?_⟩
    refine ⟨_, rfl, q _ _ (Int.emod_nonneg _ (by omega)) (Int.emod_lt_of_pos _ hm0) ⟨xs, _, s, by unfold drawV; rw [ht]; exact if_pos hp, hS.put hne, Int.ediv_nonneg hc (by omega), h0, h1⟩ (fun x e1 e2 o h => ?_) fun x h => ?_⟩
    · rw [upd_ne e1]; exact kp1 x e1 e2 o h
    · by_cases e : x = a
      · rw [e, upd_same] at h; cases h
      · rw [upd_ne e] at h; exact bk1 x h
  · rw [if_neg (by simpa using hp)]
    obtain ⟨Y, hY, e1, e2⟩ := wide_big
    rw [e1] at hnB
    have m0 : ∀ z : Int, 0 ≤ z % 2147483587 ∧ z % 2147483587 < 2147483587 := fun z => ⟨Int.emod_nonneg _ (by decide), Int.emod_lt_of_pos _ (by decide)⟩
    refine ⟨_, rfl, a, _, 3, _, rfl, rfl, .of hS.top, rfl, _, rfl, a, _, 2, _, rfl, rfl, .of hS.top, rfl, _, _, rfl, rfl, .inl ⟨by decide, by decide⟩, _, _, rfl, rfl, _, _, rfl, rfl, _, _, rfl, rfl, ⟨by decide, pow_bits (by omega) (by rw [e2]; omega) _ (by decide) (by decide)⟩, .inl ⟨_, rfl, _, _, rfl, rfl, (show (0 : Int) < 2147483587 from by decide), ?_⟩⟩
    obtain ⟨m1, m2⟩ := m0 ((s + 8191 * (n + 1) + 50021) ^ (5 : Int).toNat)
    generalize hz : (s + 8191 * (n + 1) + 50021) ^ (5 : Int).toNat % 2147483587 = z at m1 m2
    refine ⟨_, rfl, _, _, rfl, rfl, .inr ⟨by decide, by decide⟩, _, rfl, a, _, 2, _, rfl, rfl, .of hS.top, rfl, _, _, rfl, rfl, .inl ⟨by decide, by decide⟩, _, _, rfl, rfl, _, _, rfl, rfl, _, _, rfl, rfl, ⟨by decide, pow_bits (by omega) (by rw [e2]; omega) _ (by decide) (by decide)⟩, .inl ⟨_, rfl, _, _, rfl, rfl, (show (0 : Int) < 1000000009 from by decide), _, rfl, _, _, rfl, rfl, hm0, ?_⟩⟩
    exact q _ _ (Int.emod_nonneg _ (by omega)) (Int.emod_lt_of_pos _ hm0) ⟨xs, c, s, by unfold drawV; rw [ht]; refine (if_neg hp).trans ?_; unfold hashV; rw [hz], hS, hc, h0, h1⟩ kp1 bk1
theorem draw_reads {K : PySem.W.Frag} {H : Hp} {a b : Addr} {m : Int} {xs : List Int} {c n s : Int} (hne : a ≠ b) (hS : StrmAt H a b xs c n s) (hc : 0 ≤ c) (hn : 0 ≤ n) (hnB : n + 1 < 2 ^ 100001) (h0 : 0 ≤ s) (h1 : s < 2147483629) (hm0 : 0 < m) (hm1 : m < 1073741824)
    {Q : VK} {Qn : L2.St → Hp → Prop} (q : ∀ k H', 0 ≤ k → k < m → (∃ xs' c' s', StrmAt H' a b xs' c' (n + 1) s' ∧ 0 ≤ c' ∧ 0 ≤ s' ∧ s' < 2147483629) → (∀ x, x ≠ a → x ≠ b → ∀ o, H x = some o → H' x = some o) → (∀ x, H' x = none → H x = none) → Q (.int k) H') :
    drawAll K { nx := Qn, rt := Q } [some (.ref a), some (.int m), none, none, none] H :=
  draw_readsV hne hS hc hn hnB h0 h1 hm0 hm1 fun k H' k0 k1 ⟨xs', c', s', _, h⟩ => q k H' k0 k1 ⟨xs', c', s', h⟩
end DL

set_option Elab.async false
set_option linter.all false
set_option maxRecDepth 100000
set_option maxHeartbeats 4000000
/-! DL, part aa: the stream goes on for ever; letters drawn of it are not always one of a few. -/
namespace DL
open PySem PySem.Spec PyProof.Rows L2

/-- the stream: cells, the great number, how many draws, the mixed one -/
abbrev SS : Type := List Int × Int × Int × Int
def digS (m : Int) (t : SS) : Int := (drawV m t.1 t.2.1 t.2.2.1 t.2.2.2).1
def nextS (m : Int) (t : SS) : SS := ((drawV m t.1 t.2.1 t.2.2.1 t.2.2.2).2.1, (drawV m t.1 t.2.1 t.2.2.1 t.2.2.2).2.2.1, t.2.2.1 + 1, (drawV m t.1 t.2.1 t.2.2.1 t.2.2.2).2.2.2)
def itS (m : Int) : Nat → SS → SS
  | 0, t => t
  | i + 1, t => itS m i (nextS m t)
theorem itS_succ {m : Int} : ∀ {i : Nat} {t : SS}, itS m (i + 1) t = nextS m (itS m i t)
  | 0, _ => rfl
  | i + 1, t => itS_succ (i := i) (t := nextS m t)
theorem itS_add {m : Int} : ∀ {i j : Nat} {t : SS}, itS m (i + j) t = itS m j (itS m i t)
  | 0, j, t => by rw [Nat.zero_add]; rfl
  | i + 1, j, t => by
    rw [show i + 1 + j = (i + j) + 1 by omega]
    exact itS_add (i := i) (j := j) (t := nextS m t)
theorem takeC_nonneg : ∀ {xs : List Int} {c s : Int}, 0 ≤ c → 0 ≤ (takeC xs c s).2.1
  | [], _, _, h => h
  | x :: xs, c, s, h => by
    unfold takeC
    split
    · refine takeC_nonneg ?_
      split
      · split <;> omega
      · omega
    · exact h
theorem takeC_zero : ∀ {xs : List Int} {c s : Int}, (takeC xs c s).2.1 = 0 → (takeC xs c s).1 = []
  | [], _, _, _ => rfl
  | x :: xs, c, s, h => by
    unfold takeC at h ⊢
    split
    · rename_i hc
      rw [if_pos hc] at h
      exact takeC_zero h
    · rename_i hc
      rw [if_neg hc] at h
      exact absurd h hc
theorem takeC_le : ∀ {xs : List Int} {c s : Int}, (takeC xs c s).1.length ≤ xs.length
  | [], _, _ => Nat.le_refl _
  | x :: xs, c, s => by
    unfold takeC
    split
    · exact Nat.le_trans takeC_le (Nat.le_succ _)
    · exact Nat.le_refl _
theorem takeC_lt {x : Int} {xs : List Int} {s : Int} : (takeC (x :: xs) 0 s).1.length < (x :: xs).length := by
  rw [takeC_go]
  exact Nat.lt_succ_of_le takeC_le
/-- all cells are taken -/
def Dry (t : SS) : Prop := t.1 = [] ∧ t.2.1 = 0
theorem dry_next {m : Int} {t : SS} (h : Dry t) : nextS m t = ([], 0, t.2.2.1 + 1, t.2.2.2) ∧ digS m t = hashV t.2.2.2 (t.2.2.1 + 1) m := by
  obtain ⟨xs, c, n, s⟩ := t
  obtain ⟨h1, h2⟩ := h
  have h1 : xs = [] := h1
  have h2 : c = 0 := h2
  subst h1 h2
  exact ⟨rfl, rfl⟩
theorem dry_it {m : Int} : ∀ (i : Nat) {t : SS}, Dry t → itS m i t = ([], 0, t.2.2.1 + i, t.2.2.2)
  | 0, t, h => by
    obtain ⟨xs, c, n, s⟩ := t
    obtain ⟨h1, h2⟩ := h
    have h1 : xs = [] := h1
    have h2 : c = 0 := h2
    subst h1 h2
    show ([], 0, n, s) = (([], 0, n + (0 : Nat), s) : SS)
    simp
  | i + 1, t, h => by
    obtain ⟨e, _⟩ := dry_next (m := m) h
    show itS m i (nextS m t) = _
    rw [e, dry_it i ⟨rfl, rfl⟩]
    show (([], 0, t.2.2.1 + 1 + (i : Int), t.2.2.2) : SS) = ([], 0, t.2.2.1 + ((i + 1 : Nat) : Int), t.2.2.2)
    rw [show t.2.2.1 + 1 + (i : Int) = t.2.2.1 + ((i + 1 : Nat) : Int) by omega]
theorem next_ok {m : Int} (hm : 2 ≤ m) {t : SS} (hc : 0 ≤ t.2.1) : 0 ≤ (nextS m t).2.1 ∧ ((nextS m t).1.length < t.1.length ∨ ((nextS m t).1.length = t.1.length ∧ ((0 < t.2.1 ∧ 2 * (nextS m t).2.1 ≤ t.2.1) ∨ Dry (nextS m t)))) := by
  obtain ⟨xs, c, n, s⟩ := t
  have hc : 0 ≤ c := hc
  have nn := takeC_nonneg (xs := xs) (s := s) hc
  unfold nextS drawV
  show 0 ≤ (if 0 < (takeC xs c s).2.1 then _ else _ : Int × List Int × Int × Int).2.2.1 ∧ _
  by_cases hp : 0 < (takeC xs c s).2.1
  · simp only [if_pos hp]
    refine ⟨Int.ediv_nonneg nn (by omega), ?_⟩
    by_cases hz : c = 0
    · subst hz
      cases xs with
      | nil => exact absurd hp (by show ¬ (0 : Int) < 0; omega)
      | cons x xs => exact .inl takeC_lt
    · rw [takeC_stop hz] at hp ⊢
      refine .inr ⟨rfl, .inl ?_⟩
      refine ⟨hp, ?_⟩
      show 2 * (c / m) ≤ c
      have hq : 0 ≤ c / m := Int.ediv_nonneg hc (by omega)
      have h1 : 2 * (c / m) ≤ m * (c / m) := Int.mul_le_mul_of_nonneg_right hm hq
      have h2 : m * (c / m) ≤ c := Int.mul_ediv_self_le (by omega)
      omega
  · simp only [if_neg hp]
    refine ⟨nn, ?_⟩
    have hz : (takeC xs c s).2.1 = 0 := by omega
    have he := takeC_zero hz
    rcases Nat.lt_or_ge (takeC xs c s).1.length xs.length with h | h
    · exact .inl h
    · exact .inr ⟨Nat.le_antisymm takeC_le h, .inr ⟨he, hz⟩⟩
/-- so many cells, the great number of so many bits -/
def Bd (L k : Nat) (t : SS) : Prop := t.1.length ≤ L ∧ 0 ≤ t.2.1 ∧ t.2.1 < 2 ^ k ∧ CellsOk t.1 t.2.1
theorem cells_next {m : Int} (hm : 2 ≤ m) {t : SS} (h : CellsOk t.1 t.2.1) : CellsOk (nextS m t).1 (nextS m t).2.1 := drawV_cells (by omega) h
theorem cb_lt {W : Nat} (hW : CBIT = 2 ^ W) {t : SS} (h1 : 0 ≤ t.2.1) (h : CellsOk t.1 t.2.1) : t.2.1 < 2 ^ W := by
  have hc := h.2.2
  rw [hW] at hc
  have e : t.2.1 = ((t.2.1.natAbs : Nat) : Int) := (Int.natAbs_of_nonneg h1).symm
  rw [e]
  have := Int.ofNat_lt.mpr hc
  rw [Int.natCast_pow] at this
  exact this
theorem dry_soon {m : Int} (hm : 2 ≤ m) {W : Nat} (hW : CBIT = 2 ^ W) : ∀ (L k : Nat) (t : SS), Bd L k t → ∃ j, j ≤ L * (W + 1) + k ∧ Dry (itS m j t) := by
  intro L
  induction L with
  | zero =>
    intro k
    induction k with
    | zero => exact fun t ⟨h1, h2, h3, _⟩ => ⟨0, Nat.zero_le _, List.eq_nil_of_length_eq_zero (Nat.le_zero.mp h1), by show t.2.1 = 0; have : (2 : Int) ^ 0 = 1 := rfl; omega⟩
    | succ k ih =>
      intro t ⟨h1, h2, h3, h4⟩
      obtain ⟨n1, n2⟩ := next_ok hm h2
      have hs : (2 : Int) ^ (k + 1) = 2 ^ k * 2 := Int.pow_succ 2 k
      rcases n2 with n2 | ⟨n2, n3⟩
      · omega
      · rcases n3 with ⟨n3, n4⟩ | n3
        · obtain ⟨j, hj, hd⟩ := ih (nextS m t) ⟨by omega, n1, by omega, cells_next hm h4⟩
          exact ⟨j + 1, by omega, hd⟩
        · exact ⟨1, by omega, n3⟩
  | succ L ihL =>
    have hL : (L + 1) * (W + 1) = L * (W + 1) + W + 1 := by rw [Nat.add_mul]; omega
    have down : ∀ t : SS, (nextS m t).1.length < t.1.length → t.1.length ≤ L + 1 → 0 ≤ (nextS m t).2.1 → CellsOk (nextS m t).1 (nextS m t).2.1 → ∃ j, j ≤ (L + 1) * (W + 1) ∧ Dry (itS m j t) := fun t h1 h2 h3 h4 => by
      obtain ⟨j, hj, hd⟩ := ihL W (nextS m t) ⟨by omega, h3, cb_lt hW h3 h4, h4⟩
      exact ⟨j + 1, by omega, hd⟩
    intro k
    induction k with
    | zero =>
      intro t ⟨h1, h2, h3, h4⟩
      obtain ⟨n1, n2⟩ := next_ok hm h2
      have h0 : (2 : Int) ^ 0 = 1 := rfl
      rcases n2 with n2 | ⟨n2, n3⟩
      · exact down t n2 h1 n1 (cells_next hm h4)
      · rcases n3 with ⟨n3, _⟩ | n3
        · omega
        · exact ⟨1, by omega, n3⟩
    | succ k ih =>
      intro t ⟨h1, h2, h3, h4⟩
      obtain ⟨n1, n2⟩ := next_ok hm h2
      have hs : (2 : Int) ^ (k + 1) = 2 ^ k * 2 := Int.pow_succ 2 k
      rcases n2 with n2 | ⟨n2, n3⟩
      · obtain ⟨j, hj, hd⟩ := down t n2 h1 n1 (cells_next hm h4)
        exact ⟨j, by omega, hd⟩
      · rcases n3 with ⟨n3, n4⟩ | n3
        · obtain ⟨j, hj, hd⟩ := ih (nextS m t) ⟨by omega, n1, by omega, cells_next hm h4⟩
          exact ⟨j + 1, by omega, hd⟩
        · exact ⟨1, by omega, n3⟩
theorem pow_mod {a b p : Int} (h : a % p = b % p) : ∀ k : Nat, a ^ k % p = b ^ k % p
  | 0 => by rw [Int.pow_zero, Int.pow_zero]
  | k + 1 => by rw [Int.pow_succ, Int.pow_succ, Int.mul_emod, pow_mod h k, h, ← Int.mul_emod]
/-- the drawn number is, later and later on, each rest of a third power -/
theorem hash_hits (s N v : Int) : ∃ d : Nat, d ≤ 4611686018427387904 ∧ hashV s (N + d) 26 = v ^ 3 % 1000000009 % 26 := by
  generalize hM : (s + 8191 * N + 50021) ^ 5 % 2147483587 = M
  generalize hA : M * 40009 + 20011 * N + 31 = A
  generalize hu : (607854297 * (v - A)) / 1000000009 = u
  have ht0 : 0 ≤ (607854297 * (v - A)) % 1000000009 := Int.emod_nonneg _ (by decide)
  have ht1 : (607854297 * (v - A)) % 1000000009 < 1000000009 := Int.emod_lt_of_pos _ (by decide)
  generalize ht : (607854297 * (v - A)) % 1000000009 = t at ht0 ht1
  have hdiv : 607854297 * (v - A) = 1000000009 * u + t := by
    rw [← hu, ← ht]
    exact (Int.mul_ediv_add_emod _ _).symm
  refine ⟨(2147483587 * t).toNat, by omega, ?_⟩
  have hd : (((2147483587 * t).toNat : Nat) : Int) = 2147483587 * t := Int.toNat_of_nonneg (by omega)
  rw [hd]
  unfold hashV
  have e5 : (s + 8191 * (N + 2147483587 * t) + 50021) ^ (5 : Int).toNat % 2147483587 = M := by
    rw [← hM]
    refine pow_mod ?_ 5
    rw [show s + 8191 * (N + 2147483587 * t) + 50021 = s + 8191 * N + 50021 + 2147483587 * (8191 * t) by omega]
    exact Int.add_mul_emod_self_left _ _ _
  rw [e5]
  refine congrArg (· % 26) ?_
  refine pow_mod ?_ 3
  rw [show M * 40009 + 20011 * (N + 2147483587 * t) + 31 = v + 1000000009 * (26121501215192 * (v - A) - 42973294059457 * u) by omega]
  exact Int.add_mul_emod_self_left _ _ _
/-- ten of these rests are unlike -/
def tenV : List Int := [0, 1, 2, 4, 5, 7, 8, 13, 17, 14]
def tenK : List Int := tenV.map fun v => v ^ 3 % 1000000009 % 26
theorem tenK_eq : tenK = [0, 1, 8, 12, 21, 5, 18, 13, 25, 14] := by decide +kernel
/-- more turns are never made -/
def MAXT : Nat := 2 ^ 64
/-- some digit is drawn at some time -/
theorem dig_hits {t : SS} (hc : 0 ≤ t.2.1) (hk2 : CellsOk t.1 t.2.1) {k : Int} (hk : k ∈ tenK) : ∃ i, i + 1 ≤ MAXT ∧ digS 26 (itS 26 i t) = k := by
  obtain ⟨v, hv, rfl⟩ := List.mem_map.mp hk
  obtain ⟨W, hW, hWe⟩ : ∃ W : Nat, W = 1048576 ∧ CBIT = 2 ^ W := ⟨_, rfl, cbit_eq⟩
  obtain ⟨j, hjl, hj⟩ := dry_soon (m := 26) (by decide) hWe 1000 W t ⟨hk2.1, hc, cb_lt hWe hc hk2, hk2⟩
  clear hWe
  obtain ⟨d, hdl, hd⟩ := hash_hits (itS 26 j t).2.2.2 ((itS 26 j t).2.2.1 + 1) v
  refine ⟨j + d, ?_, ?_⟩
  · show j + d + 1 ≤ 18446744073709551616
    omega
  rw [itS_add, dry_it d hj]
  have := (dry_next (m := 26) (t := ([], 0, (itS 26 j t).2.2.1 + (d : Int), (itS 26 j t).2.2.2)) ⟨rfl, rfl⟩).2
  rw [this, ← hd]
  show hashV _ ((itS 26 j t).2.2.1 + (d : Int) + 1) 26 = _
  rw [show (itS 26 j t).2.2.1 + (d : Int) + 1 = (itS 26 j t).2.2.1 + 1 + (d : Int) by omega]
theorem nodup_le {α : Type} [DecidableEq α] : ∀ {l m : List α}, l.Nodup → (∀ x ∈ l, x ∈ m) → l.length ≤ m.length
  | [], _, _, _ => Nat.zero_le _
  | x :: l, m, h, hs => by
    have hx := hs x (by simp)
    have h2 := List.nodup_cons.mp h
    have := nodup_le (l := l) (m := m.erase x) h2.2 fun y hy => by
      have hne : y ≠ x := fun e => h2.1 (e ▸ hy)
      exact (List.mem_erase_of_ne hne).mpr (hs y (by simp [hy]))
    rw [List.length_erase_of_mem hx] at this
    have hpos : 0 < m.length := List.length_pos_of_mem hx
    simp only [List.length_cons]
    omega
/-- names made longer letter by letter are not for ever among a few -/
def nameAt (sh : Str → Int → Str) (nm : Str) (t : SS) : Nat → Str
  | 0 => nm
  | i + 1 => sh (nameAt sh nm t i) (digS 26 (itS 26 i t))
theorem name_out {sh : Str → Int → Str} {key : Str → Int} (hsh : ∀ nm k, 0 ≤ k → k < 26 → key (sh nm k) = k) {t : SS} (hc : 0 ≤ t.2.1) (hk2 : CellsOk t.1 t.2.1) (nm : Str) {found : List Str} (hf : found.length ≤ 9) : ∃ i, i ≤ MAXT ∧ nameAt sh nm t i ∉ found := by
  apply Classical.byContradiction
  intro no
  have al : ∀ i, i ≤ MAXT → nameAt sh nm t i ∈ found := fun i hi => Classical.byContradiction fun z => no ⟨i, hi, z⟩
  have hit : ∀ k ∈ tenK, ∃ x, x ∈ found ∧ key x = k := fun k hk => by
    obtain ⟨i, hil, hi⟩ := dig_hits hc hk2 hk
    have hr : 0 ≤ k ∧ k < 26 := by
      rw [tenK_eq] at hk
      revert hk
      simp only [List.mem_cons, List.not_mem_nil, or_false]
      omega
    refine ⟨nameAt sh nm t (i + 1), al _ hil, ?_⟩
    show key (sh _ (digS 26 (itS 26 i t))) = k
    rw [hi, hsh _ _ hr.1 hr.2]
  have h2 : tenK.length ≤ (found.map key).length := nodup_le (by rw [tenK_eq]; decide) fun k hk => by
    obtain ⟨x, hx, e⟩ := hit k hk
    exact List.mem_map.mpr ⟨x, hx, e⟩
  rw [tenK_eq, List.length_map] at h2
  simp only [List.length_cons, List.length_nil] at h2
  omega
/-- the first name that is out -/
theorem name_first {sh : Str → Int → Str} {key : Str → Int} (hsh : ∀ nm k, 0 ≤ k → k < 26 → key (sh nm k) = k) {t : SS} (hc : 0 ≤ t.2.1) (hk2 : CellsOk t.1 t.2.1) (nm : Str) {found : List Str} (hf : found.length ≤ 9) : ∃ i, i ≤ MAXT ∧ nameAt sh nm t i ∉ found ∧ ∀ j, j < i → nameAt sh nm t j ∈ found := by
  obtain ⟨i, hi, ho⟩ := name_out hsh hc hk2 nm hf
  clear hf
  have : ∀ n i, i ≤ n → i ≤ MAXT → nameAt sh nm t i ∉ found → ∃ i, i ≤ MAXT ∧ nameAt sh nm t i ∉ found ∧ ∀ j, j < i → nameAt sh nm t j ∈ found := by
    intro n
    induction n with
    | zero => exact fun i h0 h1 h2 => ⟨i, h1, h2, fun j hj => by omega⟩
    | succ n ih =>
      intro i h0 h1 h2
      by_cases hx : ∃ j, j < i ∧ nameAt sh nm t j ∉ found
      · obtain ⟨j, hj, h3⟩ := hx
        exact ih j (by omega) (by omega) h3
      · exact ⟨i, h1, h2, fun j hj => Classical.byContradiction fun z => hx ⟨j, hj, z⟩⟩
  exact this i i (Nat.le_refl _) hi ho
end DL

set_option Elab.async false
set_option linter.all false
set_option maxRecDepth 100000
set_option maxHeartbeats 4000000
/-! DL, part m: raising; calls by names; defs under a known pile of guards. -/
namespace DL
open PySem PySem.Spec PyProof.Rows L2

/-! ### all that stood stands -/
theorem keep_nn {H H' : Hp} (same : ∀ b o, H b = some o → H' b = some o) {b : Addr} (h : Nn H' b) : Nn H b := fun o e => h o (same b o e)
theorem keep_inv {F : Fx} {B : Nat} {H H' : Hp} (same : ∀ b o, H b = some o → H' b = some o) (I : F.inv B H) : F.inv B H' := fun p e => by
  obtain ⟨a, xs, c, n, s, h1, h2, r⟩ := I p e
  exact ⟨a, xs, c, n, s, same _ _ h1, same _ _ h2, r⟩
theorem exc_link {F : Fx} {E : XK} {XQ : XQT} {B : Nat} {R : Reg} {H H' : Hp} {C dx : Addr} {f : Str} {v : V} (hX : XLink F E XQ) (o : HpOk F B R H) (hB : B ≤ F.L) (same : ∀ b o, H b = some o → H' b = some o) (hq : XQ (.ref C) f v) (hd : H' dx = some (.xd [(f, v)])) : E (.ref C) (some dx) H' :=
  hX.2 C f v dx H' hq (fun a u m e nt => same a u (o.ent a u m e nt)) (fun a h => o.ent2 a (keep_nn same h)) (keep_inv same (o.inv.mono hB)) (o.tab.ext same) hd

/-! ### an own exception class with one field -/
structure ExT (K : PySem.W.Frag) (mg : Str → Option Value) (x fld : Str) (st : Stmt) where
  C : Addr
  fI : Addr
  fd : FuncData
  oex : OexC K C
  xf : XfC K C
  g : mg x = some (.ref C)
  iC : PySem.W.findIn K (.ref C) "__init__" = some (some (.ref fI))
  tI : PySem.W.typeIn K (.ref fI) = some (.type "function")
  no : PySem.W.findIn K (.ref C) fld = some none
  fi : FunD K "__init__" (x ++ ".__init__") (defArgs st) (defBody st) (defScope st) [] [] fI fd
  b : Binds K fd ["self", fld] []
/-- self.fld = v, of a new exception -/
def spI (K : PySem.W.Frag) (fld : Str) : Sp := fun vs H Q _ => ∃ (a C : Addr) (v : V), vs = [.ref a, v] ∧ H a = some (exo a C none) ∧ OexC K C ∧ PySem.W.findIn K (.ref C) fld = some none ∧
  ∀ dx, H dx = none → dx ≠ a → Q .non (upd (upd H dx (exd dx [(fld, v)])) a (exo a C (some dx)))
theorem init_ok {P : Program} {w : World} {K : PySem.W.Frag} {mg : Str → Option Value} {base : Heap} {x qual fld : Str} {pr : Arguments} {body : List Stmt} {scope : Scope} {f : Addr} {fd : FuncData} (F : FunD K x qual pr body scope [] [] f fd) (S : FnScope ["self", fld] ["self", fld] scope)
    (hb : ∀ (cdv : Value) (A : Around) (outer : List Env) (s : Shared) (H : Hp) (E : XK), PSs (cxOf (L2.CX P w) P w K mg base ["self", fld] qual scope f cdv A outer s H E) body (tOst K fld (tVar 0) (tVar 1))) :
    FnOk P w K mg base (L2.CX P w) 1 f fd ["self", fld] (spI K fld) := by
  refine F.ok S (fun vs H Q E h => ?_) (fun cdv A outer s H vs Q E hr h => ⟨_, hb cdv A outer s H E, ?_⟩)
  · obtain ⟨a, C, v, rfl, _⟩ := h
    rfl
  · obtain ⟨a, C, v, rfl, ha, T, no, q⟩ := h
    exact ⟨v, rfl, .ref a, rfl, a, C, rfl, T, no, .inl ⟨ha, fun dx h1 h2 => q dx h1 h2⟩⟩
section
variable {X : Cx} {E : XK} {c ca cb cc : Nat} {a b e : Expr} {es : List Expr} {fa fb fe : TD} {fs : TDs} {pos p rp : Pos} {x : Str}
/-- raise x(e) -/
theorem ds_raise {fld : Str} {st : Stmt} (l : List Nat) (T : ExT X.K X.mg x fld st) (F : FnOk X.prog X.w X.K X.mg X.base (L2.CX X.prog X.w) 1 T.fI T.fd ["self", fld] (spI X.K fld)) (hr : Room 2 X.A) (hc : X.calm = true) (tk : Takes X (fun cls d _ H => E cls d H)) (hx : Passes (L2.CX X.prog X.w) X (fun _ _ _ => False)) (hg : Gl X x)
    (ha : DA X E c [e] fs) (hdb : (x == ("__debug__" : Str)) = false := by decide) (hst : starEach [e] X.env = (false, eval e X.env) :: starEach [] X.env := by rfl) (hpl : (backTo pos (starEach [] X.env)).any (·.1) = false := by rfl) :
    DS X E c (.Raise (some (.Call (.Name x p) [e] [] pos)) none rp) (fun N ρ XQ => fs (frz l ρ) XQ fun xs => ∃ y, xs = [y] ∧ ∀ v, Conc y v → XQ (.ref T.C) fld v) := by
  obtain ⟨te, pe, s⟩ := ha
  refine ⟨_, ps_raise hc tk (pmk_oex T.oex T.iC T.tI F hr T.b .nil hx hg T.g pe hdb hst hpl), fun F' B R H σ ρ α XQ N K hK hX hB S h k => ?_⟩
  obtain ⟨R1, S1, h1⟩ := S.frzs l
  refine s F' B R1 H σ (frz l ρ) α XQ _ _ hK hX hB S1 h fun vs xs R' H1 e1 o1 r1 ⟨y, ey, q1⟩ => ?_
  subst ey
  cases r1 with
  | @cons _ v _ _ r1 rn =>
  cases rn
  refine ⟨(by simp), fun a0 ha => ?_⟩
  refine ⟨a0, T.C, v, rfl, upd_same, T.oex, T.no, fun dx hdx ne => ⟨rfl, dx, [(fld, v)], upd_same, by rw [upd_ne ne, upd_same], by rw [upd_ne ne] at hdx; exact hdx, ?_⟩⟩
  rw [upd_ne ne] at hdx
  refine exc_link hX o1 hB (fun b u hb => ?_) (q1 v r1.conc) upd_same
  have n1 := ne_of_none hb ha
  have n2 := ne_of_none hb hdx
  rw [upd_ne n2, del_ne n1, upd_ne n1, upd_ne n2, upd_ne n1]
  exact hb
end

/-! ### f(k = v, ..) -/
section
variable {X : Cx} {CX : CXT} {k n : Nat} {f : Addr} {fd : FuncData} {ps ks : List Str} {sp : Sp} {E : XK} {x : Str} {p pos : Pos} {kws : List Keyword} {tk : TA} {g : List Value → List Value → List Value} {gV : List V → List V → List V}
theorem pe_callNK (F : FnOk X.prog X.w X.K X.mg X.base CX k f fd ps sp) (hr : Room k X.A) (hg : Gl X x) (hm : X.mg x = some (.ref f)) (hk : PySem.W.keepIn X.K (.ref f) = true) (hb : KBn X.K fd ps 0 ks g gV) (hx : Passes CX X E) (hkw : PK X kws tk)
    (hall : (backToKw pos (keywordEach kws X.env)).all (·.1.isSome) = true := by rfl) (hks : (backToKw pos (keywordEach kws X.env)).filterMap (·.1) = ks := by rfl) (hdb : (x == ("__debug__" : Str)) = false := by decide)
    (hpl : ((backTo pos (starEach [] X.env)).any (·.1) || (backToKw pos (keywordEach kws X.env)).any (·.1.isNone)) = false := by rfl) :
    PE X (.Call (.Name x p) [] kws pos) (tCallN 0 ks.length sp gV E tNil tk) := by
  refine ⟨fun pins s σ H Q I h => wpAny_Call_Name_kw (ld_glob I hg hm (PySem.W.callWith_KW0 (h₀ := X.base) I.ok.mod.kin hk hall (thn (hkw.run pos pins s σ H _ I h) fun ws s2 ⟨zs, H2, I2, rz, l1, l2, q2⟩ => ⟨I2.kIn, ?_⟩) hpl) hdb)⟩
  rw [hks]
  exact run_fnN (us := []) (vs := []) F hr hb hx I2 .nil rz rfl l2 q2
end
end DL

set_option Elab.async false
set_option linter.all false
set_option maxRecDepth 100000
set_option maxHeartbeats 4000000
/-! DL, part n: repr; defs that run with no guard ahead. -/
namespace DL
open PySem PySem.Spec PyProof.Rows L2

/-! ### what repr shows -/
mutual
def D.pyd : D → PyData
  | .non => .none
  | .bl b => .bool b
  | .int i => .int i
  | .str x => .str x
  | .lst xs => .list (D.pydL xs)
  | .tup xs => .tuple (D.pydL xs)
  | .dct _ => .dict []
  | .strm => .none
  | .vee _ => .none
  | .obj _ _ => .none
  | .bm _ _ => .none
def D.pydL : List D → List PyData
  | [] => []
  | x :: xs => D.pyd x :: D.pydL xs
end
mutual
def D.shw : D → Bool
  | .int i => decide (i.natAbs.log2 < 1920)
  | .str x => PyData.strOk x
  | .lst xs => D.shwL xs
  | .tup xs => D.shwL xs
  | .dct kvs => kvs.isEmpty
  | .strm => false
  | .vee _ => false
  | .obj _ _ => false
  | .bm _ _ => false
  | _ => true
def D.shwL : List D → Bool
  | [] => true
  | x :: xs => D.shw x && D.shwL xs
end
mutual
def D.wid : D → Nat
  | .non => 4
  | .bl _ => 5
  | .int _ => 1921
  | .str x => 10 * x.length + 2
  | .lst xs => D.widL xs + 2
  | .tup xs => D.widL xs + 3
  | _ => 2
def D.widL : List D → Nat
  | [] => 0
  | x :: xs => (D.wid x + 2) + D.widL xs
end
mutual
def D.hasD : D → Bool
  | .lst xs => D.hasDL xs
  | .tup xs => D.hasDL xs
  | .dct _ => true
  | _ => false
def D.hasDL : List D → Bool
  | [] => false
  | x :: xs => D.hasD x || D.hasDL xs
end
theorem listText_le (ts : List Str) : (listText ts).length ≤ piled ts + 2 := by
  cases ts with
  | nil => decide
  | cons t r =>
    have h := textFrom_length_pos r 1 (("[" : Str) ++ (if (0 : Nat) > 0 then ", " else "" : String) ++ t) (Nat.succ_pos 0)
    have e : ((("[" : Str) ++ (if (0 : Nat) > 0 then ", " else "" : String) ++ t)).length = 1 + t.length := by
      rw [strLen_append, strLen_append]; rfl
    have hX : (listText (t :: r)).length = (textFrom 0 "[" (t :: r)).length + 1 := by
      show (textFrom 0 "[" (t :: r) ++ "]").length = _
      rw [strLen_append]; rfl
    have hY : (textFrom 0 "[" (t :: r)).length = (textFrom 1 (("[" : Str) ++ (if (0 : Nat) > 0 then ", " else "" : String) ++ t) r).length := rfl
    rw [hX, hY, h, e, piled_cons]; omega
theorem tupleText_le (ts : List Str) : (tupleText ts).length ≤ piled ts + 3 := by
  unfold tupleText
  rw [strLen_append, strLen_append]
  have e1 : ((("(" : String) : Str)).length = 1 := rfl
  have e3 : (((if ts.length == 1 then ",)" else ")" : String) : Str)).length ≤ 2 := by split <;> decide
  have e2 : (Str.join ", " ts).length ≤ piled ts := by
    by_cases h : ts = []
    · subst h; decide
    · have := join_length_add ts h; omega
  rw [e1]
  omega
theorem strOk_small {x : Str} (h : PyData.strOk x = true) : ∀ c ∈ x.cps.toList, c < 16 ^ 8 := by
  intro c hc
  have h2 : c < 0x110000 := of_decide_eq_true (Array.all_eq_true_iff_forall_mem.mp h c (Array.mem_toList_iff.mp hc))
  exact Nat.lt_trans h2 (by decide)
mutual
theorem shown_le : ∀ d : D, d.shw = true → d.pyd.shown.length ≤ d.wid
  | .non, _ => by decide
  | .bl b, _ => by cases b <;> decide
  | .int i, h => by
    have := int_text_len_1921 (i := i) (of_decide_eq_true (by simpa [D.shw] using h))
    simpa [D.pyd, PyData.shown, D.wid] using this
  | .str x, h => StrLaws.reprText_len x (strOk_small (by simpa [D.shw] using h))
  | .lst xs, h => by
    have := shownL_le xs (by simpa [D.shw] using h)
    have := listText_le (PyData.shownAll (D.pydL xs))
    simp only [D.pyd, PyData.shown, D.wid]
    omega
  | .tup xs, h => by
    have := shownL_le xs (by simpa [D.shw] using h)
    have := tupleText_le (PyData.shownAll (D.pydL xs))
    simp only [D.pyd, PyData.shown, D.wid]
    omega
  | .dct _, _ => (by decide : (dictText []).length ≤ 2)
theorem shownL_le : ∀ d : List D, D.shwL d = true → piled (PyData.shownAll (D.pydL d)) ≤ D.widL d
  | [], _ => Nat.le_refl _
  | x :: xs, h => by
    simp only [D.shwL, Bool.and_eq_true] at h
    have h1 := shown_le x h.1
    have h2 := shownL_le xs h.2
    simp only [D.pydL, PyData.shownAll, piled_cons, D.widL]
    omega
end
mutual
theorem shw_ok : ∀ d : D, d.shw = true → d.pyd.showable = true
  | .non, _ => rfl
  | .bl b, _ => rfl
  | .int i, h => by simpa [D.shw, D.pyd, PyData.showable] using h
  | .str x, h => rfl
  | .lst xs, h => by simpa [D.pyd, PyData.showable] using shwL_ok xs (by simpa [D.shw] using h)
  | .tup xs, h => by simpa [D.pyd, PyData.showable] using shwL_ok xs (by simpa [D.shw] using h)
  | .dct _, _ => rfl
theorem shwL_ok : ∀ d : List D, D.shwL d = true → PyData.showableAll (D.pydL d) = true
  | [], _ => rfl
  | x :: xs, h => by
    simp only [D.shwL, Bool.and_eq_true] at h
    simp only [D.pydL, PyData.showableAll, shw_ok x h.1, shwL_ok xs h.2, Bool.and_self]
end
mutual
theorem hasD_pyd : ∀ d : D, d.pyd.hasDict = d.hasD
  | .non => rfl
  | .bl _ => rfl
  | .int _ => rfl
  | .str _ => rfl
  | .dct _ => rfl
  | .strm => rfl
  | .vee _ => rfl
  | .obj _ _ => rfl
  | .bm _ _ => rfl
  | .lst xs => by simp only [D.pyd, PyData.hasDict, D.hasD, hasDL_pyd xs]
  | .tup xs => by simp only [D.pyd, PyData.hasDict, D.hasD, hasDL_pyd xs]
theorem hasDL_pyd : ∀ d : List D, PyData.hasDictAll (D.pydL d) = D.hasDL d
  | [] => rfl
  | x :: xs => by simp only [D.pydL, PyData.hasDictAll, D.hasDL, hasD_pyd x, hasDL_pyd xs]
end
mutual
theorem dep_pyd : ∀ d : D, d.pyd.depth ≤ d.dep + 1
  | .non => Nat.zero_le _
  | .bl _ => Nat.zero_le _
  | .int _ => Nat.zero_le _
  | .str _ => Nat.zero_le _
  | .dct _ => Nat.le_refl 1
  | .strm => Nat.zero_le _
  | .vee _ => Nat.zero_le _
  | .obj _ _ => Nat.zero_le _
  | .bm _ _ => Nat.zero_le _
  | .lst xs => by have := depL_pyd xs; simp only [D.pyd, PyData.depth, D.dep]; omega
  | .tup xs => by have := depL_pyd xs; simp only [D.pyd, PyData.depth, D.dep]; omega
theorem depL_pyd : ∀ d : List D, PyData.depthAll (D.pydL d) ≤ D.depL d + 1
  | [] => Nat.zero_le _
  | x :: xs => by
    have h1 := dep_pyd x
    have h2 := depL_pyd xs
    simp only [D.pydL, PyData.depthAll, D.depL]
    omega
end
section
variable {X : Cx} {pins : List (Addr × Obj)} {σ : L2.St} {H : Hp} {s : Shared} {F : Fx} {R : Reg}
mutual
theorem RpD.reads (hK : F.K = X.K) (I : Inv X pins σ H s) : ∀ {n : Bool} {d : D} {v : V} {u : Value}, RpD F H R n v d → d.shw = true → RelV v u → ∃ as, Reads s.heap u d.pyd as ∧ ∀ a ∈ as, H a ≠ none
  | _, _, _, _, .non, _, r => by cases r; exact ⟨_, .none, fun _ h => nomatch h⟩
  | _, _, _, _, .bl b, _, r => by cases r; exact ⟨_, .bool b, fun _ h => nomatch h⟩
  | _, _, _, _, .int i, _, r => by obtain ⟨t, rfl⟩ := r; exact ⟨_, .int i t, fun _ h => nomatch h⟩
  | _, _, _, _, .str x, _, r => by obtain ⟨t, rfl⟩ := r; exact ⟨_, .str x t, fun _ h => nomatch h⟩
  | _, _, _, _, .lst ha _ _ l, h, r => by
    cases r
    obtain ⟨its, rv, ⟨o, n, ho, hc, _, hd⟩, _⟩ := I.list (.of ha)
    obtain ⟨as, hr, hn⟩ := RpL.readsAll hK I l (by simpa [D.shw] using h) rv
    refine ⟨_, .list ho hc hd hr, fun b hb => ?_⟩
    rcases List.mem_cons.mp hb with e | hb
    · rw [e, ha]; exact fun z => nomatch z
    · exact hn b hb
  | _, _, _, _, .tup ha l, h, r => by
    cases r
    obtain ⟨its, rv, ⟨o, ho, hc, n, hd⟩, _⟩ := I.tuple (by rw [← hK]; exact ha)
    obtain ⟨as, hr, hn⟩ := RpL.readsAll hK I l (by simpa [D.shw] using h) rv
    exact ⟨_, .tuple ho hc hd hr, hn⟩
  | _, _, _, _, .dK (kvs := kvs) (ds := ds) ha _ _ l, h, r => by
    cases r
    have e : ds = [] := by simpa [D.shw] using h
    subst e
    cases l
    obtain ⟨_, _, vs, hv, o, es, ep, ho, hx, hd, _, hp, _⟩ := I.hok _ _ ha
    cases hv
    have e0 : es.toList = [] := by cases h0 : es.toList with | nil => rfl | cons _ _ => rw [h0] at hp; cases hp
    exact ⟨_, .dict (kvs := []) ho hx.1 hd (by rw [e0]; exact .nil) (by rw [e0]; exact .nil), fun b hb => by simp at hb; rw [hb, ha]; exact fun z => nomatch z⟩
  | _, _, _, _, .dT (kvs := kvs) (ds := ds) ha _ _ l, h, r => by
    cases r
    have e : ds = [] := by simpa [D.shw] using h
    subst e
    cases l
  | _, _, _, _, .strm _, h, _ => by cases h
  | _, _, _, _, .vee _, h, _ => by cases h
  | _, _, _, _, .obj _ _ _ _ _ _, h, _ => by cases h
  | _, _, _, _, .bm _ _ _ _, h, _ => by cases h
theorem RpL.readsAll (hK : F.K = X.K) (I : Inv X pins σ H s) : ∀ {n : Bool} {ds : List D} {vs : List V} {us : List Value}, RpL F H R n vs ds → D.shwL ds = true → Vals vs us → ∃ as, ReadsAll s.heap us (D.pydL ds) as ∧ ∀ a ∈ as, H a ≠ none
  | _, _, _, _, .nil, _, r => by cases r; exact ⟨_, .nil, fun _ h => nomatch h⟩
  | _, _, _, _, .cons a l, h, r => by
    simp only [D.shwL, Bool.and_eq_true] at h
    cases r with
    | cons r1 r2 =>
      obtain ⟨as, q1, n1⟩ := RpD.reads hK I a h.1 r1
      obtain ⟨bs, q2, n2⟩ := RpL.readsAll hK I l h.2 r2
      exact ⟨_, .cons q1 q2, fun b hb => (List.mem_append.mp hb).elim (n1 b) (n2 b)⟩
end
end
section
variable {X : Cx}
def rRepr (K : PySem.W.Frag) : List V → Hp → VK → Prop := fun xs H Q => ∃ (F : Fx) (R : Reg) (n : Bool) (v : V) (d : D), F.K = K ∧ xs = [v] ∧ RpD F H R n v d ∧ d.shw = true ∧ d.wid ≤ BIG ∧ d.dep ≤ 60 ∧ (d.hasD = true → ∃ o, K.lookup sysModules = some o) ∧ Q (.str d.pyd.shown) H
theorem reads_obj {h : Heap} {u : Value} {d : D} {as : List Addr} (r : Reads h u d.pyd as) : (∃ a, u = .ref a) ∨ (d.pyd = .none ∧ u = .none) ∨ (∃ b, d.pyd = .bool b ∧ u = .bool b) ∨ (∃ i t, d.pyd = .int i ∧ u = .int i t) ∨ ∃ x t, d.pyd = .str x ∧ u = .str x t := by
  generalize d.pyd = e at r
  cases r with
  | none => exact .inr (.inl ⟨rfl, rfl⟩)
  | bool b => exact .inr (.inr (.inl ⟨b, rfl, rfl⟩))
  | int i t => exact .inr (.inr (.inr (.inl ⟨i, t, rfl, rfl⟩)))
  | str x t => exact .inr (.inr (.inr (.inr ⟨x, t, rfl, rfl⟩)))
  | list => exact .inl ⟨_, rfl⟩
  | tuple => exact .inl ⟨_, rfl⟩
  | dict => exact .inl ⟨_, rfl⟩
theorem call_repr (hg : X.A.guards = some []) (hr : Room 0 X.A) : CallR X (.builtin "repr") (rRepr X.K) := by
  intro pins s σ H xs us Q I r h
  obtain ⟨F, R, n, v, d, hK, rfl, rd, hs, hw, hd, hm, q⟩ := h
  obtain ⟨u, rfl, ru⟩ := vals1 r
  obtain ⟨as, R1, hn⟩ := rd.reads hK I hs ru
  have hz : d.pyd.shown.length ≤ sizeLine := Nat.le_trans (shown_le d hs) (Nat.le_trans hw (by decide))
  rcases reads_obj R1 with ⟨a, rfl⟩ | ⟨e, rfl⟩ | ⟨b, e, rfl⟩ | ⟨i, t, e, rfl⟩ | ⟨x, t, e, rfl⟩
  · have hu := hr.units
    have hp := dep_pyd d
    exact repr_of_reads' (h₀ := s.heap) R1 (shw_ok d hs) (fun hd' hmem => by
      rw [hasD_pyd] at hd'
      obtain ⟨o, ho⟩ := hm hd'
      exact hn _ hmem (I.bs sysModules o (I.ok.mod.kin _ _ ho)).2) hg (by omega) (fun _ _ e => e) (fun h' u tk hk => ⟨.str _, H, I.kept hk, ⟨_, rfl⟩, q⟩) hz
  · rw [e] at q
    exact P.repr_of_none ⟨.str _, H, I.tok _, ⟨_, rfl⟩, q⟩
  · rw [e] at q
    exact P.repr_of_bool ⟨.str _, H, I.tok _, ⟨_, rfl⟩, q⟩
  · have hs' := shw_ok d hs
    rw [e] at q hs'
    exact P.repr_of_int (of_decide_eq_true hs') ⟨.str _, H, I.tok _, ⟨_, rfl⟩, q⟩
  · rw [e] at q hz
    exact P.repr_of_str ⟨.str _, H, I.tok _, ⟨_, rfl⟩, q⟩ hz
/-- what repr asks, what it tells -/
def gRepr (K : PySem.W.Frag) : Dv → (Dv → Prop) → Prop := fun x Q => x.d.shw = true ∧ x.d.wid ≤ BIG ∧ x.d.dep ≤ 60 ∧ (x.d.hasD = true → ∃ o, K.lookup sysModules = some o) ∧ Q ⟨.str x.d.pyd.shown, true, none⟩
theorem dcl_repr (hg : X.A.guards = some []) (hr : Room 0 X.A) : DCl X (.builtin "repr") (g1 (gRepr X.K)) :=
  dcl1 (call_repr hg hr) fun F B R H v x Q K hK I rx ⟨h1, h2, h3, h4, q⟩ k => ⟨F, R, _, v, x.d, hK, rfl, rx.1, h1, h2, h3, h4, k _ _ R H .refl I (.of (.str _)) q⟩
end
end DL

set_option Elab.async false
set_option linter.all false
set_option maxRecDepth 100000
set_option maxHeartbeats 4000000
/-! DL, part o: defs run with no guard ahead; keyword calls by value; lambdas handed to a def that catches. -/
namespace DL
open PySem PySem.Spec PyProof.Rows L2

/-- a def's promise where no guard stands ahead -/
structure FnG (P : Program) (w : World) (K : PySem.W.Frag) (mg : Str → Option Value) (base : Heap) (k : Nat) (f : Addr) (fd : FuncData) (ps : List Str) (cost : Nat) (g : DC) : Prop where
  run : ∀ (A : Around) (outer : List Env) (s : Shared) (H : Hp) (args : Args) (us : List Value) (vs : List V) (Q : VK) (E : XK), Room k A → A.guards = some [] → Env0 P w K mg base A outer s H → BindsTo s fd args (ps.zip us) → Vals vs us → spD K ps.length cost g vs H Q E →
    codeAny (model P w) A (.call (.ref f) args) (CR (L2.CX P w) outer P w H s Q E) s
/-- a body's reading gives what the caller wishes -/
theorem body_core {X : Cx} {E : XK} {c cost : Nat} {body : List Stmt} {gb : TDS} {g : DC} {N ps : List Str} {vs : List V} {H : Hp} {Q : VK} (hD : DSs X E c body gb) (hc : c ≤ cost)
    (hg : ∀ ds vs XQ Q, ds.length = ps.length → vs.length = ps.length → g ds vs XQ Q → gb { nx := fun _ => Q ⟨.non, true, none⟩, rt := fun r => Q { r with v := none } } (params ds vs (N.length - vs.length)) XQ)
    (h : spD X.K ps.length cost g vs H Q E) : ∃ t, PSs X body t ∧ t { nx := fun _ H' => Q .non H', rt := Q } (L2.start N vs) H := by
  obtain ⟨hl, R, st, L, B, ds, XQ, QD, o, hB, r, q, hX, k⟩ := h
  obtain ⟨t, p, sm⟩ := hD
  have hd : ds.length = ps.length := by rw [Paired.length r]; exact hl
  refine ⟨t, p, sm ⟨X.K, H, R, st, L, Nn H⟩ B R H (L2.start N vs) (params ds vs (N.length - vs.length)) (fun _ => 0) XQ _ _ rfl hX (show B + c ≤ L by omega) ⟨o, ?_, start_get r N, fun i d n z => absurd z params_ow, fun i j d n d' n' z => absurd z params_ow⟩ (hg ds vs XQ QD hd hl q) ?_⟩
  · unfold L2.start params
    rw [List.length_append, List.length_append, List.length_map, List.length_replicate, List.length_replicate, List.length_zipWith, hd, hl, Nat.min_self]
  have fin : ∀ {R' H'}, Fz ⟨X.K, H, R, st, L, Nn H⟩ R H R' H' → HpOk ⟨X.K, H, R, st, L, Nn H⟩ (B + cost) R' H' → Ext ⟨X.K, H, R, st, L, Nn H⟩ R H R' H' := fun z o' => ⟨z.reg, o'.ent, o'.reg0, o'.ent2⟩
  exact ⟨fun σ' H' ρ' R' α' z S' q' => k .non ⟨.non, true, none⟩ R' H' (fin z (S'.hp.mono (by omega))) (S'.hp.mono (by omega)) (.of .non) q', fun v x R' H' z o' r' q' => k v { x with v := none } R' H' (fin z (o'.mono (by omega))) (o'.mono (by omega)) (.of r'.1) q', fun _ _ _ _ _ _ _ q => q.elim, fun _ _ _ _ _ _ _ q => q.elim⟩
theorem fnG_ok {P : Program} {w : World} {K : PySem.W.Frag} {mg : Str → Option Value} {base : Heap} {x qual : Str} {pr : Arguments} {body : List Stmt} {scope : Scope} {f : Addr} {fd : FuncData} {N ps : List Str} {k cost : Nat} {g : DC} (F : FunD K x qual pr body scope [] [] f fd) (S : FnScope N ps scope)
    (hbody : ∀ (A : Around) (outer : List Env) (s : Shared) (H : Hp) (E : XK), Room k (A.deeper (envOfC qual scope s.heap.objs.size f fd.code)) → A.guards = some [] →
      ∃ (c : Nat) (gb : TDS), DSs (cxOf (L2.CX P w) P w K mg base N qual scope f fd.code A outer s H E) E c body gb ∧ c ≤ cost ∧ ∀ ds vs XQ Q, ds.length = ps.length → vs.length = ps.length → g ds vs XQ Q → gb { nx := fun _ => Q ⟨.non, true, none⟩, rt := fun r => Q { r with v := none } } (params ds vs (N.length - vs.length)) XQ) : FnG P w K mg base (k + 1) f fd ps cost g := by
  obtain ⟨oc, od, dV, kV, doc, pm, an, cdv, ct, osl, rfl, lk, hcd, _, _⟩ := F.ex
  refine ⟨fun A outer s H args us vs Q E hr hgd e0 hb r h => LamX.run_ofS (N := N) lk hcd S hr e0 hb r h.1 fun hr' => ?_⟩
  obtain ⟨c, gb, hD, hc, hg⟩ := hbody A outer s H E hr' hgd
  exact body_core hD hc hg h
section
variable {X : Cx} {E : XK} {c ca cb cc : Nat} {a b e : Expr} {es : List Expr} {fa fb fe : TD} {fs : TDs} {pos p rp : Pos} {x : Str}
theorem pe_callG {k cost : Nat} {f : Addr} {fd : FuncData} {ps : List Str} {g : DC} {t : TA} (F : FnG X.prog X.w X.K X.mg X.base k f fd ps cost g) (hr : Room k X.A) (hgd : X.A.guards = some []) (hg : Gl X x) (hm : X.mg x = some (.ref f)) (hk : PySem.W.keepIn X.K (.ref f) = true) (hb : Binds X.K fd ps []) (hx : Passes (L2.CX X.prog X.w) X E)
    (ha : PA X (e :: es) t) (hdb : (x == ("__debug__" : Str)) = false := by decide) (he : starEach (e :: es) X.env = (false, eval e X.env) :: starEach es X.env := by rfl) (hpl : (backTo pos (starEach es X.env)).any (·.1) = false := by rfl) :
    PE X (.Call (.Name x p) (e :: es) [] pos) (fun σ H Q => t σ H fun vs H1 => spD X.K ps.length cost g vs H1 Q E) := by
  refine ⟨fun pins s σ H Q I h => wpAny_Call_Name_kw (ld_glob I hg hm (PySem.W.callWith_K (h₀ := X.base) I.ok.mod.kin hk (thn (ha.run pos pins s σ H _ I h) fun us s1 ⟨vs, H1, I1, r, q⟩ => ⟨I1.kIn, ?_⟩) he hpl) hdb)⟩
  have hl : us.length = ps.length := by rw [← r.length]; exact q.1
  have hbs := hb s1 us I1.kIn (by rw [List.append_nil]; exact hl)
  rw [List.append_nil] at hbs
  refine wpAny_call (codeAny_mono (F.run X.A X.stack s1 H1 ⟨us, []⟩ us vs Q E hr hgd I1.env0 hbs r q) fun r s' hq => ?_)
  cases r with
  | error e => exact hx pins σ H1 s1 e s' I1 hq
  | ok fl =>
    cases fl with
    | ret u => exact I1.after hq
    | next => exact False.elim hq
    | brk => exact False.elim hq
    | cont => exact False.elim hq
theorem de_callG {k : Nat} {f : Addr} {fd : FuncData} {ps : List Str} {cost : Nat} {g : DC} (F : FnG X.prog X.w X.K X.mg X.base k f fd ps cost g) (hr : Room k X.A) (hgd : X.A.guards = some []) (hg : Gl X x) (hm : X.mg x = some (.ref f)) (hk : PySem.W.keepIn X.K (.ref f) = true) (hb : Binds X.K fd ps [])
    (hx : Passes (L2.CX X.prog X.w) X E) (hn : (e :: es).length = ps.length) (ha : DA X E c (e :: es) fs) (hdb : (x == ("__debug__" : Str)) = false := by decide) (he : starEach (e :: es) X.env = (false, eval e X.env) :: starEach es X.env := by rfl) (hpl : (backTo pos (starEach es X.env)).any (·.1) = false := by rfl) :
    DE X E (c + cost) (.Call (.Name x p) (e :: es) [] pos) (fun ρ XQ Q => fs ρ XQ fun xs => xs.length = ps.length ∧ gCall g ρ XQ xs Q) := by
  obtain ⟨t, pt, s⟩ := ha
  refine ⟨_, pe_callG F hr hgd hg hm hk hb hx pt hdb he hpl, fun F B R H σ ρ α XQ Q K hK hX hB S h k => ?_⟩
  refine s F B R H σ ρ α XQ _ _ hK hX (by omega) S h fun vs xs R' H' e' o' r' ⟨hl, q'⟩ => ?_
  exact call_core hK hX (by omega) o' r' hl q' fun v x R2 H2 e2 o2 r2 q2 => k v x R2 H2 (e'.trans e2) (by rw [← Nat.add_assoc]; exact o2) r2 q2

/-! ### f(k = v, ..) -/
def DK (X : Cx) (E : XK) (c : Nat) (kws : List Keyword) (f : TDs) : Prop := ∃ t : TA, PK X kws t ∧ ∀ F B R H σ ρ α XQ Q (K : List V → Hp → Prop), F.K = X.K → XLink F E XQ → B + c ≤ F.L → StOk F B R H σ ρ α → f ρ XQ Q →
  (∀ vs xs R' H', Ext F R H R' H' → HpOk F (B + c) R' H' → Paired (fun x v => Rp F H' R' x v) xs vs → Q xs → K vs H') → t σ H K
theorem dk_nil : DK X E 0 [] (fun _ _ Q => Q []) := ⟨_, pk_nil, fun F B R H σ ρ α XQ Q K _ _ _ S h k => k [] [] R H .refl S.hp .nil h⟩
theorem dk_cons {kws : List Keyword} {nm : Option Str} {kpos : Pos} (ha : DE X E ca a fa) (hr : DK X E cb kws fs) : DK X E (ca + cb) (⟨nm, a, kpos⟩ :: kws) (fun ρ XQ Q => fa ρ XQ fun x => fs ρ XQ fun xs => Q (x :: xs)) := by
  obtain ⟨t, p, s⟩ := ha
  obtain ⟨u, p2, s2⟩ := hr
  refine ⟨_, pk_cons p p2, fun F B R H σ ρ α XQ Q K hK hX hB S h k => ?_⟩
  refine s F B R H σ ρ α XQ _ _ hK hX (by omega) S h fun v x R1 H1 e1 o1 r1 q1 => ?_
  exact s2 F (B + ca) R1 H1 σ ρ α XQ _ _ hK hX (by omega) (S.ext e1 o1) q1 fun vs xs R2 H2 e2 o2 r2 q2 => k (v :: vs) (x :: xs) R2 H2 (e1.trans e2) (by rw [← Nat.add_assoc]; exact o2) (.cons (r1.ext o1 e2) r2) q2
/-- the parameters' order: the places of the keywords' values -/
def pickL {α : Type} (ix : List Nat) (xs : List α) : List α := ix.filterMap fun i => xs[i]?
theorem paired_get {α β : Type} {r : α → β → Prop} {xs : List α} {ys : List β} (h : Paired r xs ys) : ∀ i : Nat, (xs[i]? = none ∧ ys[i]? = none) ∨ ∃ x y, xs[i]? = some x ∧ ys[i]? = some y ∧ r x y := by
  induction h with
  | nil => intro i; exact .inl ⟨rfl, rfl⟩
  | @cons a b _ _ q _ ih =>
    intro i
    cases i with
    | zero => exact .inr ⟨_, _, rfl, rfl, q⟩
    | succ j => simpa using ih j
theorem paired_pick {α β : Type} {r : α → β → Prop} {xs : List α} {ys : List β} (h : Paired r xs ys) : ∀ ix : List Nat, Paired r (pickL ix xs) (pickL ix ys)
  | [] => .nil
  | i :: ix => by
    unfold pickL
    rw [List.filterMap_cons, List.filterMap_cons]
    rcases paired_get h i with ⟨e1, e2⟩ | ⟨x, y, e1, e2, q⟩
    · rw [e1, e2]; exact paired_pick h ix
    · rw [e1, e2]; exact .cons q (paired_pick h ix)
theorem kbn_of {K : PySem.W.Frag} {x qual : Str} {pr : Arguments} {body : List Stmt} {scope : Scope} {f : Addr} {fd : FuncData} {ps ks : List Str} (ix : List Nat) (F : FunD K x qual pr body scope [] [] f fd)
    (h : ∀ (kV doc pm : Value) (an : Option Addr) (cdv ct : Value) (ws : List Value), ws.length = ks.length → bindArgs (PySem.W.fnOf x qual pr body scope .none kV doc pm an cdv ct) ⟨[], ks.zip ws⟩ = pure (ps.zip (pickL ix ws))) : KBn K fd ps 0 ks (fun _ ws => pickL ix ws) (fun _ zs => pickL ix zs) := by
  obtain ⟨oc, od, dV, kV, doc, pm, an, cdv, ct, osl, rfl, lk, hcd, hD, hK⟩ := F.ex
  rcases hD with ⟨_, rfl⟩ | ⟨e, _⟩
  · refine ⟨fun s us ws X l1 l2 => ?_, fun r1 r2 => paired_pick r2 ix⟩
    rw [List.length_eq_zero_iff.mp l1]
    exact .of_eq (h kV doc pm an cdv ct ws l2)
  · exact absurd rfl e
theorem de_callNK {k : Nat} {f : Addr} {fd : FuncData} {ps ks : List Str} {cost : Nat} {g : DC} {kws : List Keyword} {ix : List Nat} (F : FnD X.prog X.w X.K X.mg X.base k f fd ps cost g) (hr : Room k X.A) (hg : Gl X x) (hm : X.mg x = some (.ref f)) (hk : PySem.W.keepIn X.K (.ref f) = true) (hb : KBn X.K fd ps 0 ks (fun _ ws => pickL ix ws) (fun _ zs => pickL ix zs))
    (hx : Passes (L2.CX X.prog X.w) X E) (ha : DK X E c kws fs) (hall : (backToKw pos (keywordEach kws X.env)).all (·.1.isSome) = true := by rfl) (hks : (backToKw pos (keywordEach kws X.env)).filterMap (·.1) = ks := by rfl) (hdb : (x == ("__debug__" : Str)) = false := by decide)
    (hpl : ((backTo pos (starEach [] X.env)).any (·.1) || (backToKw pos (keywordEach kws X.env)).any (·.1.isNone)) = false := by rfl) :
    DE X E (c + cost) (.Call (.Name x p) [] kws pos) (fun ρ XQ Q => fs ρ XQ fun xs => xs.length = ks.length ∧ (pickL ix xs).length = ps.length ∧ gCall g ρ XQ (pickL ix xs) Q) := by
  obtain ⟨t, pt, s⟩ := ha
  refine ⟨_, pe_callNK F hr hg hm hk hb hx pt hall hks hdb hpl, fun F B R H σ ρ α XQ Q K hK hX hB S h k => ?_⟩
  refine s F B R H σ ρ α XQ _ _ hK hX (by omega) S h fun vs xs R' H' e' o' r' ⟨hl0, hl, q'⟩ => ⟨rfl, by rw [← Paired.length r']; exact hl0, ?_⟩
  exact call_core hK hX (by omega) o' (paired_pick r' ix) hl q' fun v x R2 H2 e2 o2 r2 q2 => k v x R2 H2 (e'.trans e2) (by rw [← Nat.add_assoc]; exact o2) r2 q2
end
end DL

set_option Elab.async false
set_option linter.all false
set_option maxRecDepth 100000
set_option maxHeartbeats 4000000
/-! DL, part p: a lambda handed to a def that tells it or catches. -/
namespace DL
open PySem PySem.Spec PyProof.Rows L2 LamX

/-- try: return (s1, a()) / except x as n: return (s2, n.fld) -/
def TTm (K : PySem.W.Frag) (C : Addr) (fld s1 s2 : Str) : (XK → Hp → VK → Prop) → Hp → VK → Prop := fun tl H Q =>
  tl (fun cls d H' => ∃ b, PySem.W.exmOne K cls (.ref C) = some b ∧ (b = true → cls = .ref C ∧ ∃ (dd : Addr) (fs : List (Str × V)) (v : V), d = some dd ∧ H' dd = some (.xd fs) ∧ fs.lookup fld = some v ∧ ∀ p, H' p = none → Q (.ref p) (upd H' p (.tup [.str s2, v]))) ∧ (b = false → False)) H
    (fun v H1 => [V.str s1, v].length ≤ sizeLine ∧ ∀ p, H1 p = none → Q (.ref p) (upd H1 p (.tup [.str s1, v])))
theorem takes_len {X : Cx} {W : WX} (tk : Takes X W) : Takes X (fun c d σ H => σ.length = X.N.length → W c d σ H) := fun u s' ⟨a, B, sI, pins, σ, H, cls, d, e, I, nb, up, sky, na, os, ag, w⟩ =>
  tk u s' ⟨a, B, sI, pins, σ, H, cls, d, e, I, nb, up, sky, na, os, ag, w I.len⟩
theorem set_at1 {α : Type} {l : List α} {x : α} (h : l.length = 2) : (l.set 1 x)[1]? = some x := by
  rw [List.getElem?_set]
  simp [h]
section
variable {X : Cx}
theorem met_gives {Ng : List Str} {x a e n q fld s1 s2 : Str} {sg : Scope} {g C : Addr} {cdg : Value} {j j2 k k2 : Nat} {p1 p2 p3 p4 p5 p6 p7 p8 p9 p10 p11 p12 p13 p14 : Pos} (T : XfC X.K C) (hno : PySem.W.findIn X.K (.ref C) fld = some none)
    (hge : sg.names.lookup e = some .globalImplicit) (hme : X.mg e = some (.ref C)) (hde : (e == ("__debug__" : Str)) = false) (hNg : Ng = [a, n]) (hnd : Ng.Nodup) (hln : sg.names.lookup n = some .local) (hvn : (n == ("__debug__" : Str)) = false := by decide) (hcn : (n == ("__classdict__" : Str)) = false := by decide) :
    GivesTo X Ng x sg g cdg [.Try [.Return (some (.Tuple [.Constant (.str s1) j p1, .Call (.Name a p2) [] [] p3] k p4)) p5] [.ExceptHandler (some (.Name e p6)) (some n) [.Return (some (.Tuple [.Constant (.str s2) j2 p7, .Attribute (.Name n p8) fld p9] k2 p10)) p11] p12] [] [] p13] a q (TTm X.K C fld s1 s2) := by
  subst hNg
  intro f c' s H Q tl act hc h
  let Y : Cx := (cxOf C8.CX0 X.prog X.w X.K X.mg X.base [a, n] x sg g cdg X.A X.stack s H C8.E0).nox
  have hgl : Gl Y e := hge
  refine ⟨_, pss_one (ps_try_as (X := Y) (c := .ref C) (i := 1) (n := n)
      (tb := fun W D σ H => ∃ Ech : XK, (∀ cls d (σ' : L2.St) H', Ech cls d H' → σ'.length = 2 → W cls d σ' H') ∧ σ[0]? = some (some (.ref f)) ∧ H c' = some (CodeO c' q) ∧ tl Ech H fun v H1 => [V.str s1, v].length ≤ sizeLine ∧ ∀ p, H1 p = none → D.rt (.ref p) (upd H1 p (.tup [.str s1, v])))
      rfl rfl hnd rfl hln ⟨hgl, hde, .inl hme⟩ LamX.takes0 (fun W pn xe tk _ => ?_) (fun a oe cls d pn hz hf => pss_one (ps_ret (pe_tup (pa_cons pe_str (pa_cons (pe_xf T hno hz hf (pe_var (i := 1) rfl (.inl hln) hvn hcn) (by rfl)) pa_nil (by rfl)) (by rfl)))))), ?_⟩
  · refine ⟨fun pins s' σ H' D I h' => ?_⟩
    obtain ⟨Ech, hW, h1, h2, h3⟩ := h'
    have hp := act _ pn xe Ech p2 p3 (takes_len tk) (fun cls d σ' H' he hl => hW cls d σ' H' he hl)
    have hq := pss_one (ps_ret (pos := p5) (pe_tup (pos := p4) (x1 := k) (pa_cons (pe_str (X := Y.tr pn xe) (pos := p1) (x := s1) (j := j)) (pa_cons hp pa_nil (by rfl)) (by rfl))))
    exact hq.run pins s' σ H' D I ⟨h1, h2, h3⟩
  · refine ⟨_, fun cls d σ' H' ⟨b, e1, e2, e3⟩ hl => ⟨b, e1, fun hb a ha => ?_, fun hb => e3 hb⟩, rfl, hc, h⟩
    obtain ⟨ec, dd, fs, v, ed, h1, h2, h3⟩ := e2 hb
    exact ⟨.ref a, set_at1 hl, rfl, ec, dd, fs, v, ed, h1, h2, (by show (2 : Nat) ≤ _; decide), h3⟩

/-- what a call within sees of the slots -/
def reb (ρ : Ro) : Ro := ρ.map fun s => match s with
  | .va x => .va { x with n := x.d.imm }
  | _ => .un
theorem reb_va {ρ : Ro} {i : Nat} {x : Dv} (h : (reb ρ)[i]? = some (.va x)) : ∃ y, ρ[i]? = some (.va y) ∧ x = { y with n := y.d.imm } := by
  unfold reb at h
  rw [List.getElem?_map] at h
  cases e : ρ[i]? with
  | none => rw [e] at h; cases h
  | some s =>
    rw [e] at h
    cases s with
    | va y =>
      have h' : Sl.va { y with n := y.d.imm } = Sl.va x := Option.some.inj h
      cases h'
      exact ⟨y, rfl, rfl⟩
    | un => cases Option.some.inj h
    | ow d n => cases Option.some.inj h
theorem reb_ow {ρ : Ro} {i : Nat} {d : D} {n : Bool} : (reb ρ)[i]? ≠ some (.ow d n) := fun h => by
  unfold reb at h
  rw [List.getElem?_map] at h
  cases e : ρ[i]? with
  | none => rw [e] at h; cases h
  | some s =>
    rw [e] at h
    cases s <;> cases Option.some.inj h
theorem StOk.rebase {F : Fx} {B L : Nat} {R : Reg} {H : Hp} {σ : L2.St} {ρ : Ro} {α : Nat → Addr} (S : StOk F B R H σ ρ α) (hL : L ≤ F.L) : StOk ⟨F.K, H, R, F.st, L, Nn H⟩ B R H σ (reb ρ) α :=
  ⟨⟨S.hp.inv, S.hp.good, fun _ _ _ e _ => e, fun _ e => e, fun _ r => .inl r, S.hp.tab, Nat.le_trans hL S.hp.lim, fun _ e => e⟩, by unfold reb; rw [List.length_map]; exact S.len, fun i x h => by
    obtain ⟨y, hy, rfl⟩ := reb_va h
    obtain ⟨v, hv, r⟩ := S.va i y hy
    exact ⟨v, hv, RpD.reI (F := F) (F' := ⟨F.K, H, R, F.st, L, Nn H⟩) rfl rfl r.1, r.2⟩, fun i d n h => (reb_ow h).elim, fun i j d n d' n' h => (reb_ow h).elim⟩
theorem StOk.name {F : Fx} {B : Nat} {R : Reg} {H : Hp} {σ : L2.St} {ρ : Ro} {α : Nat → Addr} (S : StOk F B R H σ ρ α) {i : Nat} {y : Dv} {v : V} (hv : σ[i]? = some (some v)) (r : Rp F H R y v) : StOk F B R H σ (ρ.set i (.va { y with v := some v })) α :=
  ⟨S.hp, by rw [List.length_set]; exact S.len, fun j x h => by
    rcases set_get h with ⟨rfl, e⟩ | ⟨ne, h⟩
    · cases e
      exact ⟨v, hv, r.1, fun u z => (Option.some.inj z).symm⟩
    · exact S.va j x h, fun j d n h => by
    rcases set_get h with ⟨_, e⟩ | ⟨ne, h⟩
    · cases e
    · exact S.ow j d n h, fun j m d n d' n' h h' => by
    rcases set_get h with ⟨_, e⟩ | ⟨_, h⟩
    · cases e
    · rcases set_get h' with ⟨_, e⟩ | ⟨_, h'⟩
      · cases e
      · exact S.dis j m d n d' n' h h'⟩
/-- x(lambda: body) told by x's try -/
theorem de_met {E : XK} {x a fld s1 s2 : Str} {g cc P C : Addr} {k c i : Nat} {pg : Arguments} {bg : List Stmt} {sg : Scope} {fd : FuncData} {Ng : List Str} {params : Arguments} {body : Expr} {scope : Scope} {fb : TD} {p lpos pos : Pos}
    (G : FunD X.K x x pg bg sg [] [] g fd) (hg : Gl X x) (hm : X.mg x = some (.ref g)) (hb : L2.Binds X.K fd [a] []) (Sg : FnScope Ng [a] sg) (hNg : Ng[0]? = some a) (hva : Vis sg a)
    (hG : ∀ cdg, GivesTo X Ng x sg g cdg bg a (X.env.qual ++ "<lambda>") (TTm X.K C fld s1 s2))
    (TB : TabB X.base X.mg cc P) (hcode : X.env.code = .ref cc) (hmT : (P, X.env.qual ++ "<lambda>") ∈ tabK X.K) (hu : ∀ p ∈ tabK X.K, p.1 = P → p.2 = X.env.qual ++ "<lambda>") (hr : Room (k + 2) X.A) (L : LamS X.env.scope scope) (hdef : defaultsOf params X.env = ([], []))
    (hbind : ∀ (q : Str) (cl : List (Str × Addr)) (pm cv ctv : Value), bindArgs (PySem.W.kla_fn "<lambda>" q params body scope cl pm cv ctv) ⟨[], []⟩ = pure [])
    (exm : PySem.W.exmOne X.K (.ref C) (.ref C) = some true)
    (hbody : ∀ (A : Around) (outer : List Env) (s : Shared) (H : Hp) (E : XK) (f c' : Addr), Room k (A.deeper (lamEnv X scope s.heap.objs.size f c')) → DE (lamCx X A outer s H E scope f c') E c body fb)
    (hdb : (x == ("__debug__" : Str)) = false := by decide) (hd : (a == ("__debug__" : Str)) = false := by decide) (hcd : (a == ("__classdict__" : Str)) = false := by decide) :
    DE X E c (.Call (.Name x p) [.Lambda params body scope lpos] [] pos) (fun ρ XQ Q => ∃ y, ρ[i]? = some (.va y) ∧ ∀ v, fb (reb (ρ.set i (.va { y with v := some v }))) (fun C' f' v' => C' = .ref C ∧ f' = fld ∧ v' = v ∧ Q ⟨.tup [.str s2, y.d], y.fr, none⟩) (fun z => Q ⟨.tup [.str s1, z.d], z.fr, none⟩)) := by
  obtain ⟨oc, od, dV, kV, doc, pm, an, cdv, ct, osl, rfl, lk, hcd', _, _⟩ := G.ex
  refine ⟨_, pe_lamcall (T := tabK X.K) (t := fun E σ H Q => ∀ (A : Around) (outer : List Env) (s : Shared) (H0 : Hp) (f c' : Addr) (hr : Room k (A.deeper (lamEnv X scope s.heap.objs.size f c'))), (hbody A outer s H0 E f c' hr).choose σ H Q) hg hm G.kp lk hcd' hb Sg hNg hva (hG cdv) TB hcode hmT hu hr L hdef hbind
    (fun A outer s H E f c' hr => ⟨fun pins s' σ H' Q I q => (hbody A outer s H E f c' hr).choose_spec.1.run pins s' σ H' Q I (q A outer s H f c' hr)⟩) hdb hd hcd, fun F B R H σ ρ α XQ Q K hK hX hB S ⟨y, hy, hfb⟩ k => ?_⟩
  have hT : F.T = tabK X.K := by unfold Fx.T; rw [hK]
  refine ⟨by rw [← hT]; exact S.hp.tab, fun H1 eN T1 => ?_⟩
  have e1 : Ext F R H R H1 := ⟨fun _ r => r, fun a o _ h nt => eN a o h nt, fun _ r => .inl r, fun a h o e nt => h o (eN a o e nt) nt⟩
  have o1 : HpOk F B R H1 := ⟨fun p e => by
      obtain ⟨a, xs, c, n, s, h1, h2, r⟩ := S.hp.inv p e
      exact ⟨a, xs, c, n, s, eN _ _ h1 NoTbl.lst, eN _ _ h2 NoTbl.lst, r⟩, fun a r => let ⟨m, o, h, nt⟩ := S.hp.good a r; ⟨m, o, eN a o h nt, nt⟩, fun a o m h nt => eN a o (S.hp.ent a o m h nt) nt, fun a h => S.hp.ent2 a (e1.there a h), S.hp.reg0, by rw [hT]; exact T1, S.hp.lim, fun a h => S.hp.pn a (e1.there a h)⟩
  have S1 := S.ext e1 o1
  obtain ⟨v, hv, rv⟩ := S1.va i y hy
  have S2 := (S1.name hv rv).rebase (L := B + c) hB
  intro A outer s0 H0 f c' hr'
  refine (hbody A outer s0 H0 _ f c' hr').choose_spec.2 ⟨F.K, H1, R, F.st, B + c, Nn H1⟩ B R H1 σ _ α _ _ _ hK ⟨fun _ _ z => (nomatch z.1), ?_⟩ (Nat.le_refl _) S2 (hfb v) ?_
  · -- raised
    rintro C' f' v' dx H' ⟨eC, rfl, rfl, q⟩ hk ht hi hb' hd'
    cases eC
    refine ⟨true, exm, fun _ => ⟨rfl, dx, _, v', rfl, hd', by simp, fun p hp => ?_⟩, fun z => nomatch z⟩
    have e2 : Ext F R H1 R H' := ⟨fun _ r => r, fun a o m h nt => hk a o m h nt, fun _ r => .inl r, ht⟩
    have o2 : HpOk F (B + c) R H' := ⟨hi, fun a r => let ⟨m, o, h, nt⟩ := o1.good a r; ⟨m, o, hk a o m h nt, nt⟩, fun a o m h nt => hk a o m (o1.ent a o m h nt) nt, fun a h => o1.ent2 a (ht a h), o1.reg0, by rw [hT]; have hb2 : Tabs (tabK F.K) H' := hb'; rw [hK] at hb2; exact hb2, S.hp.lim, fun a h => o1.pn a (ht a h)⟩
    have r3 := (rv.ext o1 e2).fr
    have e3 : Ext F R H' R (upd H' p (.tup [.str s2, v'])) := .new0 hp
    exact k (.ref p) ⟨.tup [.str s2, y.d], y.fr, none⟩ R _ ((e1.trans e2).trans e3) (o2.new0 hp .tup) (.of (.tup (.of upd_same) (.cons (.str s2) (.cons (r3.ext o2 e3) .nil)))) q
  · -- told
    intro u z R2 H2 e2 o2 r2 q2
    refine ⟨(by show (2 : Nat) ≤ _; decide), fun p hp => ?_⟩
    have n2 : ∀ a, Nn H1 a → Nn F.H0 a := o1.ent2
    have p2 : ∀ a, Nn H1 a → F.P a := o1.pn
    have e2' : Ext F R H1 R2 H2 := ⟨e2.reg, e2.keep, e2.new, e2.there⟩
    have o2' : HpOk F (B + c) R2 H2 := ⟨o2.inv, o2.good, fun a u m e nt => o2.ent a u m (o1.ent a u m e nt) nt, fun a e => n2 a (o2.ent2 a e), fun a r => (o2.reg0 a r).elim (o1.reg0 a) fun z => .inr (n2 a z), o2.tab, S.hp.lim, fun a h => p2 a (o2.pn a h)⟩
    have mv : Mv ⟨F.K, H1, R, F.st, B + c, Nn H1⟩ R2 H2 F R2 H2 z.n z.n := ⟨rfl, fun _ z => z, fun _ _ r h _ => ⟨r, h⟩, fun _ _ h => h, fun z a u _ _ _ w => p2 a (w z)⟩
    have r3 : RpD F H2 R2 z.fr u z.d := Rp.fr ⟨r2.1.mv mv, r2.2⟩
    have e3 : Ext F R2 H2 R2 (upd H2 p (.tup [.str s1, u])) := .new0 hp
    exact k (.ref p) ⟨.tup [.str s1, z.d], z.fr, none⟩ R2 _ ((e1.trans e2').trans e3) (o2'.new0 hp .tup) (.of (.tup (.of upd_same) (.cons (.str s1) (.cons (r3.ext o2' e3) .nil)))) q2
end
end DL

set_option Elab.async false
set_option linter.all false
set_option maxRecDepth 100000
set_option maxHeartbeats 4000000
/-! DL, part q: the law's end where the law's def runs with no guard ahead. -/
namespace DL
open PySem PySem.Spec PyProof.Rows L2 LamX

/-- the abstract heap at the law's entry: the tables, the script where the written part does not know it -/
def startH (K : PySem.W.Frag) (ts : List Addr) (a : Addr) (o : Obj) (xs : List V) : Hp := fun b => if b ∈ ts then some (.tbl #[]) else if b = a ∧ K.lookup a = none then some (.frz o (.lst xs)) else none
theorem startH_cases {K : PySem.W.Frag} {ts : List Addr} {a b : Addr} {o : Obj} {xs : List V} {u : HO} (h : startH K ts a o xs b = some u) : (b ∈ ts ∧ u = .tbl #[]) ∨ (b ∉ ts ∧ b = a ∧ K.lookup a = none ∧ u = .frz o (.lst xs)) := by
  unfold startH at h
  by_cases h1 : b ∈ ts
  · rw [if_pos h1] at h
    exact .inl ⟨h1, (Option.some.inj h).symm⟩
  · rw [if_neg h1] at h
    by_cases h2 : b = a ∧ K.lookup a = none
    · rw [if_pos h2] at h
      exact .inr ⟨h1, h2.1, h2.2, (Option.some.inj h).symm⟩
    · rw [if_neg h2] at h; cases h
/-- what the head must tell of the law's def -/
structure LawG (P : Program) (w : World) (K : PySem.W.Frag) (mg : Str → Option Value) (n : Nat) (fa : Addr) (h : Heap) (cs : List (Addr × Addr)) : Prop where
  tab : ∀ p ∈ cs, h.get? p.2 = some { cls := .none, data := .fields #[] }
  out : ∀ p ∈ cs, K.lookup p.2 = none
  code : ∀ p ∈ cs, PySem.W.CodeHd h p.1 p.2
  run : ∀ (base : Heap) (H : Hp) (s : Shared) (a : Addr) (ns : List Int), K.In base → base.Ns mainGlobals mg → (∀ p ∈ cs, TabB base mg p.1 p.2) → Env0 P w K mg base callerA [] s H → ns.length ≤ n → (∀ z ∈ ns, Builtin.Int.intBits z ≤ 1048576) → (∀ p ∈ cs, H p.2 = some (.tbl #[])) → SqF K H a (ns.map V.int) →
    codeAny (model P w) callerA (.call (.ref fa) ⟨[.ref a], []⟩) (CR (L2.CX P w) [] P w H s (fun v _ => v = .bl true) fun _ _ _ => False) s
theorem endG {P : Program} {w : World} {K : PySem.W.Frag} {mg mb : Str → Option Value} {n : Nat} {fa a : Addr} {cs : List (Addr × Addr)} {s : Shared} {vs : List Value} {ns : List Int} (G : LawG P w K mg n fa s.heap cs)
    (KX : K.In s.heap) (hns : s.heap.Ns mainGlobals mg) (hb : s.heap.Ns builtinsNs mb) (hbb : ∀ x : Str, x ≠ "__name__" → mb x = bootBuiltins x) (hlim : s.heap.NoLimit) (hg : s.gens = #[])
    (hbm : ∃ (bm : Addr) (ob : Obj), mg "__builtins__" = some (.ref bm) ∧ bm ≠ builtinsNs ∧ s.heap.get? bm = some ob ∧ ob.cls = .type "module" ∧ ob.dict = some builtinsNs ∧ ob.data = .plain)
    (ha : s.heap.get? a = some { cls := .type "list", data := .seq vs.toArray }) (hi : IntsAre vs ns) (hn : ns.length ≤ n) (hl : n ≤ sizeLine) (hbits : ∀ z ∈ ns, Builtin.Int.intBits z ≤ 1048576) :
    codeAny (model P w) callerA (.call (.ref fa) ⟨[.ref a], []⟩) (fun r s' => r = .ok (.ret (.bool true)) ∧ OldK s.heap s'.heap ∧ s'.os = s.os ∧ AllBare s'.gens) s := by
  let ts : List Addr := cs.map (·.2)
  let oa : Obj := { cls := .type "list", data := .seq vs.toArray }
  let H : Hp := startH K ts a oa (ns.map V.int)
  have lz : ns.length ≤ sizeLine := Nat.le_trans hn hl
  have rv := vals_ints hi
  have inT : ∀ {b : Addr}, b ∈ ts → s.heap.get? b = some { cls := .none, data := .fields #[] } := fun {b} hb => by
    obtain ⟨p, hp, e⟩ := List.mem_map.mp hb
    rw [← e]; exact G.tab p hp
  have aT : a ∉ ts := fun z => by
    have q := (inT z).symm.trans ha
    cases q
  have tH : ∀ p ∈ cs, H p.2 = some (.tbl #[]) := fun p hp => if_pos (List.mem_map.mpr ⟨p, hp, rfl⟩)
  have hok : HOk P w H s.heap := fun b u hu => by
    rcases startH_cases hu with ⟨hb, rfl⟩ | ⟨_, rfl, _, rfl⟩
    · exact inT hb
    · exact ⟨ha, by rw [List.length_map]; exact lz, vs, _, rv, ha⟩
  -- what is no list and no empty table is not tracked
  have free : ∀ {b : Addr} {o : Obj}, s.heap.get? b = some o → (∀ us m, o.data ≠ .seq us m) → o.data ≠ .fields #[] → H b = none := fun {b o} e n1 n2 => by
    cases q : H b with
    | none => rfl
    | some u =>
      rcases startH_cases q with ⟨hb, _⟩ | ⟨_, rfl, _, _⟩
      · rw [inT hb] at e; cases e; exact (n2 rfl).elim
      · rw [ha] at e; cases e; exact (n1 _ _ rfl).elim
  have down : ∀ {b : Addr} {o : Obj}, s.heap.get? b = some o → H b = none → (hidT s.heap H).get? b = some o := fun e z => hidT_get e z
  have ns' : ∀ {b : Addr} {m : Str → Option Value}, s.heap.Ns b m → (hidT s.heap H).Ns b m := fun {b m} ⟨o, es, ep, e, d, r⟩ =>
    ⟨o, es, ep, down e (free e (fun us m z => by rw [d] at z; cases z) fun z => by rw [d] at z; cases z), d, r⟩
  have kin : K.In (hidT s.heap H) := fun b o e => down (KX b o e) (by
    cases q : H b with
    | none => rfl
    | some u =>
      rcases startH_cases q with ⟨hb, _⟩ | ⟨_, rfl, hk, _⟩
      · obtain ⟨p, hp, ep⟩ := List.mem_map.mp hb
        rw [← ep, G.out p hp] at e; cases e
      · rw [hk] at e; cases e)
  have sq : SqF K H a (ns.map V.int) := by
    cases hk : K.lookup a with
    | some o =>
      have e := KX a o hk
      rw [ha] at e
      cases e
      exact .inr ⟨_, vs.toArray, _, hk, rfl, rfl, rfl, by rw [List.size_toArray, hi.length]; exact lz, by simpa using rv⟩
    | none => exact .inl ⟨oa, (if_neg aT).trans (if_pos ⟨rfl, hk⟩)⟩
  have tb : ∀ p ∈ cs, TabB (hidT s.heap H) mg p.1 p.2 := fun p hp => by
    have hTp := G.tab p hp
    refine ⟨?_, ?_, fun z => ?_⟩
    · obtain ⟨o, us, file, tf, flags, tg, inF, text, tt, e1, r1, r2, r3, r4, r5, r6, r7, r8, hne⟩ := G.code p hp
      exact ⟨o, us, file, tf, flags, tg, inF, text, tt, down e1 (free e1 (fun us m z => by rw [r2] at z; cases z) fun z => by rw [r2] at z; cases z; simp at r3), r1, r2, r3, r4, r5, r6, r7, r8, hne⟩
    · obtain ⟨bm, ob, b1, b2, b3, b4, b5, b6⟩ := hbm
      refine ⟨bm, ob, b1, b2, fun q => ?_, fun q => ?_, down b3 (free b3 (fun us m z => by rw [b6] at z; cases z) fun z => by rw [b6] at z; cases z), b4, b5, b6⟩
      · obtain ⟨o, es, ep, e, hd, _⟩ := hns
        rw [q, e] at b3; cases b3; rw [hd] at b6; cases b6
      · rw [q, hTp] at b3; cases b3; cases b6
    · obtain ⟨o, es, ep, e, hd, _⟩ := hns
      rw [z, hTp] at e; cases e; cases hd
  have e0 : Env0 P w K mg (hidT s.heap H) callerA [] s H := ⟨rfl, ⟨kin, ns' hns, ⟨mb, ns' hb, hbb⟩, let ⟨mc, h1, h2⟩ := hlim; ⟨mc, ns' h1, h2⟩⟩, fun b o e => of_hidT e, Nat.le_of_eq (hidT_size _ _), trivial, fun b hb => absurd (show b ∈ ([] : List Addr) from hb) (by simp), hok, .of_eq hg⟩
  refine codeAny_mono (G.run _ H s a ns kin (ns' hns) tb e0 hn hbits tH sq) fun r s' h => ?_
  cases r with
  | error e =>
    obtain ⟨_, _, _, _, _, _, _, _, _, _, _, _, z⟩ := h
    exact z.elim
  | ok fl =>
    cases fl with
    | next => exact False.elim h
    | brk => exact False.elim h
    | cont => exact False.elim h
    | ret u =>
      obtain ⟨v, H', os, bare, un, hok', r', q⟩ := h
      have q' : v = .bl true := q
      subst q'
      obtain rfl : u = Value.bool true := r'
      have same : ∀ b o, b ∉ ts → s.heap.get? b = some o → s'.heap.get? b = some o := fun b o nb e => by
        cases q : H b with
        | none => exact un.keep b o e q (by intro z; exact absurd (show b ∈ ([] : List Addr) from z) (by simp)) (by simp)
        | some u =>
          rcases startH_cases q with ⟨hb, _⟩ | ⟨_, rfl, _, rfl⟩
          · exact absurd hb nb
          · have z2 := un.frzs b oa _ q
            obtain ⟨e2, _⟩ := hok' b _ z2
            rw [ha] at e; cases e
            exact e2
      have more : ∀ p ∈ cs, ∃ ps : Array Value, s'.heap.get? p.2 = some { cls := .none, data := .fields ps } := fun p hp => by
        obtain ⟨ps, z⟩ := un.tbls p.2 #[] (tH p hp)
        exact ⟨_, hok' p.2 _ z⟩
      refine ⟨rfl, ⟨fun b o e => ?_, fun b o e => ?_⟩, os, bare⟩
      · by_cases hb : b ∈ ts
        · obtain ⟨p, hp, rfl⟩ := List.mem_map.mp hb
          obtain ⟨ps, hm⟩ := more p hp
          rw [G.tab p hp] at e
          cases e
          exact .inr (.inl ⟨((G.code p hp).tab (G.tab p hp)).isCodeTable, rfl, #[], ps, rfl, by rw [Array.empty_append]; exact hm⟩)
        · exact .inl (same b o hb e)
      · by_cases hb : b ∈ ts
        · obtain ⟨p, hp, rfl⟩ := List.mem_map.mp hb
          obtain ⟨ps, hm⟩ := more p hp
          exact ⟨_, hm⟩
        · exact ⟨o, same b o hb e⟩
theorem walk_G {l : PySem.W.OpenLaw} {n : Nat} {q : Program} {loose : List Str} {XP : (Str → Option Value) → Heap → Prop} {YP : World → Heap → Prop} {d : DefRec} (hn : l.most = some n) (hn2 : n ≤ sizeLine) (hdf : d.params.defaults = [])
    (F : ∀ (w : World) (mg : Str → Option Value) (fa : Addr) (h : Heap), YP w h → h.Ns mainGlobals mg → mg d.name = some (.ref fa) → ∃ (K : PySem.W.Frag) (cs : List (Addr × Addr)), K.In h ∧ LawG l.prog w K mg n fa h cs) :
    PySem.W.WalkO q loose XP YP l.row.toRowW d [] (fun f vs => PySem.call f vs) := by
  refine Att.attach_callB hn hdf fun w s₀ s₁ mg mb fa o pm cd doc a vs ns G Y ho hd hcd hmg hobj hints hlen hbits hg => ?_
  obtain ⟨K, cs, KX, L⟩ := F w mg fa _ Y G.T.g hmg
  exact endG L KX G.T.g G.T.b G.T.builtins G.T.nolimit hg G.T.bmain hobj hints hlen hn2 hbits
end DL

set_option Elab.async false
set_option linter.all false
set_option maxRecDepth 100000
set_option maxHeartbeats 4000000
/-! DL, part r: parts told side by side, own ones among them; an own list's pop. -/
namespace DL
open PySem PySem.Spec PyProof.Rows L2

/-- a part: a value, or an own list or dict -/
inductive Pt where
  | va (x : Dv) | ow (d : D) (n : Bool)
def Pt.sl : Pt → Sl
  | .va x => .va x
  | .ow d n => .ow d n
/-- a part's value at H; H0: the heap ahead of all parts -/
def PtOk (F : Fx) (H0 H : Hp) (R : Reg) : Pt → V → Prop
  | .va x, v => Rp F H R x v
  | .ow d n, v => ∃ a, v = .ref a ∧ Own F H R a d n ∧ Nn H0 a
theorem PtOk.ext {F : Fx} {B : Nat} {H0 H H' : Hp} {R R' : Reg} {p : Pt} {v : V} (h : PtOk F H0 H R p v) (I : HpOk F B R H) (e : Ext F R H R' H') : PtOk F H0 H' R' p v := by
  cases p with
  | va x => exact Rp.ext h I e
  | ow d n => obtain ⟨a, e1, w, z⟩ := h; exact ⟨a, e1, w.ext I e, z⟩
theorem PtOk.back {F : Fx} {H0 H1 H : Hp} {R : Reg} {p : Pt} {v : V} (h : PtOk F H1 H R p v) (e : ∀ a, Nn H1 a → Nn H0 a) : PtOk F H0 H R p v := by
  cases p with
  | va x => exact h
  | ow d n => obtain ⟨a, e1, w, z⟩ := h; exact ⟨a, e1, w, e a z⟩
abbrev TP := Ro → XQT → (Pt → Prop) → Prop
/-- a part's expression -/
def DPt (X : Cx) (E : XK) (c : Nat) (e : Expr) (f : TP) : Prop := ∃ t : TE, PE X e t ∧ ∀ F B R H σ ρ α XQ Q (K : VK), F.K = X.K → XLink F E XQ → B + c ≤ F.L → StOk F B R H σ ρ α → f ρ XQ Q →
  (∀ v p R' H', Ext F R H R' H' → HpOk F (B + c) R' H' → PtOk F H H' R' p v → Q p → K v H') → t σ H K
section
variable {X : Cx} {E : XK} {c ca cb cc : Nat} {a b d e : Expr} {es : List Expr} {fa fb fe fd : TD} {pa pb pd : TP} {fs : TDs} {pos p : Pos} {x y z : Str}
theorem dp_va (h : DE X E c e fe) : DPt X E c e (fun ρ XQ Q => fe ρ XQ fun x => Q (.va x)) := by
  obtain ⟨t, p, s⟩ := h
  exact ⟨t, p, fun F B R H σ ρ α XQ Q K hK hX hB S h k => s F B R H σ ρ α XQ _ K hK hX hB S h fun v x R' H' e o r q => k v (.va x) R' H' e o r q⟩
theorem dp_ow (h : DN X E c e fe) : DPt X E c e (fun ρ XQ Q => fe ρ XQ fun x => Q (.ow x.d x.n)) := by
  obtain ⟨t, p, s⟩ := h
  exact ⟨t, p, fun F B R H σ ρ α XQ Q K hK hX hB S h k => s F B R H σ ρ α XQ _ K hK hX hB S h fun a d n R' H' e o w hn q => k (.ref a) (.ow d n) R' H' e o ⟨a, rfl, w, hn⟩ q⟩
/-- a slot gets an own object -/
theorem StOk.seto {F : Fx} {B : Nat} {R : Reg} {H : Hp} {σ : L2.St} {ρ : Ro} {α : Nat → Addr} (S : StOk F B R H σ ρ α) {i : Nat} {a : Addr} {d : D} {n : Bool} (w : Own F H R a d n) (ne : ∀ j d n, ρ[j]? = some (.ow d n) → α j ≠ a) :
    StOk F B R H (σ.set i (some (.ref a))) (ρ.set i (.ow d n)) (fun j => if j = i then a else α j) := by
  refine ⟨S.hp, by rw [List.length_set, List.length_set]; exact S.len, fun j y hj => ?_, fun j d' n' hj => ?_, fun j m d1 n1 d2 n2 hj hm e => ?_⟩
  · rcases set_get hj with ⟨rfl, z⟩ | ⟨nj, hj⟩
    · cases z
    · obtain ⟨u, e1, q⟩ := S.va j y hj
      exact ⟨u, by rw [List.getElem?_set_ne (Ne.symm nj)]; exact e1, q⟩
  · have hl : j < (ρ.set i (.ow d n)).length := (List.getElem?_eq_some_iff.mp hj).1
    rcases set_get hj with ⟨ej, z⟩ | ⟨nj, hj'⟩
    · cases z
      rw [List.length_set, ← S.len] at hl
      rw [ej] at hl ⊢
      rw [if_pos rfl]
      exact ⟨by rw [List.getElem?_set_self hl], w⟩
    · rw [if_neg nj]
      obtain ⟨e1, w1⟩ := S.ow j d' n' hj'
      exact ⟨by rw [List.getElem?_set_ne (Ne.symm nj)]; exact e1, w1⟩
  · rcases set_get hj with ⟨ej, z⟩ | ⟨nj, hj'⟩
    · rcases set_get hm with ⟨em, _⟩ | ⟨nm, hm'⟩
      · rw [ej, em]
      · rw [if_pos ej, if_neg nm] at e
        exact absurd e.symm (ne m _ _ hm')
    · rcases set_get hm with ⟨em, _⟩ | ⟨nm, hm'⟩
      · rw [if_neg nj, if_pos em] at e
        exact absurd e (ne j _ _ hj')
      · rw [if_neg nj, if_neg nm] at e
        exact S.dis j m _ _ _ _ hj' hm' e
/-- a slot gets a part; M: the own slots stay among the places in M, or are the part's -/
theorem StOk.setpt {F : Fx} {B : Nat} {R : Reg} {H0 H : Hp} {σ : L2.St} {ρ : Ro} {α : Nat → Addr} (S : StOk F B R H σ ρ α) {i : Nat} {p : Pt} {v : V} (w : PtOk F H0 H R p v) (ne : ∀ a, v = .ref a → Nn H0 a → ∀ j d n, ρ[j]? = some (.ow d n) → α j ≠ a) :
    ∃ α', StOk F B R H (σ.set i (some v)) (ρ.set i p.sl) α' ∧ ∀ j d n, (ρ.set i p.sl)[j]? = some (.ow d n) → (∃ d n, ρ[j]? = some (.ow d n) ∧ α' j = α j) ∨ (v = .ref (α' j) ∧ ∃ d n, p = .ow d n) := by
  cases p with
  | va x => exact ⟨α, S.setva i w, fun j d n h => by
      rcases set_get h with ⟨_, e⟩ | ⟨_, h⟩
      · cases e
      · exact .inl ⟨d, n, h, rfl⟩⟩
  | ow d n =>
    obtain ⟨a, rfl, w1, z⟩ := w
    refine ⟨_, S.seto w1 (ne a rfl z), fun j d' n' h => ?_⟩
    rcases set_get h with ⟨ej, e⟩ | ⟨nj, h⟩
    · exact .inr ⟨by simp [ej], d, n, rfl⟩
    · exact .inl ⟨d', n', h, by simp [nj]⟩
theorem pt_ne {F : Fx} {H0 H : Hp} {R : Reg} {p p' : Pt} {a : Addr} {d : D} {n : Bool} (w : Own F H0 R a d n) (hn : Nn H0 a) : False := by
  obtain ⟨o, ho, nt⟩ := w.some
  exact hn o ho nt
/-- a, b = e, f -/
theorem ds_par2 (l : List Nat) {i j : Nat} {px py pt : Pos} {kt k2 : Nat} {pt2 : Pos} (ha : DPt X E ca a pa) (hb : DPt X E cb b pb) (hc : X.calm = true) (hN : X.N.Nodup) (hi : X.N[i]? = some x) (hj : X.N[j]? = some y) (hij : i ≠ j)
    (hx : X.env.scope.names.lookup x = some .local) (hy : X.env.scope.names.lookup y = some .local)
    (hw : swappedStores [.Tuple [.Name x px, .Name y py] kt pt] (.Tuple [a, b] k2 pt2) X.env = pure (some [x, y]))
    (hs : swapsWithSole [.Tuple [.Name x px, .Name y py] kt pt] (.Tuple [a, b] k2 pt2) pos.line X.env = pure false := by rfl) (h1 : starEach [a, b] X.env = (false, eval a X.env) :: starEach [b] X.env := by rfl) (h2 : starEach [b] X.env = (false, eval b X.env) :: starEach [] X.env := by rfl) :
    DS X E (ca + cb) (.Assign [.Tuple [.Name x px, .Name y py] kt pt] (.Tuple [a, b] k2 pt2) pos) (fun N ρ XQ => pa (frz l ρ) XQ fun u => pb (frz l ρ) XQ fun v => N.nx (((frz l ρ).set i u.sl).set j v.sl)) := by
  obtain ⟨ta, p1, s1⟩ := ha
  obtain ⟨tb, p2, s2⟩ := hb
  refine ⟨_, ps_par hc hN hi hj hij hx hy (pa_cons p1 (pa_cons p2 pa_nil h2) h1) hw hs, fun F B R H σ ρ α XQ N K hK hX hB S h k => ?_⟩
  obtain ⟨R1, S1, hR⟩ := S.frzs l
  have z0 : Fz F R H R1 H := ⟨hR, fun _ _ _ h _ => h, fun _ _ h => h⟩
  refine s1 F B R1 H σ (frz l ρ) α XQ _ _ hK hX (by omega) S1 h fun v u R2 H2 e2 o2 r2 q2 => ?_
  refine s2 F (B + ca) R2 H2 σ (frz l ρ) α XQ _ _ hK hX (by omega) (S1.ext e2 o2) q2 fun v' u' R3 H3 e3 o3 r3 q3 => ⟨v, v', rfl, ?_⟩
  have S3 := (S1.ext e2 o2).ext e3 o3
  have r2' := r2.ext o2 e3
  have own0 : ∀ a, Nn H a → ∀ j d n, (frz l ρ)[j]? = some (.ow d n) → α j ≠ a := fun a hn j d n hj ej => by
    obtain ⟨o, ho, nt⟩ := (S1.ow j d n hj).2.some
    exact hn o (ej ▸ ho) nt
  obtain ⟨α1, S4, hα⟩ := S3.setpt (i := i) r2' fun a _ hn => own0 a hn
  obtain ⟨α2, S5, _⟩ := S4.setpt (i := j) r3 fun a ea hn j' d n hj' ej => by
    rcases hα j' d n hj' with ⟨d0, n0, h0, e0⟩ | ⟨e0, d0, n0, ep⟩
    · exact own0 a (e2.there a hn) j' d0 n0 h0 (e0 ▸ ej)
    · subst ep
      obtain ⟨a2, ea2, w2, _⟩ := r2
      rw [e0] at ea2
      cases ea2
      obtain ⟨o, ho, nt⟩ := w2.some
      exact hn o (ej ▸ ho) nt
  exact k.nx _ H3 _ R3 α2 (z0.trans ((e2.trans e3).fz S1.hp)) (by rw [← Nat.add_assoc]; exact S5) q3
/-- a, b, c = e, f, g -/
theorem ds_par3 (l : List Nat) {i j m : Nat} {px py pz pt : Pos} {kt k2 : Nat} {pt2 : Pos} (ha : DPt X E ca a pa) (hb : DPt X E cb b pb) (hd : DPt X E cc d pd) (hc : X.calm = true) (hN : X.N.Nodup) (hi : X.N[i]? = some x) (hj : X.N[j]? = some y) (hm : X.N[m]? = some z) (hij : i ≠ j) (him : i ≠ m) (hjm : j ≠ m)
    (hx : X.env.scope.names.lookup x = some .local) (hy : X.env.scope.names.lookup y = some .local) (hz : X.env.scope.names.lookup z = some .local)
    (hw : swappedStores [.Tuple [.Name x px, .Name y py, .Name z pz] kt pt] (.Tuple [a, b, d] k2 pt2) X.env = pure (some [x, y, z]))
    (hs : swapsWithSole [.Tuple [.Name x px, .Name y py, .Name z pz] kt pt] (.Tuple [a, b, d] k2 pt2) pos.line X.env = pure false := by rfl) (h1 : starEach [a, b, d] X.env = (false, eval a X.env) :: starEach [b, d] X.env := by rfl) (h2 : starEach [b, d] X.env = (false, eval b X.env) :: starEach [d] X.env := by rfl) (h3 : starEach [d] X.env = (false, eval d X.env) :: starEach [] X.env := by rfl) :
    DS X E (ca + cb + cc) (.Assign [.Tuple [.Name x px, .Name y py, .Name z pz] kt pt] (.Tuple [a, b, d] k2 pt2) pos) (fun N ρ XQ => pa (frz l ρ) XQ fun u => pb (frz l ρ) XQ fun v => pd (frz l ρ) XQ fun w => N.nx ((((frz l ρ).set i u.sl).set j v.sl).set m w.sl)) := by
  obtain ⟨ta, p1, s1⟩ := ha
  obtain ⟨tb, p2, s2⟩ := hb
  obtain ⟨td, p3, s3⟩ := hd
  refine ⟨_, ps_par3 hc hN hi hj hm hij him hjm hx hy hz (pa_cons p1 (pa_cons p2 (pa_cons p3 pa_nil h3) h2) h1) hw hs, fun F B R H σ ρ α XQ N K hK hX hB S h k => ?_⟩
  obtain ⟨R1, S1, hR⟩ := S.frzs l
  have z0 : Fz F R H R1 H := ⟨hR, fun _ _ _ h _ => h, fun _ _ h => h⟩
  refine s1 F B R1 H σ (frz l ρ) α XQ _ _ hK hX (by omega) S1 h fun v u R2 H2 e2 o2 r2 q2 => ?_
  refine s2 F (B + ca) R2 H2 σ (frz l ρ) α XQ _ _ hK hX (by omega) (S1.ext e2 o2) q2 fun v' u' R3 H3 e3 o3 r3 q3 => ?_
  have S3 := (S1.ext e2 o2).ext e3 o3
  have r2' := r2.ext o2 e3
  refine s3 F (B + ca + cb) R3 H3 σ (frz l ρ) α XQ _ _ hK hX (by omega) S3 q3 fun v2 u2 R4 H4 e4 o4 r4 q4 => ⟨v, v', v2, rfl, ?_⟩
  have S4 := S3.ext e4 o4
  have r2'' := r2'.ext o3 e4
  have r3' := r3.ext o3 e4
  have own0 : ∀ a, Nn H a → ∀ j d n, (frz l ρ)[j]? = some (.ow d n) → α j ≠ a := fun a hn j d n hj ej => by
    obtain ⟨o, ho, nt⟩ := (S1.ow j d n hj).2.some
    exact hn o (ej ▸ ho) nt
  have clash : ∀ {G G1 : Hp} {R : Reg} {p : Pt} {v : V} {a : Addr} {d0 : D} {n0 : Bool}, PtOk F G1 G R p v → p = .ow d0 n0 → v = .ref a → Nn G a → False := fun {G G1 R p v a d0 n0} w e ea hn => by
    subst e
    obtain ⟨a2, ea2, w2, _⟩ := w
    rw [ea] at ea2
    cases ea2
    obtain ⟨o, ho, nt⟩ := w2.some
    exact hn o ho nt
  obtain ⟨α1, S5, hα⟩ := S4.setpt (i := i) r2'' fun a _ hn => own0 a hn
  have own1 : ∀ a, Nn H2 a → ∀ j' d n, ((frz l ρ).set i u.sl)[j']? = some (.ow d n) → α1 j' ≠ a := fun a hn j' d n hj' ej => by
    rcases hα j' d n hj' with ⟨d0, n0, h0, e0⟩ | ⟨e0, d0, n0, ep⟩
    · exact own0 a (e2.there a hn) j' d0 n0 h0 (e0 ▸ ej)
    · exact clash r2 ep (ej ▸ e0) hn
  obtain ⟨α2, S6, hα2⟩ := S5.setpt (i := j) r3' fun a _ hn => own1 a hn
  obtain ⟨α3, S7, _⟩ := S6.setpt (i := m) r4 fun a ea hn j' d n hj' ej => by
    rcases hα2 j' d n hj' with ⟨d0, n0, h0, e0⟩ | ⟨e0, d0, n0, ep⟩
    · exact own1 a (e3.there a hn) j' d0 n0 h0 (e0 ▸ ej)
    · exact clash r3 ep (ej ▸ e0) hn
  have e : B + (ca + cb + cc) = B + ca + cb + cc := by omega
  exact k.nx _ H4 _ R4 α3 (z0.trans (((e2.trans e3).trans e4).fz S1.hp)) (by rw [e]; exact S7) q4
theorem rpl_erase {F : Fx} {H : Hp} {R : Reg} : ∀ {n : Bool} {vs : List V} {ds : List D}, RpL F H R n vs ds → ∀ k : Nat, RpL F H R n (vs.eraseIdx k) (ds.eraseIdx k)
  | _, _, _, .nil, _ => .nil
  | _, _, _, .cons a t, 0 => t
  | _, _, _, .cons a t, k + 1 => .cons a (rpl_erase t k)
/-- list(e): a new list, nobody else's -/
theorem dn_list {p1 : Pos} (hg : Gl X "list") (hm : X.mg "list" = none) (ha : DA X E c [e] fs) (he : starEach [e] X.env = (false, eval e X.env) :: starEach [] X.env := by rfl) (hpl : (backTo pos (starEach [] X.env)).any (·.1) = false := by rfl) :
    DN X E c (.Call (.Name "list" p1) [e] [] pos) (fun ρ XQ Q => fs ρ XQ fun xs => ∃ x ds, xs = [x] ∧ x.d.seq = some ds ∧ Q ⟨.lst ds, x.fr, none⟩) := by
  obtain ⟨t, pt, s⟩ := ha
  refine ⟨_, pe_callTy call_list_of hg hm (by decide +kernel) pt (by decide) (by decide) he hpl, fun F B R H σ ρ α XQ Q K hK hX hB S h k => ?_⟩
  refine s F B R H σ ρ α XQ _ _ hK hX hB S h fun vs xs R1 H1 e1 o1 r1 ⟨x, ds, ex, ed, q⟩ => ?_
  subst ex
  cases r1 with
  | @cons _ v _ _ r1 rn =>
  cases rn
  have fin : ∀ (us : List V), RpL F H1 R1 x.fr us ds → ∀ q0, H1 q0 = none → K (.ref q0) (upd H1 q0 (.lst us)) := fun us lu q0 hq =>
    k q0 (.lst ds) x.fr R1 _ (e1.trans (.new0 hq)) (o1.new0 hq .lst) ⟨not_frozen o1 hq, mx_none o1.inv hq, o1.ent2 q0 (.of hq), o1.pn q0 (.of hq), ⟨us, upd_same, lu.ext o1 (.new0 hq)⟩⟩ (e1.there q0 (.of hq)) q
  obtain ⟨d, n, vo⟩ := x
  cases d <;> try (cases ed; done)
  case lst ds' =>
    cases ed
    obtain ⟨a, us, rfl, ha, la⟩ := r1.lstL rfl
    exact ⟨a, us, rfl, .inl (.of ha), fin us la⟩
  case tup ds' =>
    cases ed
    obtain ⟨a, us, rfl, ha, la⟩ := r1.tupL rfl
    exact ⟨a, us, rfl, .inr (hK ▸ ha), fin us la⟩
/-- x.append(y.pop(e)), x, y own lists -/
theorem ds_appPop (l : List Nat) {i j : Nat} {p1 p2 a1 a2 c2 : Pos} (he : DE X E c e fe)
    (ps : ∀ te, PE X e te → PS X (.Expr (.Call (.Attribute (.Name x p1) "append" a1) [.Call (.Attribute (.Name y p2) "pop" a2) [e] [] c2] [] p) pos) (tDrop (tBM X.K "list" rAppend (tVar i) (tCons (tBM X.K "list" rPopAt (tVar j) (tCons te tNil)) tNil)))) :
    DS X E c (.Expr (.Call (.Attribute (.Name x p1) "append" a1) [.Call (.Attribute (.Name y p2) "pop" a2) [e] [] c2] [] p) pos)
      (fun N ρ XQ => i ≠ j ∧ ∃ ds n es m, ρ[i]? = some (.ow (.lst ds) n) ∧ ρ[j]? = some (.ow (.lst es) m) ∧ ds.length < BIG ∧ fe (frz l ρ) XQ fun k => (if k.d.sca = true then ρ else frz l ρ) = ρ ∧ ∃ (q : Nat) (z : D), k.d = .int q ∧ es[q]? = some z ∧ es.length ≤ BIG ∧ N.nx ((ρ.set j (.ow (.lst (es.eraseIdx q)) m)).set i (.ow (.lst (ds ++ [z])) (n && m)))) := by
  obtain ⟨t, pt, s⟩ := he
  refine ⟨_, ps t pt, fun F B R H σ ρ α XQ N K hK hX hB S ⟨hij, ds, n, es, m, h1, h2, hb, h⟩ k => ?_⟩
  obtain ⟨e1, w1⟩ := S.ow i _ _ h1
  obtain ⟨e2, w2⟩ := S.ow j _ _ h2
  obtain ⟨us, hu, lu⟩ := w1.at_
  obtain ⟨vs, hv, lv⟩ := w2.at_
  refine ⟨_, e1, Or.inl ⟨rfl, _, SqL.of hu⟩, _, e2, Or.inl ⟨rfl, _, SqL.of hv⟩, ?_⟩
  refine run_frz (X := X) (E := E) (c := c) (l := l) (Q := fun k0 ρ' => ρ' = ρ ∧ ∃ (q : Nat) (z : D), k0.d = .int q ∧ es[q]? = some z ∧ es.length ≤ BIG ∧ N.nx ((ρ.set j (.ow (.lst (es.eraseIdx q)) m)).set i (.ow (.lst (ds ++ [z])) (n && m)))) s hK hX hB S h fun v x0 ρ' R' H' z S' r ⟨eρ, q, z0, ek, ez, hz, q0⟩ => ?_
  subst eρ
  obtain ⟨e3, w3⟩ := S'.ow i _ _ h1
  obtain ⟨e4, w4⟩ := S'.ow j _ _ h2
  obtain ⟨us', hu', lu'⟩ := w3.at_
  obtain ⟨vs', hv', lv'⟩ := w4.at_
  have rv : v = .int q := by have := r.conc.2; rw [ek] at this; exact this
  subst rv
  obtain ⟨y0, hy0, ry⟩ := lv'.get ez
  have hq : q < vs'.length := (List.getElem?_eq_some_iff.mp hy0).1
  have hL : vs'.length ≤ BIG := by rw [lv'.len]; exact hz
  have hB2 : BIG = 16777216 := rfl
  refine ⟨α j, vs', (q : Int), q, y0, rfl, rfl, hv', by omega, by omega, ?_, hy0, ?_⟩
  · unfold seqIndex?
    simp
    omega
  have nij : α i ≠ α j := fun ea => hij (S'.dis i j _ _ _ _ h1 h2 ea)
  obtain ⟨S2, z2⟩ := S'.setow h2 (vs := vs'.eraseIdx q) (ds' := es.eraseIdx q) (m := m) (rpl_erase lv' q)
  have hi2 : (ρ'.set j (.ow (.lst (es.eraseIdx q)) m))[i]? = some (.ow (.lst ds) n) := by rw [List.getElem?_set_ne (Ne.symm hij)]; exact h1
  have ry2 : RpD F (upd H' (α j) (.lst (vs'.eraseIdx q))) R' m y0 z0 := ry.mv (z2.mv fun z => z)
  have lu2 : RpL F (upd H' (α j) (.lst (vs'.eraseIdx q))) R' n us' ds := lu'.fz z2
  obtain ⟨S3, z3⟩ := S2.setow hi2 (vs := us' ++ [y0]) (ds' := ds ++ [z0]) (m := n && m) ((lu2.weak and_l).app (.cons (ry2.weak and_r) .nil))
  refine ⟨α i, us', y0, rfl, rfl, by rw [upd_ne nij]; exact hu', lt_line (by rw [lu'.len]; exact hb), ?_⟩
  exact k.nx σ _ _ R' α ((z.trans z2).trans z3) S3 q0
end
end DL

set_option Elab.async false
set_option linter.all false
set_option maxRecDepth 100000
set_option maxHeartbeats 4000000
/-! DL, part s: a stream is laid; what is drawn behind. -/
namespace DL
open PySem PySem.Spec PyProof.Rows L2

mutual
/-- no stream in it -/
def D.nost : D → Bool
  | .lst xs => D.nostL xs
  | .tup xs => D.nostL xs
  | .dct kvs => D.nostP kvs
  | .obj _ fs => D.nostL fs
  | .bm _ d => D.nost d
  | .strm => false
  | _ => true
def D.nostL : List D → Bool
  | [] => true
  | x :: xs => D.nost x && D.nostL xs
def D.nostP : List (D × D) → Bool
  | [] => true
  | (k, v) :: xs => D.nost v && D.nostP xs
end
mutual
theorem RpD.unst {F F' : Fx} (hK : F'.K = F.K) (h0 : ∀ a, F.P a → F'.P a) {H : Hp} {R : Reg} : ∀ {n : Bool} {v : V} {d : D}, RpD F H R n v d → d.nost = true → RpD F' H R n v d
  | _, _, _, .non, _ => .non
  | _, _, _, .bl b, _ => .bl b
  | _, _, _, .int i, _ => .int i
  | _, _, _, .str x, _ => .str x
  | _, _, _, .lst h r w t, e => .lst h r (fun z => h0 _ (w z)) (RpL.unst hK h0 t (by simpa [D.nost] using e))
  | _, _, _, .tup h t, e => .tup (by rw [hK]; exact h) (RpL.unst hK h0 t (by simpa [D.nost] using e))
  | _, _, _, .dK h r w t, e => .dK h r (fun z => h0 _ (w z)) (RpK.unst hK h0 t (by simpa [D.nost] using e))
  | _, _, _, .dT h r w t, e => .dT h r (fun z => h0 _ (w z)) (RpT.unst hK h0 t (by simpa [D.nost] using e))
  | _, _, _, .strm _, e => nomatch e
  | _, _, _, .vee v, _ => .vee v
  | _, _, _, .obj h r w c l t, e => .obj (by rw [hK]; exact h) r (fun z => h0 _ (w z)) c l (RpL.unst hK h0 t (by simpa [D.nost] using e))
  | _, _, _, .bm h r w t, e => .bm h r (fun z => h0 _ (w z)) (RpD.unst hK h0 t (by simpa [D.nost] using e))
theorem RpL.unst {F F' : Fx} (hK : F'.K = F.K) (h0 : ∀ a, F.P a → F'.P a) {H : Hp} {R : Reg} : ∀ {n : Bool} {v : List V} {d : List D}, RpL F H R n v d → D.nostL d = true → RpL F' H R n v d
  | _, _, _, .nil, _ => .nil
  | _, _, _, .cons a t, e => by
    simp only [D.nostL, Bool.and_eq_true] at e
    exact .cons (RpD.unst hK h0 a e.1) (RpL.unst hK h0 t e.2)
theorem RpK.unst {F F' : Fx} (hK : F'.K = F.K) (h0 : ∀ a, F.P a → F'.P a) {H : Hp} {R : Reg} : ∀ {n : Bool} {v : List (Key × V)} {d : List (D × D)}, RpK F H R n v d → D.nostP d = true → RpK F' H R n v d
  | _, _, _, .nil, _ => .nil
  | _, _, _, .consI a t, e => by
    simp only [D.nostP, Bool.and_eq_true] at e
    exact .consI (RpD.unst hK h0 a e.1) (RpK.unst hK h0 t e.2)
  | _, _, _, .consS a t, e => by
    simp only [D.nostP, Bool.and_eq_true] at e
    exact .consS (RpD.unst hK h0 a e.1) (RpK.unst hK h0 t e.2)
theorem RpT.unst {F F' : Fx} (hK : F'.K = F.K) (h0 : ∀ a, F.P a → F'.P a) {H : Hp} {R : Reg} : ∀ {n : Bool} {v : List (List Key × V)} {d : List (D × D)}, RpT F H R n v d → D.nostP d = true → RpT F' H R n v d
  | _, _, _, .one k a, e => by
    simp only [D.nostP, Bool.and_eq_true] at e
    exact .one (RpL.unstK hK k) (RpD.unst hK h0 a e.1)
  | _, _, _, .cons k a t, e => by
    simp only [D.nostP, Bool.and_eq_true] at e
    exact .cons (RpL.unstK hK k) (RpD.unst hK h0 a e.1) (RpT.unst hK h0 t e.2)
theorem RpL.unstK {F F' : Fx} (hK : F'.K = F.K) {H : Hp} {R : Reg} : ∀ {k : List Key} {ks : List D}, RpL F H R true (k.map kV) ks → RpL F' H R true (k.map kV) ks
  | [], _, .nil => .nil
  | .inl i :: k, _, .cons a b => by
    refine .cons ?_ (RpL.unstK hK b)
    cases a with
    | int => exact .int i
    | vee => exact .vee _
  | .inr x :: k, _, .cons a b => by
    refine .cons ?_ (RpL.unstK hK b)
    cases a with
    | str => exact .str x
    | vee => exact .vee _
end
/-- the slots without the stream -/
def clr (ρ : Ro) : Ro := ρ.map fun s => match s with
  | .va x => if x.d.nost = true then .va x else .un
  | .ow d n => if d.nost = true then .ow d n else .un
  | .un => .un
theorem clr_va {ρ : Ro} {i : Nat} {x : Dv} (h : (clr ρ)[i]? = some (.va x)) : ρ[i]? = some (.va x) ∧ x.d.nost = true := by
  unfold clr at h
  rw [List.getElem?_map] at h
  cases e : ρ[i]? with
  | none => rw [e] at h; cases h
  | some s =>
    rw [e] at h
    cases s with
    | va y =>
      have h' : (if y.d.nost = true then Sl.va y else .un) = Sl.va x := Option.some.inj h
      by_cases hy : y.d.nost = true
      · rw [if_pos hy] at h'; cases h'; exact ⟨rfl, hy⟩
      · rw [if_neg hy] at h'; cases h'
    | un => cases Option.some.inj h
    | ow d n =>
      have h' : (if d.nost = true then Sl.ow d n else .un) = Sl.va x := Option.some.inj h
      split at h' <;> cases h'
theorem clr_ow {ρ : Ro} {i : Nat} {d : D} {n : Bool} (h : (clr ρ)[i]? = some (.ow d n)) : ρ[i]? = some (.ow d n) ∧ d.nost = true := by
  unfold clr at h
  rw [List.getElem?_map] at h
  cases e : ρ[i]? with
  | none => rw [e] at h; cases h
  | some s =>
    rw [e] at h
    cases s with
    | va y =>
      have h' : (if y.d.nost = true then Sl.va y else .un) = Sl.ow d n := Option.some.inj h
      split at h' <;> cases h'
    | un => cases Option.some.inj h
    | ow d' n' =>
      have h' : (if d'.nost = true then Sl.ow d' n' else .un) = Sl.ow d n := Option.some.inj h
      by_cases hy : d'.nost = true
      · rw [if_pos hy] at h'; cases h'; exact ⟨rfl, hy⟩
      · rw [if_neg hy] at h'; cases h'
theorem Own.unst {F F' : Fx} (hK : F'.K = F.K) (h0 : ∀ a, Nn F.H0 a → Nn F'.H0 a) (hP : ∀ a, F.P a → F'.P a) {H : Hp} {R : Reg} {a : Addr} {d : D} {n : Bool} (w : Own F H R a d n) (nm : ¬ F'.mx a) (e : d.nost = true) : Own F' H R a d n := by
  refine ⟨w.nr, nm, h0 _ w.n0, hP _ w.p0, ?_⟩
  have q := w.at_
  cases d with
  | lst ds => obtain ⟨vs, h, r⟩ := q; exact ⟨vs, h, r.unst hK hP (by simpa [D.nost] using e)⟩
  | dct ds =>
    rcases q with ⟨vs, h, r⟩ | ⟨vs, h, r⟩
    · exact .inl ⟨vs, h, r.unst hK hP (by simpa [D.nost] using e)⟩
    · exact .inr ⟨vs, h, r.unst hK hP (by simpa [D.nost] using e)⟩
  | obj k ds => obtain ⟨dx, vs, h, l, r⟩ := q; exact ⟨dx, vs, by rw [hK]; exact h, l, r.unst hK hP (by simpa [D.nost] using e)⟩
  | _ => exact q.elim
/-- the stream as it is laid -/
def Laid (H : Hp) (a b : Addr) : Prop := a ≠ b ∧ ∃ xs : List Int, H a = some (.lst [.ref b, .int 0, .int 0, .int 19]) ∧ H b = some (.lst (xs.map V.int)) ∧ xs.length ≤ 1000 ∧ ∀ z ∈ xs, z.natAbs < CBIT
/-- an expression that lays a stream -/
def DStrm (X : Cx) (E : XK) (e : Expr) (f : Ro → XQT → Prop) : Prop := ∃ t : TE, PE X e t ∧ ∀ F B R H σ ρ α XQ (K : VK), F.K = X.K → XLink F E XQ → B ≤ F.L → StOk F B R H σ ρ α → f ρ XQ →
  (∀ a b R' H', Ext F R H R' H' → HpOk F B R' H' → Laid H' a b → ¬ R' a → ¬ R' b → Nn H a → Nn H b → K (.ref a) H') → t σ H K
def XQtop (v : V) : XQT := fun c x u => c = .none ∧ (x = "" ∨ x = "script" ∧ u = v)
section
variable {X : Cx} {E : XK} {c ca cb cc : Nat} {a b e : Expr} {es : List Expr} {fa fb fe : TD} {fs : TDs} {pos p rp : Pos} {x : Str}
theorem strm_in {F : Fx} (hst : F.st = none) {B : Nat} {R : Reg} {H0 H : Hp} {a b : Addr} (o : HpOk F B R H) (hL : Laid H a b) (na : ¬ R a) (nb : ¬ R b) (za : Nn F.H0 a) (zb : Nn F.H0 b) : HpOk ⟨F.K, F.H0, F.R0, some (a, b), F.L, F.P⟩ B R H := by
  obtain ⟨ne, xs, h1, h2, h3, h4⟩ := hL
  have nm : ∀ x, ¬ F.mx x := fun x ⟨p, e, _⟩ => by rw [hst] at e; cases e
  refine ⟨fun p e => ?_, fun x r => ⟨fun ⟨p, e, h⟩ => ?_, (o.good x r).2⟩, fun x u m e nt => o.ent x u (nm x) e nt, o.ent2, o.reg0, o.tab, o.lim, o.pn⟩
  · cases e
    exact ⟨ne, xs, 0, 0, 19, h1, h2, by decide, by decide, by omega, by decide, by decide, h3, h4, by rw [cbit_eq]; exact Nat.two_pow_pos _⟩
  · cases e
    rcases h with h | h <;> subst h
    · exact na r
    · exact nb r
theorem strm_out {F : Fx} (hst : F.st = none) {B : Nat} {R : Reg} {H : Hp} {a b : Addr} (o : HpOk ⟨F.K, F.H0, F.R0, some (a, b), F.L, F.P⟩ B R H) (za : Nn F.H0 a) (zb : Nn F.H0 b) : HpOk F B R H := by
  have nm : ∀ x, ¬ F.mx x := fun x ⟨p, e, _⟩ => by rw [hst] at e; cases e
  refine ⟨fun p e => (by rw [hst] at e; cases e), fun x r => ⟨nm x, (o.good x r).2⟩, fun x u m e nt => o.ent x u (fun ⟨p, ep, h⟩ => ?_) e nt, o.ent2, o.reg0, o.tab, o.lim, o.pn⟩
  cases ep
  rcases h with h | h <;> subst h
  · exact za u e nt
  · exact zb u e nt
/-- x = (a new stream); what comes behind draws from it -/
theorem dss_strm {tg : Expr} {i : Nat} {fS : Ro → XQT → Prop} {rest : List Stmt} {gb : TDS} (he : DStrm X E e fS) (hg : PG X tg (gName i)) (ps : ∀ te t, PE X e te → PG X tg t → PS X (.Assign [tg] e pos) (tAsg te t)) (hr : DSs X E c rest gb) :
    DSs X E c (.Assign [tg] e pos :: rest) (fun N ρ XQ => XQ .none "" .non ∧ fS ρ XQ ∧ gb { nx := fun ρ' => N.nx (clr ρ'), rt := fun r => r.d.nost = true ∧ N.rt r, bk := fun ρ' => N.bk (clr ρ'), ct := fun ρ' => N.ct (clr ρ') } (ρ.set i (.va ⟨.strm, true, none⟩)) XQ0) := by
  obtain ⟨t, pt, s⟩ := he
  obtain ⟨t2, p2, s2⟩ := hr
  refine ⟨_, pss_cons (ps t _ pt hg) p2, fun F B R H σ ρ α XQ N K hK hX hB S ⟨hx, hf, h⟩ k => ?_⟩
  have hst := (hX.1 _ _ hx).1 rfl
  refine s F B R H σ ρ α XQ _ hK hX (by omega) S hf fun a b R' H' e1 o1 hL na nb za zb => ?_
  have za0 := S.hp.ent2 a za
  have zb0 := S.hp.ent2 b zb
  have o2 := strm_in (H0 := H) hst o1 hL na nb za0 zb0
  have S1 := S.ext e1 o1
  have mv : ∀ m, Mv F R' H' ⟨F.K, F.H0, F.R0, some (a, b), F.L, F.P⟩ R' H' m m := fun m => ⟨rfl, fun p z => (by rw [hst] at z; cases z), fun _ _ r h _ => ⟨r, h⟩, fun _ _ h => h, fun z _ _ _ _ _ q => q z⟩
  have own_ne : ∀ j d n, ρ[j]? = some (.ow d n) → α j ≠ a ∧ α j ≠ b := fun j d n hj => by
    obtain ⟨o, ho, nt⟩ := (S.ow j d n hj).2.some
    exact ⟨fun ej => za o (ej ▸ ho) nt, fun ej => zb o (ej ▸ ho) nt⟩
  have S2 : StOk ⟨F.K, F.H0, F.R0, some (a, b), F.L, F.P⟩ B R' H' σ ρ α := ⟨o2, S1.len, fun j y hj => by
      obtain ⟨v, hv, r⟩ := S1.va j y hj
      exact ⟨v, hv, r.1.mv (mv _), r.2⟩, fun j d n hj => by
      obtain ⟨ej, w⟩ := S1.ow j d n hj
      refine ⟨ej, w.nr, fun ⟨p, ep, hp⟩ => ?_, w.n0, w.p0, ?_⟩
      · cases ep
        obtain ⟨n1, n2⟩ := own_ne j d n hj
        exact hp.elim n1 n2
      · have q := w.at_
        cases d with
        | lst ds => obtain ⟨vs, h, r⟩ := q; exact ⟨vs, h, r.mv (mv _)⟩
        | dct ds =>
          rcases q with ⟨vs, h, r⟩ | ⟨vs, h, r⟩
          · exact .inl ⟨vs, h, r.mv (mv _)⟩
          · exact .inr ⟨vs, h, r.mv (mv _)⟩
        | obj k ds => obtain ⟨dx, vs, h, l, r⟩ := q; exact ⟨dx, vs, h, l, r.mv (mv _)⟩
        | _ => exact q.elim, S1.dis⟩
  have S3 := S2.setva i (x := ⟨.strm, true, none⟩) (v := .ref a) (.of (.strm (p := (a, b)) rfl))
  refine s2 ⟨F.K, F.H0, F.R0, some (a, b), F.L, F.P⟩ B R' H' _ _ α XQ0 _ _ hK xlink0 hB S3 h ?_
  have back : ∀ {R2 H2}, Fz ⟨F.K, F.H0, F.R0, some (a, b), F.L, F.P⟩ R' H' R2 H2 → Fz F R H R2 H2 := fun {R2 H2} z => (e1.fz S.hp).trans ⟨z.reg, z.keep, z.tup⟩
  have stb : ∀ {R2 H2 σ2 ρ2 α2}, StOk ⟨F.K, F.H0, F.R0, some (a, b), F.L, F.P⟩ (B + c) R2 H2 σ2 ρ2 α2 → StOk F (B + c) R2 H2 σ2 (clr ρ2) α2 := fun {R2 H2 σ2 ρ2 α2} S' =>
    ⟨strm_out hst S'.hp za0 zb0, by unfold clr; rw [List.length_map]; exact S'.len, fun j y hj => by
      obtain ⟨hj, hn⟩ := clr_va hj
      obtain ⟨v, hv, r⟩ := S'.va j y hj
      exact ⟨v, hv, RpD.unst (F := ⟨F.K, F.H0, F.R0, some (a, b), F.L, F.P⟩) (F' := F) rfl (fun _ z => z) r.1 hn, r.2⟩, fun j d n hj => by
      obtain ⟨hj, hn⟩ := clr_ow hj
      obtain ⟨ej, w⟩ := S'.ow j d n hj
      exact ⟨ej, Own.unst (F := ⟨F.K, F.H0, F.R0, some (a, b), F.L, F.P⟩) (F' := F) rfl (fun _ z => z) (fun _ z => z) w (fun ⟨p, e, _⟩ => by rw [hst] at e; cases e) hn⟩, fun j m d n d' n' hj hm => S'.dis j m d n d' n' (clr_ow hj).1 (clr_ow hm).1⟩
  exact ⟨fun σ' H2 ρ' R2 α' z S' q => k.nx σ' H2 (clr ρ') R2 α' (back z) (stb S') q, fun v y R2 H2 z o r q => k.rt v y R2 H2 (back z) (strm_out hst o za0 zb0) ⟨RpD.unst (F := ⟨F.K, F.H0, F.R0, some (a, b), F.L, F.P⟩) (F' := F) rfl (fun _ z => z) r.1 q.1, r.2⟩ q.2, fun σ' H2 ρ' R2 α' z S' q => k.bk σ' H2 (clr ρ') R2 α' (back z) (stb S') q, fun σ' H2 ρ' R2 α' z S' q => k.ct σ' H2 (clr ρ') R2 α' (back z) (stb S') q⟩
end
end DL

set_option Elab.async false
set_option linter.all false
set_option maxRecDepth 100000
set_option maxHeartbeats 4000000
/-! DL, part w: list(script); a def that lays a stream. -/
namespace DL
open PySem PySem.Spec PyProof.Rows L2
theorem rpl_intsW {F : Fx} {H : Hp} {R : Reg} {n : Bool} : ∀ ns : List Int, RpL F H R n (ns.map V.int) (ns.map D.int)
  | [] => .nil
  | i :: ns => .cons (.int i) (rpl_intsW ns)
theorem rpl_intsI {F : Fx} {H : Hp} {R : Reg} {n : Bool} : ∀ {ns : List Int} {us : List V}, RpL F H R n us (ns.map D.int) → us = ns.map V.int
  | [], _, h => by cases h; rfl
  | i :: ns, _, h => by
    cases h with
    | cons a t => cases a; rw [rpl_intsI t]; rfl
section
variable {X : Cx} {E : XK} {c ca cb cc : Nat} {a b e : Expr} {es : List Expr} {fa fb fe : TD} {fs : TDs} {pos p rp : Pos} {x : Str}
/-- list(script), the script as it is known of no class -/
theorem de_scr {p1 : Pos} (hg : Gl X "list") (hm : X.mg "list" = none) (ha : DA X E c [e] fs) (he : starEach [e] X.env = (false, eval e X.env) :: starEach [] X.env := by rfl) (hpl : (backTo pos (starEach [] X.env)).any (·.1) = false := by rfl) :
    DE X E c (.Call (.Name "list" p1) [e] [] pos) (fun ρ XQ Q => fs ρ XQ fun xs => ∃ x a, xs = [x] ∧ x.v = some (.ref a) ∧ XQ .none "script" (.ref a) ∧ ∀ ns : List Int, ns.length ≤ 63 → (∀ z ∈ ns, z.natAbs < CBIT) → Q ⟨.lst (ns.map D.int), true, none⟩) := by
  obtain ⟨t, pt, s⟩ := ha
  refine ⟨_, pe_callTy call_list_of hg hm (by decide +kernel) pt (by decide) (by decide) he hpl, fun F B R H σ ρ α XQ Q K hK hX hB S h k => ?_⟩
  refine s F B R H σ ρ α XQ _ _ hK hX hB S h fun vs xs R1 H1 e1 o1 r1 ⟨x, a, ex, ev, hx, q⟩ => ?_
  subst ex
  cases r1 with
  | @cons _ v _ _ r1 rn =>
  cases rn
  have hv : V.ref a = v := r1.2 _ ev
  subst hv
  obtain ⟨hs, a', ns, ea, sq, l, l2⟩ := (hX.1 _ _ hx).2 rfl
  cases ea
  have sq1 : SqF X.K H1 a (ns.map V.int) := hK ▸ sq.keep fun o u h => o1.ent a _ (fun ⟨p, ep, _⟩ => by rw [hs] at ep; cases ep) h .frz
  refine ⟨a, ns.map V.int, rfl, .inl sq1.sql, fun q0 hq => ?_⟩
  obtain ⟨e, o, r⟩ := new_lst (n := true) o1 hq (rpl_intsW ns)
  exact k _ ⟨.lst (ns.map D.int), true, none⟩ _ _ (e1.trans e) o (.of r) (q ns l l2)
/-- a def that lays a stream of a list's items -/
def spLay : List V → Hp → VK → XK → Prop := fun vs H Q _ => vs.length = 1 ∧ ∃ a xs, vs = [.ref a] ∧ H a = some (.lst xs) ∧ xs.length ≤ 1000 ∧ ∀ p q, H p = none → (upd H p (.lst xs)) q = none → Q (.ref q) (upd (upd H p (.lst xs)) q (.lst [.ref p, .int 0, .int 0, .int 19]))
theorem dstrm_call {k : Nat} {f : Addr} {fd : FuncData} {ps : List Str} (F : FnOk X.prog X.w X.K X.mg X.base (L2.CX X.prog X.w) k f fd ps spLay) (hr : Room k X.A) (hg : Gl X x) (hm : X.mg x = some (.ref f)) (hk : PySem.W.keepIn X.K (.ref f) = true) (hb : Binds X.K fd ps [])
    (hx : Passes (L2.CX X.prog X.w) X E) (hn : [e].length = ps.length) (ha : DA X E 0 [e] fs) (hdb : (x == ("__debug__" : Str)) = false := by decide) (he : starEach [e] X.env = (false, eval e X.env) :: starEach [] X.env := by rfl) (hpl : (backTo pos (starEach [] X.env)).any (·.1) = false := by rfl) :
    DStrm X E (.Call (.Name x p) [e] [] pos) (fun ρ XQ => fs ρ XQ fun xs => ∃ (y : Dv) (ns : List Int), xs = [y] ∧ y.d = .lst (ns.map D.int) ∧ ns.length ≤ 1000 ∧ ∀ z ∈ ns, z.natAbs < CBIT) := by
  obtain ⟨t, pt, s⟩ := ha
  refine ⟨_, pe_call F hr hg hm hk hb .nil hx pt hdb he hpl, fun F B R H σ ρ α XQ K hK hX hB S h k => ?_⟩
  refine s F B R H σ ρ α XQ _ _ hK hX hB S h fun vs xs R1 H1 e1 o1 r1 ⟨y, ns, ex, ed, l, l2⟩ => ?_
  rw [List.append_nil]
  subst ex
  cases r1 with
  | @cons _ v _ _ r1 rn =>
  cases rn
  obtain ⟨d, n, vo⟩ := y
  have ed : d = .lst (ns.map D.int) := ed
  subst ed
  obtain ⟨a, us, rfl, ha, la⟩ := r1.lstL rfl
  have eu := rpl_intsI la
  subst eu
  refine ⟨rfl, a, ns.map V.int, rfl, ha, by rw [List.length_map]; exact l, fun p q hp hq => ?_⟩
  have e2 : Ext F R1 H1 R1 (upd H1 p (.lst (ns.map V.int))) := .new0 hp
  have o2 := o1.new0 hp (.lst (xs := ns.map V.int))
  have e3 : Ext F R1 _ R1 (upd (upd H1 p (.lst (ns.map V.int))) q (.lst [.ref p, .int 0, .int 0, .int 19])) := .new0 hq
  have ne : q ≠ p := fun z => by
    subst z
    rw [upd_same] at hq; cases hq
  exact k q p R1 _ ((e1.trans e2).trans e3) (o2.new0 hq .lst) ⟨ne, ns, upd_same, by rw [upd_ne (Ne.symm ne)]; exact upd_same, l, l2⟩ (not_frozen o2 hq) (not_frozen o1 hp) (e1.there q (e2.there q (.of hq))) (e1.there p (.of hp))
/-- two texts of any kind -/
theorem dop_neS : DOp X (compareOp .NotEq) (fun x y Q => ∃ i j, x.d = .str i ∧ y.d = .str j ∧ Q ⟨.bl (!decide (i = j)), true, none⟩) :=
  ⟨_, op_ne, fun F B R H v u x y Q K hK I rx ry ⟨i, j, ex, ey, q⟩ k => by
    obtain ⟨dx, nx, vx⟩ := x
    obtain ⟨dy, ny, vy⟩ := y
    have ex : dx = .str i := ex
    have ey : dy = .str j := ey
    subst ex ey
    have r1 := rx.1; have r2 := ry.1
    cases r1; cases r2
    refine ⟨rfl, ?_⟩
    have e : (!decide (V.str i = V.str j)) = !decide (i = j) := by
      congr 1
      exact decide_eq_decide.mpr ⟨fun z => by cases z; rfl, fun z => by rw [z]⟩
    rw [e]
    exact k _ _ R H .refl I (.of (.bl _)) q⟩
end
end DL

set_option Elab.async false
set_option linter.all false
set_option maxRecDepth 100000
set_option maxHeartbeats 4000000
/-! DL, part x: what the head is asked; from its facts to the law's def. -/
namespace DL
open PySem PySem.Spec PyProof.Rows L2

theorem excB_ok {K : PySem.W.Frag} {h : Heap} {mg : Str → Option Value} {x fld : Str} {st : Stmt} {fd : FuncData} (X : K.In h) (G : h.Ns mainGlobals mg) (hg : (He.Fa.glo x).ok K = true) (hb : excB x fld K = true)
    (F : FunD K "__init__" (x ++ ".__init__") (defArgs st) (defBody st) (defScope st) [] [] (He.ma K (He.ga K x) "__init__") fd)
    (hbd : ∀ (kV doc pm : Value) (an : Option Addr) (cdv ct : Value) (us : List Value), us.length = 2 → bindArgs (PySem.W.fnOf "__init__" (x ++ ".__init__") (defArgs st) (defBody st) (defScope st) .none kV doc pm an cdv ct) ⟨us, []⟩ = pure ((["self", fld] : List Str).zip us)) :
    ∃ T : ExT K mg x fld st, T.C = He.ga K x ∧ PySem.W.exmOne K (.ref T.C) (.ref T.C) = some true := by
  obtain ⟨h1, h⟩ := He.ba hb
  obtain ⟨h2, h⟩ := He.ba h
  obtain ⟨h3, h⟩ := He.ba h
  obtain ⟨h4, h⟩ := He.ba h
  obtain ⟨h5, h⟩ := He.ba h
  obtain ⟨h6, h⟩ := He.ba h
  obtain ⟨h7, h⟩ := He.ba h
  obtain ⟨h8, h9⟩ := He.ba h
  have m := He.meth_ok h2
  have xf := L2.xfB_ok h5
  have hc : ∃ nm q N bs bm sn sub ab col dd k0 k1 k2 k3 k5, K.lookup (He.ga K x) = some (excClassObj nm q (He.ga K x) N bs bm true sn sub ab col dd k0 k1 k2 k3 k5 "ValueError.__new__") ∧ PySem.HandSPX.refsVE bm = true := by
    cases e : K.lookup (He.ga K x) with
    | none =>
      rw [e] at h1
      cases h1
    | some o =>
      rw [e] at h1
      obtain ⟨nm, q, N, bs, bm, sn, sub, ab, col, dd, k0, k1, k2, k3, k5, eo, r⟩ := isExcO_ok h1
      exact ⟨nm, q, N, bs, bm, sn, sub, ab, col, dd, k0, k1, k2, k3, k5, congrArg some eo, r⟩
  exact ⟨⟨He.ga K x, He.ma K (He.ga K x) "__init__", fd, ⟨hc, He.eqO_ok h6, xf.exC, of_decide_eq_true h7, h8⟩, xf, He.glo_ok X G hg, He.eqO_ok (He.ba h2).1, of_decide_eq_true h9, He.noat_ok h3, F, F.bindsN hbd⟩, rfl, He.exm_ok h4⟩

/-! ### the law's def -/
theorem bits_cbit {z : Int} (h : Builtin.Int.intBits z ≤ 1048576) : z.natAbs < CBIT := by
  rw [cbit_eq]
  unfold Builtin.Int.intBits at h
  by_cases hz : z.natAbs = 0
  · rw [hz]; exact Nat.two_pow_pos _
  · refine (Nat.log2_lt hz).mp ?_
    split at h
    · rename_i e
      exact absurd (by simpa using e) hz
    · omega

theorem lawG_of {P : Program} {w : World} {K : PySem.W.Frag} {mg : Str → Option Value} {fa : List He.Fa} {fn : List He.DefD} {ex : PySem.W.Frag → Bool} {h : Heap} {k cost : Nat} {fL : Addr} {fd : FuncData} {g : DC} (X : K.In h) (t : Told fa fn (lamDefs.map fun d => (d, none)) ex h K) (hk : k ≤ 100) (hc : cost ≤ LIM)
    (hb : ∀ (s : Shared) (u : Value), BindsTo s fd ⟨[u], []⟩ [(("script" : Str), u)])
    (F : ∀ base : Heap, K.In base → base.Ns mainGlobals mg → (∀ d ∈ lamDefs, LamX.TabB base mg (He.codeOf K (d, none)) (He.tabOf K (He.codeOf K (d, none)))) → FnG P w K mg base k fL fd ["script"] cost g)
    (hg : ∀ a Q, Q ⟨.bl true, true, none⟩ → g [.vee (.ref a)] [.ref a] (XQtop (.ref a)) Q) :
    LawG P w K mg 63 fL h ((lamDefs.map fun d => ((d, none) : He.Defn)).map (He.cT K)) := by
  refine ⟨fun p hp => ?_, fun p hp => ?_, fun p hp => ?_, fun base H s a ns KX hns hT e0 hl hbits hH hS => ?_⟩
  · obtain ⟨d, hd, rfl⟩ := List.mem_map.mp hp
    exact t.em d hd
  · obtain ⟨d, hd, rfl⟩ := List.mem_map.mp hp
    exact t.no d hd
  · obtain ⟨d, hd, rfl⟩ := List.mem_map.mp hp
    exact PySem.W.codeHd_of_K X (t.cd d hd)
  · have G := F base KX hns fun d hd => hT (He.cT K (d, none)) (List.mem_map.mpr ⟨_, List.mem_map.mpr ⟨d, hd, rfl⟩, rfl⟩)
    refine G.run callerA [] s H ⟨[.ref a], []⟩ [.ref a] [.ref a] _ _ ?_ rfl e0 (hb s (.ref a)) (.cons rfl .nil) ?_
    · have n1 : (callerA.depth : Nat) = 301 := by decide +kernel
      have n2 : (callerA.units : Nat) = 4 := rfl
      exact ⟨rfl, by rw [n1, show recursionLimit = 1000 from rfl]; omega, by rw [n2, show cLine = 9900 from rfl]; omega⟩
    · refine ⟨rfl, fun _ => False, none, cost, 0, [.vee (.ref a)], XQtop (.ref a), fun r => r.d = .bl true, ⟨fun p e => (nomatch e), fun _ r => False.elim r, fun _ _ _ e _ => e, fun _ e => e, fun _ r => False.elim r, fun p hp => ?_, hc, fun _ e => e⟩, Nat.le_of_eq (Nat.zero_add _), .cons (.vee _) .nil, hg a _ rfl, ⟨fun x v hx => ?_, fun C f v dx H' hx => ?_⟩, fun v x R' H' _ _ r q => ?_⟩
      · obtain ⟨d, hd, rfl⟩ := List.mem_map.mp hp
        refine ⟨#[], hH (He.cT K (d, none)) (List.mem_map.mpr ⟨_, List.mem_map.mpr ⟨d, hd, rfl⟩, rfl⟩), trivial, fun pos cv z => (nomatch z)⟩
      · obtain ⟨_, hx⟩ := hx
        refine ⟨fun _ => rfl, fun e => ?_⟩
        rcases hx with hx | ⟨_, hv⟩
        · rw [hx] at e; cases e
        · exact ⟨rfl, a, ns, hv, hS, hl, fun z hz => bits_cbit (hbits z hz)⟩
      · cases hx.1
      · obtain ⟨r, _⟩ := r
        have q : x.d = .bl true := q
        rw [q] at r
        cases r
        rfl
end DL

set_option Elab.async false
set_option linter.all false
set_option maxRecDepth 100000
set_option maxHeartbeats 4000000
/-! DL, part t: sorted of ints in a list or a tuple; a tuple or a list turned round. -/
namespace DLX
open PySem PySem.Spec PyProof.Rows L2
section
variable {prog : Program} {w : World} {A : Around} {E : Value → Shared → Prop} {s : Shared}
/-- the items of a tuple, told one behind another -/
theorem collect_tup {l : Addr} {vs : List Value} {Q : List Value → Shared → Prop} (hl : IsTup s.heap l vs.toArray) (h : Q vs { s with heap := (s.heap.push (seqObj "list" #[] 0)).update s.heap.objs.size (Obj.mapSeq (· ++ vs.toArray)) }) (hsz : vs.length ≤ sizeLine) :
    wpAny (model prog w) A (collect (.ref l)) Q E s := by
  obtain ⟨o, ho, hc, n, hd⟩ := id hl
  unfold collect
  refine wpAny_bind (wpAny_runValue (codeAny_builtin entry_proto_collect' ?_))
  show wpAny _ _ (do again (.builtin "list.__iadd__" ⟨[← newList [], .ref l], []⟩)) _ _ s
  refine wpAny_bind (wpAny_newList (wpAny_pure ⟨Code.quiet_builtin _ (by decide +kernel), codeAny_builtin entry_list_iadd' ?_⟩))
  show wpAny _ _ (Builtin.List.listExtendWith (.ref s.heap.objs.size) (.ref l) (.ref s.heap.objs.size)) _ _ { s with heap := s.heap.push (seqObj "list" #[] 0) }
  unfold Builtin.List.listExtendWith
  have ho' : (s.heap.push (seqObj "list" #[] 0)).get? l = some o := Heap.get?_push_of_some _ ho
  refine wpAny_bind (wpAny_typeOf (T := "tuple") ⟨o, ho', hc⟩ ?_)
  rw [if_pos (by
    have ht : (Value.type "tuple" == Value.type "tuple") = true := by rfl
    rw [ht, Bool.or_true])]
  refine wpAny_bind (listItems_at ho' hd ?_)
  refine wpAny_bind (listItems_at (xs := #[]) (n := 0) (Heap.get?_push_size _ rfl) rfl ?_)
  rw [if_neg (by simp)]
  refine wpAny_bind (listUpdate_at (xs := #[]) (n := 0) (Heap.get?_push_size _ rfl) rfl ?_ (Nat.zero_le _) (by show (#[] ++ vs.toArray).size ≤ sizeLine + 1; simp only [Array.size_append, List.size_toArray, List.length_nil]; omega))
  refine wpAny_pure ?_
  show wpAny (model prog w) A (do
      let o ← load s.heap.objs.size
      match o.data with
      | .seq xs _ => pure xs.toList
      | _ => unsupported "internal:collect") Q E { s with heap := (s.heap.push (seqObj "list" #[] 0)).update s.heap.objs.size (Obj.mapSeq (· ++ vs.toArray)) }
  refine wpAny_bind (wpAny_load (get?_update_seq (Heap.get?_push_size _ rfl) _) ?_)
  show wpAny _ _ (pure ((#[] : Array Value) ++ vs.toArray).toList) Q E _
  rw [show ((#[] : Array Value) ++ vs.toArray).toList = vs by simp]
  exact wpAny_pure h
/-- sorted(t) of a tuple of ints -/
theorem sorted_tup {l : Addr} {vs : List Value} {ns : List Int} {Q : Value → Shared → Prop} (hl : IsTup s.heap l vs.toArray) (hz : vs.length ≤ sizeLine) (hi : IntsAre vs ns)
    (h : ∀ out : List Value, SrtO.Srtd SrtO.ltIv out → SrtO.Stb SrtO.ltIv out vs → Q (.ref (s.heap.objs.size + 1)) { s with heap := sortedAll s.heap vs out.toArray }) :
    wpAny (model prog w) A (call (.builtin "sorted") [.ref l]) Q E s := by
  refine Calls.call_function_entry kind_sorted plain_sorted entry_sorted (args_sorted1 _) ?_
  unfold Builtin.«sorted»
  refine wpAny_bind (m := checkCount "sorted" 1 1 _) (wpAny_pure ?_)
  refine wpAny_bind (collect_tup hl ?_ hz)
  refine wpAny_bind (wpAny_newList ?_ hz)
  have hsz : ((s.heap.push (seqObj "list" #[] 0)).update s.heap.objs.size (Obj.mapSeq (· ++ vs.toArray))).objs.size = s.heap.objs.size + 1 := by
    rw [Heap.size_update, size_push']
  have hoL : (((s.heap.push (seqObj "list" #[] 0)).update s.heap.objs.size (Obj.mapSeq (· ++ vs.toArray))).push (seqObj "list" vs.toArray 0)).get? (s.heap.objs.size + 1) = some (seqObj "list" vs.toArray 0) := by
    rw [← hsz]; exact Heap.get?_push_size _ rfl
  show wpAny _ _ _ _ _ { s with heap := ((s.heap.push (seqObj "list" #[] 0)).update s.heap.objs.size (Obj.mapSeq (· ++ vs.toArray))).push (seqObj "list" vs.toArray 0) }
  rw [hsz]
  refine wpAny_bind (wpAny_holding (wpAny_call_entry slot_list_sort ⟨_, hoL, rfl⟩ entry_list_sort (SrtO.list_sort_ord SrtO.swo_int hoL hz (fun h2 => SrtO.ints_sortable hi h2) fun out hs hb => ⟨_, rfl, ?_⟩) (args_list_sort _)))
  exact wpAny_pure ⟨_, rfl, h out hs hb⟩
theorem filterMap_same {α β : Type} {f g : α → Option β} : ∀ {l : List α}, (∀ x ∈ l, f x = g x) → l.filterMap f = l.filterMap g
  | [], _ => rfl
  | a :: l, h => by
    rw [List.filterMap_cons, List.filterMap_cons, h a List.mem_cons_self, filterMap_same fun x hx => h x (List.mem_cons_of_mem _ hx)]
theorem pick_rev (xs : Array Value) : ((List.range xs.size).filterMap fun (k : Nat) => xs[(((xs.size : Int) - 1) + (k : Int) * (-1)).toNat]?).toArray = xs.toList.reverse.toArray := by
  congr 1
  have e : ∀ k ∈ List.range xs.size, xs[(((xs.size : Int) - 1) + (k : Int) * (-1)).toNat]? = (fun k => xs[xs.size - 1 - k]?) k := fun k hk => by
    have := List.mem_range.mp hk
    show xs[_]? = xs[_]?
    congr 1
    omega
  have : ((List.range xs.size).map fun k => xs.size - 1 - k).filterMap (fun x : Nat => xs[x]?) = xs.toList.reverse := by
    rw [PySem.W.krv_range, List.filterMap_reverse, PySem.W.krv_all]
  rw [← this, List.filterMap_map]
  exact filterMap_same e
theorem getItem_tuple_rev {t sl : Addr} {items : Array Value} {vl vu vs : Value} {Q : Value → Shared → Prop} (ht : IsTup s.heap t items) (hs : s.heap.IsSliceOf sl vl vu vs) (pl : IsPart vl none) (pu : IsPart vu none) (ps : IsPart vs (some (-1)))
    (h : Q (.ref s.heap.objs.size) { s with heap := s.heap.push { cls := .type "tuple", data := .seq items.toList.reverse.toArray } }) (hsz : items.size ≤ sizeLine) : wpAny (model prog w) A (getItem (.ref t) (.ref sl)) Q E s := by
  have htake : sizeOk (.seq items.toList.reverse.toArray) := by
    show items.toList.reverse.toArray.size ≤ sizeLine
    rw [List.size_toArray, List.length_reverse, Array.length_toList]
    exact hsz
  obtain ⟨os, hos, hcs, hds⟩ := id hs
  have hTs : s.TypeIs (.ref sl) "slice" := ⟨os, hos, hcs⟩
  unfold getItem
  try with_reducible refine wpAny_holding ?_
  first | refine wpAny_bind (wpAny_pure ?_) | skip
  refine wpAny_bind (wpAny_sequenceKey ht.typeIs (by decide) ?_)
  refine wpAny_bind (wpAny_callSpecial?_slot (name := Str.ofString "__getitem__") ht.typeIs PyProof.Rows.slot_tuple_getitem
    (wpAny_call_entry PyProof.Rows.slot_tuple_getitem ht.typeIs entry_tuple_getitem ?_ (args_tuple_getitem _ _)))
  show wpAny _ _ (Builtin.Tuple.tupleItemsOf (.ref t) >>= _) _ _ s
  refine wpAny_bind (tupleItemsOf_ ht ?_)
  refine wpAny_bind (wpAny_typeOf hTs ?_)
  rw [if_pos (by decide)]
  refine wpAny_bind (m := Builtin.Slice.sliceApplied (.ref sl) (pure (items.size : Int))) ?_
  unfold Builtin.Slice.sliceApplied Builtin.Slice.sliceFields
  refine wpAny_bind (wpAny_bind (wpAny_field hos hds (x := vl) rfl (wpAny_bind (wpAny_field hos hds (x := vu) rfl (wpAny_bind (wpAny_field hos hds (x := vs) rfl (wpAny_pure ?_)))))))
  refine wpAny_bind (HT.slicePart_ ps ?_)
  show wpAny _ _ (if ((-1 : Int) == 0) = true then _ else _) _ _ s
  rw [if_neg (by decide)]
  refine wpAny_bind (HT.slicePart_ pl (wpAny_bind (HT.slicePart_ pu (wpAny_bind (wpAny_pure ?_)))))
  have adj : Builtin.Slice.sliceAdjust none none (-1) (items.size : Int) = ((items.size : Int) - 1, -1) := rfl
  show wpAny _ _ (match Builtin.Slice.sliceAdjust none none (-1) (items.size : Int) with | (lo, hi) => pure (lo, (-1 : Int), Builtin.Slice.slicePlaces lo hi (-1))) _ _ s
  rw [adj]
  have pl : Builtin.Slice.slicePlaces ((items.size : Int) - 1) (-1) (-1) = items.size := by
    unfold Builtin.Slice.slicePlaces
    rw [if_neg (by decide)]
    by_cases hz : (items.size : Int) - 1 > -1
    · rw [if_pos hz, show (- -1 : Int) = 1 by decide, Int.ediv_one]
      omega
    · rw [if_neg hz]
      omega
  show wpAny _ _ (pure ((items.size : Int) - 1, (-1 : Int), Builtin.Slice.slicePlaces ((items.size : Int) - 1) (-1) (-1))) _ _ s
  rw [pl]
  refine wpAny_pure ?_
  have hno : ¬ (((((items.size : Int) - 1) == 0 && (-1 : Int) == 1 && items.size == items.size)) = true) := by
    intro q
    rw [Bool.and_eq_true, Bool.and_eq_true] at q
    exact absurd q.1.2 (by decide)
  show wpAny _ _ (if ((((items.size : Int) - 1) == 0 && (-1 : Int) == 1 && items.size == items.size)) = true then _ else _) _ _ s
  rw [if_neg hno, pick_rev]
  first
    | exact wpAny_bind (m := Builtin.Tuple.tupleExact _) (wpAny_newObj_type (wpAny_pure ⟨_, rfl, wpAny_pure h⟩) htake)
    | exact wpAny_bind (m := Builtin.Tuple.tupleExact _) (wpAny_newObj_type (wpAny_bind (wpAny_pure (wpAny_pure ⟨_, rfl, wpAny_pure h⟩))) htake)
    | exact wpAny_bind (wpAny_bind (m := Builtin.Tuple.tupleExact _) (wpAny_newObj_type (wpAny_pure (wpAny_pure ⟨_, rfl, wpAny_pure h⟩)) htake))
    | exact wpAny_bind (wpAny_bind (m := Builtin.Tuple.tupleExact _) (wpAny_newObj_type (wpAny_pure ⟨_, rfl, wpAny_pure h⟩) htake))
end
end DLX
namespace DL
open PySem PySem.Spec PyProof.Rows L2
section
variable {X : Cx} {E : XK} {c : Nat} {e : Expr} {fe : TD} {x : Str}
def rSortedTI (K : PySem.W.Frag) : List V → Hp → VK → Prop := fun vs H Q => ∃ (a : Addr) (ns : List Int), vs = [V.ref a] ∧ (SqL K H a (ns.map V.int) ∨ SqT K H a (ns.map V.int)) ∧
  ∀ (ns' : List Int) (p : Addr), ns'.Perm ns → ns'.Pairwise (· ≤ ·) → H p = none → Q (.ref p) (upd H p (.lst (ns'.map V.int)))
theorem cr_sortedTI : CallR X (.builtin "sorted") (rSortedTI X.K) := by
  intro pins s σ H vs us Q I r h
  obtain ⟨a, ns, rfl, hs, q⟩ := h
  rcases hs with hs | hs
  · exact cr_sortedI pins s σ H _ us Q I r ⟨a, ns, rfl, hs, q⟩
  obtain ⟨its, rv, hl, hz⟩ := I.tuple hs
  rw [Vals.ref1 r]
  have hi := rv.ints
  refine DLX.sorted_tup hl (by rw [← rv.length]; exact hz) hi fun out h1 h2 => ?_
  obtain ⟨k1, k2, k3⟩ := SrtO.ints_out hi h1 h2
  obtain ⟨ep, he'⟩ := PyProof.Rows.sortedAll_at s.heap its out.toArray
  have hlen : ((out.map SrtO.iv).map V.int).length ≤ sizeLine := by
    rw [List.length_map, k2.length_eq]
    rw [List.length_map] at hz
    exact hz
  exact ⟨.ref _, upd H (s.heap.objs.size + 1) (.lst ((out.map SrtO.iv).map V.int)), I.laid (t' := s.toks) (fun _ _ => PyProof.Rows.sortedAll_old) (Nat.le_succ _) ⟨hlen, out, ep, vals_of_ints k1, he'⟩, rfl, q _ _ k2 k3 (I.hok.fresh (Nat.le_succ _))⟩
theorem rplIntsD {F : Fx} {H : Hp} {R : Reg} {n : Bool} : ∀ ns : List Int, RpL F H R n (ns.map V.int) (ns.map D.int)
  | [] => .nil
  | i :: ns => .cons (.int i) (rplIntsD ns)
theorem rplVints {F : Fx} {H : Hp} {R : Reg} {n : Bool} : ∀ {ns : List Int} {vs : List V}, RpL F H R n vs (ns.map D.int) → vs = ns.map V.int
  | [], _, .nil => rfl
  | i :: ns, _, .cons a t => by
    cases a
    rw [rplVints t]
    rfl
/-- sorted(x), ints -/
theorem dcl_sorted : DCl X (.builtin "sorted") (g1 fun x Q => ∃ ns : List Int, x.d.seq = some (ns.map D.int) ∧ ∀ ns' : List Int, ns'.Perm ns → ns'.Pairwise (· ≤ ·) → Q ⟨.lst (ns'.map D.int), true, none⟩) := dcl1 cr_sortedTI fun F B R H v x Q K hK I r ⟨ns, es, q⟩ k => by
  have fin : ∀ (ns' : List Int) (p : Addr), ns'.Perm ns → ns'.Pairwise (· ≤ ·) → H p = none → K (.ref p) (upd H p (.lst (ns'.map V.int))) := fun ns' p h1 h2 hp => by
    obtain ⟨e, o, r⟩ := new_lst (n := true) I hp (rplIntsD ns')
    exact k _ _ _ _ e o (.of r) (q ns' h1 h2)
  obtain ⟨d, n, vo⟩ := x
  cases d <;> try (cases es; done)
  case lst ds =>
    cases es
    obtain ⟨a, us, rfl, ha, la⟩ := r.lstL rfl
    rw [rplVints la] at ha
    exact ⟨a, ns, rfl, .inl (.of ha), fin⟩
  case tup ds =>
    cases es
    obtain ⟨a, us, rfl, ha, la⟩ := r.tupL rfl
    rw [rplVints la] at ha
    exact ⟨a, ns, rfl, .inr (hK ▸ ha), fin⟩
def tRevS (K : PySem.W.Frag) (te : TE) : TE := fun σ H Q => te σ H fun x H1 => ∃ a xs, x = .ref a ∧ ((SqL K H1 a xs ∧ ∀ p, H1 p = none → Q (.ref p) (upd H1 p (.lst xs.reverse))) ∨ (SqT K H1 a xs ∧ ∀ p, H1 p = none → Q (.ref p) (upd H1 p (.tup xs.reverse))))
theorem pe_revS {te : TE} {k : Nat} {p1 p2 p3 pos : Pos} (he : PE X e te) : PE X (.Subscript e (.Slice none none (some (.UnaryOp .USub (.Constant (.int 1) k p1) p2)) p3) pos) (tRevS X.K te) := by
  refine ⟨fun pins s σ H Q I h => ?_⟩
  refine Subscript_ (thn (he.run pins s σ H _ I h) fun v s1 ⟨x, H1, I1, r1, q1⟩ => ?_)
  obtain ⟨a, xs, ex, q⟩ := q1
  subst ex
  cases r1
  have hst : PO X (some (.UnaryOp .USub (.Constant (.int 1) k p1) p2)) (tPart (tUn (rU fun i => .int (-i)) (tC (.int 1)))) := po_some (pe_un un_neg pe_int)
  refine wpAny_Slice (thn (po_none.run pins s1 σ H1 (fun o H2 => o = none ∧ H2 = H1) I1 ⟨rfl, rfl⟩) fun vl s2 ⟨l, H2, I2, pl, el, e2⟩ => ?_)
  subst el e2
  refine thn (po_none.run pins s2 σ H2 (fun o H3 => o = none ∧ H3 = H2) I2 ⟨rfl, rfl⟩) fun vu s3 ⟨u, H3, I3, pu, eu, e3⟩ => ?_
  subst eu e3
  refine thn (hst.run pins s3 σ H3 (fun o H4 => o = some (-1) ∧ H4 = H3) I3 ⟨1, rfl, -1, rfl, rfl, rfl⟩) fun vs s4 ⟨o, H4, I4, ps, eo, e4⟩ => ?_
  subst eo e4
  have I5 : Inv X pins σ H4 { s4 with heap := s4.heap.push { cls := .type "slice", data := .fields #[vl, vu, vs] } } := I4.kept (t' := s4.toks) fun b ob q => Heap.get?_push_of_some _ q
  show wpAny (model X.prog X.w) X.A (subscriptTail e (.Slice none none (some (.UnaryOp .USub (.Constant (.int 1) k p1) p2)) p3) (.ref a) (.ref s4.heap.objs.size)) (EP X pins σ Q) X.xe { s4 with heap := s4.heap.push { cls := .type "slice", data := .fields #[vl, vu, vs] } }
  rcases q with ⟨hx, q⟩ | ⟨hx, q⟩
  · obtain ⟨its, r, ht, hz⟩ := I5.list hx
    have hlen := r.length
    refine tail_any (ops := [.ref a, .ref s4.heap.objs.size]) ht.isList.typeIs (PySem.slot_list_getitem.lookup) ?_ (by with_unfolding_all rfl)
    refine wpAny_getItem_list_slice ht.isList (Heap.IsSliceOf.new _ vl vu vs) pl pu ps (by decide) ?_ (by rw [List.size_toArray]; omega)
    rw [PySem.W.krv_pick]
    refine ⟨.ref _, _, I5.laid (t' := s4.toks) (o := .lst xs.reverse) (fun b ob q => Heap.get?_push_of_some _ q) (Nat.le_refl _) ?_, rfl, q _ (I5.hok.fresh (Nat.le_refl _))⟩
    exact ⟨by rw [List.length_reverse]; exact hz, _, 0, r.reverse, Heap.get?_push_size _ rfl⟩
  · obtain ⟨its, r, ht, hz⟩ := I5.tuple hx
    have hlen := r.length
    refine tail_any (ops := [.ref a, .ref s4.heap.objs.size]) ht.typeIs (PyProof.Rows.slot_tuple_getitem.lookup) ?_ (by with_unfolding_all rfl)
    refine DLX.getItem_tuple_rev ht (Heap.IsSliceOf.new _ vl vu vs) pl pu ps ?_ (by rw [List.size_toArray]; omega)
    refine ⟨.ref _, _, I5.laid (t' := s4.toks) (o := .tup xs.reverse) (fun b ob q => Heap.get?_push_of_some _ q) (Nat.le_refl _) ?_, rfl, q _ (I5.hok.fresh (Nat.le_refl _))⟩
    exact ⟨by rw [List.length_reverse]; exact hz, _, r.reverse, IsTup.new _ _⟩
/-- x[::-1] -/
theorem de_rev {k : Nat} {p1 p2 p3 pos : Pos} (he : DE X E c e fe) : DE X E c (.Subscript e (.Slice none none (some (.UnaryOp .USub (.Constant (.int 1) k p1) p2)) p3) pos) (fun ρ XQ Q => fe ρ XQ fun x => ∃ ds, x.d.seq = some ds ∧ Q ⟨x.d.like ds.reverse, x.fr, none⟩) := by
  obtain ⟨t, pt, s⟩ := he
  refine ⟨_, pe_revS pt, fun F B R H σ ρ α XQ Q K hK hX hB S h k => ?_⟩
  refine s F B R H σ ρ α XQ _ _ hK hX hB S h fun v x R1 H1 e1 o1 r1 ⟨ds, es, q⟩ => ?_
  obtain ⟨d, n, vo⟩ := x
  cases d <;> try (cases es; done)
  case lst ds =>
    cases es
    obtain ⟨a, us, rfl, ha, la⟩ := r1.lstL rfl
    refine ⟨a, us, rfl, .inl ⟨.of ha, fun p hp => ?_⟩⟩
    obtain ⟨e2, o2, r2⟩ := new_lst o1 hp la.rev
    exact k _ _ _ _ (e1.trans e2) o2 (.of r2) q
  case tup ds =>
    cases es
    obtain ⟨a, us, rfl, ha, la⟩ := r1.tupL rfl
    refine ⟨a, us, rfl, .inr ⟨hK ▸ ha, fun p hp => ?_⟩⟩
    obtain ⟨e2, o2, r2⟩ := new_tup o1 hp la.rev
    exact k _ _ _ _ (e1.trans e2) o2 (.of r2) q
end
end DL
namespace DL
open PySem PySem.Spec PyProof.Rows L2 LiI
section
variable {X : Cx} {E : XK} {c : Nat} {e : Expr} {fe : TD} {te : TE} {x : Str} {p apos cpos pos : Pos}
/-- list(d.items()), d with plain keys, or empty -/
def rItems2 : V → Hp → VK → Prop := fun x H Q => ∃ (d : Addr) (kvs : List (Key × V)), x = .ref d ∧ (H d = some (.dK kvs) ∨ (kvs = [] ∧ H d = some (.dT []))) ∧
  ∀ (H' : Hp) (p : Addr) (ts : List Addr), (∀ b o, H b = some o → H' b = some o) → H p = none → (∀ t ∈ ts, H t = none) → p ∉ ts → H' p = some (.lst (ts.map V.ref)) → Paired (fun (t : Addr) (q : Key × V) => H' t = some (.tup [kV q.1, q.2])) ts kvs → Q (.ref p) H'
theorem pe_items2 (hc : X.calm = true) (he : PE X e te) (hg : Gl X "list") (hm : X.mg "list" = none) (hbase : attributeBase e "items" X.env (eval e X.env) = eval e X.env := by rfl) (hline : (apos.endLine == cpos.line) = true := by rfl)
    (hs : starEach [.Call (.Attribute e "items" apos) [] [] cpos] X.env = (false, eval (.Call (.Attribute e "items" apos) [] [] cpos) X.env) :: starEach [] X.env := by rfl) :
    PE X (.Call (.Name "list" p) [.Call (.Attribute e "items" apos) [] [] cpos] [] pos) (fun σ H Q => te σ H fun x H1 => rItems2 x H1 Q) := by
  refine ⟨fun pins s σ H Q I hq => ?_⟩
  refine wpAny_Call_Name_kw (ld_blt I hg hm (show bootBuiltins "list" = some (.type "list") from by decide +kernel) ?_)
  refine PyProof.Rows.callWith_type1 ?_ hs rfl
  rw [hs]
  show wpAny _ _ (spliced ((false, eval (.Call (.Attribute e "items" apos) [] [] cpos) X.env) :: backTo pos (starEach [] X.env))) _ _ s
  refine Calls.spliced_cons ?_
  refine wpAny_Call_method (T := "dict") (id := "dict.items") hbase rfl hline F.plainAttrs_dict F.slot_dict_items F.type_dict_items (thn (he.run pins s σ H _ I hq) fun u s1 ⟨x, H1, I1, rx, d, kvs, ex, hd, q⟩ => ?_)
  subst ex
  obtain rfl : u = Value.ref d := rx
  obtain ⟨hz, hs0, vs, kv, hdo⟩ : kvs.length ≤ sizeLine ∧ (d == sysModules) = false ∧ ∃ vs, KV kvs vs ∧ s1.heap.DictOf (mixKind X.prog X.w) d vs := by
    rcases hd with hd | ⟨rfl, hd⟩
    · exact I1.hok d _ hd
    · obtain ⟨hz, hs0, xs, hp, o, es, ep, ho, hx, hdd, hes, _⟩ := I1.hok d _ hd
      cases hp
      have e0 : es = #[] := Array.toList_eq_nil_iff.mp hes
      subst e0
      exact ⟨hz, hs0, [], .nil, o, #[], ep, ho, hx, hdd, fun i hi => absurd hi (by simp), .nil, List.nodup_nil⟩
  obtain ⟨ep, hat⟩ := hdo.dictAt
  have lk : kvs.length = vs.length := Paired.length kv
  have I2 : Inv X pins σ H1 { s1 with heap := s1.heap.push { cls := .type "dict_items", data := .fields #[.ref d] } } := I1.kept (t' := s1.toks) fun b ob q => Heap.get?_push_of_some _ q
  refine ⟨hdo.typeIs, hdo.mapOf.noDict, ?_⟩
  show wpAny _ _ (callWith cpos (.builtin "dict.items") [.ref d] [] []) _ X.xe s1
  refine method_meetsIn F.slot_dict_items F.entry_dict_items rfl (PySem.evalArgs_none ⟨rfl, hdo.typeIs, F.args_dict_items_1 _, _, meets_dict_items (mixKind X.prog X.w) d hs0, ⟨vs, hdo⟩, ?_⟩)
  refine Calls.spliced_nil ?_
  refine PySem.W.kdx_call (knd := mixKind X.prog X.w) (kvs := vs) (ep := ep) (I1.ok.hd hc) ⟨_, Heap.get?_push_size _ rfl, rfl, rfl⟩ (hat.push _) (by omega) fun h' tk acc c as hk hS hl hG hacc => ?_
  obtain ⟨H', k1, k2, k3, k4, k5, k6, J⟩ := items_laid (tk := tk) I2 hz kv hk hS hl hG hacc
  exact ⟨.ref _, H', J, rfl, q H' _ as k1 k2 k3 k4 k5 k6⟩
theorem ext_same {F : Fx} {B : Nat} {R R' : Reg} {H H' : Hp} (I : HpOk F B R H) (k : ∀ b o, H b = some o → H' b = some o) (hR : ∀ a, R a → R' a) (hN : ∀ a, R' a → R a ∨ (H a = none ∧ ∃ o, H' a = some o ∧ NoTbl o)) : Ext F R H R' H' ∧ HpOk F B R' H' := by
  have mxn : ∀ a, H a = none → ¬ F.mx a := fun a h => mx_none I.inv h
  refine ⟨⟨hR, fun a o _ h _ => k a o h, fun a r => (hN a r).elim .inl fun z => .inr (.of z.1), fun a h o e => h o (k a o e)⟩, ⟨keep_inv k I.inv, fun a r => ?_, fun a o m h nt => k a o (I.ent a o m h nt), fun a h => I.ent2 a (keep_nn k h), fun a r => ?_, I.tab.ext k, I.lim, fun a h => I.pn a fun o e => h o (k a o e)⟩⟩
  · rcases hN a r with r | ⟨z, o, ho, nt⟩
    · obtain ⟨m, o, h, nt⟩ := I.good a r
      exact ⟨m, o, k a o h, nt⟩
    · exact ⟨mxn a z, o, ho, nt⟩
  · rcases hN a r with r | ⟨z, _⟩
    · exact I.reg0 a r
    · exact .inr (I.ent2 a (.of z))
theorem rpk_pairs {F : Fx} {B : Nat} {R : Reg} {H H' : Hp} (I : HpOk F B R H) (e : Ext F R H R H') {n : Bool} : ∀ {kvs : List (Key × V)} {ds : List (D × D)} {ts : List Addr}, RpK F H R n kvs ds → Paired (fun (t : Addr) (q : Key × V) => H' t = some (.tup [kV q.1, q.2])) ts kvs → RpL F H' R n (ts.map V.ref) (ds.map fun q => .tup [q.1, q.2])
  | _, _, _, .nil, .nil => .nil
  | _, _, _, .consI a t, .cons h r => .cons (.tup (.of h) (.cons (.int _) (.cons (a.ext I e) .nil))) (rpk_pairs I e t r)
  | _, _, _, .consS a t, .cons h r => .cons (.tup (.of h) (.cons (.str _) (.cons (a.ext I e) .nil))) (rpk_pairs I e t r)
/-- list(e.items()); a dict with keys that are tuples: the empty one alone -/
theorem de_items (hc : X.calm = true) (hg : Gl X "list") (hm : X.mg "list" = none) (he : DE X E c e fe) (hbase : attributeBase e "items" X.env (eval e X.env) = eval e X.env := by rfl) (hline : (apos.endLine == cpos.line) = true := by rfl)
    (hs : starEach [.Call (.Attribute e "items" apos) [] [] cpos] X.env = (false, eval (.Call (.Attribute e "items" apos) [] [] cpos) X.env) :: starEach [] X.env := by rfl) :
    DE X E c (.Call (.Name "list" p) [.Call (.Attribute e "items" apos) [] [] cpos] [] pos) (fun ρ XQ Q => fe ρ XQ fun x => ∃ kvs, x.d = .dct kvs ∧ (∀ q ∈ kvs, ∀ ks, q.1 ≠ .tup ks) ∧ Q ⟨.lst (kvs.map fun q => .tup [q.1, q.2]), x.fr, none⟩) := by
  obtain ⟨t, pt, s⟩ := he
  refine ⟨_, pe_items2 hc pt hg hm hbase hline hs, fun F B R H σ ρ α XQ Q K hK hX hB S h k => ?_⟩
  refine s F B R H σ ρ α XQ _ _ hK hX hB S h fun v x R1 H1 e1 o1 r1 ⟨kvs, ed, hk, q⟩ => ?_
  have fin : ∀ (l : List (Key × V)), RpK F H1 R1 x.fr l kvs → ∀ (H' : Hp) (p : Addr) (ts : List Addr), (∀ b o, H1 b = some o → H' b = some o) → H1 p = none → (∀ t ∈ ts, H1 t = none) → p ∉ ts → H' p = some (.lst (ts.map V.ref)) → Paired (fun (t : Addr) (q : Key × V) => H' t = some (.tup [kV q.1, q.2])) ts l → K (.ref p) H' := fun l rl H' p ts k1 hp _ _ hl hts => by
    obtain ⟨e2, o2⟩ := ext_same (R' := R1.add p) o1 k1 (fun _ r => .inl r) fun a r => r.elim .inl fun z => .inr (by subst z; exact ⟨hp, _, hl, .lst⟩)
    obtain ⟨e3, o3⟩ := ext_same (R' := R1) o1 k1 (fun _ r => r) fun a r => .inl r
    have r3 := rpk_pairs o1 e3 rl hts
    have mv : Mv F R1 H' F (R1.add p) H' x.fr x.fr := ⟨rfl, fun _ z => z, fun _ _ r h _ => ⟨.inl r, h⟩, fun _ _ h => h, fun z _ _ _ _ _ q => q z⟩
    exact k (.ref p) ⟨.lst (kvs.map fun q => .tup [q.1, q.2]), x.fr, none⟩ (R1.add p) H' (e1.trans e2) o2 (.of (.lst hl (.inr rfl) (fun _ => o1.pn p (.of hp)) (r3.mv mv))) q
  have rf := r1.fr
  rw [ed] at rf
  generalize x.fr = n at rf fin
  cases rf with
  | dK ha _ _ rl => exact ⟨_, _, rfl, .inl ha, fin _ rl⟩
  | dT ha _ _ rl =>
    cases rl with
    | one => exact absurd rfl (hk _ List.mem_cons_self _)
    | cons => exact absurd rfl (hk _ List.mem_cons_self _)
end
end DL
namespace DL
open PySem PySem.Spec PyProof.Rows L2
theorem gIx_of {a d : D} {n n' : Bool} {v v' : Option V} {i : Int} {ds : List D} {Q : Dv → Prop} (e : a.seq = some ds) (h : atI ds i = some d) : gIx ⟨a, n, v⟩ ⟨.int i, n', v'⟩ Q = Q ⟨d, Dv.fr ⟨a, n, v⟩, none⟩ := by
  rw [gIx_seq (x := ⟨a, n, v⟩) (y := ⟨.int i, n', v'⟩) e rfl, h]
  simp
theorem gLen_of {a : D} {n : Bool} {v : Option V} {ds : List D} {Q : Dv → Prop} (e : a.seq = some ds) : gLen ⟨a, n, v⟩ Q = Q ⟨.int ds.length, true, none⟩ := gLen_seq e
theorem gCall1 {g : DC} {ρ : Ro} {XQ : XQT} {a : D} {n : Bool} {v : Option V} {Q : Dv → Prop} (h : ∀ vs, g [a] vs XQ fun r => Q { r with v := none }) : gCall g ρ XQ [⟨a, n, v⟩] Q := fun vs _ => h vs
end DL
namespace DL
open PySem PySem.Spec PyProof.Rows L2
theorem gI_of {C : Int → Int → Prop} {f : Int → Int → D} {i j : Int} {n n' : Bool} {v v' : Option V} {Q : Dv → Prop} : gI C f ⟨.int i, n, v⟩ ⟨.int j, n', v'⟩ Q = (C i j ∧ Q ⟨f i j, true, none⟩) := by
  simp [gI]
theorem bl_of {b : Bool} {Q : Bool → Prop} : (∃ c, D.bl b = D.bl c ∧ Q c) = Q b := by simp
theorem g1_of {g : Dv → (Dv → Prop) → Prop} {x : Dv} {Q : Dv → Prop} : g1 g [x] Q = g x Q := rfl
end DL
namespace DL
open PySem PySem.Spec PyProof.Rows L2
theorem g1_tup {a : D} {n : Bool} {v : Option V} {l : List D} {Q : Dv → Prop} (e : a.seq = some l) (h : Q ⟨.tup l, Dv.fr ⟨a, n, v⟩, none⟩) : g1 (fun x Q => match x.d with | .lst ds => Q ⟨.tup ds, x.fr, none⟩ | .tup ds => Q ⟨.tup ds, x.fr, none⟩ | _ => False) [⟨a, n, v⟩] Q := by
  cases a <;> first | (cases e; done) | (cases e; exact h)
theorem g1_list {a : D} {n : Bool} {v : Option V} {l : List D} {Q : Dv → Prop} (e : a.seq = some l) (h : Q ⟨.lst l, Dv.fr ⟨a, n, v⟩, none⟩) : g1 (fun x Q => match x.d with | .lst ds => Q ⟨.lst ds, x.fr, none⟩ | .tup ds => Q ⟨.lst ds, x.fr, none⟩ | _ => False) [⟨a, n, v⟩] Q := by
  cases a <;> first | (cases e; done) | (cases e; exact h)
end DL
namespace DL
open PySem PySem.Spec PyProof.Rows L2
theorem isa_seq {d : D} (h : d.good = true) : (["list", "tuple"].any fun T => D.isa T d) = d.seq.isSome := by
  cases d <;> first | rfl | (simp [D.good] at h)
theorem gEq_int {b : Bool} {i j : Int} {n n' : Bool} {v v' : Option V} {Q : Dv → Prop} : gEq b ⟨.int i, n, v⟩ ⟨.int j, n', v'⟩ Q = Q ⟨.bl (if b then !(i == j) else i == j), true, none⟩ := by
  simp [gEq, D.shp, D.pln, D.dep, D.eqv]
theorem isa_int (d : D) : D.isa "int" d = (match d with | .int _ => true | .bl _ => true | _ => false) := by
  cases d <;> rfl
theorem isa_bool (d : D) : D.isa "bool" d = (match d with | .bl _ => true | _ => false) := by
  cases d <;> rfl
end DL
namespace DL
open PySem PySem.Spec PyProof.Rows L2
/-- a loop, turn by turn -/
theorem for_idx {gt : TDG} {gb : TDS} {N : DEnds} {XQ : XQT} (Inv : Nat → Ro → Prop) : ∀ (xs : List Dv) (n : Nat) (ρ : Ro), Inv n ρ →
    (∀ i x, xs[i]? = some x → ∀ ρ, Inv (n + i) ρ → ∀ K : Ro → Prop, (∀ ρ', Inv (n + i + 1) ρ' → K ρ') → gt x ρ fun ρ' => gb { nx := K, rt := N.rt, bk := N.nx, ct := K } ρ' XQ) → (∀ ρ, Inv (n + xs.length) ρ → N.nx ρ) → forGo gt gb N XQ xs ρ
  | [], n, ρ, h, _, e => e ρ h
  | x :: xs, n, ρ, h, s, e => by
    refine s 0 x rfl ρ h (fun ρ' => forGo gt gb N XQ xs ρ') fun ρ' h' => ?_
    have e0 : n + (x :: xs).length = n + 1 + xs.length := by rw [List.length_cons]; omega
    refine for_idx Inv xs (n + 1) ρ' h' (fun i y hy ρ2 h2 K k => ?_) fun ρ2 h2 => e ρ2 (by rw [e0]; exact h2)
    have e1 : n + (i + 1) = n + 1 + i := by omega
    exact s (i + 1) y (by simpa using hy) ρ2 (by rw [e1]; exact h2) K fun ρ3 h3 => k ρ3 (by rw [e1] at h3; exact h3)
theorem like_good {a : D} {ds : List D} (h : a.good = true) (hx : ∀ x ∈ ds, x.good = true) (hl : ds.length ≤ 100000) : (a.like ds).good = true := by
  unfold D.like
  split <;> simp [D.good, goodL_of hx, hl]
theorem gAdd_int {i j : Int} {n n' : Bool} {v v' : Option V} {Q : Dv → Prop} : gAdd ⟨.int i, n, v⟩ ⟨.int j, n', v'⟩ Q = Q ⟨.int (i + j), true, none⟩ := rfl
end DL
namespace DL
open PySem PySem.Spec PyProof.Rows L2
theorem fnd_none {P : Program} {w : World} {K : PySem.W.Frag} {mg : Str → Option Value} {base : Heap} {k cost : Nat} {f : Addr} {fd : FuncData} {ps : List Str} {g : DC} (h : ∀ ds vs XQ Q, ¬ g ds vs XQ Q) : FnD P w K mg base k f fd ps cost g :=
  ⟨fun vs H Q E h => h.1, fun A outer s H args us vs Q E _ _ _ _ ⟨_, R, st, L, B, ds, XQ, QD, _, _, _, q, _⟩ => (h ds vs XQ QD q).elim⟩
/-- draws within a recursion -/
def costL : Nat → Nat
  | 0 => 0
  | k + 1 => BIG * costL k + 10
def cost0 : Nat → Nat := fun _ => 0
end DL
namespace DL
open PySem PySem.Spec PyProof.Rows L2
theorem rgD_len {lo : Int} {n : Nat} : (rgD lo n).length = n := by simp [rgD]
theorem rgD_get {lo : Int} {n i : Nat} {x : Dv} (h : (rgD lo n)[i]? = some x) : i < n ∧ x = ⟨.int (lo + i), true, none⟩ := by
  have hl := (List.getElem?_eq_some_iff.mp h).1
  rw [rgD_len] at hl
  refine ⟨hl, ?_⟩
  unfold rgD at h
  rw [List.getElem?_map, List.getElem?_range hl] at h
  exact (Option.some.inj h).symm
theorem gEq_bl {b : Bool} {i j : Bool} {n n' : Bool} {v v' : Option V} {Q : Dv → Prop} : gEq b ⟨.bl i, n, v⟩ ⟨.bl j, n', v'⟩ Q = Q ⟨.bl (if b then !(i == j) else i == j), true, none⟩ := by
  simp [gEq, D.shp, D.pln, D.dep, D.eqv]
theorem gEq_str {b : Bool} {i j : Str} {n n' : Bool} {v v' : Option V} {Q : Dv → Prop} (hi : PyData.strOk i = true) (hj : PyData.strOk j = true) : gEq b ⟨.str i, n, v⟩ ⟨.str j, n', v'⟩ Q = Q ⟨.bl (if b then !(i == j) else i == j), true, none⟩ := by
  simp [gEq, D.shp, D.pln, D.dep, D.eqv, hi, hj]
mutual
/-- dicts: empty ones alone -/
def D.smp : D → Bool
  | .lst xs => D.smpL xs
  | .tup xs => D.smpL xs
  | .dct kvs => kvs.isEmpty
  | _ => true
def D.smpL : List D → Bool
  | [] => true
  | x :: xs => D.smp x && D.smpL xs
end
theorem smpL_mem : ∀ {xs : List D}, D.smpL xs = true → ∀ x ∈ xs, x.smp = true
  | [], _, _, h => by cases h
  | y :: ys, h, x, hx => by
    simp only [D.smpL, Bool.and_eq_true] at h
    rcases List.mem_cons.mp hx with rfl | hx
    · exact h.1
    · exact smpL_mem h.2 x hx
theorem smpL_of : ∀ {xs : List D}, (∀ x ∈ xs, x.smp = true) → D.smpL xs = true
  | [], _ => rfl
  | y :: ys, h => by
    simp only [D.smpL, Bool.and_eq_true]
    exact ⟨h y List.mem_cons_self, smpL_of fun x hx => h x (List.mem_cons_of_mem _ hx)⟩
mutual
/-- how deep a comparison goes -/
def D.rnk : D → Nat
  | .lst xs => D.rnkL xs + 1
  | .tup xs => D.rnkL xs + 1
  | .dct _ => 2
  | _ => 0
def D.rnkL : List D → Nat
  | [] => 0
  | x :: xs => max (D.rnk x) (D.rnkL xs)
end
theorem rnkL_mem : ∀ {xs : List D} {k : Nat}, D.rnkL xs < k → ∀ x ∈ xs, x.rnk < k
  | [], _, _, _, h => by cases h
  | y :: ys, k, h, x, hx => by
    simp only [D.rnkL] at h
    rcases List.mem_cons.mp hx with rfl | hx
    · omega
    · exact rnkL_mem (by omega) x hx
theorem rnkL_of : ∀ {xs : List D} {k : Nat}, (∀ x ∈ xs, x.rnk ≤ k) → D.rnkL xs ≤ k
  | [], _, _ => Nat.zero_le _
  | y :: ys, k, h => by
    simp only [D.rnkL]
    have h1 := h y List.mem_cons_self
    have h2 := rnkL_of (xs := ys) (k := k) fun x hx => h x (List.mem_cons_of_mem _ hx)
    omega
theorem seq_rnk {d : D} {xs : List D} (e : d.seq = some xs) : d.rnk = D.rnkL xs + 1 := by
  cases d <;> first | (cases e; rfl) | (cases e; done)
theorem seq_smp {d : D} {xs : List D} (e : d.seq = some xs) : d.smp = D.smpL xs := by
  cases d <;> first | (cases e; rfl) | (cases e; done)
end DL
namespace DL
open PySem PySem.Spec PyProof.Rows L2
/-- a range: it stays walkable whatever is frozen -/
def DIr (X : Cx) (E : XK) (c : Nat) (tg iter : Expr) (f : TDs) : Prop := ∃ wi : TI, PI X tg iter wi ∧ ∀ F B R H σ ρ α XQ Q (K : It → Hp → Prop), F.K = X.K → XLink F E XQ → B + c ≤ F.L → StOk F B R H σ ρ α → f ρ XQ Q →
  (∀ J xs R' H', Ext F R H R' H' → HpOk F (B + c) R' H' → Q xs → (∀ R2, Walks F R2 H' J xs) → K J H') → wi σ H K
section
variable {X : Cx} {E : XK} {c ca cb cc ci : Nat} {a b e tg iter : Expr} {es : List Expr} {fa fb fe : TD} {fi : TDs} {fs : TDs} {pos p : Pos} {x : Str}
theorem dir_range1 {p2 : Pos} (hg : Gl X "range") (hm : X.mg "range" = none) (ha : DA X E c [a] fs) (hs : starEach [a] X.env = [(false, eval a X.env)] := by rfl) :
    DIr X E c tg (.Call (.Name "range" p) [a] [] p2) (fun ρ XQ Q => fs ρ XQ fun xs => match xs with | [x] => (match x.d with | .int j => -(2 ^ 62) ≤ j ∧ j < 2 ^ 62 ∧ Q (rgD 0 j.toNat) | _ => False) | _ => False) := by
  obtain ⟨t, pt, s⟩ := ha
  refine ⟨_, pi_range1 hg hm pt hs, fun F B R H σ ρ α XQ Q K hK hX hB S h k => ?_⟩
  refine s F B R H σ ρ α XQ _ _ hK hX hB S h fun vs xs R' H' e' o' r' q' => ?_
  match xs, vs, r', q' with
  | [⟨d, n, vo⟩], [v], .cons r1 .nil, q' =>
    cases d <;> try exact q'.elim
    have r2 := r1.1
    cases r2
    exact ⟨_, rfl, q'.1, q'.2.1, k _ _ R' H' e' o' q'.2.2 fun _ => walks_range⟩
theorem dir_range2 {p2 : Pos} (hg : Gl X "range") (hm : X.mg "range" = none) (ha : DA X E c [a, b] fs) (hs : starEach [a, b] X.env = [(false, eval a X.env), (false, eval b X.env)] := by rfl) (hs2 : starEach [b] X.env = [(false, eval b X.env)] := by rfl) :
    DIr X E c tg (.Call (.Name "range" p) [a, b] [] p2) (fun ρ XQ Q => fs ρ XQ fun xs => match xs with | [x, y] => (match x.d, y.d with | .int i, .int j => (-(2 ^ 62) ≤ i ∧ i < 2 ^ 62 ∧ -(2 ^ 62) ≤ j ∧ j < 2 ^ 62) ∧ Q (rgD i (j - i).toNat) | _, _ => False) | _ => False) := by
  obtain ⟨t, pt, s⟩ := ha
  refine ⟨_, pi_range2 hg hm pt hs hs2, fun F B R H σ ρ α XQ Q K hK hX hB S h k => ?_⟩
  refine s F B R H σ ρ α XQ _ _ hK hX hB S h fun vs xs R' H' e' o' r' q' => ?_
  match xs, vs, r', q' with
  | [⟨d, n, vo⟩, ⟨d2, n2, vo2⟩], [v, u], .cons r1 (.cons r2 .nil), q' =>
    cases d <;> cases d2 <;> try exact q'.elim
    have z1 := r1.1
    have z2 := r2.1
    cases z1; cases z2
    exact ⟨_, _, rfl, q'.1, k _ _ R' H' e' o' q'.2 fun _ => walks_range⟩
/-- for over a range whose bounds read own slots: these are own again behind the bounds -/
theorem ds_forR (l : List Nat) {l2 : List Nat} {body : List Stmt} {gt : TDG} {gb : TDS} (hp : PassesOwn (model X.prog X.w) X.A X.env X.xe) (hc : X.calm = true) (hi : DIr X E ci tg iter fi) (hg : DG X l2 tg gt) (hb : DSs X E cb body gb)
    (hs : ∀ x, foldedSetIterable iter X.env x = pure x := by intro _; rfl) :
    DS X E (ci + BIG * cb) (.For tg iter body [] pos) (fun N ρ XQ => fi (frz l ρ) XQ fun xs => (cb = 0 ∨ xs.length ≤ BIG) ∧ forGo gt gb N XQ xs ρ) := by
  obtain ⟨wi, pi, si⟩ := hi
  obtain ⟨tt, pt, st⟩ := hg
  obtain ⟨tb, pb, sb⟩ := hb
  refine ⟨_, ps_for hp hc pi pt pb hs, fun F B R H σ ρ α XQ N K hK hX hB S h k => ?_⟩
  obtain ⟨R1, S1, h1⟩ := S.frzs l
  refine si F B R1 H σ (frz l ρ) α XQ _ _ hK hX (by omega) S1 h fun J xs R0 H2 e2 o2 ⟨hz, q⟩ w0 => ?_
  obtain ⟨S2, z2⟩ := S.back h1 e2 o2
  generalize (fun a => R0 a ∧ (R a ∨ Nn H a)) = R2 at S2 z2
  have w := w0 R2
  have le : ∀ i, i ≤ xs.length → i * cb ≤ BIG * cb := fun i hi => by
    rcases hz with hz | hz
    · rw [hz]; simp
    · exact Nat.mul_le_mul_right _ (Nat.le_trans hi hz)
  refine ⟨fun i m σ' H' => m = xs.length - i ∧ i ≤ xs.length ∧ ∃ R' ρ' α', Fz F R2 H2 R' H' ∧ StOk F (B + ci + i * cb) R' H' σ' ρ' α' ∧ forGo gt gb N XQ (xs.drop i) ρ', ⟨_, rfl, Nat.zero_le _, R2, ρ, α, .refl, by simpa using S2, by simpa using q⟩, ?_⟩
  rintro i m σ' H' ⟨rfl, hi, R', ρ', α', z, S', q⟩
  by_cases hlt : i < xs.length
  · refine .inr ?_
    have hx : xs[i]? = some xs[i] := by simp [hlt]
    obtain ⟨go, yl⟩ := (w i _ R' H' z S'.hp).2 _ hx
    rw [List.drop_eq_getElem_cons hlt] at q
    refine ⟨go, fun σ2 H2' => ∃ R'' ρ'' α'', Fz F R2 H2 R'' H2' ∧ StOk F (B + ci + (i + 1) * cb) R'' H2' σ2 ρ'' α'' ∧ forGo gt gb N XQ (xs.drop (i + 1)) ρ'', fun σ2 H2' q2 => ⟨_, by omega, rfl, hlt, q2⟩, fun v H'' y => ?_⟩
    obtain ⟨R'', ex, ox, rx⟩ := yl v H'' y
    have z3 := z.trans (ex.fz S'.hp)
    refine st F _ R'' H'' σ' ρ' α' v _ _ _ hK (S'.ext ex ox) rx q fun σ3 ρ3 S3 _ q3 => ?_
    have e1 : B + ci + (i + 1) * cb = B + ci + i * cb + cb := by rw [Nat.add_mul, Nat.one_mul]; omega
    have e3 : B + ci + (i + 1) * cb ≤ B + (ci + BIG * cb) := by have := le (i + 1) hlt; omega
    have kk : EndsOk F (B + ci + i * cb + cb) R'' H'' N K := (k.fz (z2.trans z3)).mono (by omega)
    refine sb F _ R'' H'' σ3 ρ3 α' XQ _ _ hK hX (by omega) S3 q3 ⟨fun σ4 H4 ρ4 R4 α4 z4 S4 q4 => ⟨R4, ρ4, α4, z3.trans z4, by rw [e1]; exact S4, q4⟩, kk.rt, kk.nx, fun σ4 H4 ρ4 R4 α4 z4 S4 q4 => ⟨R4, ρ4, α4, z3.trans z4, by rw [e1]; exact S4, q4⟩⟩
  · have hl : i = xs.length := by omega
    refine .inl ⟨(w i _ R' H' z S'.hp).1 hl, ?_⟩
    rw [hl, List.drop_length] at q
    exact k.nx σ' H' ρ' R' α' (z2.trans z) (S'.mono (by have := le i hi; omega)) q
end
end DL
namespace DL
open PySem PySem.Spec PyProof.Rows L2
/-- each item gives something that stands in a relation to it -/
theorem lc_rel {gt : TDG} {ft : TDt} {fe : TD} {ρw : Ro} {Q : Dv → Prop} (Rl : Dv → D → Prop) : ∀ {xs : List Dv} {acc : List D} {n : Bool},
    (∀ x ∈ xs, ∀ (K1 : Dv → Prop) (K0 : Prop), (∀ d m v, Rl x d → K1 ⟨d, m, v⟩) → lcStep gt ft fe ρw x K1 K0) → (∀ ys m, Paired Rl xs ys → Q ⟨.lst (acc ++ ys), m, none⟩) → lcGo gt ft fe ρw Q xs acc n
  | [], acc, n, _, q => by
    have := q [] n .nil
    rwa [List.append_nil] at this
  | x :: xs, acc, n, h, q => by
    rw [lcGo_cons]
    refine h x List.mem_cons_self _ _ fun d m v r => ?_
    refine lc_rel Rl (fun y hy => h y (List.mem_cons_of_mem _ hy)) fun ys m' hp => ?_
    have := q (d :: ys) m' (.cons r hp)
    rwa [show acc ++ d :: ys = acc ++ [d] ++ ys by simp] at this
theorem lc_rel0 {gt : TDG} {ft : TDt} {fe : TD} {ρw : Ro} {Q : Dv → Prop} (Rl : Dv → D → Prop) {xs : List Dv} {n : Bool}
    (h : ∀ x ∈ xs, ∀ (K1 : Dv → Prop) (K0 : Prop), (∀ d m v, Rl x d → K1 ⟨d, m, v⟩) → lcStep gt ft fe ρw x K1 K0) (q : ∀ ys m, Paired Rl xs ys → Q ⟨.lst ys, m, none⟩) : lcGo gt ft fe ρw Q xs [] n :=
  lc_rel Rl h fun ys m hp => by simpa using q ys m hp
end DL
namespace DL
open PySem PySem.Spec PyProof.Rows L2
theorem g2I_int {f : Int → Int → Int} {i j : Int} {n n' : Bool} {v v' : Option V} {Q : Dv → Prop} : g2I f [⟨.int i, n, v⟩, ⟨.int j, n', v'⟩] Q = Q ⟨.int (f i j), true, none⟩ := rfl
end DL
namespace DL
open PySem PySem.Spec PyProof.Rows L2
theorem gIntOf {i : Int} {n : Bool} {v : Option V} {Q : Dv → Prop} : g1 (fun x Q => match x.d with | .int i => Q ⟨.int i, true, none⟩ | .bl b => Q ⟨.int (if b then 1 else 0), true, none⟩ | _ => False) [⟨.int i, n, v⟩] Q = Q ⟨.int i, true, none⟩ := rfl
end DL
namespace DL
open PySem PySem.Spec PyProof.Rows L2
theorem scaL_ints : ∀ is : List Int, D.scaL (is.map D.int) = true
  | [] => rfl
  | i :: is => by simp [D.scaL, D.sca, scaL_ints is]
theorem isIn_ints {i : Int} : ∀ is : List Int, D.isIn (.int i) (is.map D.int) = decide (i ∈ is)
  | [] => rfl
  | j :: is => by
    show (D.eqv (.int j) (.int i) || D.isIn (.int i) (is.map D.int)) = decide (i ∈ j :: is)
    rw [isIn_ints is, Bool.eq_iff_iff]
    simp only [Bool.or_eq_true, decide_eq_true_eq, List.mem_cons, D.eqv, beq_iff_eq]
    exact ⟨fun h => h.elim (fun h => .inl h.symm) .inr, fun h => h.elim (fun h => .inl h.symm) .inr⟩
theorem gIn_ints {b : Bool} {i : Int} {is : List Int} {n n' : Bool} {v v' : Option V} {Q : Dv → Prop} : gIn b ⟨.int i, n, v⟩ ⟨.tup (is.map D.int), n', v'⟩ Q = Q ⟨.bl (if b then !decide (i ∈ is) else decide (i ∈ is)), true, none⟩ := by
  unfold gIn
  simp only [D.sca, scaL_ints, true_and, isIn_ints]
end DL
namespace DL
open PySem PySem.Spec PyProof.Rows L2
section
variable {X : Cx} {E : XK} {c ca cb cc ci ct ce : Nat} {a b e tg iter elt : Expr} {es : List Expr} {fa fb fe : TD} {fi : TDs} {fs : TDs} {ft : TDt} {pos p : Pos} {x : Str}
/-- x = [..], x's own from now on -/
theorem ds_setLcO (lf : List Nat) {i : Nat} {y : Str} {py spos : Pos} {scope : Scope} {own : List (Str × Nat)} {l : List Nat} {gt : TDG} (hc : X.calm = true) (hN : X.N.Nodup) (hy : X.N[i]? = some y) (hyl : X.env.scope.names.lookup y = some .local) {ifs : List Expr}
    (hsw : swapsWith (.ListComp elt [⟨tg, iter, ifs, 0⟩] scope pos) (some (.Name y py)) spos.line X.env = pure true) (hi : DI X E ci tg iter fi) (ok : BlkOk X.N X.env.scope scope own)
    (hg : ∀ s H C cl fp, DG (X.blk s H scope (compEnvC scope cl C X.env) fp) l tg gt) (ht : ∀ s H C cl fp, DTs (X.blk s H scope (compEnvC scope cl C X.env) fp) E0 ct ifs ft) (he : ∀ s H C cl fp, DE (X.blk s H scope (compEnvC scope cl C X.env) fp) E0 ce elt fe)
    (hl : ∀ i ∈ l, i ∈ own.map (·.2)) (hs : ∀ x, foldedSetIterable iter X.env x = pure x := by intro _; rfl) :
    DS X E (ci + BIG * (ct + ce)) (.Assign [.Name y py] (.ListComp elt [⟨tg, iter, ifs, 0⟩] scope pos) spos) (fun N ρ XQ => fi (frz lf ρ) XQ fun xs => xs.length ≤ BIG ∧ lcGo gt ft fe (wipeR (frz lf ρ) (own.map (·.2))) (fun x => N.nx ((frz lf ρ).set i (.ow x.d x.n))) xs [] true) := by
  obtain ⟨wi, pi, si⟩ := hi
  have hG : ∃ g : TG, (∀ s H C cl fp, PG (X.blk s H scope (compEnvC scope cl C X.env) fp) tg g) ∧ ∀ F B R H σ ρ α v x Q (K : L2.St → Hp → Prop), F.K = X.K → StOk F B R H σ ρ α → Rp F H R x v → gt x ρ Q → (∀ σ' ρ', StOk F B R H σ' ρ' α → SetOnly l σ σ' → Q ρ' → K σ' H) → g v σ H K :=
    ⟨fun v σ H Q => ∀ s H0 C cl fp, (hg s H0 C cl fp).choose v σ H Q, fun s H C cl fp => ⟨fun pins s' σ H' v u Q I r q => (hg s H C cl fp).choose_spec.1.run pins s' σ H' v u Q I r (q s H C cl fp)⟩,
      fun F B R H σ ρ α v x Q K hK S r q k s H0 C cl fp => (hg s H0 C cl fp).choose_spec.2 F B R H σ ρ α v x Q K hK S r q k⟩
  have hT : ∃ tt : TT, (∀ s H C cl fp, PTs (X.blk s H scope (compEnvC scope cl C X.env) fp) ifs tt) ∧ ∀ F B R H σ ρ α XQ Q (K : Bool → Hp → Prop), F.K = X.K → XLink F E0 XQ → B + ct ≤ F.L → StOk F B R H σ ρ α → ft ρ XQ Q → (∀ b R' H', Ext F R H R' H' → HpOk F (B + ct) R' H' → Q b → K b H') → tt σ H K :=
    ⟨fun σ H Q => ∀ s H0 C cl fp, (ht s H0 C cl fp).choose σ H Q, fun s H C cl fp => ⟨fun pins s' σ H' Q I q => (ht s H C cl fp).choose_spec.1.run pins s' σ H' Q I (q s H C cl fp)⟩,
      fun F B R H σ ρ α XQ Q K hK hX hB S q k s H0 C cl fp => (ht s H0 C cl fp).choose_spec.2 F B R H σ ρ α XQ Q K hK hX hB S q k⟩
  have hE : ∃ te : TE, (∀ s H C cl fp, PE (X.blk s H scope (compEnvC scope cl C X.env) fp) elt te) ∧ ∀ F B R H σ ρ α XQ Q (K : VK), F.K = X.K → XLink F E0 XQ → B + ce ≤ F.L → StOk F B R H σ ρ α → fe ρ XQ Q → (∀ v x R' H', Ext F R H R' H' → HpOk F (B + ce) R' H' → Rp F H' R' x v → Q x → K v H') → te σ H K :=
    ⟨fun σ H Q => ∀ s H0 C cl fp, (he s H0 C cl fp).choose σ H Q, fun s H C cl fp => ⟨fun pins s' σ H' Q I q => (he s H C cl fp).choose_spec.1.run pins s' σ H' Q I (q s H C cl fp)⟩,
      fun F B R H σ ρ α XQ Q K hK hX hB S q k s H0 C cl fp => (he s H0 C cl fp).choose_spec.2 F B R H σ ρ α XQ Q K hK hX hB S q k⟩
  obtain ⟨g, pg, sg⟩ := hG
  obtain ⟨tt, pt, st⟩ := hT
  obtain ⟨te, pe, se⟩ := hE
  refine ⟨_, ps_setLc hc hN hy hyl hsw pi ok pg pt pe hs, fun F B R H σ ρ α XQ N K hK hX hB S h k => ?_⟩
  obtain ⟨R1, S1, h1⟩ := S.frzs lf
  refine dn_lc_of si sg st se hl F B R1 H σ (frz lf ρ) α XQ _ _ hK hX hB S1 h fun a d n R' H' e' o' w hn q => ?_
  have z : Fz F R H R1 H := ⟨h1, fun _ _ _ h _ => h, fun _ _ h => h⟩
  exact k.nx _ H' _ R' (fun j => if j = i then a else α j) (z.trans (e'.fz S1.hp)) ((S1.ext e' o').seto w fun j d n hj ej => by
    obtain ⟨o, ho, nt⟩ := (S1.ow j d n hj).2.some
    exact hn o (ej ▸ ho) nt) q
end
end DL
namespace DL
open PySem PySem.Spec PyProof.Rows L2
theorem gAdd_lst {xs ys : List D} {n n' : Bool} {v v' : Option V} {Q : Dv → Prop} : gAdd ⟨.lst xs, n, v⟩ ⟨.lst ys, n', v'⟩ Q = (xs.length + ys.length ≤ BIG ∧ Q ⟨.lst (xs ++ ys), Dv.fr ⟨.lst xs, n, v⟩ && Dv.fr ⟨.lst ys, n', v'⟩, none⟩) := rfl
theorem gAdd_tup {xs ys : List D} {n n' : Bool} {v v' : Option V} {Q : Dv → Prop} : gAdd ⟨.tup xs, n, v⟩ ⟨.tup ys, n', v'⟩ Q = (xs.length + ys.length ≤ BIG ∧ Q ⟨.tup (xs ++ ys), Dv.fr ⟨.tup xs, n, v⟩ && Dv.fr ⟨.tup ys, n', v'⟩, none⟩) := rfl
theorem cutL_len {α : Type} (xs : List α) (lo hi : Option Int) : (cutL xs lo hi).length ≤ xs.length := by
  unfold cutL
  rw [List.length_take, List.length_drop]
  omega
end DL
namespace DL
open PySem PySem.Spec PyProof.Rows L2
theorem plnL_ints : ∀ is : List Int, D.plnL (is.map D.int) = true
  | [] => rfl
  | i :: is => by
    show (D.pln (.int i) && D.plnL (is.map D.int)) = true
    rw [plnL_ints is]
    rfl
theorem depL_ints : ∀ is : List Int, D.depL (is.map D.int) = 0
  | [] => rfl
  | i :: is => by
    show max (D.dep (.int i)) (D.depL (is.map D.int)) = 0
    rw [depL_ints is]
    rfl
theorem shp_tupInts (is : List Int) : (D.tup (is.map D.int)).shp = true := by
  unfold D.shp
  simp only [D.pln, plnL_ints, D.dep, depL_ints, Bool.true_and]
  decide
theorem gEq_nil {b : Bool} {is : List Int} {n n' : Bool} {v v' : Option V} {Q : Dv → Prop} : gEq b ⟨.tup (is.map D.int), n, v⟩ ⟨.tup [], n', v'⟩ Q = Q ⟨.bl (if b then !is.isEmpty else is.isEmpty), true, none⟩ := by
  unfold gEq
  rw [show (⟨.tup (is.map D.int), n, v⟩ : Dv).d.shp = true from shp_tupInts is]
  have : D.eqv (.tup (is.map D.int)) (.tup []) = is.isEmpty := by cases is <;> rfl
  simp only [this, true_and]
  have h2 : (D.tup []).shp = true := by decide
  simp only [h2, true_and]
end DL
namespace DL
open PySem PySem.Spec PyProof.Rows L2
theorem gIn_str2 {i a b : Str} {n n' : Bool} {v v' va vb : Option V} {na nb : Bool} {fl : Bool} {Q : Dv → Prop}   : gIn false ⟨.str i, n, v⟩ ⟨.tup (List.map (fun x : Dv => x.d) [⟨.str a, na, va⟩, ⟨.str b, nb, vb⟩]), fl, v'⟩ Q = Q ⟨.bl (a == i || b == i), true, none⟩ := by
  simp [gIn, D.sca, D.scaL, D.isIn, D.eqv]
end DL

set_option Elab.async false
set_option linter.all false
namespace DL
open PySem PySem.Spec PyProof.Rows L2
/-- plain small data: rank and width -/
inductive Nic : Nat → Nat → D → Prop
  | int {i : Int} : i.natAbs ≤ 10 ^ 30 → Nic 0 1921 (.int i)
  | bl {b : Bool} : Nic 0 1921 (.bl b)
  | non : Nic 0 1921 .non
  | str {s : Str} : PyData.strOk s = true → s.length ≤ 100 → Nic 0 1921 (.str s)
  | dct : Nic 2 1921 (.dct [])
  | tup {k w l : Nat} {xs : List D} : xs.length ≤ l → l ≤ 1000 → (∀ x ∈ xs, Nic k w x) → Nic (k + 1) (l * (w + 2) + 3) (.tup xs)
  | lst {k w l : Nat} {xs : List D} : xs.length ≤ l → l ≤ 1000 → (∀ x ∈ xs, Nic k w x) → Nic (k + 1) (l * (w + 2) + 3) (.lst xs)
  | mono {k w k' w' : Nat} {x : D} : Nic k w x → k ≤ k' → w ≤ w' → Nic k' w' x
theorem rnkL_le : ∀ {xs : List D} {k : Nat}, (∀ x ∈ xs, x.rnk ≤ k) → D.rnkL xs ≤ k
  | [], _, _ => Nat.zero_le _
  | y :: ys, k, h => by
    simp only [D.rnkL]
    exact Nat.max_le.mpr ⟨h y (by simp), rnkL_le fun x hx => h x (by simp [hx])⟩
theorem depL_le : ∀ {xs : List D} {k : Nat}, (∀ x ∈ xs, x.dep ≤ k) → D.depL xs ≤ k
  | [], _, _ => Nat.zero_le _
  | y :: ys, k, h => by
    simp only [D.depL]
    exact Nat.max_le.mpr ⟨h y (by simp), depL_le fun x hx => h x (by simp [hx])⟩
theorem widL_le : ∀ {xs : List D} {w : Nat}, (∀ x ∈ xs, x.wid ≤ w) → D.widL xs ≤ xs.length * (w + 2)
  | [], _, _ => Nat.zero_le _
  | y :: ys, w, h => by
    have h1 := h y (by simp)
    have h2 := widL_le (xs := ys) (w := w) fun x hx => h x (by simp [hx])
    simp only [D.widL, List.length_cons]
    rw [Nat.succ_mul]
    omega
theorem shwL_of : ∀ {xs : List D}, (∀ x ∈ xs, x.shw = true) → D.shwL xs = true
  | [], _ => rfl
  | y :: ys, h => by
    simp only [D.shwL, Bool.and_eq_true]
    exact ⟨h y (by simp), shwL_of fun x hx => h x (by simp [hx])⟩
theorem Nic.all {k w : Nat} {x : D} (h : Nic k w x) : x.good = true ∧ x.smp = true ∧ x.shw = true ∧ x.rnk ≤ k ∧ x.dep ≤ k ∧ x.wid ≤ w := by
  induction h with
  | @int i h =>
    refine ⟨rfl, rfl, ?_, Nat.le_refl _, Nat.le_refl _, Nat.le_refl _⟩
    simp only [D.shw, decide_eq_true_eq]
    have h2 : i.natAbs < 2 ^ 1919 := Nat.lt_of_le_of_lt h (by decide +kernel)
    by_cases h0 : i.natAbs = 0
    · rw [h0]; decide
    · exact Nat.lt_trans ((Nat.log2_lt h0).mpr h2) (by decide)
  | bl => exact ⟨rfl, rfl, rfl, Nat.le_refl _, Nat.le_refl _, by simp [D.wid]⟩
  | non => exact ⟨rfl, rfl, rfl, Nat.le_refl _, Nat.le_refl _, by simp [D.wid]⟩
  | str h l =>
    refine ⟨?_, rfl, h, Nat.le_refl _, Nat.le_refl _, ?_⟩
    · simp only [D.good, h, Bool.true_and, decide_eq_true_eq]
      omega
    · simp only [D.wid]
      omega
  | dct => exact ⟨rfl, rfl, rfl, by simp [D.rnk], by simp [D.dep], by simp [D.wid]⟩
  | @tup k w l xs h1 h2 h3 ih =>
    refine ⟨?_, ?_, ?_, ?_, ?_, ?_⟩
    · simp only [D.good, Bool.and_eq_true, decide_eq_true_eq]
      exact ⟨goodL_of fun x hx => (ih x hx).1, by omega⟩
    · exact smpL_of fun x hx => (ih x hx).2.1
    · exact shwL_of fun x hx => (ih x hx).2.2.1
    · exact Nat.succ_le_succ (rnkL_le fun x hx => (ih x hx).2.2.2.1)
    · exact Nat.succ_le_succ (depL_le fun x hx => (ih x hx).2.2.2.2.1)
    · have := widL_le fun x hx => (ih x hx).2.2.2.2.2
      have := Nat.mul_le_mul_right (w + 2) h1
      simp only [D.wid]
      omega
  | @lst k w l xs h1 h2 h3 ih =>
    refine ⟨?_, ?_, ?_, ?_, ?_, ?_⟩
    · simp only [D.good, Bool.and_eq_true, decide_eq_true_eq]
      exact ⟨goodL_of fun x hx => (ih x hx).1, by omega⟩
    · exact smpL_of fun x hx => (ih x hx).2.1
    · exact shwL_of fun x hx => (ih x hx).2.2.1
    · exact Nat.succ_le_succ (rnkL_le fun x hx => (ih x hx).2.2.2.1)
    · exact Nat.succ_le_succ (depL_le fun x hx => (ih x hx).2.2.2.2.1)
    · have := widL_le fun x hx => (ih x hx).2.2.2.2.2
      have := Nat.mul_le_mul_right (w + 2) h1
      simp only [D.wid]
      omega
  | mono _ h1 h2 ih =>
    obtain ⟨a, b, c, d, e, f⟩ := ih
    exact ⟨a, b, c, by omega, by omega, by omega⟩
end DL

set_option Elab.async false
set_option linter.all false
set_option maxRecDepth 100000
set_option maxHeartbeats 4000000
/-! DL, part y: sorted of any alike data, any number of them. -/
namespace DL
open PySem PySem.Spec PyProof.Rows L2

/-- a ≤ b as sorting has it -/
abbrev leD : D → D → Bool := PySem.W.dataLe false D.pyd
/-- sorted's answer -/
def srtD (ds : List D) : List D := ds.mergeSort leD
/-- what can be sorted: alike, all tuples of at least one item, or no tuples -/
structure CanSort (ds : List D) : Prop where
  shw : D.shwL ds = true
  al : PySem.W.AllAlike (ds.map D.pyd)
  srt : PySem.W.Sortable (ds.map D.pyd)
  dep : ∀ d ∈ ds, d.dep ≤ 60
theorem each_reads {h : Heap} : ∀ {vs : List Value} {ds : List D} {as : List Addr}, ReadsAll h vs (D.pydL ds) as → PySem.W.EachIs (fun v d => ∃ as, Reads h v (D.pyd d) as) vs ds
  | vs, [], _, r => by
    cases r
    exact .nil
  | vs, d :: ds, _, r => by
    cases r with
    | cons a t => exact .cons ⟨_, a⟩ (each_reads t)
theorem each_and {α β : Type} {R S : α → β → Prop} : ∀ {as : List α} {bs : List β}, PySem.W.EachIs R as bs → PySem.W.EachIs S as bs → PySem.W.EachIs (fun a b => R a b ∧ S a b) as bs
  | _, _, .nil, .nil => .nil
  | _, _, .cons a t, .cons b u => .cons ⟨a, b⟩ (each_and t u)
theorem each_rp {F : Fx} {H : Hp} {R : Reg} {n : Bool} : ∀ {us : List V} {vs : List Value} {ds : List D}, RpL F H R n us ds → Vals us vs → PySem.W.EachIs (fun v d => ∃ u, RelV u v ∧ RpD F H R n u d) vs ds
  | _, _, _, .nil, .nil => .nil
  | _, _, _, .cons a t, .cons b u => .cons ⟨_, b, a⟩ (each_rp t u)
theorem rp_each {F : Fx} {H : Hp} {R : Reg} {n : Bool} : ∀ {vs : List Value} {ds : List D}, PySem.W.EachIs (fun v d => ∃ u, RelV u v ∧ RpD F H R n u d) vs ds → ∃ us, RpL F H R n us ds ∧ Vals us vs
  | _, _, .nil => ⟨[], .nil, .nil⟩
  | _, _, .cons ⟨u, b, a⟩ t => by
    obtain ⟨us, r, v⟩ := rp_each t
    exact ⟨u :: us, .cons a r, .cons b v⟩
def rSortD (K : PySem.W.Frag) : List V → Hp → VK → Prop := fun vs H Q => ∃ (F : Fx) (R : Reg) (n : Bool) (a : Addr) (us : List V) (ds : List D), F.K = K ∧ vs = [.ref a] ∧ SqL K H a us ∧ RpL F H R n us ds ∧ CanSort ds ∧
  ∀ us' p, RpL F H R n us' (srtD ds) → H p = none → Q (.ref p) (upd H p (.lst us'))
section
variable {X : Cx}
theorem call_sortedD (hr : Room 0 X.A) : CallR X (.builtin "sorted") (rSortD X.K) := by
  intro pins s σ H xs us Q I r h
  obtain ⟨F, R, n, a, ws, ds, hK, rfl, hs, rl, cs, q⟩ := h
  obtain ⟨its, rv, hl, hz⟩ := I.list hs
  obtain ⟨u, rfl, ru⟩ := vals1 r
  obtain rfl : u = Value.ref a := ru
  obtain ⟨as, R1, _⟩ := RpL.readsAll hK I rl cs.shw rv
  have hu := hr.units
  refine PySem.W.sorted_data (enc := D.pyd) (R := fun v d => ∃ u, RelV u v ∧ RpD F H R n u d) hl.isList (each_rp rl rv) (each_reads R1) cs.al cs.srt (by rw [← rl.len]; exact hz) (fun d hd => ?_) fun out ho e => ?_
  · have := dep_pyd d
    have := cs.dep d hd
    omega
  · obtain ⟨us', r1, r2⟩ := rp_each e
    obtain ⟨e1, he⟩ := sortedAll_at s.heap its (List.toArray out)
    have fr : H (s.heap.objs.size + 1) = none := I.hok.fresh (Nat.le_succ _)
    refine ⟨.ref (s.heap.objs.size + 1), upd H _ (.lst us'), I.laid (t' := s.toks) (fun b o e => sortedAll_old e) (Nat.le_succ _) ⟨?_, out, e1, r2, he⟩, rfl, q us' _ r1 fr⟩
    rw [r2.length, ho, ← rl.len]
    exact hz
theorem dcl_sortedD (hr : Room 0 X.A) : DCl X (.builtin "sorted") (g1 fun x Q => ∃ ds, x.d = .lst ds ∧ CanSort ds ∧ Q ⟨.lst (srtD ds), x.fr, none⟩) := dcl1 (call_sortedD hr) fun F B R H v x Q K hK I r ⟨ds, ed, cs, q⟩ k => by
  obtain ⟨d, n, vo⟩ := x
  have ed : d = .lst ds := ed
  subst ed
  obtain ⟨a, vs, rfl, ha, la⟩ := r.lstL rfl
  refine ⟨F, R, _, a, vs, ds, hK, rfl, .of ha, la, cs, fun us' p r1 hp => ?_⟩
  obtain ⟨e, o, r2⟩ := new_lst I hp r1
  exact k _ _ _ _ e o (.of r2) q
end
end DL

set_option Elab.async false
set_option linter.all false
set_option maxRecDepth 100000
set_option maxHeartbeats 4000000
/-! DL, part z: dicts asked by keys, dict(pairs), x[i] = e, sums, texts cut and joined, attributes, loops that draw. -/
namespace DL
open PySem PySem.Spec PyProof.Rows L2

/-! ### what a dict holds at a key -/
def isKey : D → Key → Bool
  | .int i, .inl j => decide (i = j)
  | .str x, .inr y => decide (x = y)
  | _, _ => false
def getK (kvs : List (D × D)) (k : Key) : Option D := (kvs.find? fun p => isKey p.1 k).map (·.2)
def keyD : Key → D
  | .inl i => .int i
  | .inr x => .str x
theorem isKey_keyD (k j : Key) : isKey (keyD k) j = decide (k = j) := by
  cases k <;> cases j <;> simp [isKey, keyD]
theorem getK_cons {p : D × D} {r : List (D × D)} {k : Key} : getK (p :: r) k = if isKey p.1 k = true then some p.2 else getK r k := by
  unfold getK
  rw [List.find?_cons]
  cases h : isKey p.1 k <;> rfl
theorem getK_rp {F : Fx} {H : Hp} {R : Reg} {n : Bool} (k : Key) : ∀ {kvs : List (Key × V)} {ds : List (D × D)}, RpK F H R n kvs ds → (valV kvs k = none ∧ getK ds k = none) ∨ ∃ v d, valV kvs k = some v ∧ getK ds k = some d ∧ RpD F H R n v d
  | _, _, .nil => .inl ⟨rfl, rfl⟩
  | _, _, .consI (i := i) (v := v) (d := d) a t => by
    by_cases e : (Sum.inl i : Key) = k
    · exact .inr ⟨v, d, valV_pos e, by rw [getK_cons, if_pos (by subst e; simp [isKey])], a⟩
    · have e2 : isKey (.int i) k = false := by
        cases k with
        | inl j => simpa [isKey] using fun z => e (by rw [z])
        | inr y => rfl
      rw [valV_neg e, getK_cons, if_neg (by rw [e2]; decide)]
      exact getK_rp k t
  | _, _, .consS (x := x) (v := v) (d := d) a t => by
    by_cases e : (Sum.inr x : Key) = k
    · exact .inr ⟨v, d, valV_pos e, by rw [getK_cons, if_pos (by subst e; simp [isKey])], a⟩
    · have e2 : isKey (.str x) k = false := by
        cases k with
        | inl j => rfl
        | inr y => simpa [isKey] using fun z => e (by rw [z])
      rw [valV_neg e, getK_cons, if_neg (by rw [e2]; decide)]
      exact getK_rp k t
theorem getK_rpT {F : Fx} {H : Hp} {R : Reg} {n : Bool} (k : Key) : ∀ {kvs : List (List Key × V)} {ds : List (D × D)}, RpT F H R n kvs ds → getK ds k = none
  | _, _, .one _ _ => by
    rw [getK_cons, if_neg (by cases k <;> simp [isKey])]
    rfl
  | _, _, .cons _ _ t => by
    rw [getK_cons, if_neg (by cases k <;> simp [isKey])]
    exact getK_rpT k t
/-- d[k] -/
def gGet : Dv → Dv → (Dv → Prop) → Prop := fun x y Q => ∃ kvs k d, x.d = .dct kvs ∧ y.d = keyD k ∧ getK kvs k = some d ∧ Q ⟨d, x.fr, none⟩
/-- k in d -/
def gHas (neg : Bool) : Dv → Dv → (Dv → Prop) → Prop := fun y x Q => ∃ kvs k, x.d = .dct kvs ∧ (∀ p ∈ kvs, ∃ j, p.1 = keyD j) ∧ y.d = keyD k ∧ Q ⟨.bl (if neg then !(getK kvs k).isSome else (getK kvs k).isSome), true, none⟩
theorem rp_key {F : Fx} {H : Hp} {R : Reg} {n : Bool} {v : V} {k : Key} (h : RpD F H R n v (keyD k)) : v = kV k := by
  cases k with
  | inl i => cases h; rfl
  | inr x => cases h; rfl
section
variable {X : Cx} {E : XK} {c ca cb cc : Nat} {a b e : Expr} {es : List Expr} {fa fb fe : TD} {fs : TDs} {pos p rp : Pos} {x : Str}
theorem de_dget (hu0 : X.A.units + 64 < cLine) (ha : DE X E ca a fa) (hb : DE X E cb b fb) (hs : NoSl b) : DE X E (ca + cb) (.Subscript a b pos) (fun ρ XQ Q => fa ρ XQ fun x => fb ρ XQ fun y => gGet x y Q) := by
  have hu : X.A.units + 1 < cLine := by omega
  obtain ⟨ta, pa, sa⟩ := ha
  obtain ⟨tb, pb, sb⟩ := hb
  refine ⟨_, pe_dget hu pa pb hs, fun F B R H σ ρ α XQ Q K hK hX hB S h k => ?_⟩
  refine sa F B R H σ ρ α XQ _ _ hK hX (by omega) S h fun v x R1 H1 e1 o1 r1 q1 => ?_
  refine sb F (B + ca) R1 H1 σ ρ α XQ _ _ hK hX (by omega) (S.ext e1 o1) q1 fun u y R2 H2 e2 o2 r2 ⟨kvs, j, d, ex, ey, eg, q⟩ => ?_
  obtain ⟨dx, nx, vx⟩ := x
  obtain ⟨dy, ny, vy⟩ := y
  have ex : dx = .dct kvs := ex
  have ey : dy = keyD j := ey
  subst ex ey
  have r3 := (r1.ext o1 e2).fr
  have eu := rp_key r2.1
  subst eu
  generalize hf : Dv.fr ⟨D.dct kvs, nx, vx⟩ = f at r3 q
  cases r3 with
  | dK hh hr hw l =>
    rcases getK_rp j l with ⟨_, z⟩ | ⟨w, d', h1, h2, r⟩
    · rw [eg] at z; cases z
    · rw [eg] at h2
      cases h2
      exact ⟨_, w, rfl, h1 ▸ DGet.k hh, k w ⟨d, f, none⟩ R2 H2 (e1.trans e2) (by rw [← Nat.add_assoc]; exact o2) (.of r) q⟩
  | dT hh hr hw l => rw [getK_rpT j l] at eg; cases eg
theorem has_core {neg : Bool} {ta tb : TE} (sa : ∀ F B R H σ ρ α XQ Q (K : VK), F.K = X.K → XLink F E XQ → B + ca ≤ F.L → StOk F B R H σ ρ α → fa ρ XQ Q → (∀ v x R' H', Ext F R H R' H' → HpOk F (B + ca) R' H' → Rp F H' R' x v → Q x → K v H') → ta σ H K)
    (sb : ∀ F B R H σ ρ α XQ Q (K : VK), F.K = X.K → XLink F E XQ → B + cb ≤ F.L → StOk F B R H σ ρ α → fb ρ XQ Q → (∀ v x R' H', Ext F R H R' H' → HpOk F (B + cb) R' H' → Rp F H' R' x v → Q x → K v H') → tb σ H K) :
    ∀ (F : Fx) B R H σ ρ α XQ Q (K : VK), F.K = X.K → XLink F E XQ → B + (ca + cb) ≤ F.L → StOk F B R H σ ρ α → (fa ρ XQ fun x => fb ρ XQ fun y => gHas neg x y Q) →
      (∀ v x R' H', Ext F R H R' H' → HpOk F (B + (ca + cb)) R' H' → Rp F H' R' x v → Q x → K v H') → ta σ H fun y H1 => tb σ H1 fun x H2 => ∃ a o, x = .ref a ∧ DGet H2 a y o ∧ K (.bl (if neg then !o.isSome else o.isSome)) H2 := by
    intro F B R H σ ρ α XQ Q K hK hX hB S h k
    refine sa F B R H σ ρ α XQ _ _ hK hX (by omega) S h fun v y R1 H1 e1 o1 r1 q1 => ?_
    refine sb F (B + ca) R1 H1 σ ρ α XQ _ _ hK hX (by omega) (S.ext e1 o1) q1 fun u x R2 H2 e2 o2 r2 ⟨kvs, j, ex, ks, ey, q⟩ => ?_
    obtain ⟨dx, nx, vx⟩ := x
    obtain ⟨dy, ny, vy⟩ := y
    have ex : dx = .dct kvs := ex
    have ey : dy = keyD j := ey
    subst ex ey
    have ev := rp_key r1.1
    subst ev
    have r3 := r2.1
    cases r3 with
    | @dK _ _ kvs0 _ hh hr hw l =>
      refine ⟨_, _, rfl, DGet.k (k := j) hh, ?_⟩
      have e : (valV kvs0 j).isSome = (getK kvs j).isSome := by
        rcases getK_rp j l with ⟨z1, z2⟩ | ⟨w, d', z1, z2, _⟩
        · rw [z1, z2]; rfl
        · rw [z1, z2]; rfl
      rw [e]
      exact k _ _ R2 H2 (e1.trans e2) (by rw [← Nat.add_assoc]; exact o2) (.of (.bl _)) q
    | dT hh hr hw l =>
      cases l with
      | one z1 z2 =>
        obtain ⟨i, ei⟩ := ks _ List.mem_cons_self
        cases i with
        | inl i => exact D.noConfusion ei
        | inr i => exact D.noConfusion ei
      | cons z1 z2 z3 =>
        obtain ⟨i, ei⟩ := ks _ List.mem_cons_self
        cases i with
        | inl i => exact D.noConfusion ei
        | inr i => exact D.noConfusion ei
theorem de_has {neg : Bool} (op : CmpOp) (hop : op = if neg = true then CmpOp.NotIn else CmpOp.In) (hu0 : X.A.units + 64 < cLine) (ha : DE X E ca a fa) (hb : DE X E cb b fb) (hm : behindInMarks op b = false) : DE X E (ca + cb) (.Compare a [op] [b] pos) (fun ρ XQ Q => fa ρ XQ fun x => fb ρ XQ fun y => gHas neg x y Q) := by
  have hu : X.A.units + 1 < cLine := by omega
  obtain ⟨ta, pa, sa⟩ := ha
  obtain ⟨tb, pb, sb⟩ := hb
  subst hop
  cases neg with
  | true => exact ⟨_, pe_cmp (pc_dnotin hu pa pb) hm, fun F B R H σ ρ α XQ Q K hK hX hB S h k => has_core sa sb F B R H σ ρ α XQ Q K hK hX hB S h k⟩
  | false => exact ⟨_, pe_cmp (pc_din hu pa pb) hm, fun F B R H σ ρ α XQ Q K hK hX hB S h k => has_core sa sb F B R H σ ρ α XQ Q K hK hX hB S h k⟩
theorem dt_has {neg : Bool} (op : CmpOp) (hop : op = if neg = true then CmpOp.NotIn else CmpOp.In) (hu0 : X.A.units + 64 < cLine) (ha : DE X E ca a fa) (hb : DE X E cb b fb) (hm : behindInMarks op b = false) : DT X E (ca + cb) (.Compare a [op] [b] pos) (fun ρ XQ Q => fa ρ XQ fun x => fb ρ XQ fun y => gHas neg x y fun z => ∃ c, z.d = .bl c ∧ Q c) := by
  have hu : X.A.units + 1 < cLine := by omega
  obtain ⟨ta, pa, sa⟩ := ha
  obtain ⟨tb, pb, sb⟩ := hb
  have fin : ∀ {F : Fx} {B : Nat} {R' : Reg} {H' : Hp} {v : V} {x : Dv} {Q : Bool → Prop} {K : Bool → Hp → Prop}, Rp F H' R' x v → (∃ c, x.d = .bl c ∧ Q c) → (∀ b, Q b → K b H') → ∃ b, v = .bl b ∧ K b H' := fun {F B R' H' v x Q K} r ⟨c, e, q⟩ k => by
    have r4 := r.1
    rw [e] at r4
    cases r4
    exact ⟨c, rfl, k c q⟩
  subst hop
  cases neg with
  | true => exact ⟨_, pt_cmp (pc_dnotin hu pa pb) hm, fun F B R H σ ρ α XQ Q K hK hX hB S h k => has_core (neg := true) sa sb F B R H σ ρ α XQ _ _ hK hX hB S h fun v x R' H' e o r q => fin (B := B) r q fun b qb => k b R' H' e o qb⟩
  | false => exact ⟨_, pt_cmp (pc_din hu pa pb) hm, fun F B R H σ ρ α XQ Q K hK hX hB S h k => has_core (neg := false) sa sb F B R H σ ρ α XQ _ _ hK hX hB S h fun v x R' H' e o r q => fin (B := B) r q fun b qb => k b R' H' e o qb⟩

/-! ### dict([(k, v), ..]), the keys unlike -/
def pairD (p : Key × D) : D := .tup [keyD p.1, p.2]
def dctD (kd : List (Key × D)) : D := .dct (kd.map fun p => (keyD p.1, p.2))
theorem merge_new : ∀ (more acc : List (Key × V)), ((acc ++ more).map (·.1)).Nodup → mergeK acc more = acc ++ more
  | [], acc, _ => by simp [mergeK]
  | (k, v) :: r, acc, h => by
    have h1 : putK acc k v = acc ++ [(k, v)] := by
      unfold putK
      rw [if_neg]
      intro z
      obtain ⟨q, hq, hk⟩ := List.any_eq_true.mp z
      have hk := of_decide_eq_true hk
      rw [List.map_append, List.nodup_append] at h
      exact h.2.2 q.1 (List.mem_map.mpr ⟨q, hq, rfl⟩) k (by simp) hk
    show mergeK (putK acc k v) r = _
    rw [h1, merge_new r (acc ++ [(k, v)]) (by simpa using h)]
    simp
theorem pairs_rp {F : Fx} {H : Hp} {R : Reg} {n : Bool} : ∀ {kd : List (Key × D)} {vs : List V}, RpL F H R n vs (kd.map pairD) → ∃ (ps : List Addr) (kvs : List (Key × V)), vs = ps.map V.ref ∧ Paired (fun p kv => SqT F.K H p [kV kv.1, kv.2]) ps kvs ∧ RpK F H R n kvs (kd.map fun p => (keyD p.1, p.2)) ∧ kvs.map (·.1) = kd.map (·.1)
  | [], _, h => by
    cases h
    exact ⟨[], [], rfl, .nil, .nil, rfl⟩
  | (k, d) :: kd, _, h => by
    cases h with
    | cons a t =>
      obtain ⟨ps, kvs, rfl, h2, h3, h4⟩ := pairs_rp t
      cases a with
      | tup hs l =>
        cases l with
        | cons b l =>
        cases l with
        | cons c l =>
        cases l
        have eb := rp_key b
        subst eb
        refine ⟨_ :: ps, (k, _) :: kvs, rfl, .cons hs h2, ?_, by simp [h4]⟩
        cases k with
        | inl i => exact .consI c h3
        | inr x => exact .consS c h3
theorem dcl_dictP (hcalm : X.calm = true) : DCl X (.type "dict") (g1 fun x Q => ∃ kd, x.d = .lst (kd.map pairD) ∧ (kd.map (·.1)).Nodup ∧ Q ⟨dctD kd, x.fr, none⟩) := dcl1 (call_dictP hcalm) fun F B R H v x Q K hK I r ⟨kd, ed, nd, q⟩ k => by
  obtain ⟨d, n, vo⟩ := x
  have ed : d = .lst (kd.map pairD) := ed
  subst ed
  obtain ⟨a, vs, rfl, ha, la⟩ := r.lstL rfl
  obtain ⟨ps, kvs, rfl, h2, h3, h4⟩ := pairs_rp la
  refine ⟨a, ps, kvs, rfl, .of ha, hK ▸ h2, fun p hp => ?_⟩
  rw [merge_new kvs [] (by simpa [h4] using nd)]
  have e2 : Ext F R H (R.add p) (upd H p (.dK kvs)) := .new1 hp
  have o2 : HpOk F B (R.add p) (upd H p (.dK kvs)) := I.new hp .dK
  have l2 : RpK F (upd H p (.dK kvs)) (R.add p) _ kvs _ := h3.ext I e2
  exact k (.ref p) ⟨dctD kd, Dv.fr ⟨.lst (kd.map pairD), n, vo⟩, none⟩ _ _ e2 o2 ⟨.dK upd_same (.inr rfl) (fun _ => I.pn p (.of hp)) l2, fun _ z => nomatch z⟩ q

/-! ### sums, texts -/
theorem dcl_sum (hc : X.calm = true) : DCl X (.builtin "sum") (g1 fun x Q => ∃ ns : List Int, x.d = .lst (ns.map D.int) ∧ Q ⟨.int ns.sum, true, none⟩) := dcl1 (cr_sum hc) fun F B R H v x Q K hK I r ⟨ns, ed, q⟩ k => by
  obtain ⟨d, n, vo⟩ := x
  have ed : d = .lst (ns.map D.int) := ed
  subst ed
  obtain ⟨a, vs, rfl, ha, la⟩ := r.lstL rfl
  have e := rpl_intsI la
  subst e
  exact ⟨a, ns, rfl, .of ha, k _ _ R H .refl I (.of (.int _)) q⟩
theorem rpl_strsI {F : Fx} {H : Hp} {R : Reg} {n : Bool} : ∀ {ns : List Str} {us : List V}, RpL F H R n us (ns.map D.str) → us = ns.map V.str
  | [], _, h => by cases h; rfl
  | i :: ns, _, h => by
    cases h with
    | cons a t => cases a; rw [rpl_strsI t]; rfl
theorem de_join {o : Expr} {apos : Pos} (ha : DE X E ca o fa) (he : DE X E c e fe) (hs : starEach [e] X.env = [(false, eval e X.env)] := by rfl) (hbase : attributeBase o "join" X.env (eval o X.env) = eval o X.env := by rfl) (hline : (apos.endLine == pos.line) = true := by rfl) :
    DE X E (ca + c) (.Call (.Attribute o "join" apos) [e] [] pos) (fun ρ XQ Q => fa ρ XQ fun x => ∃ z : Str, x.d = .str z ∧ fe ρ XQ fun y => ∃ ys : List Str, y.d = .lst (ys.map D.str) ∧ (ys.map (·.length)).sum + ys.length * z.length ≤ 16777216 ∧ Q ⟨.str (Txt.join z ys), true, none⟩) := by
  obtain ⟨ta, pa, sa⟩ := ha
  obtain ⟨tb, pb, sb⟩ := he
  refine ⟨_, pe_join pa pb hs hbase hline, fun F B R H σ ρ α XQ Q K hK hX hB S h k => ?_⟩
  refine sa F B R H σ ρ α XQ _ _ hK hX (by omega) S h fun v x R1 H1 e1 o1 r1 ⟨z, ex, q1⟩ => ?_
  obtain ⟨dx, nx, vx⟩ := x
  have ex : dx = .str z := ex
  subst ex
  have r3 := r1.1
  cases r3
  refine ⟨⟨z, rfl⟩, sb F (B + ca) R1 H1 σ ρ α XQ _ _ hK hX (by omega) (S.ext e1 o1) q1 fun u y R2 H2 e2 o2 r2 ⟨ys, ey, hz, q⟩ => ?_⟩
  obtain ⟨dy, ny, vy⟩ := y
  have ey : dy = .lst (ys.map D.str) := ey
  subst ey
  obtain ⟨b, us, rfl, hb, lb⟩ := r2.lstL rfl
  have e := rpl_strsI lb
  subst e
  exact ⟨z, b, ys, rfl, rfl, .inl (.of hb), hz, k _ ⟨.str _, true, none⟩ R2 H2 (e1.trans e2) (by rw [← Nat.add_assoc]; exact o2) (.of (.str _)) q⟩
/-- a text cut -/
theorem de_sliceS {lo hi : Option Expr} {fl fh : TDo} {p2 : Pos} (ha : DE X E ca a fa) (hl : DO X E cb lo fl) (hh : DO X E cc hi fh) : DE X E (ca + cb + cc) (.Subscript a (.Slice lo hi none p2) pos) (fun ρ XQ Q => fa ρ XQ fun x => fl ρ XQ fun l => fh ρ XQ fun h => ∃ z : Str, x.d = .str z ∧ z.length ≤ BIG ∧ Q ⟨.str (cutS z l h), true, none⟩) := by
  obtain ⟨ta, pa, sa⟩ := ha
  obtain ⟨tl, pl, sl⟩ := hl
  obtain ⟨th, ph, sh⟩ := hh
  refine ⟨_, pe_slice sl_str pa pl ph, fun F B R H σ ρ α XQ Q K hK hX hB S h k => ?_⟩
  refine sa F B R H σ ρ α XQ _ _ hK hX (by omega) S h fun v x R1 H1 e1 o1 r1 q1 => ?_
  refine sl F (B + ca) R1 H1 σ ρ α XQ _ _ hK hX (by omega) (S.ext e1 o1) q1 fun lo R2 H2 e2 o2 q2 => ?_
  refine sh F (B + ca + cb) R2 H2 σ ρ α XQ _ _ hK hX (by omega) ((S.ext e1 o1).ext e2 o2) q2 fun hi R3 H3 e3 o3 ⟨z, ex, hz, q3⟩ => ?_
  obtain ⟨d, n, vo⟩ := x
  have ex : d = .str z := ex
  subst ex
  have r3 := r1.1
  cases r3
  have o3' : HpOk F (B + (ca + cb + cc)) R3 H3 := by
    have : B + (ca + cb + cc) = B + ca + cb + cc := by omega
    rw [this]; exact o3
  exact ⟨z, rfl, le_line hz, k _ ⟨.str _, true, none⟩ R3 H3 ((e1.trans e2).trans e3) o3' (.of (.str _)) q3⟩

/-! ### an attribute of an own instance -/
/-- never reached -/
theorem ds_never {st : Stmt} : DS X E 0 st (fun _ _ _ => False) := ⟨fun _ _ _ => False, ⟨fun _ _ _ _ _ _ h => h.elim⟩, fun _ _ _ _ _ _ _ _ _ _ _ _ _ _ h _ => h.elim⟩
theorem de_never {e : Expr} : DE X E 0 e (fun _ _ _ => False) := ⟨fun _ _ _ => False, ⟨fun _ _ _ _ _ _ h => h.elim⟩, fun _ _ _ _ _ _ _ _ _ _ _ _ _ _ h _ => h.elim⟩
/-- what the head tells of a class -/
structure ClT (K : PySem.W.Frag) (k : Nat) : Prop where
  cls : Cls K (objC K k)
  no : ∀ f ∈ objN k, NoAttr K (objC K k) f
  ins : C8.InsC K (objC K k)
theorem clT_of {K : PySem.W.Frag} (h : ClT K 0) {f : Str} (k : Nat) (hf : f ∈ objN k) : ClT K k := by
  have key : ∀ r : Nat, objNr r ≠ [] → r ≤ 5 ∧ ∀ f ∈ objNr r, f ∈ objNr 0 := fun r => by
    match r with
    | 0 => exact fun _ => ⟨by omega, fun f hf => hf⟩
    | 1 => exact fun z => absurd rfl z
    | 2 => exact fun _ => ⟨by omega, by decide +kernel⟩
    | 3 => exact fun _ => ⟨by omega, by decide +kernel⟩
    | 4 => exact fun _ => ⟨by omega, by decide +kernel⟩
    | 5 => exact fun _ => ⟨by omega, by decide +kernel⟩
    | _ + 6 => exact fun z => absurd rfl z
  obtain ⟨h1, h2⟩ := key (k % 16) (fun z => by unfold objN at hf; rw [z] at hf; cases hf)
  have e : objC K k = objC K 0 := objC_plan h1
  exact ⟨e ▸ h.cls, fun f hf => e ▸ h.no f (h2 f hf), e ▸ h.ins⟩
theorem zip_look {ns : List Str} {vs : List V} {f : Str} {i : Nat} : ns.Nodup → ns[i]? = some f → ∀ {v : V}, vs[i]? = some v → (ns.zip vs).lookup f = some v := by
  induction ns generalizing vs i with
  | nil => intro _ h; simp at h
  | cons a ns ih =>
    intro nd hi v hv
    cases vs with
    | nil => simp at hv
    | cons b vs =>
      cases i with
      | zero =>
        simp at hi hv
        subst hi hv
        simp [List.lookup]
      | succ j =>
        have hj : ns[j]? = some f := by simpa using hi
        have hne : f ≠ a := fun z => by
          subst z
          exact (List.nodup_cons.mp nd).1 (List.mem_of_getElem? hj)
        have hb : (f == a) = false := by simpa using hne
        rw [List.zip_cons_cons, List.lookup_cons, hb]
        exact ih (List.nodup_cons.mp nd).2 hj (by simpa using hv)
/-- o.f -/
def gFld (f : Str) : Dv → (Dv → Prop) → Prop := fun x Q => ∃ (k : Nat) (ds : List D) (i : Nat) (d : D), x.d = .obj k ds ∧ (objN k)[i]? = some f ∧ ds[i]? = some d ∧ Q ⟨d, x.fr, none⟩
theorem objN_nodup (k : Nat) : (objN k).Nodup := by
  unfold objN
  generalize k % 16 = r
  match r with
  | 0 => decide +kernel
  | 1 => decide +kernel
  | 2 => decide +kernel
  | 3 => decide +kernel
  | 4 => decide +kernel
  | 5 => decide +kernel
  | _ + 6 => exact List.nodup_nil
theorem de_fld {f : Str} (hC : ∀ k, f ∈ objN k → ClT X.K k) (ha : DE X E c a fa) (hb : attributeBase a f X.env (eval a X.env) = eval a X.env := by rfl) : DE X E c (.Attribute a f pos) (fun ρ XQ Q => fa ρ XQ fun x => gFld f x Q) := by
  obtain ⟨ta, pa, sa⟩ := ha
  refine ⟨_, pe_fld pa hb, fun F B R H σ ρ α XQ Q K hK hX hB S h k => ?_⟩
  refine sa F B R H σ ρ α XQ _ _ hK hX hB S h fun v x R1 H1 e1 o1 r1 ⟨c', ds, i, d, ex, ei, ed, q⟩ => ?_
  obtain ⟨dx, n, vo⟩ := x
  have ex : dx = .obj c' ds := ex
  subst ex
  have r3 := r1.fr
  have hm : f ∈ objN c' := List.mem_of_getElem? ei
  generalize hf : Dv.fr ⟨D.obj c' ds, n, vo⟩ = fr at r3 q
  cases r3 with
  | obj hh hr hw hn hl l =>
    obtain ⟨w, hw2, r⟩ := l.get ed
    have C := hC c' hm
    subst hn
    exact ⟨_, objC X.K c', _, _, w, rfl, hK ▸ hh, C.cls, C.no f hm, zip_look (objN_nodup c') ei hw2, k w ⟨d, fr, none⟩ R1 H1 e1 o1 (.of r) q⟩

/-! ### x[j] = e, x an own list -/
theorem ds_setix (l : List Nat) {i j : Nat} {y : Str} {p1 p2 sp : Pos} (he : DE X E c e fe) (ps : ∀ te, PE X e te → PS X (.Assign [.Subscript (.Name x p1) (.Name y p2) sp] e pos) (tAsg te (gSub (tVar i) (tVar j) rSetL))) :
    DS X E c (.Assign [.Subscript (.Name x p1) (.Name y p2) sp] e pos) (fun N ρ XQ => fe (frz l ρ) XQ fun y => ∃ ds n z v m, (if y.d.sca = true then ρ else frz l ρ)[i]? = some (.ow (.lst ds) n) ∧ (if y.d.sca = true then ρ else frz l ρ)[j]? = some (.va ⟨.int (z : Nat), m, v⟩) ∧ z < ds.length ∧ N.nx ((if y.d.sca = true then ρ else frz l ρ).set i (.ow (.lst (ds.set z y.d)) (n && y.fr)))) := by
  obtain ⟨t, p, s⟩ := he
  refine ⟨_, ps t p, fun F B R H σ ρ α XQ N K hK hX hB S h k => ?_⟩
  refine run_frz (X := X) (E := E) (c := c) (Q := fun y ρ' => ∃ ds n z v m, ρ'[i]? = some (.ow (.lst ds) n) ∧ ρ'[j]? = some (.va ⟨.int (z : Nat), m, v⟩) ∧ z < ds.length ∧ N.nx (ρ'.set i (.ow (.lst (ds.set z y.d)) (n && y.fr)))) s hK hX hB S h fun v y ρ' R' H' zz S' r ⟨ds, n, z, vz, m, h1, h2, hl, q⟩ => ?_
  obtain ⟨e1, w1⟩ := S'.ow i _ _ h1
  obtain ⟨vs, hv, lv⟩ := w1.at_
  obtain ⟨u, e2, r2⟩ := S'.va j _ h2
  have r3 := r2.1
  cases r3
  have hz : ixN vs.length (z : Int) = some z := by
    unfold ixN
    rw [if_pos (by omega), if_pos (by rw [lv.len]; omega)]
    simp
  refine ⟨_, e1, _, e2, α i, vs, (z : Nat), z, rfl, rfl, hv, hz, ?_⟩
  obtain ⟨S2, z2⟩ := S'.setow h1 (vs := vs.set z v) (ds' := ds.set z y.d) (m := n && y.fr) (RpL.set z (r.fr.weak and_r) (lv.weak and_l))
  exact k.nx σ _ _ R' α (zz.trans z2) S2 q

/-! ### while, the body draws; at most M turns -/
theorem ds_whileC (M : Nat) (l : List Nat) {body : List Stmt} {tc : TDt} {gb : TDS} (hp : PassesOwn (model X.prog X.w) X.A X.env X.xe) (hc : DT X E 0 e tc) (hb : DSs X E cb body gb) : DS X E (M * cb) (.While e body [] pos) (fun N ρ XQ => ∃ n, n ≤ M ∧ whN tc gb l N XQ n ρ) := by
  obtain ⟨t, pt, st⟩ := hc
  obtain ⟨tb, pb, sb⟩ := hb
  refine ⟨_, ps_while hp pt pb, fun F B R H σ ρ α XQ N K hK hX hB S ⟨n, hn, h⟩ k => ?_⟩
  refine ⟨fun m σ' H' => ∃ d R' ρ' α', m + d = M ∧ Fz F R H R' H' ∧ StOk F (B + d * cb) R' H' σ' ρ' α' ∧ whN tc gb l N XQ m ρ', ⟨n, M - n, R, ρ, α, by omega, .refl, S.mono (Nat.le_add_right _ _), h⟩, ?_⟩
  rintro m σ' H' ⟨d, R', ρ', α', hd, z, S', q⟩
  cases m with
  | zero => exact q.elim
  | succ m =>
    have hle2 : (d + 1) * cb ≤ M * cb := Nat.mul_le_mul_right _ (by omega)
    rw [Nat.succ_mul] at hle2
    refine run_frzT (X := X) (E := E) (c := 0) st hK hX (by omega) S' q fun b R2 H2 z2 S2 q2 => ?_
    cases b with
    | true =>
      refine ⟨fun σ3 H3 => ∃ d R3 ρ3 α3, m + d = M ∧ Fz F R H R3 H3 ∧ StOk F (B + d * cb) R3 H3 σ3 ρ3 α3 ∧ whN tc gb l N XQ m ρ3, fun σ3 H3 q3 => ⟨m, Nat.lt_succ_self _, q3⟩, ?_⟩
      have kk : EndsOk F (B + M * cb) R2 H2 N K := k.fz (z.trans z2)
      have kk2 : EndsOk F (B + d * cb + 0 + cb) R2 H2 N K := kk.mono (by omega)
      exact sb F (B + d * cb + 0) R2 H2 σ' ρ' α' XQ _ _ hK hX (by omega) S2 q2 ⟨fun σ4 H4 ρ4 R4 α4 z4 S4 q4 => ⟨d + 1, R4, ρ4, α4, by omega, (z.trans z2).trans z4, S4.mono (by rw [Nat.succ_mul]; omega), q4⟩, kk2.rt, kk2.nx, fun σ4 H4 ρ4 R4 α4 z4 S4 q4 => ⟨d + 1, R4, ρ4, α4, by omega, (z.trans z2).trans z4, S4.mono (by rw [Nat.succ_mul]; omega), q4⟩⟩
    | false => exact (k.mono (by omega)).nx σ' H2 ρ' R2 α' (z.trans z2) S2 q2
/-- a class by its name -/
theorem de_glob {C : Addr} (hg : Gl X x) (hm : X.mg x = some (.ref C)) (hd : (x == ("__debug__" : Str)) = false := by decide) : DE X E 0 (.Name x pos) (fun _ _ Q => Q ⟨.vee (.ref C), true, none⟩) :=
  ⟨_, pe_glob (v := .ref C) hg hm rfl hd, fun F B R H σ ρ α XQ Q K _ _ _ S q k => k _ _ R H .refl S.hp (.of (.vee _)) q⟩
/-- isinstance(an own instance, its class) -/
theorem dcl_isC {j : Nat} (c : C8.InsC X.K (objC X.K j)) : DCl X (.builtin "isinstance") (fun xs Q => match xs with
    | [x, y] => y.d = .vee (.ref (objC X.K j)) ∧ (∃ ds, x.d = .obj j ds) ∧ Q ⟨.bl true, true, none⟩
    | _ => False) :=
  ⟨_, C8.call_isC c, fun F B R H vs xs Q K hK I rs q k => by
    match xs, vs, rs, q with
    | [x, y], [v, u], .cons r1 (.cons r2 .nil), ⟨ey, ⟨ds, ex⟩, q⟩ =>
      obtain ⟨dx, nx, vx⟩ := x
      obtain ⟨dy, ny, vy⟩ := y
      have ex : dx = .obj j ds := ex
      have ey : dy = .vee (.ref (objC X.K j)) := ey
      subst ex ey
      have r3 := r1.1
      have r4 := r2.1
      cases r4
      cases r3 with
      | obj hh hr hw hn hl l => exact ⟨_, _, _, rfl, hK ▸ hh, k _ _ R H .refl I (.of (.bl _)) q⟩⟩
end
end DL

set_option Elab.async false
set_option linter.all false
set_option maxRecDepth 100000
/-! DL, part ab: comprehensions over lists that are told by a map; cuts. -/
namespace DL
open PySem PySem.Spec PyProof.Rows L2
theorem lc_filtA {gt : TDG} {ft : TDt} {fe : TD} {ρw : Ro} {Q : Dv → Prop} {α : Type} (e : α → Dv) (g : α → D) (c : α → Bool) : ∀ {l : List α} {acc : List D} {n : Bool},
    (∀ a ∈ l, ∀ (K1 : Dv → Prop) (K0 : Prop), (c a = true → ∀ m v, K1 ⟨g a, m, v⟩) → (c a = false → K0) → lcStep gt ft fe ρw (e a) K1 K0) → (∀ m, Q ⟨.lst (acc ++ (l.filter c).map g), m, none⟩) → lcGo gt ft fe ρw Q (l.map e) acc n
  | [], acc, n, _, q => by
    have := q n
    rw [List.filter_nil, List.map_nil, List.append_nil] at this
    exact this
  | a :: l, acc, n, h, q => by
    rw [List.map_cons, lcGo_cons]
    refine h a List.mem_cons_self _ _ (fun hc m v => ?_) (fun hc => ?_)
    · refine lc_filtA e g c (fun b hb => h b (List.mem_cons_of_mem _ hb)) fun m' => ?_
      have := q m'
      rw [List.filter_cons_of_pos hc, List.map_cons] at this
      simpa using this
    · refine lc_filtA e g c (fun b hb => h b (List.mem_cons_of_mem _ hb)) fun m' => ?_
      have := q m'
      rwa [List.filter_cons_of_neg (by rw [hc]; decide)] at this
theorem lc_filt {gt : TDG} {ft : TDt} {fe : TD} {ρw : Ro} {Q : Dv → Prop} {α : Type} {e : α → Dv} {g : α → D} (c : α → Bool) {l : List α} {n : Bool}
    (h : ∀ a ∈ l, ∀ (K1 : Dv → Prop) (K0 : Prop), (c a = true → ∀ m v, K1 ⟨g a, m, v⟩) → (c a = false → K0) → lcStep gt ft fe ρw (e a) K1 K0) (q : ∀ m, Q ⟨.lst ((l.filter c).map g), m, none⟩) : lcGo gt ft fe ρw Q (l.map e) [] n :=
  lc_filtA e g c h fun m => by simpa using q m
theorem lc_mapA {gt : TDG} {ft : TDt} {fe : TD} {ρw : Ro} {Q : Dv → Prop} {α : Type} {e : α → Dv} {g : α → D} {l : List α} {n : Bool}
    (h : ∀ a ∈ l, ∀ (K1 : Dv → Prop) (K0 : Prop), (∀ m v, K1 ⟨g a, m, v⟩) → lcStep gt ft fe ρw (e a) K1 K0) (q : ∀ m, Q ⟨.lst (l.map g), m, none⟩) : lcGo gt ft fe ρw Q (l.map e) [] n :=
  lc_filt (fun _ => true) (fun a ha K1 K0 h1 _ => h a ha K1 K0 (h1 rfl)) fun m => by
    have e : l.filter (fun _ => true) = l := List.filter_eq_self.mpr fun _ _ => rfl
    rw [e]
    exact q m
theorem ite_t {c : Prop} [Decidable c] {A B : Prop} (h : c) (a : A) : if c then A else B := by rw [if_pos h]; exact a
theorem ite_f {c : Prop} [Decidable c] {A B : Prop} (h : ¬ c) (b : B) : if c then A else B := by rw [if_neg h]; exact b
theorem cut_map {α β : Type} (f : α → β) (xs : List α) (lo hi : Option Int) : cutL (xs.map f) lo hi = (cutL xs lo hi).map f := by
  unfold cutL
  rw [List.length_map, List.map_take, List.map_drop]
theorem cut_mem {α : Type} {xs : List α} {lo hi : Option Int} {x : α} (h : x ∈ cutL xs lo hi) : x ∈ xs := List.mem_of_mem_drop (List.mem_of_mem_take h)
end DL

set_option Elab.async false
set_option linter.all false
set_option maxRecDepth 100000
set_option maxHeartbeats 4000000
/-! DL, part ac: the draw with its exact stream; names drawn till one is new. -/
namespace DL
open PySem PySem.Spec PyProof.Rows L2

abbrev StrmS (H : Hp) (a b : Addr) (t : SS) : Prop := StrmAt H a b t.1 t.2.1 t.2.2.1 t.2.2.2
structure OkS (t : SS) : Prop where
  c0 : 0 ≤ t.2.1
  n0 : 0 ≤ t.2.2.1
  s0 : 0 ≤ t.2.2.2
  s1 : t.2.2.2 < 2147483629
structure Off (H H' : Hp) (a b : Addr) : Prop where
  kp : ∀ x, x ≠ a → x ≠ b → ∀ o, H x = some o → H' x = some o
  bk : ∀ x, H' x = none → H x = none
theorem Off.trans {H H' H'' : Hp} {a b : Addr} (p : Off H H' a b) (q : Off H' H'' a b) : Off H H'' a b := ⟨fun x e f o h => q.kp x e f o (p.kp x e f o h), fun x h => p.bk x (q.bk x h)⟩
/-- a draw -/
def spDrawV : Sp := fun vs H Q _ => ∃ (a b : Addr) (m : Int) (t : SS), vs = [.ref a, .int m] ∧ a ≠ b ∧ StrmS H a b t ∧ OkS t ∧ t.2.2.1 + 1 < 2 ^ 100001 ∧ 0 < m ∧ m < 1073741824 ∧
  ∀ H', StrmS H' a b (nextS m t) → OkS (nextS m t) → Off H H' a b → 0 ≤ digS m t → digS m t < m → Q (.int (digS m t)) H'
theorem drawV_reads {K : PySem.W.Frag} {H : Hp} {a b : Addr} {m : Int} {t : SS} (hne : a ≠ b) (hS : StrmS H a b t) (ok : OkS t) (hnB : t.2.2.1 + 1 < 2 ^ 100001) (hm0 : 0 < m) (hm1 : m < 1073741824)
    {Q : VK} {Qn : L2.St → Hp → Prop} (q : ∀ H', StrmS H' a b (nextS m t) → OkS (nextS m t) → Off H H' a b → 0 ≤ digS m t → digS m t < m → Q (.int (digS m t)) H') :
    drawAll K { nx := Qn, rt := Q } [some (.ref a), some (.int m), none, none, none] H := by
  obtain ⟨xs, c, n, s⟩ := t
  refine draw_readsV hne hS ok.c0 ok.n0 hnB ok.s0 ok.s1 hm0 hm1 fun k H' k0 k1 ⟨xs', c', s', e, hS', c1, s1, s2⟩ kp bk => ?_
  have e1 : digS m (xs, c, n, s) = k := by unfold digS; rw [e]
  have e2 : nextS m (xs, c, n, s) = (xs', c', n + 1, s') := by unfold nextS; rw [e]
  have := q H' (by rw [e2]; exact hS') (by rw [e2]; exact ⟨c1, by have := ok.n0; show 0 ≤ n + 1; have : 0 ≤ n := this; omega, s1, s2⟩) ⟨kp, bk⟩ (by rw [e1]; exact k0) (by rw [e1]; exact k1)
  rw [e1] at this
  exact this
/-- a sign of a text is drawn -/
def spPickV : Sp := fun vs H Q _ => ∃ (a b : Addr) (z : Str) (t : SS), vs = [.ref a, .str z] ∧ a ≠ b ∧ StrmS H a b t ∧ OkS t ∧ t.2.2.1 + 1 < 2 ^ 100001 ∧ 0 < z.length ∧ z.length ≤ 1000 ∧
  ∀ H' c, StrmS H' a b (nextS z.length t) → OkS (nextS z.length t) → Off H H' a b → 0 ≤ digS z.length t → digS z.length t < z.length → atI z.cps.toList (digS z.length t) = some c → Q (.str ⟨#[c]⟩) H'
/-- a name: a few small letters -/
def abc : Str := "abcdefghijklmnopqrstuvwxyz"
structure NmOk (x : Str) : Prop where
  l0 : 0 < x.length
  l5 : x.length ≤ 5
  ab : ∀ c ∈ x.cps.toList, 97 ≤ c ∧ c < 123
theorem abc_len : abc.length = 26 := by decide +kernel
theorem abc_at : ∀ k : Nat, k < 26 → abc.cps.toList[k]? = some (97 + k) := by decide +kernel
def shN (nm : Str) (k : Int) : Str := cutS (nm ++ (⟨#[97 + k.toNat]⟩ : Str)) (some (-5)) none
def keyN (x : Str) : Int := (x.cps.toList.getLastD 97 : Nat) - 97
theorem cps_app (x y : Str) : (x ++ y).cps.toList = x.cps.toList ++ y.cps.toList := by
  show (x.cps ++ y.cps).toList = _
  simp
theorem len_cps (x : Str) : x.length = x.cps.toList.length := by simp [Str.length]
theorem shN_cps {nm : Str} {k : Int} : (shN nm k).cps.toList = (nm.cps.toList ++ [97 + k.toNat]).drop (nm.length + 1 - 5) := by
  have hl : (nm ++ (⟨#[97 + k.toNat]⟩ : Str)).length = nm.length + 1 := by rw [len_cps, cps_app, List.length_append, ← len_cps]; rfl
  unfold shN cutS
  rw [hl]
  show (((nm ++ (⟨#[97 + k.toNat]⟩ : Str)).cps.toList.drop (HT.sIx (nm.length + 1) 0 (some (-5)))).take (nm.length + 1 - HT.sIx (nm.length + 1) 0 (some (-5)))) = _
  have e : HT.sIx (nm.length + 1) 0 (some (-5)) = nm.length + 1 - 5 := by
    simp only [HT.sIx]
    rw [if_pos (by decide)]
    omega
  rw [e, cps_app]
  refine List.take_of_length_le ?_
  rw [List.length_drop, List.length_append, ← len_cps]
  exact Nat.le_refl _
theorem shN_ok {nm : Str} (h : NmOk nm) {k : Int} (h0 : 0 ≤ k) (h1 : k < 26) : NmOk (shN nm k) := by
  have e := shN_cps (nm := nm) (k := k)
  have l : (shN nm k).length = nm.length + 1 - (nm.length + 1 - 5) := by
    rw [len_cps, e, List.length_drop, List.length_append, ← len_cps]
    rfl
  have a := h.l0
  have b := h.l5
  refine ⟨by omega, by omega, fun c hc => ?_⟩
  rw [e] at hc
  rcases List.mem_append.mp (List.mem_of_mem_drop hc) with z | z
  · exact h.ab c z
  · rw [List.mem_singleton] at z
    omega
theorem shN_key {nm : Str} {k : Int} (h0 : 0 ≤ k) (h1 : k < 26) : keyN (shN nm k) = k := by
  unfold keyN
  rw [shN_cps]
  have e : ((nm.cps.toList ++ [97 + k.toNat]).drop (nm.length + 1 - 5)) = nm.cps.toList.drop (nm.length + 1 - 5) ++ [97 + k.toNat] := by
    rw [List.drop_append_of_le_length (by rw [← len_cps]; omega)]
  rw [e]
  simp only [List.getLastD_eq_getLast?, List.getLast?_append, List.getLast?_singleton, Option.some_or, Option.getD_some]
  omega
theorem itS_n {m : Int} : ∀ {d : Nat} {t : SS}, (itS m d t).2.2.1 = t.2.2.1 + d
  | 0, t => by show _ = t.2.2.1 + ((0 : Nat) : Int); simp [itS]
  | d + 1, t => by
    show (itS m d (nextS m t)).2.2.1 = _
    rw [itS_n]
    show t.2.2.1 + 1 + (d : Int) = t.2.2.1 + ((d + 1 : Nat) : Int)
    omega
theorem itS_cells {m : Int} (hm : 2 ≤ m) : ∀ {d : Nat} {t : SS}, CellsOk t.1 t.2.1 → CellsOk (itS m d t).1 (itS m d t).2.1
  | 0, _, h => h
  | d + 1, t, h => itS_cells hm (d := d) (cells_next hm h)
theorem set_same {α : Type} {xs : List α} {k : Nat} {x : α} (h : xs[k]? = some x) : xs.set k x = xs := by
  obtain ⟨hl, e⟩ := List.getElem?_eq_some_iff.mp h
  rw [← e]
  exact List.set_getElem_self hl
theorem set_set' {α : Type} {xs : List α} {k : Nat} {x y : α} : (xs.set k x).set k y = xs.set k y := List.set_set ..
theorem inV_names {x : Str} : ∀ {names : List Str}, inV (.str x) (names.map V.str) = decide (x ∈ names)
  | [] => rfl
  | y :: ys => by
    show (eqV (.str y) (.str x) || inV (.str x) (ys.map V.str)) = _
    rw [inV_names]
    simp only [eqV, List.mem_cons, Bool.decide_or]
    by_cases h : y = x
    · simp [h]
    · have h2 : ¬ x = y := fun z => h z.symm
      simp [h, h2]
theorem rpl_names {F : Fx} {H : Hp} {R : Reg} {n : Bool} : ∀ {names : List Str} {vs : List V}, RpL F H R n vs (names.map D.str) → vs = names.map V.str
  | [], _, .nil => rfl
  | x :: xs, _, .cons a t => by
    cases a
    rw [rpl_names t]
    rfl
theorem flat_names : ∀ {names : List Str}, (names.map V.str).all flatV = true
  | [] => rfl
  | x :: xs => by rw [List.map_cons, List.all_cons, flat_names]; rfl
def rAddS : R2 := fun x y H Q => ∃ i j, x = .str i ∧ y = .str j ∧ i.length + j.length ≤ sizeLine ∧ Q (.str (i ++ j)) H
section
variable {X : Cx} {E : XK} {pos : Pos} {test : Expr} {body : Stmt}
/-- while name in found: name = (name + pick(stream, signs))[-5:] -/
theorem ds_names {i j k g : Nat} (hp : PassesOwn (model X.prog X.w) X.A X.env X.xe)
    (pt : PT X test (tTest (tOp (rIn X.K false) (tVar k) (tVar g))))
    (pb : PS X body (tAsg (tSl rSlS (tOp rAddS (tVar k) (tCall spPickV [] E (tCons (tVar i) (tCons (tVar j) tNil)))) (tPart (tUn (rU fun i => .int (-i)) (tC (.int 5)))) tNoPart) (gName k))) :
    DS X E MAXT (.While test [body] [] pos)
      (fun N ρ XQ => ∃ (names : List Str) (n : Bool) (nm : Str) (y z w : Dv), ρ[i]? = some (.va y) ∧ y.d = .strm ∧ ρ[j]? = some (.va z) ∧ z.d = .str abc ∧ ρ[g]? = some (.ow (.lst (names.map D.str)) n) ∧ ρ[k]? = some (.va w) ∧ w.d = .str nm ∧ names.length ≤ 9 ∧ i ≠ k ∧ j ≠ k ∧ g ≠ k ∧ NmOk nm ∧
        ∀ nm', NmOk nm' → nm' ∉ names → N.nx (ρ.set k (.va ⟨.str nm', true, none⟩))) := by
  refine ⟨_, ps_while hp pt (pss_one pb), fun F B R H σ ρ α XQ N K hK hX hB S ⟨names, n, nm, y, z, w, hi, hy, hj, hz, hgg, hkk, hw, hn9, nik, njk, ngk, hnm, q⟩ kk => ?_⟩
  obtain ⟨v1, s1, r1⟩ := S.va i y hi
  obtain ⟨v2, s2, r2⟩ := S.va j z hj
  obtain ⟨v3, s3, r3⟩ := S.va k w hkk
  obtain ⟨s4, w4⟩ := S.ow g _ _ hgg
  have r1 := r1.1
  have r2 := r2.1
  have r3 := r3.1
  rw [hy] at r1
  rw [hz] at r2
  rw [hw] at r3
  cases r2
  cases r3
  generalize hv1 : v1 = u1 at r1
  cases r1 with
  | @strm _ p hst =>
  obtain ⟨a, b⟩ := p
  subst hv1
  obtain ⟨hne, xs0, c0, n0, s0, ha0, hb0, hc0, hn0, hnB, hs0, hs1, hcl⟩ := S.hp.inv (a, b) hst
  simp only at hne ha0 hb0 s1
  obtain ⟨vs, hgv, lv⟩ := w4.at_
  have ev := rpl_names lv
  subst ev
  have gna : α g ≠ a := fun e => w4.nm ⟨_, hst, .inl e⟩
  have gnb : α g ≠ b := fun e => w4.nm ⟨_, hst, .inr e⟩
  obtain ⟨it, hit, hout, hin⟩ := name_first (sh := shN) (key := keyN) (fun _ _ h0 h1 => shN_key h0 h1) (t := (xs0, c0, n0, s0)) hc0 hcl nm (found := names) hn9
  have hS0 : StrmS H a b (xs0, c0, n0, s0) := ⟨ha0, hb0⟩
  generalize ht : ((xs0, c0, n0, s0) : SS) = t at hS0 hit hout hin
  have ok0 : OkS t := by subst ht; exact ⟨hc0, hn0, hs0, hs1⟩
  have hn1 : t.2.2.1 ≤ (B : Int) := by subst ht; exact hnB
  have cl0 : CellsOk t.1 t.2.1 := by subst ht; exact hcl
  have σk : ∀ x, (σ.set k x)[i]? = some (some (.ref a)) := fun x => by rw [List.getElem?_set_ne nik.symm]; exact s1
  have σj : ∀ x, (σ.set k x)[j]? = some (some (.str abc)) := fun x => by rw [List.getElem?_set_ne njk.symm]; exact s2
  have σg : ∀ x, (σ.set k x)[g]? = some (some (.ref (α g))) := fun x => by rw [List.getElem?_set_ne ngk.symm]; exact s4
  have kl : k < σ.length := (List.getElem?_eq_some_iff.mp s3).1
  refine ⟨fun m σ' H' => ∃ d, d + m = it ∧ σ' = σ.set k (some (.str (nameAt shN nm t d))) ∧ StrmS H' a b (itS 26 d t) ∧ OkS (itS 26 d t) ∧ Off H H' a b ∧ NmOk (nameAt shN nm t d), ⟨it, 0, by omega, (set_same s3).symm, hS0, ok0, ⟨fun _ _ _ _ h => h, fun _ h => h⟩, hnm⟩, ?_⟩
  rintro m σ' H' ⟨d, hd, rfl, hS, ok, off, hnd⟩
  have hk' : (σ.set k (some (V.str (nameAt shN nm t d))))[k]? = some (some (.str (nameAt shN nm t d))) := by rw [List.getElem?_set_self kl]
  have hg' : H' (α g) = some (.lst (names.map V.str)) := off.kp _ gna gnb _ hgv
  refine ⟨_, hk', _, σg _, α g, _, rfl, .inl (.of hg'), rfl, flat_names, _, rfl, ?_⟩
  rw [inV_names]
  simp only [Bool.false_eq_true, if_false]
  by_cases hlt : d < it
  · rw [if_pos (by simpa using hin d hlt)]
    refine ⟨_, fun σ' H' h => ⟨m - 1, by omega, h⟩, ?_⟩
    have e26 : ((abc.length : Nat) : Int) = 26 := by rw [abc_len]; rfl
    refine ⟨_, hk', _, σk _, _, σj _, a, b, abc, itS 26 d t, rfl, hne, hS, ok, ?_, by rw [abc_len]; decide, by rw [abc_len]; decide, fun H2 c hS2 ok2 off2 dg0 dg1 hc => ?_⟩
    · rw [itS_n]
      refine lim_bits (B := B + MAXT) ?_ (Nat.le_trans hB S.hp.lim)
      have : d ≤ MAXT := by omega
      generalize MAXT = M at this hit
      omega
    rw [e26] at hS2 ok2 hc dg0 dg1
    have hdg : 0 ≤ digS 26 (itS 26 d t) ∧ digS 26 (itS 26 d t) < 26 := ⟨dg0, dg1⟩
    have ec : c = 97 + (digS 26 (itS 26 d t)).toNat := by
      have h1 := abc_at (digS 26 (itS 26 d t)).toNat (by omega)
      unfold atI ixN at hc
      rw [if_pos hdg.1, ← len_cps, abc_len, if_pos (show digS 26 (itS 26 d t) < ((26 : Nat) : Int) from hdg.2)] at hc
      rw [show (some (digS 26 (itS 26 d t)).toNat).bind (fun j => abc.cps.toList[j]?) = abc.cps.toList[(digS 26 (itS 26 d t)).toNat]? from rfl, h1] at hc
      exact (Option.some.inj hc).symm
    subst ec
    have hl5 := hnd.l5
    have hz1 : (nameAt shN nm t d).length + (⟨#[97 + (digS 26 (itS 26 d t)).toNat]⟩ : Str).length ≤ sizeLine := le_line (by show _ + 1 ≤ BIG; unfold BIG; omega)
    have ej : shN (nameAt shN nm t d) (digS 26 (itS 26 d t)) = nameAt shN nm t (d + 1) := rfl
    refine ⟨_, _, rfl, rfl, hz1, 5, rfl, _, rfl, _, rfl, ?_, d + 1, by omega, ?_, ?_, ?_, off.trans off2, ?_⟩
    · exact Nat.le_trans (by rw [len_cps, cps_app, List.length_append, ← len_cps, ← len_cps]; exact Nat.le_refl _) hz1
    · rw [set_set']
      rfl
    · rw [itS_succ]; exact hS2
    · rw [itS_succ]; exact ok2
    · rw [← ej]; exact shN_ok hnd hdg.1 hdg.2
  · have ed : d = it := by omega
    subst ed
    rw [if_neg (by simpa using hout)]
    obtain ⟨e1, o1⟩ := strm_ext (B' := B + MAXT) hst S.hp ⟨off.kp, hne, _, _, _, _, hS.top, hS.low, ok.c0, ok.n0, by rw [itS_n]; generalize MAXT = M at hit; omega, ok.s0, ok.s1, itS_cells (by decide) cl0⟩
    exact kk.nx _ _ _ R α (e1.fz S.hp) ((S.ext e1 o1).setva k (x := ⟨.str _, true, none⟩) (.of (.str _))) (q _ hnd hout)
end
theorem abc_mem : ∀ c ∈ abc.cps.toList, 97 ≤ c ∧ c < 123 := by decide +kernel
def Sign (z : Str) : Prop := ∃ c : Nat, z = ⟨#[c]⟩ ∧ 97 ≤ c ∧ c < 123
theorem signs_of {xs : List Dv} {ys : List D} (h : Paired (fun _ d => ∃ z, d = D.str z ∧ Sign z) xs ys) : ∃ zs : List Str, ys = zs.map D.str ∧ zs.length = xs.length ∧ ∀ z ∈ zs, Sign z := by
  induction h with
  | nil => exact ⟨[], rfl, rfl, fun z h => nomatch h⟩
  | cons a _ ih =>
    obtain ⟨z, rfl, hz⟩ := a
    obtain ⟨zs, rfl, hl, hs⟩ := ih
    refine ⟨z :: zs, rfl, by rw [List.length_cons, List.length_cons, hl], fun y hy => ?_⟩
    rcases List.mem_cons.mp hy with rfl | hy
    · exact hz
    · exact hs y hy
theorem joined_cps : ∀ {zs : List Str}, (Txt.join "" zs).cps.toList = (zs.map fun z => z.cps.toList).flatten := fun {zs} => by
  rw [TL.join_eq]
  induction zs with
  | nil => rfl
  | cons x zs ih =>
    cases zs with
    | nil => simp [Str.join]
    | cons y zs =>
      show (x ++ "" ++ Str.join "" (y :: zs)).cps.toList = _
      rw [cps_app, cps_app, ih]
      show x.cps.toList ++ [] ++ _ = _
      simp
theorem joined_ok : ∀ {zs : List Str}, (∀ z ∈ zs, Sign z) → ((zs.map fun z => z.cps.toList).flatten).length = zs.length ∧ ∀ c ∈ (zs.map fun z => z.cps.toList).flatten, 97 ≤ c ∧ c < 123
  | [], _ => ⟨rfl, fun c h => nomatch h⟩
  | z :: zs, h => by
    obtain ⟨c, rfl, c0, c1⟩ := h z (by simp)
    obtain ⟨h1, h2⟩ := joined_ok (zs := zs) fun y hy => h y (by simp [hy])
    rw [List.map_cons, List.flatten_cons]
    refine ⟨by rw [List.length_append, h1, List.length_cons]; show 1 + zs.length = zs.length + 1; omega, fun x hx => ?_⟩
    rcases List.mem_append.mp hx with hx | hx
    · have : x = c := by simpa using hx
      omega
    · exact h2 x hx
theorem joined_nm {zs : List Str} (h : ∀ z ∈ zs, Sign z) (h0 : 0 < zs.length) (h5 : zs.length ≤ 5) : NmOk (Txt.join "" zs) := by
  obtain ⟨h1, h2⟩ := joined_ok h
  have hl : (Txt.join "" zs).length = zs.length := by rw [len_cps, joined_cps, h1]
  exact ⟨by omega, by omega, fun c hc => h2 c (by rw [← joined_cps]; exact hc)⟩
theorem signs_sum : ∀ {zs : List Str}, (∀ z ∈ zs, Sign z) → (zs.map (·.length)).sum = zs.length
  | [], _ => rfl
  | z :: zs, h => by
    obtain ⟨c, rfl, _, _⟩ := h z (by simp)
    rw [List.map_cons, List.sum_cons, signs_sum fun y hy => h y (by simp [hy]), List.length_cons]
    show 1 + _ = _
    omega
end DL

set_option Elab.async false
set_option linter.all false
set_option maxRecDepth 100000
set_option maxHeartbeats 4000000
/-! DL, part ad: parts told side by side to slots that cells may hold: by a tuple. -/
namespace DL
open PySem PySem.Spec PyProof.Rows L2

def Pt.isO : Pt → Bool
  | .va _ => false
  | .ow _ _ => true
/-- own parts stand apart -/
def Apart (p : Pt) (v : V) (ps : List Pt) (vs : List V) : Prop := ∀ (k : Nat) p' v', ps[k]? = some p' → vs[k]? = some v' → p.isO = true → p'.isO = true → v' ≠ v
inductive PtsOk (F : Fx) (H0 H : Hp) (R : Reg) : List Pt → List V → Prop
  | nil : PtsOk F H0 H R [] []
  | cons {p : Pt} {v : V} {ps : List Pt} {vs : List V} : PtOk F H0 H R p v → PtsOk F H0 H R ps vs → Apart p v ps vs → PtsOk F H0 H R (p :: ps) (v :: vs)
theorem PtsOk.len {F : Fx} {H0 H : Hp} {R : Reg} : ∀ {ps : List Pt} {vs : List V}, PtsOk F H0 H R ps vs → ps.length = vs.length
  | _, _, .nil => rfl
  | _, _, .cons _ t _ => by rw [List.length_cons, List.length_cons, t.len]
theorem PtsOk.get {F : Fx} {H0 H : Hp} {R : Reg} : ∀ {ps : List Pt} {vs : List V} {k : Nat} {p : Pt} {v : V}, PtsOk F H0 H R ps vs → ps[k]? = some p → vs[k]? = some v → PtOk F H0 H R p v
  | _, _, k, _, _, .nil, h, _ => by simp at h
  | _, _, 0, _, _, .cons a _ _, h, h2 => by simp at h h2; subst h h2; exact a
  | _, _, k + 1, _, _, .cons _ t _, h, h2 => t.get (k := k) (by simpa using h) (by simpa using h2)
theorem PtsOk.ext {F : Fx} {B : Nat} {H0 H H' : Hp} {R R' : Reg} (I : HpOk F B R H) (e : Ext F R H R' H') : ∀ {ps : List Pt} {vs : List V}, PtsOk F H0 H R ps vs → PtsOk F H0 H' R' ps vs
  | _, _, .nil => .nil
  | _, _, .cons a t d => .cons (a.ext I e) (t.ext I e) d
theorem PtsOk.back {F : Fx} {H0 H1 H : Hp} {R : Reg} (e : ∀ a, Nn H1 a → Nn H0 a) : ∀ {ps : List Pt} {vs : List V}, PtsOk F H1 H R ps vs → PtsOk F H0 H R ps vs
  | _, _, .nil => .nil
  | _, _, .cons a t d => .cons (a.back e) (t.back e) d
abbrev TPs := Ro → XQT → (List Pt → Prop) → Prop
def DPs (X : Cx) (E : XK) (c : Nat) (es : List Expr) (f : TPs) : Prop := ∃ t : TA, PA X es t ∧ ∀ F B R H σ ρ α XQ Q (K : List V → Hp → Prop), F.K = X.K → XLink F E XQ → B + c ≤ F.L → StOk F B R H σ ρ α → f ρ XQ Q →
  (∀ vs ps R' H', Ext F R H R' H' → HpOk F (B + c) R' H' → PtsOk F H H' R' ps vs → Q ps → K vs H') → t σ H K
def setAll : Ro → List Nat → List Pt → Ro
  | ρ, i :: is, p :: ps => setAll (ρ.set i p.sl) is ps
  | ρ, _, _ => ρ
section
variable {X : Cx} {E : XK} {c ca cb cc : Nat} {a b d e : Expr} {es : List Expr} {pa : TP} {fs : TPs} {pos p : Pos}
theorem dps_nil : DPs X E 0 [] (fun _ _ Q => Q []) := ⟨_, pa_nil, fun F B R H σ ρ α XQ Q K _ _ _ S h k => k [] [] R H .refl S.hp .nil h⟩
theorem dps_cons (ha : DPt X E ca e pa) (hb : DPs X E cb es fs) (hs : starEach (e :: es) X.env = (false, eval e X.env) :: starEach es X.env := by rfl) : DPs X E (ca + cb) (e :: es) (fun ρ XQ Q => pa ρ XQ fun p => fs ρ XQ fun ps => Q (p :: ps)) := by
  obtain ⟨t, p, s⟩ := ha
  obtain ⟨t2, p2, s2⟩ := hb
  refine ⟨_, pa_cons p p2 hs, fun F B R H σ ρ α XQ Q K hK hX hB S h k => ?_⟩
  refine s F B R H σ ρ α XQ _ _ hK hX (by omega) S h fun v u R1 H1 e1 o1 r1 q1 => ?_
  refine s2 F (B + ca) R1 H1 σ ρ α XQ _ _ hK hX (by omega) (S.ext e1 o1) q1 fun vs us R2 H2 e2 o2 r2 q2 => ?_
  refine k _ (u :: us) R2 H2 (e1.trans e2) (by rw [← Nat.add_assoc]; exact o2) (.cons (r1.ext o1 e2) (r2.back e1.there) fun j p' v' hp hv i1 i2 ev => ?_) q2
  have h2 := r2.get hp hv
  cases u with
  | va x => cases i1
  | ow d n =>
    cases p' with
    | va x => cases i2
    | ow d' n' =>
      obtain ⟨a1, e1', w1, z1⟩ := r1
      obtain ⟨a2, e2', w2, z2⟩ := h2
      rw [e1', e2'] at ev
      cases ev
      obtain ⟨o, ho, nt⟩ := w1.some
      exact z2 o ho nt
def gNames : List Nat → TGs
  | [] => gNil
  | i :: is => gCons (gName i) (gNames is)
/-- names, told in turn -/
inductive NmsOk (X : Cx) : List Nat → List Expr → Prop
  | nil : NmsOk X [] []
  | cons {i : Nat} {is : List Nat} {e : Expr} {es : List Expr} : PG X e (gName i) → NmsOk X is es → ((assignEach (e :: es) X.env).map (·.2) = assign e X.env :: (assignEach es X.env).map (·.2)) → NmsOk X (i :: is) (e :: es)
theorem NmsOk.pgs {is : List Nat} {es : List Expr} (h : NmsOk X is es) : PGs X es (gNames is) := by
  induction h with
  | nil => exact pgs_nil
  | cons a _ hs ih => exact pgs_cons a ih hs
theorem setall_ok {F : Fx} {B : Nat} {R : Reg} {H0 H : Hp} : ∀ (is : List Nat) (ps : List Pt) (vs : List V) (σ : L2.St) (ρ : Ro) (α : Nat → Addr), is.length = ps.length → PtsOk F H0 H R ps vs → StOk F B R H σ ρ α →
    (∀ (k : Nat) p v, ps[k]? = some p → vs[k]? = some v → p.isO = true → ∀ j d n, ρ[j]? = some (.ow d n) → V.ref (α j) ≠ v) → ∀ Q : L2.St → Hp → Prop, (∀ σ' α', StOk F B R H σ' (setAll ρ is ps) α' → Q σ' H) → gNames is vs σ H Q
  | [], [], _, σ, ρ, α, _, .nil, S, _, Q, q => ⟨rfl, q σ α S⟩
  | i :: is, p :: ps, _, σ, ρ, α, hl, .cons (v := v) (vs := vs) r t ap, S, ne, Q, q => by
    refine ⟨v, vs, rfl, ?_⟩
    obtain ⟨α1, S1, hα⟩ : ∃ α', StOk F B R H (σ.set i (some v)) (ρ.set i p.sl) α' ∧ ∀ j d n, (ρ.set i p.sl)[j]? = some (.ow d n) → (∃ d n, ρ[j]? = some (.ow d n) ∧ α' j = α j) ∨ (v = .ref (α' j) ∧ ∃ d n, p = .ow d n) := by
      cases p with
      | va x => exact ⟨α, S.setva i r, fun j d n h => by
          rcases set_get h with ⟨_, e⟩ | ⟨_, h⟩
          · cases e
          · exact .inl ⟨d, n, h, rfl⟩⟩
      | ow d' n' => exact S.setpt (i := i) r fun a ea hn j d n hj ej => ne 0 _ v rfl rfl rfl j d n hj (by rw [ej, ea])
    refine setall_ok is ps vs _ _ α1 (by simpa using hl) t S1 (fun k p' v' hp hv ho j d n hj ej => ?_) Q q
    rcases hα j d n hj with ⟨d0, n0, h0, e0⟩ | ⟨e0, d0, n0, ep⟩
    · exact ne (k + 1) p' v' (by simpa using hp) (by simpa using hv) ho j d0 n0 h0 (by rw [← e0]; exact ej)
    · subst ep
      exact ap k p' v' hp hv rfl ho (by rw [e0]; exact ej.symm)
/-- a, b = e, f by a tuple -/
theorem ds_parT (l : List Nat) {is : List Nat} {ts : List Expr} {kt k2 : Nat} {pt pt2 : Pos} (hp : DPs X E c es fs) (hc : X.calm = true) (hn : NmsOk X is ts)
    (hl : (assignEach ts X.env).length = es.length) (hst : (assignEach ts X.env).findIdx? (·.1) = none) (hl2 : is.length = es.length) (ps : ∀ te t, PE X (.Tuple es k2 pt2) te → PG X (.Tuple ts kt pt) t → PS X (.Assign [.Tuple ts kt pt] (.Tuple es k2 pt2) pos) (tAsg te t)) :
    DS X E c (.Assign [.Tuple ts kt pt] (.Tuple es k2 pt2) pos) (fun N ρ XQ => fs (frz l ρ) XQ fun us => us.length = es.length ∧ es.length ≤ 1000 ∧ N.nx (setAll (frz l ρ) is us)) := by
  obtain ⟨t, p, s⟩ := hp
  refine ⟨_, ps _ _ (pe_tup p) (pg_tup hc hn.pgs hl hst), fun F B R H σ ρ α XQ N K hK hX hB S h k => ?_⟩
  obtain ⟨R1, S1, hR⟩ := S.frzs l
  have z0 : Fz F R H R1 H := ⟨hR, fun _ _ _ h _ => h, fun _ _ h => h⟩
  refine s F B R1 H σ (frz l ρ) α XQ _ _ hK hX hB S1 h fun vs us R2 H2 e2 o2 r2 ⟨h1, h2, q⟩ => ?_
  have hlen : vs.length = es.length := by rw [← r2.len]; exact h1
  refine ⟨by rw [hlen, sizeLine_eq]; omega, fun q' hq' => ?_⟩
  have e3 : Ext F R2 H2 R2 (upd H2 q' (.tup vs)) := .new0 hq'
  have o3 := o2.new0 hq' (o := .tup vs) .tup
  refine ⟨q', vs, rfl, SqT.of upd_same, hlen, ?_⟩
  have S2 := (S1.ext e2 o2).ext e3 o3
  refine setall_ok is us vs σ (frz l ρ) α (by rw [hl2, h1]) (r2.ext o2 e3) S2 (fun kk p' v' hp' hv' ho j d n hj ej => ?_) _ fun σ' α' S' => k.nx σ' _ _ R2 α' (z0.trans ((e2.trans e3).fz S1.hp)) S' q
  have h4 := r2.get hp' hv'
  cases p' with
  | va x => cases ho
  | ow d' n' =>
    obtain ⟨a2, ea, w2, z2⟩ := h4
    rw [ea] at ej
    cases ej
    obtain ⟨o, ho', nt⟩ := (S1.ow j d n hj).2.some
    exact z2 o ho' nt
end
end DL

set_option Elab.async false
set_option linter.all false
set_option maxRecDepth 100000
set_option maxHeartbeats 4000000
/-! DL, part ae: an own list is read, and stays own; x.index(y). -/
namespace DL
open PySem PySem.Spec PyProof.Rows L2

/-- the first place of a text -/
def idxS (x : Str) : List Str → Nat
  | [] => 0
  | y :: ys => if y = x then 0 else idxS x ys + 1
theorem idxS_lt {x : Str} : ∀ {ys : List Str}, x ∈ ys → idxS x ys < ys.length
  | y :: ys, h => by
    unfold idxS
    split
    · simp
    · rename_i hn
      rcases List.mem_cons.mp h with e | h
      · exact absurd e.symm hn
      · have := idxS_lt h
        simp only [List.length_cons]
        omega
theorem idxS_at {x : Str} : ∀ {ys : List Str}, x ∈ ys → ys[idxS x ys]? = some x ∧ ∀ m y, m < idxS x ys → ys[m]? = some y → y ≠ x
  | y :: ys, h => by
    unfold idxS
    split
    · rename_i e
      subst e
      exact ⟨rfl, fun m z hm => by omega⟩
    · rename_i hn
      rcases List.mem_cons.mp h with e | h
      · exact absurd e.symm hn
      · obtain ⟨h1, h2⟩ := idxS_at h
        refine ⟨by rw [List.getElem?_cons_succ]; exact h1, fun m z hm hz => ?_⟩
        cases m with
        | zero => simp at hz; rw [← hz]; exact hn
        | succ m => exact h2 m z (by omega) (by simpa using hz)
section
variable {X : Cx} {E : XK} {c ca cb cc : Nat} {a b d e : Expr} {es : List Expr} {fa fb fe fd : TD} {pos p apos : Pos} {x y z : Str}
/-- a comprehension within another one -/
def rl (scope osc : Scope) : Scope :=
  { scope with names := scope.names.map fun (n, k) => if (k == .free && osc.kind == .function && osc.names.lookup n == some .cell) then (n, .cell) else (n, k) }
theorem blkOk_in {N : List Str} {sco osc scope : Scope} {env : Env} {cl : List (Str × Addr)} {C : Addr} {own : List (Str × Nat)} (he : env.scope = osc) (h : blkC N (rl sco osc) scope own = true) : BlkOk N (compEnvC sco cl C env).scope scope own := by
  subst he
  exact blkOk_by h
/-- while, by an invariant that counts down -/
theorem whN_go {tc : TDt} {gb : TDS} {l : List Nat} {N : DEnds} {XQ : XQT} (Inv : Nat → Ro → Prop)
    (hs : ∀ k ρ, Inv k ρ → ∀ K : Ro → Prop, (∀ k' ρ', k = k' + 1 → Inv k' ρ' → K ρ') → tc (frz l ρ) XQ fun b => if b = true then gb { N with nx := K, ct := K, bk := N.nx } ρ XQ else N.nx ρ) : ∀ k ρ, Inv k ρ → whN tc gb l N XQ (k + 1) ρ
  | 0, ρ, h => hs 0 ρ h _ fun k' ρ' e _ => by omega
  | k + 1, ρ, h => hs (k + 1) ρ h _ fun k' ρ' e h' => by
    obtain rfl : k = k' := by omega
    exact whN_go Inv hs k ρ' h'
/-- a plainer reading -/
theorem de_imp {f g : TD} (h : DE X E c e f) (k : ∀ ρ XQ Q, g ρ XQ Q → f ρ XQ Q) : DE X E c e g := by
  obtain ⟨t, p, s⟩ := h
  exact ⟨t, p, fun F B R H σ ρ α XQ Q K hK hX hB S h => s F B R H σ ρ α XQ Q K hK hX hB S (k _ _ _ h)⟩
theorem ds_imp {f g : TDS} {st : Stmt} (h : DS X E c st f) (k : ∀ N ρ XQ, g N ρ XQ → f N ρ XQ) : DS X E c st g := by
  obtain ⟨t, p, s⟩ := h
  exact ⟨t, p, fun F B R H σ ρ α XQ N K hK hX hB S h => s F B R H σ ρ α XQ N K hK hX hB S (k _ _ _ h)⟩
theorem dt_imp {f g : TDt} (h : DT X E c e f) (k : ∀ ρ XQ Q, g ρ XQ Q → f ρ XQ Q) : DT X E c e g := by
  obtain ⟨t, p, s⟩ := h
  exact ⟨t, p, fun F B R H σ ρ α XQ Q K hK hX hB S h => s F B R H σ ρ α XQ Q K hK hX hB S (k _ _ _ h)⟩
/-- x[e], x an own list -/
theorem de_ixO {i : Nat} (va : PE X a (tVar i)) (hb : DE X E cb b fb) (hs : PlainIx b) : DE X E cb (.Subscript a b pos) (fun ρ XQ Q => ∃ ds n, ρ[i]? = some (.ow (.lst ds) n) ∧ fb ρ XQ fun y => ∃ j d, y.d = .int j ∧ atI ds j = some d ∧ Q ⟨d, n, none⟩) := by
  obtain ⟨tb, pb, sb⟩ := hb
  refine ⟨_, pe_ix ix_list va pb hs, fun F B R H σ ρ α XQ Q K hK hX hB S ⟨ds, n, hi, h⟩ k => ?_⟩
  obtain ⟨e1, w1⟩ := S.ow i _ _ hi
  refine ⟨_, e1, ?_⟩
  refine sb F B R H σ ρ α XQ _ _ hK hX hB S h fun u y R1 H1 e1' o1 r1 ⟨j, d, ey, hd, q⟩ => ?_
  obtain ⟨_, w2⟩ := (S.ext e1' o1).ow i _ _ hi
  obtain ⟨vs, hv, lv⟩ := w2.at_
  obtain ⟨v, hv2, r⟩ := atI_rp lv hd
  have r2 := r1.1
  rw [ey] at r2
  cases r2
  exact ⟨_, vs, j, v, rfl, rfl, .of hv, hv2, k _ _ R1 H1 e1' o1 (.of r) q⟩
/-- e in x, x an own list of scalars -/
theorem dt_inO {i : Nat} (ha : DE X E ca a fa) (vb : PE X b (tVar i)) (hm : behindInMarks .In b = false) : DT X E ca (.Compare a [.In] [b] pos) (fun ρ XQ Q => fa ρ XQ fun x => ∃ ds n, ρ[i]? = some (.ow (.lst ds) n) ∧ x.d.sca = true ∧ D.scaL ds = true ∧ Q (D.isIn x.d ds)) := by
  obtain ⟨ta, pa, sa⟩ := ha
  refine ⟨_, pt_cmpR op_in_seq pa vb hm, fun F B R H σ ρ α XQ Q K hK hX hB S h k => ?_⟩
  refine sa F B R H σ ρ α XQ _ _ hK hX hB S h fun v x R1 H1 e1 o1 r1 ⟨ds, n, hi, sx, sl, q⟩ => ?_
  obtain ⟨e2, w2⟩ := (S.ext e1 o1).ow i _ _ hi
  obtain ⟨vs, hv, lv⟩ := w2.at_
  refine ⟨_, e2, _, vs, rfl, .inl (.of hv), sca_flat r1.1 sx, scaL_flat lv sl, ?_⟩
  rw [isIn_eq r1.1 sx lv sl]
  exact ⟨_, rfl, k _ R1 H1 e1 o1 q⟩
theorem dt_notInO {i : Nat} (ha : DE X E ca a fa) (vb : PE X b (tVar i)) (hm : behindInMarks .NotIn b = false) : DT X E ca (.Compare a [.NotIn] [b] pos) (fun ρ XQ Q => fa ρ XQ fun x => ∃ ds n, ρ[i]? = some (.ow (.lst ds) n) ∧ x.d.sca = true ∧ D.scaL ds = true ∧ Q (!D.isIn x.d ds)) := by
  obtain ⟨ta, pa, sa⟩ := ha
  refine ⟨_, pt_cmpR op_notIn_seq pa vb hm, fun F B R H σ ρ α XQ Q K hK hX hB S h k => ?_⟩
  refine sa F B R H σ ρ α XQ _ _ hK hX hB S h fun v x R1 H1 e1 o1 r1 ⟨ds, n, hi, sx, sl, q⟩ => ?_
  obtain ⟨e2, w2⟩ := (S.ext e1 o1).ow i _ _ hi
  obtain ⟨vs, hv, lv⟩ := w2.at_
  refine ⟨_, e2, _, vs, rfl, .inl (.of hv), sca_flat r1.1 sx, scaL_flat lv sl, ?_⟩
  rw [isIn_eq r1.1 sx lv sl]
  exact ⟨_, rfl, k _ R1 H1 e1 o1 q⟩
theorem isIn_str {x : Str} : ∀ {ys : List Str}, D.isIn (.str x) (ys.map D.str) = decide (x ∈ ys)
  | [] => rfl
  | y :: ys => by
    show (D.eqv (.str y) (.str x) || D.isIn (.str x) (ys.map D.str)) = _
    rw [isIn_str]
    simp only [List.mem_cons, Bool.decide_or]
    by_cases h : y = x
    · simp [D.eqv, h]
    · have h2 : ¬ x = y := fun z => h z.symm
      simp [D.eqv, h, h2]
theorem scaL_str : ∀ {ys : List Str}, D.scaL (ys.map D.str) = true
  | [] => rfl
  | y :: ys => by rw [List.map_cons, D.scaL, scaL_str]; rfl
/-- x.index(e), x a list of texts -/
theorem de_index (pe : ∀ ta tb, PE X a ta → PE X e tb → PE X (.Call (.Attribute a "index" apos) [e] [] pos) (tBM X.K "list" (rIndex X.K) ta (tCons tb tNil))) (ha : DE X E ca a fa) (he : DE X E cb e fe) :
    DE X E (ca + cb) (.Call (.Attribute a "index" apos) [e] [] pos) (fun ρ XQ Q => fa ρ XQ fun x => (∃ ys : List Str, x.d = .lst (ys.map D.str)) ∧ fe ρ XQ fun y => ∃ (ys : List Str) (z : Str), x.d = .lst (ys.map D.str) ∧ y.d = .str z ∧ z ∈ ys ∧ Q ⟨.int (idxS z ys : Nat), true, none⟩) := by
  obtain ⟨ta, pa, sa⟩ := ha
  obtain ⟨tb, pb, sb⟩ := he
  refine ⟨_, pe _ _ pa pb, fun F B R H σ ρ α XQ Q K hK hX hB S h k => ?_⟩
  refine sa F B R H σ ρ α XQ _ _ hK hX (by omega) S h fun v x R1 H1 e1 o1 r1 ⟨⟨ys0, ex0⟩, q1⟩ => ?_
  obtain ⟨a0, vs0, rfl, ha0, la0⟩ := r1.lstL ex0
  refine ⟨.inl ⟨rfl, _, SqL.of ha0⟩, ?_⟩
  refine sb F (B + ca) R1 H1 σ ρ α XQ _ _ hK hX (by omega) (S.ext e1 o1) q1 fun u y R2 H2 e2 o2 r2 ⟨ys, z, ex, ey, hz, q2⟩ => ?_
  obtain ⟨a1, vs, ea, ha1, la1⟩ := (r1.ext o1 e2).lstL ex
  cases ea
  have ev := rpl_strsI la1
  subst ev
  have r3 := r2.1
  rw [ey] at r3
  cases r3
  obtain ⟨h1, h2⟩ := idxS_at hz
  refine ⟨a0, _, _, idxS z ys, .str z, rfl, rfl, SqL.of ha1, rfl, (List.all_eq_true.mpr fun v hv => by obtain ⟨s, _, rfl⟩ := List.mem_map.mp hv; rfl), by rw [List.getElem?_map, h1]; rfl, by simp [eqV], fun m z' hm hz' => ?_, k _ ⟨.int _, true, none⟩ R2 H2 (e1.trans e2) (by rw [← Nat.add_assoc]; exact o2) (.of (.int _)) q2⟩
  rw [List.getElem?_map] at hz'
  cases e : ys[m]? with
  | none => rw [e] at hz'; cases hz'
  | some w =>
    rw [e] at hz'
    cases hz'
    simpa [eqV] using h2 m w hm e
end
end DL

set_option Elab.async false
set_option linter.all false
set_option maxRecDepth 100000
set_option maxHeartbeats 4000000
/-! DL, part af: what can be sorted; sorted lists of the same items. -/
namespace DL
open PySem PySem.Spec PyProof.Rows L2

abbrev tokD (d : D) : List (Int ⊕ List Nat) := PySem.W.keyToks d.pyd
theorem leD_ok : PySem.W.TotalLe leD := PySem.W.sortLe_total _ _ _
theorem leD_anti {a b : D} (h : leD a b = true) (k : leD b a = true) : tokD a = tokD b := by
  have h' : (!PyProof.Rows.lexLt PyProof.Rows.itemOrd (tokD b) (tokD a)) = true := h
  have k' : (!PyProof.Rows.lexLt PyProof.Rows.itemOrd (tokD a) (tokD b)) = true := k
  rw [Bool.not_eq_true'] at h' k'
  exact PyProof.Rows.lex_total _ _ k' h'
theorem srtD_sorted (xs : List D) : (srtD xs).Pairwise fun a b => leD a b = true := List.pairwise_mergeSort (fun a b c => leD_ok.trans a b c) (fun a b => by
  rcases leD_ok.total a b with h | h <;> simp [h]) xs
theorem srtD_perm (xs : List D) : (srtD xs).Perm xs := List.mergeSort_perm xs leD
theorem srtD_of {xs : List D} (h : xs.Pairwise fun a b => leD a b = true) : srtD xs = xs := List.mergeSort_of_pairwise h
theorem srt_eq {xs ys : List D} (p : xs.Perm ys) (inj : ∀ a ∈ xs, ∀ b ∈ xs, tokD a = tokD b → a = b) : srtD xs = srtD ys :=
  List.Perm.eq_of_pairwise (le := fun a b => leD a b = true) (fun a b ha hb h k => inj a ((srtD_perm xs).mem_iff.mp ha) b (p.mem_iff.mpr ((srtD_perm ys).mem_iff.mp hb)) (leD_anti h k)) (srtD_sorted xs) (srtD_sorted ys) (((srtD_perm xs).trans p).trans (srtD_perm ys).symm)
section
variable {α : Type}
def trD (r : Str × Int × Int) : D := .tup [.str r.1, .int r.2.1, .int r.2.2]
def prD (r : Int × Int) : D := .tup [.int r.1, .int r.2]
theorem log_ok {i : Int} (h : i.natAbs ≤ 10 ^ 30) : i.natAbs.log2 < 1920 := (Nic.int h).all.2.2.1 |> fun z => by simpa [D.shw] using z
theorem canSort_tr {l : List (Str × Int × Int)} (h : ∀ r ∈ l, PyData.strOk r.1 = true ∧ r.2.1.natAbs ≤ 10 ^ 30 ∧ r.2.2.natAbs ≤ 10 ^ 30) : CanSort (l.map trD) := by
  refine ⟨shwL_of fun d hd => ?_, fun d hd d' hd' => ?_, .inl fun d hd => ?_, fun d hd => ?_⟩
  · obtain ⟨r, hr, rfl⟩ := List.mem_map.mp hd
    obtain ⟨h1, h2, h3⟩ := h r hr
    simp only [trD, D.shw, D.shwL, h1, decide_eq_true (log_ok h2), decide_eq_true (log_ok h3)]
    rfl
  · rw [List.map_map] at hd hd'
    obtain ⟨r, _, rfl⟩ := List.mem_map.mp hd
    obtain ⟨r', _, rfl⟩ := List.mem_map.mp hd'
    rfl
  · rw [List.map_map] at hd
    obtain ⟨r, _, rfl⟩ := List.mem_map.mp hd
    exact ⟨_, _, rfl⟩
  · obtain ⟨r, _, rfl⟩ := List.mem_map.mp hd
    exact Nat.le_trans (show _ ≤ 2 by simp [trD, D.dep, D.depL]) (by decide)
theorem canSort_pr {l : List (Int × Int)} (h : ∀ r ∈ l, r.1.natAbs ≤ 10 ^ 30 ∧ r.2.natAbs ≤ 10 ^ 30) : CanSort (l.map prD) := by
  refine ⟨shwL_of fun d hd => ?_, fun d hd d' hd' => ?_, .inl fun d hd => ?_, fun d hd => ?_⟩
  · obtain ⟨r, hr, rfl⟩ := List.mem_map.mp hd
    obtain ⟨h2, h3⟩ := h r hr
    simp only [prD, D.shw, D.shwL, decide_eq_true (log_ok h2), decide_eq_true (log_ok h3)]
    rfl
  · rw [List.map_map] at hd hd'
    obtain ⟨r, _, rfl⟩ := List.mem_map.mp hd
    obtain ⟨r', _, rfl⟩ := List.mem_map.mp hd'
    rfl
  · rw [List.map_map] at hd
    obtain ⟨r, _, rfl⟩ := List.mem_map.mp hd
    exact ⟨_, _, rfl⟩
  · obtain ⟨r, _, rfl⟩ := List.mem_map.mp hd
    exact Nat.le_trans (show _ ≤ 2 by simp [prD, D.dep, D.depL]) (by decide)
theorem canSort_st {l : List Str} (h : ∀ x ∈ l, PyData.strOk x = true) : CanSort (l.map D.str) := by
  refine ⟨shwL_of fun d hd => ?_, fun d hd d' hd' => ?_, .inr fun d hd => ?_, fun d hd => ?_⟩
  · obtain ⟨r, hr, rfl⟩ := List.mem_map.mp hd
    exact h r hr
  · rw [List.map_map] at hd hd'
    obtain ⟨r, _, rfl⟩ := List.mem_map.mp hd
    obtain ⟨r', _, rfl⟩ := List.mem_map.mp hd'
    rfl
  · rw [List.map_map] at hd
    obtain ⟨r, _, rfl⟩ := List.mem_map.mp hd
    exact ⟨fun e => (nomatch e), fun xs e => (nomatch e)⟩
  · obtain ⟨r, _, rfl⟩ := List.mem_map.mp hd
    exact Nat.zero_le _
theorem str_ext {x y : Str} (h : x.cps.toList = y.cps.toList) : x = y := by
  obtain ⟨⟨a⟩⟩ := x
  obtain ⟨⟨b⟩⟩ := y
  have h : a = b := h
  rw [h]
theorem tr_inj {r s : Str × Int × Int} (h : tokD (trD r) = tokD (trD s)) : r = s := by
  obtain ⟨x, i, j⟩ := r
  obtain ⟨y, k, l⟩ := s
  simp [tokD, trD, D.pyd, D.pydL, PySem.W.keyToks, PySem.W.keyToksAll] at h
  obtain ⟨h1, h2, h3⟩ := h
  subst h2 h3
  rw [str_ext (x := x) (y := y) (by simpa using h1)]
/-- sorted rows -/
def sortT (l : List (Str × Int × Int)) : List (Str × Int × Int) := l.mergeSort fun a b => leD (trD a) (trD b)
theorem sortT_eq (l : List (Str × Int × Int)) : srtD (l.map trD) = (sortT l).map trD := (List.map_mergeSort (f := trD) (r := fun a b => leD (trD a) (trD b)) (s := leD) fun a _ b _ => rfl).symm
theorem sortT_perm (l : List (Str × Int × Int)) : (sortT l).Perm l := List.mergeSort_perm _ _
theorem sortT_pw (l : List (Str × Int × Int)) : (sortT l).Pairwise fun a b => leD (trD a) (trD b) = true := List.pairwise_mergeSort (fun a b c => leD_ok.trans (trD a) (trD b) (trD c)) (fun a b => by
  rcases leD_ok.total (trD a) (trD b) with h | h <;> simp [h]) l
/-- in order -/
def InOrd (l : List (Str × Int × Int)) : Prop := sortT l = l
theorem sortT_ord (l : List (Str × Int × Int)) : InOrd (sortT l) := List.mergeSort_of_pairwise (sortT_pw l)
theorem sortT_of_perm {l m : List (Str × Int × Int)} (p : l.Perm m) (h : InOrd m) : sortT l = m := by
  have h1 : sortT l = sortT m := List.Perm.eq_of_pairwise (le := fun a b => leD (trD a) (trD b) = true) (fun a b ha hb h k => tr_inj (leD_anti h k))
    (sortT_pw l) (sortT_pw m) (((sortT_perm l).trans p).trans (sortT_perm m).symm)
  rw [h1]
  exact h
end
end DL

set_option Elab.async false
set_option linter.all false
set_option maxRecDepth 100000
set_option maxHeartbeats 4000000
/-! DL, part ag: list(range(n)). -/
namespace DL
open PySem PySem.Spec PyProof.Rows L2

theorem rpl_rg {F : Fx} {H : Hp} {R : Reg} {n : Bool} {f : Nat → Int} : ∀ ks : List Nat, RpL F H R n (ks.map fun k => V.int (f k)) (ks.map fun k => D.int (f k))
  | [] => .nil
  | k :: ks => .cons (.int _) (rpl_rg ks)
section
variable {X : Cx} {E : XK} {c : Nat} {a : Expr} {fa : TD} {pos p p2 p3 : Pos}
theorem de_listRg (hc : X.calm = true) (hg : Gl X "list") (hm : X.mg "list" = none) (hg2 : Gl X "range") (hm2 : X.mg "range" = none) (ha : DE X E c a fa) (na : starEach [a] X.env = (false, eval a X.env) :: starEach [] X.env := by rfl)
    (na2 : starEach [.Call (.Name "range" p2) [a] [] p3] X.env = (false, eval (.Call (.Name "range" p2) [a] [] p3) X.env) :: starEach [] X.env := by rfl) :
    DE X E c (.Call (.Name "list" p) [.Call (.Name "range" p2) [a] [] p3] [] pos) (fun ρ XQ Q => fa ρ XQ fun x => ∃ n : Nat, x.d = .int (n : Nat) ∧ n ≤ BIG ∧ Q ⟨.lst ((List.range n).map fun k => .int (k : Nat)), true, none⟩) := by
  obtain ⟨t, pt, s⟩ := ha
  refine ⟨_, pe_listRg hc hg hm (prg_1 hg2 hm2 pt na) na2, fun F B R H σ ρ α XQ Q K hK hX hB S h k => ?_⟩
  refine s F B R H σ ρ α XQ _ _ hK hX hB S h fun v x R1 H1 e1 o1 r1 ⟨n, ex, hn, q⟩ => ?_
  have r2 := r1.1
  rw [ex] at r2
  cases r2
  have hB : n ≤ 16777216 := hn
  refine ⟨_, rfl, RgOk.of_le (by omega) (by omega) (by omega) (by omega), fun q' hq' => ?_⟩
  have er : rgV 0 (n : Int) = (List.range n).map fun k => V.int ((fun k : Nat => (k : Int)) k) := by
    unfold rgV
    rw [show ((n : Int) - 0).toNat = n by omega]
    refine List.map_congr_left fun k _ => ?_
    rw [Int.zero_add]
  rw [er]
  obtain ⟨e2, o2, r3⟩ := new_lst o1 hq' (rpl_rg (F := F) (H := H1) (R := R1) (n := true) (f := fun k : Nat => (k : Int)) (List.range n))
  exact k _ ⟨_, true, none⟩ _ _ (e1.trans e2) o2 (.of r3) q
end
end DL

set_option Elab.async false
set_option linter.all false
set_option maxRecDepth 100000
set_option maxHeartbeats 4000000
namespace DL
open PySem PySem.Spec PyProof.Rows L2
set_option maxHeartbeats 1000000 in
theorem meets_enum1 {v : Value} {o : Obj} {H : Heap → Prop} (B : Begins v o H) :
    Meets (Builtin.«enumerate.__new__» ⟨[.type "enumerate", v], []⟩) (fun _ R s => H s.heap ∧
      R (.ok (.ret (.ref (s.heap.push o).objs.size))) { s with heap := (s.heap.push o).push { cls := .type "enumerate", data := .fields #[.none, .bool false, .ref s.heap.objs.size, rawInt 0, .none, .none] } }) :=
  .of_wp fun prog w A R s h => by
    obtain ⟨hp, g, d, tk, os⟩ := s; obtain ⟨h1, h⟩ := h
    have hsub := sub_enumerate
    have q1 : ∀ {A' : Around} {E : Value → Shared → Prop} {Q : Value → Shared → Prop}, Q (.ref hp.objs.size) ⟨hp.push o, g, d, tk, os⟩ → wpAny (model prog w) A' (pyIter v) Q E ⟨hp, g, d, tk, os⟩ :=
      fun q => B.iter prog w _ _ ⟨hp, g, d, tk, os⟩ _ h1 q
    wp_walk using q1
    refine wpAny_stack_any fun st => wpAny_pure ?_
    split
    · rename_i c _ _ _ _ _
      cases (c == Value.type "enumerate")
      · wp_walk using q1
        exact ⟨_, rfl, h⟩
      · wp_walk using q1
        exact ⟨_, rfl, h⟩
    · wp_walk using q1
      exact ⟨_, rfl, h⟩
section
variable {prog : Program} {w : World} {A : Around} {E : Value → Shared → Prop} {s : Shared}
theorem call_enum1 {v : Value} {o : Obj} {H : Heap → Prop} {Q : Value → Shared → Prop} (B : Begins v o H) (h1 : H s.heap)
    (h : ∀ h', IsEnum h' (s.heap.objs.size + 1) s.heap.objs.size 0 .none → h'.get? s.heap.objs.size = some o → h'.objs.size = s.heap.objs.size + 2 →
      (∀ b o, s.heap.get? b = some o → h'.get? b = some o) → Q (.ref (s.heap.objs.size + 1)) { s with heap := h' }) :
    wpAny (model prog w) A (call (.type "enumerate") [v]) Q E s := by
  refine callType_new F.called_enumerate (by decide) (F.typeCall_enumerate_1 _) (F.newCall_enumerate_1 _) (fun obj => F.args_object_init_2 obj _) F.entry_enumerate_new
    (meets_enum1 B) ⟨h1, ?_⟩
  have hz : (s.heap.push o).objs.size = s.heap.objs.size + 1 := Heap.size_push ..
  show _ ∧ _
  rw [hz]
  have he : IsEnum ((s.heap.push o).push { cls := .type "enumerate", data := .fields #[.none, .bool false, .ref s.heap.objs.size, rawInt 0, .none, .none] }) (s.heap.objs.size + 1) s.heap.objs.size 0 .none := by
    have := Heap.get?_push_size (s.heap.push o) (o := { cls := .type "enumerate", data := .fields #[.none, .bool false, .ref s.heap.objs.size, rawInt 0, .none, .none] }) rfl
    rw [hz] at this; exact this
  refine ⟨⟨_, he, rfl⟩, h _ he (Heap.get?_push_of_some _ (Heap.get?_push_size _ B.free)) (by rw [Heap.size_push, hz]) fun b o x => Heap.get?_push_of_some _ (Heap.get?_push_of_some _ x)⟩
theorem enum_endT {e it l : Addr} {i : Nat} {items : Array Value} {old : Value} {Q : Option Value → Shared → Prop} (hh : A.handled = none)
    (he : IsEnum s.heap e it i old) (hit : s.heap.IsTupleIter it l i) (hl : s.heap.IsTuple l items) (hx : items[i]? = none)
    (hQ : ∀ h', Heap.ExtBut it s.heap h' → Q none { s with heap := h' }) : wpAny (model prog w) A (pyNext (.ref e)) Q E s := by
  have hT : s.TypeIs (.ref e) "enumerate" := ⟨_, he, rfl⟩
  unfold pyNext
  refine wpAny_bind (wpAny_attempt (wpAny_callSpecial?_slot (name := Str.ofString "__next__") hT F.slot_enumerate_next
    (wpAny_call_entry F.slot_enumerate_next hT F.entry_enumerate_next ?_ (F.args_enumerate_next_1 _))))
  show wpAny _ _ (field (.ref e) 2 >>= _) _ _ _
  refine wpAny_bind (wpAny_field he rfl (x := .ref it) rfl ?_)
  refine wpAny_bind (RZ.nextOf_tuple_end hh hit hl hx fun h' x he' hx' => ?_)
  obtain ⟨o, ho, hc⟩ := hx'
  refine wpAny_bind (wpAny_isInstance (T := "StopIteration") (b := true) ⟨o, ho, hc⟩ isSubtype_stop ?_)
  exact wpAny_pure (hQ _ he')
end
/-- the tuple at a, each item in a new pair -/
def IteT (K : PySem.W.Frag) (a : Addr) : It :=
  ⟨fun i H => ∃ (xs : List V) (x : V), SqT K H a xs ∧ xs[i]? = some x, fun i H v H' => ∃ T x, v = .ref T ∧ H T = none ∧ H' = upd H T (.tup [.int (i : Nat), x]) ∧ ∀ xs, SqT K H a xs → xs[i]? = some x, fun i H => ∃ xs : List V, SqT K H a xs ∧ xs.length ≤ i⟩
theorem turn_enumT {P : Program} {w : World} {K : PySem.W.Frag} {elts : List Expr} {kk : Nat} {tpos : Pos} (a e it : Addr) :
    Turn P w K (.Tuple elts kk tpos) (IteT K a) [e, it] e (fun i h => (∃ old, IsEnum h e it ((i : Nat) : Int) old) ∧ h.IsTupleIter it a i ∧ e ≠ it) where
  mem := by simp
  obj := fun i h st b hb => by
    obtain ⟨⟨old, he⟩, ⟨o, ho, hc, hd⟩, _⟩ := st
    have e' : b = e ∨ b = it := by simpa using hb
    rcases e' with z | z
    · rw [z]; exact ⟨_, he, fun v q => nomatch q⟩
    · rw [z]; exact ⟨o, ho, fun v q => by rw [hd] at q; cases q⟩
  keep := fun i h h' st k => let ⟨⟨old, he⟩, hi, hne⟩ := st; ⟨⟨old, k e (by simp) _ he⟩, hi.at fun o q => k it (by simp) o q, hne⟩
  item := by
    intro X hP hw hK hc i pins s σ H E I hf st hg
    subst hP hw hK
    obtain ⟨⟨old, he⟩, hit, hne⟩ := st
    obtain ⟨xs, x, hq, hx⟩ := hg
    obtain ⟨its, rv, p, hz⟩ := I.tuple hq
    obtain ⟨u, hu, ru⟩ := rv.get hx
    have hil0 : i < its.length := (List.getElem?_eq_some_iff.mp hu).1
    have hel : e < s.heap.objs.size := Heap.lt_size he
    have hil : it < s.heap.objs.size := by obtain ⟨_, q, _⟩ := hit; exact Heap.lt_size q
    have pt : s.heap.IsTuple a its.toArray := p
    have nea : a ≠ it := fun z => by
      obtain ⟨o1, q1, c1, _⟩ := pt
      obtain ⟨o2, q2, c2, _⟩ := hit
      rw [z, q2] at q1
      cases q1
      rw [c1] at c2
      injection c2 with c3
      exact absurd c3 (by decide)
    have nee : e ≠ a := fun z => by
      obtain ⟨o1, q1, c1, _⟩ := pt
      rw [← z, show s.heap.get? e = _ from he] at q1
      cases q1
      injection c1 with c3
      exact absurd c3 (by decide)
    refine wpAny_pyNext_enum_itemD (Draws.tuple (A := X.A.in1) (I.ok.hd hc) it a nea its.toArray) he ⟨hit, pt⟩ (by simpa using hil0) hne (by simp [hne, nee]) fun y h' tk hy ho hit' hT hsz hk => ?_
    have ey : y = u := by
      have : its[i]? = some y := by simpa using hy
      rw [hu] at this
      exact (Option.some.inj this).symm
    subst ey
    refine ⟨_, rfl, wpAny_letOwnedTupleGo_enum (s := { s with heap := h', toks := tk + 1 }) ho fun h'' he' sb => ?_⟩
    have hT2 : h''.get? s.heap.objs.size = some { cls := .type "tuple", data := .seq #[.int i tk, y] } := (sb.2 _ (Nat.ne_of_gt hel)).trans hT
    have new : ObjOk X.prog X.w (upd H s.heap.objs.size (.tup [.int (i : Nat), x])) h'' s.heap.objs.size (.tup [.int (i : Nat), x]) :=
      ⟨by show 2 ≤ sizeLine; decide, [.int i tk, y], .cons ⟨_, rfl⟩ (.cons ru .nil), ⟨_, hT2, rfl, _, rfl⟩⟩
    have I1 : Inv X pins σ (upd H s.heap.objs.size (.tup [.int (i : Nat), x])) { s with heap := h'', toks := tk + 1 } :=
      I.turnedNew (ch := [e, it]) (fun b ob hb q => (sb.2 b (fun z => hb (by simp [z]))).trans (hk b ob (fun z => hb (by simp [z])) (fun z => hb (by simp [z])) q)) hf (Nat.le_refl _) new
    refine ⟨.ref s.heap.objs.size, _, I1, rfl, ⟨_, x, rfl, I.hok.fresh (Nat.le_refl _), rfl, fun ys hy => by rw [I.tuple_inj hy hq]; exact hx⟩, ⟨⟨y, ?_⟩, hit'.1.at fun o q => (sb.2 it (Ne.symm hne)).trans q, hne⟩, fun b hb => ?_⟩
    · have e1 : ((i + 1 : Nat) : Int) = (i : Int) + 1 := by omega
      rw [e1]; exact he'
    · have hb' : b < s.heap.objs.size := by
        have e' : b = e ∨ b = it := by simpa using hb
        rcases e' with z | z
        · rw [z]; exact hel
        · rw [z]; exact hil
      rw [upd_ne (Nat.ne_of_lt hb')]
      exact (hf b hb).1
  done := by
    intro X hP hw hK hc i pins s σ H E I hf st hg
    subst hP hw hK
    obtain ⟨⟨old, he⟩, hit, hne⟩ := st
    obtain ⟨xs, hq, hx⟩ := hg
    obtain ⟨its, rv, p, hz⟩ := I.tuple hq
    obtain ⟨f0, f1, f2, f3, f4, f5⟩ := hf it (by simp)
    have hl := rv.length
    exact enum_endT (I.ok.hd hc) he hit p (by simp; omega) fun h' eb => ⟨rfl, I.turned (t' := s.toks) (fun b o hb q => eb b o hb q) f0 f1 f3 f4 f5⟩
  self := fun A i s Q E st h => let ⟨⟨_, he⟩, _⟩ := st; wpAny_pyIter_enum he h
def iEnumT (K : PySem.W.Frag) (ta : TA) : TI := fun σ H R => ta σ H fun vs H1 => ∃ a xs, vs = [.ref a] ∧ SqT K H1 a xs ∧ R (IteT K a) H1
theorem pi_enumT {X : Cx} {e : Expr} {ta : TA} {p pos tpos : Pos} {elts : List Expr} {kk : Nat} (hg : Gl X "enumerate") (hm : X.mg "enumerate" = none) (ha : PA X [e] ta) (hs : starEach [e] X.env = [(false, eval e X.env)] := by rfl) :
    PI X (.Tuple elts kk tpos) (.Call (.Name "enumerate" p) [e] [] pos) (iEnumT X.K ta) := by
  refine ⟨fun pins s σ H R I h => ?_⟩
  refine Call_ (ld_blt I hg hm boot_enumerate (PyProof.Rows.callWith_type1 (thn (ha.run pos pins s σ H _ I h) fun us s1 ⟨vs, H1, I1, r1, q1⟩ => ?_) hs rfl))
  obtain ⟨a, xs, ex, hq, q⟩ := q1
  subst ex
  cases r1 with
  | cons r rr =>
    cases rr
    cases r
    obtain ⟨its, rv, p', hz⟩ := I1.tuple hq
    refine call_enum1 (PySem.begins_tuple a its.toArray) p' fun h' he hit hsz hk => wpAny_pyIter_enum he ?_
    have I2 : Inv X pins σ H1 { s1 with heap := h' } := I1.kept (t' := s1.toks) hk
    refine ⟨s1.heap.objs.size + 1, [s1.heap.objs.size + 1, s1.heap.objs.size], _, _, H1, rfl, I2, turn_enumT a (s1.heap.objs.size + 1) s1.heap.objs.size, ⟨⟨.none, he⟩, ⟨_, hit, rfl, rfl⟩, Nat.succ_ne_self _⟩, fun b hb => ?_, q⟩
    have e' : b = s1.heap.objs.size + 1 ∨ b = s1.heap.objs.size := by simpa using hb
    have hle : s1.heap.objs.size ≤ b := by
      rcases e' with z | z
      · rw [z]; exact Nat.le_add_right _ _
      · rw [z]; exact Nat.le_refl _
    exact I1.fpOk hle (I1.hok.fresh hle)
theorem walks_enumT {F : Fx} {R : Reg} {H : Hp} {a : Addr} {n : Bool} {vs : List V} {ds : List D} (ha : SqT F.K H a vs) (la : RpL F H R n vs ds) : Walks F R H (IteT F.K a) (enumD n 0 ds) := fun i B R' H' z o => by
  have ha' := z.tup a vs ha
  have la' := la.fz z
  refine ⟨fun hl => ⟨vs, ha', ?_⟩, fun x hx => ?_⟩
  · rw [enumD_len] at hl
    rw [la.len]
    omega
  · obtain ⟨d, h1, rfl⟩ := enumD_get hx
    obtain ⟨v, hv, r⟩ := la'.get h1
    refine ⟨⟨vs, v, ha', hv⟩, fun w H'' ⟨T, x, e1, hT, e2, h3⟩ => ?_⟩
    subst e1 e2
    rw [h3 vs ha'] at hv
    cases hv
    rw [Nat.zero_add]
    obtain ⟨q1, q2, q3⟩ := new_tup (n := n) (vs := [.int (i : Nat), v]) (ds := [.int (i : Nat), d]) o hT (.cons (.int _) (.cons r .nil))
    exact ⟨R', q1, q2, .of q3⟩
section
variable {X : Cx} {E : XK} {c : Nat} {a : Expr} {fs : TDs} {pos p : Pos}
/-- enumerate(a tuple) -/
theorem di_enumT {elts : List Expr} {kk : Nat} {tpos : Pos} (hg : Gl X "enumerate") (hm : X.mg "enumerate" = none) (ha : DA X E c [a] fs) (hs : starEach [a] X.env = [(false, eval a X.env)] := by rfl) :
    DI X E c (.Tuple elts kk tpos) (.Call (.Name "enumerate" p) [a] [] pos) (fun ρ XQ Q => fs ρ XQ fun xs => match xs with | [x] => (match x.d with | .tup ds => Q (enumD x.fr 0 ds) | _ => False) | _ => False) := by
  obtain ⟨t, pt, s⟩ := ha
  refine ⟨_, pi_enumT hg hm pt hs, fun F B R H σ ρ α XQ Q K hK hX hB S h k => ?_⟩
  refine s F B R H σ ρ α XQ _ _ hK hX hB S h fun vs xs R' H' e' o' r' q' => ?_
  match xs, vs, r', q' with
  | [⟨d, n, vo⟩], [v], .cons r1 .nil, q' =>
    cases d <;> try exact q'.elim
    case tup ds =>
      obtain ⟨a, vs, rfl, ha, la⟩ := r1.tupL rfl
      exact ⟨a, vs, rfl, hK ▸ ha, k _ _ R' H' e' o' q' (hK ▸ walks_enumT ha la)⟩
end
end DL

set_option Elab.async false
set_option linter.all false
set_option maxRecDepth 100000
set_option maxHeartbeats 4000000
/-! DL, part ai: methods as values; own objects under construction. -/
namespace DL
open PySem PySem.Spec PyProof.Rows L2

section
variable {X : Cx} {pos p apos : Pos} {e : Expr} {es : List Expr} {te : TE} {t : TA} {m x : Str} {g : Addr} {E : XK} {CX : CXT} {k i : Nat} {sp : Sp} {fd : FuncData} {ps : List Str}
def tBnd (K : PySem.W.Frag) (m : Str) (g : Addr) (te : TE) : TE := fun σ H Q => te σ H fun x H1 => ∃ a C dx fs, x = .ref a ∧ H1 a = some (.ins C dx fs) ∧ Cls K C ∧ BMeth K C m g ∧ fs.lookup m = none ∧ ∀ q, H1 q = none → Q (.ref q) (upd H1 q (.met g a))
theorem pe_bnd (he : PE X e te) (hb : attributeBase e m X.env (eval e X.env) = eval e X.env) : PE X (.Attribute e m pos) (tBnd X.K m g te) := by
  refine ⟨fun pins s σ H Q I h => ?_⟩
  refine attr_of hb (thn (he.run pins s σ H _ I h) fun u s1 ⟨x, H1, I1, rx, a, C, dx, fs, ex, ea, c, k, l, q⟩ => ?_)
  subst ex
  exact op_getbound I1 ea c k l rx q
def tCallM (i : Nat) (g : Addr) (sp : Sp) (E : XK) (t : TA) : TE := fun σ H Q => ∃ q a, σ[i]? = some (some (.ref q)) ∧ t σ H fun vs H1 => H1 q = some (.met g a) ∧ sp (.ref a :: vs) H1 Q E
theorem pe_callM (F : FnOk X.prog X.w X.K X.mg X.base CX k g fd ps sp) (hr : Room k X.A) (hf : PySem.W.fnIn X.K g = true) (hb : Binds X.K fd ps []) (hx : Passes CX X E) (hN : X.N[i]? = some x) (hv : Vis X.env.scope x) (ha : PA X (e :: es) t)
    (hd : (x == ("__debug__" : Str)) = false := by decide) (hcd : (x == ("__classdict__" : Str)) = false := by decide)
    (he : starEach (e :: es) X.env = (false, eval e X.env) :: starEach es X.env := by rfl) (hpl : (backTo pos (starEach es X.env)).any (·.1) = false := by rfl) :
    PE X (.Call (.Name x p) (e :: es) [] pos) (tCallM i g sp E t) := by
  refine ⟨fun pins s σ H Q I ⟨q, a, hs, ht⟩ => ?_⟩
  refine wpAny_Call_Name_kw (thn ((pe_var (pos := p) hN hv hd hcd).run pins s σ H (fun v H1 => v = .ref q ∧ H1 = H) I ⟨.ref q, hs, rfl, rfl⟩) fun u s1 ⟨v, H1, I1, r1, q1⟩ => ?_)
  obtain ⟨rfl, rfl⟩ := q1
  cases r1
  have h2 : wpAny (model X.prog X.w) X.A (spliced (backTo pos (starEach (e :: es) X.env))) (fun us s₁ => PySem.W.MethP X.K q g (.ref a) s₁.heap ∧ wpAny (model X.prog X.w) X.A (call (.ref q) ([] ++ us)) (EP X pins σ Q) X.xe s₁) X.xe s1 :=
    thn (ha.run pos pins s1 σ _ _ I1 ht) fun us s2 ⟨vs, H2, I2, r, hm, hsp⟩ => ⟨met_P I2 hm, by
      rw [List.nil_append]
      exact wpAny_call (PySem.W.method_call (met_P I2 hm).1 (run_fnR (us := Value.ref a :: us) (vs := V.ref a :: vs) (FnR.imp (F.raw hb .nil) fun vs H Q E h => by rw [List.append_nil]; exact h) hr hx I2 (.cons rfl r) hsp))⟩
  rw [he] at h2 ⊢
  exact PySem.W.callWith_of (by show ((false || (backTo pos (starEach es X.env)).any (·.1)) || false) = false; rw [hpl]; rfl) (PySem.W.keeps_M hf) (Calls.evalArgs_plain h2)
end
section
variable {X : Cx} {E : XK} {c ca cb cc : Nat} {a b d e : Expr} {es : List Expr} {fa fb fe fd : TD} {fs : TDs} {pos p apos : Pos} {x y z m f : Str} {g : Addr}
/-- a method of an own instance, as a value -/
theorem de_bnd (hC : BMeth X.K (objC X.K 0) m g ∧ Cls X.K (objC X.K 0)) (ha : DE X E c a fa) (hb : attributeBase a m X.env (eval a X.env) = eval a X.env := by rfl) : DE X E c (.Attribute a m pos) (fun ρ XQ Q => fa ρ XQ fun x => ∃ k ds, x.d = .obj k ds ∧ k % 16 ≤ 5 ∧ m ∉ objN k ∧ Q ⟨.bm g x.d, x.fr, none⟩) := by
  obtain ⟨ta, pa, sa⟩ := ha
  refine ⟨_, pe_bnd (g := g) pa hb, fun F B R H σ ρ α XQ Q K hK hX hB S h k => ?_⟩
  refine sa F B R H σ ρ α XQ _ _ hK hX hB S h fun v x R1 H1 e1 o1 r1 ⟨c', ds, ex, hc', hm, q⟩ => ?_
  obtain ⟨dx, n, vo⟩ := x
  have ex : dx = .obj c' ds := ex
  subst ex
  have r3 := r1.fr
  generalize hf : Dv.fr ⟨D.obj c' ds, n, vo⟩ = fr at r3 q
  cases r3 with
  | @obj _ oa odx ns vs _ _ hh hr hw hn hl l =>
    obtain ⟨C1, C2⟩ := hC
    rw [← objC_plan hc'] at C1 C2
    subst hn
    have hlk : ((objN c').zip vs).lookup m = none := by
      rw [List.lookup_eq_none_iff]
      intro y hy
      have : y.1 ∈ objN c' := (List.of_mem_zip hy).1
      have hne : m ≠ y.1 := fun z => hm (z ▸ this)
      simpa using hne
    refine ⟨oa, objC X.K c', odx, _, rfl, hK ▸ hh, C2, C1, hlk, fun q' hq' => ?_⟩
    have e2 : Ext F R1 H1 (R1.add q') (upd H1 q' (.met g oa)) := .new1 hq'
    have o2 : HpOk F (B + c) (R1.add q') (upd H1 q' (.met g oa)) := o1.new hq' .met
    have r2 : RpD F (upd H1 q' (.met g oa)) (R1.add q') fr (.ref oa) (.obj c' ds) := (RpD.obj hh hr hw rfl hl l).ext o1 e2
    exact k (.ref q') ⟨.bm g (.obj c' ds), fr, none⟩ _ _ (e1.trans e2) o2 ⟨.bm upd_same (.inr rfl) (fun _ => o1.pn q' (.of hq')) r2, fun _ z => nomatch z⟩ q
/-- x(e, ..), x a method as a value -/
theorem de_callBm {i k : Nat} {fd : FuncData} {ps : List Str} {cost : Nat} {gc : DC} (F : FnD X.prog X.w X.K X.mg X.base k g fd ps cost gc) (hr : Room k X.A) (hf : PySem.W.fnIn X.K g = true) (hb : Binds X.K fd ps []) (hx : Passes (L2.CX X.prog X.w) X E) (hN : X.N[i]? = some x) (hv : Vis X.env.scope x)
    (ha : DA X E c (e :: es) fs) (hn : (e :: es).length + 1 = ps.length) (hd : (x == ("__debug__" : Str)) = false := by decide) (hcd : (x == ("__classdict__" : Str)) = false := by decide)
    (he : starEach (e :: es) X.env = (false, eval e X.env) :: starEach es X.env := by rfl) (hpl : (backTo pos (starEach es X.env)).any (·.1) = false := by rfl) :
    DE X E (c + cost) (.Call (.Name x p) (e :: es) [] pos) (fun ρ XQ Q => ∃ dd n v, ρ[i]? = some (.va ⟨.bm g dd, n, v⟩) ∧ fs ρ XQ fun xs => xs.length + 1 = ps.length ∧ gCall gc ρ XQ (⟨dd, n, none⟩ :: xs) Q) := by
  obtain ⟨t, pt, s⟩ := ha
  refine ⟨_, pe_callM F hr hf hb hx hN hv pt hd hcd he hpl, fun F B R H σ ρ α XQ Q K hK hX hB S ⟨dd, n, vo, hi, h⟩ k => ?_⟩
  obtain ⟨v, hv1, r⟩ := S.va i _ hi
  have r0 := r.1
  cases r0 with
  | @bm _ q oa _ _ hq rq wq ro =>
    refine ⟨q, oa, hv1, ?_⟩
    refine s F B R H σ ρ α XQ _ _ hK hX (by omega) S h fun vs xs R' H' e' o' r' ⟨hl, q'⟩ => ?_
    refine ⟨e'.keep q _ (S.hp.good q rq).1 hq .met, ?_⟩
    exact call_core hK hX (by omega) o' (.cons (.of (ro.ext S.hp e')) r') (by rw [List.length_cons]; exact hl) q' fun v x R2 H2 e2 o2 r2 q2 => k v x R2 H2 (e'.trans e2) (by rw [← Nat.add_assoc]; exact o2) r2 q2
/-- x.f, x an own object -/
theorem de_fldO {i : Nat} (hC : ∀ k, f ∈ objN k → ClT X.K k) (va : PE X a (tVar i)) (hb : attributeBase a f X.env (eval a X.env) = eval a X.env := by rfl) : DE X E 0 (.Attribute a f pos) (fun ρ XQ Q => ∃ (k : Nat) (ds : List D) (n : Bool) (j : Nat) (dd : D), ρ[i]? = some (.ow (.obj k ds) n) ∧ (objN k)[j]? = some f ∧ ds[j]? = some dd ∧ Q ⟨dd, n, none⟩) := by
  refine ⟨_, pe_fld va hb, fun F B R H σ ρ α XQ Q K hK hX hB S ⟨c', ds, n, j, dd, hi, hj, hd, q⟩ k => ?_⟩
  obtain ⟨e1, w1⟩ := S.ow i _ _ hi
  obtain ⟨dx, vs, hv, ⟨hl, _⟩, lv⟩ := w1.at_
  obtain ⟨w, hw2, r⟩ := lv.get hd
  have hm : f ∈ objN c' := List.mem_of_getElem? hj
  have C := hC c' hm
  exact ⟨_, e1, _, objC X.K c', dx, _, w, rfl, hK ▸ hv, C.cls, C.no f hm, zip_look (objN_nodup c') hj hw2, k w ⟨dd, n, none⟩ R H .refl S.hp (.of r) q⟩
theorem putF_zip {ns : List Str} {vs : List V} {v : V} : ns.length = vs.length → f ∉ ns → putF f v (ns.zip vs) = (ns ++ [f]).zip (vs ++ [v]) := by
  induction ns generalizing vs with
  | nil =>
    intro h _
    cases vs with
    | nil => rfl
    | cons b vs => cases h
  | cons a ns ih =>
    intro h hf
    cases vs with
    | nil => cases h
    | cons b vs =>
      rw [List.zip_cons_cons, List.cons_append, List.cons_append, List.zip_cons_cons]
      show (if a = f then _ else _) = _
      rw [if_neg (fun z => hf (by rw [z]; simp)), ih (by simpa using h) (fun z => hf (List.mem_cons_of_mem _ z))]
theorem Plain.ins {C dx : Addr} {fs : List (Str × V)} : Plain (.ins C dx fs) := ⟨fun _ z => (nomatch z), fun _ z => (nomatch z)⟩
/-- an own thing becomes another one -/
theorem StOk.setG {F : Fx} {B : Nat} {R : Reg} {H : Hp} {σ : L2.St} {ρ : Ro} {α : Nat → Addr} (S : StOk F B R H σ ρ α) {i : Nat} {d : D} {n : Bool} (h : ρ[i]? = some (.ow d n)) {u u0 : HO} (hu : H (α i) = some u0) (pu : Plain u0) (tu : ∀ xs, u0 ≠ .tup xs) (fu : ∀ ob w, u0 ≠ .frz ob w) (nt : NoTbl u)
    {d' : D} {m : Bool} (hat : OwAt F (upd H (α i) u) R (α i) m d') : StOk F B R (upd H (α i) u) σ (ρ.set i (.ow d' m)) α ∧ Fz F R H R (upd H (α i) u) := by
  obtain ⟨e, w⟩ := S.ow i _ _ h
  have z : Fz F R H R (upd H (α i) u) := Fz.put w.nr hu tu fu
  refine ⟨⟨S.hp.put w.nr w.nm w.n0 hu pu nt, by rw [List.length_set]; exact S.len, fun j x hj => ?_, fun j d k hj => ?_, fun j k d1 n1 d2 n2 hj hk ea => ?_⟩, z⟩
  · rcases set_get hj with ⟨_, q⟩ | ⟨ne, hj'⟩
    · cases q
    · obtain ⟨v, e1, r⟩ := S.va j x hj'
      exact ⟨v, e1, r.fz z⟩
  · rcases set_get hj with ⟨ej, q⟩ | ⟨ne, hj'⟩
    · cases q
      rw [ej]
      exact ⟨e, w.nr, w.nm, w.n0, w.p0, hat⟩
    · obtain ⟨e1, w1⟩ := S.ow j d k hj'
      have na : α j ≠ α i := fun q => ne (S.dis j i _ _ _ _ hj' h q)
      refine ⟨e1, w1.nr, w1.nm, w1.n0, w1.p0, ?_⟩
      have q := w1.at_
      cases d with
      | lst ds => obtain ⟨ws, a, b⟩ := q; exact ⟨ws, by rw [upd_ne na]; exact a, b.fz z⟩
      | dct ds =>
        rcases q with ⟨ws, a, b⟩ | ⟨ws, a, b⟩
        · exact .inl ⟨ws, by rw [upd_ne na]; exact a, b.mv (z.mv fun z => z)⟩
        · exact .inr ⟨ws, by rw [upd_ne na]; exact a, b.mv (z.mv fun z => z)⟩
      | obj k ds => obtain ⟨dx, ws, a, l, b⟩ := q; exact ⟨dx, ws, by rw [upd_ne na]; exact a, l, b.fz z⟩
      | _ => exact q.elim
  · rcases set_get hj with ⟨ej, _⟩ | ⟨nj, hj'⟩ <;> rcases set_get hk with ⟨ek, _⟩ | ⟨nk, hk'⟩
    · rw [ej, ek]
    · rw [ej] at ea ⊢
      exact S.dis i k _ _ _ _ h hk' ea
    · rw [ek] at ea ⊢
      exact S.dis j i _ _ _ _ hj' h ea
    · exact S.dis j k _ _ _ _ hj' hk' ea
theorem objN_small {j : Nat} (h : j < 16) : objN j = objNr j := by unfold objN; rw [Nat.mod_eq_of_lt h]
/-- self.f = e, self an own object that is being made -/
theorem ds_ost (l : List Nat) {i : Nat} {p1 p2 : Pos} (hC : ClT X.K 0) (he : DE X E c e fe) (va : PE X (.Name x p1) (tVar i)) (hf : f ∈ objN 0)
    (hs : swapsWith e (some (.Attribute (.Name x p1) f p2)) pos.line X.env = pure false := by rfl) :
    DS X E c (.Assign [.Attribute (.Name x p1) f p2] e pos) (fun N ρ XQ => fe (frz l ρ) XQ fun y => ∃ a j j' ds n, (if y.d.sca = true then ρ else frz l ρ)[i]? = some (.ow (.obj (pk a j) ds) n) ∧ j ≤ 5 ∧ j' ≤ 5 ∧ objNr j' = objNr j ++ [f] ∧
      N.nx ((if y.d.sca = true then ρ else frz l ρ).set i (.ow (.obj (pk a j') (ds ++ [y.d])) (n && y.fr)))) := by
  obtain ⟨t, p, s⟩ := he
  refine ⟨_, ps_fld va p hs, fun F B R H σ ρ α XQ N K hK hX hB S h k => ?_⟩
  refine run_frz (X := X) (E := E) (c := c) (Q := fun y ρ' => ∃ a j j' ds n, ρ'[i]? = some (.ow (.obj (pk a j) ds) n) ∧ j ≤ 5 ∧ j' ≤ 5 ∧ objNr j' = objNr j ++ [f] ∧ N.nx (ρ'.set i (.ow (.obj (pk a j') (ds ++ [y.d])) (n && y.fr)))) s hK hX hB S h fun v y ρ' R' H' z S' r ⟨a, j, j', ds, n, h1, hj, hj', hn, q⟩ => ?_
  obtain ⟨e1, w1⟩ := S'.ow i _ _ h1
  obtain ⟨dx, vs, hv, ⟨hl, hp⟩, lv⟩ := w1.at_
  have ea : a = α i := (pin_pk (by omega)).mp hp
  have nd : (objNr j').Nodup := by
    have := objN_nodup j'
    rwa [objN_small (by omega)] at this
  have hfn : f ∉ objN (pk a j) := by
    rw [objN_pk (by omega)]
    rw [hn, List.nodup_append] at nd
    exact fun hm => nd.2.2 f hm f (by simp) rfl
  have hC0 : objC F.K (pk a j) = objC X.K 0 := by rw [hK]; exact objC_plan (by rw [pk_mod (by omega)]; exact hj)
  have hC1 : objC F.K (pk a j') = objC F.K (pk a j) := by rw [objC_plan (k := pk a j') (by rw [pk_mod (by omega)]; exact hj'), objC_plan (k := pk a j) (by rw [pk_mod (by omega)]; exact hj)]
  have hl5 : (objN (pk a j)).length ≤ 5 := by
    rw [objN_pk (by omega)]
    match j, hj with
    | 0, _ => decide
    | 1, _ => decide
    | 2, _ => decide
    | 3, _ => decide
    | 4, _ => decide
    | 5, _ => decide
    | j + 6, hj => omega
  refine ⟨_, e1, α i, objC F.K (pk a j), dx, _, rfl, hv, by rw [hC0]; exact hC.cls, by rw [hC0]; exact hC.no f hf, ?_, ?_⟩
  · rw [List.length_zip]; omega
  rw [putF_zip hl hfn]
  have hnn : objN (pk a j') = objN (pk a j) ++ [f] := by rw [objN_pk (by omega), objN_pk (by omega)]; exact hn
  have zz : Fz F R' H' R' (upd H' (α i) (.ins (objC F.K (pk a j)) dx ((objN (pk a j) ++ [f]).zip (vs ++ [v])))) := Fz.put w1.nr hv (fun _ z => nomatch z) fun _ _ z => nomatch z
  obtain ⟨S2, z2⟩ := S'.setG h1 (u := .ins (objC F.K (pk a j)) dx ((objN (pk a j) ++ [f]).zip (vs ++ [v]))) hv .ins (fun _ z => nomatch z) (fun _ _ z => nomatch z) .ins (d' := .obj (pk a j') (ds ++ [y.d])) (m := n && y.fr)
    ⟨dx, vs ++ [v], by rw [upd_same, hC1, hnn], ⟨by rw [hnn, List.length_append, List.length_append, hl]; rfl, (pin_pk (by omega)).mpr ea⟩, ((lv.weak and_l).app (.cons (r.fr.weak and_r) .nil)).fz zz⟩
  exact k.nx σ _ _ R' α (z.trans z2) S2 q
end

/-! ### an instance is made -/
theorem NoTbl.own {x : Addr} : NoTbl (.own x) := fun _ z => nomatch z
/-- what an __init__ is told: its instance is new -/
def spM (K : PySem.W.Frag) (np cost : Nat) (g : DC) : Sp := fun vs H Q Ex => ∃ (x dx : Addr) (vs' : List V) (H1 : Hp), vs = .ref x :: vs' ∧ vs.length = np ∧ H1 x = none ∧ H1 dx = none ∧ dx ≠ x ∧ H = upd (upd H1 dx (.own x)) x (.ins (objC K 0) dx []) ∧
  ∃ (R : Reg) (st : Option (Addr × Addr)) (L B : Nat) (ds : List D) (XQ : XQT) (QD : Dv → Prop), HpOk ⟨K, H1, R, st, L, Nn H1⟩ B R H1 ∧ B + cost ≤ L ∧
  Paired (fun d v => RpD ⟨K, H1, R, st, L, Nn H1⟩ H1 R d.imm v d) ds vs' ∧ g ds vs' XQ QD ∧ XLink ⟨K, H1, R, st, L, Nn H1⟩ Ex XQ ∧
  ∀ y R' H', Ext ⟨K, H1, R, st, L, Nn H1⟩ R H1 R' H' → HpOk ⟨K, H1, R, st, L, Nn H1⟩ (B + cost) R' H' → Rp ⟨K, H1, R, st, L, Nn H1⟩ H' R' y (.ref x) → QD y → Q .non H'
abbrev FnM (P : Program) (w : World) (K : PySem.W.Frag) (mg : Str → Option Value) (base : Heap) (k : Nat) (f : Addr) (fd : FuncData) (ps : List Str) (cost : Nat) (g : DC) : Prop := FnOk P w K mg base (L2.CX P w) k f fd ps (spM K ps.length cost g)
section
variable {X : Cx} {E : XK} {c : Nat} {e : Expr} {es : List Expr} {fs : TDs} {pos p : Pos} {x : Str}
theorem de_make {k : Nat} {f : Addr} {fd : FuncData} {ps : List Str} {cost : Nat} {g : DC} (M : Mk X.K (objC X.K 0) f) (F : FnM X.prog X.w X.K X.mg X.base k f fd ps cost g) (hr : Room (k + 1) X.A) (hg : Gl X x) (hm : X.mg x = some (.ref (objC X.K 0))) (hb : Binds X.K fd ps [])
    (hx : Passes (L2.CX X.prog X.w) X E) (hn : (e :: es).length + 1 = ps.length) (ha : DA X E c (e :: es) fs) (hdb : (x == ("__debug__" : Str)) = false := by decide) (he : starEach (e :: es) X.env = (false, eval e X.env) :: starEach es X.env := by rfl) (hpl : (backTo pos (starEach es X.env)).any (·.1) = false := by rfl) :
    DE X E (c + cost) (.Call (.Name x p) (e :: es) [] pos) (fun ρ XQ Q => fs ρ XQ fun xs => xs.length + 1 = ps.length ∧ gCall g ρ XQ xs Q) := by
  obtain ⟨t, pt, s⟩ := ha
  refine ⟨_, pe_make M F hr hg hm hb .nil hx pt hdb he hpl, fun F B R H σ ρ α XQ Q K hK hX hB S h k => ?_⟩
  refine s F B R H σ ρ α XQ _ _ hK hX (by omega) S h fun vs xs R1 H1 e1 o1 r1 ⟨hl, q1⟩ => ?_
  intro a dx ha hdx hne
  rw [List.append_nil]
  obtain ⟨FK, FH0, FR0, st, L, FP⟩ := F
  cases hK
  refine ⟨a, dx, vs, H1, rfl, by rw [List.length_cons, ← Paired.length r1]; exact hl, ha, hdx, hne, rfl, R1, st, L, B + c, xs.map (·.d), XQ, _, ⟨o1.inv, o1.good, fun a u _ e _ => e, fun a e => e, fun a r => .inl r, o1.tab, o1.lim, fun a e => e⟩, by show B + c + cost ≤ L; have : B + (c + cost) ≤ L := hB; omega,
    paired_re (F := ⟨X.K, FH0, FR0, st, L, FP⟩) (F' := ⟨X.K, H1, R1, st, L, Nn H1⟩) rfl rfl r1, q1 vs (paired_conc r1), ⟨fun x v h => ⟨(hX.1 x v h).1, fun e => ?_⟩, ?_⟩, ?_⟩
  · obtain ⟨hs, a, ns, ea, sq, l⟩ := (hX.1 x v h).2 e
    exact ⟨hs, a, ns, ea, sq.keep fun o' u h' => o1.ent a _ (fun ⟨p, ep, _⟩ => by rw [show st = none from hs] at ep; cases ep) h' .frz, l⟩
  · intro C f v dx H' hx hk ht hi hb hd
    exact hX.2 C f v dx H' hx (fun a u m e nt => hk a u m (o1.ent a u m e nt) nt) (fun a e => o1.ent2 a (ht a e)) hi hb hd
  · intro y R' H' e' o' r' q'
    have n2 : ∀ a, Nn H1 a → Nn FH0 a := o1.ent2
    have p2 : ∀ a, Nn H1 a → FP a := o1.pn
    refine ⟨rfl, k (.ref a) { y with v := none } R' H' (e1.trans ⟨e'.reg, e'.keep, e'.new, e'.there⟩) ⟨o'.inv.mono (by omega), o'.good, fun a u m e nt => o'.ent a u m (o1.ent a u m e nt) nt, fun a e => n2 a (o'.ent2 a e), fun a r => (o'.reg0 a r).elim (o1.reg0 a) fun z => .inr (n2 a z), o'.tab, o'.lim, fun a e => p2 a (o'.pn a e)⟩ ?_ q'⟩
    have mv : Mv ⟨X.K, H1, R1, st, L, Nn H1⟩ R' H' ⟨X.K, FH0, FR0, st, L, FP⟩ R' H' y.n y.n := ⟨rfl, fun _ z => z, fun _ _ r h _ => ⟨r, h⟩, fun _ _ h => h, fun z a u _ _ _ w => p2 a (w z)⟩
    exact .of (r'.1.mv mv)
end
/-- an __init__ keeps its contract: its body's reading -/
theorem fnM_ok {P : Program} {w : World} {K : PySem.W.Frag} {mg : Str → Option Value} {base : Heap} {x qual : Str} {pr : Arguments} {body : List Stmt} {scope : Scope} {f : Addr} {fd : FuncData} {N ps : List Str} {k cost : Nat} {g : DC} (F : FunD K x qual pr body scope [] [] f fd) (S : FnScope N ps scope)
    (hbody : ∀ (cdv : Value) (A : Around) (outer : List Env) (s : Shared) (H : Hp) (E : XK), Room k (A.deeper (envOfC qual scope s.heap.objs.size f cdv)) →
      ∃ (c : Nat) (gb : TDS), DSs (cxOf (L2.CX P w) P w K mg base N qual scope f cdv A outer s H E) E c body gb ∧ c ≤ cost ∧ ∀ a ds vs XQ Q, ds.length + 1 = ps.length → vs.length + 1 = ps.length → g ds vs XQ Q →
        gb { nx := fun ρ' => ∃ d n, ρ'[0]? = some (.ow (.obj (pk a 0) d) n) ∧ Q ⟨.obj 0 d, n, none⟩, rt := fun _ => False } (.ow (.obj (pk a 1) []) true :: params ds vs (N.length - ps.length)) XQ) : FnM P w K mg base (k + 1) f fd ps cost g := by
  refine F.ok S (fun vs H Q E h => by obtain ⟨_, _, _, _, _, h, _⟩ := h; exact h) (fun cdv A outer s H vs Q E hr h => ?_)
  obtain ⟨a, dx, vs', H1, rfl, hl, ha, hdx, hne, rfl, R, st, L, B, ds, XQ, QD, o, hB, r, q, hX, k⟩ := h
  obtain ⟨c, gb, ⟨t, p, sm⟩, hc, hg⟩ := hbody cdv A outer s _ E hr
  have hl' : vs'.length + 1 = ps.length := by simpa using hl
  have hd : ds.length + 1 = ps.length := by rw [Paired.length r]; exact hl'
  have hx2 : upd H1 dx (.own a) a = none := by rw [upd_ne (Ne.symm hne)]; exact ha
  have eA : Ext ⟨K, H1, R, st, L, Nn H1⟩ R H1 R (upd (upd H1 dx (.own a)) a (.ins (objC K 0) dx [])) := (Ext.new0 hdx).trans (Ext.new0 hx2)
  have oA : HpOk ⟨K, H1, R, st, L, Nn H1⟩ B R (upd (upd H1 dx (.own a)) a (.ins (objC K 0) dx [])) := (o.new0 hdx .own).new0 hx2 .ins
  have rA : Paired (fun d v => RpD ⟨K, H1, R, st, L, Nn H1⟩ (upd (upd H1 dx (.own a)) a (.ins (objC K 0) dx [])) R d.imm v d) ds vs' := Paired.imp (fun _ _ h => h.ext o eA) r
  have hn1 : N.tail.length = N.length - 1 := List.length_tail
  have est : L2.start N (.ref a :: vs') = some (.ref a) :: L2.start N.tail vs' := by
    unfold L2.start
    rw [List.map_cons, List.cons_append, hn1, List.length_cons]
    congr 3
    omega
  have epr : params ds vs' (N.length - ps.length) = params ds vs' (N.tail.length - vs'.length) := by
    congr 1
    omega
  refine ⟨t, p, sm ⟨K, H1, R, st, L, Nn H1⟩ B R _ (L2.start N (.ref a :: vs')) (.ow (.obj (pk a 1) []) true :: params ds vs' (N.length - ps.length)) (fun _ => a) XQ _ _ rfl hX (show B + c ≤ L by omega) ⟨oA, ?_, fun i y hi => ?_, fun i d n hi => ?_, fun i j d n d' n' hi hj _ => ?_⟩ (hg a ds vs' XQ QD hd hl' q) ?_⟩
  · rw [est, epr]
    unfold L2.start params
    rw [List.length_cons, List.length_cons, List.length_append, List.length_append, List.length_map, List.length_replicate, List.length_replicate, List.length_zipWith]
    omega
  · cases i with
    | zero => cases hi
    | succ i =>
      rw [est]
      rw [epr] at hi
      exact start_get rA N.tail i y hi
  · cases i with
    | zero =>
      cases hi
      refine ⟨by rw [est]; rfl, not_frozen o ha, mx_none o.inv ha, .of ha, .of ha, dx, [], ?_, ⟨?_, ?_⟩, .nil⟩
      · rw [upd_same, List.zip_nil_right, objC_pk (by decide)]
        rfl
      · rw [objN_pk (by decide)]; rfl
      · exact (pin_pk (by decide)).mpr rfl
    | succ i => exact absurd hi params_ow
  · cases i with
    | zero =>
      cases j with
      | zero => rfl
      | succ j => exact absurd hj params_ow
    | succ i => exact absurd hi params_ow
  refine ⟨fun σ' H' ρ' R' α' z S' ⟨d, n, h0, q'⟩ => ?_, fun _ _ _ _ _ _ _ q => q.elim, fun _ _ _ _ _ _ _ q => q.elim, fun _ _ _ _ _ _ _ q => q.elim⟩
  obtain ⟨e1, w⟩ := S'.ow 0 _ _ h0
  obtain ⟨dx', ws, hv, ⟨hlw, hp⟩, lw⟩ := w.at_
  have ea : a = α' 0 := (pin_pk (by decide)).mp hp
  have rr := Ow.rp w
  rw [← ea] at rr w hv
  refine k ⟨.obj 0 d, n, none⟩ (R'.add a) H' ⟨fun b r => .inl (z.reg b r), S'.hp.ent, fun b r => r.elim (S'.hp.reg0 b) fun z => .inr (by rw [z]; exact .of ha), S'.hp.ent2⟩ ((S'.hp.mono (by omega)).frz w) (.of ?_) q'
  cases rr with
  | @obj _ _ odx ns us _ _ hh hr hw hn2 hll l =>
    have hc0 : objC K (pk a 0) = objC K 0 := objC_pk (by decide)
    have hh2 : H' a = some (.ins (objC K 0) odx (ns.zip us)) := by rw [← hc0]; exact hh
    exact .obj (k := 0) hh2 hr hw (by rw [hn2, objN_pk (by decide)]; rfl) hll l
end DL

set_option Elab.async false
set_option linter.all false
set_option maxRecDepth 100000
set_option maxHeartbeats 4000000
/-! DL, part aj: own dicts changed, dict comprehensions, sorted(d), [.., *d]. -/
namespace DL
open PySem PySem.Spec PyProof.Rows L2

/-! ### d[k] = v -/
def putD (ds : List (D × D)) (k : Key) (d : D) : List (D × D) := if (ds.any fun p => isKey p.1 k) = true then ds.map (fun p => if isKey p.1 k = true then (p.1, d) else p) else ds ++ [(keyD k, d)]
theorem rpk_any {F : Fx} {H : Hp} {R : Reg} {n : Bool} (k : Key) : ∀ {kvs : List (Key × V)} {ds : List (D × D)}, RpK F H R n kvs ds → (kvs.any fun kv => decide (kv.1 = k)) = ds.any fun p => isKey p.1 k
  | _, _, .nil => rfl
  | _, _, .consI (i := i) a t => by
    rw [List.any_cons, List.any_cons, rpk_any k t]
    congr 1
    exact (isKey_keyD (.inl i) k).symm
  | _, _, .consS (x := x) a t => by
    rw [List.any_cons, List.any_cons, rpk_any k t]
    congr 1
    exact (isKey_keyD (.inr x) k).symm
theorem rpk_map {F : Fx} {H : Hp} {R : Reg} {n : Bool} (k : Key) {v : V} {d : D} (r : RpD F H R n v d) : ∀ {kvs : List (Key × V)} {ds : List (D × D)}, RpK F H R n kvs ds →
    RpK F H R n (kvs.map fun kv => if kv.1 = k then (kv.1, v) else kv) (ds.map fun p => if isKey p.1 k = true then (p.1, d) else p)
  | _, _, .nil => .nil
  | _, _, .consI (i := i) a t => by
    rw [List.map_cons, List.map_cons]
    have e : isKey (.int i) k = decide ((Sum.inl i : Key) = k) := isKey_keyD (.inl i) k
    by_cases h : (Sum.inl i : Key) = k
    · rw [if_pos h, if_pos (by rw [e]; simp [h])]
      exact .consI r (rpk_map k r t)
    · rw [if_neg h, if_neg (by rw [e]; simp [h])]
      exact .consI a (rpk_map k r t)
  | _, _, .consS (x := x) a t => by
    rw [List.map_cons, List.map_cons]
    have e : isKey (.str x) k = decide ((Sum.inr x : Key) = k) := isKey_keyD (.inr x) k
    by_cases h : (Sum.inr x : Key) = k
    · rw [if_pos h, if_pos (by rw [e]; simp [h])]
      exact .consS r (rpk_map k r t)
    · rw [if_neg h, if_neg (by rw [e]; simp [h])]
      exact .consS a (rpk_map k r t)
theorem RpK.app {F : Fx} {H : Hp} {R : Reg} {n : Bool} : ∀ {kvs ls : List (Key × V)} {ds es : List (D × D)}, RpK F H R n kvs ds → RpK F H R n ls es → RpK F H R n (kvs ++ ls) (ds ++ es)
  | _, _, _, _, .nil, b => b
  | _, _, _, _, .consI a t, b => .consI a (t.app b)
  | _, _, _, _, .consS a t, b => .consS a (t.app b)
theorem rpk_one {F : Fx} {H : Hp} {R : Reg} {n : Bool} {v : V} {d : D} (k : Key) (r : RpD F H R n v d) : RpK F H R n [(k, v)] [(keyD k, d)] := by
  cases k with
  | inl i => exact .consI r .nil
  | inr x => exact .consS r .nil
theorem RpK.put {F : Fx} {H : Hp} {R : Reg} {n : Bool} {kvs : List (Key × V)} {ds : List (D × D)} (h : RpK F H R n kvs ds) (k : Key) {v : V} {d : D} (r : RpD F H R n v d) : RpK F H R n (putK kvs k v) (putD ds k d) := by
  unfold putK putD
  rw [rpk_any k h]
  split
  · exact rpk_map k r h
  · exact h.app (rpk_one k r)
theorem RpK.len {F : Fx} {H : Hp} {R : Reg} {n : Bool} : ∀ {kvs : List (Key × V)} {ds : List (D × D)}, RpK F H R n kvs ds → kvs.length = ds.length
  | _, _, .nil => rfl
  | _, _, .consI _ t => by rw [List.length_cons, List.length_cons, t.len]
  | _, _, .consS _ t => by rw [List.length_cons, List.length_cons, t.len]
theorem RpK.weak {F : Fx} {R : Reg} {H : Hp} {n n' : Bool} {v : List (Key × V)} {d : List (D × D)} (h : RpK F H R n v d) (w : n' = true → n = true) : RpK F H R n' v d := h.mv (mv_weak w)
/-- keys that are no tuples -/
def PlainK (ds : List (D × D)) : Prop := ∀ p ∈ ds, ∃ j, p.1 = keyD j
theorem rpt_no {F : Fx} {H : Hp} {R : Reg} {n : Bool} {kvs : List (List Key × V)} {ds : List (D × D)} (h : RpT F H R n kvs ds) (k : PlainK ds) : False := by
  cases h with
  | one a b =>
    obtain ⟨j, e⟩ := k _ List.mem_cons_self
    cases j <;> exact D.noConfusion e
  | cons a b t =>
    obtain ⟨j, e⟩ := k _ List.mem_cons_self
    cases j <;> exact D.noConfusion e
section
variable {X : Cx} {E : XK} {c ca cb cc ci ct ck ce : Nat} {a b d e ke value : Expr} {es : List Expr} {fa fb fe fk fv : TD} {fi fs : TDs} {ft : TDt} {pos p p1 p2 apos : Pos} {x y f : Str}
/-- x[k] = v, x an own dict -/
theorem ds_setD (l : List Nat) {i : Nat} (hu0 : X.A.units + 64 < cLine) (hv : DE X E c value fv) (hk : DE X E ck ke fk) (va : PE X (.Name x p1) (tVar i))
    (hs : swapsWith value (some (.Subscript (.Name x p1) ke p2)) pos.line X.env = pure false := by rfl) :
    DS X E (c + ck) (.Assign [.Subscript (.Name x p1) ke p2] value pos) (fun N ρ XQ => fv (frz l ρ) XQ fun y => ∃ ds n, (if y.d.sca = true then ρ else frz l ρ)[i]? = some (.ow (.dct ds) n) ∧ PlainK ds ∧ ds.length < BIG ∧
      fk (if y.d.sca = true then ρ else frz l ρ) XQ fun z => ∃ k, z.d = keyD k ∧ N.nx ((if y.d.sca = true then ρ else frz l ρ).set i (.ow (.dct (putD ds k y.d)) (n && y.fr)))) := by
  have hu : X.A.units + 1 < cLine := by omega
  obtain ⟨tv, pv, sv⟩ := hv
  obtain ⟨tk, pk, sk⟩ := hk
  refine ⟨_, ps_dput hu va pk pv hs, fun F B R H σ ρ α XQ N K hK hX hB S h k => ?_⟩
  refine run_frz (X := X) (E := E) (c := c) (Q := fun y ρ' => ∃ ds n, ρ'[i]? = some (.ow (.dct ds) n) ∧ PlainK ds ∧ ds.length < BIG ∧ fk ρ' XQ fun z => ∃ k, z.d = keyD k ∧ N.nx (ρ'.set i (.ow (.dct (putD ds k y.d)) (n && y.fr)))) sv hK hX (by omega) S h fun v y ρ' R1 H1 z1 S1 r1 ⟨ds, n, hi, hp, hl, q1⟩ => ?_
  obtain ⟨e0, w0⟩ := S1.ow i _ _ hi
  refine ⟨_, e0, ?_⟩
  refine sk F (B + c) R1 H1 σ ρ' α XQ _ _ hK hX (by omega) S1 q1 fun u z R2 H2 e2 o2 r2 ⟨kk, ez, q2⟩ => ?_
  obtain ⟨dz, nz, vz⟩ := z
  have ez : dz = keyD kk := ez
  subst ez
  have eu := rp_key r2.1
  subst eu
  have S2 := S1.ext e2 o2
  obtain ⟨e3, w3⟩ := S2.ow i _ _ hi
  rcases w3.at_ with ⟨kvs, hv, lv⟩ | ⟨kvs, hv, lv⟩
  · refine ⟨α i, _, rfl, DPut.k hv (lt_line (by rw [lv.len]; exact hl)), ?_⟩
    have zz : Fz F R2 H2 R2 (upd H2 (α i) (.dK (putK kvs kk v))) := Fz.put w3.nr hv (fun _ z => nomatch z) fun _ _ z => nomatch z
    have r1' := (r1.ext S1.hp e2).fr
    obtain ⟨S3, z3⟩ := S2.setG hi (u := .dK (putK kvs kk v)) hv .dK (fun _ z => nomatch z) (fun _ _ z => nomatch z) .dK (d' := .dct (putD ds kk y.d)) (m := n && y.fr)
      (.inl ⟨_, upd_same, ((lv.weak and_l).put kk (r1'.weak and_r)).mv (zz.mv fun z => z)⟩)
    rw [show B + (c + ck) = B + c + ck by omega] at k
    exact k.nx σ _ _ R2 α ((z1.trans (e2.fz S1.hp)).trans z3) S3 q2
  · exact (rpt_no lv hp).elim

/-! ### sorted(d), list(d), [.., *d], the keys texts -/
def strK (kd : List (Str × D)) : D := .dct (kd.map fun p => (.str p.1, p.2))
theorem strK_rp {F : Fx} {H : Hp} {R : Reg} {n : Bool} : ∀ {kvs : List (Key × V)} {kd : List (Str × D)}, RpK F H R n kvs (kd.map fun p => (.str p.1, p.2)) → kvs.map (·.1) = (kd.map (·.1)).map Sum.inr
  | _, [], h => by cases h; rfl
  | _, p :: kd, h => by
    cases h with
    | consS a t => rw [List.map_cons, List.map_cons, List.map_cons, strK_rp t]
theorem strK_plain (kd : List (Str × D)) : PlainK (kd.map fun p => ((.str p.1 : D), p.2)) := fun p hp => by
  obtain ⟨q, _, rfl⟩ := List.mem_map.mp hp
  exact ⟨.inr q.1, rfl⟩
theorem strK_at {F : Fx} {H : Hp} {R : Reg} {x : Dv} {v : V} {kd : List (Str × D)} (r : Rp F H R x v) (e : x.d = strK kd) : ∃ a kvs, v = .ref a ∧ H a = some (.dK kvs) ∧ R a ∧ RpK F H R x.fr kvs (kd.map fun p => (.str p.1, p.2)) := by
  have rf := r.fr
  rw [e] at rf
  unfold strK at rf
  generalize x.fr = n at rf
  cases rf with
  | dK ha hr hw l => exact ⟨_, _, rfl, ha, hr, l⟩
  | dT ha hr hw l => exact (rpt_no l (strK_plain kd)).elim
theorem sortedS_leD : ∀ {ys : List Str}, sortedS ys = true → (ys.map D.str).Pairwise fun a b => leD a b = true := by
  have key : ∀ (ys : List Str) (p : Str), risingS p ys = true → ((p :: ys).map D.str).Pairwise fun a b => leD a b = true := by
    intro ys
    induction ys with
    | nil => intro p _; exact List.pairwise_singleton _ _
    | cons x ys ih =>
      intro p h
      have h' : (!ltCps x.cps.toList p.cps.toList && risingS x ys) = true := h
      rw [Bool.and_eq_true] at h'
      have h2 := ih x h'.2
      have hpx : leD (.str p) (.str x) = true := by
        have e : ltCps x.cps.toList p.cps.toList = false := by simpa using h'.1
        rw [PyProof.Rows.ltCps_eq] at e
        show (!PyProof.Rows.lexLt PyProof.Rows.itemOrd [.inr x.cps.toList] [.inr p.cps.toList]) = true
        have e2 : PyProof.Rows.itemLt (.inr x.cps.toList) (.inr p.cps.toList) = false := e
        simp [PyProof.Rows.lexLt, e2]
      rw [List.map_cons, List.pairwise_cons]
      refine ⟨fun b hb => ?_, h2⟩
      rw [List.map_cons] at hb h2
      rcases List.mem_cons.mp hb with rfl | hb
      · exact hpx
      · exact leD_ok.trans _ _ _ hpx ((List.pairwise_cons.mp h2).1 b hb)
  intro ys h
  cases ys with
  | nil => exact .nil
  | cons y ys => exact key ys y h
theorem srt_strs {ys ks : List Str} (p : ys.Perm ks) (h : sortedS ys = true) : ys.map D.str = srtD (ks.map D.str) := by
  have h1 := srtD_of (sortedS_leD h)
  rw [← h1]
  refine srt_eq (p.map D.str) fun a ha b hb e => ?_
  obtain ⟨x, _, rfl⟩ := List.mem_map.mp ha
  obtain ⟨y, _, rfl⟩ := List.mem_map.mp hb
  simp [tokD, D.pyd, PySem.W.keyToks] at e
  rw [str_ext (x := x) (y := y) (by simpa using e)]
theorem dcl_sortedK (hc : X.calm = true) : DCl X (.builtin "sorted") (g1 fun x Q => ∃ kd, x.d = strK kd ∧ kd.length < 64 ∧ Q ⟨.lst (srtD (kd.map fun p => .str p.1)), true, none⟩) := dcl1 (L2.call_sortedD hc) fun F B R H v x Q K hK I r ⟨kd, ed, hl, q⟩ k => by
  obtain ⟨a, kvs, rfl, ha, hr, l⟩ := strK_at r ed
  refine ⟨a, kvs, kd.map (·.1), rfl, .inl ha, strK_rp l, by rw [List.length_map]; exact hl, fun ys p hp hs hn => ?_⟩
  obtain ⟨e, o, r2⟩ := new_lst (n := true) (vs := ys.map V.str) (ds := ys.map D.str) I hn (by
    clear hp hs
    induction ys with
    | nil => exact .nil
    | cons y ys ih => exact .cons (.str _) ih)
  refine k _ ⟨.lst (ys.map D.str), true, none⟩ _ _ e o (.of r2) ?_
  rw [srt_strs hp hs, List.map_map]
  exact q
theorem star_dK {pins : List (Addr × Obj)} {σ : L2.St} {H : Hp} {s : Shared} {a : Addr} {kvs : List (Key × V)} {Ex : Value → Shared → Prop} {Q : List Value → Shared → Prop} (hc : X.calm = true) (I : Inv X pins σ H s) (h : H a = some (.dK kvs)) (hQ : ∀ us s', Inv X pins σ H s' → Vals (kvs.map fun kv => kV kv.1) us → Q us s') :
    PySem.W.StarOf (model X.prog X.w) X.A Ex (.ref a) Q s := by
  obtain ⟨z, lo, vs, rel, dd⟩ := dk_rd I.hok (.inl h)
  obtain ⟨ep, hat⟩ := dd.dictAt
  have hl : vs.length = kvs.length := rel.length.symm
  have zz : wpAny (model X.prog X.w) X.A (collect (.ref a)) Q Ex s := by
    refine PySem.W.kdu_collect (A := X.A) (PySem.W.kdl_dict (knd := mixKind X.prog X.w) (kvs := vs) (ep := ep) lo) (I.ok.hd hc) hat (by rw [hl]; exact z) fun h' tk acc hk hacc => ?_
    refine hQ _ _ (I.kept hk) ?_
    have ek : (kvs.map fun kv => kV kv.1) = vs.map fun p => kV p.1 := by
      have e := congrArg (List.map kV) rel.keys
      rw [List.map_map, List.map_map] at e
      exact e
    rw [ek]
    exact keys_at (by rw [Array.length_toList]; exact hacc.1) fun j v e => hacc.2 j v (by rw [← Array.getElem?_toList]; exact e)
  unfold PySem.W.StarOf notIterableAtAll
  exact wpAny_bind (wpAny_specialOf dd.typeIs F.slot_dict_iter.lookup (wpAny_pure ⟨rfl, zz⟩))
end
/-- what a dict comprehension makes -/
def dcGo (gt : TDG) (ft : TDt) (fk fe : TD) (ρw : Ro) (Q : Dv → Prop) : List Dv → List (D × D) → Bool → Prop
  | [], acc, n => Q ⟨.dct acc, n, none⟩
  | x :: xs, acc, n => gt x ρw fun ρ2 => ft ρ2 XQ0 fun b => if b = true then fk ρ2 XQ0 fun y => ∃ k, y.d = keyD k ∧ fe ρ2 XQ0 fun z => dcGo gt ft fk fe ρw Q xs (putD acc k z.d) (n && z.fr) else dcGo gt ft fk fe ρw Q xs acc n
theorem putD_len (ds : List (D × D)) (k : Key) (d : D) : (putD ds k d).length ≤ ds.length + 1 := by
  unfold putD
  split
  · rw [List.length_map]; omega
  · rw [List.length_append]; exact Nat.le_refl _
section
variable {X : Cx} {E : XK} {c ca cb cc ci ct ck ce : Nat} {a b d e ke value tg iter elt kx : Expr} {es : List Expr} {fa fb fe fk fv : TD} {fi fs : TDs} {ft : TDt} {pos p p1 p2 apos : Pos} {x y f : Str}
theorem dn_dc_of {own : List (Str × Nat)} {l : List Nat} {gt : TDG} {wi : TI} {g : TG} {tt : TT} {tk te : TE}
    (si : ∀ F B R H σ ρ α XQ Q (K : It → Hp → Prop), F.K = X.K → XLink F E XQ → B + ci ≤ F.L → StOk F B R H σ ρ α → fi ρ XQ Q → (∀ J xs R' H', Ext F R H R' H' → HpOk F (B + ci) R' H' → Q xs → Walks F R' H' J xs → K J H') → wi σ H K)
    (sg : ∀ F B R H σ ρ α v x Q (K : L2.St → Hp → Prop), F.K = X.K → StOk F B R H σ ρ α → Rp F H R x v → gt x ρ Q → (∀ σ' ρ', StOk F B R H σ' ρ' α → SetOnly l σ σ' → Q ρ' → K σ' H) → g v σ H K)
    (st : ∀ F B R H σ ρ α XQ Q (K : Bool → Hp → Prop), F.K = X.K → XLink F E0 XQ → B + ct ≤ F.L → StOk F B R H σ ρ α → ft ρ XQ Q → (∀ b R' H', Ext F R H R' H' → HpOk F (B + ct) R' H' → Q b → K b H') → tt σ H K)
    (sk : ∀ F B R H σ ρ α XQ Q (K : VK), F.K = X.K → XLink F E0 XQ → B + ck ≤ F.L → StOk F B R H σ ρ α → fk ρ XQ Q → (∀ v x R' H', Ext F R H R' H' → HpOk F (B + ck) R' H' → Rp F H' R' x v → Q x → K v H') → tk σ H K)
    (se : ∀ F B R H σ ρ α XQ Q (K : VK), F.K = X.K → XLink F E0 XQ → B + ce ≤ F.L → StOk F B R H σ ρ α → fe ρ XQ Q → (∀ v x R' H', Ext F R H R' H' → HpOk F (B + ce) R' H' → Rp F H' R' x v → Q x → K v H') → te σ H K)
    (hl : ∀ i ∈ l, i ∈ own.map (·.2)) :
    ∀ F B R H σ ρ α XQ Q (K : VK), F.K = X.K → XLink F E XQ → B + (ci + BIG * (ct + ck + ce)) ≤ F.L → StOk F B R H σ ρ α → (fi ρ XQ fun xs => xs.length ≤ BIG ∧ dcGo gt ft fk fe (wipeR ρ (own.map (·.2))) Q xs [] true) →
      (∀ a d n R' H', Ext F R H R' H' → HpOk F (B + (ci + BIG * (ct + ck + ce))) R' H' → Own F H' R' a d n → Nn H a → Q ⟨d, n, none⟩ → K (.ref a) H') → tDc wi g tt tk te (own.map (·.2)) σ H K := fun F B R H σ ρ α XQ Q K hK hX hB S h k => by
  refine si F B R H σ ρ α XQ _ _ hK hX (by omega) S h fun J xs R1 H1 e1 o1 ⟨hz, q⟩ w => fun D hD => ?_
  have n0 := o1.ent2 D (.of hD)
  have nm := mx_none o1.inv hD
  have nr := not_frozen o1 hD
  have S1 := S.ext e1 o1
  have le : ∀ i, i ≤ xs.length → i * (ct + ck + ce) ≤ BIG * (ct + ck + ce) := fun i hi => Nat.mul_le_mul_right _ (Nat.le_trans hi hz)
  refine ⟨fun i m H' => m = xs.length - i ∧ i ≤ xs.length ∧ ∃ R' acc accD n, accD.length ≤ i ∧ H' D = some (.dK acc) ∧ ¬ R' D ∧ Ext F R1 H1 R' H' ∧ HpOk F (B + ci + i * (ct + ck + ce)) R' H' ∧ RpK F H' R' n acc accD ∧ dcGo gt ft fk fe (wipeR ρ (own.map (·.2))) Q (xs.drop i) accD n,
    ⟨_, rfl, Nat.zero_le _, R1, [], [], true, Nat.le_refl _, upd_same, nr, .new0 hD, by simpa using o1.new0 hD .dK, .nil, by simpa using q⟩, ?_⟩
  rintro i m H' ⟨rfl, hi, R', acc, accD, n, hacc, hH, nR, e2, o2, la, q⟩
  have zf : Fz F R1 H1 R' H' := e2.fz o1
  by_cases hlt : i < xs.length
  · refine .inr ?_
    have hx : xs[i]? = some xs[i] := by simp [hlt]
    obtain ⟨go, yl⟩ := (w i _ R' H' zf o2).2 _ hx
    rw [List.drop_eq_getElem_cons hlt] at q
    refine ⟨go, fun H2 => ∃ R2 acc2 accD2 n2, accD2.length ≤ i + 1 ∧ H2 D = some (.dK acc2) ∧ ¬ R2 D ∧ Ext F R1 H1 R2 H2 ∧ HpOk F (B + ci + (i + 1) * (ct + ck + ce)) R2 H2 ∧ RpK F H2 R2 n2 acc2 accD2 ∧ dcGo gt ft fk fe (wipeR ρ (own.map (·.2))) Q (xs.drop (i + 1)) accD2 n2, fun H2 q2 => ⟨_, by omega, rfl, hlt, q2⟩, fun v H'' y => ?_⟩
    obtain ⟨R'', ex, ox, rx⟩ := yl v H'' y
    have S3 : StOk F (B + ci + i * (ct + ck + ce)) R'' H'' (wipe σ (own.map (·.2))) (wipeR ρ (own.map (·.2))) α := ((S1.ext e2 o2).ext ex ox).wipe _
    have hD2 : H'' D = some (.dK acc) := ex.keep D _ nm hH .dK
    have nR2 : ¬ R'' D := fun z => (ex.new D z).elim nR fun z => z _ hH .dK
    have le2 := le (i + 1) hlt
    have e3 : B + ci + (i + 1) * (ct + ck + ce) = B + ci + i * (ct + ck + ce) + ct + ck + ce := by rw [Nat.add_mul, Nat.one_mul]; omega
    refine sg F _ R'' H'' _ _ α v _ _ _ hK S3 rx q fun σ4 ρ4 S4 so q4 => ⟨?_, ?_⟩
    · rw [wipe_eq so hl, wipe_wipe]
    refine st F _ R'' H'' σ4 ρ4 α XQ0 _ _ hK xlink0 (by omega) S4 q4 fun bb R5 H5 e5 o5 q5 => ?_
    have hD5 : H5 D = some (.dK acc) := e5.keep D _ nm hD2 .dK
    have nR5 : ¬ R5 D := fun z => (e5.new D z).elim nR2 fun z => z _ hD2 .dK
    have e15 := (e2.trans ex).trans e5
    cases bb with
    | true =>
      refine sk F _ R5 H5 σ4 ρ4 α XQ0 _ _ hK xlink0 (by omega) (S4.ext e5 o5) q5 fun u y R6 H6 e6 o6 r6 ⟨kk, ey, q6⟩ => ?_
      obtain ⟨dy, ny, vy⟩ := y
      have ey : dy = keyD kk := ey
      subst ey
      have eu := rp_key r6.1
      subst eu
      have hD6 : H6 D = some (.dK acc) := e6.keep D _ nm hD5 .dK
      have nR6 : ¬ R6 D := fun z => (e6.new D z).elim nR5 fun z => z _ hD5 .dK
      refine se F _ R6 H6 σ4 ρ4 α XQ0 _ _ hK xlink0 (by omega) ((S4.ext e5 o5).ext e6 o6) q6 fun u z R7 H7 e7 o7 r7 q7 => ?_
      have hD7 : H7 D = some (.dK acc) := e7.keep D _ nm hD6 .dK
      have nR7 : ¬ R7 D := fun z => (e7.new D z).elim nR6 fun z => z _ hD6 .dK
      have fz7 : Fz F R7 H7 R7 (upd H7 D (.dK (putK acc kk u))) := Fz.put nR7 hD7 (fun _ z => nomatch z) fun _ _ z => nomatch z
      have la7 : RpK F H7 R7 n acc accD := la.mv (((((ex.fz o2).trans (e5.fz ox)).trans (e6.fz o5)).trans (e7.fz o6)).mv fun z => z)
      have e17 := (e15.trans e6).trans e7
      refine ⟨acc, kk, rfl, hD7, lt_line (by rw [la7.len]; omega), R7, putK acc kk u, putD accD kk z.d, n && z.fr, Nat.le_trans (putD_len _ _ _) (by omega), upd_same, nR7, ⟨e17.reg, fun b o m hb nt => by
        rw [upd_ne (ne_of_none hb hD)]
        exact e17.keep b o m hb nt, e17.new, fun b hb => ?_⟩, by rw [e3]; exact o7.put nR7 nm n0 hD7 .dK .dK, ((la7.weak and_l).put kk (r7.fr.weak and_r)).mv (fz7.mv fun z => z), q7⟩
      by_cases z : b = D
      · rw [z]; exact .of hD
      · exact e17.there b fun u q => hb u (by rw [upd_ne z]; exact q)
    | false =>
      exact ⟨R5, acc, accD, n, by omega, hD5, nR5, e15, o5.mono (by omega), la.mv (((ex.fz o2).trans (e5.fz ox)).mv fun z => z), q5⟩
  · have hle : i = xs.length := by omega
    refine .inl ⟨(w i _ R' H' zf o2).1 hle, ?_⟩
    rw [hle, List.drop_length] at q
    refine k D (.dct accD) n R' H' ⟨fun a r => e2.reg a (e1.reg a r), fun a o m ha nt => e2.keep a o m (e1.keep a o m ha nt) nt, fun a r => (e2.new a r).elim (e1.new a) fun z => .inr (e1.there a z), fun a z => e1.there a (e2.there a z)⟩ (o2.mono (by have := le i hi; omega)) ⟨nR, nm, n0, o1.pn D (.of hD), .inl ⟨acc, hH, la⟩⟩ (e1.there D (.of hD)) q
/-- {k: v for .. in .. if ..} -/
theorem dn_dc {scope : Scope} {own : List (Str × Nat)} {l : List Nat} {gt : TDG} (hc : X.calm = true) (hN : X.N.Nodup) (hi : DI X E ci tg iter fi) {ifs : List Expr} (ok : BlkOk X.N X.env.scope scope own)
    (hg : ∀ s H C cl fp, DG (X.blk s H scope (compEnvC scope cl C X.env) fp) l tg gt) (ht : ∀ s H C cl fp, DTs (X.blk s H scope (compEnvC scope cl C X.env) fp) E0 ct ifs ft) (hk : ∀ s H C cl fp, DE (X.blk s H scope (compEnvC scope cl C X.env) fp) E0 ck kx fk) (he : ∀ s H C cl fp, DE (X.blk s H scope (compEnvC scope cl C X.env) fp) E0 ce elt fe)
    (hl : ∀ i ∈ l, i ∈ own.map (·.2)) (hs : ∀ x, foldedSetIterable iter X.env x = pure x := by intro _; rfl) :
    DN X E (ci + BIG * (ct + ck + ce)) (.DictComp kx elt [⟨tg, iter, ifs, 0⟩] scope pos) (fun ρ XQ Q => fi ρ XQ fun xs => xs.length ≤ BIG ∧ dcGo gt ft fk fe (wipeR ρ (own.map (·.2))) Q xs [] true) := by
  obtain ⟨wi, pi, si⟩ := hi
  have hG : ∃ g : TG, (∀ s H C cl fp, PG (X.blk s H scope (compEnvC scope cl C X.env) fp) tg g) ∧ ∀ F B R H σ ρ α v x Q (K : L2.St → Hp → Prop), F.K = X.K → StOk F B R H σ ρ α → Rp F H R x v → gt x ρ Q → (∀ σ' ρ', StOk F B R H σ' ρ' α → SetOnly l σ σ' → Q ρ' → K σ' H) → g v σ H K :=
    ⟨fun v σ H Q => ∀ s H0 C cl fp, (hg s H0 C cl fp).choose v σ H Q, fun s H C cl fp => ⟨fun pins s' σ H' v u Q I r q => (hg s H C cl fp).choose_spec.1.run pins s' σ H' v u Q I r (q s H C cl fp)⟩,
      fun F B R H σ ρ α v x Q K hK S r q k s H0 C cl fp => (hg s H0 C cl fp).choose_spec.2 F B R H σ ρ α v x Q K hK S r q k⟩
  have hT : ∃ tt : TT, (∀ s H C cl fp, PTs (X.blk s H scope (compEnvC scope cl C X.env) fp) ifs tt) ∧ ∀ F B R H σ ρ α XQ Q (K : Bool → Hp → Prop), F.K = X.K → XLink F E0 XQ → B + ct ≤ F.L → StOk F B R H σ ρ α → ft ρ XQ Q → (∀ b R' H', Ext F R H R' H' → HpOk F (B + ct) R' H' → Q b → K b H') → tt σ H K :=
    ⟨fun σ H Q => ∀ s H0 C cl fp, (ht s H0 C cl fp).choose σ H Q, fun s H C cl fp => ⟨fun pins s' σ H' Q I q => (ht s H C cl fp).choose_spec.1.run pins s' σ H' Q I (q s H C cl fp)⟩,
      fun F B R H σ ρ α XQ Q K hK hX hB S q k s H0 C cl fp => (ht s H0 C cl fp).choose_spec.2 F B R H σ ρ α XQ Q K hK hX hB S q k⟩
  have hKk : ∃ te : TE, (∀ s H C cl fp, PE (X.blk s H scope (compEnvC scope cl C X.env) fp) kx te) ∧ ∀ F B R H σ ρ α XQ Q (K : VK), F.K = X.K → XLink F E0 XQ → B + ck ≤ F.L → StOk F B R H σ ρ α → fk ρ XQ Q → (∀ v x R' H', Ext F R H R' H' → HpOk F (B + ck) R' H' → Rp F H' R' x v → Q x → K v H') → te σ H K :=
    ⟨fun σ H Q => ∀ s H0 C cl fp, (hk s H0 C cl fp).choose σ H Q, fun s H C cl fp => ⟨fun pins s' σ H' Q I q => (hk s H C cl fp).choose_spec.1.run pins s' σ H' Q I (q s H C cl fp)⟩,
      fun F B R H σ ρ α XQ Q K hK hX hB S q k s H0 C cl fp => (hk s H0 C cl fp).choose_spec.2 F B R H σ ρ α XQ Q K hK hX hB S q k⟩
  have hE : ∃ te : TE, (∀ s H C cl fp, PE (X.blk s H scope (compEnvC scope cl C X.env) fp) elt te) ∧ ∀ F B R H σ ρ α XQ Q (K : VK), F.K = X.K → XLink F E0 XQ → B + ce ≤ F.L → StOk F B R H σ ρ α → fe ρ XQ Q → (∀ v x R' H', Ext F R H R' H' → HpOk F (B + ce) R' H' → Rp F H' R' x v → Q x → K v H') → te σ H K :=
    ⟨fun σ H Q => ∀ s H0 C cl fp, (he s H0 C cl fp).choose σ H Q, fun s H C cl fp => ⟨fun pins s' σ H' Q I q => (he s H C cl fp).choose_spec.1.run pins s' σ H' Q I (q s H C cl fp)⟩,
      fun F B R H σ ρ α XQ Q K hK hX hB S q k s H0 C cl fp => (he s H0 C cl fp).choose_spec.2 F B R H σ ρ α XQ Q K hK hX hB S q k⟩
  obtain ⟨g, pg, sg⟩ := hG
  obtain ⟨tt, pt, st⟩ := hT
  obtain ⟨tk, pk, sk⟩ := hKk
  obtain ⟨te, pe, se⟩ := hE
  exact ⟨_, pe_dc hc hN pi ok pg pt pk pe hs, dn_dc_of si sg st sk se hl⟩
/-- *d in a display, d a dict from texts -/
theorem da_starD {sp : Pos} (hc : X.calm = true) (he : DE X E ca e fe) (hr : DA X E cb es fs) (hs : starEach (.Starred e sp :: es) X.env = (true, eval e X.env) :: starEach es X.env := by rfl) :
    DA X E (ca + cb) (.Starred e sp :: es) (fun ρ XQ Q => fe ρ XQ fun x => ∃ kd, x.d = strK kd ∧ fs ρ XQ fun xs => Q ((kd.map fun p => (⟨.str p.1, true, none⟩ : Dv)) ++ xs)) := by
  obtain ⟨t, p, s⟩ := he
  obtain ⟨u, p2, s2⟩ := hr
  refine ⟨fun σ H Q => t σ H fun x H1 => ∃ a kvs, x = .ref a ∧ H1 a = some (.dK kvs) ∧ u σ H1 fun ys H2 => Q ((kvs.map fun kv => kV kv.1) ++ ys) H2, ⟨fun pos pins s σ H Q I h => ?_⟩, fun F B R H σ ρ α XQ Q K hK hX hB S h k => ?_⟩
  · refine PySem.W.items_star (thn (p.run pins s σ H _ I h) fun v s1 ⟨y, H1, I1, ry, a, xs, ey, hx, q⟩ => ?_) hs
    subst ey
    obtain rfl : v = Value.ref a := ry
    refine star_dK hc I1 hx fun us s2 I2 rv => ?_
    exact thn (p2.run pos pins s2 σ H1 _ I2 q) fun ws s3 ⟨vs, H3, I3, r3, q3⟩ => ⟨_, H3, I3, rv.append r3, q3⟩
  · refine s F B R H σ ρ α XQ _ _ hK hX (by omega) S h fun v x R1 H1 e1 o1 r1 ⟨kd, ed, q1⟩ => ?_
    obtain ⟨a, kvs, rfl, ha, _, l⟩ := strK_at r1 ed
    refine ⟨a, kvs, rfl, ha, ?_⟩
    refine s2 F (B + ca) R1 H1 σ ρ α XQ _ _ hK hX (by omega) (S.ext e1 o1) q1 fun vs xs R2 H2 e2 o2 r2 q2 => ?_
    refine k _ _ R2 H2 (e1.trans e2) (by rw [← Nat.add_assoc]; exact o2) ?_ q2
    have ek : (kvs.map fun kv => kV kv.1) = kd.map fun p => V.str p.1 := by
      have := congrArg (List.map kV) (strK_rp l)
      rw [List.map_map, List.map_map, List.map_map] at this
      exact this
    rw [ek]
    clear ek l ed q1 q2
    induction kd with
    | nil => exact r2
    | cons p kd ih => exact .cons (.of (.str _)) ih
end
end DL

set_option Elab.async false
set_option linter.all false
set_option maxRecDepth 100000
set_option maxHeartbeats 4000000
/-! DL, part ak: a dict of lists that is filled: the last two statements of Plan.__init__. -/
namespace DL
open PySem PySem.Spec PyProof.Rows L2

/-! ### frozen places more -/
theorem StOk.addR {F : Fx} {B : Nat} {R : Reg} {H : Hp} {σ : L2.St} {ρ : Ro} {α : Nat → Addr} (S : StOk F B R H σ ρ α) (T : Reg) (h : ∀ a, T a → ¬ F.mx a ∧ Nn F.H0 a ∧ (∃ o, H a = some o ∧ NoTbl o) ∧ ∀ (j : Nat) d n, ρ[j]? = some (.ow d n) → α j ≠ a) :
    StOk F B (fun a => R a ∨ T a) H σ ρ α ∧ Fz F R H (fun a => R a ∨ T a) H := by
  have z : Fz F R H (fun a => R a ∨ T a) H := ⟨fun _ r => .inl r, fun _ _ _ h _ => h, fun _ _ h => h⟩
  have m : ∀ n, Mv F R H F (fun a => R a ∨ T a) H n n := fun n => z.mv fun z => z
  refine ⟨⟨⟨S.hp.inv, fun a r => r.elim (S.hp.good a) fun t => ⟨(h a t).1, (h a t).2.2.1⟩, S.hp.ent, S.hp.ent2, fun a r => r.elim (S.hp.reg0 a) fun t => .inr (h a t).2.1, S.hp.tab, S.hp.lim, S.hp.pn⟩, S.len, fun i x hi => ?_, fun i d n hi => ?_, S.dis⟩, z⟩
  · obtain ⟨v, e, r⟩ := S.va i x hi
    exact ⟨v, e, r.fz z⟩
  · obtain ⟨e, w⟩ := S.ow i d n hi
    refine ⟨e, fun r => r.elim w.nr fun t => (h _ t).2.2.2 i d n hi rfl, w.nm, w.n0, w.p0, ?_⟩
    have q := w.at_
    cases d with
    | lst ds => obtain ⟨vs, a, b⟩ := q; exact ⟨vs, a, b.fz z⟩
    | dct ds =>
      rcases q with ⟨vs, a, b⟩ | ⟨vs, a, b⟩
      · exact .inl ⟨vs, a, b.mv (m _)⟩
      · exact .inr ⟨vs, a, b.mv (m _)⟩
    | obj k ds => obtain ⟨dx, vs, a, l, b⟩ := q; exact ⟨dx, vs, a, l, b.fz z⟩
    | _ => exact q.elim
/-- an object that no slot owns, that is not frozen, is put -/
theorem StOk.putN {F : Fx} {B : Nat} {R : Reg} {H : Hp} {σ : L2.St} {ρ : Ro} {α : Nat → Addr} (S : StOk F B R H σ ρ α) {l : Addr} {u u0 : HO} (nr : ¬ R l) (nm : ¬ F.mx l) (n0 : Nn F.H0 l) (hu : H l = some u0) (pu : Plain u0) (tu : ∀ xs, u0 ≠ .tup xs) (fu : ∀ ob w, u0 ≠ .frz ob w) (nt : NoTbl u)
    (h : ∀ (j : Nat) d n, ρ[j]? = some (.ow d n) → α j ≠ l) : StOk F B R (upd H l u) σ ρ α ∧ Fz F R H R (upd H l u) := by
  have z : Fz F R H R (upd H l u) := Fz.put nr hu tu fu
  refine ⟨⟨S.hp.put nr nm n0 hu pu nt, S.len, fun i x hi => ?_, fun i d n hi => ?_, S.dis⟩, z⟩
  · obtain ⟨v, e, r⟩ := S.va i x hi
    exact ⟨v, e, r.fz z⟩
  · obtain ⟨e, w⟩ := S.ow i d n hi
    have na := h i d n hi
    refine ⟨e, w.nr, w.nm, w.n0, w.p0, ?_⟩
    have q := w.at_
    cases d with
    | lst ds => obtain ⟨vs, a, b⟩ := q; exact ⟨vs, by rw [upd_ne na]; exact a, b.fz z⟩
    | dct ds =>
      rcases q with ⟨vs, a, b⟩ | ⟨vs, a, b⟩
      · exact .inl ⟨vs, by rw [upd_ne na]; exact a, b.mv (z.mv fun z => z)⟩
      · exact .inr ⟨vs, by rw [upd_ne na]; exact a, b.mv (z.mv fun z => z)⟩
    | obj k ds => obtain ⟨dx, vs, a, l, b⟩ := q; exact ⟨dx, vs, by rw [upd_ne na]; exact a, l, b.fz z⟩
    | _ => exact q.elim
/-- a slot forgotten -/
theorem StOk.unset {F : Fx} {B : Nat} {R : Reg} {H : Hp} {σ : L2.St} {ρ : Ro} {α : Nat → Addr} (S : StOk F B R H σ ρ α) (i : Nat) : StOk F B R H σ (ρ.set i .un) α := by
  refine ⟨S.hp, by rw [List.length_set]; exact S.len, fun j x h => ?_, fun j d n h => ?_, fun j k d1 n1 d2 n2 hj hk => ?_⟩
  · rcases set_get h with ⟨_, q⟩ | ⟨_, h⟩
    · cases q
    · exact S.va j x h
  · rcases set_get h with ⟨_, q⟩ | ⟨_, h⟩
    · cases q
    · exact S.ow j d n h
  · rcases set_get hj with ⟨_, q⟩ | ⟨_, hj⟩
    · cases q
    · rcases set_get hk with ⟨_, q⟩ | ⟨_, hk⟩
      · cases q
      · exact S.dis j k _ _ _ _ hj hk

/-! ### a dict of lists -/
structure Beh (F : Fx) (H : Hp) (R : Reg) (b : Addr) (es : List (Str × Addr × List Str)) : Prop where
  hb : H b = some (.dK (es.map fun e => (.inr e.1, V.ref e.2.1)))
  hl : ∀ e ∈ es, H e.2.1 = some (.lst (e.2.2.map V.str))
  nd : (b :: es.map (·.2.1)).Nodup
  nr : ∀ a ∈ b :: es.map (·.2.1), ¬ R a ∧ ¬ F.mx a ∧ Nn F.H0 a ∧ F.P a
theorem Beh.there {F : Fx} {H : Hp} {R : Reg} {b : Addr} {es : List (Str × Addr × List Str)} (h : Beh F H R b es) {a : Addr} (ha : a ∈ b :: es.map (·.2.1)) : ∃ o, H a = some o ∧ NoTbl o ∧ ∀ C dx fs, o ≠ .ins C dx fs := by
  rcases List.mem_cons.mp ha with rfl | ha
  · exact ⟨_, h.hb, .dK, fun _ _ _ z => nomatch z⟩
  · obtain ⟨e, he, rfl⟩ := List.mem_map.mp ha
    exact ⟨_, h.hl e he, .lst, fun _ _ _ z => nomatch z⟩
theorem Beh.ext {F : Fx} {H H' : Hp} {R R' : Reg} {b : Addr} {es : List (Str × Addr × List Str)} (h : Beh F H R b es) (e : Ext F R H R' H') : Beh F H' R' b es := by
  refine ⟨e.keep _ _ (h.nr b List.mem_cons_self).2.1 h.hb .dK, fun x hx => e.keep _ _ (h.nr _ (List.mem_cons_of_mem _ (List.mem_map.mpr ⟨x, hx, rfl⟩))).2.1 (h.hl x hx) .lst, h.nd, fun a ha => ⟨fun r => ?_, (h.nr a ha).2⟩⟩
  rcases e.new a r with r | r
  · exact (h.nr a ha).1 r
  · obtain ⟨o, ho, nt, _⟩ := h.there ha
    exact r o ho nt
theorem val_beh {es : List (Str × Addr × List Str)} {e : Str × Addr × List Str} : (es.map (·.1)).Nodup → e ∈ es → valV (es.map fun e => ((Sum.inr e.1 : Key), V.ref e.2.1)) (.inr e.1) = some (.ref e.2.1) := by
  induction es with
  | nil => intro _ h; cases h
  | cons a es ih =>
    intro nd h
    rw [List.map_cons] at nd ⊢
    rcases List.mem_cons.mp h with rfl | h
    · exact valV_pos rfl
    · rw [valV_neg (fun z => by
        have z : a.1 = e.1 := Sum.inr.inj z
        exact (List.nodup_cons.mp nd).1 (z ▸ List.mem_map.mpr ⟨e, h, rfl⟩))]
      exact ih (List.nodup_cons.mp nd).2 h
theorem putK_new {kvs : List (Key × V)} {k : Key} {v : V} (h : k ∉ kvs.map (·.1)) : putK kvs k v = kvs ++ [(k, v)] := by
  unfold putK
  rw [if_neg]
  intro z
  obtain ⟨q, hq, e⟩ := List.any_eq_true.mp z
  exact h (of_decide_eq_true e ▸ List.mem_map.mpr ⟨q, hq, rfl⟩)
section
variable {X : Cx} {E : XK} {tg tg2 iter kx idx self : Expr} {fi fs : TDs} {fx : TD} {pos p p1 p2 lp apos : Pos} {x y f : Str}
theorem run_beh {scope : Scope} {ip : Nat} (hc : X.calm = true) (hN : X.N.Nodup) (hi : DI X E 0 tg iter fi) (ok : BlkOk X.N X.env.scope scope [(y, ip)])
    (hg : ∀ s H C cl fp, PG (X.blk s H scope (compEnvC scope cl C X.env) fp) tg (gName ip)) (hk : ∀ s H C cl fp, PE (X.blk s H scope (compEnvC scope cl C X.env) fp) kx (tVar ip)) (hs : ∀ x, foldedSetIterable iter X.env x = pure x := by intro _; rfl) :
    ∃ t : TE, PE X (.DictComp kx (.List [] lp) [⟨tg, iter, [], 0⟩] scope pos) t ∧ ∀ F B R H σ ρ α XQ (P : List Str → Prop) (K : VK), F.K = X.K → XLink F E XQ → B ≤ F.L → StOk F B R H σ ρ α → ip < ρ.length →
      (fi ρ XQ fun xs => ∃ (ks : List Str) (n : Bool), xs = ks.map (fun k => ⟨.str k, n, none⟩) ∧ ks.Nodup ∧ ks.length < BIG ∧ P ks) →
      (∀ b es R' H', Ext F R H R' H' → HpOk F B R' H' → Beh F H' R' b es → (∀ e ∈ es, e.2.2 = []) → (es.map (·.1)).Nodup → es.length < BIG → P (es.map (·.1)) → K (.ref b) H') → t σ H K := by
  obtain ⟨wi, pi, si⟩ := hi
  refine ⟨_, pe_dc hc hN pi ok hg (fun _ _ _ _ _ => pts_nil) hk (fun _ _ _ _ _ => pe_lst pa_nil) hs, fun F B R H σ ρ α XQ P K hK hX hB S hip h k => ?_⟩
  refine si F B R H σ ρ α XQ _ _ hK hX hB S h fun J xs R1 H1 e1 o1 ⟨ks, n, hxs, hnd, hz, hP⟩ w => fun D hD => ?_
  subst hxs
  have n0 := o1.ent2 D (.of hD)
  have nm := mx_none o1.inv hD
  have nr := not_frozen o1 hD
  refine ⟨fun i m H' => m = ks.length - i ∧ i ≤ ks.length ∧ ∃ R' es, Ext F R1 H1 R' H' ∧ HpOk F B R' H' ∧ Beh F H' R' D es ∧ (∀ e ∈ es, e.2.2 = []) ∧ es.map (·.1) = ks.take i,
    ⟨_, rfl, Nat.zero_le _, R1, [], .new0 hD, o1.new0 hD .dK, ⟨upd_same, fun e he => (nomatch he), by simp, fun a ha => by
      rw [List.map_nil, List.mem_singleton] at ha
      subst ha
      exact ⟨nr, nm, n0, o1.pn _ (.of hD)⟩⟩, fun e he => (nomatch he), by simp⟩, ?_⟩
  rintro i m H' ⟨rfl, hi, R', es, e2, o2, bh, he, hks⟩
  have zf : Fz F R1 H1 R' H' := e2.fz o1
  by_cases hlt : i < ks.length
  · refine .inr ?_
    have hx : (ks.map (fun k => (⟨.str k, n, none⟩ : Dv)))[i]? = some ⟨.str ks[i], n, none⟩ := by simp [hlt]
    obtain ⟨go, yl⟩ := (w i _ R' H' zf o2).2 _ hx
    refine ⟨go, fun H2 => ∃ R2 es2, Ext F R1 H1 R2 H2 ∧ HpOk F B R2 H2 ∧ Beh F H2 R2 D es2 ∧ (∀ e ∈ es2, e.2.2 = []) ∧ es2.map (·.1) = ks.take (i + 1), fun H2 q2 => ⟨_, by omega, rfl, hlt, q2⟩, fun v H'' y => ?_⟩
    obtain ⟨R'', ex, ox, rx⟩ := yl v H'' y
    have rv := rx.1
    cases rv
    have hl : ip < σ.length := by rw [S.len]; exact hip
    refine ⟨?_, ?_⟩
    · show (((σ.set ip none).set ip (some (V.str ks[i]))).set ip none) = σ.set ip none
      rw [List.set_set, List.set_set]
    refine ⟨V.str ks[i], ?_, ?_⟩
    · show ((σ.set ip none).set ip (some (V.str ks[i])))[ip]? = _
      rw [List.getElem?_set_self (by rw [List.length_set]; exact hl)]
    refine ⟨Nat.zero_le _, fun q hq => ?_⟩
    have bh2 := bh.ext ex
    have hqD : D ≠ q := fun z => by subst z; rw [bh2.hb] at hq; cases hq
    have hqs : ∀ a ∈ D :: es.map (·.2.1), a ≠ q := fun a ha z => by
      obtain ⟨o, ho, _⟩ := bh2.there ha
      rw [z, hq] at ho
      cases ho
    have hlen : es.length = i := by
      have := congrArg List.length hks
      rw [List.length_map, List.length_take] at this
      omega
    have hD5 : (upd H'' q (.lst [])) D = some (.dK (es.map fun e => (.inr e.1, V.ref e.2.1))) := by rw [upd_ne hqD]; exact bh2.hb
    have hnew : (Sum.inr ks[i] : Key) ∉ (es.map fun e => ((Sum.inr e.1 : Key), V.ref e.2.1)).map (·.1) := fun z => by
      rw [List.map_map] at z
      obtain ⟨e, he2, ee⟩ := List.mem_map.mp z
      have ee : e.1 = ks[i] := Sum.inr.inj ee
      have hm : ks[i] ∈ ks.take i := by rw [← hks]; exact List.mem_map.mpr ⟨e, he2, ee⟩
      have h1 : (ks.take i ++ ks.drop i).Nodup := by rw [List.take_append_drop]; exact hnd
      exact (List.nodup_append.mp h1).2.2 _ hm _ (by rw [List.drop_eq_getElem_cons hlt]; exact List.mem_cons_self) rfl
    refine ⟨_, .inr ks[i], rfl, hD5, lt_line (by rw [List.length_map, hlen]; omega), R'', es ++ [(ks[i], q, [])], ?_, ?_, ⟨?_, ?_, ?_, ?_⟩, ?_, ?_⟩
    · have e3 : Ext F R1 H1 R'' H'' := e2.trans ex
      refine ⟨e3.reg, fun b o m hb nt => ?_, e3.new, fun b hb => ?_⟩
      · have h'' := e3.keep b o m hb nt
        rw [upd_ne (ne_of_none hb hD), upd_ne (ne_of_none h'' hq)]
        exact h''
      · by_cases z : b = D
        · rw [z]; exact .of hD
        · refine e3.there b fun u hu => ?_
          by_cases z2 : b = q
          · subst z2; rw [hq] at hu; cases hu
          · exact hb u (by rw [upd_ne z, upd_ne z2]; exact hu)
    · exact (ox.new0 hq .lst).put (bh2.nr D List.mem_cons_self).1 nm n0 hD5 .dK .dK
    · rw [upd_same, putK_new hnew, List.map_append]
      rfl
    · intro e he2
      rcases List.mem_append.mp he2 with he2 | he2
      · have ha : e.2.1 ∈ es.map (·.2.1) := List.mem_map.mpr ⟨e, he2, rfl⟩
        rw [upd_ne (fun z => (List.nodup_cons.mp bh2.nd).1 (by rw [z] at ha; exact ha)), upd_ne (hqs _ (List.mem_cons_of_mem _ ha))]
        exact bh2.hl e he2
      · rw [List.mem_singleton] at he2
        subst he2
        rw [upd_ne (Ne.symm hqD), upd_same]
        rfl
    · rw [List.map_append, ← List.cons_append]
      refine List.nodup_append.mpr ⟨bh2.nd, by simp, fun a ha c hc2 => ?_⟩
      simp only [List.map_cons, List.map_nil, List.mem_singleton] at hc2
      rw [hc2]
      exact hqs a ha
    · intro a ha
      rw [List.map_append, ← List.cons_append] at ha
      rcases List.mem_append.mp ha with ha | ha
      · exact bh2.nr a ha
      · simp only [List.map_cons, List.map_nil, List.mem_singleton] at ha
        subst ha
        exact ⟨not_frozen ox hq, mx_none ox.inv hq, ox.ent2 _ (.of hq), ox.pn _ (.of hq)⟩
    · intro e he2
      rcases List.mem_append.mp he2 with he2 | he2
      · exact he e he2
      · rw [List.mem_singleton] at he2
        subst he2
        rfl
    · rw [List.map_append, hks, List.take_succ_eq_append_getElem hlt]
      rfl
  · have hle : i = ks.length := by omega
    subst hle
    refine .inl ⟨(w _ _ R' H' zf o2).1 (by rw [List.length_map]), ?_⟩
    rw [List.take_length] at hks
    exact k D es R' H' (e1.trans e2) o2 bh he (by rw [hks]; exact hnd) (by have := congrArg List.length hks; rw [List.length_map] at this; omega) (by rw [hks]; exact hP)
end
theorem inj_nodup {α β : Type} {f : α → β} {l : List α} (h : (l.map f).Nodup) {a b : α} (ha : a ∈ l) (hb : b ∈ l) (e : f a = f b) : a = b := by
  induction l with
  | nil => cases ha
  | cons c l ih =>
    rw [List.map_cons, List.nodup_cons] at h
    rcases List.mem_cons.mp ha with ea | ha <;> rcases List.mem_cons.mp hb with eb | hb
    · rw [ea, eb]
    · exact absurd (List.mem_map.mpr ⟨b, hb, by rw [← e, ea]⟩) h.1
    · exact absurd (List.mem_map.mpr ⟨a, ha, by rw [e, eb]⟩) h.1
    · exact ih h.2 ha hb
def addE (key z : Str) (e : Str × Addr × List Str) : Str × Addr × List Str := (e.1, e.2.1, if e.1 = key then e.2.2 ++ [z] else e.2.2)
theorem Beh.add {F : Fx} {H : Hp} {R : Reg} {b : Addr} {es : List (Str × Addr × List Str)} (h : Beh F H R b es) (ndk : (es.map (·.1)).Nodup) {e : Str × Addr × List Str} (he : e ∈ es) (z : Str) :
    Beh F (upd H e.2.1 (.lst (e.2.2.map V.str ++ [V.str z]))) R b (es.map (addE e.1 z)) := by
  have ea : (es.map (addE e.1 z)).map (·.2.1) = es.map (·.2.1) := by rw [List.map_map]; rfl
  have hm : e.2.1 ∈ es.map (·.2.1) := List.mem_map.mpr ⟨e, he, rfl⟩
  refine ⟨?_, fun x hx => ?_, by rw [ea]; exact h.nd, fun a ha => by rw [ea] at ha; exact h.nr a ha⟩
  · rw [upd_ne (fun q => (List.nodup_cons.mp h.nd).1 (by rw [q]; exact hm)), h.hb, List.map_map]
    rfl
  · obtain ⟨x', hx', rfl⟩ := List.mem_map.mp hx
    by_cases hk : x'.1 = e.1
    · have := inj_nodup ndk hx' he hk
      subst this
      show upd H x'.2.1 _ x'.2.1 = some (.lst ((if x'.1 = x'.1 then x'.2.2 ++ [z] else x'.2.2).map V.str))
      rw [upd_same, if_pos rfl, List.map_append]
      rfl
    · have ne : x'.2.1 ≠ e.2.1 := fun q => hk (by rw [inj_nodup (List.nodup_cons.mp h.nd).2 hx' he q])
      show upd H e.2.1 _ x'.2.1 = some (.lst ((if x'.1 = e.1 then x'.2.2 ++ [z] else x'.2.2).map V.str))
      rw [upd_ne ne, if_neg hk]
      exact h.hl x' hx'
theorem Beh.other {F : Fx} {H : Hp} {R : Reg} {b : Addr} {es : List (Str × Addr × List Str)} (h : Beh F H R b es) {c : Addr} (hc : c ∉ b :: es.map (·.2.1)) (o : HO) : Beh F (upd H c o) R b es :=
  ⟨by rw [upd_ne (fun z => hc (by rw [← z]; exact List.mem_cons_self))]; exact h.hb, fun e he => by rw [upd_ne (fun z => hc (by rw [← z]; exact List.mem_cons_of_mem _ (List.mem_map.mpr ⟨e, he, rfl⟩)))]; exact h.hl e he, h.nd, h.nr⟩
/-- an own thing told otherwise -/
theorem StOk.redata {F : Fx} {B : Nat} {R : Reg} {H : Hp} {σ : L2.St} {ρ : Ro} {α : Nat → Addr} (S : StOk F B R H σ ρ α) {i : Nat} {d : D} {n : Bool} (h : ρ[i]? = some (.ow d n)) {d' : D} {m : Bool} (hat : OwAt F H R (α i) m d') : StOk F B R H σ (ρ.set i (.ow d' m)) α := by
  obtain ⟨e, w⟩ := S.ow i _ _ h
  refine ⟨S.hp, by rw [List.length_set]; exact S.len, fun j x hj => ?_, fun j d k hj => ?_, fun j k d1 n1 d2 n2 hj hk ea => ?_⟩
  · rcases set_get hj with ⟨_, q⟩ | ⟨ne, hj'⟩
    · cases q
    · exact S.va j x hj'
  · rcases set_get hj with ⟨ej, q⟩ | ⟨ne, hj'⟩
    · cases q
      rw [ej]
      exact ⟨e, w.nr, w.nm, w.n0, w.p0, hat⟩
    · exact S.ow j d k hj'
  · rcases set_get hj with ⟨ej, _⟩ | ⟨nj, hj'⟩ <;> rcases set_get hk with ⟨ek, _⟩ | ⟨nk, hk'⟩
    · rw [ej, ek]
    · rw [ej] at ea ⊢
      exact S.dis i k _ _ _ _ h hk' ea
    · rw [ek] at ea ⊢
      exact S.dis j i _ _ _ _ hj' h ea
    · exact S.dis j k _ _ _ _ hj' hk' ea
theorem beh_rp {F : Fx} {H : Hp} {R R' : Reg} {b : Addr} {es0 : List (Str × Addr × List Str)} (h : Beh F H R b es0) (hR : ∀ a ∈ b :: es0.map (·.2.1), R' a) {n : Bool} : ∀ es : List (Str × Addr × List Str), (∀ e ∈ es, e ∈ es0) →
    RpK F H R' n (es.map fun e => (.inr e.1, V.ref e.2.1)) (es.map fun e => (.str e.1, .lst (e.2.2.map D.str)))
  | [], _ => .nil
  | e :: es, hm => by
    have he := hm e List.mem_cons_self
    have ha : e.2.1 ∈ b :: es0.map (·.2.1) := List.mem_cons_of_mem _ (List.mem_map.mpr ⟨e, he, rfl⟩)
    refine .consS (.lst (h.hl e he) (hR _ ha) (fun _ => (h.nr _ ha).2.2.2) ?_) (beh_rp h hR es fun x hx => hm x (List.mem_cons_of_mem _ hx))
    generalize e.2.2 = l
    induction l with
    | nil => exact .nil
    | cons x l ih => exact .cons (.str x) ih
section
variable {X : Cx} {E : XK} {tg tg2 iter iter2 kx idx self : Expr} {fi fs : TDs} {fx : TD} {pos pos2 cpos p p1 p2 p3 p4 lp apos : Pos} {x y f : Str}
theorem dss_behind {scope : Scope} {self2 : Expr} {i ip : Nat} {y2 : Str} {p5 p6 p7 p8 : Pos} (hc : X.calm = true) (hN : X.N.Nodup) (hu0 : X.A.units + 64 < cLine) (hC : ClT X.K 0) (hp : PassesOwn (model X.prog X.w) X.A X.env X.xe) (va : PE X self (tVar i)) (va2 : PE X self2 (tVar i))
    (hi : DI X E 0 tg iter fi) (ok : BlkOk X.N X.env.scope scope [(y, ip)]) (hg : ∀ s H C cl fp, PG (X.blk s H scope (compEnvC scope cl C X.env) fp) tg (gName ip)) (hk : ∀ s H C cl fp, PE (X.blk s H scope (compEnvC scope cl C X.env) fp) kx (tVar ip))
    (hz : DI X E 0 tg2 iter2 fs) (hg2 : PG X tg2 (gName ip)) (hx : DE X E 0 idx fx) (hns : NoSl idx)
    (hb : ∀ t, PE X (.Subscript (.Attribute self2 "own_behind" p3) idx p4) t → PSs X [.Expr (.Call (.Attribute (.Subscript (.Attribute self2 "own_behind" p3) idx p4) "append" p5) [.Name y2 p6] [] p7) p8] (tDrop (tBM X.K "list" rAppend t (tCons (tVar ip) tNil))))
    (hsw : swapsWith (.DictComp kx (.List [] lp) [⟨tg, iter, [], 0⟩] scope cpos) (some (.Attribute self "own_behind" p2)) pos.line X.env = pure false := by rfl)
    (hab : attributeBase self2 "own_behind" X.env (eval self2 X.env) = eval self2 X.env := by rfl)
    (hs : ∀ x, foldedSetIterable iter X.env x = pure x := by intro _; rfl) (hs2 : ∀ x, foldedSetIterable iter2 X.env x = pure x := by intro _; rfl) :
    DSs X E 0 [.Assign [.Attribute self "own_behind" p2] (.DictComp kx (.List [] lp) [⟨tg, iter, [], 0⟩] scope cpos) pos, .For tg2 iter2 [.Expr (.Call (.Attribute (.Subscript (.Attribute self2 "own_behind" p3) idx p4) "append" p5) [.Name y2 p6] [] p7) p8] [] pos2] (fun N ρ XQ => ip < ρ.length ∧ ip ≠ i ∧ ∃ a d1 d2 d3 d4 m,
      ρ[i]? = some (.ow (.obj (pk a 5) [d1, d2, d3, d4]) m) ∧ (∀ (j : Nat) d n, ρ[j]? = some (.ow d n) → j = i) ∧ fi ρ XQ fun xs => ∃ (ks : List Str) (n : Bool), xs = ks.map (fun k => ⟨.str k, n, none⟩) ∧ ks.Nodup ∧ ks.length < BIG ∧
      ∀ b, fs (ρ.set i (.ow (.obj (pk a 0) [d1, d2, d3, d4, .vee (.ref b)]) m)) XQ fun ys => ∃ (zs : List Str) (n2 : Bool), ys = zs.map (fun z => ⟨.str z, n2, none⟩) ∧ zs.length < BIG ∧ ∃ par : Str → Str,
        (∀ z ∈ zs, par z ∈ ks ∧ fx ((ρ.set i (.ow (.obj (pk a 0) [d1, d2, d3, d4, .vee (.ref b)]) m)).set ip (.va ⟨.str z, n2, none⟩)) XQ fun k => k.d = .str (par z)) ∧
        N.nx ((ρ.set i (.ow (.obj (pk a 0) [d1, d2, d3, d4, .dct (ks.map fun k => (.str k, .lst ((zs.filter fun z => par z == k).map D.str)))]) m)).set ip .un)) := by
  have hu : X.A.units + 1 < cLine := by omega
  obtain ⟨tb, pb, sb⟩ := run_beh (lp := lp) (pos := cpos) hc hN hi ok hg hk hs
  obtain ⟨wz, pz, sz⟩ := hz
  obtain ⟨tx, px, sx⟩ := hx
  refine ⟨_, pss_cons (ps_fld va pb hsw) (pss_one (ps_for hp hc pz hg2 (hb _ (pe_dget hu (pe_fld va2 hab) px hns)) hs2)), fun F B R H σ ρ α XQ N K hK hX hB S ⟨hip, hne, a, d1, d2, d3, d4, m, h0, hown, h⟩ k => ?_⟩
  have hB : B ≤ F.L := hB
  refine sb F B R H σ ρ α XQ _ _ hK hX hB S hip h fun b es R1 H1 e1 o1 bh hes hndk hlen hP => ?_
  have S1 := S.ext e1 o1
  obtain ⟨ev, w⟩ := S1.ow i _ _ h0
  obtain ⟨dx, vs, hv, ⟨hl, hpn⟩, lv⟩ := w.at_
  have ea : a = α i := (pin_pk (by decide)).mp hpn
  have hC5 : objC F.K (pk a 5) = objC X.K 0 := by rw [hK]; exact objC_plan (by rw [pk_mod (by decide)]; decide)
  have hC0 : objC F.K (pk a 0) = objC X.K 0 := by rw [hK]; exact objC_plan (by rw [pk_mod (by decide)]; decide)
  have hN5 : objN (pk a 5) = objNr 5 := objN_pk (by decide)
  have hN0 : objN (pk a 0) = objNr 5 ++ [("own_behind" : Str)] := objN_pk (j := 0) (by decide)
  have hfn : ("own_behind" : Str) ∉ objN (pk a 5) := by rw [hN5]; decide +kernel
  have hf0 : ("own_behind" : Str) ∈ objN 0 := by decide +kernel
  refine ⟨_, ev, α i, objC F.K (pk a 5), dx, _, rfl, hv, by rw [hC5]; exact hC.cls, by rw [hC5]; exact hC.no _ hf0, ?_, ?_⟩
  · rw [List.length_zip, hN5]
    exact Nat.lt_of_le_of_lt (Nat.min_le_left _ _) (by decide)
  rw [putF_zip hl hfn]
  have zz : Fz F R1 H1 R1 (upd H1 (α i) (.ins (objC F.K (pk a 5)) dx ((objN (pk a 5) ++ [("own_behind" : Str)]).zip (vs ++ [V.ref b])))) := Fz.put w.nr hv (fun _ z => nomatch z) fun _ _ z => nomatch z
  obtain ⟨S2, z2⟩ := S1.setG h0 (u := .ins (objC F.K (pk a 5)) dx ((objN (pk a 5) ++ [("own_behind" : Str)]).zip (vs ++ [V.ref b]))) hv .ins (fun _ z => nomatch z) (fun _ _ z => nomatch z) .ins (d' := .obj (pk a 0) [d1, d2, d3, d4, .vee (.ref b)]) (m := m)
    ⟨dx, vs ++ [V.ref b], by rw [upd_same, hC0, hC5, hN0, hN5], ⟨by rw [hN0, List.length_append, List.length_append, ← hl, hN5]; rfl, (pin_pk (by decide)).mpr ea⟩, ((lv.app (.cons (.vee (V.ref b)) .nil)).fz zz)⟩
  have hai : α i ∉ b :: es.map (·.2.1) := fun hm => by
    obtain ⟨o, ho, _, hno⟩ := bh.there hm
    rw [hv] at ho
    cases ho
    exact hno _ _ _ rfl
  have bh2 := bh.other hai (.ins (objC F.K (pk a 5)) dx ((objN (pk a 5) ++ [("own_behind" : Str)]).zip (vs ++ [V.ref b])))
  generalize hH2 : upd H1 (α i) (.ins (objC F.K (pk a 5)) dx ((objN (pk a 5) ++ [("own_behind" : Str)]).zip (vs ++ [V.ref b]))) = H2 at S2 z2 bh2
  refine sz F B R1 H2 σ _ α XQ _ _ hK hX hB S2 (hP b) fun J ys R3 H3 e3 o3 ⟨zs, n2, hys, hzl, par, hpar, hnx⟩ wk => ?_
  subst hys
  have zA : Fz F R H R3 H3 := ((e1.fz S.hp).trans z2).trans (e3.fz S2.hp)
  have S3 := (S2.ext e3 o3).unset ip
  have bh3 := bh2.ext e3
  have hil : i < ρ.length := (List.getElem?_eq_some_iff.mp h0).1
  refine ⟨fun j m' σ' H' => m' = zs.length - j ∧ j ≤ zs.length ∧ ∃ R' es', Fz F R3 H3 R' H' ∧ StOk F B R' H' σ' ((ρ.set i (.ow (.obj (pk a 0) [d1, d2, d3, d4, .vee (.ref b)]) m)).set ip .un) α ∧ Beh F H' R' b es' ∧ es'.map (·.1) = es.map (·.1) ∧ ∀ e ∈ es', e.2.2 = (zs.take j).filter fun z => par z == e.1,
    ⟨_, rfl, Nat.zero_le _, R3, es, .refl, S3, bh3, rfl, fun e he => by rw [hes e he]; rfl⟩, ?_⟩
  rintro j m' σ' H' ⟨rfl, hj, R', es', z', S', bh', hk', hf'⟩
  have ownNe : ∀ {ρ' : Ro}, (∀ (j : Nat) d n, ρ'[j]? = some (.ow d n) → j = i) → ∀ {H' R' es'}, Beh F H' R' b es' → (∃ C dx fs, H' (α i) = some (.ins C dx fs)) → ∀ c ∈ b :: es'.map (·.2.1), ∀ (j : Nat) d n, ρ'[j]? = some (.ow d n) → α j ≠ c := fun {ρ'} ho {H' R' es'} bh ⟨C, dx, fs, hC⟩ c hc j d n hj q => by
    rw [ho j d n hj] at q
    obtain ⟨o, ho, _, hno⟩ := bh.there hc
    rw [← q, hC] at ho
    cases ho
    exact hno _ _ _ rfl
  by_cases hlt : j < zs.length
  · refine .inr ?_
    have hxx : (zs.map (fun z => (⟨.str z, n2, none⟩ : Dv)))[j]? = some ⟨.str zs[j], n2, none⟩ := by simp [hlt]
    obtain ⟨go, yl⟩ := (wk j _ R' H' z' S'.hp).2 _ hxx
    refine ⟨go, fun σ2 H2 => ∃ R2 es2, Fz F R3 H3 R2 H2 ∧ StOk F B R2 H2 σ2 ((ρ.set i (.ow (.obj (pk a 0) [d1, d2, d3, d4, .vee (.ref b)]) m)).set ip .un) α ∧ Beh F H2 R2 b es2 ∧ es2.map (·.1) = es.map (·.1) ∧ ∀ e ∈ es2, e.2.2 = (zs.take (j + 1)).filter fun z => par z == e.1, fun σ2 H2 q2 => ⟨_, by omega, rfl, hlt, q2⟩, fun v H'' y => ?_⟩
    obtain ⟨R'', ex, ox, rx⟩ := yl v H'' y
    have rv := rx.1
    cases rv
    have S4 := (S'.ext ex ox).setva ip (x := ⟨.str zs[j], n2, none⟩) (v := .str zs[j]) rx
    rw [List.set_set] at S4
    have bh4 := bh'.ext ex
    obtain ⟨hpk, hfx⟩ := hpar zs[j] (List.getElem_mem hlt)
    have h4 : ((ρ.set i (.ow (.obj (pk a 0) [d1, d2, d3, d4, .vee (.ref b)]) m)).set ip (.va ⟨.str zs[j], n2, none⟩))[i]? = some (.ow (.obj (pk a 0) [d1, d2, d3, d4, .vee (.ref b)]) m) := by
      rw [List.getElem?_set_ne hne, List.getElem?_set_self hil]
    obtain ⟨e4, w4⟩ := S4.ow i _ _ h4
    obtain ⟨dx4, vs4, hv4, ⟨hl4, _⟩, lv4⟩ := w4.at_
    obtain ⟨w5, hw5, r5⟩ := lv4.get (i := 4) (d := .vee (.ref b)) rfl
    cases r5
    have hfi : (objN (pk a 0))[4]? = some ("own_behind" : Str) := by rw [hN0]; rfl
    refine ⟨_, e4, _, objC F.K (pk a 0), dx4, _, .ref b, rfl, hv4, by rw [hC0]; exact hC.cls, by rw [hC0]; exact hC.no _ hf0, zip_look (objN_nodup _) hfi hw5, ?_⟩
    refine sx F B R'' H'' _ _ α XQ _ _ hK hX hB S4 hfx fun vk xk R5 H5 e5 o5 r5 hxk => ?_
    have r6 := r5.1
    rw [hxk] at r6
    cases r6
    have S5 := S4.ext e5 o5
    have bh5 := bh4.ext e5
    have hndk' : (es'.map (·.1)).Nodup := by rw [hk']; exact hndk
    rw [← hk'] at hpk
    obtain ⟨e, he, ep⟩ := List.mem_map.mp hpk
    have hval := val_beh hndk' he
    rw [ep] at hval
    refine ⟨b, .ref e.2.1, rfl, hval ▸ DGet.k (k := .inr (par zs[j])) bh5.hb, ?_⟩
    refine ⟨Or.inl ⟨rfl, _, SqL.of (bh5.hl e he)⟩, ?_⟩
    have hσl : ip < σ'.length := by rw [S'.len, List.length_set, List.length_set]; exact hip
    refine ⟨V.str zs[j], List.getElem?_set_self hσl, e.2.1, e.2.2.map V.str, V.str zs[j], rfl, rfl, bh5.hl e he, lt_line ?_, ?_⟩
    · rw [List.length_map, hf' e he]
      have h1 := List.length_filter_le (fun z => par z == e.1) (zs.take j)
      rw [List.length_take] at h1
      omega
    have hma : e.2.1 ∈ b :: es'.map (·.2.1) := List.mem_cons_of_mem _ (List.mem_map.mpr ⟨e, he, rfl⟩)
    obtain ⟨n1, nm1, n01, _⟩ := bh5.nr _ hma
    have how : ∀ (j' : Nat) d n, ((ρ.set i (.ow (.obj (pk a 0) [d1, d2, d3, d4, .vee (.ref b)]) m)).set ip (.va ⟨.str zs[j], n2, none⟩))[j']? = some (.ow d n) → j' = i := fun j' d n hj' => by
      rcases set_get hj' with ⟨_, q⟩ | ⟨_, hj'⟩
      · cases q
      · rcases set_get hj' with ⟨q, _⟩ | ⟨_, hj'⟩
        · exact q
        · exact hown j' d n hj'
    have hins : ∃ C dx fs, H5 (α i) = some (.ins C dx fs) := by
      obtain ⟨_, w6⟩ := S5.ow i _ _ h4
      obtain ⟨dx6, vs6, hv6, _⟩ := w6.at_
      exact ⟨_, _, _, hv6⟩
    obtain ⟨S6, z6⟩ := S5.putN (l := e.2.1) (u := .lst (e.2.2.map V.str ++ [V.str zs[j]])) n1 nm1 n01 (bh5.hl e he) .lst (fun _ z => nomatch z) (fun _ _ z => nomatch z) .lst (ownNe how bh5 hins _ hma)
    have S7 := S6.unset ip
    rw [List.set_set] at S7
    refine ⟨R5, es'.map (addE e.1 zs[j]), ((z'.trans (ex.fz S'.hp)).trans (e5.fz ox)).trans z6, S7, bh5.add hndk' he zs[j], by rw [List.map_map]; exact hk', fun x hx => ?_⟩
    obtain ⟨x', hx', rfl⟩ := List.mem_map.mp hx
    rw [List.take_succ_eq_append_getElem hlt, List.filter_append]
    show (if x'.1 = e.1 then x'.2.2 ++ [zs[j]] else x'.2.2) = List.filter (fun z => par z == x'.1) (zs.take j) ++ List.filter (fun z => par z == x'.1) [zs[j]]
    rw [← hf' x' hx', List.filter_cons]
    by_cases hq : x'.1 = e.1
    · rw [if_pos hq, if_pos (by rw [hq, ep]; exact beq_self_eq_true _)]
      rfl
    · rw [if_neg hq, if_neg (by rw [← ep]; simpa using fun z => hq z.symm)]
      simp
  · have hle : j = zs.length := by omega
    subst hle
    refine .inl ⟨(wk _ _ R' H' z' S'.hp).1 (by rw [List.length_map]), ?_⟩
    rw [List.take_length] at hf'
    have h4 : ((ρ.set i (.ow (.obj (pk a 0) [d1, d2, d3, d4, .vee (.ref b)]) m)).set ip .un)[i]? = some (.ow (.obj (pk a 0) [d1, d2, d3, d4, .vee (.ref b)]) m) := by
      rw [List.getElem?_set_ne hne, List.getElem?_set_self hil]
    have how : ∀ (j' : Nat) d n, ((ρ.set i (.ow (.obj (pk a 0) [d1, d2, d3, d4, .vee (.ref b)]) m)).set ip .un)[j']? = some (.ow d n) → j' = i := fun j' d n hj' => by
      rcases set_get hj' with ⟨_, q⟩ | ⟨_, hj'⟩
      · cases q
      · rcases set_get hj' with ⟨q, _⟩ | ⟨_, hj'⟩
        · exact q
        · exact hown j' d n hj'
    have hins : ∃ C dx fs, H' (α i) = some (.ins C dx fs) := by
      obtain ⟨_, w6⟩ := S'.ow i _ _ h4
      obtain ⟨dx6, vs6, hv6, _⟩ := w6.at_
      exact ⟨_, _, _, hv6⟩
    obtain ⟨S7, z7⟩ := S'.addR (fun c => c ∈ b :: es'.map (·.2.1)) fun c hc => ⟨(bh'.nr c hc).2.1, (bh'.nr c hc).2.2.1, (bh'.there hc).imp fun o h => ⟨h.1, h.2.1⟩, ownNe how bh' hins c hc⟩
    obtain ⟨e7, w7⟩ := S7.ow i _ _ h4
    obtain ⟨dx7, vs7, hv7, hl7, lv7⟩ := w7.at_
    obtain ⟨w8, hw8, r8⟩ := lv7.get (i := 4) (d := .vee (.ref b)) rfl
    cases r8
    have rb : RpD F H' (fun c => R' c ∨ c ∈ b :: es'.map (·.2.1)) m (.ref b) (.dct ((es.map (·.1)).map fun k => (.str k, .lst ((zs.filter fun z => par z == k).map D.str)))) := by
      refine .dK bh'.hb (.inr List.mem_cons_self) (fun _ => (bh'.nr b List.mem_cons_self).2.2.2) ?_
      have := beh_rp (R' := fun c => R' c ∨ c ∈ b :: es'.map (·.2.1)) bh' (fun c hc => .inr hc) (n := m) es' fun e he => he
      rw [← hk', List.map_map]
      have e9 : (es'.map fun e => ((.str e.1 : D), D.lst (e.2.2.map D.str))) = es'.map ((fun k => ((.str k : D), D.lst ((zs.filter fun z => par z == k).map D.str))) ∘ (·.1)) := List.map_congr_left fun e he => by
        rw [hf' e he]
        rfl
      rw [← e9]
      exact this
    generalize (D.dct ((es.map (·.1)).map fun k => (.str k, .lst ((zs.filter fun z => par z == k).map D.str)))) = dd at rb hnx
    have l9 := lv7.set 4 rb
    have hvs : vs7.set 4 (.ref b) = vs7 := by
      apply List.ext_getElem?
      intro q
      by_cases hq : q = 4
      · subst hq
        rw [List.getElem?_set_self (List.getElem?_eq_some_iff.mp hw8).1, hw8]
      · rw [List.getElem?_set_ne (Ne.symm hq)]
    rw [hvs] at l9
    have S8 := S7.redata h4 (d' := .obj (pk a 0) [d1, d2, d3, d4, dd]) (m := m) ⟨dx7, vs7, hv7, hl7, l9⟩
    rw [List.set_comm _ _ hne, List.set_set] at S8
    exact k.nx σ' H' _ _ α ((zA.trans z').trans z7) S8 hnx
end
end DL

set_option Elab.async false
set_option linter.all false
set_option maxRecDepth 100000
set_option maxHeartbeats 4000000
/-! DL, part al: texts gone through, enumerate of a list or a tuple, texts of the top. -/
namespace DL
open PySem PySem.Spec PyProof.Rows L2

/-- what the head tells of a method -/
structure MethT (K : PySem.W.Frag) (x q : Str) (st : Stmt) (ps : List Str) where
  f : Addr
  fd : FuncData
  ok : FunD K x q (defArgs st) (defBody st) (defScope st) [] [] f fd
  b : Binds K fd ps []
theorem erase_perm {α : Type} : ∀ {l : List α} {j : Nat} (h : j < l.length), (l[j] :: l.eraseIdx j).Perm l
  | a :: l, 0, _ => .refl _
  | a :: l, j + 1, h => by
    have := erase_perm (l := l) (j := j) (by simpa using h)
    simp only [List.getElem_cons_succ, List.eraseIdx_cons_succ]
    exact (List.Perm.swap _ _ _).trans (this.cons a)
def iEnumA (K : PySem.W.Frag) (ta : TA) : TI := fun σ H R => ta σ H fun vs H1 => ∃ a, vs = [.ref a] ∧ ((∃ xs, SqL K H1 a xs ∧ R (Ite K a) H1) ∨ ∃ xs, SqT K H1 a xs ∧ R (IteT K a) H1)
theorem pi_enumA {X : Cx} {e : Expr} {ta : TA} {p pos tpos : Pos} {elts : List Expr} {kk : Nat} (hg : Gl X "enumerate") (hm : X.mg "enumerate" = none) (ha : PA X [e] ta) (hs : starEach [e] X.env = [(false, eval e X.env)] := by rfl) :
    PI X (.Tuple elts kk tpos) (.Call (.Name "enumerate" p) [e] [] pos) (iEnumA X.K ta) := by
  refine ⟨fun pins s σ H R I h => ?_⟩
  refine Call_ (ld_blt I hg hm boot_enumerate (PyProof.Rows.callWith_type1 (thn (ha.run pos pins s σ H _ I h) fun us s1 ⟨vs, H1, I1, r1, q1⟩ => ?_) hs rfl))
  obtain ⟨a, ex, q1⟩ := q1
  subst ex
  cases r1 with
  | cons r rr =>
    cases rr
    cases r
    have fin : ∀ h' : Heap, ∀ b ∈ [s1.heap.objs.size + 1, s1.heap.objs.size], FpOk X pins H1 b := fun h' b hb => by
      have e' : b = s1.heap.objs.size + 1 ∨ b = s1.heap.objs.size := by simpa using hb
      have hle : s1.heap.objs.size ≤ b := by
        rcases e' with z | z
        · rw [z]; exact Nat.le_add_right _ _
        · rw [z]; exact Nat.le_refl _
      exact I1.fpOk hle (I1.hok.fresh hle)
    rcases q1 with ⟨xs, hq, q⟩ | ⟨xs, hq, q⟩
    · obtain ⟨its, rv, p', hz⟩ := I1.list hq
      refine call_enumerate_list p'.isList fun h' he hit hsz hk => wpAny_pyIter_enum he ?_
      have I2 : Inv X pins σ H1 { s1 with heap := h' } := I1.kept (t' := s1.toks) hk
      exact ⟨s1.heap.objs.size + 1, [s1.heap.objs.size + 1, s1.heap.objs.size], _, _, H1, rfl, I2, turn_enum a (s1.heap.objs.size + 1) s1.heap.objs.size, ⟨⟨.none, he⟩, hit, Nat.succ_ne_self _⟩, fin h', q⟩
    · obtain ⟨its, rv, p', hz⟩ := I1.tuple hq
      refine call_enum1 (PySem.begins_tuple a its.toArray) p' fun h' he hit hsz hk => wpAny_pyIter_enum he ?_
      have I2 : Inv X pins σ H1 { s1 with heap := h' } := I1.kept (t' := s1.toks) hk
      exact ⟨s1.heap.objs.size + 1, [s1.heap.objs.size + 1, s1.heap.objs.size], _, _, H1, rfl, I2, turn_enumT a (s1.heap.objs.size + 1) s1.heap.objs.size, ⟨⟨.none, he⟩, ⟨_, hit, rfl, rfl⟩, Nat.succ_ne_self _⟩, fin h', q⟩
/-- the signs of a text -/
def sgn (x : Str) : List Dv := x.cps.toList.map fun c => ⟨.str ⟨#[c]⟩, true, none⟩
theorem walks_str {F : Fx} {R : Reg} {H : Hp} {x : Str} : Walks F R H (Its x) (sgn x) := fun i B R' H' z o => by
  unfold sgn
  refine ⟨fun hl => by rw [hl, List.length_map]; exact Nat.le_refl _, fun y hy => ?_⟩
  rw [List.getElem?_map] at hy
  cases e : x.cps.toList[i]? with
  | none => rw [e] at hy; cases hy
  | some c =>
    rw [e] at hy
    cases hy
    have hi : i < x.cps.size := by
      have := (List.getElem?_eq_some_iff.mp e).1
      rwa [Array.length_toList] at this
    refine ⟨hi, fun u H'' ⟨e1, c', e2, e3⟩ => ?_⟩
    subst e1 e3
    rw [← Array.getElem?_toList, e] at e2
    cases e2
    exact ⟨R', .refl, o, .of (.str _)⟩
section
variable {X : Cx} {E : XK} {c ca cb : Nat} {a b e tg : Expr} {fe fa fb : TD} {fs : TDs} {pos p : Pos} {x : Str}
/-- enumerate(a list or a tuple) -/
theorem di_enumA {elts : List Expr} {kk : Nat} {tpos : Pos} (hg : Gl X "enumerate") (hm : X.mg "enumerate" = none) (ha : DA X E c [a] fs) (hs : starEach [a] X.env = [(false, eval a X.env)] := by rfl) :
    DI X E c (.Tuple elts kk tpos) (.Call (.Name "enumerate" p) [a] [] pos) (fun ρ XQ Q => fs ρ XQ fun xs => ∃ y ds, xs = [y] ∧ y.d.seq = some ds ∧ Q (enumD y.fr 0 ds)) := by
  obtain ⟨t, pt, s⟩ := ha
  refine ⟨_, pi_enumA hg hm pt hs, fun F B R H σ ρ α XQ Q K hK hX hB S h k => ?_⟩
  refine s F B R H σ ρ α XQ _ _ hK hX hB S h fun vs xs R' H' e' o' r' ⟨y, ds, ex, ey, q'⟩ => ?_
  subst ex
  match vs, r' with
  | [v], .cons r1 .nil =>
    obtain ⟨d, n, vo⟩ := y
    cases d <;> try cases ey
    case lst =>
      obtain ⟨a, vs, rfl, ha, ra, la⟩ := r1.lstR rfl
      exact ⟨a, rfl, .inl ⟨vs, .of ha, k _ _ R' H' e' o' q' (walks_enum ha ra la)⟩⟩
    case tup =>
      obtain ⟨a, vs, rfl, ha, la⟩ := r1.tupL rfl
      exact ⟨a, rfl, .inr ⟨vs, hK ▸ ha, hK ▸ k _ _ R' H' e' o' q' (walks_enumT ha la)⟩⟩
/-- over a text -/
theorem di_str (he : DE X E c e fe) : DI X E c tg e (fun ρ XQ Q => fe ρ XQ fun x => ∃ z, x.d = .str z ∧ Q (sgn z)) := by
  obtain ⟨t, p, s⟩ := he
  refine ⟨_, pi_str p, fun F B R H σ ρ α XQ Q K hK hX hB S h k => ?_⟩
  refine s F B R H σ ρ α XQ _ _ hK hX hB S h fun v x R' H' e' o' r' ⟨z, ex, q'⟩ => ?_
  obtain ⟨d, n, vo⟩ := x
  have ex : d = .str z := ex
  subst ex
  have r := r'.1
  cases r
  exact ⟨z, rfl, k _ _ R' H' e' o' q' walks_str⟩
/-- one sign in a text -/
def gSign (neg : Bool) : GD2 := fun x y Q => ∃ (c : Nat) (z : Str), x.d = .str ⟨#[c]⟩ ∧ y.d = .str z ∧ Q ⟨.bl (if neg then !decide (c ∈ z.cps.toList) else decide (c ∈ z.cps.toList)), true, none⟩
theorem dop_sign : DOp X (compareOp .In) (gSign false) := ⟨_, op_in_sign, fun F B R H v u x y Q K hK I r1 r2 ⟨c, z, ex, ey, q⟩ k => by
  obtain ⟨dx, nx, vx⟩ := x
  obtain ⟨dy, ny, vy⟩ := y
  have ex : dx = .str ⟨#[c]⟩ := ex
  have ey : dy = .str z := ey
  subst ex ey
  have z1 := r1.1
  have z2 := r2.1
  cases z1
  cases z2
  exact ⟨c, z, rfl, rfl, k _ _ R H .refl I (.of (.bl _)) q⟩⟩
/-- a text of the top -/
theorem de_globS {z : Str} {u : Value} (hg : Gl X x) (hm : X.mg x = some u) (r : RelV (.str z) u) (hd : (x == ("__debug__" : Str)) = false := by decide) : DE X E 0 (.Name x pos) (fun _ _ Q => Q ⟨.str z, true, none⟩) :=
  ⟨_, pe_glob (v := .str z) hg hm r hd, fun F B R H σ ρ α XQ Q K _ _ _ S q k => k _ _ R H .refl S.hp (.of (.str _)) q⟩
end
end DL

set_option Elab.async false
set_option linter.all false
set_option maxRecDepth 100000
set_option maxHeartbeats 4000000
/-! DL, part am: a stream laid of the script itself. -/
namespace DL
open PySem PySem.Spec PyProof.Rows L2
theorem FnG.mono {P : Program} {w : World} {K : PySem.W.Frag} {mg : Str → Option Value} {base : Heap} {j k cost : Nat} {f : Addr} {fd : FuncData} {ps : List Str} {g : DC} (F : FnG P w K mg base j f fd ps cost g) (h : j ≤ k) : FnG P w K mg base k f fd ps cost g :=
  ⟨fun A outer s H args us vs Q E hr => F.run A outer s H args us vs Q E (hr.mono h)⟩
/-- a def that lays a stream of any list's items -/
def spLayS (K : PySem.W.Frag) : List V → Hp → VK → XK → Prop := fun vs H Q _ => vs.length = 1 ∧ ∃ a xs, vs = [.ref a] ∧ SqL K H a xs ∧ xs.length ≤ 1000 ∧ ∀ p q, H p = none → (upd H p (.lst xs)) q = none → Q (.ref q) (upd (upd H p (.lst xs)) q (.lst [.ref p, .int 0, .int 0, .int 19]))
section
variable {X : Cx} {E : XK} {e : Expr} {fs : TDs} {pos p : Pos} {x : Str}
theorem dstrm_script {k : Nat} {f : Addr} {fd : FuncData} {ps : List Str} (F : FnOk X.prog X.w X.K X.mg X.base (L2.CX X.prog X.w) k f fd ps (spLayS X.K)) (hr : Room k X.A) (hg : Gl X x) (hm : X.mg x = some (.ref f)) (hk : PySem.W.keepIn X.K (.ref f) = true) (hb : Binds X.K fd ps [])
    (hx : Passes (L2.CX X.prog X.w) X E) (hn : [e].length = ps.length) (ha : DA X E 0 [e] fs) (hdb : (x == ("__debug__" : Str)) = false := by decide) (he : starEach [e] X.env = (false, eval e X.env) :: starEach [] X.env := by rfl) (hpl : (backTo pos (starEach [] X.env)).any (·.1) = false := by rfl) :
    DStrm X E (.Call (.Name x p) [e] [] pos) (fun ρ XQ => fs ρ XQ fun xs => ∃ (y : Dv) (a : Addr), xs = [y] ∧ y.v = some (.ref a) ∧ XQ .none "script" (.ref a)) := by
  obtain ⟨t, pt, s⟩ := ha
  refine ⟨_, pe_call F hr hg hm hk hb .nil hx pt hdb he hpl, fun F B R H σ ρ α XQ K hK hX hB S h k => ?_⟩
  refine s F B R H σ ρ α XQ _ _ hK hX hB S h fun vs xs R1 H1 e1 o1 r1 ⟨y, a, ex, ev, hx⟩ => ?_
  rw [List.append_nil]
  subst ex
  cases r1 with
  | @cons _ v _ _ r1 rn =>
  cases rn
  have hv : V.ref a = v := r1.2 _ ev
  subst hv
  obtain ⟨hs, a', ns, ea, sq, l, l2⟩ := (hX.1 _ _ hx).2 rfl
  cases ea
  have sq1 : SqF X.K H1 a (ns.map V.int) := hK ▸ sq.keep fun o u h => o1.ent a _ (fun ⟨p, ep, _⟩ => by rw [hs] at ep; cases ep) h .frz
  refine ⟨rfl, a, ns.map V.int, rfl, sq1.sql, by rw [List.length_map]; omega, fun p q hp hq => ?_⟩
  have e2 : Ext F R1 H1 R1 (upd H1 p (.lst (ns.map V.int))) := .new0 hp
  have o2 := o1.new0 hp (.lst (xs := ns.map V.int))
  have e3 : Ext F R1 _ R1 (upd (upd H1 p (.lst (ns.map V.int))) q (.lst [.ref p, .int 0, .int 0, .int 19])) := .new0 hq
  have ne : q ≠ p := fun z => by
    subst z
    rw [upd_same] at hq; cases hq
  exact k q p R1 _ ((e1.trans e2).trans e3) (o2.new0 hq .lst) ⟨ne, ns, upd_same, by rw [upd_ne (Ne.symm ne)]; exact upd_same, by omega, l2⟩ (not_frozen o2 hq) (not_frozen o1 hp) (e1.there q (e2.there q (.of hq))) (e1.there p (.of hp))
end
end DL

set_option Elab.async false
set_option linter.all false
set_option maxRecDepth 100000
set_option maxHeartbeats 4000000
/-! DL, part an: what the head tells of an own class. -/
namespace DL
open PySem PySem.Spec PyProof.Rows L2
theorem clB_plan {K : PySem.W.Frag} (h : clB K "Plan" (objNr 0) = true) : ClT K 0 := by
  obtain ⟨h1, h2⟩ := He.ba h
  have i := insB_ok h1
  exact ⟨i.cl, fun f hf => He.noat_ok (List.all_eq_true.mp h2 f hf), i⟩
end DL

set_option Elab.async false
set_option linter.all false
set_option maxRecDepth 100000
set_option maxHeartbeats 4000000
set_option pp.maxSteps 6000
namespace My
open PySem PySem.Spec PyProof.Rows L2 DL
structure FnT (K : PySem.W.Frag) (mg : Str → Option Value) (x : Str) (st : Stmt) (ps : List Str) where
  f : Addr
  fd : FuncData
  ok : FunD K x x (defArgs st) (defBody st) (defScope st) [] [] f fd
  g : mg x = some (.ref f)
  b : Binds K fd ps []
structure Txt (K : PySem.W.Frag) (mg : Str → Option Value) where
  n_ValueError : mg "ValueError" = none
  n_abs : mg "abs" = none
  n_all : mg "all" = none
  n_bool : mg "bool" = none
  n_dict : mg "dict" = none
  n_enumerate : mg "enumerate" = none
  n_int : mg "int" = none
  n_isinstance : mg "isinstance" = none
  n_len : mg "len" = none
  n_list : mg "list" = none
  n_max : mg "max" = none
  n_range : mg "range" = none
  n_repr : mg "repr" = none
  n_sorted : mg "sorted" = none
  n_str : mg "str" = none
  n_sum : mg "sum" = none
  n_tuple : mg "tuple" = none
  n_zip : mg "zip" = none
  f_is_list : FnT K mg "is_list" s_is_list ["thing"]
  f_is_whole : FnT K mg "is_whole" s_is_whole ["thing"]
  f_is_number : FnT K mg "is_number" s_is_number ["thing"]
  f_is_row : FnT K mg "is_row" s_is_row ["thing", "many"]
  f_is_name : FnT K mg "is_name" s_is_name ["thing"]
  f_first_bad : FnT K mg "first_bad" s_first_bad ["things", "is_right"]
  f_greatest_of : FnT K mg "greatest_of" s_greatest_of ["rooms", "many"]
  f_first_bad_road : FnT K mg "first_bad_road" s_first_bad_road ["office", "roads"]
  f_is_post : FnT K mg "is_post" s_is_post ["plan", "thing"]
  f_check_plan : FnT K mg "check_plan" s_check_plan ["plan"]
  f_check_many : FnT K mg "check_many" s_check_many ["plan", "many"]
  f_is_end : FnT K mg "is_end" s_is_end ["plan", "thing"]
  f_check_end : FnT K mg "check_end" s_check_end ["plan", "post"]
  f_riders_of : FnT K mg "riders_of" s_riders_of ["plan", "post"]
  f_written : FnT K mg "written" s_written ["plan", "post", "moment", "tick"]
  f_away_of : FnT K mg "away_of" s_away_of ["plan", "post", "last", "tick"]
  f_between_of : FnT K mg "between_of" s_between_of ["plan", "post", "moment", "last"]
  f_rooms_of : FnT K mg "rooms_of" s_rooms_of ["plan", "riders"]
  f_room_but : FnT K mg "room_but" s_room_but ["plan", "riders", "many"]
  f_is_cut_for : FnT K mg "is_cut_for" s_is_cut_for ["plan", "many", "post", "thing"]
  f_more_than : FnT K mg "more_than" s_more_than ["plan", "many", "post", "size", "cut"]
  f_is_shelf_cut : FnT K mg "is_shelf_cut" s_is_shelf_cut ["plan", "many", "post", "thing"]
  f_check_size : FnT K mg "check_size" s_check_size ["plan", "many", "post", "size"]
  f_shelf_cut_fault : FnT K mg "shelf_cut_fault" s_shelf_cut_fault ["plan", "many", "post", "size", "thing"]
  f__law_stream : FnT K mg "_law_stream" s__law_stream ["script"]
  f__law_draw : FnT K mg "_law_draw" s__law_draw ["stream", "many"]
  f__law_pick : FnT K mg "_law_pick" s__law_pick ["stream", "things"]
  f__law_mixed : FnT K mg "_law_mixed" s__law_mixed ["stream", "things"]
  f__law_same : FnT K mg "_law_same" s__law_same ["found", "due"]
  f__law_loose : FnT K mg "_law_loose" s__law_loose ["stream", "thing"]
  f__law_names : FnT K mg "_law_names" s__law_names ["stream", "many"]
  f__law_ride : FnT K mg "_law_ride" s__law_ride ["plan", "gone"]
  f__law_room : FnT K mg "_law_room" s__law_room ["plan", "riders", "many"]
  f__law_tree : FnT K mg "_law_tree" s__law_tree ["stream", "posts"]
  f__law_plan : FnT K mg "_law_plan" s__law_plan ["stream", "posts", "riders", "letters"]
  f__law_turned : FnT K mg "_law_turned" s__law_turned ["stream", "plan"]
  f__law_made_of : FnT K mg "_law_made_of" s__law_made_of ["stream", "plan"]
  f__law_ends : FnT K mg "_law_ends" s__law_ends ["plan"]
  f__law_endful : FnT K mg "_law_endful" s__law_endful ["stream", "riders", "letters"]
  f__law_mine : FnT K mg "_law_mine" s__law_mine ["plan", "post"]
  f__law_is_whole : FnT K mg "_law_is_whole" s__law_is_whole ["thing"]
  f__law_away : FnT K mg "_law_away" s__law_away ["plan", "post", "last", "tick"]
  f__law_between : FnT K mg "_law_between" s__law_between ["plan", "post", "moment", "last"]
  f__law_written : FnT K mg "_law_written" s__law_written ["plan", "post", "moment", "tick"]
  f__law_is_shelf_cut : FnT K mg "_law_is_shelf_cut" s__law_is_shelf_cut ["plan", "many", "post", "thing"]
  f__law_more : FnT K mg "_law_more" s__law_more ["plan", "many", "post", "size", "cut"]
  f__law_steady : FnT K mg "_law_steady" s__law_steady ["stream", "riders"]
  f__law_scene : FnT K mg "_law_scene" s__law_scene ["stream", "riders", "letters"]
  f__law_things : FnT K mg "_law_things" s__law_things ["stream", "plan", "post"]
  f__law_cuts_right : FnT K mg "_law_cuts_right" s__law_cuts_right ["stream", "plan", "made", "post", "many"]
  f_law : FnT K mg "law" s_law ["script"]
  clP : ClT K 0
  g_Plan : mg "Plan" = some (.ref (objC K 0))
  g_LETTERS : ∃ t, mg "LETTERS" = some (.str "abcdefghijklmnopqrstuvwxyz" t)
  f_Plan___init__ : MethT K "__init__" "Plan.__init__" s_Plan___init__ ["self", "office", "roads", "riders", "letters"]
  f_Plan_is_rider : MethT K "is_rider" "Plan.is_rider" s_Plan_is_rider ["self", "thing"]
  f_Plan_is_letter : MethT K "is_letter" "Plan.is_letter" s_Plan_is_letter ["self", "thing"]
  mkP : Mk K (objC K 0) f_Plan___init__.f
  bmR : BMeth K (objC K 0) "is_rider" f_Plan_is_rider.f
  bmL : BMeth K (objC K 0) "is_letter" f_Plan_is_letter.f
/-! ### the plain side -/
def isWhole : D → Bool
  | .int _ => true
  | _ => false
theorem isWhole_int {d : D} (h : isWhole d = true) : ∃ i, d = .int i := by
  cases d <;> first | exact ⟨_, rfl⟩ | (simp [isWhole] at h)
def isNumber : D → Bool
  | .int i => decide (0 ≤ i)
  | _ => false
def isList (d : D) : Bool := d.seq.isSome
def isRow (d : D) (n : Int) : Bool := match d.seq with
  | some xs => (xs.length : Int) == n
  | none => false

/-- a plan's own form -/
structure PV where
  office : Str
  roads : List (Str × Str × Int)
  riders : List (Str × Int × Int)
  letters : List (Str × Int × Int)
def rowD (r : Str × Int × Int) : D := .tup [.str r.1, .int r.2.1, .int r.2.2]
def roadD (r : Str × Str × Int) : D := .tup [.str r.1, .str r.2.1, .int r.2.2]
def roadsD (p : PV) : D := .dct (p.roads.map fun r => (.str r.1, .tup [.str r.2.1, .int r.2.2]))
def PV.behind (p : PV) (x : Str) : List D := (srtD (p.roads.map fun r => .str r.1)).filter fun d => match d with
  | .str y => (p.roads.any fun r => decide (r.1 = y) && decide (r.2.1 = x))
  | _ => false
def behindD (p : PV) : D := .dct ((p.office :: p.roads.map (·.1)).map fun x => (.str x, .lst (p.behind x)))
/-- the instance -/
def PV.o (p : PV) : D := .obj 0 [.str p.office, roadsD p, .lst (p.riders.map rowD), .lst (p.letters.map rowD), behindD p]
structure PV.Ok (p : PV) : Prop where
  r1 : p.roads ≠ []
  r2 : p.riders.length ≤ 1000
  r3 : p.letters.length ≤ 1000
  nr : ∀ r ∈ p.riders, PyData.strOk r.1 = true
  nl : ∀ r ∈ p.letters, PyData.strOk r.1 = true
  sr : ∀ r ∈ p.riders, r.2.1.natAbs ≤ 10 ^ 9 ∧ r.2.2.natAbs ≤ 10 ^ 9
  sl : ∀ r ∈ p.letters, r.2.1.natAbs ≤ 10 ^ 9 ∧ r.2.2.natAbs ≤ 10 ^ 9
/-- the riders of a post -/
abbrev Row : Type := Str × Int × Int
def mineAt (x : Str) : Nat → List Row → List Nat
  | _, [] => []
  | i, r :: rs => if r.1 = x then i :: mineAt x (i + 1) rs else mineAt x (i + 1) rs
def mineN (rs : List Row) (x : Str) : List Nat := mineAt x 0 rs
theorem mem_mineAt {x : Str} : ∀ {rs : List Row} {i k : Nat}, k ∈ mineAt x i rs → i ≤ k ∧ k < i + rs.length ∧ ∃ r, rs[k - i]? = some r ∧ r.1 = x
  | [], _, _, h => nomatch h
  | r :: rs, i, k, h => by
    unfold mineAt at h
    have go : k ∈ mineAt x (i + 1) rs → i ≤ k ∧ k < i + (r :: rs).length ∧ ∃ r', (r :: rs)[k - i]? = some r' ∧ r'.1 = x := fun h => by
      obtain ⟨h1, h2, r', h3, h4⟩ := mem_mineAt h
      refine ⟨by omega, by simp only [List.length_cons]; omega, r', ?_, h4⟩
      rw [show k - i = (k - (i + 1)) + 1 by omega, List.getElem?_cons_succ]
      exact h3
    split at h
    · rename_i hx
      rcases List.mem_cons.mp h with rfl | h
      · exact ⟨Nat.le_refl _, by simp only [List.length_cons]; omega, r, by simp, hx⟩
      · exact go h
    · exact go h
theorem mem_mine {x : Str} {rs : List Row} {k : Nat} (h : k ∈ mineN rs x) : k < rs.length ∧ ∃ r, rs[k]? = some r ∧ r.1 = x := by
  obtain ⟨_, h2, r, h3, h4⟩ := mem_mineAt h
  exact ⟨by omega, r, by simpa using h3, h4⟩
theorem mineAt_len {x : Str} : ∀ {rs : List Row} {i : Nat}, (mineAt x i rs).length ≤ rs.length
  | [], _ => Nat.le_refl _
  | r :: rs, i => by
    unfold mineAt
    have := mineAt_len (x := x) (rs := rs) (i := i + 1)
    split <;> simp only [List.length_cons] <;> omega
def mineF (x : Str) (y : Dv) : Option D := match y.d with
  | .tup [.int k, .tup (.str z :: _)] => if z = x then some (.int k) else none
  | _ => none
theorem enum_mine (x : Str) (n : Bool) : ∀ (rs : List Row) (i : Nat), (enumD n i (rs.map rowD)).filterMap (mineF x) = (mineAt x i rs).map fun k => D.int (k : Nat)
  | [], _ => rfl
  | r :: rs, i => by
    rw [List.map_cons, enumD, List.filterMap_cons, enum_mine x n rs (i + 1)]
    show _ = (if r.1 = x then i :: mineAt x (i + 1) rs else mineAt x (i + 1) rs).map _
    by_cases h : r.1 = x
    · simp only [mineF, rowD, if_pos h, List.map_cons]
    · simp only [mineF, rowD, if_neg h]
theorem any_find {α : Type} {f : α → Bool} : ∀ {l : List α}, l.any f = (l.find? f).isSome
  | [] => rfl
  | a :: l => by
    rw [List.any_cons, List.find?_cons, any_find]
    cases f a <;> rfl
theorem getK_map {α : Type} (f : α → Str) (g : α → D) (x : Str) : ∀ l : List α, getK (l.map fun a => (.str (f a), g a)) (.inr x) = (l.find? fun a => decide (f a = x)).map g
  | [] => rfl
  | a :: l => by
    rw [List.map_cons, getK_cons, List.find?_cons, getK_map f g x l]
    by_cases h : f a = x
    · simp [isKey, h]
    · simp [isKey, h]
theorem PV.fld {p : PV} {f : Str} {n : Bool} {v : Option V} {Q : Dv → Prop} (i : Nat) {d : D} (h : (objN 0)[i]? = some f) (hd : [D.str p.office, roadsD p, .lst (p.riders.map rowD), .lst (p.letters.map rowD), behindD p][i]? = some d) (q : Q ⟨d, Dv.fr ⟨p.o, n, v⟩, none⟩) : gFld f ⟨p.o, n, v⟩ Q := ⟨0, _, i, d, rfl, h, hd, q⟩

section
variable {P : Program} {w : World} {K : PySem.W.Frag} {mg : Str → Option Value} {base : Heap}
theorem sc_is_list : FnScope ["thing"] ["thing"] (defScope s_is_list) := ⟨rfl, rfl, rfl, by decide +kernel, rfl, by decide +kernel, by decide +kernel⟩
def c_is_list : DC := fun ds _ _ Q => ∃ a, ds = [a] ∧ a.good = true ∧ Q ⟨.bl (isList a), true, none⟩
theorem ok_is_list (T : Txt K mg) : FnD P w K mg base 1 T.f_is_list.f T.f_is_list.fd ["thing"] 0 c_is_list := by
  refine fn_ok T.f_is_list.ok sc_is_list fun cdv A outer s H E hr => ⟨_, _, (dss_one (ds_ret [] (de_isiT (tys_ok2 ty_list ty_tuple) (de_var (pv 0)) (pa_tyCons (T := "list") (by rfl) T.n_list (by decide +kernel) (pa_tyCons (T := "tuple") (by rfl) T.n_tuple (by decide +kernel) pa_tyNil)) (by rfl) T.n_isinstance (by decide +kernel)))), by decide +kernel, fun ds vs XQ Q hd hv h => ?_⟩
  obtain ⟨a, rfl, ha, q⟩ := h
  match vs, hv with
  | [v], _ =>
  try simp only [frz, params, setAll, List.zipWith, List.length_cons, List.length_nil, Nat.reduceAdd, Nat.reduceSub, List.replicate, List.append_nil, List.cons_append, List.nil_append, getV_va, Pt.sl, true_and, List.getElem?_cons_zero, List.getElem?_cons_succ, List.set_cons_zero, List.set_cons_succ, ite_self, Bool.false_eq_true, if_false, if_true]
  refine ⟨good_ty ha, ?_⟩
  cases a <;> simp_all [D.isa, isList, D.seq, D.good]

theorem sc_is_whole : FnScope ["thing"] ["thing"] (defScope s_is_whole) := ⟨rfl, rfl, rfl, by decide +kernel, rfl, by decide +kernel, by decide +kernel⟩
def c_is_whole : DC := fun ds _ _ Q => ∃ a, ds = [a] ∧ a.good = true ∧ Q ⟨.bl (isWhole a), true, none⟩
theorem ok_is_whole (T : Txt K mg) : FnD P w K mg base 1 T.f_is_whole.f T.f_is_whole.fd ["thing"] 0 c_is_whole := by
  refine fn_ok T.f_is_whole.ok sc_is_whole fun cdv A outer s H E hr => ⟨_, _, (dss_one (ds_ret [] (de_and (de_isi (T := "int") ty_int (de_var (pv 0)) (by rfl) T.n_isinstance (by decide +kernel) (by rfl) T.n_int (by decide +kernel)) (de_one (de_not (de_isi (T := "bool") ty_bool (de_var (pv 0)) (by rfl) T.n_isinstance (by decide +kernel) (by rfl) T.n_bool (by decide +kernel))))))), by decide +kernel, fun ds vs XQ Q hd hv h => ?_⟩
  obtain ⟨a, rfl, ha, q⟩ := h
  match vs, hv with
  | [v], _ =>
  try simp only [frz, params, setAll, List.zipWith, List.length_cons, List.length_nil, Nat.reduceAdd, Nat.reduceSub, List.replicate, List.append_nil, List.cons_append, List.nil_append, getV_va, Pt.sl, true_and, List.getElem?_cons_zero, List.getElem?_cons_succ, List.set_cons_zero, List.set_cons_succ, ite_self, Bool.false_eq_true, if_false, if_true]
  have ht := good_ty ha
  cases a <;> simp_all [D.isa, isWhole]

theorem sc_is_number : FnScope ["thing"] ["thing"] (defScope s_is_number) := ⟨rfl, rfl, rfl, by decide +kernel, rfl, by decide +kernel, by decide +kernel⟩
def c_is_number : DC := fun ds _ _ Q => ∃ a, ds = [a] ∧ a.good = true ∧ Q ⟨.bl (isNumber a), true, none⟩
theorem ok_is_number (T : Txt K mg) : FnD P w K mg base 2 T.f_is_number.f T.f_is_number.fd ["thing"] 0 c_is_number := by
  refine fn_ok T.f_is_number.ok sc_is_number fun cdv A outer s H E hr => ⟨_, _, (dss_one (ds_ret [] (de_and (de_call ((ok_is_whole T).mono (by decide)) hr (by rfl) T.f_is_whole.g T.f_is_whole.ok.kp T.f_is_whole.b (passE (takes_of rfl rfl rfl rfl)) rfl (da_cons (de_var (pv 0)) da_nil)) (de_one (de_cmp dop_ge (de_var (pv 0)) de_int (nomark _)))))), by decide +kernel, fun ds vs XQ Q hd hv h => ?_⟩
  obtain ⟨a, rfl, ha, q⟩ := h
  match vs, hv with
  | [v], _ =>
  try simp only [frz, params, setAll, List.zipWith, List.length_cons, List.length_nil, Nat.reduceAdd, Nat.reduceSub, List.replicate, List.append_nil, List.cons_append, List.nil_append, getV_va, Pt.sl, true_and, List.getElem?_cons_zero, List.getElem?_cons_succ, List.set_cons_zero, List.set_cons_succ, ite_self, Bool.false_eq_true, if_false, if_true]
  refine gCall_of fun _ => ⟨a, rfl, ha, _, rfl, ?_⟩
  cases a <;> simp_all [isWhole, isNumber, gI]

theorem sc_is_row : FnScope ["thing", "many"] ["thing", "many"] (defScope s_is_row) := ⟨rfl, rfl, rfl, by decide +kernel, rfl, by decide +kernel, by decide +kernel⟩
def c_is_row : DC := fun ds _ _ Q => ∃ a n, ds = [a, .int n] ∧ a.good = true ∧ Q ⟨.bl (isRow a n), true, none⟩
theorem ok_is_row (T : Txt K mg) : FnD P w K mg base 2 T.f_is_row.f T.f_is_row.fd ["thing", "many"] 0 c_is_row := by
  refine fn_ok T.f_is_row.ok sc_is_row fun cdv A outer s H E hr => ⟨_, _, (dss_one (ds_ret [] (de_and (de_call ((ok_is_list T).mono (by decide)) hr (by rfl) T.f_is_list.g T.f_is_list.ok.kp T.f_is_list.b (passE (takes_of rfl rfl rfl rfl)) rfl (da_cons (de_var (pv 0)) da_nil)) (de_one (de_cmp (dop_eq hr.units) (de_callB dcl_len (by rfl) T.n_len (by decide +kernel) (da_cons (de_var (pv 0)) da_nil)) (de_var (pv 1)) (nomark _)))))), by decide +kernel, fun ds vs XQ Q hd hv h => ?_⟩
  obtain ⟨a, n, rfl, ha, q⟩ := h
  match vs, hv with
  | [v, u], _ =>
  try simp only [frz, params, setAll, List.zipWith, List.length_cons, List.length_nil, Nat.reduceAdd, Nat.reduceSub, List.replicate, List.append_nil, List.cons_append, List.nil_append, getV_va, Pt.sl, true_and, List.getElem?_cons_zero, List.getElem?_cons_succ, List.set_cons_zero, List.set_cons_succ, ite_self, Bool.false_eq_true, if_false, if_true]
  refine gCall_of fun _ => ⟨a, rfl, ha, _, rfl, ?_⟩
  cases a <;> simp_all [isRow, isList, D.seq, g1, gLen, gEq, D.shp, D.pln, D.dep, D.eqv]

theorem sc_is_post : FnScope ["plan", "thing"] ["plan", "thing"] (defScope s_is_post) := ⟨rfl, rfl, rfl, by decide +kernel, rfl, by decide +kernel, by decide +kernel⟩
def c_is_post : DC := fun ds _ _ Q => ∃ (p : PV) (x : Str), ds = [p.o, .str x] ∧ p.Ok ∧ Q ⟨.bl (p.roads.any fun r => decide (r.1 = x)), true, none⟩
theorem ok_is_post (T : Txt K mg) : FnD P w K mg base 1 T.f_is_post.f T.f_is_post.fd ["plan", "thing"] 0 c_is_post := by
  refine fn_ok T.f_is_post.ok sc_is_post fun cdv A outer s H E hr => ⟨_, _, (dss_one (ds_ret [] (de_and (de_isi (T := "str") ty_str (de_var (pv 1)) (by rfl) T.n_isinstance (by decide +kernel) (by rfl) T.n_str (by decide +kernel)) (de_one (de_has (neg := false) _ rfl hr.units (de_var (pv 1)) (de_fld (clT_of T.clP) (de_var (pv 0))) (by rfl)))))), by decide +kernel, fun ds vs XQ Q hd hv h => ?_⟩
  obtain ⟨p, x, rfl, hp, q⟩ := h
  match vs, hv with
  | [v, v2], _ =>
  try simp only [frz, params, setAll, List.zipWith, List.length_cons, List.length_nil, Nat.reduceAdd, Nat.reduceSub, List.replicate, List.append_nil, List.cons_append, List.nil_append, getV_va, Pt.sl, true_and, List.getElem?_cons_zero, List.getElem?_cons_succ, List.set_cons_zero, List.set_cons_succ, ite_self, Bool.false_eq_true, if_false, if_true]
  refine ⟨⟨_, rfl⟩, _, rfl, ?_⟩
  rw [if_pos (by rfl)]
  refine PV.fld 1 rfl rfl ⟨_, .inr x, rfl, fun r hr => ?_, rfl, ?_⟩
  · obtain ⟨a, _, rfl⟩ := List.mem_map.mp hr
    exact ⟨.inr a.1, rfl⟩
  · rw [getK_map (fun r : Str × Str × Int => r.1)]
    rw [any_find] at q
    have e : ((p.roads.find? fun a => decide (a.1 = x)).map fun r : Str × Str × Int => (D.tup [.str r.2.1, .int r.2.2])).isSome = (p.roads.find? fun r => decide (r.1 = x)).isSome := Option.isSome_map ..
    rw [if_neg (by decide), e]
    exact q

theorem sc_is_end : FnScope ["plan", "thing"] ["plan", "thing"] (defScope s_is_end) := ⟨rfl, rfl, rfl, by decide +kernel, rfl, by decide +kernel, by decide +kernel⟩
def c_is_end : DC := fun ds _ _ Q => ∃ (p : PV) (x : Str), ds = [p.o, .str x] ∧ p.Ok ∧ (∃ r ∈ p.roads, r.1 = x) ∧ p.behind x = [] ∧ Q ⟨.bl true, true, none⟩
theorem ok_is_end (T : Txt K mg) : FnD P w K mg base 2 T.f_is_end.f T.f_is_end.fd ["plan", "thing"] 0 c_is_end := by
  refine fn_ok T.f_is_end.ok sc_is_end fun cdv A outer s H E hr => ⟨_, _, (dss_one (ds_ret [] (de_and (de_call ((ok_is_post T).mono (by decide)) hr (by rfl) T.f_is_post.g T.f_is_post.ok.kp T.f_is_post.b (passE (takes_of rfl rfl rfl rfl)) rfl (da_cons (de_var (pv 0)) (da_cons (de_var (pv 1)) da_nil))) (de_one (de_cmp (dop_eq hr.units) (de_dget hr.units (de_fld (clT_of T.clP) (de_var (pv 0))) (de_var (pv 1)) (fun _ _ => rfl)) (de_lst da_nil) (nomark _)))))), by decide +kernel, fun ds vs XQ Q hd hv h => ?_⟩
  obtain ⟨p, x, rfl, hp, hx, he, q⟩ := h
  match vs, hv with
  | [v, v2], _ =>
  try simp only [frz, params, setAll, List.zipWith, List.length_cons, List.length_nil, Nat.reduceAdd, Nat.reduceSub, List.replicate, List.append_nil, List.cons_append, List.nil_append, getV_va, Pt.sl, true_and, List.getElem?_cons_zero, List.getElem?_cons_succ, List.set_cons_zero, List.set_cons_succ, ite_self, Bool.false_eq_true, if_false, if_true]
  obtain ⟨r, hr, rfl⟩ := hx
  have ha : (p.roads.any fun r' => decide (r'.1 = r.1)) = true := List.any_eq_true.mpr ⟨r, hr, by simp⟩
  refine gCall_of fun _ => ⟨p, r.1, rfl, hp, _, rfl, ?_⟩
  rw [if_pos ha]
  have hf : ((p.office :: p.roads.map (·.1)).find? fun a => decide (a = r.1)) = some r.1 := by
    have hm : r.1 ∈ p.office :: p.roads.map (·.1) := List.mem_cons_of_mem _ (List.mem_map.mpr ⟨r, hr, rfl⟩)
    cases e : (p.office :: p.roads.map (·.1)).find? fun a => decide (a = r.1) with
    | none => exact absurd (List.find?_eq_none.mp e r.1 hm) (by simp)
    | some y =>
      have := List.find?_some e
      simp only [decide_eq_true_eq] at this
      rw [this]
  refine PV.fld 4 rfl rfl ⟨_, .inr r.1, .lst (p.behind r.1), rfl, rfl, ?_, by decide, ?_⟩
  · rw [getK_map (fun a : Str => a), hf]
    rfl
  · rw [he]
    exact ⟨rfl, rfl, q⟩

theorem sc_check_end : FnScope ["plan", "post"] ["plan", "post"] (defScope s_check_end) := ⟨rfl, rfl, rfl, by decide +kernel, rfl, by decide +kernel, by decide +kernel⟩
def c_check_end : DC := fun ds _ _ Q => ∃ (p : PV) (x : Str), ds = [p.o, .str x] ∧ p.Ok ∧ (∃ r ∈ p.roads, r.1 = x) ∧ p.behind x = [] ∧ Q ⟨.non, true, none⟩
theorem ok_check_end (T : Txt K mg) : FnD P w K mg base 3 T.f_check_end.f T.f_check_end.fd ["plan", "post"] 0 c_check_end := by
  refine fn_ok T.f_check_end.ok sc_check_end fun cdv A outer s H E hr => ⟨_, _, (dss_one (ds_if [] (dt_not (dt_val (de_call ((ok_is_end T).mono (by decide)) hr (by rfl) T.f_is_end.g T.f_is_end.ok.kp T.f_is_end.b (passE (takes_of rfl rfl rfl rfl)) rfl (da_cons (de_var (pv 0)) (da_cons (de_var (pv 1)) da_nil))))) (dss_one ds_never) dss_nil)), by decide +kernel, fun ds vs XQ Q hd hv h => ?_⟩
  obtain ⟨p, x, rfl, hp, hx, he, q⟩ := h
  match vs, hv with
  | [v, v2], _ =>
  try simp only [frz, params, setAll, List.zipWith, List.length_cons, List.length_nil, Nat.reduceAdd, Nat.reduceSub, List.replicate, List.append_nil, List.cons_append, List.nil_append, getV_va, Pt.sl, true_and, List.getElem?_cons_zero, List.getElem?_cons_succ, List.set_cons_zero, List.set_cons_succ, ite_self, Bool.false_eq_true, if_false, if_true]
  refine gCall_of fun _ => ⟨p, x, rfl, hp, hx, he, _, rfl, ?_⟩
  rw [if_neg (by decide)]
  exact q

theorem sc_riders_of : FnScope ["plan", "post", "index", "rider"] ["plan", "post"] (defScope s_riders_of) := ⟨rfl, rfl, rfl, by decide +kernel, rfl, by decide +kernel, by decide +kernel⟩
def c_riders_of : DC := fun ds _ _ Q => ∃ (p : PV) (x : Str), ds = [p.o, .str x] ∧ p.Ok ∧ PyData.strOk x = true ∧ ∀ f, Q ⟨.lst ((mineN p.riders x).map fun k => .int (k : Nat)), f, none⟩
theorem ok_riders_of (T : Txt K mg) : FnD P w K mg base 1 T.f_riders_of.f T.f_riders_of.fd ["plan", "post"] 0 c_riders_of := by
  refine fn_ok T.f_riders_of.ok sc_riders_of fun cdv A outer s H E hr => ⟨_, _, (dss_one (ds_ret [] (DN.de (dn_lc (own := [("index", 2), ("rider", 3)]) rfl sc_riders_of.nd (di_enum (by rfl) T.n_enumerate (da_cons (de_fld (clT_of T.clP) (de_var (pv 0))) da_nil)) (blkOk_by (N := ["plan", "post", "index", "rider"]) (sc := defScope s_riders_of) (by decide +kernel)) (fun _ _ _ _ _ => (dg_tup (n := 2) rfl (dgs_cons (dg_name (pg_name (i := 2) sc_riders_of.nd rfl (Or.inl rfl))) (dgs_cons (dg_name (pg_name (i := 3) sc_riders_of.nd rfl (Or.inl rfl))) dgs_nil)))) (fun _ _ _ _ _ => (dts_one (dt_cmp (dop_eq hr.units) (de_ix (de_var (pv 3)) de_int (fun _ _ => rfl)) (de_var (pv 1)) (nomark _)))) (fun _ _ _ _ _ => (de_var (pv 2))) (by decide))))), by decide +kernel, fun ds vs XQ Q hd hv h => ?_⟩
  obtain ⟨p, x, rfl, hp, hx, q⟩ := h
  match vs, hv with
  | [v, v2], _ =>
  try simp only [frz, params, setAll, List.zipWith, List.length_cons, List.length_nil, Nat.reduceAdd, Nat.reduceSub, List.replicate, List.append_nil, List.cons_append, List.nil_append, getV_va, Pt.sl, true_and, List.getElem?_cons_zero, List.getElem?_cons_succ, List.set_cons_zero, List.set_cons_succ, ite_self, Bool.false_eq_true, if_false, if_true]
  have h2 := hp.r2
  refine PV.fld 2 rfl rfl ⟨by rw [enumD_len, List.length_map]; show _ ≤ 16777216; omega, lc_any (mineF x) (fun y hy K1 K0 k1 k0 => ?_) fun f => ?_⟩
  · obtain ⟨i, hi⟩ := List.mem_iff_getElem?.mp hy
    obtain ⟨d, hd, rfl⟩ := enumD_get hi
    rw [List.getElem?_map] at hd
    cases e : p.riders[i]? with
    | none => rw [e] at hd; cases hd
    | some r =>
      rw [e] at hd
      cases hd
      try simp only [lcStep, true_and, wipeR, List.map_cons, List.map_nil, List.set_cons_succ, List.set_cons_zero, List.getElem?_cons_succ, List.getElem?_cons_zero, getV_va, if_true]
      rw [unp_seq (by rfl)]
      refine ⟨rfl, ?_⟩
      simp only [List.map_cons, List.map_nil]
      refine ⟨trivial, ?_⟩
      try simp only [frz, params, setAll, List.zipWith, List.length_cons, List.length_nil, Nat.reduceAdd, Nat.reduceSub, List.replicate, List.append_nil, List.cons_append, List.nil_append, getV_va, Pt.sl, true_and, List.getElem?_cons_zero, List.getElem?_cons_succ, List.set_cons_zero, List.set_cons_succ, ite_self, Bool.false_eq_true, if_false, if_true]
      have hm : r ∈ p.riders := List.mem_of_getElem? e
      rw [gIx_of (by rfl) (show atI [D.str r.1, .int r.2.1, .int r.2.2] 0 = some (.str r.1) from rfl), gEq_str (hp.nr r hm) hx, bl_of]
      by_cases h : r.1 = x
      · simp only [h, beq_self_eq_true, Bool.false_eq_true, if_false, if_true]
        exact k1 _ (by show (if r.1 = x then _ else _) = _; rw [if_pos h]) _ _
      · rw [if_neg (by simpa using h)]
        exact k0 (by show (if r.1 = x then _ else _) = _; rw [if_neg h])
  · rw [enum_mine, List.nil_append]
    exact q f

end
end My

set_option Elab.async false
set_option linter.all false
set_option maxRecDepth 100000
set_option maxHeartbeats 4000000
set_option pp.maxSteps 6000
namespace My
open PySem PySem.Spec PyProof.Rows L2 DL
/-- ints sorted -/
def sortI (ns : List Int) : List Int := ns.mergeSort fun a b => decide (a ≤ b)
theorem leD_int (a b : Int) : leD (.int a) (.int b) = decide (a ≤ b) := by
  show (!PySem.W.dataLt (.int b) (.int a)) = _
  rw [PySem.W.dataLt_int, ← decide_not]
  exact decide_eq_decide.mpr (by omega)
theorem srtD_ints (ns : List Int) : srtD (ns.map D.int) = (sortI ns).map D.int :=
  (List.map_mergeSort (f := D.int) (r := fun a b : Int => decide (a ≤ b)) (s := leD) fun a _ b _ => (leD_int a b).symm).symm
theorem sortI_perm (ns : List Int) : (sortI ns).Perm ns := List.mergeSort_perm _ _
theorem sortI_len (ns : List Int) : (sortI ns).length = ns.length := (sortI_perm ns).length_eq
theorem canSort_ints {ns : List Int} (h : ∀ i ∈ ns, i.natAbs ≤ 10 ^ 30) : CanSort (ns.map D.int) := by
  refine ⟨shwL_of fun d hd => ?_, fun d hd d' hd' => ?_, .inr fun d hd => ?_, fun d hd => ?_⟩
  · obtain ⟨i, hi, rfl⟩ := List.mem_map.mp hd
    exact (Nic.int (h i hi)).all.2.2.1
  · rw [List.map_map] at hd hd'
    obtain ⟨i, _, rfl⟩ := List.mem_map.mp hd
    obtain ⟨j, _, rfl⟩ := List.mem_map.mp hd'
    rfl
  · rw [List.map_map] at hd
    obtain ⟨i, _, rfl⟩ := List.mem_map.mp hd
    exact ⟨fun e => (nomatch e), fun xs e => (nomatch e)⟩
  · obtain ⟨i, _, rfl⟩ := List.mem_map.mp hd
    exact Nat.zero_le _
def greatestI (ns : List Int) (m : Int) : Int := (cutL (sortI ns) (some (if 0 > (ns.length : Int) - m then 0 else (ns.length : Int) - m)) none).sum
def writtenN (ls : List Row) (x : Str) (mo ti : Int) : Nat := (ls.filter fun l => decide (l.1 = x) && (decide (mo < l.2.1) && decide (l.2.1 ≤ ti))).length
def tickAt (rs : List Row) (k : Nat) : Int := (rs[k]?.map (·.2.1)).getD 0
def roomAt (rs : List Row) (k : Nat) : Int := (rs[k]?.map (·.2.2)).getD 0
def lastD : Option Int → D
  | none => .non
  | some l => .int l
def lateOk : Option Int → Nat → Bool
  | none, _ => true
  | some l, k => decide (l < (k : Int))
def awayN (rs : List Row) (x : Str) (la : Option Int) (ti : Int) : List Nat := (mineN rs x).filter fun k => decide (tickAt rs k ≤ ti) && lateOk la k
def betweenN (rs : List Row) (x : Str) (mo : Int) : Option Int → List Nat
  | none => []
  | some l => (mineN rs x).filter fun k => decide ((k : Int) < l) && decide (mo < tickAt rs k)
def natsD (ks : List Nat) : D := .lst (ks.map fun k => .int (k : Nat))
theorem row_at {rs : List Row} {k : Nat} (h : k < rs.length) : atI (rs.map rowD) (k : Int) = some (.tup [.str rs[k].1, .int (tickAt rs k), .int (roomAt rs k)]) := by
  unfold atI ixN tickAt roomAt
  rw [if_pos (by omega), if_pos (by rw [List.length_map]; omega)]
  simp [h, rowD]
theorem filterMap_if {α β : Type} (f : α → β) (c : β → Bool) (e : α → D) : ∀ l : List α, (l.map e).filterMap (fun d => some d) = l.map e := fun l => by simp

section
variable {P : Program} {w : World} {K : PySem.W.Frag} {mg : Str → Option Value} {base : Heap}
theorem sc_check_plan : FnScope ["plan"] ["plan"] (defScope s_check_plan) := ⟨rfl, rfl, rfl, by decide +kernel, rfl, by decide +kernel, by decide +kernel⟩
def c_check_plan : DC := fun ds _ _ Q => ∃ (p : PV), ds = [p.o] ∧ Q ⟨.non, true, none⟩
theorem ok_check_plan (T : Txt K mg) : FnD P w K mg base 1 T.f_check_plan.f T.f_check_plan.fd ["plan"] 0 c_check_plan := by
  refine fn_ok T.f_check_plan.ok sc_check_plan fun cdv A outer s H E hr => ⟨_, _, (dss_one (ds_if [] (dt_not (dt_val (de_callB (dcl_isC T.clP.ins) (by rfl) T.n_isinstance (by decide +kernel) (da_cons (de_var (pv 0)) (da_cons (de_glob (by rfl) T.g_Plan) da_nil))))) (dss_one ds_never) dss_nil)), by decide +kernel, fun ds vs XQ Q hd hv h => ?_⟩
  obtain ⟨p, rfl, q⟩ := h
  match vs, hv with
  | [v], _ =>
  try simp only [frz, params, setAll, List.zipWith, List.length_cons, List.length_nil, Nat.reduceAdd, Nat.reduceSub, List.replicate, List.append_nil, List.cons_append, List.nil_append, getV_va, Pt.sl, true_and, List.getElem?_cons_zero, List.getElem?_cons_succ, List.set_cons_zero, List.set_cons_succ, ite_self, Bool.false_eq_true, if_false, if_true]
  refine ⟨rfl, ⟨_, rfl⟩, _, rfl, ?_⟩
  rw [if_neg (by decide)]
  exact q

theorem sc_check_many : FnScope ["plan", "many"] ["plan", "many"] (defScope s_check_many) := ⟨rfl, rfl, rfl, by decide +kernel, rfl, by decide +kernel, by decide +kernel⟩
def c_check_many : DC := fun ds _ _ Q => ∃ (p : PV) (m : Int), ds = [p.o, .int m] ∧ 0 ≤ m ∧ Q ⟨.non, true, none⟩
theorem ok_check_many (T : Txt K mg) : FnD P w K mg base 3 T.f_check_many.f T.f_check_many.fd ["plan", "many"] 0 c_check_many := by
  refine fn_ok T.f_check_many.ok sc_check_many fun cdv A outer s H E hr => ⟨_, _, (dss_cons (ds_expr [] (de_call ((ok_check_plan T).mono (by decide)) hr (by rfl) T.f_check_plan.g T.f_check_plan.ok.kp T.f_check_plan.b (passE (takes_of rfl rfl rfl rfl)) rfl (da_cons (de_var (pv 0)) da_nil)))
      (dss_one (ds_if [] (dt_not (dt_val (de_call ((ok_is_number T).mono (by decide)) hr (by rfl) T.f_is_number.g T.f_is_number.ok.kp T.f_is_number.b (passE (takes_of rfl rfl rfl rfl)) rfl (da_cons (de_var (pv 1)) da_nil)))) (dss_one ds_never) dss_nil))), by decide +kernel, fun ds vs XQ Q hd hv h => ?_⟩
  obtain ⟨p, m, rfl, hm, q⟩ := h
  match vs, hv with
  | [v, v2], _ =>
  try simp only [frz, params, setAll, List.zipWith, List.length_cons, List.length_nil, Nat.reduceAdd, Nat.reduceSub, List.replicate, List.append_nil, List.cons_append, List.nil_append, getV_va, Pt.sl, true_and, List.getElem?_cons_zero, List.getElem?_cons_succ, List.set_cons_zero, List.set_cons_succ, ite_self, Bool.false_eq_true, if_false, if_true]
  refine gCall_of fun _ => ⟨p, rfl, gCall_of fun _ => ⟨_, rfl, rfl, _, rfl, ?_⟩⟩
  rw [if_neg (by simp [isNumber, hm])]
  exact q

theorem sc_greatest_of : FnScope ["rooms", "many"] ["rooms", "many"] (defScope s_greatest_of) := ⟨rfl, rfl, rfl, by decide +kernel, rfl, by decide +kernel, by decide +kernel⟩
def c_greatest_of : DC := fun ds _ _ Q => ∃ (ns : List Int) (m : Int), ds = [.lst (ns.map D.int), .int m] ∧ ns.length ≤ 1000 ∧ (∀ i ∈ ns, i.natAbs ≤ 10 ^ 30) ∧ Q ⟨.int (greatestI ns m), true, none⟩
theorem ok_greatest_of (T : Txt K mg) : FnD P w K mg base 1 T.f_greatest_of.f T.f_greatest_of.fd ["rooms", "many"] 0 c_greatest_of := by
  refine fn_ok T.f_greatest_of.ok sc_greatest_of fun cdv A outer s H E hr => ⟨_, _, (dss_one (ds_ret [] (de_callB (dcl_sum rfl) (by rfl) T.n_sum (by decide +kernel) (da_cons (de_slice (de_callB (dcl_sortedD (hr.mono (by decide))) (by rfl) T.n_sorted (by decide +kernel) (da_cons (de_var (pv 0)) da_nil)) (do_some (de_callB (dcl_max2 rfl) (by rfl) T.n_max (by decide +kernel) (da_cons (de_op dop_sub (de_callB dcl_len (by rfl) T.n_len (by decide +kernel) (da_cons (de_var (pv 0)) da_nil)) (de_var (pv 1))) (da_cons de_int da_nil)))) do_none) da_nil)))), by decide +kernel, fun ds vs XQ Q hd hv h => ?_⟩
  obtain ⟨ns, m, rfl, hl, hn, q⟩ := h
  match vs, hv with
  | [v, v2], _ =>
  try simp only [frz, params, setAll, List.zipWith, List.length_cons, List.length_nil, Nat.reduceAdd, Nat.reduceSub, List.replicate, List.append_nil, List.cons_append, List.nil_append, getV_va, Pt.sl, true_and, List.getElem?_cons_zero, List.getElem?_cons_succ, List.set_cons_zero, List.set_cons_succ, ite_self, Bool.false_eq_true, if_false, if_true]
  rw [g1_of]
  refine ⟨_, rfl, canSort_ints hn, ?_⟩
  rw [srtD_ints]
  dsimp only
  rw [g1_of, gLen_of (by rfl), gI_of]
  refine ⟨trivial, ?_⟩
  rw [g2I_int]
  refine ⟨_, rfl, ?_⟩
  rw [gSl_seq (by rfl)]
  dsimp only [D.like]
  rw [cut_map, g1_of]
  refine ⟨_, rfl, ?_⟩
  rw [List.length_map]
  exact q

theorem sc_written : FnScope ["plan", "post", "moment", "tick", "where", "since", "_"] ["plan", "post", "moment", "tick"] (defScope s_written) := ⟨rfl, rfl, rfl, by decide +kernel, rfl, by decide +kernel, by decide +kernel⟩
def c_written : DC := fun ds _ _ Q => ∃ (p : PV) (x : Str) (mo ti : Int), ds = [p.o, .str x, .int mo, .int ti] ∧ p.Ok ∧ PyData.strOk x = true ∧ Q ⟨.int (writtenN p.letters x mo ti : Nat), true, none⟩
theorem ok_written (T : Txt K mg) : FnD P w K mg base 1 T.f_written.f T.f_written.fd ["plan", "post", "moment", "tick"] 0 c_written := by
  refine fn_ok T.f_written.ok sc_written fun cdv A outer s H E hr => ⟨_, _, (dss_one (ds_ret [] (de_callB dcl_len (by rfl) T.n_len (by decide +kernel) (da_cons (DN.de (dn_lc (own := [("where", 4), ("since", 5), ("_", 6)]) rfl sc_written.nd (di_seq (de_fld (clT_of T.clP) (de_var (pv 0)))) (blkOk_by (N := ["plan", "post", "moment", "tick", "where", "since", "_"]) (sc := defScope s_written) (by decide +kernel)) (fun _ _ _ _ _ => (dg_tup (n := 3) rfl (dgs_cons (dg_name (pg_name (i := 4) sc_written.nd rfl (Or.inl rfl))) (dgs_cons (dg_name (pg_name (i := 5) sc_written.nd rfl (Or.inl rfl))) (dgs_cons (dg_name (pg_name (i := 6) sc_written.nd rfl (Or.inl rfl))) dgs_nil))))) (fun _ _ _ _ _ => (dts_one (DW.dt (dw_and (dt_cmp (dop_eq hr.units) (de_var (pv 4)) (de_var (pv 1)) (nomark _)) (dw_and1 (dt_chain dop_lt dop_le (de_var (pv 2)) (de_var (pv 5)) (de_var (pv 3)))))))) (fun _ _ _ _ _ => de_int) (by decide))) da_nil)))), by decide +kernel, fun ds vs XQ Q hd hv h => ?_⟩
  obtain ⟨p, x, mo, ti, rfl, hp, hx, q⟩ := h
  match vs, hv with
  | [v, v2, v3, v4], _ =>
  try simp only [frz, params, setAll, List.zipWith, List.length_cons, List.length_nil, Nat.reduceAdd, Nat.reduceSub, List.replicate, List.append_nil, List.cons_append, List.nil_append, getV_va, Pt.sl, true_and, List.getElem?_cons_zero, List.getElem?_cons_succ, List.set_cons_zero, List.set_cons_succ, ite_self, Bool.false_eq_true, if_false, if_true]
  have h3 := hp.r3
  refine PV.fld 3 rfl rfl ?_
  rw [items_seq (by rfl)]
  rw [List.map_map]
  refine ⟨by rw [List.length_map]; show _ ≤ 16777216; omega, lc_filt (g := fun _ => D.int 1) (fun l : Row => decide (l.1 = x) && (decide (mo < l.2.1) && decide (l.2.1 ≤ ti))) (fun l hl K1 K0 k1 k0 => ?_) fun f => ?_⟩
  · try simp only [lcStep, true_and, wipeR, List.map_cons, List.map_nil, List.set_cons_succ, List.set_cons_zero, List.getElem?_cons_succ, List.getElem?_cons_zero, getV_va, if_true]
    dsimp only [Function.comp]
    rw [unp_seq (by rfl)]
    refine ⟨rfl, ?_⟩
    simp only [List.map_cons, List.map_nil]
    refine ⟨trivial, ?_⟩
    try simp only [frz, params, setAll, List.zipWith, List.length_cons, List.length_nil, Nat.reduceAdd, Nat.reduceSub, List.replicate, List.append_nil, List.cons_append, List.nil_append, getV_va, Pt.sl, true_and, List.getElem?_cons_zero, List.getElem?_cons_succ, List.set_cons_zero, List.set_cons_succ, ite_self, Bool.false_eq_true, if_false, if_true]
    rw [gEq_str (hp.nl l hl) hx, bl_of]
    by_cases h : l.1 = x
    · rw [if_pos (by simpa using h)]
      simp only [gChain, gI_of, bl_of, true_and, getV_va, List.getElem?_cons_zero, List.getElem?_cons_succ]
      by_cases h1 : mo < l.2.1
      · rw [if_pos (by simpa using h1)]
        by_cases h2 : l.2.1 ≤ ti
        · rw [if_pos (by simpa using h2)]
          exact k1 (by simp [h, h1, h2]) _ _
        · rw [if_neg (by simpa using h2)]
          exact k0 (by simp [h1, h2])
      · rw [if_neg (by simpa using h1), if_neg (by decide)]
        exact k0 (by simp [h1])
    · rw [if_neg (by simpa using h)]
      exact k0 (by simp [h])
  · rw [g1_of, gLen_of (by rfl), List.length_map]
    exact q

theorem sc_away_of : FnScope ["plan", "post", "last", "tick", "riders", "rider"] ["plan", "post", "last", "tick"] (defScope s_away_of) := ⟨rfl, rfl, rfl, by decide +kernel, rfl, by decide +kernel, by decide +kernel⟩
def c_away_of : DC := fun ds _ _ Q => ∃ (p : PV) (x : Str) (la : Option Int) (ti : Int), ds = [p.o, .str x, lastD la, .int ti] ∧ p.Ok ∧ PyData.strOk x = true ∧ ∀ f, Q ⟨natsD (awayN p.riders x la ti), f, none⟩
theorem ok_away_of (T : Txt K mg) : FnD P w K mg base 2 T.f_away_of.f T.f_away_of.fd ["plan", "post", "last", "tick"] 0 c_away_of := by
  refine fn_ok T.f_away_of.ok sc_away_of fun cdv A outer s H E hr => ⟨_, _, (dss_cons (ds_setLc (i := 4) (own := [("rider", 5)]) [] rfl sc_away_of.nd rfl rfl (sw_true rfl rfl rfl (by decide +kernel)) (di_seq (de_call ((ok_riders_of T).mono (by decide)) hr (by rfl) T.f_riders_of.g T.f_riders_of.ok.kp T.f_riders_of.b (passE (takes_of rfl rfl rfl rfl)) rfl (da_cons (de_var (pv 0)) (da_cons (de_var (pv 1)) da_nil)))) (blkOk_by (N := ["plan", "post", "last", "tick", "riders", "rider"]) (sc := defScope s_away_of) (by decide +kernel)) (fun _ _ _ _ _ => (dg_name (pg_name (i := 5) sc_away_of.nd rfl (Or.inl rfl)))) (fun _ _ _ _ _ => (dts_one (dt_cmp dop_le (de_ix (de_ix (de_fld (clT_of T.clP) (de_var (pv 0))) (de_var (pv 5)) (fun _ _ => rfl)) de_int (fun _ _ => rfl)) (de_var (pv 3)) (nomark _)))) (fun _ _ _ _ _ => (de_var (pv 5))) (by decide))
      (dss_one (ds_ret [] (DN.de (dn_lc (own := [("rider", 5)]) rfl sc_away_of.nd (di_seq (de_var (pv 4))) (blkOk_by (N := ["plan", "post", "last", "tick", "riders", "rider"]) (sc := defScope s_away_of) (by decide +kernel)) (fun _ _ _ _ _ => (dg_name (pg_name (i := 5) sc_away_of.nd rfl (Or.inl rfl)))) (fun _ _ _ _ _ => (dts_one (DW.dt (dw_or (dt_cmp dop_isN (de_var (pv 2)) de_non (nomark _)) (dw_or1 (dt_cmp dop_gt (de_var (pv 5)) (de_var (pv 2)) (nomark _))))))) (fun _ _ _ _ _ => (de_var (pv 5))) (by decide)))))), by decide +kernel, fun ds vs XQ Q hd hv h => ?_⟩
  obtain ⟨p, x, la, ti, rfl, hp, hx, q⟩ := h
  match vs, hv with
  | [v, v2, v3, v4], _ =>
  try simp only [frz, params, setAll, List.zipWith, List.length_cons, List.length_nil, Nat.reduceAdd, Nat.reduceSub, List.replicate, List.append_nil, List.cons_append, List.nil_append, getV_va, Pt.sl, true_and, List.getElem?_cons_zero, List.getElem?_cons_succ, List.set_cons_zero, List.set_cons_succ, ite_self, Bool.false_eq_true, if_false, if_true]
  have h2 := hp.r2
  have hml := mineAt_len (x := x) (rs := p.riders) (i := 0)
  refine gCall_of fun _ => ⟨p, x, rfl, hp, hx, fun f => ?_⟩
  dsimp only
  rw [items_seq (by rfl), List.map_map]
  refine ⟨by rw [List.length_map]; show _ ≤ 16777216; unfold mineN; omega, lc_filt (g := fun k : Nat => D.int (k : Nat)) (fun k : Nat => decide (tickAt p.riders k ≤ ti)) (fun k hk K1 K0 k1 k0 => ?_) fun f => ?_⟩
  · try simp only [lcStep, true_and, wipeR, List.map_cons, List.map_nil, List.set_cons_succ, List.set_cons_zero, List.getElem?_cons_succ, List.getElem?_cons_zero, getV_va, if_true]
    dsimp only [Function.comp]
    refine PV.fld 2 rfl rfl ?_
    obtain ⟨hk1, _⟩ := mem_mine hk
    rw [gIx_of (by rfl) (row_at hk1), gIx_of (by rfl) (show atI [D.str p.riders[k].1, .int (tickAt p.riders k), .int (roomAt p.riders k)] 1 = some (.int (tickAt p.riders k)) from rfl), gI_of]
    refine ⟨trivial, ?_⟩
    rw [bl_of]
    by_cases h : tickAt p.riders k ≤ ti
    · rw [if_pos (by simpa using h)]
      exact k1 (by simpa using h) _ _
    · rw [if_neg (by simpa using h)]
      exact k0 (by simpa using h)
  · rw [items_seq (by rfl), List.map_map]
    have hfl := List.length_filter_le (fun k : Nat => decide (tickAt p.riders k ≤ ti)) (mineN p.riders x)
    refine ⟨by rw [List.length_map]; show _ ≤ 16777216; unfold mineN at hfl ⊢; omega, lc_filt (g := fun k : Nat => D.int (k : Nat)) (lateOk la) (fun k hk K1 K0 k1 k0 => ?_) fun f => ?_⟩
    · try simp only [lcStep, true_and, wipeR, List.map_cons, List.map_nil, List.set_cons_succ, List.set_cons_zero, List.getElem?_cons_succ, List.getElem?_cons_zero, getV_va, if_true]
      dsimp only [Function.comp]
      cases la with
      | none =>
        refine ⟨⟨_, rfl, ?_⟩, fun _ z => nomatch z⟩
        refine ite_t rfl ?_
        exact k1 rfl _ _
      | some l =>
        refine ⟨⟨_, rfl, ?_⟩, fun _ z => nomatch z⟩
        refine ite_f (fun z => nomatch z) ?_
        dsimp only [lastD]
        rw [gI_of]
        refine ⟨trivial, ?_⟩
        rw [bl_of]
        by_cases h : l < (k : Int)
        · rw [if_pos (by simpa using h)]
          exact k1 (by simpa [lateOk] using h) _ _
        · rw [if_neg (by simpa using h)]
          exact k0 (by simpa [lateOk] using h)
    · have e := q f
      unfold natsD awayN at e
      rw [List.filter_filter]
      simpa [Bool.and_comm] using e

end
end My

set_option Elab.async false
set_option linter.all false
set_option maxRecDepth 100000
set_option maxHeartbeats 4000000
set_option pp.maxSteps 6000
namespace My
open PySem PySem.Spec PyProof.Rows L2 DL
def roomsN (rs : List Row) (ks : List Nat) : List Int := ks.map (roomAt rs)
def roomBut (rs : List Row) (ks : List Nat) (m : Int) : Int := (roomsN rs ks).sum - greatestI (roomsN rs ks) m
theorem gIn_intsL {b : Bool} {i : Int} {is : List Int} {n n' : Bool} {v v' : Option V} {Q : Dv → Prop} : gIn b ⟨.int i, n, v⟩ ⟨.lst (is.map D.int), n', v'⟩ Q = Q ⟨.bl (if b then !decide (i ∈ is) else decide (i ∈ is)), true, none⟩ := by
  unfold gIn
  simp only [D.sca, scaL_ints, true_and, isIn_ints]
/-- a shelf cut of the end x for m -/
def cutIn (p : PV) (m : Int) (x : Str) (mo ti : Int) : D → Bool
  | .non => decide (mo = -1) && decide (((awayN p.riders x none ti).length : Int) ≤ m)
  | .int l => decide (0 ≤ l) && (decide (l.toNat ∈ mineN p.riders x) && (decide (tickAt p.riders l.toNat ≤ ti) && decide (((awayN p.riders x (some l) ti).length : Int) ≤ m)))
  | _ => false
def isCut (p : PV) (m : Int) (x : Str) (d : D) : Bool := match d.seq with
  | some [.int mo, la, .int ti] => decide (0 ≤ ti) && (decide (-1 ≤ mo) && (decide (mo ≤ ti) && cutIn p m x mo ti la))
  | _ => false
theorem isNumber_int {d : D} (h : isNumber d = true) : ∃ i, d = .int i ∧ 0 ≤ i := by
  cases d <;> first | (exact ⟨_, rfl, of_decide_eq_true h⟩) | (simp [isNumber] at h)
theorem mem_nats {l : Int} {ks : List Nat} : (l ∈ ks.map fun k => ((k : Nat) : Int)) ↔ 0 ≤ l ∧ l.toNat ∈ ks := by
  constructor
  · intro h
    obtain ⟨k, hk, rfl⟩ := List.mem_map.mp h
    exact ⟨by omega, by simpa using hk⟩
  · rintro ⟨h0, h⟩
    exact List.mem_map.mpr ⟨_, h, Int.toNat_of_nonneg h0⟩
theorem betweenN_mem {rs : List Row} {x : Str} {mo : Int} {la : Option Int} {k : Nat} (h : k ∈ betweenN rs x mo la) : k < rs.length := by
  cases la with
  | none => cases h
  | some l => exact (mem_mine (List.mem_filter.mp h).1).1
theorem betweenN_len {rs : List Row} {x : Str} {mo : Int} {la : Option Int} : (betweenN rs x mo la).length ≤ rs.length := by
  cases la with
  | none => exact Nat.zero_le _
  | some l => exact Nat.le_trans (List.length_filter_le _ _) mineAt_len
theorem room_small {p : PV} (hp : p.Ok) {k : Nat} (h : k < p.riders.length) : (roomAt p.riders k).natAbs ≤ 10 ^ 9 := by
  unfold roomAt
  rw [List.getElem?_eq_getElem h]
  exact (hp.sr _ (List.getElem_mem h)).2

section
variable {P : Program} {w : World} {K : PySem.W.Frag} {mg : Str → Option Value} {base : Heap}
theorem sc_between_of : FnScope ["plan", "post", "moment", "last", "rider"] ["plan", "post", "moment", "last"] (defScope s_between_of) := ⟨rfl, rfl, rfl, by decide +kernel, rfl, by decide +kernel, by decide +kernel⟩
def c_between_of : DC := fun ds _ _ Q => ∃ (p : PV) (x : Str) (mo : Int) (la : Option Int), ds = [p.o, .str x, .int mo, lastD la] ∧ p.Ok ∧ PyData.strOk x = true ∧ ∀ f, Q ⟨natsD (betweenN p.riders x mo la), f, none⟩
theorem ok_between_of (T : Txt K mg) : FnD P w K mg base 2 T.f_between_of.f T.f_between_of.fd ["plan", "post", "moment", "last"] 0 c_between_of := by
  refine fn_ok T.f_between_of.ok sc_between_of fun cdv A outer s H E hr => ⟨_, _, (dss_cons (ds_if [] (dt_cmp dop_isN (de_var (pv 3)) de_non (nomark _)) (dss_one (ds_ret [] (de_lst da_nil))) dss_nil)
      (dss_one (ds_ret [] (DN.de (dn_lc (own := [("rider", 4)]) rfl sc_between_of.nd (di_seq (de_call ((ok_riders_of T).mono (by decide)) hr (by rfl) T.f_riders_of.g T.f_riders_of.ok.kp T.f_riders_of.b (passE (takes_of rfl rfl rfl rfl)) rfl (da_cons (de_var (pv 0)) (da_cons (de_var (pv 1)) da_nil)))) (blkOk_by (N := ["plan", "post", "moment", "last", "rider"]) (sc := defScope s_between_of) (by decide +kernel)) (fun _ _ _ _ _ => (dg_name (pg_name (i := 4) sc_between_of.nd rfl (Or.inl rfl)))) (fun _ _ _ _ _ => (dts_one (DW.dt (dw_and (dt_cmp dop_lt (de_var (pv 4)) (de_var (pv 3)) (nomark _)) (dw_and1 (dt_cmp dop_gt (de_ix (de_ix (de_fld (clT_of T.clP) (de_var (pv 0))) (de_var (pv 4)) (fun _ _ => rfl)) de_int (fun _ _ => rfl)) (de_var (pv 2)) (nomark _))))))) (fun _ _ _ _ _ => (de_var (pv 4))) (by decide)))))), by decide +kernel, fun ds vs XQ Q hd hv h => ?_⟩
  obtain ⟨p, x, mo, la, rfl, hp, hx, q⟩ := h
  match vs, hv with
  | [v, v2, v3, v4], _ =>
  try simp only [frz, params, setAll, List.zipWith, List.length_cons, List.length_nil, Nat.reduceAdd, Nat.reduceSub, List.replicate, List.append_nil, List.cons_append, List.nil_append, getV_va, Pt.sl, true_and, List.getElem?_cons_zero, List.getElem?_cons_succ, List.set_cons_zero, List.set_cons_succ, ite_self, Bool.false_eq_true, if_false, if_true]
  have h2 := hp.r2
  have hml := mineAt_len (x := x) (rs := p.riders) (i := 0)
  cases la with
  | none =>
    refine ⟨⟨_, rfl, ite_t rfl ?_⟩, fun _ z => nomatch z⟩
    exact ⟨by decide, q _⟩
  | some l =>
    refine ⟨⟨_, rfl, ite_f (fun z => nomatch z) ?_⟩, fun _ z => nomatch z⟩
    refine gCall_of fun _ => ⟨p, x, rfl, hp, hx, fun f => ?_⟩
    dsimp only
    rw [items_seq (by rfl), List.map_map]
    refine ⟨by rw [List.length_map]; show _ ≤ 16777216; unfold mineN; omega, lc_filt (g := fun k : Nat => D.int (k : Nat)) (fun k : Nat => decide ((k : Int) < l) && decide (mo < tickAt p.riders k)) (fun k hk K1 K0 k1 k0 => ?_) fun f => q f⟩
    try simp only [lcStep, true_and, wipeR, List.map_cons, List.map_nil, List.set_cons_succ, List.set_cons_zero, List.getElem?_cons_succ, List.getElem?_cons_zero, getV_va, if_true]
    dsimp only [Function.comp, lastD]
    rw [gI_of]
    refine ⟨trivial, ?_⟩
    rw [bl_of]
    by_cases h : (k : Int) < l
    · rw [if_pos (by simpa using h)]
      refine PV.fld 2 rfl rfl ?_
      obtain ⟨hk1, _⟩ := mem_mine hk
      rw [gIx_of (by rfl) (row_at hk1), gIx_of (by rfl) (show atI [D.str p.riders[k].1, .int (tickAt p.riders k), .int (roomAt p.riders k)] 1 = some (.int (tickAt p.riders k)) from rfl), gI_of]
      refine ⟨trivial, ?_⟩
      rw [bl_of]
      by_cases h3 : mo < tickAt p.riders k
      · rw [if_pos (by simpa using h3)]
        exact k1 (by simp [h, h3]) _ _
      · rw [if_neg (by simpa using h3)]
        exact k0 (by simp [h3])
    · rw [if_neg (by simpa using h)]
      exact k0 (by simp [h])

theorem sc_rooms_of : FnScope ["plan", "riders", "rider"] ["plan", "riders"] (defScope s_rooms_of) := ⟨rfl, rfl, rfl, by decide +kernel, rfl, by decide +kernel, by decide +kernel⟩
def c_rooms_of : DC := fun ds _ _ Q => ∃ (p : PV) (ks : List Nat), ds = [p.o, natsD ks] ∧ p.Ok ∧ ks.length ≤ 1000 ∧ (∀ k ∈ ks, k < p.riders.length) ∧ ∀ f, Q ⟨.lst ((roomsN p.riders ks).map D.int), f, none⟩
theorem ok_rooms_of (T : Txt K mg) : FnD P w K mg base 1 T.f_rooms_of.f T.f_rooms_of.fd ["plan", "riders"] 0 c_rooms_of := by
  refine fn_ok T.f_rooms_of.ok sc_rooms_of fun cdv A outer s H E hr => ⟨_, _, (dss_one (ds_ret [] (DN.de (dn_lc (own := [("rider", 2)]) rfl sc_rooms_of.nd (di_seq (de_var (pv 1))) (blkOk_by (N := ["plan", "riders", "rider"]) (sc := defScope s_rooms_of) (by decide +kernel)) (fun _ _ _ _ _ => (dg_name (pg_name (i := 2) sc_rooms_of.nd rfl (Or.inl rfl)))) (fun _ _ _ _ _ => dts_nil) (fun _ _ _ _ _ => (de_ix (de_ix (de_fld (clT_of T.clP) (de_var (pv 0))) (de_var (pv 2)) (fun _ _ => rfl)) de_int (fun _ _ => rfl))) (by decide))))), by decide +kernel, fun ds vs XQ Q hd hv h => ?_⟩
  obtain ⟨p, ks, rfl, hp, hl, hk, q⟩ := h
  match vs, hv with
  | [v, v2], _ =>
  try simp only [frz, params, setAll, List.zipWith, List.length_cons, List.length_nil, Nat.reduceAdd, Nat.reduceSub, List.replicate, List.append_nil, List.cons_append, List.nil_append, getV_va, Pt.sl, true_and, List.getElem?_cons_zero, List.getElem?_cons_succ, List.set_cons_zero, List.set_cons_succ, ite_self, Bool.false_eq_true, if_false, if_true]
  rw [items_seq (by rfl), List.map_map]
  refine ⟨by rw [List.length_map]; show _ ≤ 16777216; omega, lc_mapA (g := fun k : Nat => D.int (roomAt p.riders k)) (fun k hk2 K1 K0 k1 => ?_) fun f => ?_⟩
  · try simp only [lcStep, true_and, wipeR, List.map_cons, List.map_nil, List.set_cons_succ, List.set_cons_zero, List.getElem?_cons_succ, List.getElem?_cons_zero, getV_va, if_true]
    dsimp only [Function.comp]
    refine PV.fld 2 rfl rfl ?_
    rw [gIx_of (by rfl) (row_at (hk k hk2)), gIx_of (by rfl) (show atI [D.str p.riders[k].1, .int (tickAt p.riders k), .int (roomAt p.riders k)] 2 = some (.int (roomAt p.riders k)) from rfl)]
    exact k1 _ _
  · have e := q f
    unfold roomsN at e
    rw [List.map_map] at e
    exact e

theorem sc_room_but : FnScope ["plan", "riders", "many", "rooms"] ["plan", "riders", "many"] (defScope s_room_but) := ⟨rfl, rfl, rfl, by decide +kernel, rfl, by decide +kernel, by decide +kernel⟩
def c_room_but : DC := fun ds _ _ Q => ∃ (p : PV) (ks : List Nat) (m : Int), ds = [p.o, natsD ks, .int m] ∧ p.Ok ∧ ks.length ≤ 1000 ∧ (∀ k ∈ ks, k < p.riders.length) ∧ Q ⟨.int (roomBut p.riders ks m), true, none⟩
theorem ok_room_but (T : Txt K mg) : FnD P w K mg base 2 T.f_room_but.f T.f_room_but.fd ["plan", "riders", "many"] 0 c_room_but := by
  refine fn_ok T.f_room_but.ok sc_room_but fun cdv A outer s H E hr => ⟨_, _, (dss_cons (ds_asg [] (de_call ((ok_rooms_of T).mono (by decide)) hr (by rfl) T.f_rooms_of.g T.f_rooms_of.ok.kp T.f_rooms_of.b (passE (takes_of rfl rfl rfl rfl)) rfl (da_cons (de_var (pv 0)) (da_cons (de_var (pv 1)) da_nil))) (dg_name (pg_name (i := 3) sc_room_but.nd rfl (Or.inl rfl))) (fun _ _ a b => ps_asg a b))
      (dss_one (ds_ret [] (de_op dop_sub (de_callB (dcl_sum rfl) (by rfl) T.n_sum (by decide +kernel) (da_cons (de_var (pv 3)) da_nil)) (de_call ((ok_greatest_of T).mono (by decide)) hr (by rfl) T.f_greatest_of.g T.f_greatest_of.ok.kp T.f_greatest_of.b (passE (takes_of rfl rfl rfl rfl)) rfl (da_cons (de_var (pv 3)) (da_cons (de_var (pv 2)) da_nil))))))), by decide +kernel, fun ds vs XQ Q hd hv h => ?_⟩
  obtain ⟨p, ks, m, rfl, hp, hl, hk, q⟩ := h
  match vs, hv with
  | [v, v2, v3], _ =>
  try simp only [frz, params, setAll, List.zipWith, List.length_cons, List.length_nil, Nat.reduceAdd, Nat.reduceSub, List.replicate, List.append_nil, List.cons_append, List.nil_append, getV_va, Pt.sl, true_and, List.getElem?_cons_zero, List.getElem?_cons_succ, List.set_cons_zero, List.set_cons_succ, ite_self, Bool.false_eq_true, if_false, if_true]
  refine gCall_of fun _ => ⟨p, ks, rfl, hp, hl, hk, fun f => ?_⟩
  dsimp only
  try simp only [frz, params, setAll, List.zipWith, List.length_cons, List.length_nil, Nat.reduceAdd, Nat.reduceSub, List.replicate, List.append_nil, List.cons_append, List.nil_append, getV_va, Pt.sl, true_and, List.getElem?_cons_zero, List.getElem?_cons_succ, List.set_cons_zero, List.set_cons_succ, ite_self, Bool.false_eq_true, if_false, if_true]
  rw [g1_of]
  refine ⟨_, rfl, gCall_of fun _ => ⟨_, m, rfl, by unfold roomsN; rw [List.length_map]; exact hl, fun i hi => ?_, ?_⟩⟩
  · obtain ⟨k, hk2, rfl⟩ := List.mem_map.mp hi
    have := room_small hp (hk k hk2)
    omega
  · dsimp only
    rw [gI_of]
    exact ⟨trivial, q⟩

theorem sc_check_size : FnScope ["plan", "many", "post", "size"] ["plan", "many", "post", "size"] (defScope s_check_size) := ⟨rfl, rfl, rfl, by decide +kernel, rfl, by decide +kernel, by decide +kernel⟩
def c_check_size : DC := fun ds _ _ Q => ∃ (p : PV) (m : Int) (x : Str) (z : Int), ds = [p.o, .int m, .str x, .int z] ∧ p.Ok ∧ 0 ≤ m ∧ 0 ≤ z ∧ (∃ r ∈ p.roads, r.1 = x) ∧ p.behind x = [] ∧ Q ⟨.non, true, none⟩
theorem ok_check_size (T : Txt K mg) : FnD P w K mg base 4 T.f_check_size.f T.f_check_size.fd ["plan", "many", "post", "size"] 0 c_check_size := by
  refine fn_ok T.f_check_size.ok sc_check_size fun cdv A outer s H E hr => ⟨_, _, (dss_cons (ds_expr [] (de_call ((ok_check_many T).mono (by decide)) hr (by rfl) T.f_check_many.g T.f_check_many.ok.kp T.f_check_many.b (passE (takes_of rfl rfl rfl rfl)) rfl (da_cons (de_var (pv 0)) (da_cons (de_var (pv 1)) da_nil))))
      (dss_cons (ds_expr [] (de_call ((ok_check_end T).mono (by decide)) hr (by rfl) T.f_check_end.g T.f_check_end.ok.kp T.f_check_end.b (passE (takes_of rfl rfl rfl rfl)) rfl (da_cons (de_var (pv 0)) (da_cons (de_var (pv 2)) da_nil))))
      (dss_one (ds_if [] (dt_not (dt_val (de_call ((ok_is_number T).mono (by decide)) hr (by rfl) T.f_is_number.g T.f_is_number.ok.kp T.f_is_number.b (passE (takes_of rfl rfl rfl rfl)) rfl (da_cons (de_var (pv 3)) da_nil)))) (dss_one ds_never) dss_nil)))), by decide +kernel, fun ds vs XQ Q hd hv h => ?_⟩
  obtain ⟨p, m, x, z, rfl, hp, hm, hz, hx, he, q⟩ := h
  match vs, hv with
  | [v, v2, v3, v4], _ =>
  try simp only [frz, params, setAll, List.zipWith, List.length_cons, List.length_nil, Nat.reduceAdd, Nat.reduceSub, List.replicate, List.append_nil, List.cons_append, List.nil_append, getV_va, Pt.sl, true_and, List.getElem?_cons_zero, List.getElem?_cons_succ, List.set_cons_zero, List.set_cons_succ, ite_self, Bool.false_eq_true, if_false, if_true]
  refine gCall_of fun _ => ⟨p, m, rfl, hm, gCall_of fun _ => ⟨p, x, rfl, hp, hx, he, gCall_of fun _ => ⟨_, rfl, rfl, _, rfl, ?_⟩⟩⟩
  exact ite_f (by simp [isNumber, hz]) q

theorem sc_is_cut_for : FnScope ["plan", "many", "post", "thing"] ["plan", "many", "post", "thing"] (defScope s_is_cut_for) := ⟨rfl, rfl, rfl, by decide +kernel, rfl, by decide +kernel, by decide +kernel⟩
def c_is_cut_for : DC := fun ds _ _ Q => ∃ (p : PV) (m : Int) (x : Str) (d : D), ds = [p.o, .int m, .str x, d] ∧ p.Ok ∧ PyData.strOk x = true ∧ d.good = true ∧ Q ⟨.bl (isCut p m x d), true, none⟩
theorem ok_is_cut_for (T : Txt K mg) : FnD P w K mg base 3 T.f_is_cut_for.f T.f_is_cut_for.fd ["plan", "many", "post", "thing"] 0 c_is_cut_for := by
  refine fn_ok T.f_is_cut_for.ok sc_is_cut_for fun cdv A outer s H E hr => ⟨_, _, (dss_cons (ds_if [] (DW.dt (dw_or (dt_not (dt_val (de_call ((ok_is_row T).mono (by decide)) hr (by rfl) T.f_is_row.g T.f_is_row.ok.kp T.f_is_row.b (passE (takes_of rfl rfl rfl rfl)) rfl (da_cons (de_var (pv 3)) (da_cons de_int da_nil))))) (dw_or (dt_not (dt_val (de_call ((ok_is_number T).mono (by decide)) hr (by rfl) T.f_is_number.g T.f_is_number.ok.kp T.f_is_number.b (passE (takes_of rfl rfl rfl rfl)) rfl (da_cons (de_ix (de_var (pv 3)) de_int (fun _ _ => rfl)) da_nil)))) (dw_or (dt_not (dt_val (de_call ((ok_is_whole T).mono (by decide)) hr (by rfl) T.f_is_whole.g T.f_is_whole.ok.kp T.f_is_whole.b (passE (takes_of rfl rfl rfl rfl)) rfl (da_cons (de_ix (de_var (pv 3)) de_int (fun _ _ => rfl)) da_nil)))) (dw_or1 (dt_not (dt_chain dop_le dop_le (de_neg de_int) (de_ix (de_var (pv 3)) de_int (fun _ _ => rfl)) (de_ix (de_var (pv 3)) de_int (fun _ _ => rfl))))))))) (dss_one (ds_ret [] de_bl)) dss_nil)
      (dss_cons (ds_if [] (dt_cmp dop_isN (de_ix (de_var (pv 3)) de_int (fun _ _ => rfl)) de_non (nomark _)) (dss_one (ds_if [] (dt_cmp (dop_ne hr.units) (de_ix (de_var (pv 3)) de_int (fun _ _ => rfl)) (de_neg de_int) (nomark _)) (dss_one (ds_ret [] de_bl)) dss_nil)) (dss_one (ds_if [] (DW.dt (dw_or (dt_not (dt_val (de_call ((ok_is_number T).mono (by decide)) hr (by rfl) T.f_is_number.g T.f_is_number.ok.kp T.f_is_number.b (passE (takes_of rfl rfl rfl rfl)) rfl (da_cons (de_ix (de_var (pv 3)) de_int (fun _ _ => rfl)) da_nil)))) (dw_or1 (dt_cmp dop_notIn (de_ix (de_var (pv 3)) de_int (fun _ _ => rfl)) (de_call ((ok_riders_of T).mono (by decide)) hr (by rfl) T.f_riders_of.g T.f_riders_of.ok.kp T.f_riders_of.b (passE (takes_of rfl rfl rfl rfl)) rfl (da_cons (de_var (pv 0)) (da_cons (de_var (pv 2)) da_nil))) (by rfl))))) (dss_one (ds_ret [] de_bl)) (dss_one (ds_if [] (dt_cmp dop_gt (de_ix (de_ix (de_fld (clT_of T.clP) (de_var (pv 0))) (de_ix (de_var (pv 3)) de_int (fun _ _ => rfl)) (fun _ _ => rfl)) de_int (fun _ _ => rfl)) (de_ix (de_var (pv 3)) de_int (fun _ _ => rfl)) (nomark _)) (dss_one (ds_ret [] de_bl)) dss_nil)))))
      (dss_one (ds_ret [] (de_cmp dop_le (de_callB dcl_len (by rfl) T.n_len (by decide +kernel) (da_cons (de_call ((ok_away_of T).mono (by decide)) hr (by rfl) T.f_away_of.g T.f_away_of.ok.kp T.f_away_of.b (passE (takes_of rfl rfl rfl rfl)) rfl (da_cons (de_var (pv 0)) (da_cons (de_var (pv 2)) (da_cons (de_ix (de_var (pv 3)) de_int (fun _ _ => rfl)) (da_cons (de_ix (de_var (pv 3)) de_int (fun _ _ => rfl)) da_nil))))) da_nil)) (de_var (pv 1)) (nomark _)))))), by decide +kernel, fun ds vs XQ Q hd hv h => ?_⟩
  obtain ⟨p, m, x, d, rfl, hp, hx, hd0, q⟩ := h
  match vs, hv with
  | [v, v2, v3, v4], _ =>
  try simp only [frz, params, setAll, List.zipWith, List.length_cons, List.length_nil, Nat.reduceAdd, Nat.reduceSub, List.replicate, List.append_nil, List.cons_append, List.nil_append, getV_va, Pt.sl, true_and, List.getElem?_cons_zero, List.getElem?_cons_succ, List.set_cons_zero, List.set_cons_succ, ite_self, Bool.false_eq_true, if_false, if_true]
  have no : isCut p m x d = false → Q ⟨.bl false, true, none⟩ := fun e => by rw [e] at q; exact q
  refine gCall_of fun _ => ⟨d, 3, rfl, hd0, _, rfl, ?_⟩
  cases e : d.seq with
  | none =>
    have hr3 : isRow d 3 = false := by simp [isRow, e]
    rw [hr3]
    exact ite_t rfl (no (by simp [isCut, e]))
  | some xs =>
  obtain ⟨hg, hl⟩ := good_seq hd0 e
  by_cases h3 : xs.length = 3
  case neg =>
    have hr3 : isRow d 3 = false := by
      simp only [isRow, e, beq_eq_false_iff_ne]
      omega
    rw [hr3]
    refine ite_t rfl (no ?_)
    unfold isCut
    rw [e]
    match xs, h3 with
    | [], _ => rfl
    | [a], _ => cases a <;> rfl
    | [a, b], _ => cases a <;> rfl
    | a :: b :: c :: z :: r, _ => cases a <;> first | rfl | (cases c <;> rfl)
  match xs, h3 with
  | [a, b, c], _ =>
  have hr3 : isRow d 3 = true := by simp [isRow, e]
  rw [hr3]
  refine ite_f (by decide) ?_
  rw [gIx_of e (show atI [a, b, c] 2 = some c from rfl)]
  refine gCall1 fun _ => ⟨c, rfl, hg c (by simp), _, rfl, ?_⟩
  cases hc : isNumber c with
  | false =>
    refine ite_t rfl (no ?_)
    unfold isCut
    rw [e]
    cases a <;> first | rfl | (cases c <;> first | rfl | (simp only [isNumber] at hc; simp [hc]))
  | true =>
  obtain ⟨ti, rfl, ti0⟩ := isNumber_int hc
  refine ite_f (by decide) ?_
  rw [gIx_of e (show atI [a, b, D.int ti] 0 = some a from rfl)]
  refine gCall1 fun _ => ⟨a, rfl, hg a (by simp), _, rfl, ?_⟩
  cases ha : isWhole a with
  | false =>
    refine ite_t rfl (no ?_)
    unfold isCut
    rw [e]
    cases a <;> first | rfl | (simp [isWhole] at ha)
  | true =>
  obtain ⟨mo, rfl⟩ := isWhole_int ha
  refine ite_f (by decide) ?_
  have ec : isCut p m x d = (decide (0 ≤ ti) && (decide (-1 ≤ mo) && (decide (mo ≤ ti) && cutIn p m x mo ti b))) := by
    unfold isCut
    rw [e]
  rw [gIx_of e (show atI [D.int mo, b, D.int ti] 0 = some (.int mo) from rfl)]
  simp only [gChain, gI_of, bl_of, true_and, getV_va, List.getElem?_cons_zero, List.getElem?_cons_succ, gIx_of e (show atI [D.int mo, b, D.int ti] 2 = some (.int ti) from rfl)]
  by_cases m1 : -1 ≤ mo
  case neg => exact ite_f (by simpa using m1) (ite_t rfl (no (by rw [ec]; simp [m1])))
  refine ite_t (by simpa using m1) ?_
  by_cases m2 : mo ≤ ti
  case neg => exact ite_t (by simp [m2]) (no (by rw [ec]; simp [m2]))
  refine ite_f (by simp [m2]) ?_
  have e1 : isCut p m x d = cutIn p m x mo ti b := by rw [ec]; simp [ti0, m1, m2]
  have nats : ((mineN p.riders x).map fun k => D.int (k : Nat)) = ((mineN p.riders x).map fun k => ((k : Nat) : Int)).map D.int := by rw [List.map_map]; rfl
  rw [gIx_of e (show atI [D.int mo, b, D.int ti] 1 = some b from rfl)]
  have step : ∀ (la : Option Int) (n1 n2 : Bool) (u1 u2 : Option V), (decide (((awayN p.riders x la ti).length : Int) ≤ m) = isCut p m x d) → ∀ ρ, gCall c_away_of ρ XQ [⟨p.o, p.o.imm, some v⟩, ⟨.str x, (D.str x).imm, some v3⟩, ⟨lastD la, n1, u1⟩, ⟨.int ti, n2, u2⟩] fun x => g1 gLen [x] fun x => gI (fun x x_4 => True) (fun i j => D.bl (decide (i ≤ j))) x ⟨.int m, (D.int m).imm, some v2⟩ fun r => Q { d := r.d, n := r.n } := by
    intro la n1 n2 u1 u2 h ρ
    refine gCall_of fun _ => ⟨p, x, la, ti, rfl, hp, hx, fun f => ?_⟩
    dsimp only
    rw [g1_of, gLen_of (by rfl), gI_of, List.length_map, h]
    exact ⟨trivial, q⟩
  have other : isNumber b = false → (∀ v, b ≠ D.vee v) → b ≠ .non → cutIn p m x mo ti b = false := fun h1 h2 h3 => by
    cases b <;> first | rfl | exact absurd rfl h3 | (simp only [isNumber, decide_eq_false_iff_not] at h1; simp [cutIn, h1])
  have gb := hg b (by simp)
  refine ⟨?_, fun u z => by have z : b = .vee u := z; subst z; cases gb⟩
  by_cases hbn : b = .non
  · subst hbn
    refine ite_t rfl ?_
    rw [gIx_of e (show atI [D.int mo, .non, D.int ti] 0 = some (.int mo) from rfl), gEq_int]
    refine ⟨_, rfl, ?_⟩
    by_cases h : mo = -1
    · refine ite_f (by simp [h]) ?_
      rw [gIx_of e (show atI [D.int mo, .non, D.int ti] 1 = some .non from rfl)]
      exact step none _ _ _ _ (by rw [e1]; simp [cutIn, h]) _
    · exact ite_t (by simp [h]) (no (by rw [e1]; simp [cutIn, h]))
  refine ite_f (fun z => hbn (by cases b <;> first | rfl | exact (Bool.noConfusion z))) ?_
  rw [gIx_of e (show atI [D.int mo, b, D.int ti] 1 = some b from rfl)]
  refine gCall1 fun _ => ⟨b, rfl, gb, _, rfl, ?_⟩
  cases hb : isNumber b with
  | false => exact ite_t rfl (no (by rw [e1]; exact other hb (fun u z => by subst z; cases gb) hbn))
  | true =>
  obtain ⟨l, rfl, l0⟩ := isNumber_int hb
  refine ite_f (by decide) ?_
  rw [gIx_of e (show atI [D.int mo, .int l, D.int ti] 1 = some (.int l) from rfl)]
  refine gCall_of fun _ => ⟨p, x, rfl, hp, hx, fun f => ?_⟩
  dsimp only
  rw [nats, gIn_intsL]
  refine ⟨_, rfl, ?_⟩
  by_cases hm : l.toNat ∈ mineN p.riders x
  case neg =>
    refine ite_t ?_ (no (by rw [e1]; simp [cutIn, hm]))
    rw [if_pos rfl]
    simp only [Bool.not_eq_true', decide_eq_false_iff_not]
    exact fun z => hm (mem_nats.mp z).2
  refine ite_f ?_ ?_
  · rw [if_pos rfl]
    simp only [Bool.not_eq_true', decide_eq_false_iff_not, Decidable.not_not]
    exact mem_nats.mpr ⟨l0, hm⟩
  refine PV.fld 2 rfl rfl ?_
  obtain ⟨hk, _⟩ := mem_mine hm
  have hr := row_at hk
  rw [Int.toNat_of_nonneg l0] at hr
  rw [gIx_of e (show atI [D.int mo, .int l, D.int ti] 1 = some (.int l) from rfl), gIx_of (by rfl) hr, gIx_of (by rfl) (show atI [D.str p.riders[l.toNat].1, .int (tickAt p.riders l.toNat), .int (roomAt p.riders l.toNat)] 1 = some (.int (tickAt p.riders l.toNat)) from rfl), gI_of]
  refine ⟨trivial, _, rfl, ?_⟩
  by_cases ht : tickAt p.riders l.toNat ≤ ti
  case neg => exact ite_t (by simp only [decide_eq_true_eq]; omega) (no (by rw [e1]; simp [cutIn, ht]))
  refine ite_f (by simp only [decide_eq_true_eq]; omega) ?_
  rw [gIx_of e (show atI [D.int mo, .int l, D.int ti] 1 = some (.int l) from rfl)]
  exact step (some l) _ _ _ _ (by rw [e1]; simp [cutIn, l0, hm, ht]) _

end
end My

set_option Elab.async false
set_option linter.all false
set_option maxRecDepth 100000
set_option maxHeartbeats 4000000
set_option pp.maxSteps 6000
namespace My
open PySem PySem.Spec PyProof.Rows L2 DL
def moreN (p : PV) (m : Int) (x : Str) (z mo : Int) (la : Option Int) (ti : Int) : Int := z + roomBut p.riders (betweenN p.riders x mo la) (m - (awayN p.riders x la ti).length) - (writtenN p.letters x mo ti : Nat)
def lastO : D → Option Int
  | .int l => some l
  | _ => none
theorem isCut_form {p : PV} {m : Int} {x : Str} {d : D} (h : isCut p m x d = true) : ∃ mo la ti, d.seq = some [.int mo, lastD la, .int ti] := by
  unfold isCut at h
  split at h
  · rename_i mo la ti e
    simp only [Bool.and_eq_true] at h
    obtain ⟨_, _, _, h⟩ := h
    cases la with
    | non => exact ⟨mo, none, ti, e⟩
    | int l => exact ⟨mo, some l, ti, e⟩
    | _ => cases h
  · cases h
theorem lastO_D (la : Option Int) : lastO (lastD la) = la := by cases la <;> rfl
/-- why an object is no overfull shelf cut -/
def faultD (p : PV) (m : Int) (x : Str) (z : Int) (d : D) : D := if isCut p m x d = true then (match d.seq with
  | some [.int mo, la, .int ti] => if 0 ≤ moreN p m x z mo (lastO la) ti then .tup [.str "room", .int (moreN p m x z mo (lastO la) ti)] else .non
  | _ => .non) else .tup [.str "cut"]

section
variable {P : Program} {w : World} {K : PySem.W.Frag} {mg : Str → Option Value} {base : Heap}
theorem sc_more_than : FnScope ["plan", "many", "post", "size", "cut", "left", "moment", "last", "tick"] ["plan", "many", "post", "size", "cut"] (defScope s_more_than) := ⟨rfl, rfl, rfl, by decide +kernel, rfl, by decide +kernel, by decide +kernel⟩
def c_more_than : DC := fun ds _ _ Q => ∃ (p : PV) (m : Int) (x : Str) (z mo : Int) (la : Option Int) (ti : Int) (d : D), ds = [p.o, .int m, .str x, .int z, d] ∧ d.seq = some [.int mo, lastD la, .int ti] ∧ p.Ok ∧ PyData.strOk x = true ∧ Q ⟨.int (moreN p m x z mo la ti), true, none⟩
theorem ok_more_than (T : Txt K mg) : FnD P w K mg base 3 T.f_more_than.f T.f_more_than.fd ["plan", "many", "post", "size", "cut"] 0 c_more_than := by
  refine fn_ok T.f_more_than.ok sc_more_than fun cdv A outer s H E hr => ⟨_, _, (dss_cons (ds_asg [] (de_var (pv 4)) (dg_tup (n := 3) rfl (dgs_cons (dg_name (pg_name (i := 6) sc_more_than.nd rfl (Or.inl rfl))) (dgs_cons (dg_name (pg_name (i := 7) sc_more_than.nd rfl (Or.inl rfl))) (dgs_cons (dg_name (pg_name (i := 8) sc_more_than.nd rfl (Or.inl rfl))) dgs_nil)))) (fun _ _ a b => ps_asg a b))
      (dss_cons (ds_asg [] (de_op dop_sub (de_var (pv 1)) (de_callB dcl_len (by rfl) T.n_len (by decide +kernel) (da_cons (de_call ((ok_away_of T).mono (by decide)) hr (by rfl) T.f_away_of.g T.f_away_of.ok.kp T.f_away_of.b (passE (takes_of rfl rfl rfl rfl)) rfl (da_cons (de_var (pv 0)) (da_cons (de_var (pv 2)) (da_cons (de_var (pv 7)) (da_cons (de_var (pv 8)) da_nil))))) da_nil))) (dg_name (pg_name (i := 5) sc_more_than.nd rfl (Or.inl rfl))) (fun _ _ a b => ps_asg a b))
      (dss_one (ds_ret [] (de_op dop_sub (de_op dop_add (de_var (pv 3)) (de_call ((ok_room_but T).mono (by decide)) hr (by rfl) T.f_room_but.g T.f_room_but.ok.kp T.f_room_but.b (passE (takes_of rfl rfl rfl rfl)) rfl (da_cons (de_var (pv 0)) (da_cons (de_call ((ok_between_of T).mono (by decide)) hr (by rfl) T.f_between_of.g T.f_between_of.ok.kp T.f_between_of.b (passE (takes_of rfl rfl rfl rfl)) rfl (da_cons (de_var (pv 0)) (da_cons (de_var (pv 2)) (da_cons (de_var (pv 6)) (da_cons (de_var (pv 7)) da_nil))))) (da_cons (de_var (pv 5)) da_nil))))) (de_call ((ok_written T).mono (by decide)) hr (by rfl) T.f_written.g T.f_written.ok.kp T.f_written.b (passE (takes_of rfl rfl rfl rfl)) rfl (da_cons (de_var (pv 0)) (da_cons (de_var (pv 2)) (da_cons (de_var (pv 6)) (da_cons (de_var (pv 8)) da_nil)))))))))), by decide +kernel, fun ds vs XQ Q hd hv h => ?_⟩
  obtain ⟨p, m, x, z, mo, la, ti, d, rfl, e, hp, hx, q⟩ := h
  match vs, hv with
  | [v, v2, v3, v4, v5], _ =>
  try simp only [frz, params, setAll, List.zipWith, List.length_cons, List.length_nil, Nat.reduceAdd, Nat.reduceSub, List.replicate, List.append_nil, List.cons_append, List.nil_append, getV_va, Pt.sl, true_and, List.getElem?_cons_zero, List.getElem?_cons_succ, List.set_cons_zero, List.set_cons_succ, ite_self, Bool.false_eq_true, if_false, if_true]
  rw [unp_seq e]
  refine ⟨rfl, ?_⟩
  simp only [List.map_cons, List.map_nil]
  refine ⟨trivial, ?_⟩
  try simp only [frz, params, setAll, List.zipWith, List.length_cons, List.length_nil, Nat.reduceAdd, Nat.reduceSub, List.replicate, List.append_nil, List.cons_append, List.nil_append, getV_va, Pt.sl, true_and, List.getElem?_cons_zero, List.getElem?_cons_succ, List.set_cons_zero, List.set_cons_succ, ite_self, Bool.false_eq_true, if_false, if_true]
  refine gCall_of fun _ => ⟨p, x, la, ti, rfl, hp, hx, fun f => ?_⟩
  dsimp only
  rw [g1_of, gLen_of (by rfl), gI_of]
  refine ⟨trivial, ?_⟩
  try simp only [frz, params, setAll, List.zipWith, List.length_cons, List.length_nil, Nat.reduceAdd, Nat.reduceSub, List.replicate, List.append_nil, List.cons_append, List.nil_append, getV_va, Pt.sl, true_and, List.getElem?_cons_zero, List.getElem?_cons_succ, List.set_cons_zero, List.set_cons_succ, ite_self, Bool.false_eq_true, if_false, if_true]
  refine gCall_of fun _ => ⟨p, x, mo, la, rfl, hp, hx, fun f2 => ?_⟩
  dsimp only
  refine gCall_of fun _ => ⟨p, _, _, rfl, hp, Nat.le_trans betweenN_len hp.r2, fun k hk => betweenN_mem hk, ?_⟩
  dsimp only
  rw [gAdd_int]
  refine gCall_of fun _ => ⟨p, x, mo, ti, rfl, hp, hx, ?_⟩
  dsimp only
  rw [gI_of]
  refine ⟨trivial, ?_⟩
  rw [List.length_map]
  exact q

theorem sc_is_shelf_cut : FnScope ["plan", "many", "post", "thing"] ["plan", "many", "post", "thing"] (defScope s_is_shelf_cut) := ⟨rfl, rfl, rfl, by decide +kernel, rfl, by decide +kernel, by decide +kernel⟩
def c_is_shelf_cut : DC := fun ds _ _ Q => ∃ (p : PV) (m : Int) (x : Str) (d : D), ds = [p.o, .int m, .str x, d] ∧ p.Ok ∧ 0 ≤ m ∧ PyData.strOk x = true ∧ (∃ r ∈ p.roads, r.1 = x) ∧ p.behind x = [] ∧ d.good = true ∧ Q ⟨.bl (isCut p m x d), true, none⟩
theorem ok_is_shelf_cut (T : Txt K mg) : FnD P w K mg base 4 T.f_is_shelf_cut.f T.f_is_shelf_cut.fd ["plan", "many", "post", "thing"] 0 c_is_shelf_cut := by
  refine fn_ok T.f_is_shelf_cut.ok sc_is_shelf_cut fun cdv A outer s H E hr => ⟨_, _, (dss_cons (ds_expr [] (de_call ((ok_check_many T).mono (by decide)) hr (by rfl) T.f_check_many.g T.f_check_many.ok.kp T.f_check_many.b (passE (takes_of rfl rfl rfl rfl)) rfl (da_cons (de_var (pv 0)) (da_cons (de_var (pv 1)) da_nil))))
      (dss_cons (ds_expr [] (de_call ((ok_check_end T).mono (by decide)) hr (by rfl) T.f_check_end.g T.f_check_end.ok.kp T.f_check_end.b (passE (takes_of rfl rfl rfl rfl)) rfl (da_cons (de_var (pv 0)) (da_cons (de_var (pv 2)) da_nil))))
      (dss_one (ds_ret [] (de_call ((ok_is_cut_for T).mono (by decide)) hr (by rfl) T.f_is_cut_for.g T.f_is_cut_for.ok.kp T.f_is_cut_for.b (passE (takes_of rfl rfl rfl rfl)) rfl (da_cons (de_var (pv 0)) (da_cons (de_var (pv 1)) (da_cons (de_var (pv 2)) (da_cons (de_var (pv 3)) da_nil))))))))), by decide +kernel, fun ds vs XQ Q hd hv h => ?_⟩
  obtain ⟨p, m, x, d, rfl, hp, hm, hx, hr0, he, hd0, q⟩ := h
  match vs, hv with
  | [v, v2, v3, v4], _ =>
  try simp only [frz, params, setAll, List.zipWith, List.length_cons, List.length_nil, Nat.reduceAdd, Nat.reduceSub, List.replicate, List.append_nil, List.cons_append, List.nil_append, getV_va, Pt.sl, true_and, List.getElem?_cons_zero, List.getElem?_cons_succ, List.set_cons_zero, List.set_cons_succ, ite_self, Bool.false_eq_true, if_false, if_true]
  exact gCall_of fun _ => ⟨p, m, rfl, hm, gCall_of fun _ => ⟨p, x, rfl, hp, hr0, he, gCall_of fun _ => ⟨p, m, x, d, rfl, hp, hx, hd0, q⟩⟩⟩

theorem sc_shelf_cut_fault : FnScope ["plan", "many", "post", "size", "thing", "more"] ["plan", "many", "post", "size", "thing"] (defScope s_shelf_cut_fault) := ⟨rfl, rfl, rfl, by decide +kernel, rfl, by decide +kernel, by decide +kernel⟩
def c_shelf_cut_fault : DC := fun ds _ _ Q => ∃ (p : PV) (m : Int) (x : Str) (z : Int) (d : D), ds = [p.o, .int m, .str x, .int z, d] ∧ p.Ok ∧ 0 ≤ m ∧ 0 ≤ z ∧ PyData.strOk x = true ∧ (∃ r ∈ p.roads, r.1 = x) ∧ p.behind x = [] ∧ d.good = true ∧ ∀ f, Q ⟨faultD p m x z d, f, none⟩
theorem ok_shelf_cut_fault (T : Txt K mg) : FnD P w K mg base 5 T.f_shelf_cut_fault.f T.f_shelf_cut_fault.fd ["plan", "many", "post", "size", "thing"] 0 c_shelf_cut_fault := by
  refine fn_ok T.f_shelf_cut_fault.ok sc_shelf_cut_fault fun cdv A outer s H E hr => ⟨_, _, (dss_cons (ds_expr [] (de_call ((ok_check_size T).mono (by decide)) hr (by rfl) T.f_check_size.g T.f_check_size.ok.kp T.f_check_size.b (passE (takes_of rfl rfl rfl rfl)) rfl (da_cons (de_var (pv 0)) (da_cons (de_var (pv 1)) (da_cons (de_var (pv 2)) (da_cons (de_var (pv 3)) da_nil))))))
      (dss_cons (ds_if [] (dt_not (dt_val (de_call ((ok_is_cut_for T).mono (by decide)) hr (by rfl) T.f_is_cut_for.g T.f_is_cut_for.ok.kp T.f_is_cut_for.b (passE (takes_of rfl rfl rfl rfl)) rfl (da_cons (de_var (pv 0)) (da_cons (de_var (pv 1)) (da_cons (de_var (pv 2)) (da_cons (de_var (pv 4)) da_nil))))))) (dss_one (ds_ret [] (de_tup (da_cons de_str da_nil)))) dss_nil)
      (dss_cons (ds_asg [] (de_call ((ok_more_than T).mono (by decide)) hr (by rfl) T.f_more_than.g T.f_more_than.ok.kp T.f_more_than.b (passE (takes_of rfl rfl rfl rfl)) rfl (da_cons (de_var (pv 0)) (da_cons (de_var (pv 1)) (da_cons (de_var (pv 2)) (da_cons (de_var (pv 3)) (da_cons (de_var (pv 4)) da_nil)))))) (dg_name (pg_name (i := 5) sc_shelf_cut_fault.nd rfl (Or.inl rfl))) (fun _ _ a b => ps_asg a b))
      (dss_one (ds_ret [] (de_if (dt_cmp dop_ge (de_var (pv 5)) de_int (nomark _)) (de_tup (da_cons de_str (da_cons (de_var (pv 5)) da_nil))) de_non)))))), by decide +kernel, fun ds vs XQ Q hd hv h => ?_⟩
  obtain ⟨p, m, x, z, d, rfl, hp, hm, hz, hx, hr0, he, hd0, q⟩ := h
  match vs, hv with
  | [v, v2, v3, v4, v5], _ =>
  try simp only [frz, params, setAll, List.zipWith, List.length_cons, List.length_nil, Nat.reduceAdd, Nat.reduceSub, List.replicate, List.append_nil, List.cons_append, List.nil_append, getV_va, Pt.sl, true_and, List.getElem?_cons_zero, List.getElem?_cons_succ, List.set_cons_zero, List.set_cons_succ, ite_self, Bool.false_eq_true, if_false, if_true]
  refine gCall_of fun _ => ⟨p, m, x, z, rfl, hp, hm, hz, hr0, he, ?_⟩
  refine gCall_of fun _ => ⟨p, m, x, d, rfl, hp, hx, hd0, _, rfl, ?_⟩
  unfold faultD at q
  cases hc : isCut p m x d with
  | false =>
    rw [hc, if_neg (by decide)] at q
    exact ite_t rfl ⟨by decide, q _⟩
  | true =>
    rw [hc, if_pos rfl] at q
    refine ite_f (by decide) ?_
    obtain ⟨mo, la, ti, e⟩ := isCut_form hc
    rw [e] at q
    refine gCall_of fun _ => ⟨p, m, x, z, mo, la, ti, d, rfl, e, hp, hx, ?_⟩
    dsimp only at q ⊢
    rw [lastO_D] at q
    try simp only [frz, params, setAll, List.zipWith, List.length_cons, List.length_nil, Nat.reduceAdd, Nat.reduceSub, List.replicate, List.append_nil, List.cons_append, List.nil_append, getV_va, Pt.sl, true_and, List.getElem?_cons_zero, List.getElem?_cons_succ, List.set_cons_zero, List.set_cons_succ, ite_self, Bool.false_eq_true, if_false, if_true]
    rw [gI_of]
    refine ⟨trivial, _, rfl, ?_⟩
    by_cases h : 0 ≤ moreN p m x z mo la ti
    · rw [if_pos h] at q
      exact ite_t (by simpa using h) ⟨by decide, q _⟩
    · rw [if_neg h] at q
      exact ite_f (by simpa using h) (q _)

end
end My

set_option Elab.async false
set_option linter.all false
set_option maxRecDepth 100000
set_option maxHeartbeats 4000000
set_option pp.maxSteps 6000
namespace My
open PySem PySem.Spec PyProof.Rows L2 DL
section
variable {P : Program} {w : World} {K : PySem.W.Frag} {mg : Str → Option Value} {base : Heap}
theorem sc__law_draw : FnScope ["stream", "many", "cell", "digit", "mixed"] ["stream", "many"] (defScope s__law_draw) := ⟨rfl, rfl, rfl, by decide +kernel, rfl, by decide +kernel, by decide +kernel⟩
theorem ok__law_draw (T : Txt K mg) : FnD P w K mg base 1 T.f__law_draw.f T.f__law_draw.fd ["stream", "many"] 1 cDraw := by
  refine T.f__law_draw.ok.ok sc__law_draw (fun vs H Q E h => h.1) (fun cdv A outer s H vs Q E hr h => ?_)
  obtain ⟨hl, R, st, Lb, B, ds, XQ, QD, o, hB, r, ⟨m, rfl, hm0, hm1, q⟩, hX, k⟩ := h
  match vs, hl, r with
  | [v0, v1], _, .cons r0 (.cons r1 .nil) =>
  cases r1
  generalize hv0 : v0 = w0 at r0
  cases r0 with
  | @strm _ p hst =>
  subst hv0
  obtain ⟨a, b⟩ := p
  obtain ⟨hne, xs0, c0, n0, s0, ha0, hb0, hc0, hn0, hnB, hs0, hs1, hcl⟩ := o.inv (a, b) hst
  simp only at hne ha0 hb0
  refine ⟨_, pss_cons (ps_asg (pe_op op_add (pe_ix ix_list (pv 0) pe_int (fun _ _ => rfl)) pe_int) (pg_sub (pv 0) pe_int set_list))
    (pss_cons (ps_while (passes_of rfl) (PW.pt (pw_and (pt_cmpR op_eq (pe_ix ix_list (pv 0) pe_int (fun _ _ => rfl)) pe_int (nomark _)) (pw_and1 (pt_cmpR (op_neD hr.units) (pe_ix ix_list (pv 0) pe_int (fun _ _ => rfl)) (pe_lst pa_nil) (nomark _)))))
      (pss_cons (ps_set (i := 2) sc__law_draw.nd rfl (Or.inl rfl) (pe_callB call_abs rfl T.n_abs (by decide +kernel) (pa_cons (pe_bm PySem.F.plainAttrs_list PySem.F.slot_list_pop PySem.F.type_list_pop mt_popAt (pe_ix ix_list (pv 0) pe_int (fun _ _ => rfl)) (pa_cons pe_int pa_nil)) pa_nil)))
      (pss_cons (ps_asg (pe_op op_mod (pe_callTy call_int1 rfl T.n_int (by decide +kernel) (pa_cons (pe_op op_add (pe_op op_add (pe_op op_mul (pe_ix ix_list (pv 0) pe_int (fun _ _ => rfl)) pe_int) (pv 2)) pe_int) pa_nil)) pe_int) (pg_sub (pv 0) pe_int set_list))
      (pss_one (ps_asg (pe_ifExp (pt_cmpR op_ge (pv 2) (pe_op op_pow pe_int pe_int) (nomark _)) (pv 2) pe_int) (pg_sub (pv 0) pe_int set_list))))))
    (pss_cons (ps_if (pt_cmpR op_gt (pe_ix ix_list (pv 0) pe_int (fun _ _ => rfl)) pe_int (nomark _))
      (pss_cons (ps_set (i := 3) sc__law_draw.nd rfl (Or.inl rfl) (pe_op op_mod (pe_callTy call_int1 rfl T.n_int (by decide +kernel) (pa_cons (pe_ix ix_list (pv 0) pe_int (fun _ _ => rfl)) pa_nil)) (pv 1)))
      (pss_cons (ps_asg (pe_op op_fdiv (pe_ix ix_list (pv 0) pe_int (fun _ _ => rfl)) (pv 1)) (pg_sub (pv 0) pe_int set_list))
      (pss_one (ps_ret (pv 3))))) pss_nil)
    (pss_cons (ps_set (i := 4) sc__law_draw.nd rfl (Or.inl rfl) (pe_op op_mod (pe_callTy call_int1 rfl T.n_int (by decide +kernel) (pa_cons (pe_op op_powW (pe_op op_add (pe_op op_add (pe_ix ix_list (pv 0) pe_int (fun _ _ => rfl)) (pe_op op_mul pe_int (pe_ix ix_list (pv 0) pe_int (fun _ _ => rfl)))) pe_int) pe_int) pa_nil)) pe_int))
    (pss_one (ps_ret (pe_op op_mod (pe_op op_mod (pe_callTy call_int1 rfl T.n_int (by decide +kernel) (pa_cons (pe_op op_powW (pe_op op_add (pe_op op_add (pe_op op_mul (pv 4) pe_int) (pe_op op_mul pe_int (pe_ix ix_list (pv 0) pe_int (fun _ _ => rfl)))) pe_int) pe_int) pa_nil)) pe_int) (pv 1))))))), ?_⟩
  obtain ⟨hu, hE⟩ : HpOk _ B R H ∧ n0 + 1 ≤ ((B + 1 : Nat) : Int) := ⟨o, by omega⟩
  refine draw_readsV hne ⟨ha0, hb0⟩ hc0 hn0 (lim_bits hE (Nat.le_trans hB o.lim)) hs0 hs1 hm0 hm1 fun k' H' k0 k1 ⟨xs', c', s', eV, hS', c0', s0', s1'⟩ kp bk => ?_
  have hcl' := drawV_cells (n := n0) (s := s0) hm0 hcl
  rw [eV] at hcl'
  obtain ⟨e1, o1⟩ := strm_ext (B' := B + 1) hst o ⟨kp, hne, xs', c', n0 + 1, s', hS'.top, hS'.low, c0', by omega, hE, s0', s1', hcl'⟩
  exact k _ ⟨.int k', true, none⟩ R H' e1 o1 (.of (.int _)) (q k' k0 k1)

end
/-! ### what is drawn -/
theorem atI_nat {xs : List D} {i : Int} (h0 : 0 ≤ i) (h1 : i < xs.length) : ∃ x, atI xs i = some x ∧ x ∈ xs := by
  have hn : i.toNat < xs.length := by omega
  refine ⟨xs[i.toNat], ?_, List.getElem_mem hn⟩
  unfold atI ixN
  rw [if_pos h0, if_pos h1]
  simp [hn]
section
variable {P : Program} {w : World} {K : PySem.W.Frag} {mg : Str → Option Value} {base : Heap}
theorem sc__law_pick : FnScope ["stream", "things"] ["stream", "things"] (defScope s__law_pick) := ⟨rfl, rfl, rfl, by decide +kernel, rfl, by decide +kernel, by decide +kernel⟩
def c__law_pick : DC := fun ds _ _ Q => ∃ a xs, ds = [.strm, a] ∧ a.seq = some xs ∧ xs ≠ [] ∧ xs.length < 1073741824 ∧ ∀ x ∈ xs, ∀ n, Q ⟨x, n, none⟩
theorem ok__law_pick (T : Txt K mg) : FnD P w K mg base 2 T.f__law_pick.f T.f__law_pick.fd ["stream", "things"] 1 c__law_pick := by
  refine fn_ok T.f__law_pick.ok sc__law_pick fun cdv A outer s H E hr => ⟨_, _, (dss_one (ds_ret [] (de_ix (de_var (pv 1)) (de_call ((ok__law_draw T).mono (by decide)) hr (by rfl) T.f__law_draw.g T.f__law_draw.ok.kp T.f__law_draw.b (passE (takes_of rfl rfl rfl rfl)) rfl (da_cons (de_var (pv 0)) (da_cons (de_callB dcl_len (by rfl) T.n_len (by decide +kernel) (da_cons (de_var (pv 1)) da_nil)) da_nil))) (fun _ _ => rfl)))), by decide +kernel, fun ds vs XQ Q hd hv h => ?_⟩
  obtain ⟨a, xs, rfl, e, hne, hl, q⟩ := h
  match vs, hv with
  | [v, v2], _ =>
  try simp only [frz, params, setAll, List.zipWith, List.length_cons, List.length_nil, Nat.reduceAdd, Nat.reduceSub, List.replicate, List.append_nil, List.cons_append, List.nil_append, getV_va, Pt.sl, true_and, List.getElem?_cons_zero, List.getElem?_cons_succ, List.set_cons_zero, List.set_cons_succ, ite_self, Bool.false_eq_true, if_false, if_true]
  rw [g1_of, gLen_of e]
  refine gCall_of fun _ => ⟨(xs.length : Int), rfl, ?_, by omega, fun i i0 i1 => ?_⟩
  · have := List.length_pos_iff.mpr hne
    omega
  · obtain ⟨x, hx, hm⟩ := atI_nat i0 i1
    rw [gIx_of e hx]
    exact q x hm _

theorem sc__law_mixed : FnScope ["stream", "things", "k", "left", "found"] ["stream", "things"] (defScope s__law_mixed) := ⟨rfl, rfl, rfl, by decide +kernel, rfl, by decide +kernel, by decide +kernel⟩
def c__law_mixed : DC := fun ds _ _ Q => ∃ a xs, ds = [.strm, a] ∧ a.seq = some xs ∧ xs.length ≤ 100000 ∧ ∀ ys n, ys.Perm xs → Q ⟨.lst ys, n, none⟩
theorem ok__law_mixed (T : Txt K mg) : FnD P w K mg base 2 T.f__law_mixed.f T.f__law_mixed.fd ["stream", "things"] (BIG * 10) c__law_mixed := by
  refine fn_ok T.f__law_mixed.ok sc__law_mixed fun cdv A outer s H E hr => ⟨_, _, (dss_cons (ds_par2 (i := 3) (j := 4) [] (dp_ow (dn_list (by rfl) T.n_list (da_cons (de_var (pv 1)) da_nil))) (dp_ow (dn_lst da_nil)) rfl sc__law_mixed.nd rfl rfl (by decide) (by rfl) (by rfl) (by rfl))
      (dss_cons (ds_forR [3] (passes_of rfl) rfl (dir_range1 (by rfl) T.n_range (da_cons (de_callB dcl_len (by rfl) T.n_len (by decide +kernel) (da_cons (de_var (pv 3)) da_nil)) da_nil)) (dg_name (pg_name (i := 2) sc__law_mixed.nd rfl (Or.inl rfl)))
      (dss_one (ds_appPop [3] (i := 4) (j := 3) (de_call ((ok__law_draw T).mono (by decide)) hr (by rfl) T.f__law_draw.g T.f__law_draw.ok.kp T.f__law_draw.b (passE (takes_of rfl rfl rfl rfl)) rfl (da_cons (de_var (pv 0)) (da_cons (de_callB dcl_len (by rfl) T.n_len (by decide +kernel) (da_cons (de_var (pv 3)) da_nil)) da_nil))) (fun _ a => ps_expr (pe_bm PySem.F.plainAttrs_list PySem.F.slot_list_append PySem.F.type_list_append mt_append (pv 4) (pa_cons (pe_bm PySem.F.plainAttrs_list PySem.F.slot_list_pop PySem.F.type_list_pop mt_popAt (pv 3) (pa_cons a pa_nil)) pa_nil))))))
      (dss_one (ds_ret [4] (de_var (pv 4)))))), by decide +kernel, fun ds vs XQ Q hd hv h => ?_⟩
  obtain ⟨a, xs, rfl, e, hl, q⟩ := h
  match vs, hv with
  | [v, v2], _ =>
  try simp only [frz, params, setAll, List.zipWith, List.length_cons, List.length_nil, Nat.reduceAdd, Nat.reduceSub, List.replicate, List.append_nil, List.cons_append, List.nil_append, getV_va, Pt.sl, true_and, List.getElem?_cons_zero, List.getElem?_cons_succ, List.set_cons_zero, List.set_cons_succ, ite_self, Bool.false_eq_true, if_false, if_true]
  refine ⟨_, xs, rfl, e, by decide, ?_⟩
  try simp only [frz, params, setAll, List.zipWith, List.length_cons, List.length_nil, Nat.reduceAdd, Nat.reduceSub, List.replicate, List.append_nil, List.cons_append, List.nil_append, getV_va, Pt.sl, true_and, List.getElem?_cons_zero, List.getElem?_cons_succ, List.set_cons_zero, List.set_cons_succ, ite_self, Bool.false_eq_true, if_false, if_true]
  rw [g1_of, gLen_of (ds := xs) rfl]
  refine ⟨by omega, by omega, .inr (by rw [rgD_len]; show _ ≤ 16777216; omega), ?_⟩
  refine for_idx (fun n ρ => ∃ sl ds es p q, ρ = [Sl.va ⟨.strm, D.strm.imm, some v⟩, .va ⟨a, a.imm, some v2⟩, sl, .ow (.lst es) p, .ow (.lst ds) q] ∧ es.length + n = xs.length ∧ ds.length = n ∧ (ds ++ es).Perm xs) _ 0 _ ⟨.un, [], xs, _, _, rfl, rfl, rfl, .refl _⟩ (fun i x hx ρ hI K kk => ?_) fun ρ hI => ?_
  · obtain ⟨sl, ds, es, p, q', rfl, h1, h2, h3⟩ := hI
    have hlt : i < xs.length := by
      have := (List.getElem?_eq_some_iff.mp hx).1
      rw [rgD_len] at this
      omega
    have hB : BIG = 16777216 := rfl
    try simp only [frz, params, setAll, List.zipWith, List.length_cons, List.length_nil, Nat.reduceAdd, Nat.reduceSub, List.replicate, List.append_nil, List.cons_append, List.nil_append, getV_va, Pt.sl, true_and, List.getElem?_cons_zero, List.getElem?_cons_succ, List.set_cons_zero, List.set_cons_succ, ite_self, Bool.false_eq_true, if_false, if_true]
    refine ⟨by decide, ds, q', es, p, rfl, rfl, by omega, ?_⟩
    rw [g1_of, gLen_of (ds := es) rfl]
    refine gCall_of fun _ => ⟨(es.length : Int), rfl, by omega, by omega, fun j j0 j1 => ?_⟩
    have hj : j.toNat < es.length := by omega
    refine ⟨rfl, j.toNat, es[j.toNat], by simp; omega, by simp [hj], by omega, kk _ ⟨_, _, _, _, _, rfl, ?_, ?_, ?_⟩⟩
    · rw [List.length_eraseIdx_of_lt hj]
      omega
    · rw [List.length_append]
      simp
      omega
    · rw [List.append_assoc]
      exact ((erase_perm hj).append_left ds).trans h3
  · obtain ⟨sl, ds, es, p, q', rfl, h1, h2, h3⟩ := hI
    rw [rgD_len] at h1 h2
    try simp only [frz, params, setAll, List.zipWith, List.length_cons, List.length_nil, Nat.reduceAdd, Nat.reduceSub, List.replicate, List.append_nil, List.cons_append, List.nil_append, getV_va, Pt.sl, true_and, List.getElem?_cons_zero, List.getElem?_cons_succ, List.set_cons_zero, List.set_cons_succ, ite_self, Bool.false_eq_true, if_false, if_true]
    have he : es = [] := List.length_eq_zero_iff.mp (by omega)
    rw [he, List.append_nil] at h3
    exact q ds _ h3

theorem sc__law_same : FnScope ["found", "due", "mine", "theirs"] ["found", "due"] (defScope s__law_same) := ⟨rfl, rfl, rfl, by decide +kernel, rfl, by decide +kernel, by decide +kernel⟩
def c__law_same (k : Nat) : DC := fun ds _ _ Q => ∃ x, ds = [x, x] ∧ x.good = true ∧ x.smp = true ∧ x.rnk < k ∧ Q ⟨.bl true, true, none⟩
theorem ok__law_same (T : Txt K mg) : ∀ k, FnD P w K mg base (k + 1) T.f__law_same.f T.f__law_same.fd ["found", "due"] (cost0 k) (c__law_same k)
  | 0 => fnd_none (fun ds vs XQ Q ⟨_, _, _, _, h, _⟩ => by omega)
  | k + 1 => by
    have IH := ok__law_same T k
    refine fn_ok T.f__law_same.ok sc__law_same fun cdv A outer s H E hr => ⟨_, _, (dss_cons (ds_if [] (dt_val (de_isiT (tys_ok2 ty_list ty_tuple) (de_var (pv 1)) (pa_tyCons (T := "list") (by rfl) T.n_list (by decide +kernel) (pa_tyCons (T := "tuple") (by rfl) T.n_tuple (by decide +kernel) pa_tyNil)) (by rfl) T.n_isinstance (by decide +kernel))) (dss_cons (ds_if [] (DW.dt (dw_or (dt_cmp (dop_ne hr.units) (de_isi (T := "list") ty_list (de_var (pv 0)) (by rfl) T.n_isinstance (by decide +kernel) (by rfl) T.n_list (by decide +kernel)) (de_isi (T := "list") ty_list (de_var (pv 1)) (by rfl) T.n_isinstance (by decide +kernel) (by rfl) T.n_list (by decide +kernel)) (nomark _)) (dw_or1 (dt_cmp (dop_ne hr.units) (de_isi (T := "tuple") ty_tuple (de_var (pv 0)) (by rfl) T.n_isinstance (by decide +kernel) (by rfl) T.n_tuple (by decide +kernel)) (de_isi (T := "tuple") ty_tuple (de_var (pv 1)) (by rfl) T.n_isinstance (by decide +kernel) (by rfl) T.n_tuple (by decide +kernel)) (nomark _))))) (dss_one (ds_ret [] de_bl)) dss_nil)
      (dss_one (ds_ret [] (de_and (de_cmp (dop_eq hr.units) (de_callB dcl_len (by rfl) T.n_len (by decide +kernel) (da_cons (de_var (pv 0)) da_nil)) (de_callB dcl_len (by rfl) T.n_len (by decide +kernel) (da_cons (de_var (pv 1)) da_nil)) (nomark _)) (de_one (de_callB (dcl_all rfl) (by rfl) T.n_all (by decide +kernel) (da_cons (DN.de (dn_lc (own := [("mine", 2), ("theirs", 3)]) rfl sc__law_same.nd (di_zip (by rfl) T.n_zip (da_cons (de_var (pv 0)) (da_cons (de_var (pv 1)) da_nil))) (blkOk_by (N := ["found", "due", "mine", "theirs"]) (sc := defScope s__law_same) (by decide +kernel)) (fun _ _ _ _ _ => (dg_tup (n := 2) rfl (dgs_cons (dg_name (pg_name (i := 2) sc__law_same.nd rfl (Or.inl rfl))) (dgs_cons (dg_name (pg_name (i := 3) sc__law_same.nd rfl (Or.inl rfl))) dgs_nil)))) (fun _ _ _ _ _ => dts_nil) (fun _ _ _ _ _ => (de_call (IH) hr (by rfl) T.f__law_same.g T.f__law_same.ok.kp T.f__law_same.b passL rfl (da_cons (de_var (pv 2)) (da_cons (de_var (pv 3)) da_nil)))) (by decide))) da_nil))))))) dss_nil)
      (dss_cons (ds_if [] (dt_val (de_isi (T := "dict") ty_dict (de_var (pv 1)) (by rfl) T.n_isinstance (by decide +kernel) (by rfl) T.n_dict (by decide +kernel))) (dss_one (ds_ret [] (de_and (de_isi (T := "dict") ty_dict (de_var (pv 0)) (by rfl) T.n_isinstance (by decide +kernel) (by rfl) T.n_dict (by decide +kernel)) (de_one (de_call (IH) hr (by rfl) T.f__law_same.g T.f__law_same.ok.kp T.f__law_same.b (passE (takes_of rfl rfl rfl rfl)) rfl (da_cons (de_items rfl (by rfl) T.n_list (de_var (pv 0))) (da_cons (de_items rfl (by rfl) T.n_list (de_var (pv 1))) da_nil))))))) dss_nil)
      (dss_cons (ds_if [] (DW.dt (dw_or (dt_val (de_isi (T := "bool") ty_bool (de_var (pv 1)) (by rfl) T.n_isinstance (by decide +kernel) (by rfl) T.n_bool (by decide +kernel))) (dw_or1 (dt_val (de_isi (T := "bool") ty_bool (de_var (pv 0)) (by rfl) T.n_isinstance (by decide +kernel) (by rfl) T.n_bool (by decide +kernel)))))) (dss_one (ds_ret [] (de_and (de_isi (T := "bool") ty_bool (de_var (pv 1)) (by rfl) T.n_isinstance (by decide +kernel) (by rfl) T.n_bool (by decide +kernel)) (de_and (de_isi (T := "bool") ty_bool (de_var (pv 0)) (by rfl) T.n_isinstance (by decide +kernel) (by rfl) T.n_bool (by decide +kernel)) (de_one (de_cmp (dop_eq hr.units) (de_var (pv 0)) (de_var (pv 1)) (nomark _))))))) dss_nil)
      (dss_cons (ds_if [] (DW.dt (dw_or (dt_cmp dop_isN (de_var (pv 1)) de_non (nomark _)) (dw_or1 (dt_cmp dop_isN (de_var (pv 0)) de_non (nomark _))))) (dss_one (ds_ret [] (de_and (de_cmp dop_isN (de_var (pv 1)) de_non (nomark _)) (de_one (de_cmp dop_isN (de_var (pv 0)) de_non (nomark _)))))) dss_nil)
      (dss_cons (ds_if [] (DW.dt (dw_or (dt_cmp (dop_ne hr.units) (de_isi (T := "int") ty_int (de_var (pv 1)) (by rfl) T.n_isinstance (by decide +kernel) (by rfl) T.n_int (by decide +kernel)) (de_isi (T := "int") ty_int (de_var (pv 0)) (by rfl) T.n_isinstance (by decide +kernel) (by rfl) T.n_int (by decide +kernel)) (nomark _)) (dw_or1 (dt_cmp (dop_ne hr.units) (de_isi (T := "str") ty_str (de_var (pv 1)) (by rfl) T.n_isinstance (by decide +kernel) (by rfl) T.n_str (by decide +kernel)) (de_isi (T := "str") ty_str (de_var (pv 0)) (by rfl) T.n_isinstance (by decide +kernel) (by rfl) T.n_str (by decide +kernel)) (nomark _))))) (dss_one (ds_ret [] de_bl)) dss_nil)
      (dss_one (ds_ret [] (de_and (de_not (de_isiT (tys_ok3 ty_list ty_tuple ty_dict) (de_var (pv 0)) (pa_tyCons (T := "list") (by rfl) T.n_list (by decide +kernel) (pa_tyCons (T := "tuple") (by rfl) T.n_tuple (by decide +kernel) (pa_tyCons (T := "dict") (by rfl) T.n_dict (by decide +kernel) pa_tyNil))) (by rfl) T.n_isinstance (by decide +kernel))) (de_one (de_cmp (dop_eq hr.units) (de_var (pv 0)) (de_var (pv 1)) (nomark _))))))))))), ?c, fun ds vs XQ Q hd hv h => ?_⟩
    · show _ ≤ 0; simp [cost0]
    obtain ⟨x, rfl, hx, hsm, hd, q⟩ := h
    match vs, hv with
    | [v, v2], _ =>
    try simp only [frz, params, setAll, List.zipWith, List.length_cons, List.length_nil, Nat.reduceAdd, Nat.reduceSub, List.replicate, List.append_nil, List.cons_append, List.nil_append, getV_va, Pt.sl, true_and, List.getElem?_cons_zero, List.getElem?_cons_succ, List.set_cons_zero, List.set_cons_succ, ite_self, Bool.false_eq_true, if_false, if_true]
    have gt := good_ty hx
    refine ⟨gt, ?_⟩
    rw [isa_seq hx, bl_of]
    cases e : x.seq with
    | some xs =>
      obtain ⟨hgx, hgl⟩ := good_seq hx e
      rw [if_pos (by simp)]
      refine ⟨gt, gt, ?_⟩
      rw [gEq_bl, bl_of, if_neg (by simp)]
      refine ⟨gt, gt, ?_⟩
      rw [gEq_bl, bl_of, if_neg (by simp), g1_of, gLen_of e, g1_of, gLen_of e, gEq_int, bl_of, if_pos (by simp), gZip_seq (by exact e) (by cases x <;> first | (cases e; rfl) | (cases e; done))]
      rw [seq_rnk e] at hd
      rw [seq_smp e] at hsm
      refine ⟨by rw [zipD_len]; show _ ≤ 16777216; omega, all_go (fun _ => true) (fun y hy K1 K0 kk => ?_) (by rw [show ∀ l : List Dv, l.all (fun _ => true) = true from fun l => List.all_eq_true.mpr fun _ _ => rfl]; exact q)⟩
      try simp only [lcStep, true_and, wipeR, List.map_cons, List.map_nil, List.set_cons_succ, List.set_cons_zero, List.getElem?_cons_succ, List.getElem?_cons_zero, getV_va, if_true]
      obtain ⟨i, hi⟩ := List.getElem?_of_mem hy
      obtain ⟨a, b, h1, h2, rfl⟩ := zipD_get hi
      rw [h1] at h2
      cases h2
      have hm := List.mem_of_getElem? h1
      rw [unp_seq (by rfl)]
      refine ⟨rfl, rfl, ?_⟩
      try simp only [frz, params, setAll, List.zipWith, List.length_cons, List.length_nil, Nat.reduceAdd, Nat.reduceSub, List.replicate, List.append_nil, List.cons_append, List.nil_append, getV_va, Pt.sl, true_and, List.getElem?_cons_zero, List.getElem?_cons_succ, List.set_cons_zero, List.set_cons_succ, ite_self, Bool.false_eq_true, if_false, if_true]
      exact gCall_of fun _ => ⟨a, rfl, hgx a hm, smpL_mem hsm a hm, rnkL_mem (by omega) a hm, kk _⟩
    | none =>
      rw [if_neg (by simp)]
      by_cases hdc : ∃ kvs, x = .dct kvs
      · obtain ⟨kvs, rfl⟩ := hdc
        have ek : kvs = [] := by simpa [D.smp] using hsm
        subst ek
        exact ⟨gt, true, rfl, gt, true, rfl, [], rfl, (fun _ h => nomatch h), [], rfl, (fun _ h => nomatch h), gCall_of fun _ => ⟨.lst [], rfl, rfl, rfl, by simp [D.rnk] at hd; simp [D.rnk, D.rnkL]; omega, q⟩⟩
      · cases x <;> first | (cases e; done) | (cases hx; done) | (exact absurd ⟨_, rfl⟩ hdc) | skip
        all_goals
          refine ⟨gt, false, rfl, ?_⟩
          rw [if_neg (by decide)]
        · refine ⟨gt, false, rfl, ?_⟩
          rw [if_neg (by decide)]
          refine ⟨gt, false, rfl, ?_⟩
          rw [if_neg (by decide)]
          refine ⟨⟨true, rfl, ?_⟩, fun v z => nomatch z⟩
          rw [if_pos rfl]
          refine ⟨⟨true, rfl, ?_⟩, fun v z => nomatch z⟩
          rw [if_pos rfl]
          exact ⟨q, fun v z => nomatch z⟩
        · refine ⟨gt, true, rfl, ?_⟩
          rw [if_pos rfl]
          refine ⟨gt, true, rfl, ?_⟩
          rw [if_pos rfl]
          refine ⟨gt, true, rfl, ?_⟩
          rw [if_pos rfl, gEq_bl]
          simpa using q
        · skip
          refine ⟨gt, false, rfl, ?_⟩
          rw [if_neg (by decide)]
          refine ⟨gt, false, rfl, ?_⟩
          rw [if_neg (by decide)]
          refine ⟨⟨false, rfl, ?_⟩, fun v z => nomatch z⟩
          rw [if_neg (by decide)]
          refine ⟨⟨false, rfl, ?_⟩, fun v z => nomatch z⟩
          rw [if_neg (by decide)]
          refine ⟨gt, gt, ?_⟩
          rw [gEq_bl, bl_of, if_neg (by simp)]
          refine ⟨gt, gt, ?_⟩
          rw [gEq_bl, bl_of, if_neg (by simp)]
          refine ⟨gt, false, rfl, true, rfl, ?_⟩
          rw [if_pos rfl]
          rw [gEq_int]
          simpa using q
        · skip
          refine ⟨gt, false, rfl, ?_⟩
          rw [if_neg (by decide)]
          refine ⟨gt, false, rfl, ?_⟩
          rw [if_neg (by decide)]
          refine ⟨⟨false, rfl, ?_⟩, fun v z => nomatch z⟩
          rw [if_neg (by decide)]
          refine ⟨⟨false, rfl, ?_⟩, fun v z => nomatch z⟩
          rw [if_neg (by decide)]
          refine ⟨gt, gt, ?_⟩
          rw [gEq_bl, bl_of, if_neg (by simp)]
          refine ⟨gt, gt, ?_⟩
          rw [gEq_bl, bl_of, if_neg (by simp)]
          refine ⟨gt, false, rfl, true, rfl, ?_⟩
          rw [if_pos rfl]
          simp only [D.good, Bool.and_eq_true] at hx
          rw [gEq_str hx.1 hx.1]
          simpa using q

mutual
/-- the same with lists for tuples, or tuples for lists -/
inductive Loose : D → D → Prop
  | ll {xs ys : List D} : LooseL xs ys → Loose (.lst xs) (.lst ys)
  | lt {xs ys : List D} : LooseL xs ys → Loose (.lst xs) (.tup ys)
  | tl {xs ys : List D} : LooseL xs ys → Loose (.tup xs) (.lst ys)
  | tt {xs ys : List D} : LooseL xs ys → Loose (.tup xs) (.tup ys)
  | same {d : D} : d.seq = none → Loose d d
inductive LooseL : List D → List D → Prop
  | nil : LooseL [] []
  | cons {x y : D} {xs ys : List D} : Loose x y → LooseL xs ys → LooseL (x :: xs) (y :: ys)
end
theorem Loose.of_seq {x : D} {xs ys : List D} (e : x.seq = some xs) (h : LooseL xs ys) : Loose x (.lst ys) ∧ Loose x (.tup ys) := by
  cases x <;> first | (cases e; done) | (cases e; exact ⟨.ll h, .lt h⟩) | (cases e; exact ⟨.tl h, .tt h⟩)
theorem Loose.seq {x y : D} {xs : List D} (h : Loose x y) (e : x.seq = some xs) : ∃ ys, y.seq = some ys ∧ LooseL xs ys := by
  cases h with
  | ll h => cases e; exact ⟨_, rfl, h⟩
  | lt h => cases e; exact ⟨_, rfl, h⟩
  | tl h => cases e; exact ⟨_, rfl, h⟩
  | tt h => cases e; exact ⟨_, rfl, h⟩
  | same h => rw [h] at e; cases e
theorem Loose.none {x y : D} (h : Loose x y) (e : x.seq = none) : y = x := by
  cases h <;> first | (cases e; done) | rfl
theorem looseL_app : ∀ {xs ys us vs : List D}, LooseL xs ys → LooseL us vs → LooseL (xs ++ us) (ys ++ vs)
  | _, _, _, _, .nil, h => h
  | _, _, _, _, .cons a t, h => .cons a (looseL_app t h)
theorem sc__law_loose : FnScope ["stream", "thing", "some", "one"] ["stream", "thing"] (defScope s__law_loose) := ⟨rfl, rfl, rfl, by decide +kernel, rfl, by decide +kernel, by decide +kernel⟩
def c__law_loose (k : Nat) : DC := fun ds _ _ Q => ∃ x, ds = [.strm, x] ∧ x.good = true ∧ x.rnk < k ∧ ∀ y n, Loose x y → Q ⟨y, n, none⟩
theorem ok__law_loose (T : Txt K mg) : ∀ k, FnD P w K mg base (k + 2) T.f__law_loose.f T.f__law_loose.fd ["stream", "thing"] (costL k) (c__law_loose k)
  | 0 => fnd_none (fun ds vs XQ Q ⟨_, _, _, h, _⟩ => by omega)
  | k + 1 => by
    have IH := ok__law_loose T k
    refine fn_ok T.f__law_loose.ok sc__law_loose fun cdv A outer s H E hr => ⟨_, _, (dss_cons (ds_if [] (dt_val (de_isiT (tys_ok2 ty_list ty_tuple) (de_var (pv 1)) (pa_tyCons (T := "list") (by rfl) T.n_list (by decide +kernel) (pa_tyCons (T := "tuple") (by rfl) T.n_tuple (by decide +kernel) pa_tyNil)) (by rfl) T.n_isinstance (by decide +kernel))) (dss_cons (ds_setLc (i := 2) (own := [("one", 3)]) [] rfl sc__law_loose.nd rfl rfl (sw_true rfl rfl rfl (by decide +kernel)) (di_seq (de_var (pv 1))) (blkOk_by (N := ["stream", "thing", "some", "one"]) (sc := defScope s__law_loose) (by decide +kernel)) (fun _ _ _ _ _ => (dg_name (pg_name (i := 3) sc__law_loose.nd rfl (Or.inl rfl)))) (fun _ _ _ _ _ => dts_nil) (fun _ _ _ _ _ => (de_call (IH) hr (by rfl) T.f__law_loose.g T.f__law_loose.ok.kp T.f__law_loose.b passL rfl (da_cons (de_var (pv 0)) (da_cons (de_var (pv 3)) da_nil)))) (by decide))
      (dss_one (ds_ret [] (de_if (dt_cmp (dop_eq hr.units) (de_call ((ok__law_draw T).mono (by omega)) hr (by rfl) T.f__law_draw.g T.f__law_draw.ok.kp T.f__law_draw.b (passE (takes_of rfl rfl rfl rfl)) rfl (da_cons (de_var (pv 0)) (da_cons de_int da_nil))) de_int (nomark _)) (de_var (pv 2)) (de_callTy dcl_tuple (by rfl) T.n_tuple (by decide +kernel) (da_cons (de_var (pv 2)) da_nil)))))) dss_nil)
      (dss_one (ds_ret [] (de_var (pv 1))))), ?c, fun ds vs XQ Q hd hv h => ?_⟩
    · show _ ≤ BIG * costL k + 10
      simp only [BIG]
      omega
    obtain ⟨x, rfl, hx, hd, q⟩ := h
    match vs, hv with
    | [v, v2], _ =>
    try simp only [frz, params, setAll, List.zipWith, List.length_cons, List.length_nil, Nat.reduceAdd, Nat.reduceSub, List.replicate, List.append_nil, List.cons_append, List.nil_append, getV_va, Pt.sl, true_and, List.getElem?_cons_zero, List.getElem?_cons_succ, List.set_cons_zero, List.set_cons_succ, ite_self, Bool.false_eq_true, if_false, if_true]
    have gt := good_ty hx
    refine ⟨gt, ?_⟩
    rw [isa_seq hx, bl_of]
    cases e : x.seq with
    | none =>
      rw [if_neg (by simp)]
      exact q x _ (.same e)
    | some xs =>
      rw [if_pos (by simp), items_seq (by exact e)]
      obtain ⟨hgx, hgl⟩ := good_seq hx e
      rw [seq_rnk e] at hd
      refine ⟨by rw [List.length_map]; show _ ≤ 16777216; omega, ?_⟩
      refine lc_rel0 (fun x d => Loose x.d d) (fun y hy K1 K0 kk => ?_) fun ys m hp => ?_
      · try simp only [lcStep, true_and, wipeR, List.map_cons, List.map_nil, List.set_cons_succ, List.set_cons_zero, List.getElem?_cons_succ, List.getElem?_cons_zero, getV_va, if_true]
        obtain ⟨z, hz, rfl⟩ := List.mem_map.mp hy
        exact gCall_of fun _ => ⟨z, rfl, hgx z hz, rnkL_mem (by omega) z hz, fun y n r => kk _ _ _ r⟩
      · have hp' : LooseL xs ys := by
          clear hgx hgl hd q e
          generalize Dv.fr ⟨x, x.imm, some v2⟩ = fl at hp
          induction xs generalizing ys with
          | nil => cases hp; exact .nil
          | cons a xs ih =>
            cases hp with
            | cons r t => exact .cons r (ih _ t)
        obtain ⟨o1, o2⟩ := Loose.of_seq e hp'
        refine gCall_of fun _ => ⟨2, rfl, by decide, by decide, fun j j0 j1 => ?_⟩
        dsimp only
        rw [gEq_int, bl_of]
        by_cases hj : j = 0
        · rw [if_pos (by simp [hj])]
          exact q _ _ o1
        · rw [if_neg (by simp [hj])]
          exact g1_tup (l := ys) rfl (q _ _ o2)

end
/-- a plan as the law has it -/
def PV.d (p : PV) : D := .tup [.str p.office, .lst (p.roads.map roadD), .lst (p.riders.map rowD), .lst (p.letters.map rowD)]
theorem PV.seq (p : PV) : p.d.seq = some [.str p.office, .lst (p.roads.map roadD), .lst (p.riders.map rowD), .lst (p.letters.map rowD)] := rfl
theorem PV.at2 (p : PV) : atI [D.str p.office, .lst (p.roads.map roadD), .lst (p.riders.map rowD), .lst (p.letters.map rowD)] 2 = some (.lst (p.riders.map rowD)) := rfl
theorem PV.at3 (p : PV) : atI [D.str p.office, .lst (p.roads.map roadD), .lst (p.riders.map rowD), .lst (p.letters.map rowD)] 3 = some (.lst (p.letters.map rowD)) := rfl
theorem sum_perm : ∀ {xs ys : List Int}, xs.Perm ys → xs.sum = ys.sum := fun h => by
  induction h with
  | nil => rfl
  | cons x _ ih => simp [ih]
  | swap x y l => simp only [List.sum_cons]; omega
  | trans _ _ h1 h2 => exact h1.trans h2
theorem sum_cut (xs : List Int) (k : Int) (h : 0 ≤ k) : (cutL xs none (some k)).sum + (cutL xs (some k) none).sum = xs.sum := by
  unfold cutL
  simp only [HT.sIx]
  rw [if_neg (by omega)]
  have e1 : (xs.drop 0).take (min k.toNat xs.length - 0) = xs.take (min k.toNat xs.length) := by simp
  have e2 : (xs.drop (min k.toNat xs.length)).take (xs.length - min k.toNat xs.length) = xs.drop (min k.toNat xs.length) := List.take_of_length_le (by rw [List.length_drop]; exact Nat.le_refl _)
  rw [e1, e2, ← List.sum_append, List.take_append_drop]
theorem roomBut_eq (rs : List Row) (ks : List Nat) (m : Int) : (cutL (sortI (roomsN rs ks)) none (some (if 0 > ((roomsN rs ks).length : Int) - m then 0 else ((roomsN rs ks).length : Int) - m))).sum = roomBut rs ks m := by
  unfold roomBut greatestI
  have h := sum_cut (sortI (roomsN rs ks)) (if 0 > ((roomsN rs ks).length : Int) - m then 0 else ((roomsN rs ks).length : Int) - m) (by split <;> omega)
  rw [sum_perm (sortI_perm _)] at h
  omega

section
variable {P : Program} {w : World} {K : PySem.W.Frag} {mg : Str → Option Value} {base : Heap}
theorem sc__law_is_whole : FnScope ["thing"] ["thing"] (defScope s__law_is_whole) := ⟨rfl, rfl, rfl, by decide +kernel, rfl, by decide +kernel, by decide +kernel⟩
def c__law_is_whole : DC := fun ds _ _ Q => ∃ a, ds = [a] ∧ a.good = true ∧ Q ⟨.bl (isWhole a), true, none⟩
theorem ok__law_is_whole (T : Txt K mg) : FnD P w K mg base 1 T.f__law_is_whole.f T.f__law_is_whole.fd ["thing"] 0 c__law_is_whole := by
  refine fn_ok T.f__law_is_whole.ok sc__law_is_whole fun cdv A outer s H E hr => ⟨_, _, (dss_one (ds_ret [] (de_and (de_isi (T := "int") ty_int (de_var (pv 0)) (by rfl) T.n_isinstance (by decide +kernel) (by rfl) T.n_int (by decide +kernel)) (de_one (de_not (de_isi (T := "bool") ty_bool (de_var (pv 0)) (by rfl) T.n_isinstance (by decide +kernel) (by rfl) T.n_bool (by decide +kernel))))))), by decide +kernel, fun ds vs XQ Q hd hv h => ?_⟩
  obtain ⟨a, rfl, ha, q⟩ := h
  match vs, hv with
  | [v], _ =>
  try simp only [frz, params, setAll, List.zipWith, List.length_cons, List.length_nil, Nat.reduceAdd, Nat.reduceSub, List.replicate, List.append_nil, List.cons_append, List.nil_append, getV_va, Pt.sl, true_and, List.getElem?_cons_zero, List.getElem?_cons_succ, List.set_cons_zero, List.set_cons_succ, ite_self, Bool.false_eq_true, if_false, if_true]
  have ht := good_ty ha
  cases a <;> simp_all [D.isa, isWhole]

theorem sc__law_mine : FnScope ["plan", "post", "k", "rider"] ["plan", "post"] (defScope s__law_mine) := ⟨rfl, rfl, rfl, by decide +kernel, rfl, by decide +kernel, by decide +kernel⟩
def c__law_mine : DC := fun ds _ _ Q => ∃ (p : PV) (x : Str), ds = [p.d, .str x] ∧ p.Ok ∧ PyData.strOk x = true ∧ ∀ f, Q ⟨.lst ((mineN p.riders x).map fun k => .int (k : Nat)), f, none⟩
theorem ok__law_mine (T : Txt K mg) : FnD P w K mg base 1 T.f__law_mine.f T.f__law_mine.fd ["plan", "post"] 0 c__law_mine := by
  refine fn_ok T.f__law_mine.ok sc__law_mine fun cdv A outer s H E hr => ⟨_, _, (dss_one (ds_ret [] (DN.de (dn_lc (own := [("k", 2), ("rider", 3)]) rfl sc__law_mine.nd (di_enum (by rfl) T.n_enumerate (da_cons (de_ix (de_var (pv 0)) de_int (fun _ _ => rfl)) da_nil)) (blkOk_by (N := ["plan", "post", "k", "rider"]) (sc := defScope s__law_mine) (by decide +kernel)) (fun _ _ _ _ _ => (dg_tup (n := 2) rfl (dgs_cons (dg_name (pg_name (i := 2) sc__law_mine.nd rfl (Or.inl rfl))) (dgs_cons (dg_name (pg_name (i := 3) sc__law_mine.nd rfl (Or.inl rfl))) dgs_nil)))) (fun _ _ _ _ _ => (dts_one (dt_cmp (dop_eq hr.units) (de_ix (de_var (pv 3)) de_int (fun _ _ => rfl)) (de_var (pv 1)) (nomark _)))) (fun _ _ _ _ _ => (de_var (pv 2))) (by decide))))), by decide +kernel, fun ds vs XQ Q hd hv h => ?_⟩
  obtain ⟨p, x, rfl, hp, hx, q⟩ := h
  match vs, hv with
  | [v, v2], _ =>
  try simp only [frz, params, setAll, List.zipWith, List.length_cons, List.length_nil, Nat.reduceAdd, Nat.reduceSub, List.replicate, List.append_nil, List.cons_append, List.nil_append, getV_va, Pt.sl, true_and, List.getElem?_cons_zero, List.getElem?_cons_succ, List.set_cons_zero, List.set_cons_succ, ite_self, Bool.false_eq_true, if_false, if_true]
  have h2 := hp.r2
  rw [gIx_of p.seq p.at2]
  refine ⟨by rw [enumD_len, List.length_map]; show _ ≤ 16777216; omega, lc_any (mineF x) (fun y hy K1 K0 k1 k0 => ?_) fun f => ?_⟩
  · obtain ⟨i, hi⟩ := List.mem_iff_getElem?.mp hy
    obtain ⟨d, hd, rfl⟩ := enumD_get hi
    rw [List.getElem?_map] at hd
    cases e : p.riders[i]? with
    | none => rw [e] at hd; cases hd
    | some r =>
      rw [e] at hd
      cases hd
      try simp only [lcStep, true_and, wipeR, List.map_cons, List.map_nil, List.set_cons_succ, List.set_cons_zero, List.getElem?_cons_succ, List.getElem?_cons_zero, getV_va, if_true]
      rw [unp_seq (by rfl)]
      refine ⟨rfl, ?_⟩
      simp only [List.map_cons, List.map_nil]
      refine ⟨trivial, ?_⟩
      try simp only [frz, params, setAll, List.zipWith, List.length_cons, List.length_nil, Nat.reduceAdd, Nat.reduceSub, List.replicate, List.append_nil, List.cons_append, List.nil_append, getV_va, Pt.sl, true_and, List.getElem?_cons_zero, List.getElem?_cons_succ, List.set_cons_zero, List.set_cons_succ, ite_self, Bool.false_eq_true, if_false, if_true]
      have hm : r ∈ p.riders := List.mem_of_getElem? e
      rw [gIx_of (by rfl) (show atI [D.str r.1, .int r.2.1, .int r.2.2] 0 = some (.str r.1) from rfl), gEq_str (hp.nr r hm) hx, bl_of]
      by_cases h : r.1 = x
      · simp only [h, beq_self_eq_true, Bool.false_eq_true, if_false, if_true]
        exact k1 _ (by show (if r.1 = x then _ else _) = _; rw [if_pos h]) _ _
      · rw [if_neg (by simpa using h)]
        exact k0 (by show (if r.1 = x then _ else _) = _; rw [if_neg h])
  · rw [enum_mine, List.nil_append]
    exact q f

theorem sc__law_away : FnScope ["plan", "post", "last", "tick", "k"] ["plan", "post", "last", "tick"] (defScope s__law_away) := ⟨rfl, rfl, rfl, by decide +kernel, rfl, by decide +kernel, by decide +kernel⟩
def c__law_away : DC := fun ds _ _ Q => ∃ (p : PV) (x : Str) (la : Option Int) (ti : Int), ds = [p.d, .str x, lastD la, .int ti] ∧ p.Ok ∧ PyData.strOk x = true ∧ ∀ f, Q ⟨natsD (awayN p.riders x la ti), f, none⟩
theorem ok__law_away (T : Txt K mg) : FnD P w K mg base 2 T.f__law_away.f T.f__law_away.fd ["plan", "post", "last", "tick"] 0 c__law_away := by
  refine fn_ok T.f__law_away.ok sc__law_away fun cdv A outer s H E hr => ⟨_, _, (dss_one (ds_ret [] (DN.de (dn_lc (own := [("k", 4)]) rfl sc__law_away.nd (di_seq (de_call ((ok__law_mine T).mono (by decide)) hr (by rfl) T.f__law_mine.g T.f__law_mine.ok.kp T.f__law_mine.b (passE (takes_of rfl rfl rfl rfl)) rfl (da_cons (de_var (pv 0)) (da_cons (de_var (pv 1)) da_nil)))) (blkOk_by (N := ["plan", "post", "last", "tick", "k"]) (sc := defScope s__law_away) (by decide +kernel)) (fun _ _ _ _ _ => (dg_name (pg_name (i := 4) sc__law_away.nd rfl (Or.inl rfl)))) (fun _ _ _ _ _ => (dts_one (DW.dt (dw_and (dt_cmp dop_le (de_ix (de_ix (de_ix (de_var (pv 0)) de_int (fun _ _ => rfl)) (de_var (pv 4)) (fun _ _ => rfl)) de_int (fun _ _ => rfl)) (de_var (pv 3)) (nomark _)) (dw_and1 (DW.dt (dw_or (dt_cmp dop_isN (de_var (pv 2)) de_non (nomark _)) (dw_or1 (dt_cmp dop_gt (de_var (pv 4)) (de_var (pv 2)) (nomark _)))))))))) (fun _ _ _ _ _ => (de_var (pv 4))) (by decide))))), by decide +kernel, fun ds vs XQ Q hd hv h => ?_⟩
  obtain ⟨p, x, la, ti, rfl, hp, hx, q⟩ := h
  match vs, hv with
  | [v, v2, v3, v4], _ =>
  try simp only [frz, params, setAll, List.zipWith, List.length_cons, List.length_nil, Nat.reduceAdd, Nat.reduceSub, List.replicate, List.append_nil, List.cons_append, List.nil_append, getV_va, Pt.sl, true_and, List.getElem?_cons_zero, List.getElem?_cons_succ, List.set_cons_zero, List.set_cons_succ, ite_self, Bool.false_eq_true, if_false, if_true]
  have h2 := hp.r2
  have hml := mineAt_len (x := x) (rs := p.riders) (i := 0)
  refine gCall_of fun _ => ⟨p, x, rfl, hp, hx, fun f => ?_⟩
  dsimp only
  rw [items_seq (by rfl), List.map_map]
  refine ⟨by rw [List.length_map]; show _ ≤ 16777216; unfold mineN; omega, lc_filt (g := fun k : Nat => D.int (k : Nat)) (fun k : Nat => decide (tickAt p.riders k ≤ ti) && lateOk la k) (fun k hk K1 K0 k1 k0 => ?_) fun f => q f⟩
  try simp only [lcStep, true_and, wipeR, List.map_cons, List.map_nil, List.set_cons_succ, List.set_cons_zero, List.getElem?_cons_succ, List.getElem?_cons_zero, getV_va, if_true]
  dsimp only [Function.comp]
  obtain ⟨hk1, _⟩ := mem_mine hk
  rw [gIx_of p.seq p.at2, gIx_of (by rfl) (row_at hk1), gIx_of (by rfl) (show atI [D.str p.riders[k].1, .int (tickAt p.riders k), .int (roomAt p.riders k)] 1 = some (.int (tickAt p.riders k)) from rfl), gI_of]
  refine ⟨trivial, ?_⟩
  rw [bl_of]
  by_cases h : tickAt p.riders k ≤ ti
  case neg => exact ite_f (by simpa using h) (k0 (by simp [h]))
  refine ite_t (by simpa using h) ?_
  cases la with
  | none =>
    refine ⟨⟨_, rfl, ?_⟩, fun _ z => nomatch z⟩
    refine ite_t rfl ?_
    exact k1 (by simp [h, lateOk]) _ _
  | some l =>
    refine ⟨⟨_, rfl, ?_⟩, fun _ z => nomatch z⟩
    refine ite_f (fun z => nomatch z) ?_
    dsimp only [lastD]
    rw [gI_of]
    refine ⟨trivial, ?_⟩
    rw [bl_of]
    by_cases h3 : l < (k : Int)
    · exact ite_t (by simpa using h3) (k1 (by simp [h, lateOk, h3]) _ _)
    · exact ite_f (by simpa using h3) (k0 (by simp [lateOk, h3]))

theorem sc__law_between : FnScope ["plan", "post", "moment", "last", "k"] ["plan", "post", "moment", "last"] (defScope s__law_between) := ⟨rfl, rfl, rfl, by decide +kernel, rfl, by decide +kernel, by decide +kernel⟩
def c__law_between : DC := fun ds _ _ Q => ∃ (p : PV) (x : Str) (mo : Int) (la : Option Int), ds = [p.d, .str x, .int mo, lastD la] ∧ p.Ok ∧ PyData.strOk x = true ∧ ∀ f, Q ⟨natsD (betweenN p.riders x mo la), f, none⟩
theorem ok__law_between (T : Txt K mg) : FnD P w K mg base 2 T.f__law_between.f T.f__law_between.fd ["plan", "post", "moment", "last"] 0 c__law_between := by
  refine fn_ok T.f__law_between.ok sc__law_between fun cdv A outer s H E hr => ⟨_, _, (dss_one (ds_ret [] (de_if (dt_cmp dop_notN (de_var (pv 3)) de_non (nomark _)) (DN.de (dn_lc (own := [("k", 4)]) rfl sc__law_between.nd (di_seq (de_call ((ok__law_mine T).mono (by decide)) hr (by rfl) T.f__law_mine.g T.f__law_mine.ok.kp T.f__law_mine.b (passE (takes_of rfl rfl rfl rfl)) rfl (da_cons (de_var (pv 0)) (da_cons (de_var (pv 1)) da_nil)))) (blkOk_by (N := ["plan", "post", "moment", "last", "k"]) (sc := defScope s__law_between) (by decide +kernel)) (fun _ _ _ _ _ => (dg_name (pg_name (i := 4) sc__law_between.nd rfl (Or.inl rfl)))) (fun _ _ _ _ _ => (dts_one (DW.dt (dw_and (dt_cmp dop_gt (de_ix (de_ix (de_ix (de_var (pv 0)) de_int (fun _ _ => rfl)) (de_var (pv 4)) (fun _ _ => rfl)) de_int (fun _ _ => rfl)) (de_var (pv 2)) (nomark _)) (dw_and1 (dt_cmp dop_lt (de_var (pv 4)) (de_var (pv 3)) (nomark _))))))) (fun _ _ _ _ _ => (de_var (pv 4))) (by decide))) (de_lst da_nil)))), by decide +kernel, fun ds vs XQ Q hd hv h => ?_⟩
  obtain ⟨p, x, mo, la, rfl, hp, hx, q⟩ := h
  match vs, hv with
  | [v, v2, v3, v4], _ =>
  try simp only [frz, params, setAll, List.zipWith, List.length_cons, List.length_nil, Nat.reduceAdd, Nat.reduceSub, List.replicate, List.append_nil, List.cons_append, List.nil_append, getV_va, Pt.sl, true_and, List.getElem?_cons_zero, List.getElem?_cons_succ, List.set_cons_zero, List.set_cons_succ, ite_self, Bool.false_eq_true, if_false, if_true]
  have h2 := hp.r2
  have hml := mineAt_len (x := x) (rs := p.riders) (i := 0)
  cases la with
  | none =>
    refine ⟨⟨_, rfl, ?_⟩, fun _ z => nomatch z⟩
    exact ite_f (fun z => nomatch z) ⟨by decide, q _⟩
  | some l =>
    refine ⟨⟨_, rfl, ite_t rfl ?_⟩, fun _ z => nomatch z⟩
    refine gCall_of fun _ => ⟨p, x, rfl, hp, hx, fun f => ?_⟩
    dsimp only
    rw [items_seq (by rfl), List.map_map]
    have e : (fun k : Nat => decide ((k : Int) < l) && decide (mo < tickAt p.riders k)) = fun k : Nat => decide (mo < tickAt p.riders k) && decide ((k : Int) < l) := funext fun k => Bool.and_comm _ _
    refine ⟨by rw [List.length_map]; show _ ≤ 16777216; unfold mineN; omega, lc_filt (g := fun k : Nat => D.int (k : Nat)) (fun k : Nat => decide (mo < tickAt p.riders k) && decide ((k : Int) < l)) (fun k hk K1 K0 k1 k0 => ?_) fun f => (by have := q f; unfold natsD betweenN at this; dsimp only at this; rw [e] at this; exact this)⟩
    try simp only [lcStep, true_and, wipeR, List.map_cons, List.map_nil, List.set_cons_succ, List.set_cons_zero, List.getElem?_cons_succ, List.getElem?_cons_zero, getV_va, if_true]
    dsimp only [Function.comp, lastD]
    obtain ⟨hk1, _⟩ := mem_mine hk
    rw [gIx_of p.seq p.at2, gIx_of (by rfl) (row_at hk1), gIx_of (by rfl) (show atI [D.str p.riders[k].1, .int (tickAt p.riders k), .int (roomAt p.riders k)] 1 = some (.int (tickAt p.riders k)) from rfl), gI_of]
    refine ⟨trivial, ?_⟩
    rw [bl_of]
    by_cases h3 : mo < tickAt p.riders k
    case neg => exact ite_f (by simpa using h3) (k0 (by simp [h3]))
    refine ite_t (by simpa using h3) ?_
    rw [gI_of]
    refine ⟨trivial, ?_⟩
    rw [bl_of]
    by_cases h : (k : Int) < l
    · exact ite_t (by simpa using h) (k1 (by simp [h, h3]) _ _)
    · exact ite_f (by simpa using h) (k0 (by simp [h]))

theorem sc__law_written : FnScope ["plan", "post", "moment", "tick", "letter"] ["plan", "post", "moment", "tick"] (defScope s__law_written) := ⟨rfl, rfl, rfl, by decide +kernel, rfl, by decide +kernel, by decide +kernel⟩
def c__law_written : DC := fun ds _ _ Q => ∃ (p : PV) (x : Str) (mo ti : Int), ds = [p.d, .str x, .int mo, .int ti] ∧ p.Ok ∧ PyData.strOk x = true ∧ Q ⟨.int (writtenN p.letters x mo ti : Nat), true, none⟩
theorem ok__law_written (T : Txt K mg) : FnD P w K mg base 1 T.f__law_written.f T.f__law_written.fd ["plan", "post", "moment", "tick"] 0 c__law_written := by
  refine fn_ok T.f__law_written.ok sc__law_written fun cdv A outer s H E hr => ⟨_, _, (dss_one (ds_ret [] (de_callB dcl_len (by rfl) T.n_len (by decide +kernel) (da_cons (DN.de (dn_lc (own := [("letter", 4)]) rfl sc__law_written.nd (di_seq (de_ix (de_var (pv 0)) de_int (fun _ _ => rfl))) (blkOk_by (N := ["plan", "post", "moment", "tick", "letter"]) (sc := defScope s__law_written) (by decide +kernel)) (fun _ _ _ _ _ => (dg_name (pg_name (i := 4) sc__law_written.nd rfl (Or.inl rfl)))) (fun _ _ _ _ _ => (dts_one (DW.dt (dw_and (dt_cmp (dop_eq hr.units) (de_ix (de_var (pv 4)) de_int (fun _ _ => rfl)) (de_var (pv 1)) (nomark _)) (dw_and1 (dt_chain dop_lt dop_le (de_var (pv 2)) (de_ix (de_var (pv 4)) de_int (fun _ _ => rfl)) (de_var (pv 3)))))))) (fun _ _ _ _ _ => (de_var (pv 4))) (by decide))) da_nil)))), by decide +kernel, fun ds vs XQ Q hd hv h => ?_⟩
  obtain ⟨p, x, mo, ti, rfl, hp, hx, q⟩ := h
  match vs, hv with
  | [v, v2, v3, v4], _ =>
  try simp only [frz, params, setAll, List.zipWith, List.length_cons, List.length_nil, Nat.reduceAdd, Nat.reduceSub, List.replicate, List.append_nil, List.cons_append, List.nil_append, getV_va, Pt.sl, true_and, List.getElem?_cons_zero, List.getElem?_cons_succ, List.set_cons_zero, List.set_cons_succ, ite_self, Bool.false_eq_true, if_false, if_true]
  have h3 := hp.r3
  rw [gIx_of p.seq p.at3, items_seq (by rfl), List.map_map]
  refine ⟨by rw [List.length_map]; show _ ≤ 16777216; omega, lc_filt (g := rowD) (fun l : Row => decide (l.1 = x) && (decide (mo < l.2.1) && decide (l.2.1 ≤ ti))) (fun l hl K1 K0 k1 k0 => ?_) fun f => ?_⟩
  · try simp only [lcStep, true_and, wipeR, List.map_cons, List.map_nil, List.set_cons_succ, List.set_cons_zero, List.getElem?_cons_succ, List.getElem?_cons_zero, getV_va, if_true]
    dsimp only [Function.comp]
    rw [gIx_of (by rfl) (show atI [D.str l.1, .int l.2.1, .int l.2.2] 0 = some (.str l.1) from rfl), gEq_str (hp.nl l hl) hx, bl_of]
    by_cases h : l.1 = x
    case neg => exact ite_f (by simpa using h) (k0 (by simp [h]))
    refine ite_t (by simpa using h) ?_
    rw [gIx_of (by rfl) (show atI [D.str l.1, .int l.2.1, .int l.2.2] 1 = some (.int l.2.1) from rfl)]
    simp only [gChain, gI_of, bl_of, true_and, getV_va, List.getElem?_cons_zero, List.getElem?_cons_succ]
    by_cases h1 : mo < l.2.1
    · refine ite_t (by simpa using h1) ?_
      by_cases h2 : l.2.1 ≤ ti
      · exact ite_t (by simpa using h2) (k1 (by simp [h, h1, h2]) _ _)
      · exact ite_f (by simpa using h2) (k0 (by simp [h2]))
    · exact ite_f (by simpa using h1) (ite_f (by decide) (k0 (by simp [h1])))
  · rw [g1_of, gLen_of (by rfl), List.length_map]
    exact q

theorem sc__law_room : FnScope ["plan", "riders", "many", "rooms", "k"] ["plan", "riders", "many"] (defScope s__law_room) := ⟨rfl, rfl, rfl, by decide +kernel, rfl, by decide +kernel, by decide +kernel⟩
def c__law_room : DC := fun ds _ _ Q => ∃ (p : PV) (ks : List Nat) (m : Int), ds = [p.d, natsD ks, .int m] ∧ p.Ok ∧ ks.length ≤ 1000 ∧ (∀ k ∈ ks, k < p.riders.length) ∧ Q ⟨.int (roomBut p.riders ks m), true, none⟩
theorem ok__law_room (T : Txt K mg) : FnD P w K mg base 1 T.f__law_room.f T.f__law_room.fd ["plan", "riders", "many"] 0 c__law_room := by
  refine fn_ok T.f__law_room.ok sc__law_room fun cdv A outer s H E hr => ⟨_, _, (dss_cons (ds_asg [] (de_callB (dcl_sortedD (hr.mono (by decide))) (by rfl) T.n_sorted (by decide +kernel) (da_cons (DN.de (dn_lc (own := [("k", 4)]) rfl sc__law_room.nd (di_seq (de_var (pv 1))) (blkOk_by (N := ["plan", "riders", "many", "rooms", "k"]) (sc := defScope s__law_room) (by decide +kernel)) (fun _ _ _ _ _ => (dg_name (pg_name (i := 4) sc__law_room.nd rfl (Or.inl rfl)))) (fun _ _ _ _ _ => dts_nil) (fun _ _ _ _ _ => (de_ix (de_ix (de_ix (de_var (pv 0)) de_int (fun _ _ => rfl)) (de_var (pv 4)) (fun _ _ => rfl)) de_int (fun _ _ => rfl))) (by decide))) da_nil)) (dg_name (pg_name (i := 3) sc__law_room.nd rfl (Or.inl rfl))) (fun _ _ a b => ps_asg a b))
      (dss_one (ds_ret [] (de_callB (dcl_sum rfl) (by rfl) T.n_sum (by decide +kernel) (da_cons (de_slice (de_var (pv 3)) do_none (do_some (de_callB (dcl_max2 rfl) (by rfl) T.n_max (by decide +kernel) (da_cons (de_op dop_sub (de_callB dcl_len (by rfl) T.n_len (by decide +kernel) (da_cons (de_var (pv 3)) da_nil)) (de_var (pv 2))) (da_cons de_int da_nil))))) da_nil))))), by decide +kernel, fun ds vs XQ Q hd hv h => ?_⟩
  obtain ⟨p, ks, m, rfl, hp, hl, hk, q⟩ := h
  match vs, hv with
  | [v, v2, v3], _ =>
  try simp only [frz, params, setAll, List.zipWith, List.length_cons, List.length_nil, Nat.reduceAdd, Nat.reduceSub, List.replicate, List.append_nil, List.cons_append, List.nil_append, getV_va, Pt.sl, true_and, List.getElem?_cons_zero, List.getElem?_cons_succ, List.set_cons_zero, List.set_cons_succ, ite_self, Bool.false_eq_true, if_false, if_true]
  rw [items_seq (by rfl), List.map_map]
  refine ⟨by rw [List.length_map]; show _ ≤ 16777216; omega, lc_mapA (g := fun k : Nat => D.int (roomAt p.riders k)) (fun k hk2 K1 K0 k1 => ?_) fun f => ?_⟩
  · try simp only [lcStep, true_and, wipeR, List.map_cons, List.map_nil, List.set_cons_succ, List.set_cons_zero, List.getElem?_cons_succ, List.getElem?_cons_zero, getV_va, if_true]
    dsimp only [Function.comp]
    rw [gIx_of p.seq p.at2, gIx_of (by rfl) (row_at (hk k hk2)), gIx_of (by rfl) (show atI [D.str p.riders[k].1, .int (tickAt p.riders k), .int (roomAt p.riders k)] 2 = some (.int (roomAt p.riders k)) from rfl)]
    exact k1 _ _
  · have er : (ks.map fun k : Nat => D.int (roomAt p.riders k)) = (roomsN p.riders ks).map D.int := by unfold roomsN; rw [List.map_map]; rfl
    rw [er, g1_of]
    refine ⟨_, rfl, canSort_ints fun i hi => ?_, ?_⟩
    · obtain ⟨k, hk2, rfl⟩ := List.mem_map.mp hi
      have := room_small hp (hk k hk2)
      omega
    · rw [srtD_ints]
      try simp only [frz, params, setAll, List.zipWith, List.length_cons, List.length_nil, Nat.reduceAdd, Nat.reduceSub, List.replicate, List.append_nil, List.cons_append, List.nil_append, getV_va, Pt.sl, true_and, List.getElem?_cons_zero, List.getElem?_cons_succ, List.set_cons_zero, List.set_cons_succ, ite_self, Bool.false_eq_true, if_false, if_true]
      rw [g1_of, gLen_of (by rfl), gI_of]
      refine ⟨trivial, ?_⟩
      rw [g2I_int]
      refine ⟨_, rfl, ?_⟩
      rw [gSl_seq (by rfl)]
      dsimp only [D.like]
      rw [cut_map, g1_of]
      refine ⟨_, rfl, ?_⟩
      rw [List.length_map, sortI_len, roomBut_eq]
      exact q

end
end My

set_option Elab.async false
set_option linter.all false
set_option maxRecDepth 100000
set_option maxHeartbeats 4000000
set_option pp.maxSteps 6000
namespace My
open PySem PySem.Spec PyProof.Rows L2 DL
section
variable {P : Program} {w : World} {K : PySem.W.Frag} {mg : Str → Option Value} {base : Heap}
theorem sc__law_more : FnScope ["plan", "many", "post", "size", "cut", "left", "room", "moment", "last", "tick"] ["plan", "many", "post", "size", "cut"] (defScope s__law_more) := ⟨rfl, rfl, rfl, by decide +kernel, rfl, by decide +kernel, by decide +kernel⟩
def c__law_more : DC := fun ds _ _ Q => ∃ (p : PV) (m : Int) (x : Str) (z mo : Int) (la : Option Int) (ti : Int) (d : D), ds = [p.d, .int m, .str x, .int z, d] ∧ d.seq = some [.int mo, lastD la, .int ti] ∧ p.Ok ∧ PyData.strOk x = true ∧ Q ⟨.int (moreN p m x z mo la ti), true, none⟩
theorem ok__law_more (T : Txt K mg) : FnD P w K mg base 3 T.f__law_more.f T.f__law_more.fd ["plan", "many", "post", "size", "cut"] 0 c__law_more := by
  refine fn_ok T.f__law_more.ok sc__law_more fun cdv A outer s H E hr => ⟨_, _, (dss_cons (ds_asg [] (de_var (pv 4)) (dg_tup (n := 3) rfl (dgs_cons (dg_name (pg_name (i := 7) sc__law_more.nd rfl (Or.inl rfl))) (dgs_cons (dg_name (pg_name (i := 8) sc__law_more.nd rfl (Or.inl rfl))) (dgs_cons (dg_name (pg_name (i := 9) sc__law_more.nd rfl (Or.inl rfl))) dgs_nil)))) (fun _ _ a b => ps_asg a b))
      (dss_cons (ds_asg [] (de_op dop_sub (de_var (pv 1)) (de_callB dcl_len (by rfl) T.n_len (by decide +kernel) (da_cons (de_call ((ok__law_away T).mono (by decide)) hr (by rfl) T.f__law_away.g T.f__law_away.ok.kp T.f__law_away.b (passE (takes_of rfl rfl rfl rfl)) rfl (da_cons (de_var (pv 0)) (da_cons (de_var (pv 2)) (da_cons (de_var (pv 8)) (da_cons (de_var (pv 9)) da_nil))))) da_nil))) (dg_name (pg_name (i := 5) sc__law_more.nd rfl (Or.inl rfl))) (fun _ _ a b => ps_asg a b))
      (dss_cons (ds_asg [] (de_call ((ok__law_room T).mono (by decide)) hr (by rfl) T.f__law_room.g T.f__law_room.ok.kp T.f__law_room.b (passE (takes_of rfl rfl rfl rfl)) rfl (da_cons (de_var (pv 0)) (da_cons (de_call ((ok__law_between T).mono (by decide)) hr (by rfl) T.f__law_between.g T.f__law_between.ok.kp T.f__law_between.b (passE (takes_of rfl rfl rfl rfl)) rfl (da_cons (de_var (pv 0)) (da_cons (de_var (pv 2)) (da_cons (de_var (pv 7)) (da_cons (de_var (pv 8)) da_nil))))) (da_cons (de_var (pv 5)) da_nil)))) (dg_name (pg_name (i := 6) sc__law_more.nd rfl (Or.inl rfl))) (fun _ _ a b => ps_asg a b))
      (dss_one (ds_ret [] (de_op dop_sub (de_op dop_add (de_var (pv 3)) (de_var (pv 6))) (de_call ((ok__law_written T).mono (by decide)) hr (by rfl) T.f__law_written.g T.f__law_written.ok.kp T.f__law_written.b (passE (takes_of rfl rfl rfl rfl)) rfl (da_cons (de_var (pv 0)) (da_cons (de_var (pv 2)) (da_cons (de_var (pv 7)) (da_cons (de_var (pv 9)) da_nil))))))))))), by decide +kernel, fun ds vs XQ Q hd hv h => ?_⟩
  obtain ⟨p, m, x, z, mo, la, ti, d, rfl, e, hp, hx, q⟩ := h
  match vs, hv with
  | [v, v2, v3, v4, v5], _ =>
  try simp only [frz, params, setAll, List.zipWith, List.length_cons, List.length_nil, Nat.reduceAdd, Nat.reduceSub, List.replicate, List.append_nil, List.cons_append, List.nil_append, getV_va, Pt.sl, true_and, List.getElem?_cons_zero, List.getElem?_cons_succ, List.set_cons_zero, List.set_cons_succ, ite_self, Bool.false_eq_true, if_false, if_true]
  rw [unp_seq e]
  refine ⟨rfl, ?_⟩
  simp only [List.map_cons, List.map_nil]
  refine ⟨trivial, ?_⟩
  try simp only [frz, params, setAll, List.zipWith, List.length_cons, List.length_nil, Nat.reduceAdd, Nat.reduceSub, List.replicate, List.append_nil, List.cons_append, List.nil_append, getV_va, Pt.sl, true_and, List.getElem?_cons_zero, List.getElem?_cons_succ, List.set_cons_zero, List.set_cons_succ, ite_self, Bool.false_eq_true, if_false, if_true]
  refine gCall_of fun _ => ⟨p, x, la, ti, rfl, hp, hx, fun f => ?_⟩
  dsimp only
  rw [g1_of, gLen_of (by rfl), gI_of]
  refine ⟨trivial, ?_⟩
  try simp only [frz, params, setAll, List.zipWith, List.length_cons, List.length_nil, Nat.reduceAdd, Nat.reduceSub, List.replicate, List.append_nil, List.cons_append, List.nil_append, getV_va, Pt.sl, true_and, List.getElem?_cons_zero, List.getElem?_cons_succ, List.set_cons_zero, List.set_cons_succ, ite_self, Bool.false_eq_true, if_false, if_true]
  refine gCall_of fun _ => ⟨p, x, mo, la, rfl, hp, hx, fun f2 => ?_⟩
  dsimp only
  refine gCall_of fun _ => ⟨p, _, _, rfl, hp, Nat.le_trans betweenN_len hp.r2, fun k hk => betweenN_mem hk, ?_⟩
  dsimp only
  rw [gAdd_int]
  refine gCall_of fun _ => ⟨p, x, mo, ti, rfl, hp, hx, ?_⟩
  dsimp only
  rw [gI_of]
  refine ⟨trivial, ?_⟩
  rw [List.length_map]
  exact q

theorem sc__law_is_shelf_cut : FnScope ["plan", "many", "post", "thing", "moment", "last", "tick"] ["plan", "many", "post", "thing"] (defScope s__law_is_shelf_cut) := ⟨rfl, rfl, rfl, by decide +kernel, rfl, by decide +kernel, by decide +kernel⟩
def c__law_is_shelf_cut : DC := fun ds _ _ Q => ∃ (p : PV) (m : Int) (x : Str) (d : D), ds = [p.d, .int m, .str x, d] ∧ p.Ok ∧ PyData.strOk x = true ∧ d.good = true ∧ Q ⟨.bl (isCut p m x d), true, none⟩
theorem ok__law_is_shelf_cut (T : Txt K mg) : FnD P w K mg base 3 T.f__law_is_shelf_cut.f T.f__law_is_shelf_cut.fd ["plan", "many", "post", "thing"] 0 c__law_is_shelf_cut := by
  refine fn_ok T.f__law_is_shelf_cut.ok sc__law_is_shelf_cut fun cdv A outer s H E hr => ⟨_, _, (dss_cons (ds_if [] (DW.dt (dw_or (dt_not (dt_val (de_isiT (tys_ok2 ty_list ty_tuple) (de_var (pv 3)) (pa_tyCons (T := "list") (by rfl) T.n_list (by decide +kernel) (pa_tyCons (T := "tuple") (by rfl) T.n_tuple (by decide +kernel) pa_tyNil)) (by rfl) T.n_isinstance (by decide +kernel)))) (dw_or1 (dt_cmp (dop_ne hr.units) (de_callB dcl_len (by rfl) T.n_len (by decide +kernel) (da_cons (de_var (pv 3)) da_nil)) de_int (nomark _))))) (dss_one (ds_ret [] de_bl)) dss_nil)
      (dss_cons (ds_asg [] (de_var (pv 3)) (dg_tup (n := 3) rfl (dgs_cons (dg_name (pg_name (i := 4) sc__law_is_shelf_cut.nd rfl (Or.inl rfl))) (dgs_cons (dg_name (pg_name (i := 5) sc__law_is_shelf_cut.nd rfl (Or.inl rfl))) (dgs_cons (dg_name (pg_name (i := 6) sc__law_is_shelf_cut.nd rfl (Or.inl rfl))) dgs_nil)))) (fun _ _ a b => ps_asg a b))
      (dss_cons (ds_if [] (DW.dt (dw_or (dt_not (dt_val (de_call ((ok__law_is_whole T).mono (by decide)) hr (by rfl) T.f__law_is_whole.g T.f__law_is_whole.ok.kp T.f__law_is_whole.b (passE (takes_of rfl rfl rfl rfl)) rfl (da_cons (de_var (pv 6)) da_nil)))) (dw_or (dt_not (dt_val (de_call ((ok__law_is_whole T).mono (by decide)) hr (by rfl) T.f__law_is_whole.g T.f__law_is_whole.ok.kp T.f__law_is_whole.b (passE (takes_of rfl rfl rfl rfl)) rfl (da_cons (de_var (pv 4)) da_nil)))) (dw_or (dt_not (dt_chain dop_le dop_le (de_neg de_int) (de_var (pv 4)) (de_var (pv 6)))) (dw_or1 (dt_cmp dop_lt (de_var (pv 6)) de_int (nomark _))))))) (dss_one (ds_ret [] de_bl)) dss_nil)
      (dss_cons (ds_if [] (dt_cmp dop_isN (de_var (pv 5)) de_non (nomark _)) (dss_one (ds_ret [] (de_and (de_cmp (dop_eq hr.units) (de_var (pv 4)) (de_neg de_int) (nomark _)) (de_one (de_cmp dop_le (de_callB dcl_len (by rfl) T.n_len (by decide +kernel) (da_cons (de_call ((ok__law_away T).mono (by decide)) hr (by rfl) T.f__law_away.g T.f__law_away.ok.kp T.f__law_away.b (passE (takes_of rfl rfl rfl rfl)) rfl (da_cons (de_var (pv 0)) (da_cons (de_var (pv 2)) (da_cons de_non (da_cons (de_var (pv 6)) da_nil))))) da_nil)) (de_var (pv 1)) (nomark _)))))) dss_nil)
      (dss_cons (ds_if [] (DW.dt (dw_or (dt_not (dt_val (de_call ((ok__law_is_whole T).mono (by decide)) hr (by rfl) T.f__law_is_whole.g T.f__law_is_whole.ok.kp T.f__law_is_whole.b (passE (takes_of rfl rfl rfl rfl)) rfl (da_cons (de_var (pv 5)) da_nil)))) (dw_or (dt_cmp dop_notIn (de_var (pv 5)) (de_call ((ok__law_mine T).mono (by decide)) hr (by rfl) T.f__law_mine.g T.f__law_mine.ok.kp T.f__law_mine.b (passE (takes_of rfl rfl rfl rfl)) rfl (da_cons (de_var (pv 0)) (da_cons (de_var (pv 2)) da_nil))) (by rfl)) (dw_or1 (dt_cmp dop_gt (de_ix (de_ix (de_ix (de_var (pv 0)) de_int (fun _ _ => rfl)) (de_var (pv 5)) (fun _ _ => rfl)) de_int (fun _ _ => rfl)) (de_var (pv 6)) (nomark _)))))) (dss_one (ds_ret [] de_bl)) dss_nil)
      (dss_one (ds_ret [] (de_cmp dop_le (de_callB dcl_len (by rfl) T.n_len (by decide +kernel) (da_cons (de_call ((ok__law_away T).mono (by decide)) hr (by rfl) T.f__law_away.g T.f__law_away.ok.kp T.f__law_away.b (passE (takes_of rfl rfl rfl rfl)) rfl (da_cons (de_var (pv 0)) (da_cons (de_var (pv 2)) (da_cons (de_var (pv 5)) (da_cons (de_var (pv 6)) da_nil))))) da_nil)) (de_var (pv 1)) (nomark _))))))))), by decide +kernel, fun ds vs XQ Q hd hv h => ?_⟩
  obtain ⟨p, m, x, d, rfl, hp, hx, hd0, q⟩ := h
  match vs, hv with
  | [v, v2, v3, v4], _ =>
  try simp only [frz, params, setAll, List.zipWith, List.length_cons, List.length_nil, Nat.reduceAdd, Nat.reduceSub, List.replicate, List.append_nil, List.cons_append, List.nil_append, getV_va, Pt.sl, true_and, List.getElem?_cons_zero, List.getElem?_cons_succ, List.set_cons_zero, List.set_cons_succ, ite_self, Bool.false_eq_true, if_false, if_true]
  have no : isCut p m x d = false → Q ⟨.bl false, true, none⟩ := fun e => by rw [e] at q; exact q
  refine ⟨good_ty hd0, ?_⟩
  rw [isa_seq hd0, bl_of]
  cases e : d.seq with
  | none =>
    have := no (by simp [isCut, e])
    simpa using this
  | some xs =>
  obtain ⟨hg, hl⟩ := good_seq hd0 e
  refine ite_f (by simp) ?_
  rw [g1_of, gLen_of e, gEq_int, bl_of]
  by_cases h3 : xs.length = 3
  case neg =>
    refine ite_t (by simp; omega) (no ?_)
    unfold isCut
    rw [e]
    match xs, h3 with
    | [], _ => rfl
    | [a], _ => cases a <;> rfl
    | [a, b], _ => cases a <;> rfl
    | a :: b :: c :: z :: r, _ => cases a <;> first | rfl | (cases c <;> rfl)
  match xs, h3 with
  | [a, b, c], _ =>
  refine ite_f (by simp) ?_
  rw [unp_seq e]
  refine ⟨rfl, ?_⟩
  simp only [List.map_cons, List.map_nil]
  refine ⟨trivial, ?_⟩
  try simp only [frz, params, setAll, List.zipWith, List.length_cons, List.length_nil, Nat.reduceAdd, Nat.reduceSub, List.replicate, List.append_nil, List.cons_append, List.nil_append, getV_va, Pt.sl, true_and, List.getElem?_cons_zero, List.getElem?_cons_succ, List.set_cons_zero, List.set_cons_succ, ite_self, Bool.false_eq_true, if_false, if_true]
  refine gCall1 fun _ => ⟨c, rfl, hg c (by simp), _, rfl, ?_⟩
  cases hc : isWhole c with
  | false =>
    refine ite_t rfl (no ?_)
    unfold isCut
    rw [e]
    cases a <;> first | rfl | (cases c <;> first | rfl | (simp [isWhole] at hc))
  | true =>
  obtain ⟨ti, rfl⟩ := isWhole_int hc
  refine ite_f (by decide) ?_
  refine gCall1 fun _ => ⟨a, rfl, hg a (by simp), _, rfl, ?_⟩
  cases ha : isWhole a with
  | false =>
    refine ite_t rfl (no ?_)
    unfold isCut
    rw [e]
    cases a <;> first | rfl | (simp [isWhole] at ha)
  | true =>
  obtain ⟨mo, rfl⟩ := isWhole_int ha
  refine ite_f (by decide) ?_
  have ec : isCut p m x d = (decide (0 ≤ ti) && (decide (-1 ≤ mo) && (decide (mo ≤ ti) && cutIn p m x mo ti b))) := by
    unfold isCut
    rw [e]
  simp only [gChain, gI_of, bl_of, true_and, getV_va, List.getElem?_cons_zero, List.getElem?_cons_succ]
  by_cases m1 : -1 ≤ mo
  case neg => exact ite_f (by simpa using m1) (ite_t rfl (no (by rw [ec]; simp [m1])))
  refine ite_t (by simpa using m1) ?_
  by_cases m2 : mo ≤ ti
  case neg => exact ite_t (by simp [m2]) (no (by rw [ec]; simp [m2]))
  refine ite_f (by simp [m2]) ?_
  by_cases ti0 : 0 ≤ ti
  case neg => exact ite_t (by simp only [decide_eq_true_eq]; omega) (no (by rw [ec]; simp [ti0]))
  refine ite_f (by simp only [decide_eq_true_eq]; omega) ?_
  have e1 : isCut p m x d = cutIn p m x mo ti b := by rw [ec]; simp [ti0, m1, m2]
  have nats : ((mineN p.riders x).map fun k => D.int (k : Nat)) = ((mineN p.riders x).map fun k => ((k : Nat) : Int)).map D.int := by rw [List.map_map]; rfl
  have step : ∀ (la : Option Int) (n1 n2 : Bool) (u1 u2 : Option V), (decide (((awayN p.riders x la ti).length : Int) ≤ m) = isCut p m x d) → ∀ ρ, gCall c__law_away ρ XQ [⟨p.d, p.d.imm, some v⟩, ⟨.str x, (D.str x).imm, some v3⟩, ⟨lastD la, n1, u1⟩, ⟨.int ti, n2, u2⟩] fun x => g1 gLen [x] fun x => gI (fun x x_4 => True) (fun i j => D.bl (decide (i ≤ j))) x ⟨.int m, (D.int m).imm, some v2⟩ fun r => Q { d := r.d, n := r.n } := by
    intro la n1 n2 u1 u2 h ρ
    refine gCall_of fun _ => ⟨p, x, la, ti, rfl, hp, hx, fun f => ?_⟩
    dsimp only
    rw [g1_of, gLen_of (by rfl), gI_of, List.length_map, h]
    exact ⟨trivial, q⟩
  have gb := hg b (by simp)
  refine ⟨?_, fun u z => by have z : b = .vee u := z; subst z; cases gb⟩
  by_cases hbn : b = .non
  · subst hbn
    refine ite_t rfl ?_
    rw [gEq_int]
    refine ⟨_, rfl, ?_⟩
    by_cases h : mo = -1
    · refine ite_t (by simp [h]) ?_
      exact step none _ _ _ _ (by rw [e1]; simp [cutIn, h]) _
    · exact ite_f (by simp [h]) (no (by rw [e1]; simp [cutIn, h]))
  refine ite_f (fun z => hbn (by cases b <;> first | rfl | exact (Bool.noConfusion z))) ?_
  refine gCall1 fun _ => ⟨b, rfl, gb, _, rfl, ?_⟩
  cases hb : isWhole b with
  | false =>
    refine ite_t rfl (no ?_)
    rw [e1]
    cases b <;> first | rfl | exact absurd rfl hbn | (simp [isWhole] at hb)
  | true =>
  obtain ⟨l, rfl⟩ := isWhole_int hb
  refine ite_f (by decide) ?_
  refine gCall_of fun _ => ⟨p, x, rfl, hp, hx, fun f => ?_⟩
  dsimp only
  rw [nats, gIn_intsL]
  refine ⟨_, rfl, ?_⟩
  by_cases hm : l ∈ (mineN p.riders x).map fun k => ((k : Nat) : Int)
  case neg =>
    have cz : cutIn p m x mo ti (.int l) = false := by
      show (decide (0 ≤ l) && _) = false
      by_cases l0 : 0 ≤ l
      · have hz : ¬ l.toNat ∈ mineN p.riders x := fun z => hm (mem_nats.mpr ⟨l0, z⟩)
        simp [hz]
      · simp [l0]
    refine ite_t ?_ (no (by rw [e1]; exact cz))
    rw [if_pos rfl]
    simp only [Bool.not_eq_true', decide_eq_false_iff_not]
    exact hm
  refine ite_f ?_ ?_
  · rw [if_pos rfl]
    simp only [Bool.not_eq_true', decide_eq_false_iff_not, Decidable.not_not]
    exact hm
  obtain ⟨l0, hm⟩ := mem_nats.mp hm
  obtain ⟨hk, _⟩ := mem_mine hm
  have hr := row_at hk
  rw [Int.toNat_of_nonneg l0] at hr
  rw [gIx_of p.seq p.at2, gIx_of (by rfl) hr, gIx_of (by rfl) (show atI [D.str p.riders[l.toNat].1, .int (tickAt p.riders l.toNat), .int (roomAt p.riders l.toNat)] 1 = some (.int (tickAt p.riders l.toNat)) from rfl), gI_of]
  refine ⟨trivial, _, rfl, ?_⟩
  by_cases ht : tickAt p.riders l.toNat ≤ ti
  case neg => exact ite_t (by simp only [decide_eq_true_eq]; omega) (no (by rw [e1]; simp [cutIn, ht]))
  refine ite_f (by simp only [decide_eq_true_eq]; omega) ?_
  exact step (some l) _ _ _ _ (by rw [e1]; simp [cutIn, l0, hm, ht]) _

end
end My

set_option Elab.async false
set_option linter.all false
set_option maxRecDepth 100000
set_option maxHeartbeats 4000000
set_option pp.maxSteps 6000
namespace My
open PySem PySem.Spec PyProof.Rows L2 DL
section
variable {P : Program} {w : World} {K : PySem.W.Frag} {mg : Str → Option Value} {base : Heap}
/-- the draw, by its stream -/
theorem okS__law_draw (T : Txt K mg) : FnOk P w K mg base (L2.CX P w) 1 T.f__law_draw.f T.f__law_draw.fd ["stream", "many"] spDrawV := by
  refine T.f__law_draw.ok.ok sc__law_draw (fun vs H Q E h => by obtain ⟨_, _, _, _, rfl, _⟩ := h; rfl) (fun cdv A outer s H vs Q E hr h => ?_)
  obtain ⟨a, b, m, t, rfl, hne, hS, ok, hnB, hm0, hm1, q⟩ := h
  refine ⟨_, pss_cons (ps_asg (pe_op op_add (pe_ix ix_list (pv 0) pe_int (fun _ _ => rfl)) pe_int) (pg_sub (pv 0) pe_int set_list))
    (pss_cons (ps_while (passes_of rfl) (PW.pt (pw_and (pt_cmpR op_eq (pe_ix ix_list (pv 0) pe_int (fun _ _ => rfl)) pe_int (nomark _)) (pw_and1 (pt_cmpR (op_neD hr.units) (pe_ix ix_list (pv 0) pe_int (fun _ _ => rfl)) (pe_lst pa_nil) (nomark _)))))
      (pss_cons (ps_set (i := 2) sc__law_draw.nd rfl (Or.inl rfl) (pe_callB call_abs rfl T.n_abs (by decide +kernel) (pa_cons (pe_bm PySem.F.plainAttrs_list PySem.F.slot_list_pop PySem.F.type_list_pop mt_popAt (pe_ix ix_list (pv 0) pe_int (fun _ _ => rfl)) (pa_cons pe_int pa_nil)) pa_nil)))
      (pss_cons (ps_asg (pe_op op_mod (pe_callTy call_int1 rfl T.n_int (by decide +kernel) (pa_cons (pe_op op_add (pe_op op_add (pe_op op_mul (pe_ix ix_list (pv 0) pe_int (fun _ _ => rfl)) pe_int) (pv 2)) pe_int) pa_nil)) pe_int) (pg_sub (pv 0) pe_int set_list))
      (pss_one (ps_asg (pe_ifExp (pt_cmpR op_ge (pv 2) (pe_op op_pow pe_int pe_int) (nomark _)) (pv 2) pe_int) (pg_sub (pv 0) pe_int set_list))))))
    (pss_cons (ps_if (pt_cmpR op_gt (pe_ix ix_list (pv 0) pe_int (fun _ _ => rfl)) pe_int (nomark _))
      (pss_cons (ps_set (i := 3) sc__law_draw.nd rfl (Or.inl rfl) (pe_op op_mod (pe_callTy call_int1 rfl T.n_int (by decide +kernel) (pa_cons (pe_ix ix_list (pv 0) pe_int (fun _ _ => rfl)) pa_nil)) (pv 1)))
      (pss_cons (ps_asg (pe_op op_fdiv (pe_ix ix_list (pv 0) pe_int (fun _ _ => rfl)) (pv 1)) (pg_sub (pv 0) pe_int set_list))
      (pss_one (ps_ret (pv 3))))) pss_nil)
    (pss_cons (ps_set (i := 4) sc__law_draw.nd rfl (Or.inl rfl) (pe_op op_mod (pe_callTy call_int1 rfl T.n_int (by decide +kernel) (pa_cons (pe_op op_powW (pe_op op_add (pe_op op_add (pe_ix ix_list (pv 0) pe_int (fun _ _ => rfl)) (pe_op op_mul pe_int (pe_ix ix_list (pv 0) pe_int (fun _ _ => rfl)))) pe_int) pe_int) pa_nil)) pe_int))
    (pss_one (ps_ret (pe_op op_mod (pe_op op_mod (pe_callTy call_int1 rfl T.n_int (by decide +kernel) (pa_cons (pe_op op_powW (pe_op op_add (pe_op op_add (pe_op op_mul (pv 4) pe_int) (pe_op op_mul pe_int (pe_ix ix_list (pv 0) pe_int (fun _ _ => rfl)))) pe_int) pe_int) pa_nil)) pe_int) (pv 1))))))), ?_⟩
  exact drawV_reads hne hS ok hnB hm0 hm1 q
theorem okS__law_pick (T : Txt K mg) : FnOk P w K mg base (L2.CX P w) 2 T.f__law_pick.f T.f__law_pick.fd ["stream", "things"] spPickV := by
  refine T.f__law_pick.ok.ok sc__law_pick (fun vs H Q E h => by obtain ⟨_, _, _, _, rfl, _⟩ := h; rfl) (fun cdv A outer s H vs Q E hr h => ?_)
  obtain ⟨a, b, z, t, rfl, hne, hS, ok, hnB, hm0, hm1, q⟩ := h
  refine ⟨_, pss_one (ps_ret (pe_ix ix_str (pv 1) (pe_call ((okS__law_draw T).mono (by decide)) hr (by rfl) T.f__law_draw.g T.f__law_draw.ok.kp T.f__law_draw.b .nil (passE (takes_of rfl rfl rfl rfl)) (pa_cons (pv 0) (pa_cons (pe_callB call_len (by rfl) T.n_len (by decide +kernel) (pa_cons (pv 1) pa_nil)) pa_nil))) (fun _ _ => rfl))), ?_⟩
  have hz : z.length ≤ sizeLine := le_line (by unfold BIG; clear hnB; omega)
  have hm0' : (0 : Int) < z.length := Int.ofNat_lt.mpr hm0
  have hm1' : (z.length : Int) < 1073741824 := by clear hnB; omega
  refine ⟨_, rfl, _, rfl, _, rfl, _, z.length, rfl, ⟨hz, rfl⟩, a, b, _, t, rfl, hne, hS, ok, hnB, hm0', hm1', fun H' hS' ok' off h0 h1 => ?_⟩
  have hl : (digS z.length t).toNat < z.cps.toList.length := by rw [← len_cps]; clear hnB; omega
  refine ⟨_, _, z.cps.toList[(digS z.length t).toNat], rfl, rfl, hz, ?_, q H' _ hS' ok' off h0 h1 ?_⟩ <;>
  · unfold atI ixN
    rw [if_pos h0, if_pos (by rw [← len_cps]; exact h1)]
    exact List.getElem?_eq_getElem hl
theorem abc_eq : abc = "abcdefghijklmnopqrstuvwxyz" := rfl
def cS__law_pick : DC := fun ds _ _ Q => ∃ z : Str, ds = [.strm, .str z] ∧ 0 < z.length ∧ z.length ≤ 1000 ∧ ∀ c ∈ z.cps.toList, Q ⟨.str ⟨#[c]⟩, true, none⟩
theorem okD__law_pick (T : Txt K mg) : FnD P w K mg base 2 T.f__law_pick.f T.f__law_pick.fd ["stream", "things"] 1 cS__law_pick := by
  refine fn_ok T.f__law_pick.ok sc__law_pick fun cdv A outer s H E hr => ⟨_, _, (dss_one (ds_ret [] (de_ix (de_var (pv 1)) (de_call ((ok__law_draw T).mono (by decide)) hr (by rfl) T.f__law_draw.g T.f__law_draw.ok.kp T.f__law_draw.b (passE (takes_of rfl rfl rfl rfl)) rfl (da_cons (de_var (pv 0)) (da_cons (de_callB dcl_len (by rfl) T.n_len (by decide +kernel) (da_cons (de_var (pv 1)) da_nil)) da_nil))) (fun _ _ => rfl)))), by decide +kernel, fun ds vs XQ Q hd hv h => ?_⟩
  obtain ⟨z, rfl, hz, hl, q⟩ := h
  match vs, hv with
  | [v, v2], _ =>
  try simp only [frz, params, setAll, List.zipWith, List.length_cons, List.length_nil, Nat.reduceAdd, Nat.reduceSub, List.replicate, List.append_nil, List.cons_append, List.nil_append, getV_va, Pt.sl, true_and, List.getElem?_cons_zero, List.getElem?_cons_succ, List.set_cons_zero, List.set_cons_succ, ite_self, Bool.false_eq_true, if_false, if_true]
  refine ⟨by show _ ≤ 16777216; omega, ?_⟩
  refine gCall_of fun _ => ⟨_, rfl, by omega, by omega, fun k h0 h1 => ?_⟩
  have hn : k.toNat < z.cps.toList.length := by rw [← len_cps]; omega
  refine ⟨by show _ ≤ 16777216; omega, z.cps.toList[k.toNat], ?_, q _ (List.getElem_mem hn)⟩
  unfold atI ixN
  rw [if_pos h0, if_pos (by rw [← len_cps]; exact h1)]
  exact List.getElem?_eq_getElem hn

theorem sc__law_names : FnScope ["stream", "many", "k", "found", "signs", "name", "one"] ["stream", "many"] (defScope s__law_names) := ⟨rfl, rfl, rfl, by decide +kernel, rfl, by decide +kernel, by decide +kernel⟩
def c__law_names : DC := fun ds _ _ Q => ∃ m : Int, ds = [.strm, .int m] ∧ 0 ≤ m ∧ m ≤ 9 ∧ ∀ names : List Str, (names.length : Int) = m → names.Nodup → (∀ x ∈ names, NmOk x) → ∀ f, Q ⟨.lst (names.map .str), f, none⟩
theorem ok__law_names (T : Txt K mg) : FnD P w K mg base 3 T.f__law_names.f T.f__law_names.fd ["stream", "many"] (BIG * (MAXT + 2 * BIG)) c__law_names := by
  refine fn_ok T.f__law_names.ok sc__law_names fun cdv A outer s H E hr => ⟨_, _, (dss_cons (ds_parT (is := [3, 4]) [] (dps_cons (dp_ow (dn_lst da_nil)) (dps_cons (dp_va de_str) dps_nil)) rfl (NmsOk.cons (pg_name (i := 3) sc__law_names.nd rfl (Or.inl rfl)) (NmsOk.cons (pg_name (i := 4) sc__law_names.nd rfl (Or.inr rfl)) NmsOk.nil (by rfl)) (by rfl)) (by rfl) (by rfl) (by rfl) (fun _ _ a b => ps_asg a b))
      (dss_cons (ds_for [] (passes_of rfl) rfl (di_range1 (by rfl) T.n_range (da_cons (de_var (pv 1)) da_nil)) (dg_name (pg_name (i := 2) sc__law_names.nd rfl (Or.inl rfl)))
      (dss_cons (ds_asg [] (de_join de_str (DN.de (dn_lc (own := [("one", 6)]) rfl sc__law_names.nd (di_range1 (by rfl) T.n_range (da_cons (de_op dop_add de_int (de_call ((ok__law_draw T).mono (by decide)) hr (by rfl) T.f__law_draw.g T.f__law_draw.ok.kp T.f__law_draw.b (passE (takes_of rfl rfl rfl rfl)) rfl (da_cons (de_var (pv 0)) (da_cons (de_call ((ok__law_pick T).mono (by decide)) hr (by rfl) T.f__law_pick.g T.f__law_pick.ok.kp T.f__law_pick.b (passE (takes_of rfl rfl rfl rfl)) rfl (da_cons (de_var (pv 0)) (da_cons (de_lst (da_cons de_int (da_cons de_int (da_cons de_int da_nil)))) da_nil))) da_nil)))) da_nil)) (blkOk_by (N := ["stream", "many", "k", "found", "signs", "name", "one"]) (sc := defScope s__law_names) (by decide +kernel)) (fun _ _ _ _ _ => (dg_name (pg_name (i := 6) sc__law_names.nd rfl (Or.inl rfl)))) (fun _ _ _ _ _ => dts_nil) (fun _ _ _ _ _ => (de_call ((okD__law_pick T).mono (by decide)) hr (by rfl) T.f__law_pick.g T.f__law_pick.ok.kp T.f__law_pick.b passL rfl (da_cons (de_var (pv 0)) (da_cons (de_var (pv 4)) da_nil)))) (by decide)))) (dg_name (pg_name (i := 5) sc__law_names.nd rfl (Or.inl rfl))) (fun _ _ a b => ps_asg a b))
      (dss_cons (ds_names (i := 0) (j := 4) (k := 5) (g := 3) (passes_of rfl) (pt_cmpR op_in_seq (pv 5) (pv 3) (by rfl)) (ps_asg (pe_slice sl_str (pe_op op_add_str (pv 5) (pe_call ((okS__law_pick T).mono (by decide)) hr (by rfl) T.f__law_pick.g T.f__law_pick.ok.kp T.f__law_pick.b .nil (passE (takes_of rfl rfl rfl rfl)) (pa_cons (pv 0) (pa_cons (pv 4) pa_nil)))) (po_some (pe_un un_neg pe_int)) po_none) (pg_name (i := 5) sc__law_names.nd rfl (Or.inl rfl))))
      (dss_one (ds_append [] (de_var (pv 5)) (fun _ a => ps_expr (pe_bm PySem.F.plainAttrs_list PySem.F.slot_list_append PySem.F.type_list_append mt_append (pv 3) (pa_cons a pa_nil))))))))
      (dss_one (ds_ret [3] (de_var (pv 3)))))), by decide +kernel, fun ds vs XQ Q hd hv h => ?_⟩
  obtain ⟨m, rfl, h0, h9, q⟩ := h
  match vs, hv with
  | [v, v2], _ =>
  try simp only [frz, params, setAll, List.zipWith, List.length_cons, List.length_nil, Nat.reduceAdd, Nat.reduceSub, List.replicate, List.append_nil, List.cons_append, List.nil_append, getV_va, Pt.sl, true_and, List.getElem?_cons_zero, List.getElem?_cons_succ, List.set_cons_zero, List.set_cons_succ, ite_self, Bool.false_eq_true, if_false, if_true]
  have n0 : (0 : Int) < 2 ^ 62 := by decide
  refine ⟨by decide, by decide, by omega, by omega, .inr (by rw [rgD_len]; unfold BIG; omega), ?_⟩
  refine for_idx (fun i ρ => ∃ f s1 s2 s3, ∃ names : List Str, ρ = [Sl.va ⟨.strm, D.strm.imm, some v⟩, .va ⟨.int m, (D.int m).imm, some v2⟩, s1, .ow (.lst (names.map .str)) f, .va ⟨.str abc, true, some (.str abc)⟩, s2, s3] ∧ names.length = i ∧ names.Nodup ∧ ∀ x ∈ names, NmOk x) _ 0 _ ⟨_, _, _, _, [], rfl, rfl, by simp, fun x h => (nomatch h)⟩ (fun i x hx ρ hI K kk => ?_) fun ρ hI => ?_
  · obtain ⟨f, s1, s2, s3, names, rfl, hl, hnd, hok⟩ := hI
    obtain ⟨hi, rfl⟩ := rgD_get hx
    rw [Nat.zero_add] at hl kk
    try simp only [frz, params, setAll, List.zipWith, List.length_cons, List.length_nil, Nat.reduceAdd, Nat.reduceSub, List.replicate, List.append_nil, List.cons_append, List.nil_append, getV_va, Pt.sl, true_and, List.getElem?_cons_zero, List.getElem?_cons_succ, List.set_cons_zero, List.set_cons_succ, ite_self, Bool.false_eq_true, if_false, if_true]
    refine ⟨_, rfl, by decide, ?_⟩
    refine gCall_of fun _ => ⟨_, _, rfl, rfl, by simp, by simp, fun y hy n => ?_⟩
    have hz : ∃ z : Int, y = .int z ∧ 0 < z ∧ z ≤ 3 := by
      simp only [List.map_cons, List.map_nil, List.mem_cons, List.not_mem_nil, or_false] at hy
      rcases hy with rfl | rfl | rfl
      · exact ⟨1, rfl, by decide, by decide⟩
      · exact ⟨1, rfl, by decide, by decide⟩
      · exact ⟨3, rfl, by decide, by decide⟩
    obtain ⟨z, rfl, z0, z3⟩ := hz
    dsimp only
    refine gCall_of fun _ => ⟨_, rfl, z0, by omega, fun k k0 k1 => ?_⟩
    dsimp only
    rw [gAdd_int]
    refine ⟨by omega, by omega, by rw [rgD_len]; unfold BIG; omega, ?_⟩
    refine lc_rel0 (fun _ d => ∃ z, d = D.str z ∧ Sign z) (fun y hy K1 K0 k1 => ?_) fun ys n2 hp => ?_
    · try simp only [lcStep, true_and, wipeR, List.map_cons, List.map_nil, List.set_cons_succ, List.set_cons_zero, List.getElem?_cons_succ, List.getElem?_cons_zero, getV_va, if_true]
      refine gCall_of fun _ => ⟨abc, rfl, by rw [abc_len]; decide, by rw [abc_len]; decide, fun c hc => ?_⟩
      exact k1 _ _ _ ⟨_, rfl, c, rfl, abc_mem c hc⟩
    obtain ⟨zs, rfl, hzl, hzs⟩ := signs_of hp
    rw [rgD_len] at hzl
    have hnm : NmOk (Txt.join "" zs) := joined_nm hzs (by omega) (by omega)
    refine ⟨zs, rfl, ?_, ?_⟩
    · rw [signs_sum hzs]
      show zs.length + zs.length * 0 ≤ 16777216
      omega
    refine ⟨names, f, _, _, _, _, rfl, rfl, rfl, rfl, rfl, rfl, rfl, by omega, by decide, by decide, by decide, hnm, fun nm' hn1 hn2 => ?_⟩
    try simp only [frz, params, setAll, List.zipWith, List.length_cons, List.length_nil, Nat.reduceAdd, Nat.reduceSub, List.replicate, List.append_nil, List.cons_append, List.nil_append, getV_va, Pt.sl, true_and, List.getElem?_cons_zero, List.getElem?_cons_succ, List.set_cons_zero, List.set_cons_succ, ite_self, Bool.false_eq_true, if_false, if_true]
    refine ⟨⟨_, _, rfl⟩, ?_⟩
    refine ⟨_, _, rfl, by rw [List.length_map]; unfold BIG; omega, kk _ ⟨_, _, _, _, names ++ [nm'], (by rw [List.map_append]; exact rfl), by rw [List.length_append, hl]; rfl, ?_, fun x hx => ?_⟩⟩
    · rw [List.nodup_append]
      exact ⟨hnd, by simp, fun a ha b hb e => hn2 (by rw [List.mem_singleton] at hb; rw [← hb, ← e]; exact ha)⟩
    · rcases List.mem_append.mp hx with hx | hx
      · exact hok x hx
      · rw [List.mem_singleton] at hx; rw [hx]; exact hn1
  · obtain ⟨f, s1, s2, s3, names, rfl, hl, hnd, hok⟩ := hI
    rw [rgD_len, Nat.zero_add] at hl
    try simp only [frz, params, setAll, List.zipWith, List.length_cons, List.length_nil, Nat.reduceAdd, Nat.reduceSub, List.replicate, List.append_nil, List.cons_append, List.nil_append, getV_va, Pt.sl, true_and, List.getElem?_cons_zero, List.getElem?_cons_succ, List.set_cons_zero, List.set_cons_succ, ite_self, Bool.false_eq_true, if_false, if_true]
    exact q names (by omega) hnd hok f

end
end My

set_option Elab.async false
set_option linter.all false
set_option maxRecDepth 100000
set_option maxHeartbeats 4000000
set_option pp.maxSteps 6000
namespace My
open PySem PySem.Spec PyProof.Rows L2 DL
theorem gDraw {ρ : Ro} {XQ : XQT} {Q : Dv → Prop} {m : Int} {n n2 : Bool} {v v2 : Option V} (h0 : 0 < m) (h1 : m < 1073741824) (h : ∀ k : Int, 0 ≤ k → k < m → Q ⟨.int k, true, none⟩) : gCall cDraw ρ XQ [⟨.strm, n, v⟩, ⟨.int m, n2, v2⟩] Q :=
  gCall_of fun _ => ⟨m, rfl, h0, h1, h⟩
theorem gPickI (zs : List Int) {ρ : Ro} {XQ : XQT} {Q : Dv → Prop} {n n2 : Bool} {v v2 : Option V} (h0 : zs ≠ []) (h1 : zs.length ≤ 1000) (h : ∀ z ∈ zs, ∀ f, Q ⟨.int z, f, none⟩) : gCall c__law_pick ρ XQ [⟨.strm, n, v⟩, ⟨.lst (zs.map D.int), n2, v2⟩] Q :=
  gCall_of fun _ => ⟨_, _, rfl, rfl, by simpa using h0, by rw [List.length_map]; omega, fun x hx f => by
    obtain ⟨z, hz, rfl⟩ := List.mem_map.mp hx
    exact h z hz f⟩
theorem gPickS (zs : List Str) {ρ : Ro} {XQ : XQT} {Q : Dv → Prop} {n n2 : Bool} {v v2 : Option V} (h0 : zs ≠ []) (h1 : zs.length ≤ 1000) (h : ∀ z ∈ zs, ∀ f, Q ⟨.str z, f, none⟩) : gCall c__law_pick ρ XQ [⟨.strm, n, v⟩, ⟨.lst (zs.map D.str), n2, v2⟩] Q :=
  gCall_of fun _ => ⟨_, _, rfl, rfl, by simpa using h0, by rw [List.length_map]; omega, fun x hx f => by
    obtain ⟨z, hz, rfl⟩ := List.mem_map.mp hx
    exact h z hz f⟩
theorem atI_nat' {α : Type} {xs : List α} {i : Nat} {x : α} (h : xs[i]? = some x) : atI xs (i : Int) = some x := by
  have hl := (List.getElem?_eq_some_iff.mp h).1
  unfold atI ixN
  rw [if_pos (by omega), if_pos (by omega)]
  exact h
theorem atI_map' {α β : Type} (f : α → β) {xs : List α} {i : Int} : atI (xs.map f) i = (atI xs i).map f := by
  unfold atI
  rw [List.length_map]
  cases ixN xs.length i with
  | none => rfl
  | some j => exact List.getElem?_map
theorem cutL_hi {α : Type} {xs : List α} {k : Nat} : cutL xs none (some (k : Int)) = xs.take k := by
  unfold cutL
  simp only [HT.sIx]
  rw [if_neg (by omega), Int.toNat_natCast, Nat.sub_zero, List.drop_zero]
  by_cases h : k ≤ xs.length
  · rw [Nat.min_eq_left h]
  · rw [Nat.min_eq_right (by omega), List.take_of_length_le (Nat.le_refl _), List.take_of_length_le (by omega)]
theorem cutL_lo {α : Type} {xs : List α} {k : Nat} : cutL xs (some (k : Int)) none = xs.drop k := by
  unfold cutL
  simp only [HT.sIx]
  rw [if_neg (by omega), Int.toNat_natCast]
  by_cases h : k ≤ xs.length
  · rw [Nat.min_eq_left h]
    exact List.take_of_length_le (by rw [List.length_drop]; exact Nat.le_refl _)
  · rw [Nat.min_eq_right (by omega), List.drop_of_length_le (Nat.le_refl _), List.drop_of_length_le (by omega)]
    exact List.take_nil
theorem gIxL {α : Type} (g : α → D) {xs : List α} {j : Nat} {n n2 : Bool} {v v2 : Option V} {x : α} {Q : Dv → Prop} (h : xs[j]? = some x) (q : ∀ f, Q ⟨g x, f, none⟩) : gIx ⟨.lst (xs.map g), n, v⟩ ⟨.int (j : Nat), n2, v2⟩ Q :=
  ⟨_, by rw [atI_map', atI_nat' h]; rfl, q _⟩
theorem gSlL {α : Type} (g : α → D) {xs : List α} {lo hi : Option Int} {n : Bool} {v : Option V} {Q : Dv → Prop} (q : ∀ f, Q ⟨.lst ((cutL xs lo hi).map g), f, none⟩) : gSl ⟨.lst (xs.map g), n, v⟩ lo hi Q := by
  show Q ⟨.lst (cutL (xs.map g) lo hi), _, none⟩
  rw [cut_map]
  exact q _
theorem mem_take_last {α : Type} {xs : List α} {i : Nat} (h : i < xs.length) : xs[i] ∈ xs.take (i + 1) := by
  rw [List.mem_take_iff_getElem]
  exact ⟨i, by omega, rfl⟩
abbrev Road : Type := Str × Str × Int
/-- roads told in an order that grows from what is known -/
def RoadsOk : List Str → List Road → Prop
  | _, [] => True
  | known, r :: rs => NmOk r.1 ∧ r.1 ∉ known ∧ r.2.1 ∈ known ∧ 1 ≤ r.2.2 ∧ r.2.2 ≤ 9 ∧ RoadsOk (known ++ [r.1]) rs
structure TreeOk (office : Str) (roads : List Road) : Prop where
  o : NmOk office
  r : RoadsOk [office] roads
  ne : roads ≠ []
  l : roads.length ≤ 8
theorem RoadsOk.snoc {r : Road} : ∀ {known : List Str} {rs : List Road}, RoadsOk known rs → NmOk r.1 → r.1 ∉ known → (∀ x ∈ rs, x.1 ≠ r.1) → (r.2.1 ∈ known ∨ ∃ x ∈ rs, x.1 = r.2.1) → 1 ≤ r.2.2 → r.2.2 ≤ 9 → RoadsOk known (rs ++ [r])
  | known, [], _, h1, h2, _, h4, h5, h6 => ⟨h1, h2, h4.elim id fun ⟨x, h, _⟩ => (nomatch h), h5, h6, trivial⟩
  | known, x :: rs, ⟨g1, g2, g3, g4, g5, g6⟩, h1, h2, h3, h4, h5, h6 => by
    refine ⟨g1, g2, g3, g4, g5, g6.snoc h1 (fun h => ?_) (fun y hy => h3 y (List.mem_cons_of_mem _ hy)) ?_ h5 h6⟩
    · rcases List.mem_append.mp h with h | h
      · exact h2 h
      · rw [List.mem_singleton] at h
        exact h3 x List.mem_cons_self h.symm
    · rcases h4 with h4 | ⟨y, hy, e⟩
      · exact .inl (List.mem_append_left _ h4)
      · rcases List.mem_cons.mp hy with rfl | hy
        · exact .inl (List.mem_append_right _ (by rw [e]; simp))
        · exact .inr ⟨y, hy, e⟩
section
variable {P : Program} {w : World} {K : PySem.W.Frag} {mg : Str → Option Value} {base : Heap}
theorem sc__law_tree : FnScope ["stream", "posts", "names", "roads", "way", "at", "post", "other"] ["stream", "posts"] (defScope s__law_tree) := ⟨rfl, rfl, rfl, by decide +kernel, rfl, by decide +kernel, by decide +kernel⟩
def c__law_tree : DC := fun ds _ _ Q => ∃ m : Int, ds = [.strm, .int m] ∧ 1 ≤ m ∧ m ≤ 7 ∧ ∀ office roads, TreeOk office roads → ∀ f, Q ⟨.tup [.str office, .lst (roads.map roadD)], f, none⟩
theorem ok__law_tree (T : Txt K mg) : FnD P w K mg base 4 T.f__law_tree.f T.f__law_tree.fd ["stream", "posts"] (BIG * (MAXT + 4 * BIG)) c__law_tree := by
  refine fn_ok T.f__law_tree.ok sc__law_tree fun cdv A outer s H E hr => ⟨_, _, (dss_cons (ds_asg [] (de_call ((ok__law_names T).mono (by decide)) hr (by rfl) T.f__law_names.g T.f__law_names.ok.kp T.f__law_names.b (passE (takes_of rfl rfl rfl rfl)) rfl (da_cons (de_var (pv 0)) (da_cons (de_op dop_add de_int (de_call ((ok__law_draw T).mono (by decide)) hr (by rfl) T.f__law_draw.g T.f__law_draw.ok.kp T.f__law_draw.b (passE (takes_of rfl rfl rfl rfl)) rfl (da_cons (de_var (pv 0)) (da_cons (de_var (pv 1)) da_nil)))) da_nil))) (dg_name (pg_name (i := 2) sc__law_tree.nd rfl (Or.inl rfl))) (fun _ _ a b => ps_asg a b))
      (dss_cons (ds_par2 (i := 3) (j := 4) [] (dp_ow (dn_lst da_nil)) (dp_va (de_call ((ok__law_draw T).mono (by decide)) hr (by rfl) T.f__law_draw.g T.f__law_draw.ok.kp T.f__law_draw.b (passE (takes_of rfl rfl rfl rfl)) rfl (da_cons (de_var (pv 0)) (da_cons de_int da_nil)))) rfl sc__law_tree.nd rfl rfl (by decide) (by rfl) (by rfl) (by rfl))
      (dss_cons (ds_for [] (passes_of rfl) rfl (di_enum (by rfl) T.n_enumerate (da_cons (de_slice (de_var (pv 2)) (do_some de_int) do_none) da_nil)) (dg_tup (n := 2) rfl (dgs_cons (dg_name (pg_name (i := 5) sc__law_tree.nd rfl (Or.inl rfl))) (dgs_cons (dg_name (pg_name (i := 6) sc__law_tree.nd rfl (Or.inl rfl))) dgs_nil)))
      (dss_cons (ds_asg [] (de_imp (g := fun ρ XQ Q => ∃ (names : List Str) (i : Nat) (way : Int) (f : Bool) (n0 n4 n5 : Bool) (v0 v2 v4 v5 : Option V), ρ[0]? = some (.va ⟨.strm, n0, v0⟩) ∧ ρ[2]? = some (.va ⟨.lst (names.map .str), f, v2⟩) ∧ ρ[4]? = some (.va ⟨.int way, n4, v4⟩) ∧ ρ[5]? = some (.va ⟨.int (i : Nat), n5, v5⟩) ∧ i < names.length ∧ names.length ≤ 1000 ∧ ∀ o ∈ names.take (i + 1), ∀ f, Q ⟨.str o, f, none⟩) (de_if (dt_cmp (dop_eq hr.units) (de_var (pv 4)) de_int (nomark _)) (de_ix (de_var (pv 2)) (de_var (pv 5)) (fun _ _ => rfl)) (de_if (dt_cmp (dop_eq hr.units) (de_var (pv 4)) de_int (nomark _)) (de_ix (de_var (pv 2)) de_int (fun _ _ => rfl)) (de_call ((ok__law_pick T).mono (by decide)) hr (by rfl) T.f__law_pick.g T.f__law_pick.ok.kp T.f__law_pick.b (passE (takes_of rfl rfl rfl rfl)) rfl (da_cons (de_var (pv 0)) (da_cons (de_slice (de_var (pv 2)) do_none (do_some (de_op dop_add (de_var (pv 5)) de_int))) da_nil))))) (fun ρ XQ Q h => by
    obtain ⟨names, i, way, f, n0, n4, n5, v0, v2, v4, v5, h0, h2, h4, h5, hi, hl, q⟩ := h
    simp only [h0, h2, h4, h5, getV_va]
    rw [gEq_int, bl_of]
    by_cases hw : way = 0
    · refine ite_t (by simpa using hw) ?_
      exact gIxL D.str (List.getElem?_eq_getElem hi) fun f => q _ (mem_take_last hi) f
    · refine ite_f (by simpa using hw) ?_
      rw [gEq_int, bl_of]
      by_cases hw2 : way = 1
      · refine ite_t (by simpa using hw2) ?_
        have h0' : 0 < names.length := by omega
        exact gIxL D.str (j := 0) (List.getElem?_eq_getElem h0') fun f => q _ (List.mem_take_iff_getElem.mpr ⟨0, by omega, rfl⟩) f
      · refine ite_f (by simpa using hw2) ?_
        rw [gAdd_int]
        refine ⟨_, rfl, gSlL D.str fun f2 => ⟨rfl, ?_⟩⟩
        have e : (i : Int) + 1 = ((i + 1 : Nat) : Int) := by omega
        rw [e, cutL_hi]
        refine gPickS _ (fun z => ?_) (by rw [List.length_take]; omega) q
        have := congrArg List.length z
        rw [List.length_take, List.length_nil] at this
        omega)) (dg_name (pg_name (i := 7) sc__law_tree.nd rfl (Or.inl rfl))) (fun _ _ a b => ps_asg a b))
      (dss_one (ds_append [] (de_tup (da_cons (de_var (pv 6)) (da_cons (de_var (pv 7)) (da_cons (de_op dop_add de_int (de_call ((ok__law_draw T).mono (by decide)) hr (by rfl) T.f__law_draw.g T.f__law_draw.ok.kp T.f__law_draw.b (passE (takes_of rfl rfl rfl rfl)) rfl (da_cons (de_var (pv 0)) (da_cons (de_call ((ok__law_pick T).mono (by decide)) hr (by rfl) T.f__law_pick.g T.f__law_pick.ok.kp T.f__law_pick.b (passE (takes_of rfl rfl rfl rfl)) rfl (da_cons (de_var (pv 0)) (da_cons (de_lst (da_cons de_int (da_cons de_int (da_cons de_int da_nil)))) da_nil))) da_nil)))) da_nil)))) (fun _ a => ps_expr (pe_bm PySem.F.plainAttrs_list PySem.F.slot_list_append PySem.F.type_list_append mt_append (pv 3) (pa_cons a pa_nil)))))))
      (dss_one (ds_ret [3] (de_tup (da_cons (de_ix (de_var (pv 2)) de_int (fun _ _ => rfl)) (da_cons (de_var (pv 3)) da_nil)))))))), by decide +kernel, fun ds vs XQ Q hd hv h => ?_⟩
  obtain ⟨m, rfl, h0, h9, q⟩ := h
  match vs, hv with
  | [v, v2], _ =>
  try simp only [frz, params, setAll, List.zipWith, List.length_cons, List.length_nil, Nat.reduceAdd, Nat.reduceSub, List.replicate, List.append_nil, List.cons_append, List.nil_append, getV_va, Pt.sl, true_and, List.getElem?_cons_zero, List.getElem?_cons_succ, List.set_cons_zero, List.set_cons_succ, ite_self, Bool.false_eq_true, if_false, if_true]
  refine gDraw (by omega) (by omega) fun k k0 k1 => ?_
  rw [gAdd_int]
  refine gCall_of fun _ => ⟨_, rfl, by omega, by omega, fun names hl hnd hok f => ?_⟩
  try simp only [frz, params, setAll, List.zipWith, List.length_cons, List.length_nil, Nat.reduceAdd, Nat.reduceSub, List.replicate, List.append_nil, List.cons_append, List.nil_append, getV_va, Pt.sl, true_and, List.getElem?_cons_zero, List.getElem?_cons_succ, List.set_cons_zero, List.set_cons_succ, ite_self, Bool.false_eq_true, if_false, if_true]
  obtain ⟨n0, tl, rfl⟩ : ∃ n0 tl, names = n0 :: tl := by
    cases names with
    | nil => simp only [List.length_nil] at hl; omega
    | cons a b => exact ⟨a, b, rfl⟩
  rw [List.length_cons] at hl
  have hnd2 := List.nodup_cons.mp hnd
  refine ⟨by decide, gDraw (by decide) (by decide) fun way w0 w1 => ?_⟩
  refine ⟨1, rfl, gSlL D.str fun f2 => ?_⟩
  dsimp only
  rw [show cutL (n0 :: tl) (some 1) none = tl from (cutL_lo (k := 1)).trans rfl]
  refine ⟨.inr (by rw [enumD_len, List.length_map]; unfold BIG; omega), ?_⟩
  refine for_idx (fun i ρ => ∃ f f3 s5 s6 s7, ∃ rs : List Road, ρ = [Sl.va ⟨.strm, D.strm.imm, some v⟩, .va ⟨.int m, (D.int m).imm, some v2⟩, .va ⟨.lst ((n0 :: tl).map .str), f, none⟩, .ow (.lst (rs.map roadD)) f3, .va ⟨.int way, true, none⟩, s5, s6, s7] ∧ rs.length = i ∧ rs.map (·.1) = tl.take i ∧ RoadsOk [n0] rs) _ 0 _ ⟨_, _, _, _, _, [], rfl, rfl, rfl, trivial⟩ (fun i x hx ρ hI K kk => ?_) fun ρ hI => ?_
  · obtain ⟨f, f3, s5, s6, s7, rs, rfl, hl2, hm2, hr2⟩ := hI
    obtain ⟨d, hd2, rfl⟩ := enumD_get hx
    rw [List.getElem?_map] at hd2
    cases e : tl[i]? with
    | none => rw [e] at hd2; cases hd2
    | some po =>
      rw [e] at hd2
      cases hd2
      have hi := (List.getElem?_eq_some_iff.mp e).1
      rw [Nat.zero_add] at hl2 hm2 kk
      rw [unp_seq (by rfl)]
      refine ⟨rfl, ?_⟩
      simp only [List.map_cons, List.map_nil]
      refine ⟨trivial, ?_⟩
      try simp only [frz, params, setAll, List.zipWith, List.length_cons, List.length_nil, Nat.reduceAdd, Nat.reduceSub, List.replicate, List.append_nil, List.cons_append, List.nil_append, getV_va, Pt.sl, true_and, List.getElem?_cons_zero, List.getElem?_cons_succ, List.set_cons_zero, List.set_cons_succ, ite_self, Bool.false_eq_true, if_false, if_true]
      refine ⟨n0 :: tl, 0 + i, way, f, _, _, _, _, _, _, _, rfl, rfl, rfl, rfl, by rw [List.length_cons]; omega, by rw [List.length_cons]; omega, fun o ho fo => ?_⟩
      rw [Nat.zero_add, List.take_succ_cons] at ho
      try simp only [frz, params, setAll, List.zipWith, List.length_cons, List.length_nil, Nat.reduceAdd, Nat.reduceSub, List.replicate, List.append_nil, List.cons_append, List.nil_append, getV_va, Pt.sl, true_and, List.getElem?_cons_zero, List.getElem?_cons_succ, List.set_cons_zero, List.set_cons_succ, ite_self, Bool.false_eq_true, if_false, if_true]
      refine ⟨⟨_, _, rfl⟩, by decide, gPickI [1, 2, 4] (by decide) (by decide) fun z hz f4 => ?_⟩
      have hz4 : 1 ≤ z ∧ z ≤ 4 := by
        simp only [List.mem_cons, List.not_mem_nil, or_false] at hz
        omega
      refine gDraw (by omega) (by omega) fun h h0 h1 => ?_
      rw [gAdd_int]
      have hpo : po ∈ tl := List.mem_of_getElem? e
      refine ⟨by decide, _, _, rfl, by rw [List.length_map]; unfold BIG; omega, kk _ ⟨_, _, _, _, _, rs ++ [(po, o, 1 + h)], (by rw [List.map_append]; exact rfl), by rw [List.length_append, hl2]; rfl, ?_, hr2.snoc (hok po (List.mem_cons_of_mem _ hpo)) (fun hh => ?_) (fun x hx2 ex => ?_) ?_ (by show (1 : Int) ≤ 1 + h; omega) (by show 1 + h ≤ (9 : Int); omega)⟩⟩
      · rw [List.map_append, hm2, List.take_succ, e]
        rfl
      · rw [List.mem_singleton] at hh
        have hh : po = n0 := hh
        exact hnd2.1 (hh ▸ hpo)
      · have h3 : x.1 ∈ tl.take i := by rw [← hm2]; exact List.mem_map.mpr ⟨x, hx2, rfl⟩
        have ex : x.1 = po := ex
        rw [ex] at h3
        obtain ⟨j, hj, ej⟩ := List.mem_take_iff_getElem.mp h3
        have h4 : tl[i] = po := (List.getElem?_eq_some_iff.mp e).2
        have := (List.getElem_inj hnd2.2).mp (ej.trans h4.symm)
        omega
      · rcases List.mem_cons.mp ho with ho | ho
        · exact .inl (by rw [show (po, o, 1 + h).2.1 = o from rfl, ho]; simp)
        · rw [← hm2] at ho
          obtain ⟨x, hx2, ex⟩ := List.mem_map.mp ho
          exact .inr ⟨x, hx2, ex⟩
  · obtain ⟨f, f3, s5, s6, s7, rs, rfl, hl2, hm2, hr2⟩ := hI
    rw [enumD_len, List.length_map, Nat.zero_add] at hl2
    try simp only [frz, params, setAll, List.zipWith, List.length_cons, List.length_nil, Nat.reduceAdd, Nat.reduceSub, List.replicate, List.append_nil, List.cons_append, List.nil_append, getV_va, Pt.sl, true_and, List.getElem?_cons_zero, List.getElem?_cons_succ, List.set_cons_zero, List.set_cons_succ, ite_self, Bool.false_eq_true, if_false, if_true]
    refine gIxL D.str (j := 0) (xs := n0 :: tl) rfl fun f5 => ⟨by decide, ?_⟩
    exact q n0 rs ⟨hok n0 List.mem_cons_self, hr2, fun z => by rw [z, List.length_nil] at hl2; omega, by omega⟩ _

end
end My

set_option Elab.async false
set_option linter.all false
set_option maxRecDepth 100000
set_option maxHeartbeats 4000000
set_option pp.maxSteps 6000
namespace My
open PySem PySem.Spec PyProof.Rows L2 DL
structure RideOk (p : PV) : Prop where
  ok : p.Ok
  nd : (p.roads.map (·.1)).Nodup
  rl : p.roads.length ≤ 1000
  so : PyData.strOk p.office = true
  hr : ∀ r ∈ p.roads, PyData.strOk r.1 = true ∧ PyData.strOk r.2.1 = true ∧ r.2.2.natAbs ≤ 9
  wr : ∀ r ∈ p.riders, ∃ x ∈ p.roads, x.1 = r.1
  tr : ∀ r ∈ p.riders, r.2.1.natAbs ≤ 100000 ∧ r.2.2.natAbs ≤ 100000
  tl : ∀ r ∈ p.letters, r.2.1.natAbs ≤ 100000 ∧ r.2.2.natAbs ≤ 100000
theorem nats_of {n : Nat} {xs : List Dv} {ys : List D} (h : Paired (fun _ d => ∃ j : Nat, j < n ∧ d = D.int (j : Nat)) xs ys) : ∃ js : List Nat, ys = js.map (fun j => D.int (j : Nat)) ∧ js.length = xs.length ∧ ∀ j ∈ js, j < n := by
  induction h with
  | nil => exact ⟨[], rfl, rfl, fun z h => nomatch h⟩
  | cons a _ ih =>
    obtain ⟨z, hz, rfl⟩ := a
    obtain ⟨zs, rfl, hl, hs⟩ := ih
    refine ⟨z :: zs, rfl, by rw [List.length_cons, List.length_cons, hl], fun y hy => ?_⟩
    rcases List.mem_cons.mp hy with rfl | hy
    · exact hz
    · exact hs y hy
def wD (w : Str × Int) : D := .tup [.str w.1, .int w.2]
section
variable {P : Program} {w : World} {K : PySem.W.Frag} {mg : Str → Option Value} {base : Heap}
theorem sc__law_ride : FnScope ["plan", "gone", "ways", "where", "log", "office", "roads", "riders", "letters", "tick", "rider", "here", "k", "post", "other", "hours", "due"] ["plan", "gone"] (defScope s__law_ride) := ⟨rfl, rfl, rfl, by decide +kernel, rfl, by decide +kernel, by decide +kernel⟩
def c__law_ride : DC := fun ds _ _ Q => ∃ p : PV, ds = [p.d, .lst []] ∧ RideOk p ∧ ∀ (log : D) (ticks : List (Option Int)) f, ticks.length = p.letters.length → (∀ t ∈ ticks, ∀ i, t = some i → i.natAbs ≤ 200000) → Q ⟨.tup [log, .lst (ticks.map lastD)], f, none⟩
theorem ok__law_ride (T : Txt K mg) : FnD P w K mg base 1 T.f__law_ride.f T.f__law_ride.fd ["plan", "gone"] 0 c__law_ride := by
  refine fn_ok T.f__law_ride.ok sc__law_ride fun cdv A outer s H E hr => ⟨_, _, (dss_cons (ds_asg [] (de_var (pv 0)) (dg_tup (n := 4) rfl (dgs_cons (dg_name (pg_name (i := 5) sc__law_ride.nd rfl (Or.inr rfl))) (dgs_cons (dg_name (pg_name (i := 6) sc__law_ride.nd rfl (Or.inl rfl))) (dgs_cons (dg_name (pg_name (i := 7) sc__law_ride.nd rfl (Or.inr rfl))) (dgs_cons (dg_name (pg_name (i := 8) sc__law_ride.nd rfl (Or.inr rfl))) dgs_nil))))) (fun _ _ a b => ps_asg a b))
      (dss_cons (ds_asg [] (de_callTy (dcl_dictP rfl) (by rfl) T.n_dict (by decide +kernel) (da_cons (DN.de (dn_lc (own := [("post", 13), ("other", 14), ("hours", 15)]) rfl sc__law_ride.nd (di_seq (de_var (pv 6))) (blkOk_by (N := ["plan", "gone", "ways", "where", "log", "office", "roads", "riders", "letters", "tick", "rider", "here", "k", "post", "other", "hours", "due"]) (sc := defScope s__law_ride) (by decide +kernel)) (fun _ _ _ _ _ => (dg_tup (n := 3) rfl (dgs_cons (dg_name (pg_name (i := 13) sc__law_ride.nd rfl (Or.inl rfl))) (dgs_cons (dg_name (pg_name (i := 14) sc__law_ride.nd rfl (Or.inl rfl))) (dgs_cons (dg_name (pg_name (i := 15) sc__law_ride.nd rfl (Or.inl rfl))) dgs_nil))))) (fun _ _ _ _ _ => dts_nil) (fun _ _ _ _ _ => (de_tup (da_cons (de_var (pv 13)) (da_cons (de_tup (da_cons (de_var (pv 14)) (da_cons (de_var (pv 15)) da_nil))) da_nil)))) (by decide))) da_nil)) (dg_name (pg_name (i := 2) sc__law_ride.nd rfl (Or.inl rfl))) (fun _ _ a b => ps_asg a b))
      (dss_cons (ds_own [] (dn_lc (own := [("post", 13), ("tick", 9), ("due", 16)]) rfl sc__law_ride.nd (di_seq (de_var (pv 8))) (blkOk_by (N := ["plan", "gone", "ways", "where", "log", "office", "roads", "riders", "letters", "tick", "rider", "here", "k", "post", "other", "hours", "due"]) (sc := defScope s__law_ride) (by decide +kernel)) (fun _ _ _ _ _ => (dg_tup (n := 3) rfl (dgs_cons (dg_name (pg_name (i := 13) sc__law_ride.nd rfl (Or.inl rfl))) (dgs_cons (dg_name (pg_name (i := 9) sc__law_ride.nd rfl (Or.inl rfl))) (dgs_cons (dg_name (pg_name (i := 16) sc__law_ride.nd rfl (Or.inl rfl))) dgs_nil))))) (fun _ _ _ _ _ => dts_nil) (fun _ _ _ _ _ => (de_tup (da_cons (de_var (pv 13)) (da_cons (de_var (pv 9)) da_nil)))) (by decide)) (pg_name (i := 3) sc__law_ride.nd rfl (Or.inr rfl)) (fun _ _ a b => ps_asg a b))
      (dss_cons (ds_setLcO (i := 4) (own := [("rider", 10)]) [] rfl sc__law_ride.nd rfl rfl (sw_true rfl rfl rfl (by decide +kernel)) (di_seq (de_var (pv 7))) (blkOk_by (N := ["plan", "gone", "ways", "where", "log", "office", "roads", "riders", "letters", "tick", "rider", "here", "k", "post", "other", "hours", "due"]) (sc := defScope s__law_ride) (by decide +kernel)) (fun _ _ _ _ _ => (dg_name (pg_name (i := 10) sc__law_ride.nd rfl (Or.inl rfl)))) (fun _ _ _ _ _ => dts_nil) (fun _ _ _ _ _ => (de_lst da_nil)) (by decide))
      (dss_cons (ds_for [] (passes_of rfl) rfl (di_seq (de_callB (dcl_sortedD (hr.mono (by decide))) (by rfl) T.n_sorted (by decide +kernel) (da_cons (DN.de (dn_lc (own := [("k", 12)]) rfl sc__law_ride.nd (di_range1 (by rfl) T.n_range (da_cons (de_callB dcl_len (by rfl) T.n_len (by decide +kernel) (da_cons (de_var (pv 7)) da_nil)) da_nil)) (blkOk_by (N := ["plan", "gone", "ways", "where", "log", "office", "roads", "riders", "letters", "tick", "rider", "here", "k", "post", "other", "hours", "due"]) (sc := defScope s__law_ride) (by decide +kernel)) (fun _ _ _ _ _ => (dg_name (pg_name (i := 12) sc__law_ride.nd rfl (Or.inl rfl)))) (fun _ _ _ _ _ => (dts_one (dt_cmp dop_notIn (de_var (pv 12)) (de_var (pv 1)) (by rfl)))) (fun _ _ _ _ _ => (de_tup (da_cons (de_ix (de_ix (de_var (pv 7)) (de_var (pv 12)) (fun _ _ => rfl)) de_int (fun _ _ => rfl)) (da_cons (de_var (pv 12)) da_nil)))) (by decide))) da_nil))) (dg_tup (n := 2) rfl (dgs_cons (dg_name (pg_name (i := 9) sc__law_ride.nd rfl (Or.inr rfl))) (dgs_cons (dg_name (pg_name (i := 10) sc__law_ride.nd rfl (Or.inl rfl))) dgs_nil)))
      (dss_cons (ds_asg [] (de_tup (da_cons (de_ix (de_ix (de_var (pv 7)) (de_var (pv 10)) (fun _ _ => rfl)) de_int (fun _ _ => rfl)) (da_cons (de_ix (de_dget hr.units (de_var (pv 2)) (de_ix (de_ix (de_var (pv 7)) (de_var (pv 10)) (fun _ _ => rfl)) de_int (fun _ _ => rfl)) (fun _ _ => rfl)) de_int (fun _ _ => rfl)) (da_cons (de_ix (de_dget hr.units (de_var (pv 2)) (de_ix (de_ix (de_var (pv 7)) (de_var (pv 10)) (fun _ _ => rfl)) de_int (fun _ _ => rfl)) (fun _ _ => rfl)) de_int (fun _ _ => rfl)) da_nil)))) (dg_tup (n := 3) rfl (dgs_cons (dg_name (pg_name (i := 13) sc__law_ride.nd rfl (Or.inr rfl))) (dgs_cons (dg_name (pg_name (i := 14) sc__law_ride.nd rfl (Or.inl rfl))) (dgs_cons (dg_name (pg_name (i := 15) sc__law_ride.nd rfl (Or.inl rfl))) dgs_nil)))) (fun _ _ a b => ps_asg a b))
      (dss_cons (ds_setLc (i := 11) (own := [("k", 12)]) [] rfl sc__law_ride.nd rfl rfl (sw_true rfl rfl rfl (by decide +kernel)) (di_range1 (by rfl) T.n_range (da_cons (de_callB dcl_len (by rfl) T.n_len (by decide +kernel) (da_cons (de_var (pv 8)) da_nil)) da_nil)) (blkOk_by (N := ["plan", "gone", "ways", "where", "log", "office", "roads", "riders", "letters", "tick", "rider", "here", "k", "post", "other", "hours", "due"]) (sc := defScope s__law_ride) (by decide +kernel)) (fun _ _ _ _ _ => (dg_name (pg_name (i := 12) sc__law_ride.nd rfl (Or.inl rfl)))) (fun _ _ _ _ _ => (dts_one (DW.dt (dw_and (dt_cmp (dop_eq hr.units) (de_ix (de_ixO (i := 3) (pv 3) (de_var (pv 12)) (fun _ _ => rfl)) de_int (fun _ _ => rfl)) (de_var (pv 13)) (nomark _)) (dw_and1 (dt_cmp dop_le (de_ix (de_ixO (i := 3) (pv 3) (de_var (pv 12)) (fun _ _ => rfl)) de_int (fun _ _ => rfl)) (de_var (pv 9)) (nomark _))))))) (fun _ _ _ _ _ => (de_tup (da_cons (de_ix (de_ix (de_var (pv 8)) (de_var (pv 12)) (fun _ _ => rfl)) de_int (fun _ _ => rfl)) (da_cons (de_var (pv 12)) da_nil)))) (by decide))
      (dss_cons (ds_setix [] (i := 4) (j := 10) (de_callB (dcl_sortedD (hr.mono (by decide))) (by rfl) T.n_sorted (by decide +kernel) (da_cons (DN.de (dn_lc (own := [("due", 16), ("k", 12)]) rfl sc__law_ride.nd (di_seq (de_slice (de_callB (dcl_sortedD (hr.mono (by decide))) (by rfl) T.n_sorted (by decide +kernel) (da_cons (de_var (pv 11)) da_nil)) do_none (do_some (de_ix (de_ix (de_var (pv 7)) (de_var (pv 10)) (fun _ _ => rfl)) de_int (fun _ _ => rfl))))) (blkOk_by (N := ["plan", "gone", "ways", "where", "log", "office", "roads", "riders", "letters", "tick", "rider", "here", "k", "post", "other", "hours", "due"]) (sc := defScope s__law_ride) (by decide +kernel)) (fun _ _ _ _ _ => (dg_tup (n := 2) rfl (dgs_cons (dg_name (pg_name (i := 16) sc__law_ride.nd rfl (Or.inl rfl))) (dgs_cons (dg_name (pg_name (i := 12) sc__law_ride.nd rfl (Or.inl rfl))) dgs_nil)))) (fun _ _ _ _ _ => dts_nil) (fun _ _ _ _ _ => (de_var (pv 12))) (by decide))) da_nil)) (fun _ a => ps_asg a (pg_sub (pv 4) (pv 10) set_list)))
      (dss_one (ds_for [] (passes_of rfl) rfl (di_seq (de_ixO (i := 4) (pv 4) (de_var (pv 10)) (fun _ _ => rfl))) (dg_name (pg_name (i := 12) sc__law_ride.nd rfl (Or.inl rfl)))
      (dss_one (ds_setix [] (i := 3) (j := 12) (de_tup (da_cons (de_var (pv 14)) (da_cons (de_op dop_add (de_var (pv 9)) (de_var (pv 15))) da_nil))) (fun _ a => ps_asg a (pg_sub (pv 3) (pv 12) set_list))))))))))
      (dss_one (ds_ret [3, 4] (de_tup (da_cons (de_var (pv 4)) (da_cons (DN.de (dn_lc (own := [("post", 13), ("tick", 9)]) rfl sc__law_ride.nd (di_seq (de_var (pv 3))) (blkOk_by (N := ["plan", "gone", "ways", "where", "log", "office", "roads", "riders", "letters", "tick", "rider", "here", "k", "post", "other", "hours", "due"]) (sc := defScope s__law_ride) (by decide +kernel)) (fun _ _ _ _ _ => (dg_tup (n := 2) rfl (dgs_cons (dg_name (pg_name (i := 13) sc__law_ride.nd rfl (Or.inl rfl))) (dgs_cons (dg_name (pg_name (i := 9) sc__law_ride.nd rfl (Or.inl rfl))) dgs_nil)))) (fun _ _ _ _ _ => dts_nil) (fun _ _ _ _ _ => (de_if (dt_cmp (dop_eq hr.units) (de_var (pv 13)) (de_var (pv 5)) (nomark _)) (de_var (pv 9)) de_non)) (by decide))) da_nil)))))))))), by decide +kernel, fun ds vs XQ Q hd hv h => ?_⟩
  obtain ⟨p, rfl, hp, q⟩ := h
  match vs, hv with
  | [v, v2], _ =>
  try simp only [frz, params, setAll, List.zipWith, List.length_cons, List.length_nil, Nat.reduceAdd, Nat.reduceSub, List.replicate, List.append_nil, List.cons_append, List.nil_append, getV_va, Pt.sl, true_and, List.getElem?_cons_zero, List.getElem?_cons_succ, List.set_cons_zero, List.set_cons_succ, ite_self, Bool.false_eq_true, if_false, if_true]
  rw [unp_seq p.seq]
  refine ⟨rfl, ?_⟩
  simp only [List.map_cons, List.map_nil]
  refine ⟨trivial, ?_⟩
  try simp only [frz, params, setAll, List.zipWith, List.length_cons, List.length_nil, Nat.reduceAdd, Nat.reduceSub, List.replicate, List.append_nil, List.cons_append, List.nil_append, getV_va, Pt.sl, true_and, List.getElem?_cons_zero, List.getElem?_cons_succ, List.set_cons_zero, List.set_cons_succ, ite_self, Bool.false_eq_true, if_false, if_true]
  have hok := hp.ok
  have hl2 := hok.r2
  have hl3 := hok.r3
  have hrl := hp.rl
  rw [items_seq (by rfl), List.map_map]
  refine ⟨by rw [List.length_map]; unfold BIG; omega, lc_mapA (g := fun r : Road => D.tup [.str r.1, .tup [.str r.2.1, .int r.2.2]]) (fun r hr2 K1 K0 k1 => ?_) fun f1 => ?_⟩
  · try simp only [lcStep, true_and, wipeR, List.map_cons, List.map_nil, List.set_cons_succ, List.set_cons_zero, List.getElem?_cons_succ, List.getElem?_cons_zero, getV_va, if_true]
    dsimp only [Function.comp]
    rw [unp_seq (by rfl)]
    refine ⟨rfl, ?_⟩
    simp only [List.map_cons, List.map_nil]
    refine ⟨trivial, ?_⟩
    try simp only [frz, params, setAll, List.zipWith, List.length_cons, List.length_nil, Nat.reduceAdd, Nat.reduceSub, List.replicate, List.append_nil, List.cons_append, List.nil_append, getV_va, Pt.sl, true_and, List.getElem?_cons_zero, List.getElem?_cons_succ, List.set_cons_zero, List.set_cons_succ, ite_self, Bool.false_eq_true, if_false, if_true]
    exact ⟨by decide, by decide, k1 _ _⟩
  rw [g1_of]
  refine ⟨p.roads.map fun r => (.inr r.1, .tup [.str r.2.1, .int r.2.2]), by rw [List.map_map]; rfl, by rw [List.map_map]; exact List.pairwise_map.mpr ((List.pairwise_map.mp hp.nd).imp fun h e => h (Sum.inr.inj e)), ?_⟩
  dsimp only
  rw [items_seq (by rfl), List.map_map]
  refine ⟨by rw [List.length_map]; unfold BIG; omega, lc_mapA (g := fun r : Row => wD (r.1, r.2.1)) (fun r hr2 K1 K0 k1 => ?_) fun f2 => ?_⟩
  · try simp only [lcStep, true_and, wipeR, List.map_cons, List.map_nil, List.set_cons_succ, List.set_cons_zero, List.getElem?_cons_succ, List.getElem?_cons_zero, getV_va, if_true]
    dsimp only [Function.comp]
    rw [unp_seq (by rfl)]
    refine ⟨rfl, ?_⟩
    simp only [List.map_cons, List.map_nil]
    refine ⟨trivial, ?_⟩
    try simp only [frz, params, setAll, List.zipWith, List.length_cons, List.length_nil, Nat.reduceAdd, Nat.reduceSub, List.replicate, List.append_nil, List.cons_append, List.nil_append, getV_va, Pt.sl, true_and, List.getElem?_cons_zero, List.getElem?_cons_succ, List.set_cons_zero, List.set_cons_succ, ite_self, Bool.false_eq_true, if_false, if_true]
    exact ⟨by decide, k1 _ _⟩
  rw [items_seq (by rfl), List.map_map]
  refine ⟨by rw [List.length_map]; unfold BIG; omega, lc_mapA (g := fun r : Row => D.lst []) (fun r hr2 K1 K0 k1 => ?_) fun f3 => ?_⟩
  · try simp only [lcStep, true_and, wipeR, List.map_cons, List.map_nil, List.set_cons_succ, List.set_cons_zero, List.getElem?_cons_succ, List.getElem?_cons_zero, getV_va, if_true]
    exact ⟨by decide, k1 _ _⟩
  dsimp only
  rw [g1_of, gLen_of (by rfl), List.length_map]
  have nr : ((p.riders.length : Nat) : Int).toNat = p.riders.length := by omega
  dsimp only
  rw [nr]
  refine ⟨by omega, by omega, by rw [rgD_len]; unfold BIG; omega, ?_⟩
  unfold rgD
  refine lc_mapA (g := fun k : Nat => prD (tickAt p.riders k, (k : Int))) (fun k hk K1 K0 k1 => ?_) fun f4 => ?_
  · try simp only [lcStep, true_and, wipeR, List.map_cons, List.map_nil, List.set_cons_succ, List.set_cons_zero, List.getElem?_cons_succ, List.getElem?_cons_zero, getV_va, if_true]
    have hk : k < p.riders.length := List.mem_range.mp hk
    rw [Int.zero_add]
    refine ⟨rfl, rfl, _, rfl, ?_⟩
    refine ite_t (by rfl) ?_
    rw [gIx_of (by rfl) (row_at hk), gIx_of (by rfl) (show atI [D.str p.riders[k].1, .int (tickAt p.riders k), .int (roomAt p.riders k)] 1 = some (.int (tickAt p.riders k)) from rfl)]
    exact ⟨by decide, k1 _ _⟩
  have tk : ∀ k, (tickAt p.riders k).natAbs ≤ 100000 := fun k => by
    unfold tickAt
    cases e : p.riders[k]? with
    | none => exact Nat.zero_le _
    | some r => exact (hp.tr r (List.mem_of_getElem? e)).1
  have hpr : (List.range p.riders.length).map (fun k : Nat => prD (tickAt p.riders k, (k : Int))) = ((List.range p.riders.length).map fun k : Nat => (tickAt p.riders k, (k : Int))).map prD := by rw [List.map_map]; rfl
  rw [hpr, g1_of]
  refine ⟨_, rfl, canSort_pr fun r hr2 => ?_, ?_⟩
  · obtain ⟨k, hk, rfl⟩ := List.mem_map.mp hr2
    have hk := List.mem_range.mp hk
    have := tk k
    refine ⟨?_, ?_⟩
    · exact Nat.le_trans this (by decide)
    · exact Nat.le_trans (show ((k : Int)).natAbs ≤ 1000 by omega) (by decide)
  have hit : ∀ d ∈ srtD (((List.range p.riders.length).map fun k : Nat => (tickAt p.riders k, (k : Int))).map prD), ∃ k, k < p.riders.length ∧ d = prD (tickAt p.riders k, (k : Int)) := fun d hd => by
    have := (srtD_perm _).mem_iff.mp hd
    rw [List.map_map] at this
    obtain ⟨k, hk, rfl⟩ := List.mem_map.mp this
    exact ⟨k, List.mem_range.mp hk, rfl⟩
  generalize srtD (((List.range p.riders.length).map fun k : Nat => (tickAt p.riders k, (k : Int))).map prD) = its at hit
  dsimp only
  rw [items_seq (by rfl)]
  refine ⟨.inl (by decide), ?_⟩
  refine for_idx (fun i ρ => ∃ f1 f2 f3 s9 s10 s11 s12 s13 s14 s15 s16, ∃ (W : List (Str × Int)) (ls : List D), ρ = [Sl.va ⟨p.d, p.d.imm, some v⟩, .va ⟨.lst [], (D.lst []).imm, some v2⟩, .va ⟨dctD (p.roads.map fun r => (.inr r.1, .tup [.str r.2.1, .int r.2.2])), f1, none⟩, .ow (.lst (W.map wD)) f2, .ow (.lst ls) f3, .va ⟨.str p.office, Dv.fr ⟨p.d, p.d.imm, some v⟩, none⟩, .va ⟨.lst (p.roads.map roadD), Dv.fr ⟨p.d, p.d.imm, some v⟩, none⟩, .va ⟨.lst (p.riders.map rowD), Dv.fr ⟨p.d, p.d.imm, some v⟩, none⟩, .va ⟨.lst (p.letters.map rowD), Dv.fr ⟨p.d, p.d.imm, some v⟩, none⟩, s9, s10, s11, s12, s13, s14, s15, s16] ∧ W.length = p.letters.length ∧ ls.length = p.riders.length ∧ ∀ w ∈ W, PyData.strOk w.1 = true ∧ w.2.natAbs ≤ 200000) _ 0 _ ⟨_, _, _, _, _, _, _, _, _, _, _, p.letters.map fun r => (r.1, r.2.1), _, by rw [List.map_map]; rfl, by rw [List.length_map], by rw [List.length_map], fun w hw => ?_⟩ (fun i x hx ρ hI K kk => ?_) fun ρ hI => ?_
  · obtain ⟨r, hr2, rfl⟩ := List.mem_map.mp hw
    exact ⟨hok.nl r hr2, Nat.le_trans (hp.tl r hr2).1 (by decide)⟩
  · obtain ⟨b1, b2, b3, s9, s10, s11, s12, s13, s14, s15, s16, W, ls, rfl, hW, hls, hWo⟩ := hI
    rw [List.getElem?_map] at hx
    cases e : its[i]? with
    | none => rw [e] at hx; cases hx
    | some d =>
    rw [e] at hx
    cases hx
    obtain ⟨k, hk, rfl⟩ := hit d (List.mem_of_getElem? e)
    rw [unp_seq (by rfl)]
    refine ⟨rfl, ?_⟩
    simp only [List.map_cons, List.map_nil]
    refine ⟨trivial, ?_⟩
    try simp only [frz, params, setAll, List.zipWith, List.length_cons, List.length_nil, Nat.reduceAdd, Nat.reduceSub, List.replicate, List.append_nil, List.cons_append, List.nil_append, getV_va, Pt.sl, true_and, List.getElem?_cons_zero, List.getElem?_cons_succ, List.set_cons_zero, List.set_cons_succ, ite_self, Bool.false_eq_true, if_false, if_true]
    have hkr : p.riders[k] ∈ p.riders := List.getElem_mem hk
    obtain ⟨rd, hrd, erd⟩ := hp.wr _ hkr
    have hget : ∃ r' ∈ p.roads, getK (p.roads.map fun r : Road => (D.str r.1, D.tup [.str r.2.1, .int r.2.2])) (.inr p.riders[k].1) = some (.tup [.str r'.2.1, .int r'.2.2]) := by
      rw [getK_map (fun r : Road => r.1)]
      cases ef : p.roads.find? fun a => decide (a.1 = p.riders[k].1) with
      | none => exact absurd (List.find?_eq_none.mp ef rd hrd) (by simp [erd])
      | some r' => exact ⟨r', List.mem_of_find?_eq_some ef, rfl⟩
    obtain ⟨r', hr', eg⟩ := hget
    obtain ⟨_, so', hh'⟩ := hp.hr r' hr'
    refine gIxL rowD (List.getElem?_eq_getElem hk) fun _ => ⟨_, rfl, ?_⟩
    refine gIxL rowD (List.getElem?_eq_getElem hk) fun _ => ⟨_, rfl, ?_⟩
    refine ⟨_, .inr p.riders[k].1, .tup [.str r'.2.1, .int r'.2.2], by unfold dctD; rw [List.map_map]; rfl, rfl, eg, ⟨_, rfl, ?_⟩⟩
    refine gIxL rowD (List.getElem?_eq_getElem hk) fun _ => ⟨_, rfl, ?_⟩
    refine ⟨_, .inr p.riders[k].1, .tup [.str r'.2.1, .int r'.2.2], by unfold dctD; rw [List.map_map]; rfl, rfl, eg, ⟨_, rfl, ?_⟩⟩
    refine ⟨by decide, ?_⟩
    rw [unp_seq (by rfl)]
    refine ⟨rfl, ?_⟩
    simp only [List.map_cons, List.map_nil]
    refine ⟨trivial, ?_⟩
    try simp only [frz, params, setAll, List.zipWith, List.length_cons, List.length_nil, Nat.reduceAdd, Nat.reduceSub, List.replicate, List.append_nil, List.cons_append, List.nil_append, getV_va, Pt.sl, true_and, List.getElem?_cons_zero, List.getElem?_cons_succ, List.set_cons_zero, List.set_cons_succ, ite_self, Bool.false_eq_true, if_false, if_true]
    rw [g1_of, gLen_of (by rfl), List.length_map]
    have nl : ((p.letters.length : Nat) : Int).toNat = p.letters.length := by omega
    dsimp only
    rw [nl]
    refine ⟨by omega, by omega, by rw [List.length_map, List.length_range]; unfold BIG; omega, ?_⟩
    refine lc_filt (g := fun j : Nat => prD (roomAt p.letters j, (j : Int))) (fun j => match W[j]? with | some w => decide (w.1 = p.riders[k].1) && decide (w.2 ≤ tickAt p.riders k) | none => false) (fun j hj K1 K0 k1 k0 => ?_) fun f5 => ?_
    · have hj : j < p.letters.length := List.mem_range.mp hj
      have hjW : j < W.length := by omega
      have eW : W[j]? = some W[j] := List.getElem?_eq_getElem hjW
      have eA : atI (W.map wD) (j : Int) = some (wD W[j]) := by rw [atI_map', atI_nat' eW]; rfl
      have hw := hWo W[j] (List.getElem_mem hjW)
      rw [eW] at k1 k0
      try simp only [lcStep, true_and, wipeR, List.map_cons, List.map_nil, List.set_cons_succ, List.set_cons_zero, List.getElem?_cons_succ, List.getElem?_cons_zero, getV_va, if_true]
      rw [Int.zero_add]
      refine ⟨_, _, rfl, _, _, rfl, eA, ⟨_, rfl, ?_⟩⟩
      dsimp only
      rw [gEq_str hw.1 (hok.nr _ hkr), bl_of]
      by_cases hpst : W[j].1 = p.riders[k].1
      case neg => exact ite_f (by simpa using hpst) (ite_f (by decide) (k0 (by simp [hpst])))
      refine ite_t (by simpa using hpst) ⟨_, _, rfl, _, _, rfl, eA, ⟨_, rfl, ?_⟩⟩
      dsimp only
      rw [gI_of]
      refine ⟨trivial, ?_⟩
      rw [bl_of]
      by_cases htk : W[j].2 ≤ tickAt p.riders k
      case neg => exact ite_f (by simpa using htk) (k0 (by simp [htk]))
      refine ite_t (by simpa using htk) ?_
      rw [gIx_of (by rfl) (row_at hj), gIx_of (by rfl) (show atI [D.str p.letters[j].1, .int (tickAt p.letters j), .int (roomAt p.letters j)] 2 = some (.int (roomAt p.letters j)) from rfl)]
      exact ⟨by decide, k1 (by simp [hpst, htk]) _ _⟩
    generalize hfl : List.filter _ (List.range p.letters.length) = fl
    have h1 : ∀ j ∈ fl, j < p.letters.length := fun j hj => by rw [← hfl] at hj; exact List.mem_range.mp (List.mem_filter.mp hj).1
    have h2 : fl.length ≤ 1000 := by rw [← hfl]; exact Nat.le_trans (List.length_filter_le _ _) (by rw [List.length_range]; omega)
    clear hfl
    have hpr2 : fl.map (fun j : Nat => prD (roomAt p.letters j, (j : Int))) = (fl.map fun j : Nat => (roomAt p.letters j, (j : Int))).map prD := by rw [List.map_map]; rfl
    rw [hpr2, g1_of]
    refine ⟨_, rfl, canSort_pr fun r hr2 => ?_, ?_⟩
    · obtain ⟨j, hj, rfl⟩ := List.mem_map.mp hr2
      have hj := h1 j hj
      refine ⟨?_, Nat.le_trans (show ((j : Int)).natAbs ≤ 1000 by omega) (by decide)⟩
      refine Nat.le_trans (?_ : _ ≤ 100000) (by decide)
      show (roomAt p.letters j).natAbs ≤ 100000
      unfold roomAt
      rw [List.getElem?_eq_getElem hj]
      exact (hp.tl _ (List.getElem_mem hj)).2
    have hS : ∀ d ∈ srtD ((fl.map fun j : Nat => (roomAt p.letters j, (j : Int))).map prD), ∃ j, j < p.letters.length ∧ d = prD (roomAt p.letters j, (j : Int)) := fun d hd => by
      have := (srtD_perm _).mem_iff.mp hd
      rw [List.map_map] at this
      obtain ⟨j, hj, rfl⟩ := List.mem_map.mp this
      exact ⟨j, h1 j hj, rfl⟩
    have hSl : (srtD ((fl.map fun j : Nat => (roomAt p.letters j, (j : Int))).map prD)).length ≤ 1000 := by
      rw [(srtD_perm _).length_eq, List.length_map, List.length_map]
      exact h2
    generalize srtD ((fl.map fun j : Nat => (roomAt p.letters j, (j : Int))).map prD) = S at hS hSl
    dsimp only
    refine gIxL rowD (List.getElem?_eq_getElem hk) fun _ => ⟨_, rfl, ⟨_, rfl, ?_⟩⟩
    rw [gSl_seq (by rfl), items_seq (by rfl)]
    have hcl := cutL_len S none (some p.riders[k].2.2)
    refine ⟨by rw [List.length_map]; unfold BIG; omega, lc_rel0 (fun _ d => ∃ j : Nat, j < p.letters.length ∧ d = D.int (j : Nat)) (fun y hy K1 K0 k1 => ?_) fun ys n2 hpd => ?_⟩
    · obtain ⟨d, hd, rfl⟩ := List.mem_map.mp hy
      obtain ⟨j, hj, rfl⟩ := hS d (cut_mem hd)
      try simp only [lcStep, true_and, wipeR, List.map_cons, List.map_nil, List.set_cons_succ, List.set_cons_zero, List.getElem?_cons_succ, List.getElem?_cons_zero, getV_va, if_true]
      rw [unp_seq (by rfl)]
      refine ⟨rfl, ?_⟩
      simp only [List.map_cons, List.map_nil]
      refine ⟨trivial, ?_⟩
      try simp only [frz, params, setAll, List.zipWith, List.length_cons, List.length_nil, Nat.reduceAdd, Nat.reduceSub, List.replicate, List.append_nil, List.cons_append, List.nil_append, getV_va, Pt.sl, true_and, List.getElem?_cons_zero, List.getElem?_cons_succ, List.set_cons_zero, List.set_cons_succ, ite_self, Bool.false_eq_true, if_false, if_true]
      exact k1 _ _ _ ⟨j, hj, rfl⟩
    obtain ⟨js, rfl, hjl, hjs⟩ := nats_of hpd
    rw [List.length_map] at hjl
    rw [g1_of]
    have hjs2 : js.map (fun j : Nat => D.int (j : Nat)) = (js.map fun j : Nat => (j : Int)).map D.int := by rw [List.map_map]; rfl
    rw [hjs2]
    refine ⟨_, rfl, canSort_ints fun z hz => ?_, ?_⟩
    · obtain ⟨j, hj, rfl⟩ := List.mem_map.mp hz
      have := hjs j hj
      exact Nat.le_trans (show ((j : Int)).natAbs ≤ 1000 by omega) (by decide)
    have hS2 : ∀ d ∈ srtD ((js.map fun j : Nat => (j : Int)).map D.int), ∃ j : Nat, j < p.letters.length ∧ d = D.int (j : Nat) := fun d hd => by
      have := (srtD_perm _).mem_iff.mp hd
      rw [List.map_map] at this
      obtain ⟨j, hj, rfl⟩ := List.mem_map.mp this
      exact ⟨j, hjs j hj, rfl⟩
    have hSl2 : (srtD ((js.map fun j : Nat => (j : Int)).map D.int)).length ≤ 1000 := by
      rw [(srtD_perm _).length_eq, List.length_map, List.length_map]
      omega
    generalize srtD ((js.map fun j : Nat => (j : Int)).map D.int) = S2 at hS2 hSl2
    refine ⟨ls, b3, k, _, _, rfl, rfl, by omega, _, _, rfl, _, _, rfl, atI_nat' (List.getElem?_set_self (by omega)), ?_⟩
    rw [items_seq (by rfl)]
    refine ⟨.inl trivial, ?_⟩
    refine for_idx (fun j ρ => ∃ f1 f2 f3 s11 s12 s13 s16 h9 h10 h14 h15, ∃ (W : List (Str × Int)) (ls : List D), ρ = [Sl.va ⟨p.d, p.d.imm, some v⟩, .va ⟨.lst [], (D.lst []).imm, some v2⟩, .va ⟨dctD (p.roads.map fun r => (.inr r.1, .tup [.str r.2.1, .int r.2.2])), f1, none⟩, .ow (.lst (W.map wD)) f2, .ow (.lst ls) f3, .va ⟨.str p.office, Dv.fr ⟨p.d, p.d.imm, some v⟩, none⟩, .va ⟨.lst (p.roads.map roadD), Dv.fr ⟨p.d, p.d.imm, some v⟩, none⟩, .va ⟨.lst (p.riders.map rowD), Dv.fr ⟨p.d, p.d.imm, some v⟩, none⟩, .va ⟨.lst (p.letters.map rowD), Dv.fr ⟨p.d, p.d.imm, some v⟩, none⟩, .va ⟨.int (tickAt p.riders k), h9, none⟩, .va ⟨.int (k : Nat), h10, none⟩, s11, s12, s13, .va ⟨.str r'.2.1, h14, none⟩, .va ⟨.int r'.2.2, h15, none⟩, s16] ∧ W.length = p.letters.length ∧ ls.length = p.riders.length ∧ ∀ w ∈ W, PyData.strOk w.1 = true ∧ w.2.natAbs ≤ 200000) _ 0 _ ⟨_, _, _, _, _, _, _, _, _, _, _, W, ls.set k (.lst S2), rfl, hW, by rw [List.length_set]; exact hls, hWo⟩ (fun j y hy ρ hI K2 kk2 => ?_) fun ρ hI => ?_
    · obtain ⟨c1, c2, c3, s11, s12, s13, s16, h9, h10, h14, h15, W, ls, rfl, hW, hls, hWo⟩ := hI
      rw [List.getElem?_map] at hy
      cases e2 : S2[j]? with
      | none => rw [e2] at hy; cases hy
      | some d =>
      rw [e2] at hy
      cases hy
      obtain ⟨jj, hjj, rfl⟩ := hS2 d (List.mem_of_getElem? e2)
      try simp only [frz, params, setAll, List.zipWith, List.length_cons, List.length_nil, Nat.reduceAdd, Nat.reduceSub, List.replicate, List.append_nil, List.cons_append, List.nil_append, getV_va, Pt.sl, true_and, List.getElem?_cons_zero, List.getElem?_cons_succ, List.set_cons_zero, List.set_cons_succ, ite_self, Bool.false_eq_true, if_false, if_true]
      rw [gAdd_int]
      refine ⟨by decide, _, _, jj, _, _, rfl, rfl, by rw [List.length_map]; omega, kk2 _ ⟨_, _, _, _, _, _, _, _, _, _, _, W.set jj (r'.2.1, tickAt p.riders k + r'.2.2), ls, by rw [List.map_set]; exact rfl, by rw [List.length_set]; exact hW, hls, fun w hw => ?_⟩⟩
      rcases List.mem_or_eq_of_mem_set hw with hw | rfl
      · exact hWo w hw
      · have := tk k
        exact ⟨so', by show (tickAt p.riders k + r'.2.2).natAbs ≤ 200000; omega⟩
    · obtain ⟨c1, c2, c3, s11, s12, s13, s16, h9, h10, h14, h15, W, ls, rfl, hW, hls, hWo⟩ := hI
      exact kk _ ⟨_, _, _, _, _, _, _, _, _, _, _, W, ls, rfl, hW, hls, hWo⟩
  · obtain ⟨b1, b2, b3, s9, s10, s11, s12, s13, s14, s15, s16, W, ls, rfl, hW, hls, hWo⟩ := hI
    try simp only [frz, params, setAll, List.zipWith, List.length_cons, List.length_nil, Nat.reduceAdd, Nat.reduceSub, List.replicate, List.append_nil, List.cons_append, List.nil_append, getV_va, Pt.sl, true_and, List.getElem?_cons_zero, List.getElem?_cons_succ, List.set_cons_zero, List.set_cons_succ, ite_self, Bool.false_eq_true, if_false, if_true]
    rw [items_seq (by rfl), List.map_map]
    refine ⟨by rw [List.length_map]; unfold BIG; omega, lc_mapA (g := fun w : Str × Int => lastD (if w.1 = p.office then some w.2 else none)) (fun w hw K1 K0 k1 => ?_) fun f9 => ?_⟩
    · obtain ⟨hw1, hw2⟩ := hWo w hw
      try simp only [lcStep, true_and, wipeR, List.map_cons, List.map_nil, List.set_cons_succ, List.set_cons_zero, List.getElem?_cons_succ, List.getElem?_cons_zero, getV_va, if_true]
      dsimp only [Function.comp]
      rw [unp_seq (by rfl)]
      refine ⟨rfl, ?_⟩
      simp only [List.map_cons, List.map_nil]
      refine ⟨trivial, ?_⟩
      try simp only [frz, params, setAll, List.zipWith, List.length_cons, List.length_nil, Nat.reduceAdd, Nat.reduceSub, List.replicate, List.append_nil, List.cons_append, List.nil_append, getV_va, Pt.sl, true_and, List.getElem?_cons_zero, List.getElem?_cons_succ, List.set_cons_zero, List.set_cons_succ, ite_self, Bool.false_eq_true, if_false, if_true]
      rw [gEq_str hw1 hp.so, bl_of]
      by_cases hx : w.1 = p.office
      · refine ite_t (by simpa using hx) ?_
        rw [if_pos hx] at k1
        exact k1 _ _
      · refine ite_f (by simpa using hx) ?_
        rw [if_neg hx] at k1
        exact k1 _ _
    · refine ⟨by decide, ?_⟩
      have e : W.map (fun w : Str × Int => lastD (if w.1 = p.office then some w.2 else none)) = (W.map fun w : Str × Int => if w.1 = p.office then some w.2 else none).map lastD := by rw [List.map_map]; rfl
      simp only [List.map_cons, List.map_nil]
      rw [e]
      refine q _ _ _ (by rw [List.length_map]; exact hW) fun t ht i hi => ?_
      obtain ⟨w, hw, rfl⟩ := List.mem_map.mp ht
      by_cases hx : w.1 = p.office
      · rw [if_pos hx] at hi
        cases hi
        exact (hWo w hw).2
      · rw [if_neg hx] at hi
        cases hi

end
end My

set_option Elab.async false
set_option linter.all false
set_option maxRecDepth 100000
set_option maxHeartbeats 4000000
set_option pp.maxSteps 6000
namespace My
open PySem PySem.Spec PyProof.Rows L2 DL
theorem lastD_vee {t : Option Int} {v : V} : lastD t ≠ .vee v := by
  cases t <;> exact fun z => nomatch z
theorem nm_ok {x : Str} (h : NmOk x) : PyData.strOk x = true := by
  unfold PyData.strOk
  rw [← Array.all_toList, List.all_eq_true]
  exact fun c hc => decide_eq_true (Nat.lt_trans (h.ab c hc).2 (by decide))
theorem RoadsOk.facts : ∀ {rs : List Road} {known : List Str}, RoadsOk known rs → (∀ x ∈ known, NmOk x) → (∀ r ∈ rs, NmOk r.1 ∧ NmOk r.2.1 ∧ 1 ≤ r.2.2 ∧ r.2.2 ≤ 9 ∧ r.1 ∉ known) ∧ (rs.map (·.1)).Nodup
  | [], _, _, _ => ⟨fun r h => (nomatch h), List.nodup_nil⟩
  | r :: rs, known, ⟨h1, h2, h3, h4, h5, h6⟩, hk => by
    obtain ⟨g1, g2⟩ := h6.facts fun x hx => by
      rcases List.mem_append.mp hx with hx | hx
      · exact hk x hx
      · rw [List.mem_singleton] at hx; rw [hx]; exact h1
    refine ⟨fun s hs => ?_, ?_⟩
    · rcases List.mem_cons.mp hs with rfl | hs
      · exact ⟨h1, hk _ h3, h4, h5, h2⟩
      · obtain ⟨k1, k2, k3, k4, k5⟩ := g1 s hs
        exact ⟨k1, k2, k3, k4, fun z => k5 (List.mem_append_left _ z)⟩
    · rw [List.map_cons, List.nodup_cons]
      refine ⟨fun z => ?_, g2⟩
      obtain ⟨s, hs, e⟩ := List.mem_map.mp z
      exact (g1 s hs).2.2.2.2 (List.mem_append_right _ (by rw [e]; simp))
theorem TreeOk.facts {o : Str} {rs : List Road} (h : TreeOk o rs) : (∀ r ∈ rs, NmOk r.1 ∧ NmOk r.2.1 ∧ 1 ≤ r.2.2 ∧ r.2.2 ≤ 9 ∧ r.1 ∉ [o]) ∧ (rs.map (·.1)).Nodup := h.r.facts fun x hx => by rw [List.mem_singleton] at hx; rw [hx]; exact h.o
theorem gMul_int {i j : Int} {n n' : Bool} {v v' : Option V} {Q : Dv → Prop} : gMul ⟨.int i, n, v⟩ ⟨.int j, n', v'⟩ Q = (CMul i j ∧ Q ⟨.int (i * j), true, none⟩) := rfl
/-- a plan that the law made -/
structure PlanOk (p : PV) : Prop where
  t : TreeOk p.office p.roads
  ro : InOrd p.riders
  lo : InOrd p.letters
  rp : ∀ r ∈ p.riders, ∃ x ∈ p.roads, x.1 = r.1
  lp : ∀ r ∈ p.letters, ∃ x ∈ p.roads, x.1 = r.1
  rb : ∀ r ∈ p.riders, 0 ≤ r.2.1 ∧ r.2.1 ≤ 1000 ∧ 1 ≤ r.2.2 ∧ r.2.2 ≤ 100
  lb : ∀ r ∈ p.letters, 0 ≤ r.2.1 ∧ r.2.1 ≤ 1000 ∧ 0 ≤ r.2.2 ∧ r.2.2 ≤ 300000
  rl : p.riders.length ≤ 100
  ll : p.letters.length ≤ 100
theorem PlanOk.ok {p : PV} (h : PlanOk p) : p.Ok := by
  obtain ⟨t1, t2⟩ := h.t.facts
  refine ⟨h.t.ne, Nat.le_trans h.rl (by decide), Nat.le_trans h.ll (by decide), fun r hr => ?_, fun r hr => ?_, fun r hr => ?_, fun r hr => ?_⟩
  · obtain ⟨x, hx, e⟩ := h.rp r hr
    exact e ▸ nm_ok (t1 x hx).1
  · obtain ⟨x, hx, e⟩ := h.lp r hr
    exact e ▸ nm_ok (t1 x hx).1
  · obtain ⟨h1, h2, h3, h4⟩ := h.rb r hr
    exact ⟨Nat.le_trans (show r.2.1.natAbs ≤ 1000 by omega) (by decide), Nat.le_trans (show r.2.2.natAbs ≤ 100 by omega) (by decide)⟩
  · obtain ⟨h1, h2, h3, h4⟩ := h.lb r hr
    exact ⟨Nat.le_trans (show r.2.1.natAbs ≤ 1000 by omega) (by decide), Nat.le_trans (show r.2.2.natAbs ≤ 300000 by omega) (by decide)⟩
theorem PlanOk.ride {p : PV} (h : PlanOk p) (hd : ∀ r ∈ p.letters, r.2.2 ≤ 1000) : RideOk p := by
  obtain ⟨t1, t2⟩ := h.t.facts
  have := h.t.l
  refine ⟨h.ok, t2, by omega, nm_ok h.t.o, fun r hr => ?_, h.rp, fun r hr => ?_, fun r hr => ?_⟩
  · obtain ⟨h1, h2, h3, h4, _⟩ := t1 r hr
    exact ⟨nm_ok h1, nm_ok h2, by omega⟩
  · obtain ⟨h1, h2, h3, h4⟩ := h.rb r hr
    omega
  · obtain ⟨h1, h2, h3, h4⟩ := h.lb r hr
    have := hd r hr
    omega
theorem canSort_row {l : List Row} {n : Nat} (hn : n ≤ 10 ^ 30) (h : ∀ r ∈ l, NmOk r.1 ∧ r.2.1.natAbs ≤ n ∧ r.2.2.natAbs ≤ n) : CanSort (l.map rowD) :=
  canSort_tr fun r hr => ⟨nm_ok (h r hr).1, Nat.le_trans (h r hr).2.1 hn, Nat.le_trans (h r hr).2.2 hn⟩
theorem srt_rows (l : List Row) : srtD (l.map rowD) = (sortT l).map rowD := sortT_eq l
theorem sortT_mem {l : List Row} {r : Row} (h : r ∈ sortT l) : r ∈ l := (sortT_perm l).mem_iff.mp h
theorem sortT_len (l : List Row) : (sortT l).length = l.length := (sortT_perm l).length_eq
section
variable {P : Program} {w : World} {K : PySem.W.Frag} {mg : Str → Option Value} {base : Heap}
theorem sc__law_plan : FnScope ["stream", "posts", "riders", "letters", "names", "k", "plan", "slack", "office", "roads", "span", "some", "notes", "post", "ticks", "found", "road", "tick", "due", "by"] ["stream", "posts", "riders", "letters"] (defScope s__law_plan) := ⟨rfl, rfl, rfl, by decide +kernel, rfl, by decide +kernel, by decide +kernel⟩
def c__law_plan : DC := fun ds _ _ Q => ∃ a b c : Int, ds = [.strm, .int a, .int b, .int c] ∧ 1 ≤ a ∧ a ≤ 7 ∧ 1 ≤ b ∧ b ≤ 30 ∧ 0 ≤ c ∧ c ≤ 30 ∧ ∀ p : PV, PlanOk p → (p.riders.length : Int) ≤ b → (p.letters.length : Int) ≤ c → ∀ f, Q ⟨p.d, f, none⟩
theorem ok__law_plan (T : Txt K mg) : FnD P w K mg base 5 T.f__law_plan.f T.f__law_plan.fd ["stream", "posts", "riders", "letters"] (BIG * (MAXT + 9 * BIG)) c__law_plan := by
  refine fn_ok T.f__law_plan.ok sc__law_plan fun cdv A outer s H E hr => ⟨_, _, (dss_cons (ds_asg [] (de_call ((ok__law_tree T).mono (by decide)) hr (by rfl) T.f__law_tree.g T.f__law_tree.ok.kp T.f__law_tree.b (passE (takes_of rfl rfl rfl rfl)) rfl (da_cons (de_var (pv 0)) (da_cons (de_var (pv 1)) da_nil))) (dg_tup (n := 2) rfl (dgs_cons (dg_name (pg_name (i := 8) sc__law_plan.nd rfl (Or.inl rfl))) (dgs_cons (dg_name (pg_name (i := 9) sc__law_plan.nd rfl (Or.inl rfl))) dgs_nil))) (fun _ _ a b => ps_asg a b))
      (dss_cons (ds_setLc (i := 4) (own := [("road", 16)]) [] rfl sc__law_plan.nd rfl rfl (sw_true rfl rfl rfl (by decide +kernel)) (di_seq (de_var (pv 9))) (blkOk_by (N := ["stream", "posts", "riders", "letters", "names", "k", "plan", "slack", "office", "roads", "span", "some", "notes", "post", "ticks", "found", "road", "tick", "due", "by"]) (sc := defScope s__law_plan) (by decide +kernel)) (fun _ _ _ _ _ => (dg_name (pg_name (i := 16) sc__law_plan.nd rfl (Or.inl rfl)))) (fun _ _ _ _ _ => dts_nil) (fun _ _ _ _ _ => (de_ix (de_var (pv 16)) de_int (fun _ _ => rfl))) (by decide))
      (dss_cons (ds_par3 (i := 10) (j := 11) (m := 12) [] (dp_va (de_op dop_add de_int (de_call ((ok__law_draw T).mono (by decide)) hr (by rfl) T.f__law_draw.g T.f__law_draw.ok.kp T.f__law_draw.b (passE (takes_of rfl rfl rfl rfl)) rfl (da_cons (de_var (pv 0)) (da_cons (de_call ((ok__law_pick T).mono (by decide)) hr (by rfl) T.f__law_pick.g T.f__law_pick.ok.kp T.f__law_pick.b (passE (takes_of rfl rfl rfl rfl)) rfl (da_cons (de_var (pv 0)) (da_cons (de_lst (da_cons de_int (da_cons de_int da_nil))) da_nil))) da_nil))))) (dp_ow (dn_lst da_nil)) (dp_ow (dn_lst da_nil)) rfl sc__law_plan.nd rfl rfl rfl (by decide) (by decide) (by decide) (by rfl) (by rfl) (by rfl) (by rfl))
      (dss_cons (ds_for [] (passes_of rfl) rfl (di_range1 (by rfl) T.n_range (da_cons (de_op dop_add de_int (de_call ((ok__law_draw T).mono (by decide)) hr (by rfl) T.f__law_draw.g T.f__law_draw.ok.kp T.f__law_draw.b (passE (takes_of rfl rfl rfl rfl)) rfl (da_cons (de_var (pv 0)) (da_cons (de_var (pv 2)) da_nil)))) da_nil)) (dg_name (pg_name (i := 5) sc__law_plan.nd rfl (Or.inl rfl)))
      (dss_cons (ds_asg [] (de_call ((ok__law_pick T).mono (by decide)) hr (by rfl) T.f__law_pick.g T.f__law_pick.ok.kp T.f__law_pick.b (passE (takes_of rfl rfl rfl rfl)) rfl (da_cons (de_var (pv 0)) (da_cons (de_var (pv 4)) da_nil))) (dg_name (pg_name (i := 13) sc__law_plan.nd rfl (Or.inl rfl))) (fun _ _ a b => ps_asg a b))
      (dss_one (ds_append [] (de_tup (da_cons (de_var (pv 13)) (da_cons (de_call ((ok__law_draw T).mono (by decide)) hr (by rfl) T.f__law_draw.g T.f__law_draw.ok.kp T.f__law_draw.b (passE (takes_of rfl rfl rfl rfl)) rfl (da_cons (de_var (pv 0)) (da_cons (de_op dop_add (de_op dop_add (de_var (pv 10)) (de_op dop_fdiv (de_op dop_mul de_int (de_index (fun _ _ a b => pe_bm PySem.F.plainAttrs_list PySem.F.slot_list_index PySem.F.type_list_index mt_index a (pa_cons b pa_nil)) (de_var (pv 4)) (de_var (pv 13)))) de_int)) de_int) da_nil))) (da_cons (de_op dop_add de_int (de_call ((ok__law_pick T).mono (by decide)) hr (by rfl) T.f__law_pick.g T.f__law_pick.ok.kp T.f__law_pick.b (passE (takes_of rfl rfl rfl rfl)) rfl (da_cons (de_var (pv 0)) (da_cons (de_lst (da_cons de_int (da_cons de_int (da_cons de_int (da_cons de_int da_nil))))) da_nil)))) da_nil)))) (fun _ a => ps_expr (pe_bm PySem.F.plainAttrs_list PySem.F.slot_list_append PySem.F.type_list_append mt_append (pv 11) (pa_cons a pa_nil)))))))
      (dss_cons (ds_for [] (passes_of rfl) rfl (di_range1 (by rfl) T.n_range (da_cons (de_call ((ok__law_draw T).mono (by decide)) hr (by rfl) T.f__law_draw.g T.f__law_draw.ok.kp T.f__law_draw.b (passE (takes_of rfl rfl rfl rfl)) rfl (da_cons (de_var (pv 0)) (da_cons (de_op dop_add (de_var (pv 3)) de_int) da_nil))) da_nil)) (dg_name (pg_name (i := 5) sc__law_plan.nd rfl (Or.inl rfl)))
      (dss_one (ds_append [] (de_tup (da_cons (de_call ((ok__law_pick T).mono (by decide)) hr (by rfl) T.f__law_pick.g T.f__law_pick.ok.kp T.f__law_pick.b (passE (takes_of rfl rfl rfl rfl)) rfl (da_cons (de_var (pv 0)) (da_cons (de_var (pv 4)) da_nil))) (da_cons (de_call ((ok__law_draw T).mono (by decide)) hr (by rfl) T.f__law_draw.g T.f__law_draw.ok.kp T.f__law_draw.b (passE (takes_of rfl rfl rfl rfl)) rfl (da_cons (de_var (pv 0)) (da_cons (de_callB (dcl_max2 rfl) (by rfl) T.n_max (by decide +kernel) (da_cons (de_op dop_fdiv (de_var (pv 10)) de_int) (da_cons de_int da_nil))) da_nil))) (da_cons de_int da_nil)))) (fun _ a => ps_expr (pe_bm PySem.F.plainAttrs_list PySem.F.slot_list_append PySem.F.type_list_append mt_append (pv 12) (pa_cons a pa_nil))))))
      (dss_cons (ds_asg [11, 12] (de_tup (da_cons (de_var (pv 8)) (da_cons (de_var (pv 9)) (da_cons (de_callB (dcl_sortedD (hr.mono (by decide))) (by rfl) T.n_sorted (by decide +kernel) (da_cons (de_var (pv 11)) da_nil)) (da_cons (de_callB (dcl_sortedD (hr.mono (by decide))) (by rfl) T.n_sorted (by decide +kernel) (da_cons (de_var (pv 12)) da_nil)) da_nil))))) (dg_name (pg_name (i := 6) sc__law_plan.nd rfl (Or.inl rfl))) (fun _ _ a b => ps_asg a b))
      (dss_cons (ds_par2 (i := 14) (j := 15) [] (dp_va (de_ix (de_call ((ok__law_ride T).mono (by decide)) hr (by rfl) T.f__law_ride.g T.f__law_ride.ok.kp T.f__law_ride.b (passE (takes_of rfl rfl rfl rfl)) rfl (da_cons (de_var (pv 6)) (da_cons (de_lst da_nil) da_nil))) de_int (fun _ _ => rfl))) (dp_ow (dn_lst da_nil)) rfl sc__law_plan.nd rfl rfl (by decide) (by rfl) (by rfl) (by rfl))
      (dss_cons (ds_asg [] (de_call ((ok__law_pick T).mono (by decide)) hr (by rfl) T.f__law_pick.g T.f__law_pick.ok.kp T.f__law_pick.b (passE (takes_of rfl rfl rfl rfl)) rfl (da_cons (de_var (pv 0)) (da_cons (de_lst (da_cons (de_lst (da_cons de_int da_nil)) (da_cons (de_lst (da_cons de_int (da_cons de_int (da_cons de_int da_nil)))) (da_cons (de_lst (da_cons de_int (da_cons de_int (da_cons de_int da_nil)))) (da_cons (de_lst (da_cons de_int (da_cons de_int (da_cons de_int da_nil)))) da_nil))))) da_nil))) (dg_name (pg_name (i := 7) sc__law_plan.nd rfl (Or.inl rfl))) (fun _ _ a b => ps_asg a b))
      (dss_cons (ds_for [] (passes_of rfl) rfl (di_enum (by rfl) T.n_enumerate (da_cons (de_ix (de_var (pv 6)) de_int (fun _ _ => rfl)) da_nil)) (dg_tup (n := 2) rfl (dgs_cons (dg_name (pg_name (i := 5) sc__law_plan.nd rfl (Or.inl rfl))) (dgs_cons (dg_tup (n := 3) rfl (dgs_cons (dg_name (pg_name (i := 13) sc__law_plan.nd rfl (Or.inl rfl))) (dgs_cons (dg_name (pg_name (i := 17) sc__law_plan.nd rfl (Or.inl rfl))) (dgs_cons (dg_name (pg_name (i := 18) sc__law_plan.nd rfl (Or.inl rfl))) dgs_nil)))) dgs_nil)))
      (dss_one (ds_if [] (dt_imp (g := fun ρ XQ Q => ∃ (ticks : List (Option Int)) (i : Nat) (n0 n5 n14 : Bool) (v0 v5 v14 : Option V), ρ[0]? = some (.va ⟨.strm, n0, v0⟩) ∧ ρ[5]? = some (.va ⟨.int (i : Nat), n5, v5⟩) ∧ ρ[14]? = some (.va ⟨.lst (ticks.map lastD), n14, v14⟩) ∧ i < ticks.length ∧ ∀ b, Q b) (DW.dt (dw_or (dt_cmp dop_notN (de_ix (de_var (pv 14)) (de_var (pv 5)) (fun _ _ => rfl)) de_non (nomark _)) (dw_or1 (dt_cmp (dop_eq hr.units) (de_call ((ok__law_draw T).mono (by decide)) hr (by rfl) T.f__law_draw.g T.f__law_draw.ok.kp T.f__law_draw.b (passE (takes_of rfl rfl rfl rfl)) rfl (da_cons (de_var (pv 0)) (da_cons de_int da_nil))) de_int (nomark _))))) (fun ρ XQ Q h => by
    obtain ⟨ticks, i, n0, n5, n14, v0, v5, v14, h0, h5, h14, hi, q⟩ := h
    simp only [h0, h5, h14, getV_va]
    try simp only [frz, params, setAll, List.zipWith, List.length_cons, List.length_nil, Nat.reduceAdd, Nat.reduceSub, List.replicate, List.append_nil, List.cons_append, List.nil_append, getV_va, Pt.sl, true_and, List.getElem?_cons_zero, List.getElem?_cons_succ, List.set_cons_zero, List.set_cons_succ, ite_self, Bool.false_eq_true, if_false, if_true]
    refine gIxL lastD (List.getElem?_eq_getElem hi) fun f => ⟨?_, fun _ => lastD_vee⟩
    cases ticks[i] with
    | some t => exact ⟨true, rfl, q true⟩
    | none =>
      refine ⟨false, rfl, ite_f (by decide) (gDraw (by decide) (by decide) fun k k0 k1 => ?_)⟩
      rw [gEq_int, bl_of]
      exact q _)) (dss_cons (ds_asg [] (de_imp (g := fun ρ XQ Q => ∃ (ticks : List (Option Int)) (i : Nat) (zs : List Int) (t : Int) (n0 n5 n7 n14 n17 : Bool) (v0 v5 v7 v14 v17 : Option V), ρ[0]? = some (.va ⟨.strm, n0, v0⟩) ∧ ρ[5]? = some (.va ⟨.int (i : Nat), n5, v5⟩) ∧ ρ[7]? = some (.va ⟨.lst (zs.map D.int), n7, v7⟩) ∧ ρ[14]? = some (.va ⟨.lst (ticks.map lastD), n14, v14⟩) ∧ ρ[17]? = some (.va ⟨.int t, n17, v17⟩) ∧ i < ticks.length ∧ (∀ x ∈ ticks, ∀ j, x = some j → j.natAbs ≤ 200000) ∧ 0 ≤ t ∧ t ≤ 1000 ∧ zs ≠ [] ∧ zs.length ≤ 3 ∧ (∀ z ∈ zs, 0 ≤ z ∧ z ≤ 20) ∧ ∀ y : Int, -300000 ≤ y → y ≤ 300000 → Q ⟨.int y, true, none⟩) (de_if (dt_cmp dop_isN (de_ix (de_var (pv 14)) (de_var (pv 5)) (fun _ _ => rfl)) de_non (nomark _)) (de_op dop_add (de_var (pv 17)) de_int) (de_op dop_sub (de_op dop_add (de_ix (de_var (pv 14)) (de_var (pv 5)) (fun _ _ => rfl)) (de_call ((ok__law_pick T).mono (by decide)) hr (by rfl) T.f__law_pick.g T.f__law_pick.ok.kp T.f__law_pick.b (passE (takes_of rfl rfl rfl rfl)) rfl (da_cons (de_var (pv 0)) (da_cons (de_var (pv 7)) da_nil)))) (de_callTy dcl_int (by rfl) T.n_int (by decide +kernel) (da_cons (de_cmp (dop_eq hr.units) (de_call ((ok__law_draw T).mono (by decide)) hr (by rfl) T.f__law_draw.g T.f__law_draw.ok.kp T.f__law_draw.b (passE (takes_of rfl rfl rfl rfl)) rfl (da_cons (de_var (pv 0)) (da_cons de_int da_nil))) de_int (nomark _)) da_nil)))) (fun ρ XQ Q h => by
    obtain ⟨ticks, i, zs, t, n0, n5, n7, n14, n17, v0, v5, v7, v14, v17, h0, h5, h7, h14, h17, hi, hb, ht0, ht1, zn, zl, zb, q⟩ := h
    simp only [h0, h5, h7, h14, h17, getV_va]
    try simp only [frz, params, setAll, List.zipWith, List.length_cons, List.length_nil, Nat.reduceAdd, Nat.reduceSub, List.replicate, List.append_nil, List.cons_append, List.nil_append, getV_va, Pt.sl, true_and, List.getElem?_cons_zero, List.getElem?_cons_succ, List.set_cons_zero, List.set_cons_succ, ite_self, Bool.false_eq_true, if_false, if_true]
    have hm := hb _ (List.getElem_mem hi)
    refine gIxL lastD (List.getElem?_eq_getElem hi) fun f => ⟨?_, fun _ => lastD_vee⟩
    cases e : ticks[i] with
    | none =>
      refine ⟨true, rfl, ite_t rfl ?_⟩
      rw [gAdd_int]
      exact q _ (by omega) (by omega)
    | some j =>
      have hj := hm j e
      refine ⟨false, rfl, ite_f (by decide) ?_⟩
      refine gIxL lastD (List.getElem?_eq_getElem hi) fun f => ?_
      rw [e]
      refine gPickI zs zn (by omega) fun z hz fz => ?_
      have hz2 := zb z hz
      show gAdd ⟨.int j, _, none⟩ ⟨.int z, _, none⟩ _
      rw [gAdd_int]
      refine gDraw (by decide) (by decide) fun k k0 k1 => ?_
      rw [gEq_int, g1_of]
      show gI _ _ ⟨.int (j + z), true, none⟩ ⟨.int (if (k == 0) = true then 1 else 0), true, none⟩ Q
      rw [gI_of]
      refine ⟨trivial, q _ ?_ ?_⟩ <;> split <;> omega)) (dg_name (pg_name (i := 19) sc__law_plan.nd rfl (Or.inl rfl))) (fun _ _ a b => ps_asg a b))
      (dss_one (ds_append [] (de_tup (da_cons (de_var (pv 13)) (da_cons (de_var (pv 17)) (da_cons (de_callB (dcl_max2 rfl) (by rfl) T.n_max (by decide +kernel) (da_cons (de_var (pv 19)) (da_cons de_int da_nil))) da_nil)))) (fun _ a => ps_expr (pe_bm PySem.F.plainAttrs_list PySem.F.slot_list_append PySem.F.type_list_append mt_append (pv 15) (pa_cons a pa_nil)))))) dss_nil)))
      (dss_one (ds_ret [15] (de_tup (da_cons (de_var (pv 8)) (da_cons (de_var (pv 9)) (da_cons (de_ix (de_var (pv 6)) de_int (fun _ _ => rfl)) (da_cons (de_callB (dcl_sortedD (hr.mono (by decide))) (by rfl) T.n_sorted (by decide +kernel) (da_cons (de_var (pv 15)) da_nil)) da_nil)))))))))))))))), by decide +kernel, fun ds vs XQ Q hd hv h => ?_⟩
  obtain ⟨a, b, c, rfl, a0, a1, b0, b1, c0, c1, q⟩ := h
  match vs, hv with
  | [v, v2, v3, v4], _ =>
  try simp only [frz, params, setAll, List.zipWith, List.length_cons, List.length_nil, Nat.reduceAdd, Nat.reduceSub, List.replicate, List.append_nil, List.cons_append, List.nil_append, getV_va, Pt.sl, true_and, List.getElem?_cons_zero, List.getElem?_cons_succ, List.set_cons_zero, List.set_cons_succ, ite_self, Bool.false_eq_true, if_false, if_true]
  refine gCall_of fun _ => ⟨a, rfl, a0, a1, fun office roads ht f => ?_⟩
  dsimp only
  rw [unp_seq (by rfl)]
  refine ⟨rfl, ?_⟩
  simp only [List.map_cons, List.map_nil]
  refine ⟨trivial, ?_⟩
  try simp only [frz, params, setAll, List.zipWith, List.length_cons, List.length_nil, Nat.reduceAdd, Nat.reduceSub, List.replicate, List.append_nil, List.cons_append, List.nil_append, getV_va, Pt.sl, true_and, List.getElem?_cons_zero, List.getElem?_cons_succ, List.set_cons_zero, List.set_cons_succ, ite_self, Bool.false_eq_true, if_false, if_true]
  have hrl := ht.l
  rw [items_seq (by rfl), List.map_map]
  refine ⟨by rw [List.length_map]; unfold BIG; omega, lc_mapA (g := fun r : Road => D.str r.1) (fun r hr2 K1 K0 k1 => ?_) fun f1 => ?_⟩
  · try simp only [lcStep, true_and, wipeR, List.map_cons, List.map_nil, List.set_cons_succ, List.set_cons_zero, List.getElem?_cons_succ, List.getElem?_cons_zero, getV_va, if_true]
    exact ⟨_, rfl, k1 _ _⟩
  have en : roads.map (fun r : Road => D.str r.1) = (roads.map (·.1)).map D.str := by rw [List.map_map]; rfl
  rw [en]
  have nne : roads.map (·.1) ≠ [] := by
    intro z
    exact ht.ne (List.map_eq_nil_iff.mp z)
  have hnl : (roads.map (·.1)).length ≤ 8 := by rw [List.length_map]; exact hrl
  have hnm : ∀ x ∈ roads.map (·.1), ∃ r ∈ roads, r.1 = x := fun x hx => by
    obtain ⟨r, hr, e⟩ := List.mem_map.mp hx
    exact ⟨r, hr, e⟩
  generalize hns : roads.map (·.1) = names at nne hnl hnm
  try simp only [frz, params, setAll, List.zipWith, List.length_cons, List.length_nil, Nat.reduceAdd, Nat.reduceSub, List.replicate, List.append_nil, List.cons_append, List.nil_append, getV_va, Pt.sl, true_and, List.getElem?_cons_zero, List.getElem?_cons_succ, List.set_cons_zero, List.set_cons_succ, ite_self, Bool.false_eq_true, if_false, if_true]
  refine ⟨by decide, gPickI [4, 12] (by decide) (by decide) fun z hz f2 => ?_⟩
  have hz12 : 4 ≤ z ∧ z ≤ 12 := by
    simp only [List.mem_cons, List.not_mem_nil, or_false] at hz
    omega
  refine gDraw (by omega) (by omega) fun sp sp0 sp1 => ?_
  rw [gAdd_int]
  refine ⟨by decide, by decide, gDraw (by omega) (by omega) fun many m0 m1 => ?_⟩
  rw [gAdd_int]
  refine ⟨by omega, by omega, .inr (by rw [rgD_len]; unfold BIG; omega), ?_⟩
  have pk : ∀ {ρ : Ro} {XQ : XQT} {Q : Dv → Prop} {n n2 : Bool} {v v2 : Option V}, (∀ x, (∃ r ∈ roads, r.1 = x) → x ∈ names → ∀ f, Q ⟨.str x, f, none⟩) → gCall c__law_pick ρ XQ [⟨.strm, n, v⟩, ⟨.lst (names.map D.str), n2, v2⟩] Q := fun h => gPickS names nne (by omega) fun x hx f => h x (hnm x hx) hx f
  refine for_idx (fun i ρ => ∃ f4 f8 f9 f11 f12 s5 s13, ∃ S : List Row, ρ = [Sl.va ⟨.strm, D.strm.imm, some v⟩, .va ⟨.int a, (D.int a).imm, some v2⟩, .va ⟨.int b, (D.int b).imm, some v3⟩, .va ⟨.int c, (D.int c).imm, some v4⟩, .va ⟨.lst (names.map D.str), f4, none⟩, s5, .un, .un, .va ⟨.str office, f8, none⟩, .va ⟨.lst (roads.map roadD), f9, none⟩, .va ⟨.int (4 + sp), true, none⟩, .ow (.lst (S.map rowD)) f11, .ow (.lst []) f12, s13, .un, .un, .un, .un, .un, .un] ∧ S.length ≤ i ∧ ∀ r ∈ S, (∃ x ∈ roads, x.1 = r.1) ∧ 0 ≤ r.2.1 ∧ r.2.1 ≤ 1000 ∧ 1 ≤ r.2.2 ∧ r.2.2 ≤ 100) _ 0 _ ⟨_, _, _, _, _, _, _, [], rfl, by simp, fun r h => (nomatch h)⟩ (fun i x hx ρ hI K kk => ?_) fun ρ hI => ?_
  · obtain ⟨f4, f8, f9, f11, f12, s5, s13, S, rfl, hl, hS⟩ := hI
    obtain ⟨hi, rfl⟩ := rgD_get hx
    try simp only [frz, params, setAll, List.zipWith, List.length_cons, List.length_nil, Nat.reduceAdd, Nat.reduceSub, List.replicate, List.append_nil, List.cons_append, List.nil_append, getV_va, Pt.sl, true_and, List.getElem?_cons_zero, List.getElem?_cons_succ, List.set_cons_zero, List.set_cons_succ, ite_self, Bool.false_eq_true, if_false, if_true]
    refine pk fun x hxr hxn fx => ?_
    have hix := idxS_lt hxn
    refine ⟨⟨_, _, rfl⟩, ⟨_, rfl⟩, _, _, rfl, rfl, hxn, ?_⟩
    rw [gMul_int]
    refine ⟨.inl (by decide), ?_⟩
    rw [gI_of]
    refine ⟨⟨by decide, by decide⟩, ?_⟩
    rw [gAdd_int, gAdd_int]
    have hq0 : 0 ≤ 3 * ((idxS x names : Nat) : Int) / 2 := by omega
    have hq1 : 3 * ((idxS x names : Nat) : Int) / 2 ≤ 12 := by omega
    refine gDraw (by omega) (by omega) fun t t0 t1 => ?_
    refine ⟨by decide, gPickI [0, 0, 1, 2] (by decide) (by decide) fun w hw fw => ?_⟩
    have hw2 : 0 ≤ w ∧ w ≤ 2 := by
      simp only [List.mem_cons, List.not_mem_nil, or_false] at hw
      omega
    rw [gAdd_int]
    refine ⟨by decide, _, _, rfl, by rw [List.length_map]; unfold BIG; omega, kk _ ⟨_, _, _, _, _, _, _, S ++ [(x, t, 1 + w)], (by rw [List.map_append]; exact rfl), by rw [List.length_append]; show S.length + 1 ≤ _; omega, fun r hr2 => ?_⟩⟩
    rcases List.mem_append.mp hr2 with hr2 | hr2
    · exact hS r hr2
    · rw [List.mem_singleton] at hr2
      subst hr2
      exact ⟨hxr, t0, by show t ≤ 1000; omega, by show (1 : Int) ≤ 1 + w; omega, by show 1 + w ≤ (100 : Int); omega⟩
  obtain ⟨f4, f8, f9, f11, f12, s5, s13, S, rfl, hSl, hS⟩ := hI
  rw [rgD_len] at hSl
  try simp only [frz, params, setAll, List.zipWith, List.length_cons, List.length_nil, Nat.reduceAdd, Nat.reduceSub, List.replicate, List.append_nil, List.cons_append, List.nil_append, getV_va, Pt.sl, true_and, List.getElem?_cons_zero, List.getElem?_cons_succ, List.set_cons_zero, List.set_cons_succ, ite_self, Bool.false_eq_true, if_false, if_true]
  rw [gAdd_int]
  refine gDraw (by omega) (by omega) fun notes n0 n1 => ?_
  refine ⟨by omega, by omega, .inr (by rw [rgD_len]; unfold BIG; omega), ?_⟩
  refine for_idx (fun i ρ => ∃ f4 f8 f9 f11 f12 s5 s13, ∃ N : List Row, ρ = [Sl.va ⟨.strm, D.strm.imm, some v⟩, .va ⟨.int a, (D.int a).imm, some v2⟩, .va ⟨.int b, (D.int b).imm, some v3⟩, .va ⟨.int c, (D.int c).imm, some v4⟩, .va ⟨.lst (names.map D.str), f4, none⟩, s5, .un, .un, .va ⟨.str office, f8, none⟩, .va ⟨.lst (roads.map roadD), f9, none⟩, .va ⟨.int (4 + sp), true, none⟩, .ow (.lst (S.map rowD)) f11, .ow (.lst (N.map rowD)) f12, s13, .un, .un, .un, .un, .un, .un] ∧ N.length ≤ i ∧ ∀ r ∈ N, (∃ x ∈ roads, x.1 = r.1) ∧ 0 ≤ r.2.1 ∧ r.2.1 ≤ 1000 ∧ r.2.2 = 0) _ 0 _ ⟨_, _, _, _, _, _, _, [], rfl, by simp, fun r h => (nomatch h)⟩ (fun i x hx ρ hI K kk => ?_) fun ρ hI => ?_
  · obtain ⟨f4, f8, f9, f11, f12, s5, s13, N, rfl, hl, hN⟩ := hI
    obtain ⟨hi, rfl⟩ := rgD_get hx
    try simp only [frz, params, setAll, List.zipWith, List.length_cons, List.length_nil, Nat.reduceAdd, Nat.reduceSub, List.replicate, List.append_nil, List.cons_append, List.nil_append, getV_va, Pt.sl, true_and, List.getElem?_cons_zero, List.getElem?_cons_succ, List.set_cons_zero, List.set_cons_succ, ite_self, Bool.false_eq_true, if_false, if_true]
    refine ⟨⟨_, _, rfl⟩, pk fun x hxr hxn fx => ?_⟩
    rw [gI_of]
    refine ⟨⟨by decide, by decide⟩, ?_⟩
    rw [g2I_int]
    refine gDraw (by split <;> omega) (by split <;> omega) fun t t0 t1 => ?_
    have ht9 : t ≤ 1000 := by
      split at t1 <;> omega
    refine ⟨by decide, _, _, rfl, by rw [List.length_map]; unfold BIG; omega, kk _ ⟨_, _, _, _, _, _, _, N ++ [(x, t, 0)], (by rw [List.map_append]; exact rfl), by rw [List.length_append]; show N.length + 1 ≤ _; omega, fun r hr2 => ?_⟩⟩
    rcases List.mem_append.mp hr2 with hr2 | hr2
    · exact hN r hr2
    · rw [List.mem_singleton] at hr2
      subst hr2
      exact ⟨hxr, t0, ht9, rfl⟩
  obtain ⟨f4, f8, f9, f11, f12, s5, s13, N, rfl, hNl, hN⟩ := hI
  rw [rgD_len] at hNl
  try simp only [D.sca, frz, params, setAll, List.zipWith, List.length_cons, List.length_nil, Nat.reduceAdd, Nat.reduceSub, List.replicate, List.append_nil, List.cons_append, List.nil_append, getV_va, Pt.sl, true_and, List.getElem?_cons_zero, List.getElem?_cons_succ, List.set_cons_zero, List.set_cons_succ, ite_self, Bool.false_eq_true, if_false, if_true]
  have t1 := ht.facts.1
  have nmr : ∀ {x : Str}, (∃ r ∈ roads, r.1 = x) → NmOk x := fun ⟨r, hr, e⟩ => e ▸ (t1 r hr).1
  rw [g1_of]
  refine ⟨_, rfl, canSort_row (n := 1000) (by decide) fun r hr2 => ?_, ?_⟩
  · obtain ⟨h1, h2, h3, h4, h5⟩ := hS r hr2
    exact ⟨nmr h1, by omega, by omega⟩
  rw [srt_rows]
  dsimp only
  rw [g1_of]
  refine ⟨_, rfl, canSort_row (n := 1000) (by decide) fun r hr2 => ?_, ?_⟩
  · obtain ⟨h1, h2, h3, h4⟩ := hN r hr2
    exact ⟨nmr h1, by omega, by omega⟩
  rw [srt_rows]
  try simp only [D.sca, frz, params, setAll, List.zipWith, List.length_cons, List.length_nil, Nat.reduceAdd, Nat.reduceSub, List.replicate, List.append_nil, List.cons_append, List.nil_append, getV_va, Pt.sl, true_and, List.getElem?_cons_zero, List.getElem?_cons_succ, List.set_cons_zero, List.set_cons_succ, ite_self, Bool.false_eq_true, if_false, if_true]
  have hp0 : PlanOk ⟨office, roads, sortT S, sortT N⟩ := ⟨ht, sortT_ord _, sortT_ord _, fun r hr => (hS r (sortT_mem hr)).1, fun r hr => (hN r (sortT_mem hr)).1, fun r hr => (hS r (sortT_mem hr)).2, fun r hr => by
    obtain ⟨h1, h2, h3, h4⟩ := hN r (sortT_mem hr)
    have h2 : 0 ≤ r.2.1 := h2
    exact ⟨h2, h3, by omega, by omega⟩, by show (sortT S).length ≤ 100; rw [sortT_len]; omega, by show (sortT N).length ≤ 100; rw [sortT_len]; omega⟩
  refine ⟨by decide, by decide, gCall_of fun _ => ⟨⟨office, roads, sortT S, sortT N⟩, rfl, hp0.ride fun r hr => ?_, fun log ticks f5 htl htb => ?_⟩⟩
  · have := (hN r (sortT_mem hr)).2.2.2
    omega
  refine ⟨_, rfl, by decide, by decide, by decide, by decide, by decide, by decide, gCall_of fun _ => ⟨_, _, rfl, rfl, by simp, by simp, fun y hy fy => ?_⟩⟩
  have hzs : ∃ zs : List Int, y = .lst (zs.map D.int) ∧ zs ≠ [] ∧ zs.length ≤ 3 ∧ ∀ z ∈ zs, 0 ≤ z ∧ z ≤ 20 := by
    simp only [List.map_cons, List.map_nil, List.mem_cons, List.not_mem_nil, or_false] at hy
    rcases hy with rfl | rfl | rfl | rfl
    · exact ⟨[0], rfl, by decide, by decide, by decide⟩
    · exact ⟨[0, 1, 2], rfl, by decide, by decide, by decide⟩
    · exact ⟨[0, 3, 9], rfl, by decide, by decide, by decide⟩
    · exact ⟨[1, 5, 20], rfl, by decide, by decide, by decide⟩
  obtain ⟨zs, rfl, zn, zl, zb⟩ := hzs
  refine ⟨_, rfl, ?_⟩
  dsimp only
  refine ⟨.inr (by rw [enumD_len, List.length_map, sortT_len]; unfold BIG; omega), ?_⟩
  refine for_idx (fun i ρ => ∃ f4 f6 f7 f8 f9 f14 f15 s5 s11 s12 s13 s17 s18 s19, ∃ F : List Row, ρ = [Sl.va ⟨.strm, D.strm.imm, some v⟩, .va ⟨.int a, (D.int a).imm, some v2⟩, .va ⟨.int b, (D.int b).imm, some v3⟩, .va ⟨.int c, (D.int c).imm, some v4⟩, .va ⟨.lst (names.map D.str), f4, none⟩, s5, .va ⟨.tup [.str office, .lst (roads.map roadD), .lst ((sortT S).map rowD), .lst ((sortT N).map rowD)], f6, none⟩, .va ⟨.lst (zs.map D.int), f7, none⟩, .va ⟨.str office, f8, none⟩, .va ⟨.lst (roads.map roadD), f9, none⟩, .va ⟨.int (4 + sp), true, none⟩, s11, s12, s13, .va ⟨.lst (ticks.map lastD), f14, none⟩, .ow (.lst (F.map rowD)) f15, .un, s17, s18, s19] ∧ F.length ≤ i ∧ ∀ r ∈ F, (∃ x ∈ roads, x.1 = r.1) ∧ 0 ≤ r.2.1 ∧ r.2.1 ≤ 1000 ∧ 0 ≤ r.2.2 ∧ r.2.2 ≤ 300000) _ 0 _ ⟨_, _, _, _, _, _, _, _, _, _, _, _, _, _, [], rfl, by simp, fun r h => (nomatch h)⟩ (fun i x hx ρ hI K kk => ?_) fun ρ hI => ?_
  · obtain ⟨f4, f6, f7, f8, f9, f14, f15, s5, s11, s12, s13, s17, s18, s19, F, rfl, hl, hF⟩ := hI
    rw [Nat.zero_add] at hl kk
    obtain ⟨d, hd2, rfl⟩ := enumD_get hx
    rw [List.getElem?_map] at hd2
    cases e : (sortT N)[i]? with
    | none => rw [e] at hd2; cases hd2
    | some nt =>
    rw [e] at hd2
    cases hd2
    have hnt := hN nt (sortT_mem (List.mem_of_getElem? e))
    have hi := (List.getElem?_eq_some_iff.mp e).1
    rw [sortT_len] at hi
    have htl2 : ticks.length = N.length := htl.trans (sortT_len N)
    rw [unp_seq (by rfl)]
    refine ⟨rfl, ?_⟩
    simp only [List.map_cons, List.map_nil]
    rw [unp_seq (by rfl)]
    refine ⟨rfl, ?_⟩
    simp only [List.map_cons, List.map_nil]
    refine ⟨trivial, trivial, ?_⟩
    try simp only [frz, params, setAll, List.zipWith, List.length_cons, List.length_nil, Nat.reduceAdd, Nat.reduceSub, List.replicate, List.append_nil, List.cons_append, List.nil_append, getV_va, Pt.sl, true_and, List.getElem?_cons_zero, List.getElem?_cons_succ, List.set_cons_zero, List.set_cons_succ, ite_self, Bool.false_eq_true, if_false, if_true]
    have go : ∀ {ρ'}, K ρ' → K ρ' := id
    refine ⟨ticks, 0 + i, _, _, _, _, _, _, rfl, rfl, rfl, by omega, fun bb => ?_⟩
    by_cases hbb : bb = true
    case neg => exact ite_f hbb (kk _ ⟨_, _, _, _, _, _, _, _, _, _, _, _, _, _, F, rfl, by omega, hF⟩)
    refine ite_t hbb ⟨ticks, 0 + i, zs, nt.2.1, _, _, _, _, _, _, _, _, _, _, rfl, rfl, rfl, rfl, rfl, by omega, htb, hnt.2.1, hnt.2.2.1, zn, zl, zb, fun y y0 y1 => ?_⟩
    try simp only [frz, params, setAll, List.zipWith, List.length_cons, List.length_nil, Nat.reduceAdd, Nat.reduceSub, List.replicate, List.append_nil, List.cons_append, List.nil_append, getV_va, Pt.sl, true_and, List.getElem?_cons_zero, List.getElem?_cons_succ, List.set_cons_zero, List.set_cons_succ, ite_self, Bool.false_eq_true, if_false, if_true]
    refine ⟨⟨_, _, rfl⟩, ?_⟩
    rw [g2I_int]
    refine ⟨by decide, _, _, rfl, by rw [List.length_map]; unfold BIG; omega, kk _ ⟨_, _, _, _, _, _, _, _, _, _, _, _, _, _, F ++ [(nt.1, nt.2.1, if 0 > y then 0 else y)], (by rw [List.map_append]; exact rfl), by rw [List.length_append]; show F.length + 1 ≤ _; omega, fun r hr2 => ?_⟩⟩
    rcases List.mem_append.mp hr2 with hr2 | hr2
    · exact hF r hr2
    · rw [List.mem_singleton] at hr2
      subst hr2
      refine ⟨hnt.1, hnt.2.1, hnt.2.2.1, ?_, ?_⟩
      · show 0 ≤ (if 0 > y then 0 else y)
        split <;> omega
      · show (if 0 > y then 0 else y) ≤ 300000
        split <;> omega
  · obtain ⟨f4, f6, f7, f8, f9, f14, f15, s5, s11, s12, s13, s17, s18, s19, F, rfl, hl, hF⟩ := hI
    rw [enumD_len, List.length_map, sortT_len] at hl
    try simp only [frz, params, setAll, List.zipWith, List.length_cons, List.length_nil, Nat.reduceAdd, Nat.reduceSub, List.replicate, List.append_nil, List.cons_append, List.nil_append, getV_va, Pt.sl, true_and, List.getElem?_cons_zero, List.getElem?_cons_succ, List.set_cons_zero, List.set_cons_succ, ite_self, Bool.false_eq_true, if_false, if_true]
    refine ⟨_, rfl, ?_⟩
    dsimp only
    rw [g1_of]
    refine ⟨_, rfl, canSort_row (n := 300000) (by decide) fun r hr2 => ?_, by decide, ?_⟩
    · obtain ⟨h1, h2, h3, h4, h5⟩ := hF r hr2
      exact ⟨nmr h1, by omega, by omega⟩
    rw [srt_rows]
    refine q ⟨office, roads, sortT S, sortT F⟩ ⟨ht, sortT_ord _, sortT_ord _, hp0.rp, fun r hr => (hF r (sortT_mem hr)).1, hp0.rb, fun r hr => (hF r (sortT_mem hr)).2, hp0.rl, ?_⟩ ?_ ?_ _
    · show (sortT F).length ≤ 100
      rw [sortT_len]
      omega
    · show ((sortT S).length : Int) ≤ b
      rw [sortT_len]
      omega
    · show ((sortT F).length : Int) ≤ c
      rw [sortT_len]
      omega

end
end My

set_option Elab.async false
set_option linter.all false
set_option maxRecDepth 100000
set_option maxHeartbeats 4000000
set_option pp.maxSteps 6000
namespace My
open PySem PySem.Spec PyProof.Rows L2 DL
theorem eqv_road {a b : Road} : D.eqv (roadD a) (roadD b) = decide (a = b) := by
  obtain ⟨x, y, i⟩ := a
  obtain ⟨z, w, j⟩ := b
  by_cases h1 : x = z <;> by_cases h2 : y = w <;> by_cases h3 : i = j <;> simp [roadD, D.eqv, D.eqvL, h1, h2, h3]
theorem shp_road {a : Road} (h : NmOk a.1) (h2 : NmOk a.2.1) : (roadD a).shp = true := by
  have := nm_ok h
  have := nm_ok h2
  simp [roadD, D.shp, D.pln, D.plnL, D.dep, D.depL, *]
theorem plnL_of : ∀ {xs : List D}, (∀ x ∈ xs, x.pln = true) → D.plnL xs = true
  | [], _ => rfl
  | x :: xs, h => by
    rw [D.plnL, h x (by simp), plnL_of fun y hy => h y (by simp [hy])]
    rfl
theorem depL_of {n : Nat} : ∀ {xs : List D}, (∀ x ∈ xs, x.dep ≤ n) → D.depL xs ≤ n
  | [], _ => Nat.zero_le _
  | x :: xs, h => by
    have h1 := h x (by simp)
    have h2 := depL_of (xs := xs) fun y hy => h y (List.mem_cons_of_mem _ hy)
    simp only [D.depL]
    omega
theorem shp_lst {xs : List D} {n : Nat} (hn : n ≤ 60) (h : ∀ x ∈ xs, x.pln = true) (h2 : ∀ x ∈ xs, x.dep ≤ n) : (D.lst xs).shp = true := by
  have := depL_of h2
  simp only [D.shp, D.pln, D.dep, plnL_of h, Bool.true_and]
  exact decide_eq_true (by omega)
theorem cand {F : List Road} {K : List Str} : ∀ {rs : List Road} {known : List Str}, RoadsOk known rs → (∀ x ∈ known, x ∈ K) → (∀ r ∈ F, r.1 ∈ K) → (∃ r ∈ rs, r ∉ F) → ∃ r ∈ rs, r ∉ F ∧ r.2.1 ∈ K
  | [], _, _, _, _, ⟨r, h, _⟩ => nomatch h
  | r :: rs, known, ⟨_, _, h3, _, _, h6⟩, hk, hf, hx => by
    by_cases hr : r ∈ F
    · obtain ⟨s, hs, hs2⟩ := hx
      obtain ⟨t, t1, t2, t3⟩ := cand h6 (fun x hx => by
        rcases List.mem_append.mp hx with hx | hx
        · exact hk x hx
        · rw [List.mem_singleton] at hx; rw [hx]; exact hf r hr) hf ⟨s, by
          rcases List.mem_cons.mp hs with rfl | hs
          · exact absurd hr hs2
          · exact hs, hs2⟩
      exact ⟨t, List.mem_cons_of_mem _ t1, t2, t3⟩
    · exact ⟨r, List.mem_cons_self, hr, hk _ h3⟩
theorem key_inj {rs : List Road} (h : (rs.map (·.1)).Nodup) {a b : Road} (ha : a ∈ rs) (hb : b ∈ rs) (e : a.1 = b.1) : a = b := by
  induction rs with
  | nil => cases ha
  | cons r rs ih =>
    rw [List.map_cons, List.nodup_cons] at h
    rcases List.mem_cons.mp ha with ea | ha' <;> rcases List.mem_cons.mp hb with eb | hb'
    · rw [ea, eb]
    · exact absurd (List.mem_map.mpr ⟨b, hb', by rw [← ea]; exact e.symm⟩) h.1
    · exact absurd (List.mem_map.mpr ⟨a, ha', by rw [← eb]; exact e⟩) h.1
    · exact ih h.2 ha' hb'
theorem nodup_of_map {α β : Type} {f : α → β} {xs : List α} (h : (xs.map f).Nodup) : xs.Nodup := (List.pairwise_map.mp h).imp fun h e => h (congrArg f e)
section
variable {P : Program} {w : World} {K : PySem.W.Frag} {mg : Str → Option Value} {base : Heap}
theorem sc__law_turned : FnScope ["stream", "plan", "left", "found", "known", "road", "one"] ["stream", "plan"] (defScope s__law_turned) := ⟨rfl, rfl, rfl, by decide +kernel, rfl, by decide +kernel, by decide +kernel⟩
def c__law_turned : DC := fun ds _ _ Q => ∃ p : PV, ds = [.strm, p.d] ∧ TreeOk p.office p.roads ∧ ∀ rs : List Road, RoadsOk [p.office] rs → rs.Perm p.roads → ∀ f, Q ⟨.lst (rs.map roadD), f, none⟩
theorem ok__law_turned (T : Txt K mg) : FnD P w K mg base 3 T.f__law_turned.f T.f__law_turned.fd ["stream", "plan"] 9 c__law_turned := by
  refine fn_ok T.f__law_turned.ok sc__law_turned fun cdv A outer s H E hr => ⟨_, _, (dss_cons (ds_parT (is := [2, 3, 4]) [] (dps_cons (dp_va (de_callTy dcl_list (by rfl) T.n_list (by decide +kernel) (da_cons (de_ix (de_var (pv 1)) de_int (fun _ _ => rfl)) da_nil))) (dps_cons (dp_ow (dn_lst da_nil)) (dps_cons (dp_ow (dn_lst (da_cons (de_ix (de_var (pv 1)) de_int (fun _ _ => rfl)) da_nil))) dps_nil))) rfl (NmsOk.cons (pg_name (i := 2) sc__law_turned.nd rfl (Or.inl rfl)) (NmsOk.cons (pg_name (i := 3) sc__law_turned.nd rfl (Or.inl rfl)) (NmsOk.cons (pg_name (i := 4) sc__law_turned.nd rfl (Or.inr rfl)) NmsOk.nil (by rfl)) (by rfl)) (by rfl)) (by rfl) (by rfl) (by rfl) (fun _ _ a b => ps_asg a b))
      (dss_cons (ds_whileC 9 [] (passes_of rfl) (dt_cmp (dop_ne hr.units) (de_var (pv 2)) (de_lst da_nil) (nomark _))
      (dss_cons (ds_asg [] (de_call ((ok__law_pick T).mono (by decide)) hr (by rfl) T.f__law_pick.g T.f__law_pick.ok.kp T.f__law_pick.b (passE (takes_of rfl rfl rfl rfl)) rfl (da_cons (de_var (pv 0)) (da_cons (DN.de (dn_lc (own := [("one", 6)]) rfl sc__law_turned.nd (di_seq (de_var (pv 2))) (blkOk_by (N := ["stream", "plan", "left", "found", "known", "road", "one"]) (sc := defScope s__law_turned) (by decide +kernel)) (fun _ _ _ _ _ => (dg_name (pg_name (i := 6) sc__law_turned.nd rfl (Or.inl rfl)))) (fun _ _ _ _ _ => (dts_one (dt_inO (i := 4) (de_ix (de_var (pv 6)) de_int (fun _ _ => rfl)) (pv 4) (by rfl)))) (fun _ _ _ _ _ => (de_var (pv 6))) (by decide))) da_nil))) (dg_name (pg_name (i := 5) sc__law_turned.nd rfl (Or.inr rfl))) (fun _ _ a b => ps_asg a b))
      (dss_cons (ds_setLc (i := 2) (own := [("one", 6)]) [] rfl sc__law_turned.nd rfl rfl (sw_true rfl rfl rfl (by decide +kernel)) (di_seq (de_var (pv 2))) (blkOk_by (N := ["stream", "plan", "left", "found", "known", "road", "one"]) (sc := defScope s__law_turned) (by decide +kernel)) (fun _ _ _ _ _ => (dg_name (pg_name (i := 6) sc__law_turned.nd rfl (Or.inl rfl)))) (fun _ _ _ _ _ => (dts_one (dt_cmp (dop_ne hr.units) (de_var (pv 6)) (de_var (pv 5)) (nomark _)))) (fun _ _ _ _ _ => (de_var (pv 6))) (by decide))
      (dss_cons (ds_append [] (de_var (pv 5)) (fun _ a => ps_expr (pe_bm PySem.F.plainAttrs_list PySem.F.slot_list_append PySem.F.type_list_append mt_append (pv 3) (pa_cons a pa_nil))))
      (dss_one (ds_append [] (de_ix (de_var (pv 5)) de_int (fun _ _ => rfl)) (fun _ a => ps_expr (pe_bm PySem.F.plainAttrs_list PySem.F.slot_list_append PySem.F.type_list_append mt_append (pv 4) (pa_cons a pa_nil)))))))))
      (dss_one (ds_ret [3] (de_var (pv 3)))))), by decide +kernel, fun ds vs XQ Q hd hv h => ?_⟩
  obtain ⟨p, rfl, ht, q⟩ := h
  match vs, hv with
  | [v, v2], _ =>
  try simp only [frz, params, setAll, List.zipWith, List.length_cons, List.length_nil, Nat.reduceAdd, Nat.reduceSub, List.replicate, List.append_nil, List.cons_append, List.nil_append, getV_va, Pt.sl, true_and, List.getElem?_cons_zero, List.getElem?_cons_succ, List.set_cons_zero, List.set_cons_succ, ite_self, Bool.false_eq_true, if_false, if_true]
  obtain ⟨t1, t2⟩ := ht.facts
  have hrl := ht.l
  rw [gIx_of p.seq (show atI [D.str p.office, .lst (p.roads.map roadD), .lst (p.riders.map rowD), .lst (p.letters.map rowD)] 1 = some (.lst (p.roads.map roadD)) from rfl), g1_of]
  dsimp only
  refine ⟨by decide, ?_⟩
  rw [gIx_of p.seq (show atI [D.str p.office, .lst (p.roads.map roadD), .lst (p.riders.map rowD), .lst (p.letters.map rowD)] 0 = some (.str p.office) from rfl)]
  refine ⟨by decide, by decide, 9, by decide, whN_go (fun k ρ => ∃ f2 f3 f4 s5 s6, ∃ F L : List Road, ρ = [Sl.va ⟨.strm, D.strm.imm, some v⟩, .va ⟨p.d, p.d.imm, some v2⟩, .va ⟨.lst (L.map roadD), f2, none⟩, .ow (.lst (F.map roadD)) f3, .ow (.lst ((p.office :: F.map (·.1)).map .str)) f4, s5, s6] ∧ L = p.roads.filter (fun r => !decide (r ∈ F)) ∧ L.length ≤ k ∧ RoadsOk [p.office] F ∧ ∀ r ∈ F, r ∈ p.roads) (fun k ρ hI K kk => ?_) 8 _ ⟨_, _, _, _, _, [], p.roads, rfl, (List.filter_eq_self.mpr fun a _ => rfl).symm, hrl, trivial, fun r h => (nomatch h)⟩⟩
  obtain ⟨f2, f3, f4, s5, s6, F, L, rfl, hL, hLk, hF, hFr⟩ := hI
  have hLr : ∀ r ∈ L, r ∈ p.roads ∧ r ∉ F := fun r hr => by
    rw [hL] at hr
    obtain ⟨h1, h2⟩ := List.mem_filter.mp hr
    exact ⟨h1, by simpa using h2⟩
  try simp only [frz, params, setAll, List.zipWith, List.length_cons, List.length_nil, Nat.reduceAdd, Nat.reduceSub, List.replicate, List.append_nil, List.cons_append, List.nil_append, getV_va, Pt.sl, true_and, List.getElem?_cons_zero, List.getElem?_cons_succ, List.set_cons_zero, List.set_cons_succ, ite_self, Bool.false_eq_true, if_false, if_true]
  refine ⟨by decide, shp_lst (n := 5) (by decide) (fun x hx => ?_) (fun x hx => ?_), by decide, ⟨_, rfl, ?_⟩⟩
  · obtain ⟨r, hr, rfl⟩ := List.mem_map.mp hx
    obtain ⟨n1, n2, _⟩ := t1 r (hLr r hr).1
    exact shp_pln (shp_road n1 n2)
  · obtain ⟨r, hr, rfl⟩ := List.mem_map.mp hx
    exact Nat.le_trans (show _ ≤ 2 by simp [roadD, D.dep, D.depL]) (by decide)
  by_cases hne : L = []
  · subst hne
    refine ite_f (by simp [D.eqv, D.eqvL]) ?_
    try simp only [frz, params, setAll, List.zipWith, List.length_cons, List.length_nil, Nat.reduceAdd, Nat.reduceSub, List.replicate, List.append_nil, List.cons_append, List.nil_append, getV_va, Pt.sl, true_and, List.getElem?_cons_zero, List.getElem?_cons_succ, List.set_cons_zero, List.set_cons_succ, ite_self, Bool.false_eq_true, if_false, if_true]
    have f1 := hF.facts fun x hx => by rw [List.mem_singleton] at hx; rw [hx]; exact ht.o
    refine q F hF ((List.perm_ext_iff_of_nodup (nodup_of_map f1.2) (nodup_of_map t2)).mpr fun r => ⟨hFr r, fun hr => ?_⟩) _
    by_cases hrF : r ∈ F
    · exact hrF
    · have : r ∈ p.roads.filter fun r => !decide (r ∈ F) := List.mem_filter.mpr ⟨hr, by simpa using hrF⟩
      rw [← hL] at this
      cases this
  · have hk0 : 0 < L.length := List.length_pos_iff.mpr hne
    refine ite_t (by cases L with | nil => exact absurd rfl hne | cons a b => simp [D.eqv, D.eqvL]) ?_
    try simp only [frz, params, setAll, List.zipWith, List.length_cons, List.length_nil, Nat.reduceAdd, Nat.reduceSub, List.replicate, List.append_nil, List.cons_append, List.nil_append, getV_va, Pt.sl, true_and, List.getElem?_cons_zero, List.getElem?_cons_succ, List.set_cons_zero, List.set_cons_succ, ite_self, Bool.false_eq_true, if_false, if_true]
    have f1 := hF.facts fun x hx => by rw [List.mem_singleton] at hx; rw [hx]; exact ht.o
    have hFn := nodup_le (nodup_of_map f1.2) hFr
    have hLl : L.length ≤ 8 := by
      rw [hL]
      exact Nat.le_trans (List.length_filter_le _ _) hrl
    rw [items_seq (by rfl), List.map_map]
    refine ⟨by rw [List.length_map]; unfold BIG; omega, lc_filt (g := roadD) (fun r => decide (r.2.1 ∈ p.office :: F.map (·.1))) (fun r hr K1 K0 k1 k0 => ?_) fun f5 => ?_⟩
    · try simp only [lcStep, true_and, wipeR, List.map_cons, List.map_nil, List.set_cons_succ, List.set_cons_zero, List.getElem?_cons_succ, List.getElem?_cons_zero, getV_va, if_true]
      dsimp only [Function.comp]
      refine ⟨_, rfl, _, _, rfl, rfl, scaL_str, ?_⟩
      dsimp only
      rw [show D.isIn (.str r.2.1) (D.str p.office :: (F.map (·.1)).map D.str) = decide (r.2.1 ∈ p.office :: F.map (·.1)) from isIn_str (ys := p.office :: F.map (·.1))]
      by_cases hin : r.2.1 ∈ p.office :: F.map (·.1)
      · exact ite_t (by simpa using hin) (k1 (by simpa using hin) _ _)
      · exact ite_f (by simpa using hin) (k0 (by simpa using hin))
    obtain ⟨c, hc1, hc2, hc3⟩ := cand (F := F) (K := p.office :: F.map (·.1)) ht.r (fun x hx => by rw [List.mem_singleton] at hx; rw [hx]; exact List.mem_cons_self) (fun r hr => List.mem_cons_of_mem _ (List.mem_map.mpr ⟨r, hr, rfl⟩)) (by
      cases eL : L with
      | nil => exact absurd eL hne
      | cons a b => exact ⟨a, hLr a (by rw [eL]; exact List.mem_cons_self)⟩)
    have hcL : c ∈ L := by rw [hL]; exact List.mem_filter.mpr ⟨hc1, by simpa using hc2⟩
    refine gCall_of fun _ => ⟨_, _, rfl, rfl, fun z => ?_, ?_, fun y hy fy => ?_⟩
    · have : c ∈ L.filter fun r => decide (r.2.1 ∈ p.office :: F.map (·.1)) := List.mem_filter.mpr ⟨hcL, by simpa using hc3⟩
      rw [List.map_eq_nil_iff.mp z] at this
      cases this
    · rw [List.length_map]
      exact Nat.lt_of_le_of_lt (List.length_filter_le _ _) (by omega)
    obtain ⟨r, hr, rfl⟩ := List.mem_map.mp hy
    obtain ⟨hrL, hrk⟩ := List.mem_filter.mp hr
    have hrk : r.2.1 ∈ p.office :: F.map (·.1) := by simpa using hrk
    obtain ⟨hrr, hrF⟩ := hLr r hrL
    obtain ⟨m1, m2, m3, m4, m5⟩ := t1 r hrr
    dsimp only
    try simp only [frz, params, setAll, List.zipWith, List.length_cons, List.length_nil, Nat.reduceAdd, Nat.reduceSub, List.replicate, List.append_nil, List.cons_append, List.nil_append, getV_va, Pt.sl, true_and, List.getElem?_cons_zero, List.getElem?_cons_succ, List.set_cons_zero, List.set_cons_succ, ite_self, Bool.false_eq_true, if_false, if_true]
    rw [items_seq (by rfl), List.map_map]
    refine ⟨by rw [List.length_map]; unfold BIG; omega, lc_filt (g := roadD) (fun s => !decide (s = r)) (fun s hs K1 K0 k1 k0 => ?_) fun f6 => ?_⟩
    · obtain ⟨g1, g2, _⟩ := t1 s (hLr s hs).1
      try simp only [lcStep, true_and, wipeR, List.map_cons, List.map_nil, List.set_cons_succ, List.set_cons_zero, List.getElem?_cons_succ, List.getElem?_cons_zero, getV_va, if_true]
      dsimp only [Function.comp]
      refine ⟨shp_road g1 g2, shp_road m1 m2, _, rfl, ?_⟩
      rw [eqv_road]
      by_cases hsr : s = r
      · exact ite_f (by simp [hsr]) (k0 (by simp [hsr]))
      · exact ite_t (by simp [hsr]) (k1 (by simp [hsr]) _ _)
    try simp only [frz, params, setAll, List.zipWith, List.length_cons, List.length_nil, Nat.reduceAdd, Nat.reduceSub, List.replicate, List.append_nil, List.cons_append, List.nil_append, getV_va, Pt.sl, true_and, List.getElem?_cons_zero, List.getElem?_cons_succ, List.set_cons_zero, List.set_cons_succ, ite_self, Bool.false_eq_true, if_false, if_true]
    refine ⟨⟨_, _, rfl⟩, _, _, rfl, by rw [List.length_map]; unfold BIG; omega, ⟨_, _, rfl⟩, _, rfl, _, _, rfl, by simp [BIG]; omega, ?_⟩
    have hlt : (L.filter fun s => !decide (s = r)).length < L.length := by
      have := List.length_filter_lt_length_iff_exists (p := fun s => !decide (s = r)) (l := L)
      exact this.mpr ⟨r, hrL, by simp⟩
    obtain ⟨k', rfl⟩ : ∃ k', k = k' + 1 := ⟨k - 1, by omega⟩
    refine kk k' _ rfl ⟨_, _, _, _, _, F ++ [r], L.filter fun s => !decide (s = r), (by rw [List.map_append, List.map_append, ← List.cons_append, List.map_append]; exact rfl), ?_, Nat.le_of_lt_succ (Nat.lt_of_lt_of_le hlt hLk), ?_, fun s hs => ?_⟩
    · rw [hL, List.filter_filter]
      refine List.filter_congr fun s hs => ?_
      by_cases h1 : s ∈ F <;> by_cases h2 : s = r <;> simp [h1, h2]
    · refine hF.snoc m1 m5 (fun x hx e => hrF (key_inj t2 (hFr x hx) hrr e ▸ hx)) ?_ m3 m4
      rcases List.mem_cons.mp hrk with h | h
      · exact .inl (by rw [h]; simp)
      · obtain ⟨x, hx, e⟩ := List.mem_map.mp h
        exact .inr ⟨x, hx, e⟩
    · rcases List.mem_append.mp hs with hs | hs
      · exact hFr s hs
      · rw [List.mem_singleton] at hs; rw [hs]; exact hrr

end
end My

set_option Elab.async false
set_option linter.all false
set_option maxRecDepth 100000
set_option maxHeartbeats 4000000
set_option pp.maxSteps 6000
namespace My
open PySem PySem.Spec PyProof.Rows L2 DL
/-- a post that no road leads to -/
def IsEnd (rs : List Road) (z : Str) : Prop := (∃ r ∈ rs, r.1 = z) ∧ ∀ r ∈ rs, r.2.1 ≠ z
theorem end_is : ∀ {rs : List Road} {known : List Str}, RoadsOk known rs → rs ≠ [] → ∃ r ∈ rs, r.1 ∉ known ∧ ∀ s ∈ rs, s.2.1 ≠ r.1
  | [], _, _, h => absurd rfl h
  | [r], known, ⟨_, h2, h3, _⟩, _ => ⟨r, by simp, h2, fun s hs e => by
    rw [List.mem_singleton] at hs
    subst hs
    exact h2 (e ▸ h3)⟩
  | r :: r2 :: rs, known, ⟨h1, h2, h3, _, _, h6⟩, _ => by
    obtain ⟨s, hs, k1, k2⟩ := end_is h6 (by simp)
    refine ⟨s, List.mem_cons_of_mem _ hs, fun z => k1 (List.mem_append_left _ z), fun t ht e => ?_⟩
    rcases List.mem_cons.mp ht with rfl | ht
    · exact k1 (List.mem_append_left _ (e ▸ h3))
    · exact k2 t ht e
def endF (z : Str) (x : Dv) : Bool := match x.d with
  | .tup [_, .str y, _] => !decide (y = z)
  | _ => false
theorem behind_end {p : PV} {z : Str} (h : IsEnd p.roads z) : p.behind z = [] := by
  unfold PV.behind
  rw [List.filter_eq_nil_iff]
  intro d hd
  cases d with
  | str y =>
    simp only [List.any_eq_true, Bool.and_eq_true, decide_eq_true_eq, not_exists, not_and]
    exact fun r hr _ e => h.2 r hr e
  | _ => simp
section
variable {P : Program} {w : World} {K : PySem.W.Frag} {mg : Str → Option Value} {base : Heap}
theorem sc__law_ends : FnScope ["plan", "post", "other", "hours", "road"] ["plan"] (defScope s__law_ends) := ⟨rfl, rfl, rfl, by decide +kernel, rfl, by decide +kernel, by decide +kernel⟩
def c__law_ends : DC := fun ds _ _ Q => ∃ p : PV, ds = [p.d] ∧ TreeOk p.office p.roads ∧ ∀ zs : List Str, zs ≠ [] → zs.length ≤ 8 → (∀ z ∈ zs, IsEnd p.roads z) → ∀ f, Q ⟨.lst (zs.map .str), f, none⟩
theorem ok__law_ends (T : Txt K mg) : FnD P w K mg base 1 T.f__law_ends.f T.f__law_ends.fd ["plan"] 0 c__law_ends := by
  refine fn_ok T.f__law_ends.ok sc__law_ends fun cdv A outer s H E hr => ⟨_, _, (dss_one (ds_ret [] (de_callB (dcl_sortedD (hr.mono (by decide))) (by rfl) T.n_sorted (by decide +kernel) (da_cons (DN.de (dn_lc (own := [("post", 1), ("other", 2), ("hours", 3)]) rfl sc__law_ends.nd (di_seq (de_ix (de_var (pv 0)) de_int (fun _ _ => rfl))) (blkOk_by (N := ["plan", "post", "other", "hours", "road"]) (sc := defScope s__law_ends) (by decide +kernel)) (fun _ _ _ _ _ => (dg_tup (n := 3) rfl (dgs_cons (dg_name (pg_name (i := 1) sc__law_ends.nd rfl (Or.inr rfl))) (dgs_cons (dg_name (pg_name (i := 2) sc__law_ends.nd rfl (Or.inl rfl))) (dgs_cons (dg_name (pg_name (i := 3) sc__law_ends.nd rfl (Or.inl rfl))) dgs_nil))))) (fun _ _ _ _ _ => (dts_one (dt_val (de_callB (dcl_all rfl) (by rfl) T.n_all (by decide +kernel) (da_cons (DN.de (dn_lc (own := [("road", 4)]) rfl sc__law_ends.nd (di_seq (de_ix (de_var (pv 0)) de_int (fun _ _ => rfl))) (blkOk_in (N := ["plan", "post", "other", "hours", "road"]) (osc := defScope s__law_ends) rfl (by decide +kernel)) (fun _ _ _ _ _ => (dg_name (pg_name (i := 4) sc__law_ends.nd rfl (Or.inl rfl)))) (fun _ _ _ _ _ => dts_nil) (fun _ _ _ _ _ => (de_cmp (dop_ne hr.units) (de_ix (de_var (pv 4)) de_int (fun _ _ => rfl)) (de_var (pv 1)) (nomark _))) (by decide))) da_nil))))) (fun _ _ _ _ _ => (de_var (pv 1))) (by decide))) da_nil)))), by decide +kernel, fun ds vs XQ Q hd hv h => ?_⟩
  obtain ⟨p, rfl, ht, q⟩ := h
  match vs, hv with
  | [v], _ =>
  try simp only [frz, params, setAll, List.zipWith, List.length_cons, List.length_nil, Nat.reduceAdd, Nat.reduceSub, List.replicate, List.append_nil, List.cons_append, List.nil_append, getV_va, Pt.sl, true_and, List.getElem?_cons_zero, List.getElem?_cons_succ, List.set_cons_zero, List.set_cons_succ, ite_self, Bool.false_eq_true, if_false, if_true]
  obtain ⟨t1, t2⟩ := ht.facts
  have hrl := ht.l
  have e1 : atI [D.str p.office, .lst (p.roads.map roadD), .lst (p.riders.map rowD), .lst (p.letters.map rowD)] 1 = some (.lst (p.roads.map roadD)) := rfl
  rw [gIx_of p.seq e1, items_seq (by rfl), List.map_map]
  refine ⟨by rw [List.length_map]; unfold BIG; omega, lc_filt (g := fun r : Road => D.str r.1) (fun r => p.roads.all fun s => !decide (s.2.1 = r.1)) (fun r hr K1 K0 k1 k0 => ?_) fun f5 => ?_⟩
  · try simp only [lcStep, true_and, wipeR, List.map_cons, List.map_nil, List.set_cons_succ, List.set_cons_zero, List.getElem?_cons_succ, List.getElem?_cons_zero, getV_va, if_true]
    dsimp only [Function.comp]
    rw [unp_seq (by rfl)]
    refine ⟨rfl, ?_⟩
    simp only [List.map_cons, List.map_nil]
    refine ⟨trivial, ?_⟩
    try simp only [frz, params, setAll, List.zipWith, List.length_cons, List.length_nil, Nat.reduceAdd, Nat.reduceSub, List.replicate, List.append_nil, List.cons_append, List.nil_append, getV_va, Pt.sl, true_and, List.getElem?_cons_zero, List.getElem?_cons_succ, List.set_cons_zero, List.set_cons_succ, ite_self, Bool.false_eq_true, if_false, if_true]
    rw [gIx_of p.seq e1, items_seq (by rfl), List.map_map]
    obtain ⟨m1, m2, _⟩ := t1 r hr
    refine ⟨by rw [List.length_map]; unfold BIG; omega, all_go (endF r.1) (fun y hy K1' K0' k1' => ?_) ?_⟩
    · obtain ⟨s, hs, rfl⟩ := List.mem_map.mp hy
      obtain ⟨g1, g2, _⟩ := t1 s hs
      try simp only [lcStep, true_and, wipeR, List.map_cons, List.map_nil, List.set_cons_succ, List.set_cons_zero, List.getElem?_cons_succ, List.getElem?_cons_zero, getV_va, if_true]
      dsimp only [Function.comp]
      refine ⟨_, rfl, ?_⟩
      dsimp only
      rw [gEq_str (nm_ok g2) (nm_ok m1)]
      have := k1' none
      simp only [endF, Function.comp, roadD] at this
      by_cases h : s.2.1 = r.1
      · simpa [h] using this
      · have hb : (s.2.1 == r.1) = false := beq_eq_false_iff_ne.mpr h
        rw [hb]
        simpa [h] using this
    · rw [List.all_map]
      refine ⟨_, rfl, ?_⟩
      have e2 : p.roads.all ((endF r.1) ∘ ((fun d => (⟨d, Dv.fr ⟨.lst (p.roads.map roadD), Dv.fr ⟨p.d, p.d.imm, some v⟩, none⟩, none⟩ : Dv)) ∘ roadD)) = p.roads.all fun s => !decide (s.2.1 = r.1) := rfl
      rw [e2]
      cases hb : p.roads.all fun s => !decide (s.2.1 = r.1) with
      | true => exact ite_t rfl (k1 hb _ _)
      | false => exact ite_f (by decide) (k0 hb)
  · rw [g1_of]
    have e3 : ∀ l : List Road, l.map (fun r : Road => D.str r.1) = (l.map (·.1)).map D.str := fun l => by rw [List.map_map]; rfl
    rw [e3]
    have hz : ∀ z ∈ (p.roads.filter fun r => p.roads.all fun s => !decide (s.2.1 = r.1)).map (·.1), IsEnd p.roads z := fun z hz => by
      obtain ⟨r, hr, rfl⟩ := List.mem_map.mp hz
      obtain ⟨h1, h2⟩ := List.mem_filter.mp hr
      refine ⟨⟨r, h1, rfl⟩, fun s hs => ?_⟩
      have := List.all_eq_true.mp h2 s hs
      simpa using this
    refine ⟨_, rfl, canSort_st fun x hx => ?_, ?_⟩
    · obtain ⟨⟨r, hr, rfl⟩, _⟩ := hz x hx
      exact nm_ok (t1 r hr).1
    obtain ⟨e, he1, _, he2⟩ := end_is ht.r ht.ne
    have hne : e.1 ∈ (p.roads.filter fun r => p.roads.all fun s => !decide (s.2.1 = r.1)).map (·.1) := List.mem_map.mpr ⟨e, List.mem_filter.mpr ⟨he1, List.all_eq_true.mpr fun s hs => by simpa using he2 s hs⟩, rfl⟩
    have hl9 : ((p.roads.filter fun r => p.roads.all fun s => !decide (s.2.1 = r.1)).map (·.1)).length ≤ 8 := by
      rw [List.length_map]
      exact Nat.le_trans (List.length_filter_le _ _) hrl
    generalize (p.roads.filter fun r => p.roads.all fun s => !decide (s.2.1 = r.1)).map (·.1) = zs at hz hne hl9
    have hp := srtD_perm (zs.map D.str)
    obtain ⟨ys, ey⟩ : ∃ ys : List Str, srtD (zs.map D.str) = ys.map D.str := by
      refine ⟨zs.mergeSort fun a b => leD (.str a) (.str b), ?_⟩
      exact (List.map_mergeSort (f := D.str) (r := fun a b => leD (.str a) (.str b)) (s := leD) fun a _ b _ => rfl).symm
    rw [ey] at hp ⊢
    have hm : ∀ y, y ∈ ys ↔ y ∈ zs := fun y => by
      have := hp.mem_iff (a := D.str y)
      constructor
      · intro h
        obtain ⟨z, h1, h2⟩ := List.mem_map.mp (this.mp (List.mem_map.mpr ⟨y, h, rfl⟩))
        cases h2
        exact h1
      · intro h
        obtain ⟨z, h1, h2⟩ := List.mem_map.mp (this.mpr (List.mem_map.mpr ⟨y, h, rfl⟩))
        cases h2
        exact h1
    have hyl := hp.length_eq
    rw [List.length_map, List.length_map] at hyl
    exact q ys (fun z => by rw [z] at hm; exact absurd ((hm _).mpr hne) (by simp)) (by omega) (fun z h => hz z ((hm z).mp h)) _

end
end My

set_option Elab.async false
set_option linter.all false
set_option maxRecDepth 100000
set_option maxHeartbeats 4000000
set_option pp.maxSteps 6000
namespace My
open PySem PySem.Spec PyProof.Rows L2 DL
section
variable {P : Program} {w : World} {K : PySem.W.Frag} {mg : Str → Option Value} {base : Heap}
theorem sc__law_endful : FnScope ["stream", "riders", "letters", "plan", "k", "post", "span", "some", "notes", "row"] ["stream", "riders", "letters"] (defScope s__law_endful) := ⟨rfl, rfl, rfl, by decide +kernel, rfl, by decide +kernel, by decide +kernel⟩
def c__law_endful : DC := fun ds _ _ Q => ∃ a b : Int, ds = [.strm, .int a, .int b] ∧ 0 ≤ a ∧ a ≤ 30 ∧ 0 ≤ b ∧ b ≤ 30 ∧ ∀ (p : PV) (z : Str), PlanOk p → IsEnd p.roads z → ∀ f, Q ⟨.tup [p.d, .str z], f, none⟩
theorem ok__law_endful (T : Txt K mg) : FnD P w K mg base 6 T.f__law_endful.f T.f__law_endful.fd ["stream", "riders", "letters"] (BIG * (MAXT + 12 * BIG)) c__law_endful := by
  refine fn_ok T.f__law_endful.ok sc__law_endful fun cdv A outer s H E hr => ⟨_, _, (dss_cons (ds_asg [] (de_call ((ok__law_plan T).mono (by decide)) hr (by rfl) T.f__law_plan.g T.f__law_plan.ok.kp T.f__law_plan.b (passE (takes_of rfl rfl rfl rfl)) rfl (da_cons (de_var (pv 0)) (da_cons de_int (da_cons de_int (da_cons de_int da_nil))))) (dg_name (pg_name (i := 3) sc__law_endful.nd rfl (Or.inl rfl))) (fun _ _ a b => ps_asg a b))
      (dss_cons (ds_asg [] (de_tup (da_cons (de_call ((ok__law_pick T).mono (by decide)) hr (by rfl) T.f__law_pick.g T.f__law_pick.ok.kp T.f__law_pick.b (passE (takes_of rfl rfl rfl rfl)) rfl (da_cons (de_var (pv 0)) (da_cons (de_call ((ok__law_ends T).mono (by decide)) hr (by rfl) T.f__law_ends.g T.f__law_ends.ok.kp T.f__law_ends.b (passE (takes_of rfl rfl rfl rfl)) rfl (da_cons (de_var (pv 3)) da_nil)) da_nil))) (da_cons (de_call ((ok__law_pick T).mono (by decide)) hr (by rfl) T.f__law_pick.g T.f__law_pick.ok.kp T.f__law_pick.b (passE (takes_of rfl rfl rfl rfl)) rfl (da_cons (de_var (pv 0)) (da_cons (de_lst (da_cons de_int (da_cons de_int (da_cons de_int da_nil)))) da_nil))) da_nil))) (dg_tup (n := 2) rfl (dgs_cons (dg_name (pg_name (i := 5) sc__law_endful.nd rfl (Or.inr rfl))) (dgs_cons (dg_name (pg_name (i := 6) sc__law_endful.nd rfl (Or.inl rfl))) dgs_nil))) (fun _ _ a b => ps_asg a b))
      (dss_cons (ds_par2 (i := 7) (j := 8) [] (dp_ow (dn_lc (own := [("row", 9)]) rfl sc__law_endful.nd (di_seq (de_ix (de_var (pv 3)) de_int (fun _ _ => rfl))) (blkOk_by (N := ["stream", "riders", "letters", "plan", "k", "post", "span", "some", "notes", "row"]) (sc := defScope s__law_endful) (by decide +kernel)) (fun _ _ _ _ _ => (dg_name (pg_name (i := 9) sc__law_endful.nd rfl (Or.inl rfl)))) (fun _ _ _ _ _ => (dts_one (dt_cmp (dop_ne hr.units) (de_ix (de_var (pv 9)) de_int (fun _ _ => rfl)) (de_var (pv 5)) (nomark _)))) (fun _ _ _ _ _ => (de_var (pv 9))) (by decide))) (dp_ow (dn_lc (own := [("row", 9)]) rfl sc__law_endful.nd (di_seq (de_ix (de_var (pv 3)) de_int (fun _ _ => rfl))) (blkOk_by (N := ["stream", "riders", "letters", "plan", "k", "post", "span", "some", "notes", "row"]) (sc := defScope s__law_endful) (by decide +kernel)) (fun _ _ _ _ _ => (dg_name (pg_name (i := 9) sc__law_endful.nd rfl (Or.inl rfl)))) (fun _ _ _ _ _ => (dts_one (dt_cmp (dop_ne hr.units) (de_ix (de_var (pv 9)) de_int (fun _ _ => rfl)) (de_var (pv 5)) (nomark _)))) (fun _ _ _ _ _ => (de_var (pv 9))) (by decide))) rfl sc__law_endful.nd rfl rfl (by decide) (by rfl) (by rfl) (by rfl))
      (dss_cons (ds_for [] (passes_of rfl) rfl (di_range1 (by rfl) T.n_range (da_cons (de_call ((ok__law_draw T).mono (by decide)) hr (by rfl) T.f__law_draw.g T.f__law_draw.ok.kp T.f__law_draw.b (passE (takes_of rfl rfl rfl rfl)) rfl (da_cons (de_var (pv 0)) (da_cons (de_op dop_add (de_var (pv 1)) de_int) da_nil))) da_nil)) (dg_name (pg_name (i := 4) sc__law_endful.nd rfl (Or.inl rfl)))
      (dss_one (ds_append [] (de_tup (da_cons (de_var (pv 5)) (da_cons (de_call ((ok__law_draw T).mono (by decide)) hr (by rfl) T.f__law_draw.g T.f__law_draw.ok.kp T.f__law_draw.b (passE (takes_of rfl rfl rfl rfl)) rfl (da_cons (de_var (pv 0)) (da_cons (de_var (pv 6)) da_nil))) (da_cons (de_op dop_add de_int (de_call ((ok__law_pick T).mono (by decide)) hr (by rfl) T.f__law_pick.g T.f__law_pick.ok.kp T.f__law_pick.b (passE (takes_of rfl rfl rfl rfl)) rfl (da_cons (de_var (pv 0)) (da_cons (de_lst (da_cons de_int (da_cons de_int (da_cons de_int (da_cons de_int da_nil))))) da_nil)))) da_nil)))) (fun _ a => ps_expr (pe_bm PySem.F.plainAttrs_list PySem.F.slot_list_append PySem.F.type_list_append mt_append (pv 7) (pa_cons a pa_nil))))))
      (dss_cons (ds_for [] (passes_of rfl) rfl (di_range1 (by rfl) T.n_range (da_cons (de_call ((ok__law_draw T).mono (by decide)) hr (by rfl) T.f__law_draw.g T.f__law_draw.ok.kp T.f__law_draw.b (passE (takes_of rfl rfl rfl rfl)) rfl (da_cons (de_var (pv 0)) (da_cons (de_op dop_add (de_var (pv 2)) de_int) da_nil))) da_nil)) (dg_name (pg_name (i := 4) sc__law_endful.nd rfl (Or.inl rfl)))
      (dss_one (ds_append [] (de_tup (da_cons (de_var (pv 5)) (da_cons (de_call ((ok__law_draw T).mono (by decide)) hr (by rfl) T.f__law_draw.g T.f__law_draw.ok.kp T.f__law_draw.b (passE (takes_of rfl rfl rfl rfl)) rfl (da_cons (de_var (pv 0)) (da_cons (de_var (pv 6)) da_nil))) (da_cons (de_call ((ok__law_pick T).mono (by decide)) hr (by rfl) T.f__law_pick.g T.f__law_pick.ok.kp T.f__law_pick.b (passE (takes_of rfl rfl rfl rfl)) rfl (da_cons (de_var (pv 0)) (da_cons (de_lst (da_cons (de_var (pv 6)) (da_cons (de_op dop_add (de_var (pv 6)) de_int) (da_cons (de_op dop_mul de_int (de_var (pv 6))) da_nil)))) da_nil))) da_nil)))) (fun _ a => ps_expr (pe_bm PySem.F.plainAttrs_list PySem.F.slot_list_append PySem.F.type_list_append mt_append (pv 8) (pa_cons a pa_nil))))))
      (dss_one (ds_ret [7, 8] (de_tup (da_cons (de_tup (da_cons (de_ix (de_var (pv 3)) de_int (fun _ _ => rfl)) (da_cons (de_ix (de_var (pv 3)) de_int (fun _ _ => rfl)) (da_cons (de_callB (dcl_sortedD (hr.mono (by decide))) (by rfl) T.n_sorted (by decide +kernel) (da_cons (de_var (pv 7)) da_nil)) (da_cons (de_callB (dcl_sortedD (hr.mono (by decide))) (by rfl) T.n_sorted (by decide +kernel) (da_cons (de_var (pv 8)) da_nil)) da_nil))))) (da_cons (de_var (pv 5)) da_nil)))))))))), by decide +kernel, fun ds vs XQ Q hd hv h => ?_⟩
  obtain ⟨a, b, rfl, a0, a1, b0, b1, q⟩ := h
  match vs, hv with
  | [v, v2, v3], _ =>
  try simp only [frz, params, setAll, List.zipWith, List.length_cons, List.length_nil, Nat.reduceAdd, Nat.reduceSub, List.replicate, List.append_nil, List.cons_append, List.nil_append, getV_va, Pt.sl, true_and, List.getElem?_cons_zero, List.getElem?_cons_succ, List.set_cons_zero, List.set_cons_succ, ite_self, Bool.false_eq_true, if_false, if_true]
  refine gCall_of fun _ => ⟨3, 3, 3, rfl, by decide, by decide, by decide, by decide, by decide, by decide, fun p hp hr3 hl3 f => ?_⟩
  dsimp only
  obtain ⟨t1, t2⟩ := hp.t.facts
  refine gCall_of fun _ => ⟨p, rfl, hp.t, fun zs hz0 hz8 hz f2 => ?_⟩
  dsimp only
  refine gPickS zs hz0 (by omega) fun z hzz f3 => ?_
  have hez := hz z hzz
  refine ⟨by decide, gPickI [3, 8, 12] (by decide) (by decide) fun span hsp f4 => ?_⟩
  have hs12 : 3 ≤ span ∧ span ≤ 12 := by
    simp only [List.mem_cons, List.not_mem_nil, or_false] at hsp
    omega
  refine ⟨by decide, ?_⟩
  rw [unp_seq (by rfl)]
  refine ⟨rfl, ?_⟩
  simp only [List.map_cons, List.map_nil]
  refine ⟨trivial, ?_⟩
  try simp only [frz, params, setAll, List.zipWith, List.length_cons, List.length_nil, Nat.reduceAdd, Nat.reduceSub, List.replicate, List.append_nil, List.cons_append, List.nil_append, getV_va, Pt.sl, true_and, List.getElem?_cons_zero, List.getElem?_cons_succ, List.set_cons_zero, List.set_cons_succ, ite_self, Bool.false_eq_true, if_false, if_true]
  have e2 : atI [D.str p.office, .lst (p.roads.map roadD), .lst (p.riders.map rowD), .lst (p.letters.map rowD)] 2 = some (.lst (p.riders.map rowD)) := rfl
  have e3 : atI [D.str p.office, .lst (p.roads.map roadD), .lst (p.riders.map rowD), .lst (p.letters.map rowD)] 3 = some (.lst (p.letters.map rowD)) := rfl
  obtain ⟨zr, hzr, ezr⟩ := hez.1
  have nz : NmOk z := ezr ▸ (t1 zr hzr).1
  have hok := hp.ok
  rw [gIx_of p.seq e2, items_seq (by rfl), List.map_map]
  refine ⟨by rw [List.length_map]; unfold BIG; omega, lc_filt (g := rowD) (fun r => !(r.1 == z)) (fun r hr K1 K0 k1 k0 => ?_) fun f5 => ?_⟩
  · try simp only [lcStep, true_and, wipeR, List.map_cons, List.map_nil, List.set_cons_succ, List.set_cons_zero, List.getElem?_cons_succ, List.getElem?_cons_zero, getV_va, if_true]
    dsimp only [Function.comp]
    refine ⟨_, rfl, ?_⟩
    dsimp only
    rw [gEq_str (hok.nr r hr) (nm_ok nz)]
    refine ⟨_, rfl, ?_⟩
    cases hb : r.1 == z with
    | true => exact ite_f (by decide) (k0 (by rw [hb]; rfl))
    | false => exact ite_t rfl (k1 (by rw [hb]; rfl) _ _)
  rw [gIx_of p.seq e3, items_seq (by rfl), List.map_map]
  refine ⟨by rw [List.length_map]; unfold BIG; omega, lc_filt (g := rowD) (fun r => !(r.1 == z)) (fun r hr K1 K0 k1 k0 => ?_) fun f6 => ?_⟩
  · try simp only [lcStep, true_and, wipeR, List.map_cons, List.map_nil, List.set_cons_succ, List.set_cons_zero, List.getElem?_cons_succ, List.getElem?_cons_zero, getV_va, if_true]
    dsimp only [Function.comp]
    refine ⟨_, rfl, ?_⟩
    dsimp only
    rw [gEq_str (hok.nl r hr) (nm_ok nz)]
    refine ⟨_, rfl, ?_⟩
    cases hb : r.1 == z with
    | true => exact ite_f (by decide) (k0 (by rw [hb]; rfl))
    | false => exact ite_t rfl (k1 (by rw [hb]; rfl) _ _)
  have hS0 : ∀ r ∈ p.riders.filter (fun r => !(r.1 == z)), (∃ x ∈ p.roads, x.1 = r.1) ∧ 0 ≤ r.2.1 ∧ r.2.1 ≤ 1000 ∧ 1 ≤ r.2.2 ∧ r.2.2 ≤ 100 := fun r hr => ⟨hp.rp r (List.mem_filter.mp hr).1, hp.rb r (List.mem_filter.mp hr).1⟩
  have hN0 : ∀ r ∈ p.letters.filter (fun r => !(r.1 == z)), (∃ x ∈ p.roads, x.1 = r.1) ∧ 0 ≤ r.2.1 ∧ r.2.1 ≤ 1000 ∧ 0 ≤ r.2.2 ∧ r.2.2 ≤ 300000 := fun r hr => ⟨hp.lp r (List.mem_filter.mp hr).1, hp.lb r (List.mem_filter.mp hr).1⟩
  have hSl0 : (p.riders.filter (fun r => !(r.1 == z))).length ≤ 3 := Nat.le_trans (List.length_filter_le _ _) (by omega)
  have hNl0 : (p.letters.filter (fun r => !(r.1 == z))).length ≤ 3 := Nat.le_trans (List.length_filter_le _ _) (by omega)
  generalize p.riders.filter (fun r => !(r.1 == z)) = S0 at hS0 hSl0
  generalize p.letters.filter (fun r => !(r.1 == z)) = N at hN0 hNl0
  rw [gAdd_int]
  refine gDraw (by omega) (by omega) fun many m0 m1 => ?_
  refine ⟨by omega, by omega, .inr (by rw [rgD_len]; unfold BIG; omega), ?_⟩
  refine for_idx (fun i ρ => ∃ f3 f7 f8 h5 h6 s4 s9, ∃ S : List Row, ρ = [Sl.va ⟨.strm, D.strm.imm, some v⟩, .va ⟨.int a, (D.int a).imm, some v2⟩, .va ⟨.int b, (D.int b).imm, some v3⟩, .va ⟨p.d, f3, none⟩, s4, .va ⟨.str z, h5, none⟩, .va ⟨.int span, h6, none⟩, .ow (.lst (S.map rowD)) f7, .ow (.lst (N.map rowD)) f8, s9] ∧ S.length ≤ 3 + i ∧ ∀ r ∈ S, (∃ x ∈ p.roads, x.1 = r.1) ∧ 0 ≤ r.2.1 ∧ r.2.1 ≤ 1000 ∧ 1 ≤ r.2.2 ∧ r.2.2 ≤ 100) _ 0 _ ⟨_, _, _, _, _, _, _, S0, rfl, hSl0, hS0⟩ (fun i x hx ρ hI K kk => ?_) fun ρ hI => ?_
  · obtain ⟨f3, f7, f8, h5, h6, s4, s9, S, rfl, hl, hS⟩ := hI
    obtain ⟨hi, rfl⟩ := rgD_get hx
    try simp only [frz, params, setAll, List.zipWith, List.length_cons, List.length_nil, Nat.reduceAdd, Nat.reduceSub, List.replicate, List.append_nil, List.cons_append, List.nil_append, getV_va, Pt.sl, true_and, List.getElem?_cons_zero, List.getElem?_cons_succ, List.set_cons_zero, List.set_cons_succ, ite_self, Bool.false_eq_true, if_false, if_true]
    refine ⟨⟨_, _, rfl⟩, gDraw (by omega) (by omega) fun t t0 t1 => ?_⟩
    refine ⟨by decide, gPickI [0, 0, 1, 2] (by decide) (by decide) fun w hw fw => ?_⟩
    have hw2 : 0 ≤ w ∧ w ≤ 2 := by
      simp only [List.mem_cons, List.not_mem_nil, or_false] at hw
      omega
    rw [gAdd_int]
    refine ⟨by decide, _, _, rfl, by rw [List.length_map]; unfold BIG; omega, kk _ ⟨_, _, _, _, _, _, _, S ++ [(z, t, 1 + w)], (by rw [List.map_append]; exact rfl), by rw [List.length_append]; show S.length + 1 ≤ _; omega, fun r hr2 => ?_⟩⟩
    rcases List.mem_append.mp hr2 with hr2 | hr2
    · exact hS r hr2
    · rw [List.mem_singleton] at hr2
      subst hr2
      exact ⟨hez.1, t0, by show t ≤ 1000; omega, by show (1 : Int) ≤ 1 + w; omega, by show 1 + w ≤ (100 : Int); omega⟩
  obtain ⟨f3, f7, f8, h5, h6, s4, s9, S, rfl, hSl, hS⟩ := hI
  rw [rgD_len] at hSl
  try simp only [frz, params, setAll, List.zipWith, List.length_cons, List.length_nil, Nat.reduceAdd, Nat.reduceSub, List.replicate, List.append_nil, List.cons_append, List.nil_append, getV_va, Pt.sl, true_and, List.getElem?_cons_zero, List.getElem?_cons_succ, List.set_cons_zero, List.set_cons_succ, ite_self, Bool.false_eq_true, if_false, if_true]
  rw [gAdd_int]
  refine gDraw (by omega) (by omega) fun notes n0 n1 => ?_
  refine ⟨by omega, by omega, .inr (by rw [rgD_len]; unfold BIG; omega), ?_⟩
  have hNN : N = N := rfl
  refine for_idx (fun i ρ => ∃ f3 f7 f8 h5 h6 s4 s9, ∃ N : List Row, ρ = [Sl.va ⟨.strm, D.strm.imm, some v⟩, .va ⟨.int a, (D.int a).imm, some v2⟩, .va ⟨.int b, (D.int b).imm, some v3⟩, .va ⟨p.d, f3, none⟩, s4, .va ⟨.str z, h5, none⟩, .va ⟨.int span, h6, none⟩, .ow (.lst (S.map rowD)) f7, .ow (.lst (N.map rowD)) f8, s9] ∧ N.length ≤ 3 + i ∧ ∀ r ∈ N, (∃ x ∈ p.roads, x.1 = r.1) ∧ 0 ≤ r.2.1 ∧ r.2.1 ≤ 1000 ∧ 0 ≤ r.2.2 ∧ r.2.2 ≤ 300000) _ 0 _ ⟨_, _, _, _, _, _, _, N, rfl, hNl0, hN0⟩ (fun i x hx ρ hI K kk => ?_) fun ρ hI => ?_
  · obtain ⟨f3, f7, f8, h5, h6, s4, s9, N, rfl, hl, hN⟩ := hI
    obtain ⟨hi, rfl⟩ := rgD_get hx
    try simp only [frz, params, setAll, List.zipWith, List.length_cons, List.length_nil, Nat.reduceAdd, Nat.reduceSub, List.replicate, List.append_nil, List.cons_append, List.nil_append, getV_va, Pt.sl, true_and, List.getElem?_cons_zero, List.getElem?_cons_succ, List.set_cons_zero, List.set_cons_succ, ite_self, Bool.false_eq_true, if_false, if_true]
    refine ⟨⟨_, _, rfl⟩, gDraw (by omega) (by omega) fun t t0 t1 => ?_⟩
    rw [gAdd_int, gMul_int]
    refine ⟨.inl (by decide), by decide, gPickI [span, span + 3, 3 * span] (by simp) (by simp) fun w hw fw => ?_⟩
    have hw2 : 0 ≤ w ∧ w ≤ 36 := by
      simp only [List.mem_cons, List.not_mem_nil, or_false] at hw
      omega
    refine ⟨by decide, _, _, rfl, by rw [List.length_map]; unfold BIG; omega, kk _ ⟨_, _, _, _, _, _, _, N ++ [(z, t, w)], (by rw [List.map_append]; exact rfl), by rw [List.length_append]; show N.length + 1 ≤ _; omega, fun r hr2 => ?_⟩⟩
    rcases List.mem_append.mp hr2 with hr2 | hr2
    · exact hN r hr2
    · rw [List.mem_singleton] at hr2
      subst hr2
      exact ⟨hez.1, t0, by show t ≤ 1000; omega, hw2.1, by show w ≤ (300000 : Int); omega⟩
  obtain ⟨f3, f7, f8, h5, h6, s4, s9, N, rfl, hNl, hN⟩ := hI
  rw [rgD_len] at hNl
  try simp only [frz, params, setAll, List.zipWith, List.length_cons, List.length_nil, Nat.reduceAdd, Nat.reduceSub, List.replicate, List.append_nil, List.cons_append, List.nil_append, getV_va, Pt.sl, true_and, List.getElem?_cons_zero, List.getElem?_cons_succ, List.set_cons_zero, List.set_cons_succ, ite_self, Bool.false_eq_true, if_false, if_true]
  have nmr : ∀ {x : Str}, (∃ r ∈ p.roads, r.1 = x) → NmOk x := fun ⟨r, hr, e⟩ => e ▸ (t1 r hr).1
  rw [gIx_of p.seq (show atI [D.str p.office, .lst (p.roads.map roadD), .lst (p.riders.map rowD), .lst (p.letters.map rowD)] 0 = some (.str p.office) from rfl), gIx_of p.seq (show atI [D.str p.office, .lst (p.roads.map roadD), .lst (p.riders.map rowD), .lst (p.letters.map rowD)] 1 = some (.lst (p.roads.map roadD)) from rfl), g1_of]
  refine ⟨_, rfl, canSort_row (n := 1000) (by decide) fun r hr2 => ?_, ?_⟩
  · obtain ⟨h1, h2, h3, h4, h5⟩ := hS r hr2
    exact ⟨nmr h1, by omega, by omega⟩
  rw [srt_rows]
  dsimp only
  rw [g1_of]
  refine ⟨_, rfl, canSort_row (n := 300000) (by decide) fun r hr2 => ?_, ?_⟩
  · obtain ⟨h1, h2, h3, h4, h5⟩ := hN r hr2
    exact ⟨nmr h1, by omega, by omega⟩
  rw [srt_rows]
  refine ⟨by decide, by decide, ?_⟩
  refine q ⟨p.office, p.roads, sortT S, sortT N⟩ z ⟨hp.t, sortT_ord _, sortT_ord _, fun r hr => (hS r (sortT_mem hr)).1, fun r hr => (hN r (sortT_mem hr)).1, fun r hr => (hS r (sortT_mem hr)).2, fun r hr => (hN r (sortT_mem hr)).2, ?_, ?_⟩ hez _
  · show (sortT S).length ≤ 100
    rw [sortT_len]; omega
  · show (sortT N).length ≤ 100
    rw [sortT_len]; omega

end
end My

set_option Elab.async false
set_option linter.all false
set_option maxRecDepth 100000
set_option maxHeartbeats 4000000
set_option pp.maxSteps 6000
namespace My
open PySem PySem.Spec PyProof.Rows L2 DL
set_option pp.maxSteps 800
theorem leD_tick {x : Str} {i j a b : Int} (h : i < j) : leD (trD (x, i, a)) (trD (x, j, b)) = true := by
  show (!PyProof.Rows.lexLt PyProof.Rows.itemOrd (tokD (trD (x, j, b))) (tokD (trD (x, i, a)))) = true
  have e : PyProof.Rows.lexLt PyProof.Rows.itemOrd (tokD (trD (x, j, b))) (tokD (trD (x, i, a))) = false := by
    show PyProof.Rows.lexLt PyProof.Rows.itemOrd (.inl 1 :: .inr x.cps.toList :: .inl 1 :: .inl j :: _) (.inl 1 :: .inr x.cps.toList :: .inl 1 :: .inl i :: _) = false
    rw [PyProof.Rows.lex_self, PyProof.Rows.lex_self, PyProof.Rows.lex_self, PyProof.Rows.lex_diff (fun z => by cases z; omega)]
    exact decide_eq_false (by omega)
  rw [e]
  rfl
theorem leD_refl {d : D} : leD d d = true := by
  rcases leD_ok.total d d with h | h <;> exact h
/-- letters of one post, tick by tick -/
theorem ord_ticks {x : Str} {a : Int} {l : List Row} (h : l.Pairwise fun r s => r.2.1 ≤ s.2.1) (hx : ∀ r ∈ l, r.1 = x ∧ r.2.2 = a) : InOrd l := by
  refine List.mergeSort_of_pairwise (h.imp_of_mem fun {r s} hr hs hrs => ?_)
  obtain ⟨y, i, b⟩ := r
  obtain ⟨z, j, c⟩ := s
  obtain ⟨rfl, rfl⟩ := hx _ hr
  obtain ⟨e1, e2⟩ := hx _ hs
  have e1 : z = y := e1
  have e2 : c = b := e2
  subst e1 e2
  have hrs : i ≤ j := hrs
  by_cases h2 : i = j
  · subst h2
    exact leD_refl
  · exact leD_tick (by omega)
theorem rows_of {P : Row → Prop} {xs : List Dv} {ys : List D} (h : Paired (fun _ d => ∃ r : Row, d = rowD r ∧ P r) xs ys) : ∃ R : List Row, ys = R.map rowD ∧ R.length = xs.length ∧ ∀ r ∈ R, P r := by
  induction h with
  | nil => exact ⟨[], rfl, rfl, fun z h => nomatch h⟩
  | cons a _ ih =>
    obtain ⟨z, rfl, hz⟩ := a
    obtain ⟨zs, rfl, hl, hs⟩ := ih
    refine ⟨z :: zs, rfl, by rw [List.length_cons, List.length_cons, hl], fun y hy => ?_⟩
    rcases List.mem_cons.mp hy with rfl | hy
    · exact hz
    · exact hs y hy
theorem nm_e : NmOk "e" := ⟨by decide +kernel, by decide +kernel, by decide +kernel⟩
theorem nm_m : NmOk "m" := ⟨by decide +kernel, by decide +kernel, by decide +kernel⟩
theorem nm_o : NmOk "o" := ⟨by decide +kernel, by decide +kernel, by decide +kernel⟩
def roadsS : List Road := [("m", "o", 1), ("e", "m", 1)]
theorem treeS : TreeOk "o" roadsS := ⟨nm_o, ⟨nm_m, by decide +kernel, by decide +kernel, by decide, by decide, nm_e, by decide +kernel, by decide +kernel, by decide, by decide, trivial⟩, by decide, by decide⟩
theorem endS : IsEnd roadsS "e" := ⟨⟨("e", "m", 1), by decide +kernel, rfl⟩, by decide +kernel⟩
section
variable {P : Program} {w : World} {K : PySem.W.Frag} {mg : Str → Option Value} {base : Heap}
theorem sc__law_steady : FnScope ["stream", "riders", "rows", "tick", "letters", "few", "k"] ["stream", "riders"] (defScope s__law_steady) := ⟨rfl, rfl, rfl, by decide +kernel, rfl, by decide +kernel, by decide +kernel⟩
def c__law_steady : DC := fun ds _ _ Q => ∃ a : Int, ds = [.strm, .int a] ∧ 0 ≤ a ∧ a ≤ 12 ∧ ∀ (p : PV) (z : Str), PlanOk p → IsEnd p.roads z → ∀ f, Q ⟨.tup [p.d, .str z], f, none⟩
theorem ok__law_steady (T : Txt K mg) : FnD P w K mg base 3 T.f__law_steady.f T.f__law_steady.fd ["stream", "riders"] (BIG * 4) c__law_steady := by
  refine fn_ok T.f__law_steady.ok sc__law_steady fun cdv A outer s H E hr => ⟨_, _, (dss_cons (ds_setLc (i := 2) (own := [("k", 6)]) [] rfl sc__law_steady.nd rfl rfl (sw_true rfl rfl rfl (by decide +kernel)) (di_range1 (by rfl) T.n_range (da_cons (de_var (pv 1)) da_nil)) (blkOk_by (N := ["stream", "riders", "rows", "tick", "letters", "few", "k"]) (sc := defScope s__law_steady) (by decide +kernel)) (fun _ _ _ _ _ => (dg_name (pg_name (i := 6) sc__law_steady.nd rfl (Or.inl rfl)))) (fun _ _ _ _ _ => dts_nil) (fun _ _ _ _ _ => (de_tup (da_cons de_str (da_cons (de_op dop_add (de_op dop_add de_int (de_op dop_mul de_int (de_var (pv 6)))) (de_call ((ok__law_draw T).mono (by decide)) hr (by rfl) T.f__law_draw.g T.f__law_draw.ok.kp T.f__law_draw.b passL rfl (da_cons (de_var (pv 0)) (da_cons de_int da_nil)))) (da_cons (de_call ((ok__law_pick T).mono (by decide)) hr (by rfl) T.f__law_pick.g T.f__law_pick.ok.kp T.f__law_pick.b passL rfl (da_cons (de_var (pv 0)) (da_cons (de_lst (da_cons de_int (da_cons de_int (da_cons de_int da_nil)))) da_nil))) da_nil))))) (by decide))
      (dss_cons (ds_par2 (i := 4) (j := 5) [] (dp_ow (dn_lst da_nil)) (dp_va (de_call ((ok__law_pick T).mono (by decide)) hr (by rfl) T.f__law_pick.g T.f__law_pick.ok.kp T.f__law_pick.b (passE (takes_of rfl rfl rfl rfl)) rfl (da_cons (de_var (pv 0)) (da_cons (de_lst (da_cons (de_lst (da_cons de_int (da_cons de_int (da_cons de_int da_nil)))) (da_cons (de_lst (da_cons de_int (da_cons de_int (da_cons de_int da_nil)))) (da_cons (de_lst (da_cons de_int (da_cons de_int (da_cons de_int da_nil)))) da_nil)))) da_nil)))) rfl sc__law_steady.nd rfl rfl (by decide) (by rfl) (by rfl) (by rfl))
      (dss_cons (ds_for [] (passes_of rfl) rfl (di_range1 (by rfl) T.n_range (da_cons (de_op dop_add (de_op dop_mul de_int (de_var (pv 1))) de_int) da_nil)) (dg_name (pg_name (i := 3) sc__law_steady.nd rfl (Or.inl rfl)))
      (dss_one (ds_extend [] (de_op dop_mul (de_lst (da_cons (de_tup (da_cons de_str (da_cons (de_var (pv 3)) (da_cons de_int da_nil)))) da_nil)) (de_call ((ok__law_pick T).mono (by decide)) hr (by rfl) T.f__law_pick.g T.f__law_pick.ok.kp T.f__law_pick.b (passE (takes_of rfl rfl rfl rfl)) rfl (da_cons (de_var (pv 0)) (da_cons (de_var (pv 5)) da_nil)))) (fun _ a => ps_expr (pe_bm PySem.F.plainAttrs_list PySem.F.slot_list_extend PySem.F.type_list_extend mt_extend (pv 4) (pa_cons a pa_nil))))))
      (dss_one (ds_ret [4] (de_tup (da_cons (de_tup (da_cons de_str (da_cons (de_lst (da_cons (de_tup (da_cons de_str (da_cons de_str (da_cons de_int da_nil)))) (da_cons (de_tup (da_cons de_str (da_cons de_str (da_cons de_int da_nil)))) da_nil))) (da_cons (de_callB (dcl_sortedD (hr.mono (by decide))) (by rfl) T.n_sorted (by decide +kernel) (da_cons (de_op dop_add (de_var (pv 2)) (de_lst (da_cons (de_tup (da_cons de_str (da_cons de_int (da_cons de_int da_nil)))) da_nil))) da_nil)) (da_cons (de_var (pv 4)) da_nil))))) (da_cons de_str da_nil)))))))), by decide +kernel, fun ds vs XQ Q hd hv h => ?_⟩
  obtain ⟨a, rfl, a0, a1, q⟩ := h
  match vs, hv with
  | [v, v2], _ =>
  try simp only [frz, params, setAll, List.zipWith, List.length_cons, List.length_nil, Nat.reduceAdd, Nat.reduceSub, List.replicate, List.append_nil, List.cons_append, List.nil_append, getV_va, Pt.sl, true_and, List.getElem?_cons_zero, List.getElem?_cons_succ, List.set_cons_zero, List.set_cons_succ, ite_self, Bool.false_eq_true, if_false, if_true]
  refine ⟨by omega, by omega, by rw [rgD_len]; unfold BIG; omega, lc_rel0 (fun _ d => ∃ r : Row, d = rowD r ∧ r.1 = "e" ∧ 0 ≤ r.2.1 ∧ r.2.1 ≤ 1000 ∧ 1 ≤ r.2.2 ∧ r.2.2 ≤ 100) (fun y hy K1 K0 k1 => ?_) fun ys n hp => ?_⟩
  · obtain ⟨k, hk⟩ := List.mem_iff_getElem?.mp hy
    obtain ⟨hk, rfl⟩ := rgD_get hk
    try simp only [lcStep, true_and, wipeR, List.map_cons, List.map_nil, List.set_cons_succ, List.set_cons_zero, List.getElem?_cons_succ, List.getElem?_cons_zero, getV_va, if_true]
    rw [gMul_int]
    refine ⟨.inl (by decide), ?_⟩
    rw [gAdd_int]
    refine gDraw (by decide) (by decide) fun d d0 d1 => ?_
    rw [gAdd_int]
    refine ⟨by decide, gPickI [1, 2, 5] (by decide) (by decide) fun w hw fw => ?_⟩
    have hw2 : 1 ≤ w ∧ w ≤ 5 := by
      simp only [List.mem_cons, List.not_mem_nil, or_false] at hw
      omega
    refine ⟨by decide, k1 _ _ _ ⟨("e", 1 + 2 * (0 + (k : Int)) + d, w), rfl, rfl, ?_, ?_, ?_, ?_⟩⟩
    · show 0 ≤ 1 + 2 * (0 + (k : Int)) + d; omega
    · show 1 + 2 * (0 + (k : Int)) + d ≤ 1000; omega
    · exact hw2.1
    · show w ≤ 100; omega
  obtain ⟨R, rfl, hRl, hR⟩ := rows_of hp
  rw [rgD_len] at hRl
  try simp only [frz, params, setAll, List.zipWith, List.length_cons, List.length_nil, Nat.reduceAdd, Nat.reduceSub, List.replicate, List.append_nil, List.cons_append, List.nil_append, getV_va, Pt.sl, true_and, List.getElem?_cons_zero, List.getElem?_cons_succ, List.set_cons_zero, List.set_cons_succ, ite_self, Bool.false_eq_true, if_false, if_true]
  refine ⟨by decide, by decide, by decide, by decide, by decide, gCall_of fun _ => ⟨_, _, rfl, rfl, by simp, by simp, fun y hy fy => ?_⟩⟩
  have hzs : ∃ zs : List Int, y = .lst (zs.map D.int) ∧ zs ≠ [] ∧ zs.length ≤ 3 ∧ ∀ z ∈ zs, 0 ≤ z ∧ z ≤ 2 := by
    simp only [List.map_cons, List.map_nil, List.mem_cons, List.not_mem_nil, or_false] at hy
    rcases hy with rfl | rfl | rfl
    · exact ⟨[0, 1, 1], rfl, by decide, by decide, by decide⟩
    · exact ⟨[1, 1, 2], rfl, by decide, by decide, by decide⟩
    · exact ⟨[1, 2, 2], rfl, by decide, by decide, by decide⟩
  obtain ⟨zs, rfl, zn, zl, zb⟩ := hzs
  clear hy
  dsimp only
  rw [gMul_int]
  refine ⟨.inl (by decide), ?_⟩
  rw [gAdd_int]
  refine ⟨by omega, by omega, .inr (by rw [rgD_len]; unfold BIG; omega), ?_⟩
  refine for_idx (fun i ρ => ∃ f2 f4 f5 s3 s6, ∃ N : List Row, ρ = [Sl.va ⟨.strm, D.strm.imm, some v⟩, .va ⟨.int a, (D.int a).imm, some v2⟩, .va ⟨.lst (R.map rowD), f2, none⟩, s3, .ow (.lst (N.map rowD)) f4, .va ⟨.lst (zs.map D.int), f5, none⟩, s6] ∧ N.length ≤ 2 * i ∧ (N.Pairwise fun r s => r.2.1 ≤ s.2.1) ∧ ∀ r ∈ N, r.1 = "e" ∧ r.2.2 = 40 ∧ 0 ≤ r.2.1 ∧ r.2.1 < i) _ 0 _ ⟨_, _, _, _, _, [], rfl, by simp, .nil, fun r h => (nomatch h)⟩ (fun i x hx ρ hI K kk => ?_) fun ρ hI => ?_
  · obtain ⟨f2, f4, f5, s3, s6, N, rfl, hl, hpw, hN⟩ := hI
    obtain ⟨hi, rfl⟩ := rgD_get hx
    rw [Nat.zero_add] at hl hN kk
    try simp only [frz, params, setAll, List.zipWith, List.length_cons, List.length_nil, Nat.reduceAdd, Nat.reduceSub, List.replicate, List.append_nil, List.cons_append, List.nil_append, getV_va, Pt.sl, true_and, List.getElem?_cons_zero, List.getElem?_cons_succ, List.set_cons_zero, List.set_cons_succ, ite_self, Bool.false_eq_true, if_false, if_true]
    refine ⟨⟨_, _, rfl⟩, by decide, by decide, gPickI zs zn (by omega) fun w hw fw => ?_⟩
    have hw2 := zb w hw
    refine ⟨by omega, by omega, by simp [BIG]; omega, ?_⟩
    have er : (List.replicate w.toNat [D.tup [.str "e", .int (0 + (i : Int)), .int 40]]).flatten = (List.replicate w.toNat (("e", 0 + (i : Int), 40) : Row)).map rowD := by
      rw [List.flatten_replicate_singleton, List.map_replicate]
      rfl
    simp only [List.map_cons, List.map_nil]
    rw [er]
    refine ⟨_, _, _, rfl, rfl, by rw [List.length_map, List.length_map, List.length_replicate]; unfold BIG; omega, kk _ ⟨_, _, _, _, _, N ++ List.replicate w.toNat (("e", 0 + (i : Int), 40) : Row), (by rw [List.map_append]), by rw [List.length_append, List.length_replicate]; omega, ?_, fun r hr2 => ?_⟩⟩
    · refine List.pairwise_append.mpr ⟨hpw, List.pairwise_replicate.mpr (.inr (Int.le_refl _)), fun r hr s hs => ?_⟩
      rw [List.mem_replicate] at hs
      have := (hN r hr).2.2.2
      rw [hs.2]
      show r.2.1 ≤ 0 + (i : Int)
      omega
    · rcases List.mem_append.mp hr2 with hr2 | hr2
      · obtain ⟨h1, h2, h3, h4⟩ := hN r hr2
        exact ⟨h1, h2, h3, by omega⟩
      · rw [List.mem_replicate] at hr2
        rw [hr2.2]
        exact ⟨rfl, rfl, by show 0 ≤ 0 + (i : Int); omega, by show 0 + (i : Int) < ((i + 1 : Nat) : Int); omega⟩
  · obtain ⟨f2, f4, f5, s3, s6, N, rfl, hl, hpw, hN⟩ := hI
    rw [rgD_len, Nat.zero_add] at hl hN
    try simp only [frz, params, setAll, List.zipWith, List.length_cons, List.length_nil, Nat.reduceAdd, Nat.reduceSub, List.replicate, List.append_nil, List.cons_append, List.nil_append, getV_va, Pt.sl, true_and, List.getElem?_cons_zero, List.getElem?_cons_succ, List.set_cons_zero, List.set_cons_succ, ite_self, Bool.false_eq_true, if_false, if_true]
    have hL : (R.map rowD).length + [rowD ("m", 9, 9)].length ≤ BIG := by rw [List.length_map]; show R.length + 1 ≤ BIG; unfold BIG; omega
    refine ⟨by decide, by decide, by decide, by decide, by decide, hL, ?_⟩
    have er : R.map rowD ++ [rowD ("m", 9, 9)] = (R ++ [(("m", 9, 9) : Row)]).map rowD := by rw [List.map_append]; rfl
    have hR2 : ∀ r ∈ R ++ [(("m", 9, 9) : Row)], (∃ x ∈ roadsS, x.1 = r.1) ∧ 0 ≤ r.2.1 ∧ r.2.1 ≤ 1000 ∧ 1 ≤ r.2.2 ∧ r.2.2 ≤ 100 := fun r hr => by
      rcases List.mem_append.mp hr with hr | hr
      · exact ⟨⟨("e", "m", 1), by decide +kernel, (hR r hr).1.symm⟩, (hR r hr).2⟩
      · rw [List.mem_singleton] at hr
        subst hr
        exact ⟨⟨("m", "o", 1), by decide +kernel, rfl⟩, by decide, by decide, by decide, by decide⟩
    refine ⟨_, congrArg D.lst er, canSort_row (n := 1000) (by decide) fun r hr => ?_, ?_⟩
    · obtain ⟨⟨x, hx, e⟩, h2, h3, h4, h5⟩ := hR2 r hr
      refine ⟨?_, by omega, by omega⟩
      rw [← e]
      rcases List.mem_cons.mp hx with rfl | hx
      · exact nm_m
      · rw [List.mem_singleton] at hx
        rw [hx]
        exact nm_e
    rw [srt_rows]
    refine ⟨by decide, by decide, ?_⟩
    refine q ⟨"o", roadsS, sortT (R ++ [(("m", 9, 9) : Row)]), N⟩ "e" ⟨treeS, sortT_ord _, ord_ticks hpw fun r hr => ⟨(hN r hr).1, (hN r hr).2.1⟩, fun r hr => (hR2 r (sortT_mem hr)).1, fun r hr => ⟨("e", "m", 1), (by decide +kernel : (("e", "m", 1) : Road) ∈ roadsS), (hN r hr).1.symm⟩, fun r hr => (hR2 r (sortT_mem hr)).2, fun r hr => ?_, ?_, ?_⟩ endS _
    · obtain ⟨h1, h2, h3, h4⟩ := hN r hr
      have h2 : r.2.2 = 40 := h2
      exact ⟨h3, by omega, by omega, by omega⟩
    · show (sortT (R ++ [(("m", 9, 9) : Row)])).length ≤ 100
      rw [sortT_len, List.length_append]
      show R.length + 1 ≤ 100
      omega
    · show N.length ≤ 100
      omega

theorem sc__law_scene : FnScope ["stream", "riders", "letters"] ["stream", "riders", "letters"] (defScope s__law_scene) := ⟨rfl, rfl, rfl, by decide +kernel, rfl, by decide +kernel, by decide +kernel⟩
def c__law_scene : DC := fun ds _ _ Q => ∃ a b : Int, ds = [.strm, .int a, .int b] ∧ 2 ≤ a ∧ a ≤ 10 ∧ 0 ≤ b ∧ b ≤ 30 ∧ ∀ (p : PV) (z : Str), PlanOk p → IsEnd p.roads z → ∀ f, Q ⟨.tup [p.d, .str z], f, none⟩
theorem ok__law_scene (T : Txt K mg) : FnD P w K mg base 7 T.f__law_scene.f T.f__law_scene.fd ["stream", "riders", "letters"] (BIG * (MAXT + 13 * BIG)) c__law_scene := by
  refine fn_ok T.f__law_scene.ok sc__law_scene fun cdv A outer s H E hr => ⟨_, _, (dss_cons (ds_if [] (dt_cmp (dop_eq hr.units) (de_call ((ok__law_draw T).mono (by decide)) hr (by rfl) T.f__law_draw.g T.f__law_draw.ok.kp T.f__law_draw.b (passE (takes_of rfl rfl rfl rfl)) rfl (da_cons (de_var (pv 0)) (da_cons de_int da_nil))) de_int (nomark _)) (dss_one (ds_ret [] (de_call ((ok__law_endful T).mono (by decide)) hr (by rfl) T.f__law_endful.g T.f__law_endful.ok.kp T.f__law_endful.b (passE (takes_of rfl rfl rfl rfl)) rfl (da_cons (de_var (pv 0)) (da_cons (de_var (pv 1)) (da_cons (de_var (pv 2)) da_nil)))))) dss_nil)
      (dss_one (ds_ret [] (de_call ((ok__law_steady T).mono (by decide)) hr (by rfl) T.f__law_steady.g T.f__law_steady.ok.kp T.f__law_steady.b (passE (takes_of rfl rfl rfl rfl)) rfl (da_cons (de_var (pv 0)) (da_cons (de_op dop_add de_int (de_call ((ok__law_draw T).mono (by decide)) hr (by rfl) T.f__law_draw.g T.f__law_draw.ok.kp T.f__law_draw.b (passE (takes_of rfl rfl rfl rfl)) rfl (da_cons (de_var (pv 0)) (da_cons (de_op dop_sub (de_var (pv 1)) de_int) da_nil)))) da_nil)))))), by decide +kernel, fun ds vs XQ Q hd hv h => ?_⟩
  obtain ⟨a, b, rfl, a0, a1, b0, b1, q⟩ := h
  match vs, hv with
  | [v, v2, v3], _ =>
  try simp only [frz, params, setAll, List.zipWith, List.length_cons, List.length_nil, Nat.reduceAdd, Nat.reduceSub, List.replicate, List.append_nil, List.cons_append, List.nil_append, getV_va, Pt.sl, true_and, List.getElem?_cons_zero, List.getElem?_cons_succ, List.set_cons_zero, List.set_cons_succ, ite_self, Bool.false_eq_true, if_false, if_true]
  refine gDraw (by decide) (by decide) fun k k0 k1 => ?_
  rw [gEq_int, bl_of]
  by_cases hk : k = 0
  · refine ite_t (by simpa using hk) ?_
    try simp only [frz, params, setAll, List.zipWith, List.length_cons, List.length_nil, Nat.reduceAdd, Nat.reduceSub, List.replicate, List.append_nil, List.cons_append, List.nil_append, getV_va, Pt.sl, true_and, List.getElem?_cons_zero, List.getElem?_cons_succ, List.set_cons_zero, List.set_cons_succ, ite_self, Bool.false_eq_true, if_false, if_true]
    exact gCall_of fun _ => ⟨a, b, rfl, by omega, by omega, b0, b1, fun p z hp hz f => q p z hp hz f⟩
  · refine ite_f (by simpa using hk) ?_
    try simp only [frz, params, setAll, List.zipWith, List.length_cons, List.length_nil, Nat.reduceAdd, Nat.reduceSub, List.replicate, List.append_nil, List.cons_append, List.nil_append, getV_va, Pt.sl, true_and, List.getElem?_cons_zero, List.getElem?_cons_succ, List.set_cons_zero, List.set_cons_succ, ite_self, Bool.false_eq_true, if_false, if_true]
    rw [gI_of]
    refine ⟨trivial, gDraw (by omega) (by omega) fun m m0 m1 => ?_⟩
    rw [gAdd_int]
    exact gCall_of fun _ => ⟨2 + m, rfl, by omega, by omega, fun p z hp hz f => q p z hp hz f⟩

end
end My

set_option Elab.async false
set_option linter.all false
set_option maxRecDepth 100000
set_option maxHeartbeats 4000000
set_option pp.maxSteps 6000
namespace My
open PySem PySem.Spec PyProof.Rows L2 DL
set_option pp.maxSteps 1500
theorem paired_all {P : D → Prop} {xs : List Dv} {ys : List D} (h : Paired (fun _ d => P d) xs ys) : ys.length = xs.length ∧ ∀ y ∈ ys, P y := by
  induction h with
  | nil => exact ⟨rfl, fun y h => nomatch h⟩
  | cons a _ ih =>
    refine ⟨by rw [List.length_cons, List.length_cons, ih.1], fun y hy => ?_⟩
    rcases List.mem_cons.mp hy with rfl | hy
    · exact a
    · exact ih.2 y hy
/-- three odd items -/
def Cut3 (x : D) : Prop := ∃ l, x = .tup l ∧ l.length = 3 ∧ ∀ y ∈ l, Nic 2 2000 y
theorem n0 {i : Int} (h : i.natAbs ≤ 10 ^ 30) : Nic 2 2000 (.int i) := .mono (.int h) (by decide) (by decide)
theorem nN : Nic 2 2000 .non := .mono .non (by decide) (by decide)
theorem cut3 {a b c : D} (h1 : Nic 2 2000 a) (h2 : Nic 2 2000 b) (h3 : Nic 2 2000 c) : Cut3 (.tup [a, b, c]) := ⟨_, rfl, rfl, fun y hy => by
  simp only [List.mem_cons, List.not_mem_nil, or_false] at hy
  rcases hy with rfl | rfl | rfl <;> assumption⟩
theorem Cut3.nic {x : D} (h : Cut3 x) : Nic 4 20000 x := by
  obtain ⟨l, rfl, hl, hx⟩ := h
  exact .mono (.tup (l := 3) (by omega) (by decide) hx) (by decide) (by decide)
theorem gAdd_lst {xs ys : List D} {n n' : Bool} {v v' : Option V} {Q : Dv → Prop} (h : xs.length + ys.length ≤ BIG) (q : ∀ f, Q ⟨.lst (xs ++ ys), f, none⟩) : gAdd ⟨.lst xs, n, v⟩ ⟨.lst ys, n', v'⟩ Q := ⟨h, q _⟩
theorem gAdd_tup' {xs ys : List D} {n n' : Bool} {v v' : Option V} {Q : Dv → Prop} (h : xs.length + ys.length ≤ BIG) (q : ∀ f, Q ⟨.tup (xs ++ ys), f, none⟩) : gAdd ⟨.tup xs, n, v⟩ ⟨.tup ys, n', v'⟩ Q := ⟨h, q _⟩
theorem gPickD {xs : List D} {ρ : Ro} {XQ : XQT} {Q : Dv → Prop} {n n2 : Bool} {v v2 : Option V} (h0 : xs ≠ []) (h1 : xs.length ≤ 1000) (h : ∀ x ∈ xs, ∀ f, Q ⟨x, f, none⟩) : gCall c__law_pick ρ XQ [⟨.strm, n, v⟩, ⟨.lst xs, n2, v2⟩] Q :=
  gCall_of fun _ => ⟨_, _, rfl, rfl, h0, by omega, h⟩
/-- a rider's number, or None -/
def LastO (x : D) : Prop := x = .non ∨ ∃ i : Int, x = .int i ∧ i.natAbs ≤ 1000
theorem LastO.nic {x : D} (h : LastO x) : Nic 2 2000 x := by
  rcases h with rfl | ⟨i, rfl, hi⟩
  · exact nN
  · exact n0 (Nat.le_trans hi (by decide))
section
variable {P : Program} {w : World} {K : PySem.W.Frag} {mg : Str → Option Value} {base : Heap}
theorem sc__law_things : FnScope ["stream", "plan", "post", "lasts", "found", "turn", "last", "odds", "mine", "span", "tick", "cut", "at", "odd", "place", "one"] ["stream", "plan", "post"] (defScope s__law_things) := ⟨rfl, rfl, rfl, by decide +kernel, rfl, by decide +kernel, by decide +kernel⟩
def c__law_things : DC := fun ds _ _ Q => ∃ (p : PV) (x : Str), ds = [.strm, p.d, .str x] ∧ PlanOk p ∧ PyData.strOk x = true ∧ ∀ xs : List D, xs.length ≤ 1000 → (∀ y ∈ xs, Nic 4 20000 y) → ∀ f, Q ⟨.lst xs, f, none⟩
theorem ok__law_things (T : Txt K mg) : FnD P w K mg base 3 T.f__law_things.f T.f__law_things.fd ["stream", "plan", "post"] (BIG * 10) c__law_things := by
  refine fn_ok T.f__law_things.ok sc__law_things fun cdv A outer s H E hr => ⟨_, _, (dss_cons (ds_par2 (i := 8) (j := 9) [] (dp_va (de_call ((ok__law_mine T).mono (by decide)) hr (by rfl) T.f__law_mine.g T.f__law_mine.ok.kp T.f__law_mine.b (passE (takes_of rfl rfl rfl rfl)) rfl (da_cons (de_var (pv 1)) (da_cons (de_var (pv 2)) da_nil)))) (dp_va de_int) rfl sc__law_things.nd rfl rfl (by decide) (by rfl) (by rfl) (by rfl))
      (dss_cons (ds_asg [] (de_op dop_add (de_op dop_add (de_op dop_add (de_op dop_add (de_var (pv 8)) (de_var (pv 8))) (de_lst (da_cons de_non da_nil))) (de_listRg rfl (by rfl) T.n_list (by rfl) T.n_range (de_callB dcl_len (by rfl) T.n_len (by decide +kernel) (da_cons (de_ix (de_var (pv 1)) de_int (fun _ _ => rfl)) da_nil)))) (de_lst (da_cons (de_callB dcl_len (by rfl) T.n_len (by decide +kernel) (da_cons (de_ix (de_var (pv 1)) de_int (fun _ _ => rfl)) da_nil)) (da_cons (de_neg de_int) da_nil)))) (dg_name (pg_name (i := 3) sc__law_things.nd rfl (Or.inl rfl))) (fun _ _ a b => ps_asg a b))
      (dss_cons (ds_own [] (dn_lst da_nil) (pg_name (i := 4) sc__law_things.nd rfl (Or.inl rfl)) (fun _ _ a b => ps_asg a b))
      (dss_cons (ds_for [] (passes_of rfl) rfl (di_range1 (by rfl) T.n_range (da_cons de_int da_nil)) (dg_name (pg_name (i := 5) sc__law_things.nd rfl (Or.inl rfl)))
      (dss_cons (ds_asg [] (de_call ((ok__law_draw T).mono (by decide)) hr (by rfl) T.f__law_draw.g T.f__law_draw.ok.kp T.f__law_draw.b (passE (takes_of rfl rfl rfl rfl)) rfl (da_cons (de_var (pv 0)) (da_cons (de_var (pv 9)) da_nil))) (dg_name (pg_name (i := 10) sc__law_things.nd rfl (Or.inl rfl))) (fun _ _ a b => ps_asg a b))
      (dss_cons (ds_asg [] (de_tup (da_cons (de_call ((ok__law_pick T).mono (by decide)) hr (by rfl) T.f__law_pick.g T.f__law_pick.ok.kp T.f__law_pick.b (passE (takes_of rfl rfl rfl rfl)) rfl (da_cons (de_var (pv 0)) (da_cons (de_lst (da_cons (de_neg de_int) (da_cons (de_neg de_int) (da_cons (de_call ((ok__law_draw T).mono (by decide)) hr (by rfl) T.f__law_draw.g T.f__law_draw.ok.kp T.f__law_draw.b (passE (takes_of rfl rfl rfl rfl)) rfl (da_cons (de_var (pv 0)) (da_cons (de_op dop_add (de_var (pv 10)) de_int) da_nil))) (da_cons (de_var (pv 10)) da_nil))))) da_nil))) (da_cons (de_call ((ok__law_pick T).mono (by decide)) hr (by rfl) T.f__law_pick.g T.f__law_pick.ok.kp T.f__law_pick.b (passE (takes_of rfl rfl rfl rfl)) rfl (da_cons (de_var (pv 0)) (da_cons (de_var (pv 3)) da_nil))) (da_cons (de_var (pv 10)) da_nil)))) (dg_name (pg_name (i := 11) sc__law_things.nd rfl (Or.inl rfl))) (fun _ _ a b => ps_asg a b))
      (dss_cons (ds_append [] (de_var (pv 11)) (fun _ a => ps_expr (pe_bm PySem.F.plainAttrs_list PySem.F.slot_list_append PySem.F.type_list_append mt_append (pv 4) (pa_cons a pa_nil))))
      (dss_cons (ds_asg [] (de_call ((ok__law_draw T).mono (by decide)) hr (by rfl) T.f__law_draw.g T.f__law_draw.ok.kp T.f__law_draw.b (passE (takes_of rfl rfl rfl rfl)) rfl (da_cons (de_var (pv 0)) (da_cons de_int da_nil))) (dg_name (pg_name (i := 12) sc__law_things.nd rfl (Or.inr rfl))) (fun _ _ a b => ps_asg a b))
      (dss_cons (ds_asg [] (de_call ((ok__law_pick T).mono (by decide)) hr (by rfl) T.f__law_pick.g T.f__law_pick.ok.kp T.f__law_pick.b (passE (takes_of rfl rfl rfl rfl)) rfl (da_cons (de_var (pv 0)) (da_cons (de_lst (da_cons de_non (da_cons (de_neg de_int) (da_cons (de_neg de_int) (da_cons de_bl (da_cons de_bl (da_cons de_str (da_cons (de_lst (da_cons de_int da_nil)) (da_cons (de_tup (da_cons de_int da_nil)) (da_cons (DN.de dn_dnew) (da_cons (de_ix (de_var (pv 11)) (de_var (pv 12)) (fun _ _ => rfl)) (da_cons de_int (da_cons de_int da_nil))))))))))))) da_nil))) (dg_name (pg_name (i := 13) sc__law_things.nd rfl (Or.inr rfl))) (fun _ _ a b => ps_asg a b))
      (dss_one (ds_append [] (de_callTy dcl_tuple (by rfl) T.n_tuple (by decide +kernel) (da_cons (DN.de (dn_lc (own := [("place", 14), ("one", 15)]) rfl sc__law_things.nd (di_enumT (by rfl) T.n_enumerate (da_cons (de_var (pv 11)) da_nil)) (blkOk_by (N := ["stream", "plan", "post", "lasts", "found", "turn", "last", "odds", "mine", "span", "tick", "cut", "at", "odd", "place", "one"]) (sc := defScope s__law_things) (by decide +kernel)) (fun _ _ _ _ _ => (dg_tup (n := 2) rfl (dgs_cons (dg_name (pg_name (i := 14) sc__law_things.nd rfl (Or.inl rfl))) (dgs_cons (dg_name (pg_name (i := 15) sc__law_things.nd rfl (Or.inl rfl))) dgs_nil)))) (fun _ _ _ _ _ => dts_nil) (fun _ _ _ _ _ => (de_if (dt_cmp (dop_eq hr.units) (de_var (pv 14)) (de_var (pv 12)) (nomark _)) (de_var (pv 13)) (de_var (pv 15)))) (by decide))) da_nil)) (fun _ a => ps_expr (pe_bm PySem.F.plainAttrs_list PySem.F.slot_list_append PySem.F.type_list_append mt_append (pv 4) (pa_cons a pa_nil)))))))))))
      (dss_cons (ds_for [] (passes_of rfl) rfl (di_seq (de_op dop_add (de_slice (de_var (pv 8)) do_none (do_some de_int)) (de_lst (da_cons de_non da_nil)))) (dg_name (pg_name (i := 6) sc__law_things.nd rfl (Or.inl rfl)))
      (dss_cons (ds_asg [] (de_imp (g := fun ρ XQ Q => ∃ (p : PV) (d : D) (n1 n6 : Bool) (v1 v6 : Option V), ρ[1]? = some (.va ⟨p.d, n1, v1⟩) ∧ ρ[6]? = some (.va ⟨d, n6, v6⟩) ∧ PlanOk p ∧ (d = .non ∨ ∃ k : Nat, d = .int (k : Nat) ∧ k < p.riders.length) ∧ ∀ t : Int, 0 ≤ t → t ≤ 1000 → ∀ f v, Q ⟨.int t, f, v⟩) (de_if (dt_cmp dop_notN (de_var (pv 6)) de_non (nomark _)) (de_ix (de_ix (de_ix (de_var (pv 1)) de_int (fun _ _ => rfl)) (de_var (pv 6)) (fun _ _ => rfl)) de_int (fun _ _ => rfl)) de_int) (fun ρ XQ Q h => by
    obtain ⟨p, d, n1, n6, v1, v6, h1, h6, hp, hd, q⟩ := h
    simp only [h1, h6, getV_va]
    try simp only [frz, params, setAll, List.zipWith, List.length_cons, List.length_nil, Nat.reduceAdd, Nat.reduceSub, List.replicate, List.append_nil, List.cons_append, List.nil_append, getV_va, Pt.sl, true_and, List.getElem?_cons_zero, List.getElem?_cons_succ, List.set_cons_zero, List.set_cons_succ, ite_self, Bool.false_eq_true, if_false, if_true]
    rcases hd with rfl | ⟨k, rfl, hk⟩
    · exact ⟨⟨false, rfl, ite_f (by decide) (q 0 (by decide) (by decide) _ _)⟩, fun v z => nomatch z⟩
    · refine ⟨⟨true, rfl, ite_t rfl ?_⟩, fun v z => nomatch z⟩
      have hb := hp.rb _ (List.getElem_mem hk)
      rw [gIx_of p.seq p.at2, gIx_of (by rfl) (row_at hk), gIx_of (by rfl) (show atI [D.str p.riders[k].1, .int (tickAt p.riders k), .int (roomAt p.riders k)] 1 = some (.int (tickAt p.riders k)) from rfl)]
      have e : tickAt p.riders k = p.riders[k].2.1 := by unfold tickAt; rw [List.getElem?_eq_getElem hk]; rfl
      rw [e]
      exact q _ hb.1 hb.2.1 _ _)) (dg_name (pg_name (i := 10) sc__law_things.nd rfl (Or.inl rfl))) (fun _ _ a b => ps_asg a b))
      (dss_cons (ds_extend [] (de_lst (da_cons (de_tup (da_cons (de_neg de_int) (da_cons (de_var (pv 6)) (da_cons (de_var (pv 10)) da_nil)))) (da_cons (de_tup (da_cons (de_neg de_int) (da_cons (de_var (pv 6)) (da_cons (de_op dop_add (de_var (pv 10)) de_int) da_nil)))) (da_cons (de_tup (da_cons de_int (da_cons (de_var (pv 6)) (da_cons (de_var (pv 10)) da_nil)))) (da_cons (de_tup (da_cons (de_var (pv 10)) (da_cons (de_var (pv 6)) (da_cons (de_var (pv 10)) da_nil)))) (da_cons (de_tup (da_cons (de_op dop_add (de_var (pv 10)) de_int) (da_cons (de_var (pv 6)) (da_cons (de_var (pv 10)) da_nil)))) da_nil)))))) (fun _ a => ps_expr (pe_bm PySem.F.plainAttrs_list PySem.F.slot_list_extend PySem.F.type_list_extend mt_extend (pv 4) (pa_cons a pa_nil))))
      (dss_one (ds_append [] (de_tup (da_cons (de_neg de_int) (da_cons (de_var (pv 6)) (da_cons (de_op dop_sub (de_var (pv 10)) de_int) da_nil)))) (fun _ a => ps_expr (pe_bm PySem.F.plainAttrs_list PySem.F.slot_list_append PySem.F.type_list_append mt_append (pv 4) (pa_cons a pa_nil))))))))
      (dss_cons (ds_asg [] (de_lst (da_cons de_non (da_cons de_int (da_cons de_str (da_cons (de_lst da_nil) (da_cons (DN.de dn_dnew) (da_cons (de_tup da_nil) (da_cons (de_slice (de_ixO (i := 4) (pv 4) de_int (fun _ _ => rfl)) do_none (do_some de_int)) (da_cons (de_op dop_add (de_ixO (i := 4) (pv 4) de_int (fun _ _ => rfl)) (de_tup (da_cons de_int da_nil))) (da_cons (de_lst (da_cons (de_ixO (i := 4) (pv 4) de_int (fun _ _ => rfl)) da_nil)) (da_cons (de_tup (da_cons (de_neg de_int) (da_cons de_bl (da_cons de_int da_nil)))) (da_cons (de_tup (da_cons de_bl (da_cons de_non (da_cons de_int da_nil)))) (da_cons (de_tup (da_cons (de_neg de_int) (da_cons de_int (da_cons de_bl da_nil)))) da_nil))))))))))))) (dg_name (pg_name (i := 7) sc__law_things.nd rfl (Or.inl rfl))) (fun _ _ a b => ps_asg a b))
      (dss_one (ds_ret [4] (de_op dop_add (de_var (pv 4)) (de_var (pv 7))))))))))), by decide +kernel, fun ds vs XQ Q hd hv h => ?_⟩
  obtain ⟨p, x, rfl, hp, hx, q⟩ := h
  match vs, hv with
  | [v, v2, v3], _ =>
  try simp only [frz, params, setAll, List.zipWith, List.length_cons, List.length_nil, Nat.reduceAdd, Nat.reduceSub, List.replicate, List.append_nil, List.cons_append, List.nil_append, getV_va, Pt.sl, true_and, List.getElem?_cons_zero, List.getElem?_cons_succ, List.set_cons_zero, List.set_cons_succ, ite_self, Bool.false_eq_true, if_false, if_true]
  have hok := hp.ok
  have hrl := hp.rl
  have hml := mineAt_len (x := x) (rs := p.riders) (i := 0)
  have e2 : atI [D.str p.office, .lst (p.roads.map roadD), .lst (p.riders.map rowD), .lst (p.letters.map rowD)] 2 = some (.lst (p.riders.map rowD)) := rfl
  refine gCall_of fun _ => ⟨p, x, rfl, hok, hx, fun f => ?_⟩
  dsimp only
  have hmk : ∀ y ∈ (mineN p.riders x).map (fun k => D.int (k : Nat)), ∃ k : Nat, y = .int (k : Nat) ∧ k < p.riders.length := fun y hy => by
    obtain ⟨k, hk, rfl⟩ := List.mem_map.mp hy
    exact ⟨k, rfl, (mem_mine hk).1⟩
  have hmn : ((mineN p.riders x).map (fun k => D.int (k : Nat))).length ≤ 100 := by rw [List.length_map]; unfold mineN; omega
  generalize (mineN p.riders x).map (fun k => D.int (k : Nat)) = mine at hmk hmn
  refine gAdd_lst (by unfold BIG; omega) fun f1 => ⟨by decide, gAdd_lst (by rw [List.length_append]; unfold BIG; show _ + 1 ≤ _; omega) fun f2 => ?_⟩
  rw [gIx_of p.seq e2, g1_of, gLen_of (by rfl), List.length_map]
  refine ⟨p.riders.length, rfl, by unfold BIG; omega, gAdd_lst (by simp only [List.length_append, List.length_map, List.length_range, List.length_cons, List.length_nil]; unfold BIG; omega) fun f3 => ?_⟩
  rw [gIx_of p.seq e2, g1_of, gLen_of (by rfl), List.length_map]
  refine ⟨by decide, gAdd_lst (by simp only [List.length_append, List.length_map, List.length_range, List.length_cons, List.length_nil]; unfold BIG; omega) fun f4 => ?_⟩
  have hlo : ∀ y ∈ mine ++ mine ++ [D.non] ++ ((List.range p.riders.length).map fun k => D.int (k : Nat)) ++ [D.int (p.riders.length : Nat), .int (-1)], LastO y := fun y hy => by
    rcases List.mem_append.mp hy with hy | hy
    · rcases List.mem_append.mp hy with hy | hy
      · rcases List.mem_append.mp hy with hy | hy
        · have : y ∈ mine := (List.mem_append.mp hy).elim id id
          obtain ⟨k, rfl, hk⟩ := hmk y this
          exact .inr ⟨_, rfl, by omega⟩
        · rw [List.mem_singleton] at hy
          exact .inl hy
      · obtain ⟨k, hk, rfl⟩ := List.mem_map.mp hy
        have := List.mem_range.mp hk
        exact .inr ⟨_, rfl, by omega⟩
    · simp only [List.mem_cons, List.not_mem_nil, or_false] at hy
      rcases hy with rfl | rfl
      · exact .inr ⟨_, rfl, by omega⟩
      · exact .inr ⟨_, rfl, by decide⟩
  have hll : (mine ++ mine ++ [D.non] ++ ((List.range p.riders.length).map fun k => D.int (k : Nat)) ++ [D.int (p.riders.length : Nat), .int (-1)]).length ≤ 1000 := by
    rw [List.length_append, List.length_append, List.length_append, List.length_append, List.length_map, List.length_range]
    show _ + _ + 1 + _ + 2 ≤ _
    omega
  have hln : mine ++ mine ++ [D.non] ++ ((List.range p.riders.length).map fun k => D.int (k : Nat)) ++ [D.int (p.riders.length : Nat), .int (-1)] ≠ [] := by simp
  simp only [List.map_cons, List.map_nil]
  generalize mine ++ mine ++ [D.non] ++ ((List.range p.riders.length).map fun k => D.int (k : Nat)) ++ [D.int (p.riders.length : Nat), .int (-1)] = lasts at hlo hll hln
  refine ⟨by decide, by decide, by decide, .inr (by rw [rgD_len]; decide), ?_⟩
  refine for_idx (fun i ρ => ∃ f3 f4 f8 s5 s10 s11 s12 s13 s14 s15, ∃ xs : List D, ρ = [Sl.va ⟨.strm, D.strm.imm, some v⟩, .va ⟨p.d, p.d.imm, some v2⟩, .va ⟨.str x, (D.str x).imm, some v3⟩, .va ⟨.lst lasts, f3, none⟩, .ow (.lst xs) f4, s5, .un, .un, .va ⟨.lst mine, f8, none⟩, .va ⟨.int 14, true, some (.int 14)⟩, s10, s11, s12, s13, s14, s15] ∧ xs.length = 2 * i ∧ ∀ y ∈ xs, Cut3 y) _ 0 _ ⟨_, _, _, _, _, _, _, _, _, _, [], rfl, rfl, fun y h => (nomatch h)⟩ (fun i y hy ρ hI K kk => ?_) fun ρ hI => ?_
  · obtain ⟨f3, f4, f8, s5, s10, s11, s12, s13, s14, s15, xs, rfl, hl, hxs⟩ := hI
    obtain ⟨hi, rfl⟩ := rgD_get hy
    rw [Nat.zero_add] at hl kk
    try simp only [frz, params, setAll, List.zipWith, List.length_cons, List.length_nil, Nat.reduceAdd, Nat.reduceSub, List.replicate, List.append_nil, List.cons_append, List.nil_append, getV_va, Pt.sl, true_and, List.getElem?_cons_zero, List.getElem?_cons_succ, List.set_cons_zero, List.set_cons_succ, ite_self, Bool.false_eq_true, if_false, if_true]
    refine gDraw (by decide) (by decide) fun t t0 t1 => ?_
    try simp only [frz, params, setAll, List.zipWith, List.length_cons, List.length_nil, Nat.reduceAdd, Nat.reduceSub, List.replicate, List.append_nil, List.cons_append, List.nil_append, getV_va, Pt.sl, true_and, List.getElem?_cons_zero, List.getElem?_cons_succ, List.set_cons_zero, List.set_cons_succ, ite_self, Bool.false_eq_true, if_false, if_true]
    rw [gAdd_int]
    refine gDraw (by omega) (by omega) fun u u0 u1 => ?_
    refine ⟨by decide, gPickI [-1, -1, u, t] (by simp) (by simp) fun mo hmo fm => ?_⟩
    have hmo2 : -1 ≤ mo ∧ mo ≤ 100 := by
      simp only [List.mem_cons, List.not_mem_nil, or_false] at hmo
      omega
    refine gPickD hln hll fun la hla fl => ?_
    try simp only [frz, params, setAll, List.zipWith, List.length_cons, List.length_nil, Nat.reduceAdd, Nat.reduceSub, List.replicate, List.append_nil, List.cons_append, List.nil_append, getV_va, Pt.sl, true_and, List.getElem?_cons_zero, List.getElem?_cons_succ, List.set_cons_zero, List.set_cons_succ, ite_self, Bool.false_eq_true, if_false, if_true]
    refine ⟨by decide, ⟨_, _, rfl⟩, xs, f4, rfl, by unfold BIG; omega, gDraw (by decide) (by decide) fun k k0 k1 => ?_⟩
    try simp only [frz, params, setAll, List.zipWith, List.length_cons, List.length_nil, Nat.reduceAdd, Nat.reduceSub, List.replicate, List.append_nil, List.cons_append, List.nil_append, getV_va, Pt.sl, true_and, List.getElem?_cons_zero, List.getElem?_cons_succ, List.set_cons_zero, List.set_cons_succ, ite_self, Bool.false_eq_true, if_false, if_true]
    have hc3 : ∀ y ∈ [D.int mo, la, .int t], Nic 2 2000 y := fun y hy => by
      simp only [List.mem_cons, List.not_mem_nil, or_false] at hy
      rcases hy with rfl | rfl | rfl
      · exact n0 (Nat.le_trans (show mo.natAbs ≤ 100 by omega) (by decide))
      · exact (hlo _ hla).nic
      · exact n0 (Nat.le_trans (show t.natAbs ≤ 100 by omega) (by decide))
    obtain ⟨ck, hck, hckm⟩ := atI_nat (xs := [D.int mo, la, .int t]) k0 (by simpa using k1)
    rw [gIx_of (by rfl) hck]
    refine ⟨by decide, by decide, by decide, gPickD (by simp) (by simp) fun od hod fo => ?_⟩
    have hod2 : Nic 2 2000 od := by
      simp only [List.mem_cons, List.not_mem_nil, or_false] at hod
      rcases hod with rfl | rfl | rfl | rfl | rfl | rfl | rfl | rfl | rfl | rfl | rfl | rfl
      · exact nN
      · exact n0 (by decide)
      · exact n0 (by decide)
      · exact .mono .bl (by decide) (by decide)
      · exact .mono .bl (by decide) (by decide)
      · exact .mono (.str (by decide +kernel) (by decide +kernel)) (by decide) (by decide)
      · exact .mono (.lst (k := 0) (w := 1921) (l := 1) (by decide) (by decide) fun x h => by rw [List.mem_singleton] at h; rw [h]; exact .int (by decide)) (by decide) (by decide)
      · exact .mono (.tup (k := 0) (w := 1921) (l := 1) (by decide) (by decide) fun x h => by rw [List.mem_singleton] at h; rw [h]; exact .int (by decide)) (by decide) (by decide)
      · exact .mono .dct (by decide) (by decide)
      · exact hc3 _ hckm
      · exact n0 (by decide)
      · exact n0 (by decide)
    try simp only [frz, params, setAll, List.zipWith, List.length_cons, List.length_nil, Nat.reduceAdd, Nat.reduceSub, List.replicate, List.append_nil, List.cons_append, List.nil_append, getV_va, Pt.sl, true_and, List.getElem?_cons_zero, List.getElem?_cons_succ, List.set_cons_zero, List.set_cons_succ, ite_self, Bool.false_eq_true, if_false, if_true]
    refine ⟨⟨_, _, rfl⟩, by rw [enumD_len]; show 3 ≤ BIG; decide, lc_rel0 (fun _ d => Nic 2 2000 d) (fun y hy K1 K0 k1 => ?_) fun ys n hpd => ?_⟩
    · obtain ⟨j, hj⟩ := List.mem_iff_getElem?.mp hy
      obtain ⟨d, hd2, rfl⟩ := enumD_get hj
      have hdm := hc3 d (List.mem_of_getElem? hd2)
      try simp only [lcStep, true_and, wipeR, List.map_cons, List.map_nil, List.set_cons_succ, List.set_cons_zero, List.getElem?_cons_succ, List.getElem?_cons_zero, getV_va, if_true]
      rw [unp_seq (by rfl)]
      refine ⟨rfl, ?_⟩
      simp only [List.map_cons, List.map_nil]
      refine ⟨trivial, ?_⟩
      try simp only [frz, params, setAll, List.zipWith, List.length_cons, List.length_nil, Nat.reduceAdd, Nat.reduceSub, List.replicate, List.append_nil, List.cons_append, List.nil_append, getV_va, Pt.sl, true_and, List.getElem?_cons_zero, List.getElem?_cons_succ, List.set_cons_zero, List.set_cons_succ, ite_self, Bool.false_eq_true, if_false, if_true]
      rw [gEq_int, bl_of]
      by_cases hb : ((0 + j : Nat) : Int) = k
      · exact ite_t (by simpa using hb) (k1 _ _ _ hod2)
      · exact ite_f (by simpa using hb) (k1 _ _ _ hdm)
    obtain ⟨hyl, hyn⟩ := paired_all hpd
    rw [enumD_len] at hyl
    refine ⟨_, _, rfl, by rw [List.length_append]; show xs.length + 1 < BIG; unfold BIG; omega, kk _ ⟨_, _, _, _, _, _, _, _, _, _, xs ++ [D.tup [.int mo, la, .int t]] ++ [.tup ys], rfl, by rw [List.length_append, List.length_append]; show xs.length + 1 + 1 = _; omega, fun y hy => ?_⟩⟩
    rcases List.mem_append.mp hy with hy | hy
    · rcases List.mem_append.mp hy with hy | hy
      · exact hxs y hy
      · rw [List.mem_singleton] at hy
        rw [hy]
        exact ⟨_, rfl, rfl, hc3⟩
    · rw [List.mem_singleton] at hy
      rw [hy]
      exact ⟨_, rfl, hyl, hyn⟩
  obtain ⟨f3, f4, f8, s5, s10, s11, s12, s13, s14, s15, xs, rfl, hxl, hxs⟩ := hI
  rw [rgD_len] at hxl
  have hxl : xs.length = 16 := hxl
  try simp only [frz, params, setAll, List.zipWith, List.length_cons, List.length_nil, Nat.reduceAdd, Nat.reduceSub, List.replicate, List.append_nil, List.cons_append, List.nil_append, getV_va, Pt.sl, true_and, List.getElem?_cons_zero, List.getElem?_cons_succ, List.set_cons_zero, List.set_cons_succ, ite_self, Bool.false_eq_true, if_false, if_true]
  refine ⟨2, rfl, ?_⟩
  rw [gSl_seq (by rfl)]
  dsimp only [D.like]
  have hcl := cutL_len mine none (some 2)
  refine ⟨by decide, gAdd_lst (by show _ + 1 ≤ _; unfold BIG; omega) fun f5 => ?_⟩
  rw [items_seq (by rfl)]
  refine ⟨.inl trivial, ?_⟩
  have hit : ∀ y ∈ cutL mine none (some 2) ++ [D.non], y = .non ∨ ∃ k : Nat, y = .int (k : Nat) ∧ k < p.riders.length := fun y hy => by
    rcases List.mem_append.mp hy with hy | hy
    · exact .inr (hmk y (cut_mem hy))
    · rw [List.mem_singleton] at hy
      exact .inl hy
  have hil : (cutL mine none (some 2) ++ [D.non]).length ≤ 101 := by rw [List.length_append]; show _ + 1 ≤ _; omega
  generalize cutL mine none (some 2) ++ [D.non] = its at hit hil
  refine for_idx (fun i ρ => ∃ f3 f4 f8 s5 s6 s10 s11 s12 s13 s14 s15, ∃ xs : List D, ρ = [Sl.va ⟨.strm, D.strm.imm, some v⟩, .va ⟨p.d, p.d.imm, some v2⟩, .va ⟨.str x, (D.str x).imm, some v3⟩, .va ⟨.lst lasts, f3, none⟩, .ow (.lst xs) f4, s5, s6, .un, .va ⟨.lst mine, f8, none⟩, .va ⟨.int 14, true, some (.int 14)⟩, s10, s11, s12, s13, s14, s15] ∧ xs.length = 16 + 6 * i ∧ ∀ y ∈ xs, Cut3 y) _ 0 _ ⟨_, _, _, _, _, _, _, _, _, _, _, xs, rfl, hxl, hxs⟩ (fun i y hy ρ hI K kk => ?_) fun ρ hI => ?_
  · obtain ⟨f3, f4, f8, s5, s6, s10, s11, s12, s13, s14, s15, xs, rfl, hl, hxs⟩ := hI
    rw [List.getElem?_map] at hy
    cases e : its[i]? with
    | none => rw [e] at hy; cases hy
    | some la =>
    rw [e] at hy
    cases hy
    have hla := hit la (List.mem_of_getElem? e)
    have hli := (List.getElem?_eq_some_iff.mp e).1
    try simp only [frz, params, setAll, List.zipWith, List.length_cons, List.length_nil, Nat.reduceAdd, Nat.reduceSub, List.replicate, List.append_nil, List.cons_append, List.nil_append, getV_va, Pt.sl, true_and, List.getElem?_cons_zero, List.getElem?_cons_succ, List.set_cons_zero, List.set_cons_succ, ite_self, Bool.false_eq_true, if_false, if_true]
    refine ⟨p, la, _, _, _, _, rfl, rfl, hp, hla, fun t t0 t1 ft vt => ?_⟩
    try simp only [frz, params, setAll, List.zipWith, List.length_cons, List.length_nil, Nat.reduceAdd, Nat.reduceSub, List.replicate, List.append_nil, List.cons_append, List.nil_append, getV_va, Pt.sl, true_and, List.getElem?_cons_zero, List.getElem?_cons_succ, List.set_cons_zero, List.set_cons_succ, ite_self, Bool.false_eq_true, if_false, if_true]
    have hl2 : Nic 2 2000 la := by
      rcases hla with rfl | ⟨k, rfl, hk⟩
      · exact nN
      · exact n0 (Nat.le_trans (show ((k : Nat) : Int).natAbs ≤ 100 by omega) (by decide))
    have nt : ∀ j : Int, -10 ≤ j → j ≤ 2000 → Nic 2 2000 (.int j) := fun j j0 j1 => n0 (Nat.le_trans (show j.natAbs ≤ 2000 by omega) (by decide))
    refine ⟨⟨_, _, rfl⟩, by decide, ?_⟩
    rw [gAdd_int]
    refine ⟨by decide, by decide, by decide, ?_⟩
    rw [gAdd_int]
    refine ⟨by decide, by decide, _, _, _, rfl, rfl, by show xs.length + 5 ≤ BIG; unfold BIG; omega, ⟨_, _, rfl⟩, ?_⟩
    rw [gI_of]
    refine ⟨trivial, by decide, _, _, rfl, by rw [List.length_append]; show xs.length + 5 < BIG; unfold BIG; omega, kk _ ⟨_, _, _, _, _, _, _, _, _, _, _, xs ++ [D.tup [.int (-1), la, .int t], .tup [.int (-1), la, .int (t + 1)], .tup [.int 0, la, .int t], .tup [.int t, la, .int t], .tup [.int (t + 1), la, .int t]] ++ [D.tup [.int (-1), la, .int (t - 1)]], rfl, by rw [List.length_append, List.length_append]; show xs.length + 5 + 1 = _; omega, fun y hy => ?_⟩⟩
    rcases List.mem_append.mp hy with hy | hy
    · rcases List.mem_append.mp hy with hy | hy
      · exact hxs y hy
      · simp only [List.mem_cons, List.not_mem_nil, or_false] at hy
        rcases hy with rfl | rfl | rfl | rfl | rfl <;> exact cut3 (nt _ (by omega) (by omega)) hl2 (nt _ (by omega) (by omega))
    · rw [List.mem_singleton] at hy
      rw [hy]
      exact cut3 (nt _ (by omega) (by omega)) hl2 (nt _ (by omega) (by omega))
  · obtain ⟨f3, f4, f8, s5, s6, s10, s11, s12, s13, s14, s15, xs, rfl, hl, hxs⟩ := hI
    rw [List.length_map] at hl
    try simp only [D.sca, frz, params, setAll, List.zipWith, List.length_cons, List.length_nil, Nat.reduceAdd, Nat.reduceSub, List.replicate, List.append_nil, List.cons_append, List.nil_append, getV_va, Pt.sl, true_and, List.getElem?_cons_zero, List.getElem?_cons_succ, List.set_cons_zero, List.set_cons_succ, ite_self, Bool.false_eq_true, if_false, if_true]
    have h0x : 0 < xs.length := by omega
    have ea : atI xs 0 = some xs[0] := atI_nat' (i := 0) (List.getElem?_eq_getElem h0x)
    obtain ⟨l0, el0, hl0, hn0⟩ := hxs _ (List.getElem_mem h0x)
    rw [el0] at ea
    refine ⟨by decide, by decide, _, _, rfl, 0, _, rfl, ea, ⟨2, rfl, _, _, rfl, 0, _, rfl, ea, by decide, gAdd_tup' (by rw [hl0]; decide) fun f9 => ?_⟩⟩
    refine ⟨_, _, rfl, 0, _, rfl, ea, by decide, by decide, by decide, by decide, by decide, ?_⟩
    simp only [List.map_cons, List.map_nil]
    refine gAdd_lst (by show _ + 12 ≤ _; unfold BIG; omega) fun f10 => q _ (by rw [List.length_append]; show _ + 12 ≤ _; omega) (fun y hy => ?_) _
    rcases List.mem_append.mp hy with hy | hy
    · exact (hxs y hy).nic
    · have c0 : Nic 4 20000 (D.tup l0) := (hxs _ (List.getElem_mem h0x)).nic |> fun z => by rw [el0] at z; exact z
      have up : ∀ {z}, Nic 2 2000 z → Nic 4 20000 z := fun h => .mono h (by decide) (by decide)
      simp only [List.mem_cons, List.not_mem_nil, or_false] at hy
      rcases hy with rfl | rfl | rfl | rfl | rfl | rfl | rfl | rfl | rfl | rfl | rfl | rfl
      · exact up nN
      · exact up (n0 (by decide))
      · exact up (.mono (.str (by decide +kernel) (by decide +kernel)) (by decide) (by decide))
      · exact .mono (.lst (k := 0) (w := 0) (l := 0) (by decide) (by decide) fun x h => nomatch h) (by decide) (by decide)
      · exact up (.mono .dct (by decide) (by decide))
      · exact .mono (.tup (k := 0) (w := 0) (l := 0) (by decide) (by decide) fun x h => nomatch h) (by decide) (by decide)
      · exact .mono (.tup (l := 3) (Nat.le_trans (cutL_len _ _ _) (by omega)) (by decide) fun x h => hn0 x (cut_mem h)) (by decide) (by decide)
      · refine .mono (.tup (k := 2) (w := 2000) (l := 4) (by rw [List.length_append, hl0]; decide) (by decide) fun x h => ?_) (by decide) (by decide)
        rcases List.mem_append.mp h with h | h
        · exact hn0 x h
        · rw [List.mem_singleton] at h
          rw [h]
          exact n0 (by decide)
      · refine .mono (.lst (k := 3) (w := 6009) (l := 1) (Nat.le_refl 1) (by decide) fun x h => ?_) (by decide) (by decide)
        rw [List.mem_singleton] at h
        rw [h]
        exact .mono (.tup (l := 3) (by omega) (by decide) hn0) (by decide) (by decide)
      · exact (cut3 (n0 (by decide)) (.mono .bl (by decide) (by decide)) (n0 (by decide))).nic
      · exact (cut3 (.mono .bl (by decide) (by decide)) nN (n0 (by decide))).nic
      · exact (cut3 (n0 (by decide)) (n0 (by decide)) (.mono .bl (by decide) (by decide))).nic

end
end My

set_option Elab.async false
set_option linter.all false
set_option maxRecDepth 100000
set_option maxHeartbeats 4000000
set_option pp.maxSteps 6000
namespace My
open PySem PySem.Spec PyProof.Rows L2 DL
set_option pp.maxSteps 1500
mutual
theorem Loose.symm : ∀ {x y : D}, Loose x y → Loose y x
  | _, _, .ll h => .ll (LooseL.symm h)
  | _, _, .lt h => .tl (LooseL.symm h)
  | _, _, .tl h => .lt (LooseL.symm h)
  | _, _, .tt h => .tt (LooseL.symm h)
  | _, _, .same h => .same h
theorem LooseL.symm : ∀ {x y : List D}, LooseL x y → LooseL y x
  | _, _, .nil => .nil
  | _, _, .cons a t => .cons (Loose.symm a) (LooseL.symm t)
end
theorem LooseL.ints : ∀ {ns : List Int} {ys : List D}, LooseL (ns.map D.int) ys → ys = ns.map D.int
  | [], _, h => by cases h; rfl
  | i :: ns, _, h => by
    cases h with
    | cons a t => rw [a.none rfl, LooseL.ints t]; rfl

theorem bool_two {a b : Bool} (h : a = true → b = true) (k : b = true → a = true) : b = a := by
  cases a <;> cases b <;> simp_all
theorem looseL_flat : ∀ {xs ys : List D}, LooseL xs ys → (∀ x ∈ xs, x.seq = none) → ys = xs
  | _, _, .nil, _ => rfl
  | _, _, .cons a t, h => by
    rw [a.none (h _ (by simp)), looseL_flat t fun x hx => h x (by simp [hx])]
theorem cut_loose1 {p : PV} {m : Int} {x : Str} {d y : D} (l : Loose d y) (h : isCut p m x d = true) : isCut p m x y = true ∧ y.seq = d.seq := by
  obtain ⟨mo, la, ti, e⟩ := isCut_form h
  obtain ⟨ys, ey, ll⟩ := l.seq e
  have := looseL_flat ll fun x hx => by
    simp only [List.mem_cons, List.not_mem_nil, or_false] at hx
    rcases hx with rfl | rfl | rfl
    · rfl
    · cases la <;> rfl
    · rfl
  subst this
  refine ⟨?_, by rw [ey, e]⟩
  unfold isCut at h ⊢
  rw [ey]
  rw [e] at h
  exact h
theorem cut_loose {p : PV} {m : Int} {x : Str} {d y : D} (l : Loose d y) : isCut p m x y = isCut p m x d := bool_two (fun h => (cut_loose1 l h).1) fun h => (cut_loose1 l.symm h).1
theorem fault_loose {p : PV} {m : Int} {x : Str} {z : Int} {d y : D} (l : Loose d y) : faultD p m x z y = faultD p m x z d := by
  unfold faultD
  rw [cut_loose l]
  by_cases h : isCut p m x d = true
  · rw [if_pos h, if_pos h, (cut_loose1 l h).2]
  · rw [if_neg h, if_neg h]
theorem iteB {c : Prop} [Decidable c] {A B : Prop} (ha : A) (hb : B) : if c then A else B := by
  by_cases h : c
  · rw [if_pos h]; exact ha
  · rw [if_neg h]; exact hb
theorem looseL_mem : ∀ {xs ys : List D}, LooseL xs ys → ys.length = xs.length ∧ ∀ y ∈ ys, ∃ x ∈ xs, Loose x y
  | _, _, .nil => ⟨rfl, fun y h => (nomatch h)⟩
  | _, _, .cons a t => by
    obtain ⟨h1, h2⟩ := looseL_mem t
    refine ⟨by simp [h1], fun y hy => ?_⟩
    rcases List.mem_cons.mp hy with rfl | hy
    · exact ⟨_, by simp, a⟩
    · obtain ⟨x, hx, l⟩ := h2 y hy
      exact ⟨x, by simp [hx], l⟩
theorem Nic.loose {k w : Nat} {x : D} (h : Nic k w x) : ∀ {y : D}, Loose x y → Nic k w y := by
  induction h with
  | int h => intro y l; cases l.none rfl; exact .int h
  | bl => intro y l; cases l.none rfl; exact .bl
  | non => intro y l; cases l.none rfl; exact .non
  | str h h2 => intro y l; cases l.none rfl; exact .str h h2
  | dct => intro y l; cases l.none rfl; exact .dct
  | mono _ h1 h2 ih => intro y l; exact .mono (ih l) h1 h2
  | @tup k w l xs h1 h2 h3 ih =>
    intro y lo
    have key : ∀ {ys}, LooseL xs ys → ys.length ≤ l ∧ ∀ y ∈ ys, Nic k w y := fun e => by
      obtain ⟨e1, e2⟩ := looseL_mem e
      refine ⟨by omega, fun y hy => ?_⟩
      obtain ⟨x, hx, lx⟩ := e2 y hy
      exact ih x hx lx
    cases lo with
    | tl e => exact .lst (key e).1 h2 (key e).2
    | tt e => exact .tup (key e).1 h2 (key e).2
    | same e => cases e
  | @lst k w l xs h1 h2 h3 ih =>
    intro y lo
    have key : ∀ {ys}, LooseL xs ys → ys.length ≤ l ∧ ∀ y ∈ ys, Nic k w y := fun e => by
      obtain ⟨e1, e2⟩ := looseL_mem e
      refine ⟨by omega, fun y hy => ?_⟩
      obtain ⟨x, hx, lx⟩ := e2 y hy
      exact ih x hx lx
    cases lo with
    | ll e => exact .lst (key e).1 h2 (key e).2
    | lt e => exact .tup (key e).1 h2 (key e).2
    | same e => cases e

section
variable {P : Program} {w : World} {K : PySem.W.Frag} {mg : Str → Option Value} {base : Heap}
theorem gRepr_of {x : D} {k w : Nat} {n : Bool} {v : Option V} {Q : Dv → Prop} (h : Nic k w x) (hk : k ≤ 60) (hw : w ≤ BIG) (hsm : ∃ o, K.lookup sysModules = some o) (q : Q ⟨.str x.pyd.shown, true, none⟩) : gRepr K ⟨x, n, v⟩ Q :=
  ⟨h.all.2.2.1, Nat.le_trans h.all.2.2.2.2.2 hw, Nat.le_trans h.all.2.2.2.2.1 hk, fun _ => hsm, q⟩
theorem gSame {x : D} {ρ : Ro} {XQ : XQT} {n1 n2 : Bool} {v1 v2 : Option V} {Q : Dv → Prop} (h1 : x.good = true) (h2 : x.smp = true) (h3 : x.rnk < 7) (q : Q ⟨.bl true, true, none⟩) : gCall (c__law_same 7) ρ XQ [⟨x, n1, v1⟩, ⟨x, n2, v2⟩] Q := gCall_of fun _ => ⟨x, rfl, h1, h2, h3, q⟩
def PV.re (p : PV) (rs : List Road) : PV := ⟨p.office, rs, p.riders, p.letters⟩
/-- what stands in the slots -/
def Ev (p : PV) (rs : List Road) (z : Str) (m : Int) (y w : D) (ρ : Ro) : Prop := (∃ n v, ρ[0]? = some (.va ⟨.strm, n, v⟩)) ∧ (∃ n v, ρ[1]? = some (.va ⟨p.d, n, v⟩)) ∧ (∃ n v, ρ[2]? = some (.va ⟨(p.re rs).o, n, v⟩)) ∧ (∃ n v, ρ[3]? = some (.va ⟨.str z, n, v⟩)) ∧ (∃ n v, ρ[4]? = some (.va ⟨.int m, n, v⟩)) ∧ (∃ n v, ρ[5]? = some (.va ⟨y, n, v⟩)) ∧ (∃ n v, ρ[8]? = some (.va ⟨.bl (isCut p m z y), n, v⟩)) ∧ (∃ n v, ρ[9]? = some (.va ⟨w, n, v⟩))
structure Cst (p : PV) (rs : List Road) (z : Str) (m : Int) (y w : D) : Prop where
  ok : p.Ok
  ok2 : (p.re rs).Ok
  e : IsEnd p.roads z
  e2 : IsEnd rs z
  m0 : 0 ≤ m
  nz : PyData.strOk z = true
  gy : y.good = true
  gw : w.good = true
  l : Loose y w
theorem Cst.is {p : PV} {rs : List Road} {z : Str} {m : Int} {y w : D} (c : Cst p rs z m y w) {Q : Dv → Prop} (vs : List V) (XQ : XQT) (q : Q ⟨.bl (isCut p m z y), true, none⟩) : c_is_shelf_cut [(p.re rs).o, .int m, .str z, w] vs XQ Q :=
  ⟨p.re rs, m, z, w, rfl, c.ok2, c.m0, c.nz, c.e2.1, behind_end (p := p.re rs) c.e2, c.gw, by rw [show isCut (p.re rs) m z w = isCut p m z w from rfl, cut_loose c.l]; exact q⟩
theorem Cst.fault {p : PV} {rs : List Road} {z : Str} {m : Int} {y w : D} (c : Cst p rs z m y w) {Q : Dv → Prop} {s : Int} (s0 : 0 ≤ s) (vs : List V) (XQ : XQT) (q : ∀ f, Q ⟨faultD p m z s y, f, none⟩) : c_shelf_cut_fault [(p.re rs).o, .int m, .str z, .int s, w] vs XQ Q :=
  ⟨p.re rs, m, z, s, w, rfl, c.ok2, c.m0, s0, c.nz, c.e2.1, behind_end (p := p.re rs) c.e2, c.gw, fun f => by rw [show faultD (p.re rs) m z s w = faultD p m z s w from rfl, fault_loose c.l]; exact q f⟩
theorem same_rep {d : D} {k : Nat} (hk : k = 1 ∨ k = 2) (h1 : d.good = true) (h2 : d.smp = true) (h3 : d.rnk ≤ 4) : (D.lst (List.replicate k d)).good = true ∧ (D.lst (List.replicate k d)).smp = true ∧ (D.lst (List.replicate k d)).rnk < 7 := by
  rcases hk with rfl | rfl
  · refine ⟨by simp [D.good, D.goodL, h1], by simp [D.smp, D.smpL, h2], ?_⟩
    simp [D.rnk, D.rnkL]
    omega
  · refine ⟨by simp [D.good, D.goodL, h1], by simp [D.smp, D.smpL, h2], ?_⟩
    simp [D.rnk, D.rnkL]
    omega
theorem fault_nice {p : PV} {m : Int} {z : Str} {s : Int} {y : D} : (faultD p m z s y).good = true ∧ (faultD p m z s y).smp = true ∧ (faultD p m z s y).rnk ≤ 4 := by
  unfold faultD
  split
  · split
    · split
      · simp [D.good, D.goodL, D.smp, D.smpL, D.rnk, D.rnkL]
        decide +kernel
      · simp [D.good, D.smp, D.rnk]
    · simp [D.good, D.smp, D.rnk]
  · simp [D.good, D.goodL, D.smp, D.smpL, D.rnk, D.rnkL]
    decide +kernel
theorem sc__law_cuts_right : FnScope ["stream", "plan", "made", "post", "many", "thing", "base", "size", "due", "handed", "was", "found", "more", "want"] ["stream", "plan", "made", "post", "many"] (defScope s__law_cuts_right) := ⟨rfl, rfl, rfl, by decide +kernel, rfl, by decide +kernel, by decide +kernel⟩
def c__law_cuts_right : DC := fun ds _ _ Q => ∃ (p : PV) (rs : List Road) (z : Str) (m : Int), ds = [.strm, p.d, (p.re rs).o, .str z, .int m] ∧ PlanOk p ∧ PlanOk (p.re rs) ∧ IsEnd p.roads z ∧ IsEnd rs z ∧ 0 ≤ m ∧ m ≤ 100 ∧ Q ⟨.bl true, true, none⟩
theorem ok__law_cuts_right (T : Txt K mg) (hsm : ∃ o, K.lookup sysModules = some o) : FnG P w K mg base 10 T.f__law_cuts_right.f T.f__law_cuts_right.fd ["stream", "plan", "made", "post", "many"] (BIG ^ 8) c__law_cuts_right := by
  refine fnG_ok T.f__law_cuts_right.ok sc__law_cuts_right fun A outer s H E hr hgd => ⟨_, _, (dss_cons (ds_for [] (passes_of rfl) rfl (di_seq (de_call ((ok__law_mixed T).mono (by decide)) hr (by rfl) T.f__law_mixed.g T.f__law_mixed.ok.kp T.f__law_mixed.b (passE (takes_of rfl rfl rfl rfl)) rfl (da_cons (de_var (pv 0)) (da_cons (de_call ((ok__law_things T).mono (by decide)) hr (by rfl) T.f__law_things.g T.f__law_things.ok.kp T.f__law_things.b (passE (takes_of rfl rfl rfl rfl)) rfl (da_cons (de_var (pv 0)) (da_cons (de_var (pv 1)) (da_cons (de_var (pv 3)) da_nil)))) da_nil)))) (dg_name (pg_name (i := 5) sc__law_cuts_right.nd rfl (Or.inl rfl)))
      (dss_cons (ds_par2 (i := 8) (j := 9) [] (dp_va (de_call ((ok__law_is_shelf_cut T).mono (by decide)) hr (by rfl) T.f__law_is_shelf_cut.g T.f__law_is_shelf_cut.ok.kp T.f__law_is_shelf_cut.b (passE (takes_of rfl rfl rfl rfl)) rfl (da_cons (de_var (pv 1)) (da_cons (de_var (pv 4)) (da_cons (de_var (pv 3)) (da_cons (de_var (pv 5)) da_nil)))))) (dp_va (de_call ((ok__law_loose T 7).mono (by decide)) hr (by rfl) T.f__law_loose.g T.f__law_loose.ok.kp T.f__law_loose.b (passE (takes_of rfl rfl rfl rfl)) rfl (da_cons (de_var (pv 0)) (da_cons (de_var (pv 5)) da_nil)))) rfl sc__law_cuts_right.nd rfl rfl (by decide) (by rfl) (by rfl) (by rfl))
      (dss_cons (ds_par2 (i := 10) (j := 11) [] (dp_va (de_callB (dcl_repr hgd (hr.mono (by decide))) (by rfl) T.n_repr (by decide +kernel) (da_cons (de_var (pv 9)) da_nil))) (dp_ow (dn_lst (da_cons (de_call ((ok_is_shelf_cut T).mono (by decide)) hr (by rfl) T.f_is_shelf_cut.g T.f_is_shelf_cut.ok.kp T.f_is_shelf_cut.b (passE (takes_of rfl rfl rfl rfl)) rfl (da_cons (de_var (pv 2)) (da_cons (de_var (pv 4)) (da_cons (de_var (pv 3)) (da_cons (de_var (pv 9)) da_nil))))) da_nil))) rfl sc__law_cuts_right.nd rfl rfl (by decide) (by rfl) (by rfl) (by rfl))
      (dss_cons (ds_imp (g := fun N ρ XQ => ∃ p rs z m y w, Ev p rs z m y w ρ ∧ Cst p rs z m y w ∧ (∃ n, ρ[11]? = some (.ow (.lst [.bl (isCut p m z y)]) n)) ∧ ∀ ds n, (∃ k : Nat, (k = 1 ∨ k = 2) ∧ ds = List.replicate k (D.bl (isCut p m z y))) → N.nx (ρ.set 11 (.ow (.lst ds) n))) (ds_if [] (dt_cmp (dop_eq hr.units) (de_call ((ok__law_draw T).mono (by decide)) hr (by rfl) T.f__law_draw.g T.f__law_draw.ok.kp T.f__law_draw.b (passE (takes_of rfl rfl rfl rfl)) rfl (da_cons (de_var (pv 0)) (da_cons de_int da_nil))) de_int (nomark _)) (dss_one (ds_append [] (de_callNK (ks := ["thing", "post", "many", "plan"]) (ix := [3, 2, 1, 0]) ((ok_is_shelf_cut T).mono (by decide)) hr (by rfl) T.f_is_shelf_cut.g T.f_is_shelf_cut.ok.kp (kbn_of [3, 2, 1, 0] T.f_is_shelf_cut.ok fun _ _ _ _ _ _ ws hl => match ws, hl with | [_, _, _, _], _ => rfl) (passE (takes_of rfl rfl rfl rfl)) (dk_cons (de_var (pv 9)) (dk_cons (de_var (pv 3)) (dk_cons (de_var (pv 4)) (dk_cons (de_var (pv 2)) dk_nil))))) (fun _ a => ps_expr (pe_bm PySem.F.plainAttrs_list PySem.F.slot_list_append PySem.F.type_list_append mt_append (pv 11) (pa_cons a pa_nil))))) dss_nil) (fun N ρ XQ h => by
    obtain ⟨p, rs, z, m, y, w, ⟨⟨n0, v0, h0⟩, ⟨n1, v1, h1⟩, ⟨n2, v2, h2⟩, ⟨n3, v3, h3⟩, ⟨n4, v4, h4⟩, ⟨n5, v5, h5⟩, ⟨n8, v8, h8⟩, ⟨n9, v9, h9⟩⟩, c, ⟨n11, h11⟩, q⟩ := h
    try simp only [h0, h1, h2, h3, h4, h5, h8, h9, h11, getV_va]
    try simp only [frz, params, setAll, List.zipWith, List.length_cons, List.length_nil, Nat.reduceAdd, Nat.reduceSub, List.replicate, List.append_nil, List.cons_append, List.nil_append, getV_va, Pt.sl, true_and, List.getElem?_cons_zero, List.getElem?_cons_succ, List.set_cons_zero, List.set_cons_succ, ite_self, Bool.false_eq_true, if_false, if_true]
    try simp only [h0, h1, h2, h3, h4, h5, h8, h9, h11, getV_va]
    try simp only [frz, params, setAll, List.zipWith, List.length_cons, List.length_nil, Nat.reduceAdd, Nat.reduceSub, List.replicate, List.append_nil, List.cons_append, List.nil_append, getV_va, Pt.sl, true_and, List.getElem?_cons_zero, List.getElem?_cons_succ, List.set_cons_zero, List.set_cons_succ, ite_self, Bool.false_eq_true, if_false, if_true]
    refine gDraw (by decide) (by decide) fun k k0 k1 => ?_
    rw [gEq_int]
    refine ⟨_, rfl, ?_⟩
    refine iteB ⟨⟨_, _, rfl⟩, rfl, gCall_of fun _ => c.is _ _ ?_⟩ ?_
    · exact ⟨_, _, rfl, (by show 1 < BIG; decide), q _ _ ⟨2, .inr rfl, rfl⟩⟩
    · have := q [_] n11 ⟨1, .inl rfl, rfl⟩
      rw [set_same h11] at this
      exact this))
      (dss_cons (ds_if [11] (DW.dt (dw_or (dt_not (dt_val (de_call ((ok__law_same T 7).mono (by decide)) hr (by rfl) T.f__law_same.g T.f__law_same.ok.kp T.f__law_same.b (passE (takes_of rfl rfl rfl rfl)) rfl (da_cons (de_var (pv 11)) (da_cons (de_op dop_mul (de_lst (da_cons (de_var (pv 8)) da_nil)) (de_callB dcl_len (by rfl) T.n_len (by decide +kernel) (da_cons (de_var (pv 11)) da_nil))) da_nil))))) (dw_or1 (dt_cmp dop_neS (de_callB (dcl_repr hgd (hr.mono (by decide))) (by rfl) T.n_repr (by decide +kernel) (da_cons (de_var (pv 9)) da_nil)) (de_var (pv 10)) (nomark _))))) (dss_one (ds_ret [] de_bl)) dss_nil)
      (dss_cons (ds_asg [] (de_imp (g := fun ρ XQ Q => ∃ p rs z m y w, Ev p rs z m y w ρ ∧ Cst p rs z m y w ∧ ∀ b : Int, ∀ f v, Q ⟨.int b, f, v⟩) (de_if (dt_val (de_var (pv 8))) (de_op dop_sub de_int (de_call ((ok__law_more T).mono (by decide)) hr (by rfl) T.f__law_more.g T.f__law_more.ok.kp T.f__law_more.b (passE (takes_of rfl rfl rfl rfl)) rfl (da_cons (de_var (pv 1)) (da_cons (de_var (pv 4)) (da_cons (de_var (pv 3)) (da_cons de_int (da_cons (de_var (pv 5)) da_nil))))))) de_int) (fun ρ XQ Q h => by
    obtain ⟨p, rs, z, m, y, w, ⟨⟨n0, v0, h0⟩, ⟨n1, v1, h1⟩, ⟨n2, v2, h2⟩, ⟨n3, v3, h3⟩, ⟨n4, v4, h4⟩, ⟨n5, v5, h5⟩, ⟨n8, v8, h8⟩, ⟨n9, v9, h9⟩⟩, c, q⟩ := h
    try simp only [h0, h1, h2, h3, h4, h5, h8, h9, getV_va]
    try simp only [frz, params, setAll, List.zipWith, List.length_cons, List.length_nil, Nat.reduceAdd, Nat.reduceSub, List.replicate, List.append_nil, List.cons_append, List.nil_append, getV_va, Pt.sl, true_and, List.getElem?_cons_zero, List.getElem?_cons_succ, List.set_cons_zero, List.set_cons_succ, ite_self, Bool.false_eq_true, if_false, if_true]
    try simp only [h0, h1, h2, h3, h4, h5, h8, h9, getV_va]
    try simp only [frz, params, setAll, List.zipWith, List.length_cons, List.length_nil, Nat.reduceAdd, Nat.reduceSub, List.replicate, List.append_nil, List.cons_append, List.nil_append, getV_va, Pt.sl, true_and, List.getElem?_cons_zero, List.getElem?_cons_succ, List.set_cons_zero, List.set_cons_succ, ite_self, Bool.false_eq_true, if_false, if_true]
    refine ⟨_, rfl, ?_⟩
    by_cases hb : isCut p m z y = true
    · refine ite_t hb ?_
      obtain ⟨mo, la, ti, e⟩ := isCut_form hb
      refine gCall_of fun _ => ⟨p, m, z, 0, mo, la, ti, y, rfl, e, c.ok, c.nz, ?_⟩
      dsimp only
      rw [gI_of]
      exact ⟨trivial, q _ _ _⟩
    · exact ite_f hb (q _ _ _))) (dg_name (pg_name (i := 6) sc__law_cuts_right.nd rfl (Or.inl rfl))) (fun _ _ a b => ps_asg a b))
      (dss_one (ds_for [] (passes_of rfl) rfl (di_seq (de_slice (de_lst (da_cons (de_callB (dcl_max2 rfl) (by rfl) T.n_max (by decide +kernel) (da_cons de_int (da_cons (de_var (pv 6)) da_nil))) (da_cons (de_callB (dcl_max2 rfl) (by rfl) T.n_max (by decide +kernel) (da_cons de_int (da_cons (de_op dop_sub (de_var (pv 6)) de_int) da_nil))) (da_cons (de_callB (dcl_max2 rfl) (by rfl) T.n_max (by decide +kernel) (da_cons de_int (da_cons (de_op dop_add (de_var (pv 6)) de_int) da_nil))) (da_cons (de_op dop_mul de_int (de_call ((ok__law_draw T).mono (by decide)) hr (by rfl) T.f__law_draw.g T.f__law_draw.ok.kp T.f__law_draw.b (passE (takes_of rfl rfl rfl rfl)) rfl (da_cons (de_var (pv 0)) (da_cons de_int da_nil)))) da_nil))))) do_none (do_some (de_imp (g := fun ρ XQ Q => ∃ p rs z m y w, Ev p rs z m y w ρ ∧ Cst p rs z m y w ∧ ∀ b : Int, ∀ f v, Q ⟨.int b, f, v⟩) (de_if (dt_val (de_var (pv 8))) de_int de_int) (fun ρ XQ Q h => by
    obtain ⟨p, rs, z, m, y, w, ⟨⟨n0, v0, h0⟩, ⟨n1, v1, h1⟩, ⟨n2, v2, h2⟩, ⟨n3, v3, h3⟩, ⟨n4, v4, h4⟩, ⟨n5, v5, h5⟩, ⟨n8, v8, h8⟩, ⟨n9, v9, h9⟩⟩, c, q⟩ := h
    try simp only [h0, h1, h2, h3, h4, h5, h8, h9, getV_va]
    try simp only [frz, params, setAll, List.zipWith, List.length_cons, List.length_nil, Nat.reduceAdd, Nat.reduceSub, List.replicate, List.append_nil, List.cons_append, List.nil_append, getV_va, Pt.sl, true_and, List.getElem?_cons_zero, List.getElem?_cons_succ, List.set_cons_zero, List.set_cons_succ, ite_self, Bool.false_eq_true, if_false, if_true]
    try simp only [h0, h1, h2, h3, h4, h5, h8, h9, getV_va]
    try simp only [frz, params, setAll, List.zipWith, List.length_cons, List.length_nil, Nat.reduceAdd, Nat.reduceSub, List.replicate, List.append_nil, List.cons_append, List.nil_append, getV_va, Pt.sl, true_and, List.getElem?_cons_zero, List.getElem?_cons_succ, List.set_cons_zero, List.set_cons_succ, ite_self, Bool.false_eq_true, if_false, if_true]
    exact ⟨_, rfl, iteB (q _ _ _) (q _ _ _)⟩))))) (dg_name (pg_name (i := 7) sc__law_cuts_right.nd rfl (Or.inl rfl)))
      (dss_cons (ds_asg [] (de_imp (g := fun ρ XQ Q => ∃ p rs z m y w, Ev p rs z m y w ρ ∧ Cst p rs z m y w ∧ ∃ s : Int, (∃ n v, ρ[7]? = some (.va ⟨.int s, n, v⟩)) ∧ ∀ b : Int, (isCut p m z y = true → ∀ mo la ti, y.seq = some [.int mo, lastD la, .int ti] → b = moreN p m z s mo la ti) → ∀ f v, Q ⟨.int b, f, v⟩) (de_if (dt_val (de_var (pv 8))) (de_call ((ok__law_more T).mono (by decide)) hr (by rfl) T.f__law_more.g T.f__law_more.ok.kp T.f__law_more.b (passE (takes_of rfl rfl rfl rfl)) rfl (da_cons (de_var (pv 1)) (da_cons (de_var (pv 4)) (da_cons (de_var (pv 3)) (da_cons (de_var (pv 7)) (da_cons (de_var (pv 5)) da_nil)))))) de_int) (fun ρ XQ Q h => by
    obtain ⟨p, rs, z, m, y, w, ⟨⟨n0, v0, h0⟩, ⟨n1, v1, h1⟩, ⟨n2, v2, h2⟩, ⟨n3, v3, h3⟩, ⟨n4, v4, h4⟩, ⟨n5, v5, h5⟩, ⟨n8, v8, h8⟩, ⟨n9, v9, h9⟩⟩, c, s, ⟨n7, v7, h7⟩, q⟩ := h
    try simp only [h0, h1, h2, h3, h4, h5, h7, h8, h9, getV_va]
    try simp only [frz, params, setAll, List.zipWith, List.length_cons, List.length_nil, Nat.reduceAdd, Nat.reduceSub, List.replicate, List.append_nil, List.cons_append, List.nil_append, getV_va, Pt.sl, true_and, List.getElem?_cons_zero, List.getElem?_cons_succ, List.set_cons_zero, List.set_cons_succ, ite_self, Bool.false_eq_true, if_false, if_true]
    try simp only [h0, h1, h2, h3, h4, h5, h7, h8, h9, getV_va]
    try simp only [frz, params, setAll, List.zipWith, List.length_cons, List.length_nil, Nat.reduceAdd, Nat.reduceSub, List.replicate, List.append_nil, List.cons_append, List.nil_append, getV_va, Pt.sl, true_and, List.getElem?_cons_zero, List.getElem?_cons_succ, List.set_cons_zero, List.set_cons_succ, ite_self, Bool.false_eq_true, if_false, if_true]
    refine ⟨_, rfl, ?_⟩
    by_cases hb : isCut p m z y = true
    · refine ite_t hb ?_
      obtain ⟨mo, la, ti, e⟩ := isCut_form hb
      refine gCall_of fun _ => ⟨p, m, z, s, mo, la, ti, y, rfl, e, c.ok, c.nz, q _ (fun _ mo' la' ti' e' => ?_) _ _⟩
      rw [e] at e'
      simp only [Option.some.injEq, List.cons.injEq, D.int.injEq, and_true] at e'
      obtain ⟨rfl, e2, rfl⟩ := e'
      have : la = la' := by cases la <;> cases la' <;> simp_all [lastD]
      rw [this]
    · exact ite_f hb (q _ (fun z => absurd z hb) _ _))) (dg_name (pg_name (i := 12) sc__law_cuts_right.nd rfl (Or.inl rfl))) (fun _ _ a b => ps_asg a b))
      (dss_cons (ds_asg [] (de_imp (g := fun ρ XQ Q => ∃ p rs z m y w, Ev p rs z m y w ρ ∧ Cst p rs z m y w ∧ ∃ s b : Int, (∃ n v, ρ[12]? = some (.va ⟨.int b, n, v⟩)) ∧ (isCut p m z y = true → ∀ mo la ti, y.seq = some [.int mo, lastD la, .int ti] → b = moreN p m z s mo la ti) ∧ ∀ f v, Q ⟨faultD p m z s y, f, v⟩) (de_if (dt_not (dt_val (de_var (pv 8)))) (de_tup (da_cons de_str da_nil)) (de_if (dt_cmp dop_ge (de_var (pv 12)) de_int (nomark _)) (de_tup (da_cons de_str (da_cons (de_var (pv 12)) da_nil))) de_non)) (fun ρ XQ Q h => by
    obtain ⟨p, rs, z, m, y, w, ⟨⟨n0, v0, h0⟩, ⟨n1, v1, h1⟩, ⟨n2, v2, h2⟩, ⟨n3, v3, h3⟩, ⟨n4, v4, h4⟩, ⟨n5, v5, h5⟩, ⟨n8, v8, h8⟩, ⟨n9, v9, h9⟩⟩, c, s, b, ⟨n12, v12, h12⟩, hm, q⟩ := h
    try simp only [h0, h1, h2, h3, h4, h5, h8, h9, h12, getV_va]
    try simp only [frz, params, setAll, List.zipWith, List.length_cons, List.length_nil, Nat.reduceAdd, Nat.reduceSub, List.replicate, List.append_nil, List.cons_append, List.nil_append, getV_va, Pt.sl, true_and, List.getElem?_cons_zero, List.getElem?_cons_succ, List.set_cons_zero, List.set_cons_succ, ite_self, Bool.false_eq_true, if_false, if_true]
    try simp only [h0, h1, h2, h3, h4, h5, h8, h9, h12, getV_va]
    try simp only [frz, params, setAll, List.zipWith, List.length_cons, List.length_nil, Nat.reduceAdd, Nat.reduceSub, List.replicate, List.append_nil, List.cons_append, List.nil_append, getV_va, Pt.sl, true_and, List.getElem?_cons_zero, List.getElem?_cons_succ, List.set_cons_zero, List.set_cons_succ, ite_self, Bool.false_eq_true, if_false, if_true]
    refine ⟨_, rfl, ?_⟩
    by_cases hb : isCut p m z y = true
    · refine ite_f (by simp [hb]) ?_
      obtain ⟨mo, la, ti, e⟩ := isCut_form hb
      have hm := hm hb mo la ti e
      subst hm
      have ef : faultD p m z s y = if 0 ≤ moreN p m z s mo la ti then .tup [.str "room", .int (moreN p m z s mo la ti)] else .non := by
        unfold faultD
        rw [if_pos hb, e]
        simp only [lastO_D]
      rw [gI_of]
      refine ⟨trivial, _, rfl, ?_⟩
      by_cases h0 : 0 ≤ moreN p m z s mo la ti
      · refine ite_t (by simpa using h0) ⟨by decide, ?_⟩
        rw [ef, if_pos h0] at q
        exact q _ _
      · refine ite_f (by simpa using h0) ?_
        rw [ef, if_neg h0] at q
        exact q _ _
    · refine ite_t (by simp [hb]) ⟨by decide, ?_⟩
      unfold faultD at q
      rw [if_neg hb] at q
      exact q _ _)) (dg_name (pg_name (i := 13) sc__law_cuts_right.nd rfl (Or.inl rfl))) (fun _ _ a b => ps_asg a b))
      (dss_cons (ds_own [] (dn_lst (da_cons (de_call ((ok_shelf_cut_fault T).mono (by decide)) hr (by rfl) T.f_shelf_cut_fault.g T.f_shelf_cut_fault.ok.kp T.f_shelf_cut_fault.b (passE (takes_of rfl rfl rfl rfl)) rfl (da_cons (de_var (pv 2)) (da_cons (de_var (pv 4)) (da_cons (de_var (pv 3)) (da_cons (de_var (pv 7)) (da_cons (de_var (pv 9)) da_nil)))))) da_nil)) (pg_name (i := 11) sc__law_cuts_right.nd rfl (Or.inl rfl)) (fun _ _ a b => ps_asg a b))
      (dss_cons (ds_imp (g := fun N ρ XQ => ∃ p rs z m y w, Ev p rs z m y w ρ ∧ Cst p rs z m y w ∧ ∃ s : Int, 0 ≤ s ∧ (∃ n v, ρ[7]? = some (.va ⟨.int s, n, v⟩)) ∧ (∃ n, ρ[11]? = some (.ow (.lst [faultD p m z s y]) n)) ∧ ∀ ds n, (∃ k : Nat, (k = 1 ∨ k = 2) ∧ ds = List.replicate k (faultD p m z s y)) → N.nx (ρ.set 11 (.ow (.lst ds) n))) (ds_if [] (dt_cmp (dop_eq hr.units) (de_call ((ok__law_draw T).mono (by decide)) hr (by rfl) T.f__law_draw.g T.f__law_draw.ok.kp T.f__law_draw.b (passE (takes_of rfl rfl rfl rfl)) rfl (da_cons (de_var (pv 0)) (da_cons de_int da_nil))) de_int (nomark _)) (dss_one (ds_append [] (de_callNK (ks := ["thing", "size", "post", "many", "plan"]) (ix := [4, 3, 2, 1, 0]) ((ok_shelf_cut_fault T).mono (by decide)) hr (by rfl) T.f_shelf_cut_fault.g T.f_shelf_cut_fault.ok.kp (kbn_of [4, 3, 2, 1, 0] T.f_shelf_cut_fault.ok fun _ _ _ _ _ _ ws hl => match ws, hl with | [_, _, _, _, _], _ => rfl) (passE (takes_of rfl rfl rfl rfl)) (dk_cons (de_var (pv 9)) (dk_cons (de_var (pv 7)) (dk_cons (de_var (pv 3)) (dk_cons (de_var (pv 4)) (dk_cons (de_var (pv 2)) dk_nil)))))) (fun _ a => ps_expr (pe_bm PySem.F.plainAttrs_list PySem.F.slot_list_append PySem.F.type_list_append mt_append (pv 11) (pa_cons a pa_nil))))) dss_nil) (fun N ρ XQ h => by
    obtain ⟨p, rs, z, m, y, w, ⟨⟨n0, v0, h0⟩, ⟨n1, v1, h1⟩, ⟨n2, v2, h2⟩, ⟨n3, v3, h3⟩, ⟨n4, v4, h4⟩, ⟨n5, v5, h5⟩, ⟨n8, v8, h8⟩, ⟨n9, v9, h9⟩⟩, c, s, s0, ⟨n7, v7, h7⟩, ⟨n11, h11⟩, q⟩ := h
    try simp only [h0, h1, h2, h3, h4, h5, h8, h9, h11, h7, getV_va]
    try simp only [frz, params, setAll, List.zipWith, List.length_cons, List.length_nil, Nat.reduceAdd, Nat.reduceSub, List.replicate, List.append_nil, List.cons_append, List.nil_append, getV_va, Pt.sl, true_and, List.getElem?_cons_zero, List.getElem?_cons_succ, List.set_cons_zero, List.set_cons_succ, ite_self, Bool.false_eq_true, if_false, if_true]
    try simp only [h0, h1, h2, h3, h4, h5, h8, h9, h11, h7, getV_va]
    try simp only [frz, params, setAll, List.zipWith, List.length_cons, List.length_nil, Nat.reduceAdd, Nat.reduceSub, List.replicate, List.append_nil, List.cons_append, List.nil_append, getV_va, Pt.sl, true_and, List.getElem?_cons_zero, List.getElem?_cons_succ, List.set_cons_zero, List.set_cons_succ, ite_self, Bool.false_eq_true, if_false, if_true]
    refine gDraw (by decide) (by decide) fun k k0 k1 => ?_
    rw [gEq_int]
    refine ⟨_, rfl, ?_⟩
    refine iteB ⟨⟨_, _, rfl⟩, rfl, gCall_of fun _ => c.fault s0 _ _ fun f => ?_⟩ ?_
    · exact ⟨_, _, rfl, (by show 1 < BIG; decide), q _ _ ⟨2, .inr rfl, rfl⟩⟩
    · have := q [_] n11 ⟨1, .inl rfl, rfl⟩
      rw [set_same h11] at this
      exact this))
      (dss_one (ds_if [11] (DW.dt (dw_or (dt_not (dt_val (de_call ((ok__law_same T 7).mono (by decide)) hr (by rfl) T.f__law_same.g T.f__law_same.ok.kp T.f__law_same.b (passE (takes_of rfl rfl rfl rfl)) rfl (da_cons (de_var (pv 11)) (da_cons (de_op dop_mul (de_lst (da_cons (de_var (pv 13)) da_nil)) (de_callB dcl_len (by rfl) T.n_len (by decide +kernel) (da_cons (de_var (pv 11)) da_nil))) da_nil))))) (dw_or1 (dt_cmp dop_neS (de_callB (dcl_repr hgd (hr.mono (by decide))) (by rfl) T.n_repr (by decide +kernel) (da_cons (de_var (pv 9)) da_nil)) (de_var (pv 10)) (nomark _))))) (dss_one (ds_ret [] de_bl)) dss_nil))))))))))))))
      (dss_one (ds_ret [] de_bl))), by decide +kernel, fun ds vs XQ Q hd hv h => ?_⟩
  obtain ⟨p, rs, z, m, rfl, hp, hp2, hz, hz2, m0, m1, q⟩ := h
  match vs, hv with
  | [v, v2, v3, v4, v5], _ =>
  try simp only [frz, params, setAll, List.zipWith, List.length_cons, List.length_nil, Nat.reduceAdd, Nat.reduceSub, List.replicate, List.append_nil, List.cons_append, List.nil_append, getV_va, Pt.sl, true_and, List.getElem?_cons_zero, List.getElem?_cons_succ, List.set_cons_zero, List.set_cons_succ, ite_self, Bool.false_eq_true, if_false, if_true]
  have hok := hp.ok
  obtain ⟨t1, t2⟩ := hp.t.facts
  obtain ⟨zr, hzr, ezr⟩ := hz.1
  have nz : PyData.strOk z = true := ezr ▸ nm_ok (t1 zr hzr).1
  have hbe := behind_end (p := p) hz
  refine gCall_of fun _ => ⟨p, z, rfl, hp, nz, fun xs hxl hxs f => ?_⟩
  dsimp only
  refine gCall_of fun _ => ⟨_, xs, rfl, rfl, by omega, fun ys f2 hyp => ?_⟩
  have hyl := hyp.length_eq
  have hym : ∀ y ∈ ys, y ∈ xs := fun y hy => hyp.mem_iff.mp hy
  dsimp only
  rw [items_seq (by rfl)]
  refine ⟨.inr (by rw [List.length_map, hyl]; show _ ≤ 16777216; omega), ?_⟩
  refine for_idx (fun i ρ => ∃ s5 s6 s7 s8 s9 s10 s11 s12 s13, ρ = [Sl.va ⟨.strm, D.strm.imm, some v⟩, .va ⟨p.d, p.d.imm, some v2⟩, .va ⟨(p.re rs).o, (p.re rs).o.imm, some v3⟩, .va ⟨.str z, (D.str z).imm, some v4⟩, .va ⟨.int m, (D.int m).imm, some v5⟩, s5, s6, s7, s8, s9, s10, s11, s12, s13]) _ 0 _ ⟨_, _, _, _, _, _, _, _, _, rfl⟩ (fun i x hx ρ hI K2 kk => ?_) fun ρ hI => ?_
  · obtain ⟨s5, s6, s7, s8, s9, s10, s11, s12, s13, rfl⟩ := hI
    obtain ⟨y, hy, rfl⟩ := List.mem_map.mp (List.mem_of_getElem? hx)
    have hyn := hxs y (hym y hy)
    obtain ⟨g1, g2, g3, g4, g5, g6⟩ := hyn.all
    try simp only [frz, params, setAll, List.zipWith, List.length_cons, List.length_nil, Nat.reduceAdd, Nat.reduceSub, List.replicate, List.append_nil, List.cons_append, List.nil_append, getV_va, Pt.sl, true_and, List.getElem?_cons_zero, List.getElem?_cons_succ, List.set_cons_zero, List.set_cons_succ, ite_self, Bool.false_eq_true, if_false, if_true]
    refine gCall_of fun _ => ⟨p, m, z, y, rfl, hok, nz, g1, ?_⟩
    dsimp only
    refine gCall_of fun _ => ⟨y, rfl, g1, by omega, fun w fw lw => ?_⟩
    dsimp only
    have hwn := Nic.loose hyn lw
    obtain ⟨k1, k2, k3, k4, k5, k6⟩ := hwn.all
    have cst : Cst p rs z m y w := ⟨hok, hp2.ok, hz, hz2, m0, nz, g1, k1, lw⟩
    rw [g1_of]
    refine gRepr_of hwn (by decide) (by decide) hsm ?_
    dsimp only
    refine gCall_of fun _ => cst.is _ _ ?_
    dsimp only
    refine ⟨by decide, ?_⟩
    refine ⟨p, rs, z, m, y, w, ⟨⟨_, _, rfl⟩, ⟨_, _, rfl⟩, ⟨_, _, rfl⟩, ⟨_, _, rfl⟩, ⟨_, _, rfl⟩, ⟨_, _, rfl⟩, ⟨_, _, rfl⟩, ⟨_, _, rfl⟩⟩, cst, ⟨_, rfl⟩, fun ds nf ⟨k, hk, eds⟩ => ?_⟩
    subst eds
    obtain ⟨u1, u2, u3⟩ := same_rep (d := .bl (isCut p m z y)) hk rfl rfl (by simp [D.rnk])
    refine ⟨by decide, ?_⟩
    rw [g1_of, gLen_of (by rfl), List.length_replicate]
    refine ⟨by omega, by omega, by show 1 * ((k : Nat) : Int).toNat ≤ BIG; unfold BIG; omega, ?_⟩
    rw [Int.toNat_natCast]
    simp only [List.map_cons, List.map_nil, List.flatten_replicate_singleton]
    refine gSame u1 u2 u3 ⟨true, rfl, ?_⟩
    rw [if_neg (by decide), g1_of]
    refine gRepr_of hwn (by decide) (by decide) hsm ⟨_, _, rfl, rfl, _, rfl, ?_⟩
    rw [if_neg (by simp)]
    refine ⟨p, rs, z, m, y, w, ⟨⟨_, _, rfl⟩, ⟨_, _, rfl⟩, ⟨_, _, rfl⟩, ⟨_, _, rfl⟩, ⟨_, _, rfl⟩, ⟨_, _, rfl⟩, ⟨_, _, rfl⟩, ⟨_, _, rfl⟩⟩, cst, fun base fb vb => ?_⟩
    try simp only [frz, params, setAll, List.zipWith, List.length_cons, List.length_nil, Nat.reduceAdd, Nat.reduceSub, List.replicate, List.append_nil, List.cons_append, List.nil_append, getV_va, Pt.sl, true_and, List.getElem?_cons_zero, List.getElem?_cons_succ, List.set_cons_zero, List.set_cons_succ, ite_self, Bool.false_eq_true, if_false, if_true]
    rw [g2I_int, gI_of]
    refine ⟨trivial, ?_⟩
    rw [g2I_int, gAdd_int, g2I_int]
    refine gDraw (by decide) (by decide) fun dd d0 d1 => ?_
    rw [gMul_int]
    refine ⟨.inl (by decide), by decide, p, rs, z, m, y, w, ⟨⟨_, _, rfl⟩, ⟨_, _, rfl⟩, ⟨_, _, rfl⟩, ⟨_, _, rfl⟩, ⟨_, _, rfl⟩, ⟨_, _, rfl⟩, ⟨_, _, rfl⟩, ⟨_, _, rfl⟩⟩, cst, fun nn fn vn => ⟨_, rfl, ?_⟩⟩
    dsimp only
    have hsz : ∀ d ∈ [D.int (if base > 0 then base else 0), .int (if base - 1 > 0 then base - 1 else 0), .int (if base + 2 > 0 then base + 2 else 0), .int (1000 * dd)], ∃ s : Int, d = .int s ∧ 0 ≤ s := fun d hd => by
      simp only [List.mem_cons, List.not_mem_nil, or_false] at hd
      rcases hd with rfl | rfl | rfl | rfl
      · exact ⟨_, rfl, by split <;> omega⟩
      · exact ⟨_, rfl, by split <;> omega⟩
      · exact ⟨_, rfl, by split <;> omega⟩
      · exact ⟨_, rfl, by omega⟩
    rw [gSl_seq (by rfl), items_seq (by rfl)]
    have hcl := cutL_len [D.int (if base > 0 then base else 0), .int (if base - 1 > 0 then base - 1 else 0), .int (if base + 2 > 0 then base + 2 else 0), .int (1000 * dd)] none (some nn)
    have hsm2 : ∀ d ∈ cutL [D.int (if base > 0 then base else 0), .int (if base - 1 > 0 then base - 1 else 0), .int (if base + 2 > 0 then base + 2 else 0), .int (1000 * dd)] none (some nn), ∃ s : Int, d = .int s ∧ 0 ≤ s := fun d hd => hsz d (cut_mem hd)
    generalize cutL [D.int (if base > 0 then base else 0), .int (if base - 1 > 0 then base - 1 else 0), .int (if base + 2 > 0 then base + 2 else 0), .int (1000 * dd)] none (some nn) = sz at hcl hsm2
    have hcl : sz.length ≤ 4 := hcl
    refine ⟨.inr (by rw [List.length_map]; unfold BIG; omega), ?_⟩
    refine for_idx (fun i ρ => ∃ f5 fb vb s7 s11 s12 s13, ρ = [Sl.va ⟨.strm, D.strm.imm, some v⟩, .va ⟨p.d, p.d.imm, some v2⟩, .va ⟨(p.re rs).o, (p.re rs).o.imm, some v3⟩, .va ⟨.str z, (D.str z).imm, some v4⟩, .va ⟨.int m, (D.int m).imm, some v5⟩, .va ⟨y, f5, none⟩, .va ⟨.int base, fb, vb⟩, s7, .va ⟨.bl (isCut p m z y), true, none⟩, .va ⟨w, fw, none⟩, .va ⟨.str w.pyd.shown, true, none⟩, s11, s12, s13]) _ 0 _ ⟨_, _, _, _, _, _, _, rfl⟩ (fun j x hx2 ρ hI K3 kk3 => ?_) fun ρ hI => ?_
    · obtain ⟨f5, fb, vb, s7, s11, s12, s13, rfl⟩ := hI
      obtain ⟨d, hd2, rfl⟩ := List.mem_map.mp (List.mem_of_getElem? hx2)
      obtain ⟨s, rfl, s0⟩ := hsm2 d hd2
      try simp only [frz, params, setAll, List.zipWith, List.length_cons, List.length_nil, Nat.reduceAdd, Nat.reduceSub, List.replicate, List.append_nil, List.cons_append, List.nil_append, getV_va, Pt.sl, true_and, List.getElem?_cons_zero, List.getElem?_cons_succ, List.set_cons_zero, List.set_cons_succ, ite_self, Bool.false_eq_true, if_false, if_true]
      refine ⟨p, rs, z, m, y, w, ⟨⟨_, _, rfl⟩, ⟨_, _, rfl⟩, ⟨_, _, rfl⟩, ⟨_, _, rfl⟩, ⟨_, _, rfl⟩, ⟨_, _, rfl⟩, ⟨_, _, rfl⟩, ⟨_, _, rfl⟩⟩, cst, s, ⟨_, _, rfl⟩, fun b hb f6 v6 => ?_⟩
      try simp only [frz, params, setAll, List.zipWith, List.length_cons, List.length_nil, Nat.reduceAdd, Nat.reduceSub, List.replicate, List.append_nil, List.cons_append, List.nil_append, getV_va, Pt.sl, true_and, List.getElem?_cons_zero, List.getElem?_cons_succ, List.set_cons_zero, List.set_cons_succ, ite_self, Bool.false_eq_true, if_false, if_true]
      refine ⟨p, rs, z, m, y, w, ⟨⟨_, _, rfl⟩, ⟨_, _, rfl⟩, ⟨_, _, rfl⟩, ⟨_, _, rfl⟩, ⟨_, _, rfl⟩, ⟨_, _, rfl⟩, ⟨_, _, rfl⟩, ⟨_, _, rfl⟩⟩, cst, s, b, ⟨_, _, rfl⟩, hb, fun f7 v7 => ?_⟩
      try simp only [frz, params, setAll, List.zipWith, List.length_cons, List.length_nil, Nat.reduceAdd, Nat.reduceSub, List.replicate, List.append_nil, List.cons_append, List.nil_append, getV_va, Pt.sl, true_and, List.getElem?_cons_zero, List.getElem?_cons_succ, List.set_cons_zero, List.set_cons_succ, ite_self, Bool.false_eq_true, if_false, if_true]
      refine gCall_of fun _ => cst.fault s0 _ _ fun f8 => ?_
      dsimp only
      refine ⟨by decide, p, rs, z, m, y, w, ⟨⟨_, _, rfl⟩, ⟨_, _, rfl⟩, ⟨_, _, rfl⟩, ⟨_, _, rfl⟩, ⟨_, _, rfl⟩, ⟨_, _, rfl⟩, ⟨_, _, rfl⟩, ⟨_, _, rfl⟩⟩, cst, s, s0, ⟨_, _, rfl⟩, ⟨_, rfl⟩, fun ds nf ⟨k, hk, eds⟩ => ?_⟩
      subst eds
      obtain ⟨q1, q2, q3⟩ := fault_nice (p := p) (m := m) (z := z) (s := s) (y := y)
      obtain ⟨u1, u2, u3⟩ := same_rep (d := faultD p m z s y) hk q1 q2 q3
      try simp only [frz, params, setAll, List.zipWith, List.length_cons, List.length_nil, Nat.reduceAdd, Nat.reduceSub, List.replicate, List.append_nil, List.cons_append, List.nil_append, getV_va, Pt.sl, true_and, List.getElem?_cons_zero, List.getElem?_cons_succ, List.set_cons_zero, List.set_cons_succ, ite_self, Bool.false_eq_true, if_false, if_true]
      refine ⟨by decide, ?_⟩
      rw [g1_of, gLen_of (by rfl), List.length_replicate]
      refine ⟨by omega, by omega, by show 1 * ((k : Nat) : Int).toNat ≤ BIG; unfold BIG; omega, ?_⟩
      rw [Int.toNat_natCast]
      simp only [List.map_cons, List.map_nil, List.flatten_replicate_singleton]
      refine gSame u1 u2 u3 ⟨true, rfl, ?_⟩
      rw [if_neg (by decide), g1_of]
      refine gRepr_of hwn (by decide) (by decide) hsm ⟨_, _, rfl, rfl, _, rfl, ?_⟩
      rw [if_neg (by simp)]
      exact kk3 _ ⟨_, _, _, _, _, _, _, rfl⟩
    · obtain ⟨f5, fb, vb, s7, s11, s12, s13, rfl⟩ := hI
      exact kk _ ⟨_, _, _, _, _, _, _, _, _, rfl⟩
  · obtain ⟨s5, s6, s7, s8, s9, s10, s11, s12, s13, rfl⟩ := hI
    try simp only [frz, params, setAll, List.zipWith, List.length_cons, List.length_nil, Nat.reduceAdd, Nat.reduceSub, List.replicate, List.append_nil, List.cons_append, List.nil_append, getV_va, Pt.sl, true_and, List.getElem?_cons_zero, List.getElem?_cons_succ, List.set_cons_zero, List.set_cons_succ, ite_self, Bool.false_eq_true, if_false, if_true]
    exact q

end
end My

set_option Elab.async false
set_option linter.all false
set_option maxRecDepth 100000
set_option maxHeartbeats 4000000
set_option pp.maxSteps 6000
namespace My
open PySem PySem.Spec PyProof.Rows L2 DL
set_option pp.maxSteps 2500
/-- rows in any form -/
def rowL (r : Row) : List D := [.str r.1, .int r.2.1, .int r.2.2]
def roadL (r : Road) : List D := [.str r.1, .str r.2.1, .int r.2.2]
def Forms {α : Type} (f : α → List D) (l : List α) (d : D) : Prop := d.good = true ∧ ∃ ys, d.seq = some ys ∧ Paired (fun a y => y.seq = some (f a) ∧ y.good = true) l ys
theorem forms_of {α : Type} {f : α → List D} {h : α → D} {l : List α} {d : D} (lo : Loose (.lst (l.map h)) d) (gd : d.good = true) (e : ∀ a, (h a).seq = some (f a)) (fl : ∀ a, ∀ x ∈ f a, x.seq = none) : Forms f l d := by
  obtain ⟨ys, ey, ll⟩ := lo.seq rfl
  refine ⟨gd, ys, ey, ?_⟩
  obtain ⟨gy, hlen⟩ := good_seq gd ey
  clear ey lo hlen
  induction l generalizing ys with
  | nil => cases ll; exact .nil
  | cons a l ih =>
    cases ll with
    | cons l1 l2 =>
      obtain ⟨zs, ez, lz⟩ := l1.seq (e a)
      rw [looseL_flat lz (fl a)] at ez
      exact .cons ⟨ez, gy _ (by simp)⟩ (ih _ l2 fun x hx => gy x (by simp [hx]))
theorem abc_mem {c : Nat} (h : 97 ≤ c) (h2 : c < 123) : c ∈ ("abcdefghijklmnopqrstuvwxyz" : Str).cps.toList := by
  have : ("abcdefghijklmnopqrstuvwxyz" : Str).cps.toList[c - 97]? = some (97 + (c - 97)) := abc_at (c - 97) (by omega)
  rw [show 97 + (c - 97) = c by omega] at this
  exact List.mem_of_getElem? this
theorem rowL_flat (r : Row) : ∀ x ∈ rowL r, x.seq = none := by simp [rowL, D.seq]
theorem roadL_flat (r : Road) : ∀ x ∈ roadL r, x.seq = none := by simp [roadL, D.seq]
theorem gHas_strK {neg : Bool} {x : Str} {n n2 : Bool} {v v2 : Option V} {kd : List (Str × D)} {b : Bool} {Q : Dv → Prop} (h : (kd.any fun p => decide (p.1 = x)) = b) (q : Q ⟨.bl (if neg = true then !b else b), true, none⟩) : gHas neg ⟨.str x, n, v⟩ ⟨strK kd, n2, v2⟩ Q := by
  refine ⟨_, .inr x, rfl, strK_plain kd, rfl, ?_⟩
  rw [getK_map (fun p : Str × D => p.1)]
  rw [any_find] at h
  have e : ((kd.find? fun a => decide (a.1 = x)).map fun p : Str × D => p.2).isSome = (kd.find? fun a => decide (a.1 = x)).isSome := Option.isSome_map ..
  rw [e, h]
  exact q
theorem putD_strK {kd : List (Str × D)} {x : Str} {d : D} (h : (kd.any fun p => decide (p.1 = x)) = false) : D.dct (putD (kd.map fun p => ((.str p.1 : D), p.2)) (.inr x) d) = strK (kd ++ [(x, d)]) := by
  unfold putD
  have e : ((kd.map fun p => ((.str p.1 : D), p.2)).any fun p => isKey p.1 (.inr x)) = false := by
    rw [List.any_map]
    exact h
  rw [e, if_neg (by decide)]
  unfold strK
  rw [List.map_append]
  rfl
theorem RoadsOk.at : ∀ {rs : List Road} {known : List Str} {j : Nat} {r : Road}, RoadsOk known rs → rs[j]? = some r → (r.2.1 ∈ known ∨ ∃ s ∈ rs.take j, s.1 = r.2.1) ∧ r.1 ∉ known ∧ ∀ s ∈ rs.take j, s.1 ≠ r.1
  | [], _, _, _, _, h => by simp at h
  | a :: rs, known, 0, r, ⟨h1, h2, h3, _⟩, h => by
    simp at h
    subst h
    exact ⟨.inl h3, h2, fun s hs => by simp at hs⟩
  | a :: rs, known, j + 1, r, ⟨h1, h2, h3, h4, h5, h6⟩, h => by
    obtain ⟨g1, g2, g3⟩ := h6.at (j := j) (by simpa using h)
    refine ⟨?_, fun z => g2 (List.mem_append_left _ z), fun s hs => ?_⟩
    · rcases g1 with g1 | ⟨s, hs, e⟩
      · rcases List.mem_append.mp g1 with g1 | g1
        · exact .inl g1
        · rw [List.mem_singleton] at g1
          exact .inr ⟨a, by simp, g1.symm⟩
      · exact .inr ⟨s, by simp [hs], e⟩
    · rw [List.take_succ_cons] at hs
      rcases List.mem_cons.mp hs with rfl | hs
      · exact fun z => g2 (List.mem_append_right _ (by rw [z]; simp))
      · exact g3 s hs
theorem known_any {l : List Road} {x : Str} : ((l.map fun r => (r.1, D.bl true)).any fun p => decide (p.1 = x)) = l.any fun r => decide (r.1 = x) := by
  rw [List.any_map]
  rfl
theorem paired_get {α β : Type} {P : α → β → Prop} : ∀ {xs : List α} {ys : List β}, Paired P xs ys → ∀ {i : Nat} {y : β}, ys[i]? = some y → ∃ x, xs[i]? = some x ∧ P x y
  | _, _, .nil, _, _, h => by simp at h
  | _, _, .cons a t, 0, _, h => by simp at h; subst h; exact ⟨_, rfl, a⟩
  | _, _, .cons a t, i + 1, _, h => by
    obtain ⟨x, h1, h2⟩ := paired_get t (i := i) (by simpa using h)
    exact ⟨x, by simpa using h1, h2⟩

section
variable {P : Program} {w : World} {K : PySem.W.Frag} {mg : Str → Option Value} {base : Heap}
theorem sc_is_name : FnScope ["thing", "sign"] ["thing"] (defScope s_is_name) := ⟨rfl, rfl, rfl, by decide +kernel, rfl, by decide +kernel, by decide +kernel⟩
def c_is_name : DC := fun ds _ _ Q => ∃ x : Str, ds = [.str x] ∧ NmOk x ∧ Q ⟨.bl true, true, none⟩
theorem ok_is_name (T : Txt K mg) : FnD P w K mg base 1 T.f_is_name.f T.f_is_name.fd ["thing"] 0 c_is_name := by
  refine fn_ok T.f_is_name.ok sc_is_name fun cdv A outer s H E hr => ⟨_, _, (dss_one (ds_ret [] (de_and (de_isi (T := "str") ty_str (de_var (pv 0)) (by rfl) T.n_isinstance (by decide +kernel) (by rfl) T.n_str (by decide +kernel)) (de_and (de_chain dop_lt dop_lt de_int (de_callB dcl_len (by rfl) T.n_len (by decide +kernel) (da_cons (de_var (pv 0)) da_nil)) de_int) (de_one (de_callB (dcl_all rfl) (by rfl) T.n_all (by decide +kernel) (da_cons (DN.de (dn_lc (own := [("sign", 1)]) rfl sc_is_name.nd (di_str (de_var (pv 0))) (blkOk_by (N := ["thing", "sign"]) (sc := defScope s_is_name) (by decide +kernel)) (fun _ _ _ _ _ => (dg_name (pg_name (i := 1) sc_is_name.nd rfl (Or.inl rfl)))) (fun _ _ _ _ _ => dts_nil) (fun _ _ _ _ _ => (de_cmp dop_sign (de_var (pv 1)) (de_globS (by rfl) T.g_LETTERS.choose_spec ⟨_, rfl⟩) (by rfl))) (by decide))) da_nil))))))), by decide +kernel, fun ds vs XQ Q hd hv h => ?_⟩
  obtain ⟨x, rfl, hx, q⟩ := h
  match vs, hv with
  | [v], _ =>
  try simp only [frz, params, setAll, List.zipWith, List.length_cons, List.length_nil, Nat.reduceAdd, Nat.reduceSub, List.replicate, List.append_nil, List.cons_append, List.nil_append, getV_va, Pt.sl, true_and, List.getElem?_cons_zero, List.getElem?_cons_succ, List.set_cons_zero, List.set_cons_succ, ite_self, Bool.false_eq_true, if_false, if_true]
  refine ⟨⟨_, rfl⟩, _, rfl, ?_⟩
  rw [if_pos (by rfl), g1_of]
  have h0 := hx.l0
  have h5 := hx.l5
  refine ⟨by show _ ≤ 16777216; omega, ?_⟩
  unfold gChain
  dsimp only
  rw [gI_of]
  refine ⟨trivial, _, rfl, ?_⟩
  rw [if_pos (by simpa using h0), gI_of]
  refine ⟨trivial, _, rfl, ?_⟩
  rw [if_pos (by simp; omega)]
  have hl : (sgn x).length = x.length := by unfold sgn; rw [List.length_map, ← len_cps]
  refine ⟨x, rfl, by rw [hl]; show _ ≤ 16777216; omega, all_go (fun _ => true) (fun y hy K1 K0 kk => ?_) (by rw [show ∀ l : List Dv, l.all (fun _ => true) = true from fun l => List.all_eq_true.mpr fun _ _ => rfl]; exact q)⟩
  obtain ⟨c, hc, rfl⟩ := List.mem_map.mp hy
  try simp only [lcStep, true_and, wipeR, List.map_cons, List.map_nil, List.set_cons_succ, List.set_cons_zero, List.getElem?_cons_succ, List.getElem?_cons_zero, getV_va, if_true]
  have := hx.ab c hc
  refine ⟨c, _, rfl, rfl, ?_⟩
  rw [if_neg (by decide), decide_eq_true (abc_mem this.1 this.2)]
  exact kk _

def cR_is_post : DC := fun ds _ _ Q => ∃ (k : Nat) (fs : List D) (kd : List (Str × D)) (i : Nat) (x : Str), ds = [.obj k fs, .str x] ∧ (objN k)[i]? = some ("own_roads" : Str) ∧ fs[i]? = some (strK kd) ∧ Q ⟨.bl (kd.any fun p => decide (p.1 = x)), true, none⟩
theorem okR_is_post (T : Txt K mg) : FnD P w K mg base 1 T.f_is_post.f T.f_is_post.fd ["plan", "thing"] 0 cR_is_post := by
  refine fn_ok T.f_is_post.ok sc_is_post fun cdv A outer s H E hr => ⟨_, _, (dss_one (ds_ret [] (de_and (de_isi (T := "str") ty_str (de_var (pv 1)) (by rfl) T.n_isinstance (by decide +kernel) (by rfl) T.n_str (by decide +kernel)) (de_one (de_has (neg := false) _ rfl hr.units (de_var (pv 1)) (de_fld (clT_of T.clP) (de_var (pv 0))) (by rfl)))))), by decide +kernel, fun ds vs XQ Q hd hv h => ?_⟩
  obtain ⟨k, fs, kd, i, x, rfl, h1, h2, q⟩ := h
  match vs, hv with
  | [v, v2], _ =>
  try simp only [frz, params, setAll, List.zipWith, List.length_cons, List.length_nil, Nat.reduceAdd, Nat.reduceSub, List.replicate, List.append_nil, List.cons_append, List.nil_append, getV_va, Pt.sl, true_and, List.getElem?_cons_zero, List.getElem?_cons_succ, List.set_cons_zero, List.set_cons_succ, ite_self, Bool.false_eq_true, if_false, if_true]
  refine ⟨⟨_, rfl⟩, _, rfl, ?_⟩
  rw [if_pos (by rfl)]
  refine ⟨k, fs, i, strK kd, rfl, h1, h2, _, .inr x, rfl, strK_plain kd, rfl, ?_⟩
  rw [if_neg (by decide), getK_map (fun p : Str × D => p.1)]
  rw [any_find] at q
  have e : ((kd.find? fun a => decide (a.1 = x)).map fun p : Str × D => p.2).isSome = (kd.find? fun a => decide (a.1 = x)).isSome := Option.isSome_map ..
  rw [e]
  exact q

theorem sc_Plan_is_rider : FnScope ["self", "thing"] ["self", "thing"] (defScope s_Plan_is_rider) := ⟨rfl, rfl, rfl, by decide +kernel, rfl, by decide +kernel, by decide +kernel⟩
def c_Plan_is_rider : DC := fun ds _ _ Q => ∃ (k : Nat) (fs : List D) (kd : List (Str × D)) (i : Nat) (r : Row) (y : D), ds = [.obj k fs, y] ∧ (objN k)[i]? = some ("own_roads" : Str) ∧ fs[i]? = some (strK kd) ∧ y.good = true ∧ y.seq = some (rowL r) ∧ (kd.any fun p => decide (p.1 = r.1)) = true ∧ 0 ≤ r.2.1 ∧ 0 < r.2.2 ∧ Q ⟨.bl true, true, none⟩
theorem ok_Plan_is_rider (T : Txt K mg) : FnD P w K mg base 3 T.f_Plan_is_rider.f T.f_Plan_is_rider.fd ["self", "thing"] 0 c_Plan_is_rider := by
  refine fn_ok T.f_Plan_is_rider.ok sc_Plan_is_rider fun cdv A outer s H E hr => ⟨_, _, (dss_cons (ds_if [] (DW.dt (dw_or (dt_not (dt_val (de_call ((ok_is_row T).mono (by decide)) hr (by rfl) T.f_is_row.g T.f_is_row.ok.kp T.f_is_row.b (passE (takes_of rfl rfl rfl rfl)) rfl (da_cons (de_var (pv 1)) (da_cons de_int da_nil))))) (dw_or (dt_not (dt_val (de_call ((okR_is_post T).mono (by decide)) hr (by rfl) T.f_is_post.g T.f_is_post.ok.kp T.f_is_post.b (passE (takes_of rfl rfl rfl rfl)) rfl (da_cons (de_var (pv 0)) (da_cons (de_ix (de_var (pv 1)) de_int (fun _ _ => rfl)) da_nil))))) (dw_or1 (dt_not (dt_val (de_call ((ok_is_number T).mono (by decide)) hr (by rfl) T.f_is_number.g T.f_is_number.ok.kp T.f_is_number.b (passE (takes_of rfl rfl rfl rfl)) rfl (da_cons (de_ix (de_var (pv 1)) de_int (fun _ _ => rfl)) da_nil)))))))) (dss_one (ds_ret [] de_bl)) dss_nil)
      (dss_one (ds_ret [] (de_and (de_call ((ok_is_whole T).mono (by decide)) hr (by rfl) T.f_is_whole.g T.f_is_whole.ok.kp T.f_is_whole.b (passE (takes_of rfl rfl rfl rfl)) rfl (da_cons (de_ix (de_var (pv 1)) de_int (fun _ _ => rfl)) da_nil)) (de_one (de_cmp dop_gt (de_ix (de_var (pv 1)) de_int (fun _ _ => rfl)) de_int (nomark _))))))), by decide +kernel, fun ds vs XQ Q hd hv h => ?_⟩
  obtain ⟨k, fs, kd, i, r, y, rfl, h1, h2, gy, ey, hk, hr1, hr2, q⟩ := h
  match vs, hv with
  | [v, v2], _ =>
  obtain ⟨x, t, m⟩ := r
  try simp only [frz, params, setAll, List.zipWith, List.length_cons, List.length_nil, Nat.reduceAdd, Nat.reduceSub, List.replicate, List.append_nil, List.cons_append, List.nil_append, getV_va, Pt.sl, true_and, List.getElem?_cons_zero, List.getElem?_cons_succ, List.set_cons_zero, List.set_cons_succ, ite_self, Bool.false_eq_true, if_false, if_true]
  have hrow : isRow y 3 = true := by unfold isRow; rw [ey]; rfl
  have a0 : atI (rowL (x, t, m)) 0 = some (.str x) := rfl
  have a1 : atI (rowL (x, t, m)) 1 = some (.int t) := rfl
  have a2 : atI (rowL (x, t, m)) 2 = some (.int m) := rfl
  refine gCall_of fun _ => ⟨y, 3, rfl, gy, ?_⟩
  rw [hrow]
  refine ⟨true, rfl, ?_⟩
  rw [if_neg (by decide), gIx_of ey a0]
  refine gCall_of fun _ => ⟨k, fs, kd, i, x, rfl, h1, h2, ?_⟩
  refine ⟨_, rfl, ?_⟩
  rw [hk, if_neg (by decide), gIx_of ey a1]
  refine gCall_of fun _ => ⟨.int t, rfl, rfl, _, rfl, ?_⟩
  have e1 : isNumber (.int t) = true := by simpa [isNumber] using hr1
  rw [e1, if_neg (by decide), gIx_of ey a2]
  refine gCall_of fun _ => ⟨.int m, rfl, rfl, _, rfl, ?_⟩
  rw [if_pos (by rfl), gIx_of ey a2, gI_of]
  refine ⟨trivial, ?_⟩
  have e2 : decide ((0 : Int) < m) = true := decide_eq_true hr2
  rw [e2]
  exact q

theorem sc_Plan_is_letter : FnScope ["self", "thing"] ["self", "thing"] (defScope s_Plan_is_letter) := ⟨rfl, rfl, rfl, by decide +kernel, rfl, by decide +kernel, by decide +kernel⟩
def c_Plan_is_letter : DC := fun ds _ _ Q => ∃ (k : Nat) (fs : List D) (kd : List (Str × D)) (i : Nat) (r : Row) (y : D), ds = [.obj k fs, y] ∧ (objN k)[i]? = some ("own_roads" : Str) ∧ fs[i]? = some (strK kd) ∧ y.good = true ∧ y.seq = some (rowL r) ∧ (kd.any fun p => decide (p.1 = r.1)) = true ∧ 0 ≤ r.2.1 ∧ 0 ≤ r.2.2 ∧ Q ⟨.bl true, true, none⟩
theorem ok_Plan_is_letter (T : Txt K mg) : FnD P w K mg base 3 T.f_Plan_is_letter.f T.f_Plan_is_letter.fd ["self", "thing"] 0 c_Plan_is_letter := by
  refine fn_ok T.f_Plan_is_letter.ok sc_Plan_is_letter fun cdv A outer s H E hr => ⟨_, _, (dss_one (ds_ret [] (de_and (de_call ((ok_is_row T).mono (by decide)) hr (by rfl) T.f_is_row.g T.f_is_row.ok.kp T.f_is_row.b (passE (takes_of rfl rfl rfl rfl)) rfl (da_cons (de_var (pv 1)) (da_cons de_int da_nil))) (de_and (de_call ((okR_is_post T).mono (by decide)) hr (by rfl) T.f_is_post.g T.f_is_post.ok.kp T.f_is_post.b (passE (takes_of rfl rfl rfl rfl)) rfl (da_cons (de_var (pv 0)) (da_cons (de_ix (de_var (pv 1)) de_int (fun _ _ => rfl)) da_nil))) (de_and (de_call ((ok_is_number T).mono (by decide)) hr (by rfl) T.f_is_number.g T.f_is_number.ok.kp T.f_is_number.b (passE (takes_of rfl rfl rfl rfl)) rfl (da_cons (de_ix (de_var (pv 1)) de_int (fun _ _ => rfl)) da_nil)) (de_one (de_call ((ok_is_number T).mono (by decide)) hr (by rfl) T.f_is_number.g T.f_is_number.ok.kp T.f_is_number.b (passE (takes_of rfl rfl rfl rfl)) rfl (da_cons (de_ix (de_var (pv 1)) de_int (fun _ _ => rfl)) da_nil)))))))), by decide +kernel, fun ds vs XQ Q hd hv h => ?_⟩
  obtain ⟨k, fs, kd, i, r, y, rfl, h1, h2, gy, ey, hk, hr1, hr2, q⟩ := h
  match vs, hv with
  | [v, v2], _ =>
  obtain ⟨x, t, m⟩ := r
  try simp only [frz, params, setAll, List.zipWith, List.length_cons, List.length_nil, Nat.reduceAdd, Nat.reduceSub, List.replicate, List.append_nil, List.cons_append, List.nil_append, getV_va, Pt.sl, true_and, List.getElem?_cons_zero, List.getElem?_cons_succ, List.set_cons_zero, List.set_cons_succ, ite_self, Bool.false_eq_true, if_false, if_true]
  have hrow : isRow y 3 = true := by unfold isRow; rw [ey]; rfl
  have a0 : atI (rowL (x, t, m)) 0 = some (.str x) := rfl
  have a1 : atI (rowL (x, t, m)) 1 = some (.int t) := rfl
  have a2 : atI (rowL (x, t, m)) 2 = some (.int m) := rfl
  refine gCall_of fun _ => ⟨y, 3, rfl, gy, _, rfl, ?_⟩
  rw [if_pos hrow, gIx_of ey a0]
  refine gCall_of fun _ => ⟨k, fs, kd, i, x, rfl, h1, h2, _, rfl, ?_⟩
  rw [if_pos hk, gIx_of ey a1]
  refine gCall_of fun _ => ⟨.int t, rfl, rfl, _, rfl, ?_⟩
  rw [if_pos (by simpa [isNumber] using hr1), gIx_of ey a2]
  refine gCall_of fun _ => ⟨.int m, rfl, rfl, ?_⟩
  have e : isNumber (.int m) = true := by simpa [isNumber] using hr2
  rw [e]
  exact q

theorem sc_first_bad : FnScope ["things", "is_right", "index", "thing"] ["things", "is_right"] (defScope s_first_bad) := ⟨rfl, rfl, rfl, by decide +kernel, rfl, by decide +kernel, by decide +kernel⟩
def c_first_bad (T : Txt K mg) : DC := fun ds _ _ Q => ∃ (things : D) (k : Nat) (fs : List D) (kd : List (Str × D)) (i : Nat) (l : List Row), ds = [things, .bm T.f_Plan_is_rider.f (.obj k fs)] ∧ (objN k)[i]? = some ("own_roads" : Str) ∧ fs[i]? = some (strK kd) ∧ Forms rowL l things ∧ (∀ r ∈ l, (kd.any fun p => decide (p.1 = r.1)) = true ∧ 0 ≤ r.2.1 ∧ 0 < r.2.2) ∧ Q ⟨.non, true, none⟩
theorem ok_first_bad (T : Txt K mg) : FnD P w K mg base 4 T.f_first_bad.f T.f_first_bad.fd ["things", "is_right"] 0 (c_first_bad T) := by
  refine fn_ok T.f_first_bad.ok sc_first_bad fun cdv A outer s H E hr => ⟨_, _, (dss_cons (ds_if [] (dt_not (dt_val (de_call ((ok_is_list T).mono (by decide)) hr (by rfl) T.f_is_list.g T.f_is_list.ok.kp T.f_is_list.b (passE (takes_of rfl rfl rfl rfl)) rfl (da_cons (de_var (pv 0)) da_nil)))) (dss_one (ds_ret [] de_int)) dss_nil)
      (dss_cons (ds_for [] (passes_of rfl) rfl (di_enumA (by rfl) T.n_enumerate (da_cons (de_var (pv 0)) da_nil)) (dg_tup (n := 2) rfl (dgs_cons (dg_name (pg_name (i := 2) sc_first_bad.nd rfl (Or.inl rfl))) (dgs_cons (dg_name (pg_name (i := 3) sc_first_bad.nd rfl (Or.inl rfl))) dgs_nil)))
      (dss_one (ds_if [] (dt_not (dt_val (de_callBm ((ok_Plan_is_rider T).mono (by decide)) hr T.bmR.fi T.f_Plan_is_rider.b (passE (takes_of rfl rfl rfl rfl)) (i := 1) rfl (by first | exact Or.inl rfl | exact Or.inr (Or.inl rfl) | exact Or.inr (Or.inr rfl)) (da_cons (de_var (pv 3)) da_nil) rfl))) (dss_one (ds_ret [] (de_var (pv 2)))) dss_nil)))
      (dss_one (ds_ret [] de_non)))), by decide +kernel, fun ds vs XQ Q hd hv h => ?_⟩
  obtain ⟨things, k, fs, kd, i, l, rfl, h1, h2, ⟨gt, ys, ey, pr⟩, hl, q⟩ := h
  match vs, hv with
  | [v, v2], _ =>
  try simp only [frz, params, setAll, List.zipWith, List.length_cons, List.length_nil, Nat.reduceAdd, Nat.reduceSub, List.replicate, List.append_nil, List.cons_append, List.nil_append, getV_va, Pt.sl, true_and, List.getElem?_cons_zero, List.getElem?_cons_succ, List.set_cons_zero, List.set_cons_succ, ite_self, Bool.false_eq_true, if_false, if_true]
  obtain ⟨gy, ly⟩ := good_seq gt ey
  refine gCall_of fun _ => ⟨things, rfl, gt, ?_⟩
  have e0 : isList things = true := by unfold isList; rw [ey]; rfl
  rw [e0]
  refine ⟨true, rfl, ?_⟩
  rw [if_neg (by decide)]
  refine ⟨_, ys, rfl, ey, .inl trivial, ?_⟩
  refine for_idx (fun n ρ => ∃ s2 s3, ρ = [Sl.va ⟨things, things.imm, some v⟩, .va ⟨.bm T.f_Plan_is_rider.f (.obj k fs), (D.bm T.f_Plan_is_rider.f (.obj k fs)).imm, some v2⟩, s2, s3]) _ 0 _ ⟨_, _, rfl⟩ (fun j x hx ρ hI K2 kk => ?_) fun ρ hI => ?_
  · obtain ⟨s2, s3, rfl⟩ := hI
    obtain ⟨y, hy, rfl⟩ := enumD_get hx
    obtain ⟨r, hr1, er, gr⟩ := paired_get pr hy
    have hm : r ∈ l := List.mem_of_getElem? hr1
    obtain ⟨c1, c2, c3⟩ := hl r hm
    try simp only [lcStep, true_and, wipeR, List.map_cons, List.map_nil, List.set_cons_succ, List.set_cons_zero, List.getElem?_cons_succ, List.getElem?_cons_zero, getV_va, if_true]
    rw [unp_seq (by rfl)]
    refine ⟨rfl, ?_⟩
    simp only [List.map_cons, List.map_nil]
    try simp only [frz, params, setAll, List.zipWith, List.length_cons, List.length_nil, Nat.reduceAdd, Nat.reduceSub, List.replicate, List.append_nil, List.cons_append, List.nil_append, getV_va, Pt.sl, true_and, List.getElem?_cons_zero, List.getElem?_cons_succ, List.set_cons_zero, List.set_cons_succ, ite_self, Bool.false_eq_true, if_false, if_true]
    refine ⟨_, _, _, rfl, gCall_of fun _ => ⟨k, fs, kd, i, r, y, rfl, h1, h2, gr, er, c1, c2, c3, ?_⟩⟩
    refine ⟨true, rfl, ?_⟩
    rw [if_neg (by decide)]
    exact kk _ ⟨_, _, rfl⟩
  · obtain ⟨s2, s3, rfl⟩ := hI
    try simp only [frz, params, setAll, List.zipWith, List.length_cons, List.length_nil, Nat.reduceAdd, Nat.reduceSub, List.replicate, List.append_nil, List.cons_append, List.nil_append, getV_va, Pt.sl, true_and, List.getElem?_cons_zero, List.getElem?_cons_succ, List.set_cons_zero, List.set_cons_succ, ite_self, Bool.false_eq_true, if_false, if_true]
    exact q

def cL_first_bad (T : Txt K mg) : DC := fun ds _ _ Q => ∃ (things : D) (k : Nat) (fs : List D) (kd : List (Str × D)) (i : Nat) (l : List Row), ds = [things, .bm T.f_Plan_is_letter.f (.obj k fs)] ∧ (objN k)[i]? = some ("own_roads" : Str) ∧ fs[i]? = some (strK kd) ∧ Forms rowL l things ∧ (∀ r ∈ l, (kd.any fun p => decide (p.1 = r.1)) = true ∧ 0 ≤ r.2.1 ∧ 0 ≤ r.2.2) ∧ Q ⟨.non, true, none⟩
theorem okL_first_bad (T : Txt K mg) : FnD P w K mg base 4 T.f_first_bad.f T.f_first_bad.fd ["things", "is_right"] 0 (cL_first_bad T) := by
  refine fn_ok T.f_first_bad.ok sc_first_bad fun cdv A outer s H E hr => ⟨_, _, (dss_cons (ds_if [] (dt_not (dt_val (de_call ((ok_is_list T).mono (by decide)) hr (by rfl) T.f_is_list.g T.f_is_list.ok.kp T.f_is_list.b (passE (takes_of rfl rfl rfl rfl)) rfl (da_cons (de_var (pv 0)) da_nil)))) (dss_one (ds_ret [] de_int)) dss_nil)
      (dss_cons (ds_for [] (passes_of rfl) rfl (di_enumA (by rfl) T.n_enumerate (da_cons (de_var (pv 0)) da_nil)) (dg_tup (n := 2) rfl (dgs_cons (dg_name (pg_name (i := 2) sc_first_bad.nd rfl (Or.inl rfl))) (dgs_cons (dg_name (pg_name (i := 3) sc_first_bad.nd rfl (Or.inl rfl))) dgs_nil)))
      (dss_one (ds_if [] (dt_not (dt_val (de_callBm ((ok_Plan_is_letter T).mono (by decide)) hr T.bmL.fi T.f_Plan_is_letter.b (passE (takes_of rfl rfl rfl rfl)) (i := 1) rfl (by first | exact Or.inl rfl | exact Or.inr (Or.inl rfl) | exact Or.inr (Or.inr rfl)) (da_cons (de_var (pv 3)) da_nil) rfl))) (dss_one (ds_ret [] (de_var (pv 2)))) dss_nil)))
      (dss_one (ds_ret [] de_non)))), by decide +kernel, fun ds vs XQ Q hd hv h => ?_⟩
  obtain ⟨things, k, fs, kd, i, l, rfl, h1, h2, ⟨gt, ys, ey, pr⟩, hl, q⟩ := h
  match vs, hv with
  | [v, v2], _ =>
  try simp only [frz, params, setAll, List.zipWith, List.length_cons, List.length_nil, Nat.reduceAdd, Nat.reduceSub, List.replicate, List.append_nil, List.cons_append, List.nil_append, getV_va, Pt.sl, true_and, List.getElem?_cons_zero, List.getElem?_cons_succ, List.set_cons_zero, List.set_cons_succ, ite_self, Bool.false_eq_true, if_false, if_true]
  obtain ⟨gy, ly⟩ := good_seq gt ey
  refine gCall_of fun _ => ⟨things, rfl, gt, ?_⟩
  have e0 : isList things = true := by unfold isList; rw [ey]; rfl
  rw [e0]
  refine ⟨true, rfl, ?_⟩
  rw [if_neg (by decide)]
  refine ⟨_, ys, rfl, ey, .inl trivial, ?_⟩
  refine for_idx (fun n ρ => ∃ s2 s3, ρ = [Sl.va ⟨things, things.imm, some v⟩, .va ⟨.bm T.f_Plan_is_letter.f (.obj k fs), (D.bm T.f_Plan_is_letter.f (.obj k fs)).imm, some v2⟩, s2, s3]) _ 0 _ ⟨_, _, rfl⟩ (fun j x hx ρ hI K2 kk => ?_) fun ρ hI => ?_
  · obtain ⟨s2, s3, rfl⟩ := hI
    obtain ⟨y, hy, rfl⟩ := enumD_get hx
    obtain ⟨r, hr1, er, gr⟩ := paired_get pr hy
    have hm : r ∈ l := List.mem_of_getElem? hr1
    obtain ⟨c1, c2, c3⟩ := hl r hm
    try simp only [lcStep, true_and, wipeR, List.map_cons, List.map_nil, List.set_cons_succ, List.set_cons_zero, List.getElem?_cons_succ, List.getElem?_cons_zero, getV_va, if_true]
    rw [unp_seq (by rfl)]
    refine ⟨rfl, ?_⟩
    simp only [List.map_cons, List.map_nil]
    try simp only [frz, params, setAll, List.zipWith, List.length_cons, List.length_nil, Nat.reduceAdd, Nat.reduceSub, List.replicate, List.append_nil, List.cons_append, List.nil_append, getV_va, Pt.sl, true_and, List.getElem?_cons_zero, List.getElem?_cons_succ, List.set_cons_zero, List.set_cons_succ, ite_self, Bool.false_eq_true, if_false, if_true]
    refine ⟨_, _, _, rfl, gCall_of fun _ => ⟨k, fs, kd, i, r, y, rfl, h1, h2, gr, er, c1, c2, c3, ?_⟩⟩
    refine ⟨true, rfl, ?_⟩
    rw [if_neg (by decide)]
    exact kk _ ⟨_, _, rfl⟩
  · obtain ⟨s2, s3, rfl⟩ := hI
    try simp only [frz, params, setAll, List.zipWith, List.length_cons, List.length_nil, Nat.reduceAdd, Nat.reduceSub, List.replicate, List.append_nil, List.cons_append, List.nil_append, getV_va, Pt.sl, true_and, List.getElem?_cons_zero, List.getElem?_cons_succ, List.set_cons_zero, List.set_cons_succ, ite_self, Bool.false_eq_true, if_false, if_true]
    exact q

theorem sc_first_bad_road : FnScope ["office", "roads", "known", "index", "road"] ["office", "roads"] (defScope s_first_bad_road) := ⟨rfl, rfl, rfl, by decide +kernel, rfl, by decide +kernel, by decide +kernel⟩
def c_first_bad_road : DC := fun ds _ _ Q => ∃ (office : Str) (R : D) (rs : List Road), ds = [.str office, R] ∧ NmOk office ∧ RoadsOk [office] rs ∧ rs.length ≤ 8 ∧ Forms roadL rs R ∧ Q ⟨.non, true, none⟩
theorem ok_first_bad_road (T : Txt K mg) : FnD P w K mg base 3 T.f_first_bad_road.f T.f_first_bad_road.fd ["office", "roads"] 0 c_first_bad_road := by
  refine fn_ok T.f_first_bad_road.ok sc_first_bad_road fun cdv A outer s H E hr => ⟨_, _, (dss_cons (ds_own [] dn_dnew (pg_name (i := 2) sc_first_bad_road.nd rfl (Or.inl rfl)) (fun _ _ a b => ps_asg a b))
      (dss_cons (ds_if [] (dt_not (dt_val (de_call ((ok_is_list T).mono (by decide)) hr (by rfl) T.f_is_list.g T.f_is_list.ok.kp T.f_is_list.b (passE (takes_of rfl rfl rfl rfl)) rfl (da_cons (de_var (pv 1)) da_nil)))) (dss_one (ds_ret [] de_int)) dss_nil)
      (dss_cons (ds_for [] (passes_of rfl) rfl (di_enumA (by rfl) T.n_enumerate (da_cons (de_var (pv 1)) da_nil)) (dg_tup (n := 2) rfl (dgs_cons (dg_name (pg_name (i := 3) sc_first_bad_road.nd rfl (Or.inl rfl))) (dgs_cons (dg_name (pg_name (i := 4) sc_first_bad_road.nd rfl (Or.inl rfl))) dgs_nil)))
      (dss_cons (ds_if [2] (DW.dt (dw_or (dt_not (dt_val (de_call ((ok_is_row T).mono (by decide)) hr (by rfl) T.f_is_row.g T.f_is_row.ok.kp T.f_is_row.b (passE (takes_of rfl rfl rfl rfl)) rfl (da_cons (de_var (pv 4)) (da_cons de_int da_nil))))) (dw_or (dt_not (dt_val (de_call ((ok_is_name T).mono (by decide)) hr (by rfl) T.f_is_name.g T.f_is_name.ok.kp T.f_is_name.b (passE (takes_of rfl rfl rfl rfl)) rfl (da_cons (de_ix (de_var (pv 4)) de_int (fun _ _ => rfl)) da_nil)))) (dw_or (dt_cmp (dop_eq hr.units) (de_ix (de_var (pv 4)) de_int (fun _ _ => rfl)) (de_var (pv 0)) (nomark _)) (dw_or1 (dt_has (neg := false) _ rfl hr.units (de_ix (de_var (pv 4)) de_int (fun _ _ => rfl)) (de_var (pv 2)) (by rfl))))))) (dss_one (ds_ret [] (de_var (pv 3)))) dss_nil)
      (dss_cons (ds_if [2] (DW.dt (dw_or (dt_not (dt_val (de_isi (T := "str") ty_str (de_ix (de_var (pv 4)) de_int (fun _ _ => rfl)) (by rfl) T.n_isinstance (by decide +kernel) (by rfl) T.n_str (by decide +kernel)))) (dw_or1 (DW.dt (dw_and (dt_cmp (dop_ne hr.units) (de_ix (de_var (pv 4)) de_int (fun _ _ => rfl)) (de_var (pv 0)) (nomark _)) (dw_and1 (dt_has (neg := true) _ rfl hr.units (de_ix (de_var (pv 4)) de_int (fun _ _ => rfl)) (de_var (pv 2)) (by rfl)))))))) (dss_one (ds_ret [] (de_var (pv 3)))) dss_nil)
      (dss_cons (ds_if [] (DW.dt (dw_or (dt_not (dt_val (de_call ((ok_is_whole T).mono (by decide)) hr (by rfl) T.f_is_whole.g T.f_is_whole.ok.kp T.f_is_whole.b (passE (takes_of rfl rfl rfl rfl)) rfl (da_cons (de_ix (de_var (pv 4)) de_int (fun _ _ => rfl)) da_nil)))) (dw_or1 (dt_cmp dop_lt (de_ix (de_var (pv 4)) de_int (fun _ _ => rfl)) de_int (nomark _))))) (dss_one (ds_ret [] (de_var (pv 3)))) dss_nil)
      (dss_one (ds_setD [] (i := 2) hr.units de_bl (de_ix (de_var (pv 4)) de_int (fun _ _ => rfl)) (pv 2)))))))
      (dss_one (ds_ret [] de_non))))), by decide +kernel, fun ds vs XQ Q hd hv h => ?_⟩
  obtain ⟨office, R, rs, rfl, ho, hr0, hl8, ⟨gR, ys, ey, pr⟩, q⟩ := h
  match vs, hv with
  | [v, v2], _ =>
  obtain ⟨facts, nd⟩ := hr0.facts fun x hx => by rw [List.mem_singleton] at hx; rw [hx]; exact ho
  try simp only [frz, params, setAll, List.zipWith, List.length_cons, List.length_nil, Nat.reduceAdd, Nat.reduceSub, List.replicate, List.append_nil, List.cons_append, List.nil_append, getV_va, Pt.sl, true_and, List.getElem?_cons_zero, List.getElem?_cons_succ, List.set_cons_zero, List.set_cons_succ, ite_self, Bool.false_eq_true, if_false, if_true]
  refine gCall_of fun _ => ⟨R, rfl, gR, ?_⟩
  have e0 : isList R = true := by unfold isList; rw [ey]; rfl
  rw [e0]
  refine ⟨true, rfl, ?_⟩
  rw [if_neg (by decide)]
  refine ⟨_, ys, rfl, ey, .inl trivial, ?_⟩
  have hyl : ys.length = rs.length := (Paired.length pr).symm
  refine for_idx (fun n ρ => ∃ s3 s4 m, ρ = [Sl.va ⟨.str office, (D.str office).imm, some v⟩, .va ⟨R, R.imm, some v2⟩, .ow (strK ((rs.take n).map fun r => (r.1, .bl true))) m, s3, s4]) _ 0 _ ⟨_, _, _, rfl⟩ (fun j x hx ρ hI K2 kk => ?_) fun ρ hI => ?_
  · obtain ⟨s3, s4, m, rfl⟩ := hI
    obtain ⟨y, hy, rfl⟩ := enumD_get hx
    obtain ⟨r, hr1, er, gr⟩ := paired_get pr hy
    have hm : r ∈ rs := List.mem_of_getElem? hr1
    obtain ⟨f1, f2, f3, f4, f5⟩ := facts r hm
    have a0 : atI (roadL r) 0 = some (.str r.1) := rfl
    have a1 : atI (roadL r) 1 = some (.str r.2.1) := rfl
    have a2 : atI (roadL r) 2 = some (.int r.2.2) := rfl
    have hrow : isRow y 3 = true := by unfold isRow; rw [er]; rfl
    try simp only [lcStep, true_and, wipeR, List.map_cons, List.map_nil, List.set_cons_succ, List.set_cons_zero, List.getElem?_cons_succ, List.getElem?_cons_zero, getV_va, if_true]
    rw [unp_seq (by rfl)]
    refine ⟨rfl, ?_⟩
    simp only [List.map_cons, List.map_nil]
    try simp only [frz, params, setAll, List.zipWith, List.length_cons, List.length_nil, Nat.reduceAdd, Nat.reduceSub, List.replicate, List.append_nil, List.cons_append, List.nil_append, getV_va, Pt.sl, true_and, List.getElem?_cons_zero, List.getElem?_cons_succ, List.set_cons_zero, List.set_cons_succ, ite_self, Bool.false_eq_true, if_false, if_true]
    refine gCall_of fun _ => ⟨y, 3, rfl, gr, ?_⟩
    rw [hrow]
    refine ⟨true, rfl, ?_⟩
    rw [if_neg (by decide), gIx_of er a0]
    refine gCall_of fun _ => ⟨r.1, rfl, f1, ?_⟩
    refine ⟨true, rfl, ?_⟩
    rw [if_neg (by decide), gIx_of er a0, gEq_str (nm_ok f1) (nm_ok ho)]
    have e1 : (r.1 == office) = false := by simpa using f5
    rw [e1]
    refine ⟨false, rfl, ?_⟩
    rw [if_neg (by decide), gIx_of er a0]
    rw [Nat.zero_add] at *
    obtain ⟨g1, g2, g3⟩ := hr0.at hr1
    have k0 : (((rs.take j).map fun r => (r.1, D.bl true)).any fun p => decide (p.1 = r.1)) = false := by
      rw [known_any, List.any_eq_false]
      exact fun s hs => by simpa using g3 s hs
    refine gHas_strK k0 ⟨false, rfl, ?_⟩
    rw [if_neg (by decide), gIx_of er a1]
    refine ⟨⟨_, rfl⟩, true, rfl, ?_⟩
    rw [if_neg (by decide), gIx_of er a1, gEq_str (nm_ok f2) (nm_ok ho)]
    have step : (true = true → (((rs.take j).map fun r => (r.1, D.bl true)).any fun p => decide (p.1 = r.2.1)) = true) ∨ r.2.1 = office := by
      rcases g1 with g1 | ⟨s, hs, e⟩
      · rw [List.mem_singleton] at g1
        exact .inr g1
      · refine .inl fun _ => ?_
        rw [known_any, List.any_eq_true]
        exact ⟨s, hs, by simpa using e⟩
    have hput : D.dct (putD (((rs.take j).map fun r => (r.1, D.bl true)).map fun p => ((.str p.1 : D), p.2)) (.inr r.1) (D.bl true)) = strK ((rs.take (j + 1)).map fun r => (r.1, D.bl true)) := by
      rw [putD_strK k0, List.take_succ_eq_append_getElem (List.getElem?_eq_some_iff.mp hr1).1, List.map_append, (List.getElem?_eq_some_iff.mp hr1).2]
      rfl
    by_cases ho2 : r.2.1 = office
    · refine ⟨false, by simp [ho2], ?_⟩
      rw [if_neg (by decide)]
      rw [gIx_of er a2]
      refine gCall_of fun _ => ⟨.int r.2.2, rfl, rfl, true, rfl, ?_⟩
      rw [if_neg (by decide), gIx_of er a2, gI_of]
      refine ⟨trivial, _, rfl, ?_⟩
      rw [if_neg (by simp; omega)]
      refine ⟨_, m, rfl, strK_plain _, by rw [List.length_map, List.length_map, List.length_take]; show _ < 16777216; omega, ?_⟩
      rw [gIx_of er a0]
      refine ⟨.inr r.1, rfl, ?_⟩
      rw [hput]
      exact kk _ ⟨_, _, _, rfl⟩
    · refine ⟨true, by simp [ho2], ?_⟩
      rw [if_pos rfl, gIx_of er a1]
      refine gHas_strK (step.resolve_right ho2 rfl) ⟨false, rfl, ?_⟩
      rw [if_neg (by decide)]
      rw [gIx_of er a2]
      refine gCall_of fun _ => ⟨.int r.2.2, rfl, rfl, true, rfl, ?_⟩
      rw [if_neg (by decide), gIx_of er a2, gI_of]
      refine ⟨trivial, _, rfl, ?_⟩
      rw [if_neg (by simp; omega)]
      refine ⟨_, m, rfl, strK_plain _, by rw [List.length_map, List.length_map, List.length_take]; show _ < 16777216; omega, ?_⟩
      rw [gIx_of er a0]
      refine ⟨.inr r.1, rfl, ?_⟩
      rw [hput]
      exact kk _ ⟨_, _, _, rfl⟩
  · obtain ⟨s3, s4, m, rfl⟩ := hI
    try simp only [frz, params, setAll, List.zipWith, List.length_cons, List.length_nil, Nat.reduceAdd, Nat.reduceSub, List.replicate, List.append_nil, List.cons_append, List.nil_append, getV_va, Pt.sl, true_and, List.getElem?_cons_zero, List.getElem?_cons_succ, List.set_cons_zero, List.set_cons_succ, ite_self, Bool.false_eq_true, if_false, if_true]
    exact q

end
theorem dc_mapS {gt : TDG} {ft : TDt} {fk fe : TD} {ρw : Ro} {Q : Dv → Prop} (kf : Dv → Str) (vf : Dv → D) : ∀ (xs : List Dv) (acc : List (Str × D)) (n : Bool), (acc.map (·.1) ++ xs.map kf).Nodup →
    (∀ x ∈ xs, ∀ (K : Key → D → Bool → Prop) (K0 : Prop), (∀ m, K (.inr (kf x)) (vf x) m) → gt x ρw fun ρ2 => ft ρ2 XQ0 fun b => if b = true then fk ρ2 XQ0 fun y => ∃ k, y.d = keyD k ∧ fe ρ2 XQ0 fun z => K k z.d z.fr else K0) →
    (∀ m, Q ⟨strK (acc ++ xs.map fun x => (kf x, vf x)), m, none⟩) → dcGo gt ft fk fe ρw Q xs (acc.map fun p => ((.str p.1 : D), p.2)) n
  | [], acc, n, _, _, q => by
    have := q n
    rw [List.map_nil, List.append_nil] at this
    exact this
  | x :: xs, acc, n, nd, st, q => by
    refine st x List.mem_cons_self (fun k d m => dcGo gt ft fk fe ρw Q xs (putD (acc.map fun p => ((.str p.1 : D), p.2)) k d) (n && m)) _ fun m => ?_
    have hn : (acc.any fun p => decide (p.1 = kf x)) = false := by
      rw [List.any_eq_false]
      intro p hp
      rw [List.nodup_append] at nd
      simpa using nd.2.2 p.1 (List.mem_map.mpr ⟨p, hp, rfl⟩) (kf x) (by simp)
    have e := putD_strK (d := vf x) hn
    unfold strK at e
    rw [D.dct.inj e]
    refine dc_mapS kf vf xs _ _ ?_ (fun y hy => st y (List.mem_cons_of_mem _ hy)) fun m => ?_
    · rw [List.map_append]
      simpa using nd
    · have := q m
      rw [List.map_cons] at this
      rw [List.append_assoc]
      exact this
def roadK (x : Dv) : Str := match x.d.seq with
  | some (.str a :: _) => a
  | _ => ""
def roadV (x : Dv) : D := match x.d.seq with
  | some [_, b, c] => .tup [b, c]
  | _ => .non
def roadKD (r : Road) : Str × D := (r.1, .tup [.str r.2.1, .int r.2.2])
theorem road_rows {n : Bool} : ∀ {rs : List Road} {ys : List D}, Paired (fun (r : Road) (y : D) => y.seq = some (roadL r) ∧ y.good = true) rs ys → (ys.map fun d => (⟨d, n, none⟩ : Dv)).map (fun x => (roadK x, roadV x)) = rs.map roadKD ∧ (ys.map fun d => (⟨d, n, none⟩ : Dv)).map roadK = rs.map (·.1)
  | _, _, .nil => ⟨rfl, rfl⟩
  | _, _, .cons (a := r) (b := y) ⟨e, _⟩ t => by
    obtain ⟨h1, h2⟩ := road_rows (n := n) t
    have e1 : roadK ⟨y, n, none⟩ = r.1 := by unfold roadK; rw [e]; rfl
    have e2 : roadV ⟨y, n, none⟩ = .tup [.str r.2.1, .int r.2.2] := by unfold roadV; rw [e]; rfl
    rw [List.map_cons, List.map_cons, List.map_cons, List.map_cons, List.map_cons, h1, h2, e1, e2]
    exact ⟨rfl, rfl⟩
def tupD (d : D) : D := .tup (d.seq.getD [])
theorem rows_tup : ∀ {l : List Row} {ys : List D}, Paired (fun (r : Row) (y : D) => y.seq = some (rowL r) ∧ y.good = true) l ys → ys.map tupD = l.map rowD
  | _, _, .nil => rfl
  | _, _, .cons (a := r) (b := y) ⟨e, _⟩ t => by
    rw [List.map_cons, List.map_cons, rows_tup t]
    unfold tupD
    rw [e]
    rfl
theorem road_get {rs : List Road} (nd : (rs.map (·.1)).Nodup) {r : Road} (hr : r ∈ rs) : getK ((rs.map roadKD).map fun p => ((.str p.1 : D), p.2)) (.inr r.1) = some (.tup [.str r.2.1, .int r.2.2]) := by
  rw [getK_map (fun p : Str × D => p.1) (fun p => p.2)]
  cases e : (rs.map roadKD).find? fun a => decide (a.1 = r.1) with
  | none => exact absurd (List.find?_eq_none.mp e _ (List.mem_map.mpr ⟨r, hr, rfl⟩)) (by simp [roadKD])
  | some s =>
    have h1 := List.find?_some e
    simp only [decide_eq_true_eq] at h1
    obtain ⟨t, ht, et⟩ := List.mem_map.mp (List.mem_of_find?_eq_some e)
    subst et
    rw [inj_nodup nd ht hr h1]
    rfl
def unS : D → Str
  | .str x => x
  | _ => ""
theorem srt_names (l : List Str) : ∃ zs : List Str, srtD (l.map D.str) = zs.map D.str ∧ zs.Perm l := by
  refine ⟨(srtD (l.map D.str)).map unS, ?_, ?_⟩
  · rw [List.map_map]
    have : ∀ d ∈ srtD (l.map D.str), (D.str ∘ unS) d = d := fun d hd => by
      obtain ⟨x, _, rfl⟩ := List.mem_map.mp ((srtD_perm _).mem_iff.mp hd)
      rfl
    exact (List.map_congr_left (g := id) this |>.trans (List.map_id _)).symm
  · have := (srtD_perm (l.map D.str)).map unS
    rw [List.map_map] at this
    have e : l.map (unS ∘ D.str) = l := (List.map_congr_left (g := id) fun _ _ => rfl).trans (List.map_id _)
    rwa [e] at this
theorem items_strs {Q : List Dv → Prop} {l : List D} {ks : List Str} {n : Bool} {v : Option V} (e : l = ks.map D.str) (q : ∀ f, Q (ks.map fun k => ⟨.str k, f, none⟩)) : items ⟨.lst l, n, v⟩ Q := by
  rw [items_seq rfl, e, List.map_map]
  exact q _
def parF (rs : List Road) (z : Str) : Str := ((rs.find? fun r => decide (r.1 = z)).map (·.2.1)).getD ""
theorem parF_at {rs : List Road} (nd : (rs.map (·.1)).Nodup) {r : Road} (hr : r ∈ rs) : parF rs r.1 = r.2.1 := by
  unfold parF
  cases e : rs.find? fun s => decide (s.1 = r.1) with
  | none => exact absurd (List.find?_eq_none.mp e r hr) (by simp)
  | some s =>
    have h1 := List.find?_some e
    simp only [decide_eq_true_eq] at h1
    rw [inj_nodup nd (List.mem_of_find?_eq_some e) hr h1]
    rfl
theorem behind_eq {p : PV} (nd : (p.roads.map (·.1)).Nodup) {zs : List Str} (hz : srtD ((p.roads.map (·.1)).map D.str) = zs.map D.str) (pz : zs.Perm (p.roads.map (·.1))) (k : Str) : p.behind k = (zs.filter fun z => parF p.roads z == k).map D.str := by
  have e0 : (p.roads.map fun r => D.str r.1) = (p.roads.map (·.1)).map D.str := by rw [List.map_map]; rfl
  unfold PV.behind
  rw [e0, hz, List.filter_map]
  congr 1
  refine List.filter_congr fun z hm => ?_
  obtain ⟨r, hr, e⟩ := List.mem_map.mp (pz.mem_iff.mp hm)
  subst e
  rw [parF_at nd hr]
  show (p.roads.any fun s => decide (s.1 = r.1) && decide (s.2.1 = k)) = (r.2.1 == k)
  rw [Bool.eq_iff_iff, List.any_eq_true]
  constructor
  · rintro ⟨s, hs, h⟩
    rw [Bool.and_eq_true, decide_eq_true_eq, decide_eq_true_eq] at h
    rw [inj_nodup nd hs hr h.1] at h
    simpa using h.2
  · intro h
    refine ⟨r, hr, ?_⟩
    simpa using h
theorem paired_mem {α β : Type} {P : α → β → Prop} {xs : List α} {ys : List β} (h : Paired P xs ys) {y : β} (hy : y ∈ ys) : ∃ x ∈ xs, P x y := by
  obtain ⟨i, hi⟩ := List.getElem?_of_mem hy
  obtain ⟨x, h1, h2⟩ := paired_get h hi
  exact ⟨x, List.mem_of_getElem? h1, h2⟩

section
variable {P : Program} {w : World} {K : PySem.W.Frag} {mg : Str → Option Value} {base : Heap}
theorem sc_Plan___init__ : FnScope ["self", "office", "roads", "riders", "letters", "wrong", "post", "other", "hours", "rider", "letter"] ["self", "office", "roads", "riders", "letters"] (defScope s_Plan___init__) := ⟨rfl, rfl, rfl, by decide +kernel, rfl, by decide +kernel, by decide +kernel⟩
def c_Plan___init__ : DC := fun ds _ _ Q => ∃ (office : Str) (R S T : D) (rs : List Road) (ra la : List Row), ds = [.str office, R, S, T] ∧ TreeOk office rs ∧ Forms roadL rs R ∧ Forms rowL ra S ∧ Forms rowL la T ∧ (∀ r ∈ ra, (∃ x ∈ rs, x.1 = r.1) ∧ 0 ≤ r.2.1 ∧ r.2.1 ≤ 10 ^ 6 ∧ 0 < r.2.2 ∧ r.2.2 ≤ 10 ^ 6) ∧ (∀ r ∈ la, (∃ x ∈ rs, x.1 = r.1) ∧ 0 ≤ r.2.1 ∧ r.2.1 ≤ 10 ^ 6 ∧ 0 ≤ r.2.2 ∧ r.2.2 ≤ 10 ^ 6) ∧ ra.length ≤ 1000 ∧ la.length ≤ 1000 ∧ ∀ f, Q ⟨(PV.mk office rs (sortT ra) (sortT la)).o, f, none⟩
theorem ok_Plan___init__ (T : Txt K mg) : FnM P w K mg base 5 T.f_Plan___init__.f T.f_Plan___init__.fd ["self", "office", "roads", "riders", "letters"] 0 c_Plan___init__ := by
  refine fnM_ok T.f_Plan___init__.ok sc_Plan___init__ fun cdv A outer s H E hr => ⟨_, _, (dss_cons (ds_if [] (dt_not (dt_val (de_call ((ok_is_name T).mono (by decide)) hr (by rfl) T.f_is_name.g T.f_is_name.ok.kp T.f_is_name.b (passE (takes_of rfl rfl rfl rfl)) rfl (da_cons (de_var (pv 1)) da_nil)))) (dss_one ds_never) dss_nil)
      (dss_cons (ds_asg [] (de_call ((ok_first_bad_road T).mono (by decide)) hr (by rfl) T.f_first_bad_road.g T.f_first_bad_road.ok.kp T.f_first_bad_road.b (passE (takes_of rfl rfl rfl rfl)) rfl (da_cons (de_var (pv 1)) (da_cons (de_var (pv 2)) da_nil))) (dg_name (pg_name (i := 5) sc_Plan___init__.nd rfl (Or.inl rfl))) (fun _ _ a b => ps_asg a b))
      (dss_cons (ds_if [] (dt_cmp dop_notN (de_var (pv 5)) de_non (nomark _)) (dss_one ds_never) dss_nil)
      (dss_cons (ds_ost [] T.clP (de_var (pv 1)) (pv 0) (by decide +kernel))
      (dss_cons (ds_ost [] T.clP (DN.de (dn_dc (own := [("post", 6), ("other", 7), ("hours", 8)]) rfl sc_Plan___init__.nd (di_seq (de_var (pv 2))) (blkOk_by (N := ["self", "office", "roads", "riders", "letters", "wrong", "post", "other", "hours", "rider", "letter"]) (sc := defScope s_Plan___init__) (by decide +kernel)) (fun _ _ _ _ _ => (dg_tup (n := 3) rfl (dgs_cons (dg_name (pg_name (i := 6) sc_Plan___init__.nd rfl (Or.inl rfl))) (dgs_cons (dg_name (pg_name (i := 7) sc_Plan___init__.nd rfl (Or.inl rfl))) (dgs_cons (dg_name (pg_name (i := 8) sc_Plan___init__.nd rfl (Or.inl rfl))) dgs_nil))))) (fun _ _ _ _ _ => dts_nil) (fun _ _ _ _ _ => (de_var (pv 6))) (fun _ _ _ _ _ => (de_tup (da_cons (de_var (pv 7)) (da_cons (de_var (pv 8)) da_nil)))) (by decide))) (pv 0) (by decide +kernel))
      (dss_cons (ds_asg [0] (de_call ((ok_first_bad T).mono (by decide)) hr (by rfl) T.f_first_bad.g T.f_first_bad.ok.kp T.f_first_bad.b (passE (takes_of rfl rfl rfl rfl)) rfl (da_cons (de_var (pv 3)) (da_cons (de_bnd (m := "is_rider") (g := T.f_Plan_is_rider.f) ⟨T.bmR, T.clP.cls⟩ (de_var (pv 0))) da_nil))) (dg_name (pg_name (i := 5) sc_Plan___init__.nd rfl (Or.inl rfl))) (fun _ _ a b => ps_asg a b))
      (dss_cons (ds_if [] (dt_cmp dop_notN (de_var (pv 5)) de_non (nomark _)) (dss_one ds_never) dss_nil)
      (dss_cons (ds_asg [0] (de_call ((okL_first_bad T).mono (by decide)) hr (by rfl) T.f_first_bad.g T.f_first_bad.ok.kp T.f_first_bad.b (passE (takes_of rfl rfl rfl rfl)) rfl (da_cons (de_var (pv 4)) (da_cons (de_bnd (m := "is_letter") (g := T.f_Plan_is_letter.f) ⟨T.bmL, T.clP.cls⟩ (de_var (pv 0))) da_nil))) (dg_name (pg_name (i := 5) sc_Plan___init__.nd rfl (Or.inl rfl))) (fun _ _ a b => ps_asg a b))
      (dss_cons (ds_if [] (dt_cmp dop_notN (de_var (pv 5)) de_non (nomark _)) (dss_one ds_never) dss_nil)
      (dss_cons (ds_ost [] T.clP (de_callB (dcl_sortedD (hr.mono (by decide))) (by rfl) T.n_sorted (by decide +kernel) (da_cons (DN.de (dn_lc (own := [("rider", 9)]) rfl sc_Plan___init__.nd (di_seq (de_var (pv 3))) (blkOk_by (N := ["self", "office", "roads", "riders", "letters", "wrong", "post", "other", "hours", "rider", "letter"]) (sc := defScope s_Plan___init__) (by decide +kernel)) (fun _ _ _ _ _ => (dg_name (pg_name (i := 9) sc_Plan___init__.nd rfl (Or.inl rfl)))) (fun _ _ _ _ _ => dts_nil) (fun _ _ _ _ _ => (de_callTy dcl_tuple (by rfl) T.n_tuple (by decide +kernel) (da_cons (de_var (pv 9)) da_nil))) (by decide))) da_nil)) (pv 0) (by decide +kernel))
      (dss_cons (ds_ost [] T.clP (de_callB (dcl_sortedD (hr.mono (by decide))) (by rfl) T.n_sorted (by decide +kernel) (da_cons (DN.de (dn_lc (own := [("letter", 10)]) rfl sc_Plan___init__.nd (di_seq (de_var (pv 4))) (blkOk_by (N := ["self", "office", "roads", "riders", "letters", "wrong", "post", "other", "hours", "rider", "letter"]) (sc := defScope s_Plan___init__) (by decide +kernel)) (fun _ _ _ _ _ => (dg_name (pg_name (i := 10) sc_Plan___init__.nd rfl (Or.inl rfl)))) (fun _ _ _ _ _ => dts_nil) (fun _ _ _ _ _ => (de_callTy dcl_tuple (by rfl) T.n_tuple (by decide +kernel) (da_cons (de_var (pv 10)) da_nil))) (by decide))) da_nil)) (pv 0) (by decide +kernel))
      (dss_behind (i := 0) (ip := 6) rfl sc_Plan___init__.nd hr.units T.clP (passes_of rfl) (pv 0) (pv 0) (di_seq (DN.de (dn_lst (da_cons (de_var (pv 1)) (da_starD rfl (de_fldO (clT_of T.clP) (pv 0)) da_nil))))) (blkOk_by (N := ["self", "office", "roads", "riders", "letters", "wrong", "post", "other", "hours", "rider", "letter"]) (sc := defScope s_Plan___init__) (own := [("post", 6)]) (by decide +kernel)) (fun _ _ _ _ _ => pg_name (i := 6) sc_Plan___init__.nd rfl (Or.inl rfl)) (fun _ _ _ _ _ => pv 6) (di_seq (de_callB (dcl_sortedK rfl) (by rfl) T.n_sorted (by decide +kernel) (da_cons (de_fldO (clT_of T.clP) (pv 0)) da_nil))) (pg_name (i := 6) sc_Plan___init__.nd rfl (Or.inl rfl)) (de_ix (de_dget hr.units (de_fldO (clT_of T.clP) (pv 0)) (de_var (pv 6)) (fun _ _ => rfl)) de_int (fun _ _ => rfl)) (fun _ _ => rfl) (fun _ a => pss_one (ps_expr (pe_bm PySem.F.plainAttrs_list PySem.F.slot_list_append PySem.F.type_list_append mt_append a (pa_cons (pv 6) pa_nil)))))))))))))))), by decide +kernel, fun aP ds vs XQ Q hd hv h => ?_⟩
  obtain ⟨office, R, S, T', rs, ra, la, rfl, ht, hR, hS, hT, hra, hla, lra, lla, q⟩ := h
  match vs, hv with
  | [v, v2, v3, v4], _ =>
  try simp only [frz, params, setAll, List.zipWith, List.length_cons, List.length_nil, Nat.reduceAdd, Nat.reduceSub, List.replicate, List.append_nil, List.cons_append, List.nil_append, getV_va, Pt.sl, true_and, List.getElem?_cons_zero, List.getElem?_cons_succ, List.set_cons_zero, List.set_cons_succ, ite_self, Bool.false_eq_true, if_false, if_true]
  refine gCall_of fun _ => ⟨office, rfl, ht.o, ?_⟩
  refine ⟨true, rfl, ?_⟩
  rw [if_neg (by decide)]
  refine gCall_of fun _ => ⟨office, R, rs, rfl, ht.o, ht.r, ht.l, hR, ?_⟩
  refine ⟨⟨false, rfl, ?_⟩, fun v z => nomatch z⟩
  rw [if_neg (by decide)]
  refine ⟨aP, 1, 2, [], true, rfl, by decide, by decide, rfl, ?_⟩
  obtain ⟨t1, t2⟩ := ht.facts
  have hl8 := ht.l
  obtain ⟨gR, ysR, eR, prR⟩ := hR
  have hlR : ysR.length = rs.length := (Paired.length prR).symm
  rw [items_seq eR]
  refine ⟨by rw [List.length_map]; show _ ≤ 16777216; omega, ?_⟩
  obtain ⟨hKD, hK⟩ := road_rows (n := Dv.fr ⟨R, R.imm, some v2⟩) prR
  refine dc_mapS roadK roadV _ [] true (by rw [hK]; exact t2) (fun x hx K K0 kk => ?_) fun mm => ?_
  · obtain ⟨y, hy, rfl⟩ := List.mem_map.mp hx
    obtain ⟨r, hr, er, gr⟩ := paired_mem prR hy
    try simp only [lcStep, true_and, wipeR, List.map_cons, List.map_nil, List.set_cons_succ, List.set_cons_zero, List.getElem?_cons_succ, List.getElem?_cons_zero, getV_va, if_true]
    rw [unp_seq er]
    refine ⟨rfl, ?_⟩
    simp only [roadL, List.map_cons, List.map_nil]
    try simp only [frz, params, setAll, List.zipWith, List.length_cons, List.length_nil, Nat.reduceAdd, Nat.reduceSub, List.replicate, List.append_nil, List.cons_append, List.nil_append, getV_va, Pt.sl, true_and, List.getElem?_cons_zero, List.getElem?_cons_succ, List.set_cons_zero, List.set_cons_succ, ite_self, Bool.false_eq_true, if_false, if_true]
    have e1 : roadK ⟨y, Dv.fr ⟨R, R.imm, some v2⟩, none⟩ = r.1 := by unfold roadK; rw [er]; rfl
    have e2 : roadV ⟨y, Dv.fr ⟨R, R.imm, some v2⟩, none⟩ = .tup [.str r.2.1, .int r.2.2] := by unfold roadV; rw [er]; rfl
    refine ⟨.inr r.1, rfl, by decide, ?_⟩
    rw [e1, e2] at kk
    exact kk _
  rw [hKD, List.nil_append]
  refine ⟨aP, 2, 3, _, _, rfl, by decide, by decide, rfl, ?_⟩
  refine ⟨_, _, rfl, by rw [pk_mod (by decide)]; decide, by rw [objN_pk (by decide)]; decide +kernel, ?_⟩
  have hany : ∀ {x : Str}, (∃ r ∈ rs, r.1 = x) → ((rs.map roadKD).any fun p => decide (p.1 = x)) = true := fun {x} ⟨r, hr, e⟩ => List.any_eq_true.mpr ⟨_, List.mem_map.mpr ⟨r, hr, rfl⟩, decide_eq_true e⟩
  refine gCall_of fun _ => ⟨S, pk aP 3, _, rs.map roadKD, 1, ra, rfl, by rw [objN_pk (by decide)]; rfl, rfl, hS, fun r hr => ?_, ?_⟩
  · obtain ⟨h1, h2, _, h3, _⟩ := hra r hr
    exact ⟨hany h1, h2, h3⟩
  try simp only [D.sca, frz, params, setAll, List.zipWith, List.length_cons, List.length_nil, Nat.reduceAdd, Nat.reduceSub, List.replicate, List.append_nil, List.cons_append, List.nil_append, getV_va, Pt.sl, true_and, List.getElem?_cons_zero, List.getElem?_cons_succ, List.set_cons_zero, List.set_cons_succ, ite_self, Bool.false_eq_true, if_false, if_true]
  refine ⟨⟨false, rfl, ?_⟩, fun v z => nomatch z⟩
  rw [if_neg (by decide)]
  refine ⟨_, _, rfl, by rw [pk_mod (by decide)]; decide, by rw [objN_pk (by decide)]; decide +kernel, ?_⟩
  refine gCall_of fun _ => ⟨T', pk aP 3, _, rs.map roadKD, 1, la, rfl, by rw [objN_pk (by decide)]; rfl, rfl, hT, fun r hr => ?_, ?_⟩
  · obtain ⟨h1, h2, _, h3, _⟩ := hla r hr
    exact ⟨hany h1, h2, h3⟩
  try simp only [D.sca, frz, params, setAll, List.zipWith, List.length_cons, List.length_nil, Nat.reduceAdd, Nat.reduceSub, List.replicate, List.append_nil, List.cons_append, List.nil_append, getV_va, Pt.sl, true_and, List.getElem?_cons_zero, List.getElem?_cons_succ, List.set_cons_zero, List.set_cons_succ, ite_self, Bool.false_eq_true, if_false, if_true]
  refine ⟨⟨false, rfl, ?_⟩, fun v z => nomatch z⟩
  rw [if_neg (by decide)]
  obtain ⟨gS, ysS, eS, prS⟩ := hS
  have hlS : ysS.length = ra.length := (Paired.length prS).symm
  rw [items_seq eS]
  refine ⟨by rw [List.length_map]; show _ ≤ 16777216; omega, ?_⟩
  refine lc_mapA (g := tupD) (fun d hd K1 K0 kk => ?_) fun mS => ?_
  · obtain ⟨r, hr, er, gr⟩ := paired_mem prS hd
    try simp only [lcStep, true_and, wipeR, List.map_cons, List.map_nil, List.set_cons_succ, List.set_cons_zero, List.getElem?_cons_succ, List.getElem?_cons_zero, getV_va, if_true]
    try simp only [frz, params, setAll, List.zipWith, List.length_cons, List.length_nil, Nat.reduceAdd, Nat.reduceSub, List.replicate, List.append_nil, List.cons_append, List.nil_append, getV_va, Pt.sl, true_and, List.getElem?_cons_zero, List.getElem?_cons_succ, List.set_cons_zero, List.set_cons_succ, ite_self, Bool.false_eq_true, if_false, if_true]
    refine g1_tup er ?_
    have e : tupD d = .tup (rowL r) := by unfold tupD; rw [er]; rfl
    rw [e] at kk
    exact kk _ _
  rw [rows_tup prS, g1_of]
  refine ⟨_, rfl, canSort_row (n := 10 ^ 6) (by decide) fun r hr => ?_, ?_⟩
  · obtain ⟨⟨x, hx, ex⟩, b1, b2, b3, b4⟩ := hra r hr
    exact ⟨ex ▸ (t1 x hx).1, by omega, by omega⟩
  rw [srt_rows]
  refine ⟨aP, 3, 4, _, _, rfl, by decide, by decide, rfl, ?_⟩
  obtain ⟨gT, ysT, eT, prT⟩ := hT
  have hlT : ysT.length = la.length := (Paired.length prT).symm
  rw [items_seq eT]
  refine ⟨by rw [List.length_map]; show _ ≤ 16777216; omega, ?_⟩
  refine lc_mapA (g := tupD) (fun d hd K1 K0 kk => ?_) fun mT => ?_
  · obtain ⟨r, hr, er, gr⟩ := paired_mem prT hd
    try simp only [lcStep, true_and, wipeR, List.map_cons, List.map_nil, List.set_cons_succ, List.set_cons_zero, List.getElem?_cons_succ, List.getElem?_cons_zero, getV_va, if_true]
    try simp only [frz, params, setAll, List.zipWith, List.length_cons, List.length_nil, Nat.reduceAdd, Nat.reduceSub, List.replicate, List.append_nil, List.cons_append, List.nil_append, getV_va, Pt.sl, true_and, List.getElem?_cons_zero, List.getElem?_cons_succ, List.set_cons_zero, List.set_cons_succ, ite_self, Bool.false_eq_true, if_false, if_true]
    refine g1_tup er ?_
    have e : tupD d = .tup (rowL r) := by unfold tupD; rw [er]; rfl
    rw [e] at kk
    exact kk _ _
  rw [rows_tup prT, g1_of]
  refine ⟨_, rfl, canSort_row (n := 10 ^ 6) (by decide) fun r hr => ?_, ?_⟩
  · obtain ⟨⟨x, hx, ex⟩, b1, b2, b3, b4⟩ := hla r hr
    exact ⟨ex ▸ (t1 x hx).1, by omega, by omega⟩
  rw [srt_rows]
  refine ⟨aP, 4, 5, _, _, rfl, by decide, by decide, rfl, ?_⟩
  refine ⟨by decide, by decide, aP, _, _, _, _, _, rfl, fun j d n hj => ?_, ?_⟩
  · match j, hj with
    | 0, _ => rfl
    | 1, hj => simp at hj
    | 2, hj => simp at hj
    | 3, hj => simp at hj
    | 4, hj => simp at hj
    | 5, hj => simp at hj
    | 6, hj => simp at hj
    | 7, hj => simp at hj
    | 8, hj => simp at hj
    | 9, hj => simp at hj
    | 10, hj => simp at hj
    | j + 11, hj => simp at hj
  refine ⟨pk aP 5, _, _, 1, _, rfl, by rw [objN_pk (by decide)]; rfl, rfl, rs.map roadKD, rfl, by rw [List.length_map, List.length_map]; omega, ?_⟩
  refine items_strs (ks := office :: rs.map (·.1)) ?_ fun f1 => ⟨_, f1, rfl, ?_, ?_, fun b => ?_⟩
  · rw [List.map_cons, List.map_cons, List.map_map, List.map_map, List.map_map]
    rfl
  · refine List.nodup_cons.mpr ⟨fun z => ?_, t2⟩
    obtain ⟨r, hr, e⟩ := List.mem_map.mp z
    exact (t1 r hr).2.2.2.2 (by rw [e]; simp)
  · rw [List.length_cons, List.length_map]
    show _ < 16777216
    omega
  refine ⟨pk aP 0, _, _, 1, _, rfl, by rw [objN_pk (by decide)]; rfl, rfl, ?_⟩
  rw [g1_of]
  refine ⟨rs.map roadKD, rfl, by rw [List.length_map]; omega, ?_⟩
  obtain ⟨zs, hzs, pzs⟩ := srt_names (rs.map (·.1))
  have hzs2 : srtD ((rs.map roadKD).map fun p => .str p.1) = zs.map D.str := by
    rw [← hzs, List.map_map, List.map_map]
    rfl
  refine items_strs hzs2 fun f2 => ⟨zs, f2, rfl, ?_, parF rs, fun z hz => ?_, ?_⟩
  · rw [pzs.length_eq, List.length_map]
    show _ < 16777216
    omega
  · obtain ⟨r, hr, e⟩ := List.mem_map.mp (pzs.mem_iff.mp hz)
    subst e
    rw [parF_at t2 hr]
    refine ⟨?_, ?_⟩
    · rcases List.getElem?_of_mem hr with ⟨j, hj⟩
      rcases (ht.r.at hj).1 with h | ⟨s, hs, h⟩
      · rw [List.mem_singleton] at h
        rw [h]
        exact List.mem_cons_self
      · exact List.mem_cons_of_mem _ (List.mem_map.mpr ⟨s, List.mem_of_mem_take hs, h⟩)
    · refine ⟨pk aP 0, _, _, 1, _, rfl, by rw [objN_pk (by decide)]; rfl, rfl, ?_⟩
      refine ⟨_, .inr r.1, _, rfl, rfl, road_get t2 hr, ?_⟩
      dsimp only
      rw [gIx_of rfl (show atI [D.str r.2.1, .int r.2.2] 0 = some (.str r.2.1) from rfl)]
  refine ⟨_, _, rfl, ?_⟩
  have e1 : strK (rs.map roadKD) = roadsD ⟨office, rs, sortT ra, sortT la⟩ := by
    unfold strK roadsD
    rw [List.map_map]
    rfl
  have e2 : D.dct ((office :: rs.map (·.1)).map fun k => (.str k, .lst ((zs.filter fun z => parF rs z == k).map D.str))) = behindD ⟨office, rs, sortT ra, sortT la⟩ := by
    unfold behindD
    congr 1
    refine List.map_congr_left fun k _ => ?_
    rw [behind_eq (p := ⟨office, rs, sortT ra, sortT la⟩) t2 hzs pzs k]
  rw [e1, e2]
  exact q _

end
theorem PlanOk.re {p : PV} (h : PlanOk p) {rs : List Road} (hr : RoadsOk [p.office] rs) (pr : rs.Perm p.roads) : PlanOk (p.re rs) :=
  ⟨⟨h.t.o, hr, fun e => h.t.ne (by have e : rs = [] := e; rw [e] at pr; exact List.nil_perm.mp pr), by rw [show (p.re rs).roads = rs from rfl, pr.length_eq]; exact h.t.l⟩, h.ro, h.lo, fun r hr => let ⟨x, hx, e⟩ := h.rp r hr; ⟨x, pr.mem_iff.mpr hx, e⟩, fun r hr => let ⟨x, hx, e⟩ := h.lp r hr; ⟨x, pr.mem_iff.mpr hx, e⟩, h.rb, h.lb, h.rl, h.ll⟩
theorem nic_row {r : Row} (h : NmOk r.1) (h1 : r.2.1.natAbs ≤ 10 ^ 30) (h2 : r.2.2.natAbs ≤ 10 ^ 30) : Nic 1 (3 * 1923 + 3) (rowD r) := .tup (l := 3) (by simp) (by decide) fun x hx => by
  simp only [List.mem_cons, List.not_mem_nil, or_false] at hx
  rcases hx with rfl | rfl | rfl
  · exact .str (nm_ok h) (Nat.le_trans h.l5 (by decide))
  · exact .int h1
  · exact .int h2
theorem nic_road {r : Road} (h : NmOk r.1) (h1 : NmOk r.2.1) (h2 : r.2.2.natAbs ≤ 10 ^ 30) : Nic 1 (3 * 1923 + 3) (roadD r) := .tup (l := 3) (by simp) (by decide) fun x hx => by
  simp only [List.mem_cons, List.not_mem_nil, or_false] at hx
  rcases hx with rfl | rfl | rfl
  · exact .str (nm_ok h) (Nat.le_trans h.l5 (by decide))
  · exact .str (nm_ok h1) (Nat.le_trans h1.l5 (by decide))
  · exact .int h2
theorem perm_rows {l : List Row} {ys : List D} (h : ys.Perm (l.map rowD)) : ∃ m : List Row, ys = m.map rowD ∧ m.Perm l := by
  have key : ∀ y ∈ ys, ∃ r : Row, y = rowD r := fun y hy => let ⟨r, _, e⟩ := List.mem_map.mp (h.mem_iff.mp hy); ⟨r, e.symm⟩
  have ex : ∃ m : List Row, ys = m.map rowD := by
    clear h
    induction ys with
    | nil => exact ⟨[], rfl⟩
    | cons y ys ih =>
      obtain ⟨r, e⟩ := key y (by simp)
      obtain ⟨m, em⟩ := ih fun z hz => key z (by simp [hz])
      exact ⟨r :: m, by rw [e, em]; rfl⟩
  obtain ⟨m, rfl⟩ := ex
  refine ⟨m, rfl, ?_⟩
  let un : D → Row := fun d => match d with
    | .tup [.str a, .int i, .int j] => (a, i, j)
    | _ => ("", 0, 0)
  have := h.map un
  rw [List.map_map, List.map_map] at this
  have e : ∀ l : List Row, l.map (un ∘ rowD) = l := fun l => (List.map_congr_left (g := id) fun _ _ => rfl).trans (List.map_id _)
  rwa [e, e] at this
theorem seq_row (r : Row) : (rowD r).seq = some (rowL r) := rfl
theorem seq_road (r : Road) : (roadD r).seq = some (roadL r) := rfl

section
variable {P : Program} {w : World} {K : PySem.W.Frag} {mg : Str → Option Value} {base : Heap}
theorem sc__law_made_of : FnScope ["stream", "plan", "parts", "handed", "part"] ["stream", "plan"] (defScope s__law_made_of) := ⟨rfl, rfl, rfl, by decide +kernel, rfl, by decide +kernel, by decide +kernel⟩
def c__law_made_of : DC := fun ds _ _ Q => ∃ p : PV, ds = [.strm, p.d] ∧ PlanOk p ∧ ∀ rs : List Road, PlanOk (p.re rs) → rs.Perm p.roads → ∀ f, Q ⟨(p.re rs).o, f, none⟩
theorem ok__law_made_of (T : Txt K mg) : FnD P w K mg base 10 T.f__law_made_of.f T.f__law_made_of.fd ["stream", "plan"] (BIG ^ 12) c__law_made_of := by
  refine fn_ok T.f__law_made_of.ok sc__law_made_of fun cdv A outer s H E hr => ⟨_, _, (dss_cons (ds_asg [] (de_lst (da_cons (de_call ((ok__law_turned T).mono (by decide)) hr (by rfl) T.f__law_turned.g T.f__law_turned.ok.kp T.f__law_turned.b (passE (takes_of rfl rfl rfl rfl)) rfl (da_cons (de_var (pv 0)) (da_cons (de_var (pv 1)) da_nil))) (da_cons (de_call ((ok__law_mixed T).mono (by decide)) hr (by rfl) T.f__law_mixed.g T.f__law_mixed.ok.kp T.f__law_mixed.b (passE (takes_of rfl rfl rfl rfl)) rfl (da_cons (de_var (pv 0)) (da_cons (de_ix (de_var (pv 1)) de_int (fun _ _ => rfl)) da_nil))) (da_cons (de_call ((ok__law_mixed T).mono (by decide)) hr (by rfl) T.f__law_mixed.g T.f__law_mixed.ok.kp T.f__law_mixed.b (passE (takes_of rfl rfl rfl rfl)) rfl (da_cons (de_var (pv 0)) (da_cons (de_ix (de_var (pv 1)) de_int (fun _ _ => rfl)) da_nil))) da_nil)))) (dg_name (pg_name (i := 2) sc__law_made_of.nd rfl (Or.inl rfl))) (fun _ _ a b => ps_asg a b))
      (dss_cons (ds_setLc (i := 3) (own := [("part", 4)]) [] rfl sc__law_made_of.nd rfl rfl (sw_true rfl rfl rfl (by decide +kernel)) (di_seq (de_var (pv 2))) (blkOk_by (N := ["stream", "plan", "parts", "handed", "part"]) (sc := defScope s__law_made_of) (by decide +kernel)) (fun _ _ _ _ _ => (dg_name (pg_name (i := 4) sc__law_made_of.nd rfl (Or.inl rfl)))) (fun _ _ _ _ _ => dts_nil) (fun _ _ _ _ _ => (de_call ((ok__law_loose T 7).mono (by decide)) hr (by rfl) T.f__law_loose.g T.f__law_loose.ok.kp T.f__law_loose.b passL rfl (da_cons (de_var (pv 0)) (da_cons (de_var (pv 4)) da_nil)))) (by decide))
      (dss_one (ds_ret [] (de_make T.mkP ((ok_Plan___init__ T).mono (by decide)) hr (by rfl) T.g_Plan T.f_Plan___init__.b (passE (takes_of rfl rfl rfl rfl)) rfl (da_cons (de_ix (de_var (pv 1)) de_int (fun _ _ => rfl)) (da_cons (de_ix (de_var (pv 3)) de_int (fun _ _ => rfl)) (da_cons (de_ix (de_var (pv 3)) de_int (fun _ _ => rfl)) (da_cons (de_ix (de_var (pv 3)) de_int (fun _ _ => rfl)) da_nil))))))))), by decide +kernel, fun ds vs XQ Q hd hv h => ?_⟩
  obtain ⟨p, rfl, hp, q⟩ := h
  match vs, hv with
  | [v, v2], _ =>
  try simp only [frz, params, setAll, List.zipWith, List.length_cons, List.length_nil, Nat.reduceAdd, Nat.reduceSub, List.replicate, List.append_nil, List.cons_append, List.nil_append, getV_va, Pt.sl, true_and, List.getElem?_cons_zero, List.getElem?_cons_succ, List.set_cons_zero, List.set_cons_succ, ite_self, Bool.false_eq_true, if_false, if_true]
  refine gCall_of fun _ => ⟨p, rfl, hp.t, fun rs hrs prs f => ?_⟩
  have h2 := hp.rl
  have h3 := hp.ll
  have hl8 := hp.t.l
  have hrl : rs.length ≤ 8 := by rw [prs.length_eq]; exact hl8
  obtain ⟨t1, t2⟩ := (hp.re hrs prs).t.facts
  dsimp only
  rw [gIx_of (PV.seq p) (PV.at2 p)]
  refine gCall_of fun _ => ⟨_, p.riders.map rowD, rfl, rfl, by rw [List.length_map]; omega, fun ys f1 py => ?_⟩
  obtain ⟨ra, rfl, pra⟩ := perm_rows py
  dsimp only
  rw [gIx_of (PV.seq p) (PV.at3 p)]
  refine gCall_of fun _ => ⟨_, p.letters.map rowD, rfl, rfl, by rw [List.length_map]; omega, fun ys f2 py => ?_⟩
  obtain ⟨la, rfl, pla⟩ := perm_rows py
  refine ⟨by decide, ?_⟩
  rw [items_seq rfl]
  have n1 : Nic 2 (100 * (3 * 1923 + 3 + 2) + 3) (.lst (rs.map roadD)) := .lst (by rw [List.length_map]; omega) (by decide) fun x hx => by
    obtain ⟨r, hr, rfl⟩ := List.mem_map.mp hx
    obtain ⟨q1, q2, q3, q4, _⟩ := t1 r hr
    exact nic_road q1 q2 (by omega)
  have n2 : Nic 2 (100 * (3 * 1923 + 3 + 2) + 3) (.lst (ra.map rowD)) := .lst (by rw [List.length_map, pra.length_eq]; omega) (by decide) fun x hx => by
    obtain ⟨r, hr, rfl⟩ := List.mem_map.mp hx
    have hr' := pra.mem_iff.mp hr
    obtain ⟨x, hx, ex⟩ := (hp.re hrs prs).rp r hr'
    obtain ⟨b1, b2, b3, b4⟩ := hp.rb r hr'
    exact nic_row (ex ▸ (t1 x hx).1) (by omega) (by omega)
  have n3 : Nic 2 (100 * (3 * 1923 + 3 + 2) + 3) (.lst (la.map rowD)) := .lst (by rw [List.length_map, pla.length_eq]; omega) (by decide) fun x hx => by
    obtain ⟨r, hr, rfl⟩ := List.mem_map.mp hx
    have hr' := pla.mem_iff.mp hr
    obtain ⟨x, hx, ex⟩ := (hp.re hrs prs).lp r hr'
    obtain ⟨b1, b2, b3, b4⟩ := hp.lb r hr'
    exact nic_row (ex ▸ (t1 x hx).1) (by omega) (by omega)
  refine ⟨by show 3 ≤ 16777216; decide, ?_⟩
  refine lc_rel0 (fun x d => Loose x.d d) (fun y hy K1 K0 kk => ?_) fun ys m hps => ?_
  · have ny : Nic 2 (100 * (3 * 1923 + 3 + 2) + 3) y.d := by
      simp only [List.map_cons, List.map_nil, List.mem_cons, List.not_mem_nil, or_false] at hy
      rcases hy with rfl | rfl | rfl
      · exact n1
      · exact n2
      · exact n3
    obtain ⟨g1, _, _, g4, _⟩ := ny.all
    try simp only [lcStep, true_and, wipeR, List.map_cons, List.map_nil, List.set_cons_succ, List.set_cons_zero, List.getElem?_cons_succ, List.getElem?_cons_zero, getV_va, if_true]
    try simp only [frz, params, setAll, List.zipWith, List.length_cons, List.length_nil, Nat.reduceAdd, Nat.reduceSub, List.replicate, List.append_nil, List.cons_append, List.nil_append, getV_va, Pt.sl, true_and, List.getElem?_cons_zero, List.getElem?_cons_succ, List.set_cons_zero, List.set_cons_succ, ite_self, Bool.false_eq_true, if_false, if_true]
    refine gCall_of fun _ => ⟨y.d, rfl, g1, by omega, fun z fz lz => kk _ _ _ lz⟩
  cases hps with | cons l1 hps =>
  cases hps with | cons l2 hps =>
  cases hps with | cons l3 hps =>
  cases hps
  rename_i a b c
  have l1 : Loose (.lst (rs.map roadD)) a := l1
  have l2 : Loose (.lst (ra.map rowD)) b := l2
  have l3 : Loose (.lst (la.map rowD)) c := l3
  rw [gIx_of (PV.seq p) (show atI [D.str p.office, .lst (p.roads.map roadD), .lst (p.riders.map rowD), .lst (p.letters.map rowD)] 0 = some (.str p.office) from rfl)]
  rw [gIx_of rfl (show atI [a, b, c] 0 = some a from rfl), gIx_of rfl (show atI [a, b, c] 1 = some b from rfl), gIx_of rfl (show atI [a, b, c] 2 = some c from rfl)]
  refine gCall_of fun _ => ⟨p.office, a, b, c, rs, ra, la, rfl, (hp.re hrs prs).t, forms_of l1 (Nic.loose n1 l1).all.1 seq_road roadL_flat, forms_of l2 (Nic.loose n2 l2).all.1 seq_row rowL_flat, forms_of l3 (Nic.loose n3 l3).all.1 seq_row rowL_flat, fun r hr => ?_, fun r hr => ?_, by rw [pra.length_eq]; omega, by rw [pla.length_eq]; omega, fun ff => ?_⟩
  · have hr' := pra.mem_iff.mp hr
    obtain ⟨b1, b2, b3, b4⟩ := hp.rb r hr'
    exact ⟨(hp.re hrs prs).rp r hr', b1, by omega, by omega, by omega⟩
  · have hr' := pla.mem_iff.mp hr
    obtain ⟨b1, b2, b3, b4⟩ := hp.lb r hr'
    exact ⟨(hp.re hrs prs).lp r hr', b1, by omega, by omega, by omega⟩
  rw [sortT_of_perm pra hp.ro, sortT_of_perm pla hp.lo]
  exact q rs (hp.re hrs prs) prs ff

end
end My

set_option Elab.async false
set_option linter.all false
set_option maxRecDepth 100000
set_option maxHeartbeats 4000000
set_option pp.maxSteps 6000
namespace My
open PySem PySem.Spec PyProof.Rows L2 DL
set_option pp.maxSteps 2500
theorem IsEnd.perm {rs l : List Road} {z : Str} (h : IsEnd l z) (p : rs.Perm l) : IsEnd rs z := ⟨let ⟨r, hr, e⟩ := h.1; ⟨r, p.mem_iff.mpr hr, e⟩, fun r hr => h.2 r (p.mem_iff.mp hr)⟩
theorem PlanOk.nic {p : PV} (hp : PlanOk p) : Nic 3 (4 * (100 * (3 * 1923 + 3 + 2) + 3 + 2) + 3) p.d := by
  have h2 := hp.rl
  have h3 := hp.ll
  have hl8 := hp.t.l
  obtain ⟨t1, t2⟩ := hp.t.facts
  refine .tup (l := 4) (by simp) (by decide) fun x hx => ?_
  simp only [List.mem_cons, List.not_mem_nil, or_false] at hx
  rcases hx with rfl | rfl | rfl | rfl
  · exact .mono (.str (nm_ok hp.t.o) (Nat.le_trans hp.t.o.l5 (by decide))) (by decide) (by decide)
  · exact .lst (by rw [List.length_map]; omega) (by decide) fun x hx => by
      obtain ⟨r, hr, rfl⟩ := List.mem_map.mp hx
      obtain ⟨q1, q2, q3, q4, _⟩ := t1 r hr
      exact nic_road q1 q2 (by omega)
  · exact .lst (by rw [List.length_map]; omega) (by decide) fun x hx => by
      obtain ⟨r, hr, rfl⟩ := List.mem_map.mp hx
      obtain ⟨x, hx, ex⟩ := hp.rp r hr
      obtain ⟨b1, b2, b3, b4⟩ := hp.rb r hr
      exact nic_row (ex ▸ (t1 x hx).1) (by omega) (by omega)
  · exact .lst (by rw [List.length_map]; omega) (by decide) fun x hx => by
      obtain ⟨r, hr, rfl⟩ := List.mem_map.mp hx
      obtain ⟨x, hx, ex⟩ := hp.lp r hr
      obtain ⟨b1, b2, b3, b4⟩ := hp.lb r hr
      exact nic_row (ex ▸ (t1 x hx).1) (by omega) (by omega)
section
variable {P : Program} {w : World} {K : PySem.W.Frag} {mg : Str → Option Value} {base : Heap}
theorem sc__law_stream : FnScope ["script"] ["script"] (defScope s__law_stream) := ⟨rfl, rfl, rfl, by decide +kernel, rfl, by decide +kernel, by decide +kernel⟩
theorem ok__law_stream (T : Txt K mg) : FnOk P w K mg base (L2.CX P w) 1 T.f__law_stream.f T.f__law_stream.fd ["script"] (spLayS K) :=
  T.f__law_stream.ok.ok sc__law_stream (fun vs H Q E h => h.1) (fun cdv A outer s H vs Q E hr h => by
    obtain ⟨hl, a, xs, rfl, ha, l, q⟩ := h
    refine ⟨_, pss_one (ps_ret (pe_lst (pa_cons (pe_callTy call_list_of (by rfl) T.n_list (by decide +kernel) (pa_cons (pv 0) pa_nil)) (pa_cons pe_int (pa_cons pe_int (pa_cons pe_int pa_nil)))))), ?_⟩
    refine ⟨_, rfl, a, xs, rfl, .inl ha, fun p hp => ?_⟩
    refine ⟨by show 4 ≤ sizeLine; rw [sizeLine_eq]; decide, fun r hr => ?_⟩
    exact q p r hp hr)
theorem sc_law : FnScope ["script", "stream", "turn", "many", "plan", "post", "made", "kept"] ["script"] (defScope s_law) := ⟨rfl, rfl, rfl, by decide +kernel, rfl, by decide +kernel, by decide +kernel⟩
def c_law : DC := fun ds vs XQ Q => ∃ a : Addr, ds = [.vee (.ref a)] ∧ vs = [.ref a] ∧ XQ .none "" .non ∧ XQ .none "script" (.ref a) ∧ Q ⟨.bl true, true, none⟩
theorem ok_law (T : Txt K mg) (hsm : ∃ o, K.lookup sysModules = some o) : FnG P w K mg base 11 T.f_law.f T.f_law.fd ["script"] (BIG ^ 16) c_law := by
  refine fnG_ok T.f_law.ok sc_law fun A outer s H E hr hgd => ⟨_, _, (dss_strm (dstrm_script ((ok__law_stream T).mono (by decide)) hr (by rfl) T.f__law_stream.g T.f__law_stream.ok.kp T.f__law_stream.b (passE (takes_of rfl rfl rfl rfl)) rfl (da_cons (de_var (pv 0)) da_nil)) (pg_name (i := 1) sc_law.nd rfl (Or.inl rfl)) (fun _ _ a b => ps_asg a b)
      (dss_cons (ds_for [] (passes_of rfl) rfl (di_range1 (by rfl) T.n_range (da_cons de_int da_nil)) (dg_name (pg_name (i := 2) sc_law.nd rfl (Or.inl rfl)))
      (dss_cons (ds_asg [] (de_call ((ok__law_scene T).mono (by decide)) hr (by rfl) T.f__law_scene.g T.f__law_scene.ok.kp T.f__law_scene.b (passE (takes_of rfl rfl rfl rfl)) rfl (da_cons (de_var (pv 1)) (da_cons de_int (da_cons de_int da_nil)))) (dg_tup (n := 2) rfl (dgs_cons (dg_name (pg_name (i := 4) sc_law.nd rfl (Or.inl rfl))) (dgs_cons (dg_name (pg_name (i := 5) sc_law.nd rfl (Or.inl rfl))) dgs_nil))) (fun _ _ a b => ps_asg a b))
      (dss_cons (ds_par2 (i := 6) (j := 7) [] (dp_va (de_call ((ok__law_made_of T).mono (by decide)) hr (by rfl) T.f__law_made_of.g T.f__law_made_of.ok.kp T.f__law_made_of.b (passE (takes_of rfl rfl rfl rfl)) rfl (da_cons (de_var (pv 1)) (da_cons (de_var (pv 4)) da_nil)))) (dp_va (de_callB (dcl_repr hgd (hr.mono (by decide))) (by rfl) T.n_repr (by decide +kernel) (da_cons (de_var (pv 4)) da_nil))) rfl sc_law.nd rfl rfl (by decide) (by rfl) (by rfl) (by rfl))
      (dss_cons (ds_for [] (passes_of rfl) rfl (di_seq (de_lst (da_cons de_int (da_cons (de_op dop_add de_int (de_call ((ok__law_draw T).mono (by decide)) hr (by rfl) T.f__law_draw.g T.f__law_draw.ok.kp T.f__law_draw.b (passE (takes_of rfl rfl rfl rfl)) rfl (da_cons (de_var (pv 1)) (da_cons de_int da_nil)))) (da_cons de_int da_nil))))) (dg_name (pg_name (i := 3) sc_law.nd rfl (Or.inl rfl)))
      (dss_one (ds_if [] (dt_not (dt_val (de_callG ((ok__law_cuts_right T hsm).mono (by decide)) hr hgd (by rfl) T.f__law_cuts_right.g T.f__law_cuts_right.ok.kp T.f__law_cuts_right.b (passE (takes_of rfl rfl rfl rfl)) rfl (da_cons (de_var (pv 1)) (da_cons (de_var (pv 4)) (da_cons (de_var (pv 6)) (da_cons (de_call ((ok__law_pick T).mono (by decide)) hr (by rfl) T.f__law_pick.g T.f__law_pick.ok.kp T.f__law_pick.b (passE (takes_of rfl rfl rfl rfl)) rfl (da_cons (de_var (pv 1)) (da_cons (de_lst (da_cons (de_var (pv 5)) (da_cons (de_var (pv 5)) (da_cons (de_call ((ok__law_pick T).mono (by decide)) hr (by rfl) T.f__law_pick.g T.f__law_pick.ok.kp T.f__law_pick.b (passE (takes_of rfl rfl rfl rfl)) rfl (da_cons (de_var (pv 1)) (da_cons (de_call ((ok__law_ends T).mono (by decide)) hr (by rfl) T.f__law_ends.g T.f__law_ends.ok.kp T.f__law_ends.b (passE (takes_of rfl rfl rfl rfl)) rfl (da_cons (de_var (pv 4)) da_nil)) da_nil))) da_nil)))) da_nil))) (da_cons (de_var (pv 3)) da_nil)))))))) (dss_one (ds_ret [] de_bl)) dss_nil)))
      (dss_one (ds_if [] (dt_cmp dop_neS (de_callB (dcl_repr hgd (hr.mono (by decide))) (by rfl) T.n_repr (by decide +kernel) (da_cons (de_var (pv 4)) da_nil)) (de_var (pv 7)) (nomark _)) (dss_one (ds_ret [] de_bl)) dss_nil))))))
      (dss_one (ds_ret [] de_bl)))), by decide +kernel, fun ds vs XQ Q hd hv h => ?_⟩
  obtain ⟨a, rfl, rfl, x1, x2, q⟩ := h
  try simp only [frz, params, setAll, List.zipWith, List.length_cons, List.length_nil, Nat.reduceAdd, Nat.reduceSub, List.replicate, List.append_nil, List.cons_append, List.nil_append, getV_va, Pt.sl, true_and, List.getElem?_cons_zero, List.getElem?_cons_succ, List.set_cons_zero, List.set_cons_succ, ite_self, Bool.false_eq_true, if_false, if_true]
  refine ⟨x1, ⟨_, a, rfl, rfl, x2⟩, ?_⟩
  refine ⟨by decide, by decide, .inr (by rw [rgD_len]; decide), ?_⟩
  refine for_idx (fun i ρ => ∃ s2 s3 s4 s5 s6 s7, ρ = [.va ⟨.vee (.ref a), (D.vee (.ref a)).imm, some (.ref a)⟩, .va ⟨.strm, true, none⟩, s2, s3, s4, s5, s6, s7]) _ 0 _ ⟨_, _, _, _, _, _, rfl⟩ (fun i x hx ρ hI K kk => ?_) fun ρ hI => ?_
  · obtain ⟨s2, s3, s4, s5, s6, s7, rfl⟩ := hI
    try simp only [frz, params, setAll, List.zipWith, List.length_cons, List.length_nil, Nat.reduceAdd, Nat.reduceSub, List.replicate, List.append_nil, List.cons_append, List.nil_append, getV_va, Pt.sl, true_and, List.getElem?_cons_zero, List.getElem?_cons_succ, List.set_cons_zero, List.set_cons_succ, ite_self, Bool.false_eq_true, if_false, if_true]
    refine gCall_of fun _ => ⟨8, 10, rfl, by decide, by decide, by decide, by decide, fun p z hp hz f => ?_⟩
    dsimp only
    rw [unp_seq (by rfl)]
    refine ⟨rfl, ?_⟩
    simp only [List.map_cons, List.map_nil]
    try simp only [frz, params, setAll, List.zipWith, List.length_cons, List.length_nil, Nat.reduceAdd, Nat.reduceSub, List.replicate, List.append_nil, List.cons_append, List.nil_append, getV_va, Pt.sl, true_and, List.getElem?_cons_zero, List.getElem?_cons_succ, List.set_cons_zero, List.set_cons_succ, ite_self, Bool.false_eq_true, if_false, if_true]
    have hpn := hp.nic
    refine gCall_of fun _ => ⟨p, rfl, hp, fun rs hp2 prs f2 => ?_⟩
    dsimp only
    have hz2 := hz.perm prs
    rw [g1_of]
    refine gRepr_of hpn (by decide) (by decide) hsm ?_
    try simp only [frz, params, setAll, List.zipWith, List.length_cons, List.length_nil, Nat.reduceAdd, Nat.reduceSub, List.replicate, List.append_nil, List.cons_append, List.nil_append, getV_va, Pt.sl, true_and, List.getElem?_cons_zero, List.getElem?_cons_succ, List.set_cons_zero, List.set_cons_succ, ite_self, Bool.false_eq_true, if_false, if_true]
    refine gDraw (by decide) (by decide) fun k k0 k1 => ?_
    rw [gAdd_int]
    refine ⟨by decide, ?_⟩
    rw [items_seq rfl]
    refine ⟨.inr (by show 3 ≤ 16777216; decide), ?_⟩
    refine for_idx (fun i ρ => ∃ s2 s3 n4 v4 n5 v5 n6 v6 n7 v7, ρ = [.va ⟨.vee (.ref a), (D.vee (.ref a)).imm, some (.ref a)⟩, .va ⟨.strm, true, none⟩, s2, s3, .va ⟨p.d, n4, v4⟩, .va ⟨.str z, n5, v5⟩, .va ⟨(p.re rs).o, n6, v6⟩, .va ⟨.str p.d.pyd.shown, n7, v7⟩]) _ 0 _ ⟨_, _, _, _, _, _, _, _, _, _, rfl⟩ (fun j y hy ρ hI K2 kk2 => ?_) fun ρ hI => ?_
    · obtain ⟨s2, s3, n4, v4, n5, v5, n6, v6, n7, v7, rfl⟩ := hI
      have hm : ∃ m : Int, y.d = .int m ∧ 0 ≤ m ∧ m ≤ 100 := by
        obtain ⟨d, hd, rfl⟩ := List.mem_map.mp (List.mem_of_getElem? hy)
        simp only [List.map_cons, List.map_nil, List.mem_cons, List.not_mem_nil, or_false] at hd
        rcases hd with rfl | rfl | rfl
        · exact ⟨_, rfl, by decide, by decide⟩
        · exact ⟨_, rfl, by omega, by omega⟩
        · exact ⟨_, rfl, by decide, by decide⟩
      obtain ⟨m, em, m0, m1⟩ := hm
      obtain ⟨yd, yn, yv⟩ := y
      have em : yd = .int m := em
      subst em
      try simp only [frz, params, setAll, List.zipWith, List.length_cons, List.length_nil, Nat.reduceAdd, Nat.reduceSub, List.replicate, List.append_nil, List.cons_append, List.nil_append, getV_va, Pt.sl, true_and, List.getElem?_cons_zero, List.getElem?_cons_succ, List.set_cons_zero, List.set_cons_succ, ite_self, Bool.false_eq_true, if_false, if_true]
      refine gCall_of fun _ => ⟨p, rfl, hp.t, fun zs hne hzl hzs f3 => ?_⟩
      dsimp only
      refine gPickS zs hne (by omega) fun e1 he1 f4 => ?_
      refine ⟨by decide, ?_⟩
      refine gPickS [z, z, e1] (by simp) (by simp) fun w hw f5 => ?_
      have hwe : IsEnd p.roads w := by
        simp only [List.mem_cons, List.not_mem_nil, or_false] at hw
        rcases hw with rfl | rfl | rfl
        · exact hz
        · exact hz
        · exact hzs _ he1
      refine gCall_of fun _ => ⟨p, rs, w, m, rfl, hp, hp2, hwe, hwe.perm prs, m0, m1, ?_⟩
      refine ⟨true, rfl, ?_⟩
      rw [if_neg (by decide)]
      exact kk2 _ ⟨_, _, _, _, _, _, _, _, _, _, rfl⟩
    · obtain ⟨s2, s3, n4, v4, n5, v5, n6, v6, n7, v7, rfl⟩ := hI
      try simp only [frz, params, setAll, List.zipWith, List.length_cons, List.length_nil, Nat.reduceAdd, Nat.reduceSub, List.replicate, List.append_nil, List.cons_append, List.nil_append, getV_va, Pt.sl, true_and, List.getElem?_cons_zero, List.getElem?_cons_succ, List.set_cons_zero, List.set_cons_succ, ite_self, Bool.false_eq_true, if_false, if_true]
      rw [g1_of]
      refine gRepr_of hpn (by decide) (by decide) hsm ?_
      refine ⟨_, _, rfl, rfl, _, rfl, ?_⟩
      rw [if_neg (by simp)]
      exact kk _ ⟨_, _, _, _, _, _, rfl⟩
  · obtain ⟨s2, s3, s4, s5, s6, s7, rfl⟩ := hI
    try simp only [frz, params, setAll, List.zipWith, List.length_cons, List.length_nil, Nat.reduceAdd, Nat.reduceSub, List.replicate, List.append_nil, List.cons_append, List.nil_append, getV_va, Pt.sl, true_and, List.getElem?_cons_zero, List.getElem?_cons_succ, List.set_cons_zero, List.set_cons_succ, ite_self, Bool.false_eq_true, if_false, if_true]
    exact ⟨rfl, q⟩

end
end My

set_option Elab.async false
set_option linter.all false
set_option maxRecDepth 100000
set_option maxHeartbeats 0
namespace My
open PySem PySem.Spec PyProof.Rows L2 DL
theorem txt_of {K : PySem.W.Frag} {h : Heap} {mg : Str → Option Value} (X : K.In h) (G : h.Ns mainGlobals mg) (t : Told fa fn tf ex h K) : ∃ T : Txt K mg, T.f_law.f = He.ga K "law" := by
  obtain ⟨fd_is_list, F_is_list⟩ := t.d.def_ 0 (d := d0) rfl
  obtain ⟨fd_is_whole, F_is_whole⟩ := t.d.def_ 1 (d := d1) rfl
  obtain ⟨fd_is_number, F_is_number⟩ := t.d.def_ 2 (d := d2) rfl
  obtain ⟨fd_is_row, F_is_row⟩ := t.d.def_ 3 (d := d3) rfl
  obtain ⟨fd_is_name, F_is_name⟩ := t.d.def_ 4 (d := d4) rfl
  obtain ⟨fd_first_bad, F_first_bad⟩ := t.d.def_ 5 (d := d5) rfl
  obtain ⟨fd_greatest_of, F_greatest_of⟩ := t.d.def_ 6 (d := d6) rfl
  obtain ⟨fd_first_bad_road, F_first_bad_road⟩ := t.d.def_ 7 (d := d7) rfl
  obtain ⟨fd_is_post, F_is_post⟩ := t.d.def_ 8 (d := d8) rfl
  obtain ⟨fd_check_plan, F_check_plan⟩ := t.d.def_ 9 (d := d9) rfl
  obtain ⟨fd_check_many, F_check_many⟩ := t.d.def_ 10 (d := d10) rfl
  obtain ⟨fd_is_end, F_is_end⟩ := t.d.def_ 11 (d := d11) rfl
  obtain ⟨fd_check_end, F_check_end⟩ := t.d.def_ 12 (d := d12) rfl
  obtain ⟨fd_riders_of, F_riders_of⟩ := t.d.def_ 13 (d := d13) rfl
  obtain ⟨fd_written, F_written⟩ := t.d.def_ 14 (d := d14) rfl
  obtain ⟨fd_away_of, F_away_of⟩ := t.d.def_ 15 (d := d15) rfl
  obtain ⟨fd_between_of, F_between_of⟩ := t.d.def_ 16 (d := d16) rfl
  obtain ⟨fd_rooms_of, F_rooms_of⟩ := t.d.def_ 17 (d := d17) rfl
  obtain ⟨fd_room_but, F_room_but⟩ := t.d.def_ 18 (d := d18) rfl
  obtain ⟨fd_is_cut_for, F_is_cut_for⟩ := t.d.def_ 19 (d := d19) rfl
  obtain ⟨fd_more_than, F_more_than⟩ := t.d.def_ 20 (d := d20) rfl
  obtain ⟨fd_is_shelf_cut, F_is_shelf_cut⟩ := t.d.def_ 21 (d := d21) rfl
  obtain ⟨fd_check_size, F_check_size⟩ := t.d.def_ 22 (d := d22) rfl
  obtain ⟨fd_shelf_cut_fault, F_shelf_cut_fault⟩ := t.d.def_ 23 (d := d23) rfl
  obtain ⟨fd__law_stream, F__law_stream⟩ := t.d.def_ 24 (d := d24) rfl
  obtain ⟨fd__law_draw, F__law_draw⟩ := t.d.def_ 25 (d := d25) rfl
  obtain ⟨fd__law_pick, F__law_pick⟩ := t.d.def_ 26 (d := d26) rfl
  obtain ⟨fd__law_mixed, F__law_mixed⟩ := t.d.def_ 27 (d := d27) rfl
  obtain ⟨fd__law_same, F__law_same⟩ := t.d.def_ 28 (d := d28) rfl
  obtain ⟨fd__law_loose, F__law_loose⟩ := t.d.def_ 29 (d := d29) rfl
  obtain ⟨fd__law_names, F__law_names⟩ := t.d.def_ 30 (d := d30) rfl
  obtain ⟨fd__law_ride, F__law_ride⟩ := t.d.def_ 31 (d := d31) rfl
  obtain ⟨fd__law_room, F__law_room⟩ := t.d.def_ 32 (d := d32) rfl
  obtain ⟨fd__law_tree, F__law_tree⟩ := t.d.def_ 33 (d := d33) rfl
  obtain ⟨fd__law_plan, F__law_plan⟩ := t.d.def_ 34 (d := d34) rfl
  obtain ⟨fd__law_turned, F__law_turned⟩ := t.d.def_ 35 (d := d35) rfl
  obtain ⟨fd__law_made_of, F__law_made_of⟩ := t.d.def_ 36 (d := d36) rfl
  obtain ⟨fd__law_ends, F__law_ends⟩ := t.d.def_ 37 (d := d37) rfl
  obtain ⟨fd__law_endful, F__law_endful⟩ := t.d.def_ 38 (d := d38) rfl
  obtain ⟨fd__law_mine, F__law_mine⟩ := t.d.def_ 39 (d := d39) rfl
  obtain ⟨fd__law_is_whole, F__law_is_whole⟩ := t.d.def_ 40 (d := d40) rfl
  obtain ⟨fd__law_away, F__law_away⟩ := t.d.def_ 41 (d := d41) rfl
  obtain ⟨fd__law_between, F__law_between⟩ := t.d.def_ 42 (d := d42) rfl
  obtain ⟨fd__law_written, F__law_written⟩ := t.d.def_ 43 (d := d43) rfl
  obtain ⟨fd__law_is_shelf_cut, F__law_is_shelf_cut⟩ := t.d.def_ 44 (d := d44) rfl
  obtain ⟨fd__law_more, F__law_more⟩ := t.d.def_ 45 (d := d45) rfl
  obtain ⟨fd__law_steady, F__law_steady⟩ := t.d.def_ 46 (d := d46) rfl
  obtain ⟨fd__law_scene, F__law_scene⟩ := t.d.def_ 47 (d := d47) rfl
  obtain ⟨fd__law_things, F__law_things⟩ := t.d.def_ 48 (d := d48) rfl
  obtain ⟨fd__law_cuts_right, F__law_cuts_right⟩ := t.d.def_ 49 (d := d49) rfl
  obtain ⟨fd_law, F_law⟩ := t.d.def_ 50 (d := d50) rfl
  obtain ⟨fd_Plan___init__, F_Plan___init__⟩ := t.d.def_ 51 (d := d51) rfl
  obtain ⟨fd_Plan_is_rider, F_Plan_is_rider⟩ := t.d.def_ 52 (d := d52) rfl
  obtain ⟨fd_Plan_is_letter, F_Plan_is_letter⟩ := t.d.def_ 53 (d := d53) rfl
  exact ⟨⟨He.free_ok X G (t.d.fact 51 (f := .free "ValueError") rfl), He.free_ok X G (t.d.fact 52 (f := .free "abs") rfl), He.free_ok X G (t.d.fact 53 (f := .free "all") rfl), He.free_ok X G (t.d.fact 54 (f := .free "bool") rfl), He.free_ok X G (t.d.fact 55 (f := .free "dict") rfl), He.free_ok X G (t.d.fact 56 (f := .free "enumerate") rfl), He.free_ok X G (t.d.fact 57 (f := .free "int") rfl), He.free_ok X G (t.d.fact 58 (f := .free "isinstance") rfl), He.free_ok X G (t.d.fact 59 (f := .free "len") rfl), He.free_ok X G (t.d.fact 60 (f := .free "list") rfl), He.free_ok X G (t.d.fact 61 (f := .free "max") rfl), He.free_ok X G (t.d.fact 62 (f := .free "range") rfl), He.free_ok X G (t.d.fact 63 (f := .free "repr") rfl), He.free_ok X G (t.d.fact 64 (f := .free "sorted") rfl), He.free_ok X G (t.d.fact 65 (f := .free "str") rfl), He.free_ok X G (t.d.fact 66 (f := .free "sum") rfl), He.free_ok X G (t.d.fact 67 (f := .free "tuple") rfl), He.free_ok X G (t.d.fact 68 (f := .free "zip") rfl), ⟨He.ga K "is_list", fd_is_list, F_is_list, He.glo_ok X G (t.d.fact 0 (f := .glo "is_list") rfl), F_is_list.bindsN fun _ _ _ _ _ _ us hl => match us, hl with | [_], _ => rfl⟩, ⟨He.ga K "is_whole", fd_is_whole, F_is_whole, He.glo_ok X G (t.d.fact 1 (f := .glo "is_whole") rfl), F_is_whole.bindsN fun _ _ _ _ _ _ us hl => match us, hl with | [_], _ => rfl⟩, ⟨He.ga K "is_number", fd_is_number, F_is_number, He.glo_ok X G (t.d.fact 2 (f := .glo "is_number") rfl), F_is_number.bindsN fun _ _ _ _ _ _ us hl => match us, hl with | [_], _ => rfl⟩, ⟨He.ga K "is_row", fd_is_row, F_is_row, He.glo_ok X G (t.d.fact 3 (f := .glo "is_row") rfl), F_is_row.bindsN fun _ _ _ _ _ _ us hl => match us, hl with | [_, _], _ => rfl⟩, ⟨He.ga K "is_name", fd_is_name, F_is_name, He.glo_ok X G (t.d.fact 4 (f := .glo "is_name") rfl), F_is_name.bindsN fun _ _ _ _ _ _ us hl => match us, hl with | [_], _ => rfl⟩, ⟨He.ga K "first_bad", fd_first_bad, F_first_bad, He.glo_ok X G (t.d.fact 5 (f := .glo "first_bad") rfl), F_first_bad.bindsN fun _ _ _ _ _ _ us hl => match us, hl with | [_, _], _ => rfl⟩, ⟨He.ga K "greatest_of", fd_greatest_of, F_greatest_of, He.glo_ok X G (t.d.fact 6 (f := .glo "greatest_of") rfl), F_greatest_of.bindsN fun _ _ _ _ _ _ us hl => match us, hl with | [_, _], _ => rfl⟩, ⟨He.ga K "first_bad_road", fd_first_bad_road, F_first_bad_road, He.glo_ok X G (t.d.fact 7 (f := .glo "first_bad_road") rfl), F_first_bad_road.bindsN fun _ _ _ _ _ _ us hl => match us, hl with | [_, _], _ => rfl⟩, ⟨He.ga K "is_post", fd_is_post, F_is_post, He.glo_ok X G (t.d.fact 8 (f := .glo "is_post") rfl), F_is_post.bindsN fun _ _ _ _ _ _ us hl => match us, hl with | [_, _], _ => rfl⟩, ⟨He.ga K "check_plan", fd_check_plan, F_check_plan, He.glo_ok X G (t.d.fact 9 (f := .glo "check_plan") rfl), F_check_plan.bindsN fun _ _ _ _ _ _ us hl => match us, hl with | [_], _ => rfl⟩, ⟨He.ga K "check_many", fd_check_many, F_check_many, He.glo_ok X G (t.d.fact 10 (f := .glo "check_many") rfl), F_check_many.bindsN fun _ _ _ _ _ _ us hl => match us, hl with | [_, _], _ => rfl⟩, ⟨He.ga K "is_end", fd_is_end, F_is_end, He.glo_ok X G (t.d.fact 11 (f := .glo "is_end") rfl), F_is_end.bindsN fun _ _ _ _ _ _ us hl => match us, hl with | [_, _], _ => rfl⟩, ⟨He.ga K "check_end", fd_check_end, F_check_end, He.glo_ok X G (t.d.fact 12 (f := .glo "check_end") rfl), F_check_end.bindsN fun _ _ _ _ _ _ us hl => match us, hl with | [_, _], _ => rfl⟩, ⟨He.ga K "riders_of", fd_riders_of, F_riders_of, He.glo_ok X G (t.d.fact 13 (f := .glo "riders_of") rfl), F_riders_of.bindsN fun _ _ _ _ _ _ us hl => match us, hl with | [_, _], _ => rfl⟩, ⟨He.ga K "written", fd_written, F_written, He.glo_ok X G (t.d.fact 14 (f := .glo "written") rfl), F_written.bindsN fun _ _ _ _ _ _ us hl => match us, hl with | [_, _, _, _], _ => rfl⟩, ⟨He.ga K "away_of", fd_away_of, F_away_of, He.glo_ok X G (t.d.fact 15 (f := .glo "away_of") rfl), F_away_of.bindsN fun _ _ _ _ _ _ us hl => match us, hl with | [_, _, _, _], _ => rfl⟩, ⟨He.ga K "between_of", fd_between_of, F_between_of, He.glo_ok X G (t.d.fact 16 (f := .glo "between_of") rfl), F_between_of.bindsN fun _ _ _ _ _ _ us hl => match us, hl with | [_, _, _, _], _ => rfl⟩, ⟨He.ga K "rooms_of", fd_rooms_of, F_rooms_of, He.glo_ok X G (t.d.fact 17 (f := .glo "rooms_of") rfl), F_rooms_of.bindsN fun _ _ _ _ _ _ us hl => match us, hl with | [_, _], _ => rfl⟩, ⟨He.ga K "room_but", fd_room_but, F_room_but, He.glo_ok X G (t.d.fact 18 (f := .glo "room_but") rfl), F_room_but.bindsN fun _ _ _ _ _ _ us hl => match us, hl with | [_, _, _], _ => rfl⟩, ⟨He.ga K "is_cut_for", fd_is_cut_for, F_is_cut_for, He.glo_ok X G (t.d.fact 19 (f := .glo "is_cut_for") rfl), F_is_cut_for.bindsN fun _ _ _ _ _ _ us hl => match us, hl with | [_, _, _, _], _ => rfl⟩, ⟨He.ga K "more_than", fd_more_than, F_more_than, He.glo_ok X G (t.d.fact 20 (f := .glo "more_than") rfl), F_more_than.bindsN fun _ _ _ _ _ _ us hl => match us, hl with | [_, _, _, _, _], _ => rfl⟩, ⟨He.ga K "is_shelf_cut", fd_is_shelf_cut, F_is_shelf_cut, He.glo_ok X G (t.d.fact 21 (f := .glo "is_shelf_cut") rfl), F_is_shelf_cut.bindsN fun _ _ _ _ _ _ us hl => match us, hl with | [_, _, _, _], _ => rfl⟩, ⟨He.ga K "check_size", fd_check_size, F_check_size, He.glo_ok X G (t.d.fact 22 (f := .glo "check_size") rfl), F_check_size.bindsN fun _ _ _ _ _ _ us hl => match us, hl with | [_, _, _, _], _ => rfl⟩, ⟨He.ga K "shelf_cut_fault", fd_shelf_cut_fault, F_shelf_cut_fault, He.glo_ok X G (t.d.fact 23 (f := .glo "shelf_cut_fault") rfl), F_shelf_cut_fault.bindsN fun _ _ _ _ _ _ us hl => match us, hl with | [_, _, _, _, _], _ => rfl⟩, ⟨He.ga K "_law_stream", fd__law_stream, F__law_stream, He.glo_ok X G (t.d.fact 24 (f := .glo "_law_stream") rfl), F__law_stream.bindsN fun _ _ _ _ _ _ us hl => match us, hl with | [_], _ => rfl⟩, ⟨He.ga K "_law_draw", fd__law_draw, F__law_draw, He.glo_ok X G (t.d.fact 25 (f := .glo "_law_draw") rfl), F__law_draw.bindsN fun _ _ _ _ _ _ us hl => match us, hl with | [_, _], _ => rfl⟩, ⟨He.ga K "_law_pick", fd__law_pick, F__law_pick, He.glo_ok X G (t.d.fact 26 (f := .glo "_law_pick") rfl), F__law_pick.bindsN fun _ _ _ _ _ _ us hl => match us, hl with | [_, _], _ => rfl⟩, ⟨He.ga K "_law_mixed", fd__law_mixed, F__law_mixed, He.glo_ok X G (t.d.fact 27 (f := .glo "_law_mixed") rfl), F__law_mixed.bindsN fun _ _ _ _ _ _ us hl => match us, hl with | [_, _], _ => rfl⟩, ⟨He.ga K "_law_same", fd__law_same, F__law_same, He.glo_ok X G (t.d.fact 28 (f := .glo "_law_same") rfl), F__law_same.bindsN fun _ _ _ _ _ _ us hl => match us, hl with | [_, _], _ => rfl⟩, ⟨He.ga K "_law_loose", fd__law_loose, F__law_loose, He.glo_ok X G (t.d.fact 29 (f := .glo "_law_loose") rfl), F__law_loose.bindsN fun _ _ _ _ _ _ us hl => match us, hl with | [_, _], _ => rfl⟩, ⟨He.ga K "_law_names", fd__law_names, F__law_names, He.glo_ok X G (t.d.fact 30 (f := .glo "_law_names") rfl), F__law_names.bindsN fun _ _ _ _ _ _ us hl => match us, hl with | [_, _], _ => rfl⟩, ⟨He.ga K "_law_ride", fd__law_ride, F__law_ride, He.glo_ok X G (t.d.fact 31 (f := .glo "_law_ride") rfl), F__law_ride.bindsN fun _ _ _ _ _ _ us hl => match us, hl with | [_, _], _ => rfl⟩, ⟨He.ga K "_law_room", fd__law_room, F__law_room, He.glo_ok X G (t.d.fact 32 (f := .glo "_law_room") rfl), F__law_room.bindsN fun _ _ _ _ _ _ us hl => match us, hl with | [_, _, _], _ => rfl⟩, ⟨He.ga K "_law_tree", fd__law_tree, F__law_tree, He.glo_ok X G (t.d.fact 33 (f := .glo "_law_tree") rfl), F__law_tree.bindsN fun _ _ _ _ _ _ us hl => match us, hl with | [_, _], _ => rfl⟩, ⟨He.ga K "_law_plan", fd__law_plan, F__law_plan, He.glo_ok X G (t.d.fact 34 (f := .glo "_law_plan") rfl), F__law_plan.bindsN fun _ _ _ _ _ _ us hl => match us, hl with | [_, _, _, _], _ => rfl⟩, ⟨He.ga K "_law_turned", fd__law_turned, F__law_turned, He.glo_ok X G (t.d.fact 35 (f := .glo "_law_turned") rfl), F__law_turned.bindsN fun _ _ _ _ _ _ us hl => match us, hl with | [_, _], _ => rfl⟩, ⟨He.ga K "_law_made_of", fd__law_made_of, F__law_made_of, He.glo_ok X G (t.d.fact 36 (f := .glo "_law_made_of") rfl), F__law_made_of.bindsN fun _ _ _ _ _ _ us hl => match us, hl with | [_, _], _ => rfl⟩, ⟨He.ga K "_law_ends", fd__law_ends, F__law_ends, He.glo_ok X G (t.d.fact 37 (f := .glo "_law_ends") rfl), F__law_ends.bindsN fun _ _ _ _ _ _ us hl => match us, hl with | [_], _ => rfl⟩, ⟨He.ga K "_law_endful", fd__law_endful, F__law_endful, He.glo_ok X G (t.d.fact 38 (f := .glo "_law_endful") rfl), F__law_endful.bindsN fun _ _ _ _ _ _ us hl => match us, hl with | [_, _, _], _ => rfl⟩, ⟨He.ga K "_law_mine", fd__law_mine, F__law_mine, He.glo_ok X G (t.d.fact 39 (f := .glo "_law_mine") rfl), F__law_mine.bindsN fun _ _ _ _ _ _ us hl => match us, hl with | [_, _], _ => rfl⟩, ⟨He.ga K "_law_is_whole", fd__law_is_whole, F__law_is_whole, He.glo_ok X G (t.d.fact 40 (f := .glo "_law_is_whole") rfl), F__law_is_whole.bindsN fun _ _ _ _ _ _ us hl => match us, hl with | [_], _ => rfl⟩, ⟨He.ga K "_law_away", fd__law_away, F__law_away, He.glo_ok X G (t.d.fact 41 (f := .glo "_law_away") rfl), F__law_away.bindsN fun _ _ _ _ _ _ us hl => match us, hl with | [_, _, _, _], _ => rfl⟩, ⟨He.ga K "_law_between", fd__law_between, F__law_between, He.glo_ok X G (t.d.fact 42 (f := .glo "_law_between") rfl), F__law_between.bindsN fun _ _ _ _ _ _ us hl => match us, hl with | [_, _, _, _], _ => rfl⟩, ⟨He.ga K "_law_written", fd__law_written, F__law_written, He.glo_ok X G (t.d.fact 43 (f := .glo "_law_written") rfl), F__law_written.bindsN fun _ _ _ _ _ _ us hl => match us, hl with | [_, _, _, _], _ => rfl⟩, ⟨He.ga K "_law_is_shelf_cut", fd__law_is_shelf_cut, F__law_is_shelf_cut, He.glo_ok X G (t.d.fact 44 (f := .glo "_law_is_shelf_cut") rfl), F__law_is_shelf_cut.bindsN fun _ _ _ _ _ _ us hl => match us, hl with | [_, _, _, _], _ => rfl⟩, ⟨He.ga K "_law_more", fd__law_more, F__law_more, He.glo_ok X G (t.d.fact 45 (f := .glo "_law_more") rfl), F__law_more.bindsN fun _ _ _ _ _ _ us hl => match us, hl with | [_, _, _, _, _], _ => rfl⟩, ⟨He.ga K "_law_steady", fd__law_steady, F__law_steady, He.glo_ok X G (t.d.fact 46 (f := .glo "_law_steady") rfl), F__law_steady.bindsN fun _ _ _ _ _ _ us hl => match us, hl with | [_, _], _ => rfl⟩, ⟨He.ga K "_law_scene", fd__law_scene, F__law_scene, He.glo_ok X G (t.d.fact 47 (f := .glo "_law_scene") rfl), F__law_scene.bindsN fun _ _ _ _ _ _ us hl => match us, hl with | [_, _, _], _ => rfl⟩, ⟨He.ga K "_law_things", fd__law_things, F__law_things, He.glo_ok X G (t.d.fact 48 (f := .glo "_law_things") rfl), F__law_things.bindsN fun _ _ _ _ _ _ us hl => match us, hl with | [_, _, _], _ => rfl⟩, ⟨He.ga K "_law_cuts_right", fd__law_cuts_right, F__law_cuts_right, He.glo_ok X G (t.d.fact 49 (f := .glo "_law_cuts_right") rfl), F__law_cuts_right.bindsN fun _ _ _ _ _ _ us hl => match us, hl with | [_, _, _, _, _], _ => rfl⟩, ⟨He.ga K "law", fd_law, F_law, He.glo_ok X G (t.d.fact 50 (f := .glo "law") rfl), F_law.bindsN fun _ _ _ _ _ _ us hl => match us, hl with | [_], _ => rfl⟩, clB_plan (He.ba (He.ba t.ex).1).1, He.glo_ok X G (t.d.fact 69 (f := .glo "Plan") rfl), He.str_ok X G (t.d.fact 71 (f := .str "LETTERS" "abcdefghijklmnopqrstuvwxyz") rfl), ⟨He.ma K (He.ga K "Plan") "__init__", fd_Plan___init__, F_Plan___init__, F_Plan___init__.bindsN fun _ _ _ _ _ _ us hl => match us, hl with | [_, _, _, _, _], _ => rfl⟩, ⟨He.ma K (He.ga K "Plan") "is_rider", fd_Plan_is_rider, F_Plan_is_rider, F_Plan_is_rider.bindsN fun _ _ _ _ _ _ us hl => match us, hl with | [_, _], _ => rfl⟩, ⟨He.ma K (He.ga K "Plan") "is_letter", fd_Plan_is_letter, F_Plan_is_letter, F_Plan_is_letter.bindsN fun _ _ _ _ _ _ us hl => match us, hl with | [_, _], _ => rfl⟩, He.mkr_ok (t.d.fact 70 (f := .mkr "Plan") rfl), bmB_ok (He.ba (He.ba t.ex).1).2 (by decide +kernel), bmB_ok (He.ba t.ex).2 (by decide +kernel)⟩, rfl⟩
theorem law_code {K : PySem.W.Frag} {mg : Str → Option Value} (T : Txt K mg) (e : T.f_law.f = He.ga K "law") : T.f_law.fd.code = .ref (He.codeOf K ("law", none)) := by
  obtain ⟨oc, od, dV, kV, doc, pm, an, cdv, ct, osl, efd, lk, hcd, _, _⟩ := T.f_law.ok.ex
  obtain ⟨c, ec⟩ := He.codeIn_ref hcd
  have e2 : T.f_law.fd.code = .ref c := by rw [efd]; exact ec
  rw [e] at lk
  rw [e2, He.codeOf_eq (p := ("law", none)) lk e2]
theorem walk : PySem.W.WalkO (PySem.W.view R.prog [69]) names (PySem.W.XL (PySem.W.view R.prog [69]) []) hk.says PySem.Challenge.rw_postriders_k21_whole_shelf_cuts_judged.row.toRowW (HandSHeadRun.topDef R.prog 69) [] (fun f vs => PySem.call f vs) := by
  refine walk_G (n := 63) rfl (by decide) (by kernel_rfl) ?F
  intro w mg fL h Y G hmg0
  obtain ⟨K, KX, t⟩ := Y
  have hmg : mg ("law" : PySem.Str) = some (.ref fL) := by
    have e : (HandSHeadRun.topDef R.prog 69).name = ("law" : PySem.Str) := by kernel_rfl
    rw [← e]
    exact hmg0
  obtain ⟨T, eL⟩ := txt_of KX G t
  have ef := T.f_law.g.symm.trans hmg
  cases ef
  refine ⟨K, _, KX, lawG_of (k := 11) (fd := T.f_law.fd) KX t (by decide) (by unfold LIM; decide +kernel) (fun s u => T.f_law.ok.bindsA (ps := ["script"]) (fun _ _ _ _ _ _ us hl => match us, hl with | [_], _ => rfl) s [u] rfl) (fun base hK hN hT => ok_law T t.sm) fun a Q q => ⟨a, rfl, rfl, ⟨rfl, .inl rfl⟩, ⟨rfl, .inr ⟨rfl, rfl⟩⟩, q⟩⟩
end My
open PySem PySem.W PySem.Calls PyProof.Rows
theorem PySem.Challenge.cw_postriders_k21_whole_shelf_cuts_judged_holds : PySem.Challenge.rw_postriders_k21_whole_shelf_cuts_judged.Holds := by
  w_on; o_law
  refine HandSHeadRun.head_any (r := My.R) (q := view My.R.prog [69]) (H := My.hk) (ob := My.ob) (M := 20000) (loose := My.names) (d := HandSHeadRun.topDef My.R.prog 69) (kwd := []) My.ob_eq (by kernel_rfl) (fun s => by kernel_rfl) My.run (by kernel_rfl) (by kernel_rfl) (by kernel_rfl)
    (by rfl) (by first | assumption | decide +kernel) (by decide +kernel) ⟨rfl, rfl, rfl, rfl, rfl, by decide +kernel⟩ ?hw ?hc
  case hw => w_witness2
  case hc => exact My.walk

