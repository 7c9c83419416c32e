import PyProof.Rows.All
import Wide.All
import OpenK.AllK
import Wide.FinOn
import HandS.ForMost
import HandS.Defaults
import HandS.Property
import HandS.HeadHook4
import KE.KStateDown
import KE.HD0
import KE.HD1
import KE.HD2
import KE.HD3
import PySem.Challenge.RW_jawturns_k79_whole_real_standings
import HandS.Codes
import HandS.IsInst
import HandS.Conv
import HandS.Gcd
import HandS.Walk
import HandS.SortRule
import HandS.SetBool
import HandS.SetFor
import HandS.Strs
import HandS.MakeKwOnly
import HandS.DictComp
import HandS.HeadEnd

/-! ## Hd -/
set_option Elab.async false
set_option linter.all false
set_option maxRecDepth 100000
set_option maxHeartbeats 4000000
namespace Jaw
open PySem L2
def topS (i : Nat) : Stmt := PySem.Challenge.pw_jawturns_k79_whole_real_standings.main.body.getD i (.Pass ⟨0, 0, 0, 0⟩)
abbrev s_isInt : Stmt := topS 15
abbrev s_isRow : Stmt := topS 16
abbrev s_isPlace : Stmt := topS 17
abbrev s_chkRound : Stmt := topS 18
abbrev s_isPair : Stmt := topS 19
abbrev s_chkRows : Stmt := topS 20
abbrev s_rowsT : Stmt := topS 21
abbrev s_leastP : Stmt := topS 22
abbrev s_tInit : Stmt := inClass (topS 23) 0
abbrev s_tPer : Stmt := inClass (topS 23) 2
abbrev s_tRests : Stmt := inClass (topS 23) 3
abbrev s_tLift : Stmt := inClass (topS 23) 5
abbrev s_tEven : Stmt := inClass (topS 23) 9
abbrev s_isWord : Stmt := topS 26
abbrev s_chkEven : Stmt := topS 28
abbrev s_pInit : Stmt := inClass (topS 29) 0
abbrev s_pWords : Stmt := inClass (topS 29) 1
abbrev s_pPer : Stmt := inClass (topS 29) 2
abbrev s_pItem : Stmt := inClass (topS 29) 5
abbrev s_pRests : Stmt := inClass (topS 29) 8
abbrev s_isDeed : Stmt := topS 32
abbrev s_plInit : Stmt := inClass (topS 33) 0
abbrev s_chkPlan : Stmt := topS 35
abbrev s_moved : Stmt := topS 36
abbrev s_counts : Stmt := topS 37
abbrev s_does : Stmt := topS 38
abbrev s_bInit : Stmt := inClass (topS 40) 0
abbrev s_bCarr : Stmt := inClass (topS 40) 1
abbrev s_leftB : Stmt := topS 42
abbrev s_slInit : Stmt := inClass (topS 45) 0
abbrev s_covered : Stmt := topS 46
abbrev s_chkRoom : Stmt := topS 47
abbrev s_leftA : Stmt := topS 48
abbrev s_sure : Stmt := topS 49
abbrev s_lPool : Stmt := topS 51
abbrev s_lDraw : Stmt := topS 52
abbrev s_lLaps : Stmt := topS 53
abbrev s_lRows : Stmt := topS 54
abbrev s_lWorld : Stmt := topS 55
abbrev s_lPart : Stmt := topS 56
abbrev s_lTable : Stmt := topS 57
abbrev s_lLift : Stmt := topS 58
abbrev s_lKeeps : Stmt := topS 59
abbrev s_lTables : Stmt := topS 60
abbrev s_lSpan : Stmt := topS 61
abbrev s_lModel : Stmt := topS 62
abbrev s_lReal : Stmt := topS 63
abbrev s_lBlur : Stmt := topS 64
abbrev s_lLaw : Stmt := topS 65
/-! ### a def by its address -/
def fnWat (K : PySem.W.Frag) (a : Addr) : He.FnW := match K.lookup a with
  | some ⟨_, _, .func fd, _⟩ => some (fd.name, fd.qualname, fd.params, fd.body, fd.scope, fd.globals, fd.closure, fd.builtins)
  | _ => none
/-- the property x of the class C, its getter -/
def propA (K : PySem.W.Frag) (C x : Str) : Addr := match PySem.W.findIn K (.ref (He.ga K C)) x with
  | some (some (.ref p)) => p
  | _ => 0
def getA (K : PySem.W.Frag) (C x : Str) : Addr := match PySem.W.recIn K (propA K C x) "property" with
  | some (.ref g :: _) => g
  | _ => 0
structure PropD where
  cls : Str
  name : Str
  st : Stmt
def PropD.val (d : PropD) : He.FnW := some (d.name, (d.cls ++ "." ++ d.name : Str), defArgs d.st, .stmts (defBody d.st), defScope d.st, mainGlobals, [], builtinsNs)
def PropD.ok (K : PySem.W.Frag) (d : PropD) : Bool :=
  He.eqO (PySem.W.findIn K (.ref (He.ga K d.cls)) d.name) (some (some (.ref (propA K d.cls d.name)))) &&
  (He.eqO (PySem.W.specialIn K (.ref (propA K d.cls d.name)) "__get__") (some (some (.builtin "property.__get__"))) &&
  (decide (PySem.W.takesIn K (.ref (propA K d.cls d.name)) = some true) &&
  ((match PySem.W.recIn K (propA K d.cls d.name) "property" with
    | some (.ref g :: _) => decide (g = getA K d.cls d.name)
    | _ => false) &&
  (PySem.W.keepIn K (.ref (getA K d.cls d.name)) && (match K.lookup (getA K d.cls d.name) with
    | some ⟨_, _, .func fd, _⟩ => PySem.W.codeIn K fd.code (d.cls ++ "." ++ d.name) && He.dflB K fd.defaults []
    | _ => false)))))
/-! ### the Hook: defs, facts, properties, one more Bool -/
abbrev AlJ : Type := He.AlD × (List He.FnW × Bool)
def obsJ (fa : List He.Fa) (fn : List He.DefD) (ps : List PropD) (ex : PySem.W.Frag → Bool) (K : PySem.W.Frag) : AlJ :=
  (He.obsD fa fn K, ps.map (fun d => fnWat K (getA K d.cls d.name)), (ps.all fun d => d.ok K) && ex K)
def valJ (fn : List He.DefD) (ps : List PropD) : AlJ := (He.valD fn, ps.map PropD.val, true)
/-- the objects that are looked at: what the module's names stand for, the defs' codes and defaults, the classes' names, theirs in turn -/
def refsF : Option Obj → List Addr
  | some ⟨_, _, .func fd, _⟩ => He.refV fd.code ++ He.refV fd.defaults
  | some ⟨.type "property", _, .fields vs, _⟩ => vs.toList.flatMap He.refV
  | _ => []
def refsN : Option Obj → List Addr
  | some ⟨_, _, .dict es _, _⟩ => es.toList.flatMap fun e => He.refV e.val
  | _ => []
def nsOf : Option Obj → List Addr
  | some ⟨_, _, .cls cd, _⟩ => [cd.ns]
  | _ => []
def asK (g : Addr → Option Obj) : List Addr :=
  match refsN (g mainGlobals) with
  | gl => match gl.flatMap fun a => nsOf (g a) with
    | ns => match ns.flatMap fun a => refsN (g a) with
      | me => match me.flatMap fun a => refsF (g a) with
        | mf => mainGlobals :: (gl ++ (ns ++ (me ++ (gl.flatMap (fun a => refsF (g a)) ++ (mf ++ mf.flatMap fun a => refsF (g a))))))
def obsJG (fa : List He.Fa) (fn : List He.DefD) (ps : List PropD) (ex : PySem.W.Frag → Bool) (g : Addr → Option Obj) : AlJ := obsJ fa fn ps ex (He.frG g (asK g))
def SaysJ (fa : List He.Fa) (fn : List He.DefD) (ps : List PropD) (ex : PySem.W.Frag → Bool) (K : PySem.W.Frag) : Prop := obsJ fa fn ps ex K = valJ fn ps
def hookJ (fa : List He.Fa) (fn : List He.DefD) (ps : List PropD) (ex : PySem.W.Frag → Bool) : PySem.W.Hook where
  α := AlJ
  obs := fun s => obsJG fa fn ps ex s.heap.get?
  val := fun _ => valJ fn ps
  says := fun _ h => ∃ K : PySem.W.Frag, K.In h ∧ SaysJ fa fn ps ex K
  of := fun _ _ e => ⟨_, He.frG_in, e⟩
  keeps := fun _ _ _ ⟨K, hK, c⟩ k => ⟨K, PySem.W.Frag.In.keeps hK k, c⟩
theorem obsJG_eq {fa : List He.Fa} {fn : List He.DefD} {ps : List PropD} {ex : PySem.W.Frag → Bool} {g : Addr → Option Obj} {s : Shared} (h : ∀ a, g a = s.heap.get? a) : obsJG fa fn ps ex g = (hookJ fa fn ps ex).obs s := by
  have e : g = s.heap.get? := funext h
  rw [e] <;> rfl
section
variable {fa : List He.Fa} {fn : List He.DefD} {ps : List PropD} {ex : PySem.W.Frag → Bool} {K : PySem.W.Frag}
theorem SaysJ.d (c : SaysJ fa fn ps ex K) : He.SaysD fa fn K := congrArg (fun z : AlJ => z.1) c
theorem SaysJ.b (c : SaysJ fa fn ps ex K) : (ps.all fun d => d.ok K) = true ∧ ex K = true := He.ba (congrArg (fun z : AlJ => z.2.2) c)
theorem SaysJ.p (c : SaysJ fa fn ps ex K) : ps.map (fun d => fnWat K (getA K d.cls d.name)) = ps.map PropD.val := congrArg (fun z : AlJ => z.2.1) c
theorem PropD.facts {d : PropD} (e : fnWat K (getA K d.cls d.name) = d.val) (c : d.ok K = true) :
    PropOf K (He.ga K d.cls) d.name (propA K d.cls d.name) (getA K d.cls d.name) ∧ ∃ fd, FunD K d.name (d.cls ++ "." ++ d.name) (defArgs d.st) (defBody d.st) (defScope d.st) [] [] (getA K d.cls d.name) fd := by
  obtain ⟨c1, c⟩ := He.ba c
  obtain ⟨c2, c⟩ := He.ba c
  obtain ⟨c3, c⟩ := He.ba c
  obtain ⟨c4, c⟩ := He.ba c
  obtain ⟨c5, c6⟩ := He.ba c
  refine ⟨⟨He.eqO_ok c1, He.eqO_ok c2, of_decide_eq_true c3, ?_⟩, ?_⟩
  · cases q : PySem.W.recIn K (propA K d.cls d.name) "property" with
    | none => rw [q] at c4; cases c4
    | some l =>
      rw [q] at c4
      cases l with
      | nil => cases c4
      | cons v r =>
        cases v with
        | ref g =>
          have eg : g = getA K d.cls d.name := of_decide_eq_true c4
          exact ⟨r, by rw [eg]⟩
        | _ => cases c4
  · unfold fnWat at e
    cases q : K.lookup (getA K d.cls d.name) with
    | none => rw [q] at c6; cases c6
    | some o =>
      obtain ⟨oc, od, dt, osl⟩ := o
      rw [q] at c6 e
      cases dt with
      | func fd =>
        obtain ⟨n1, n2, n3, n4, n5, n6, n7, n8, n9, n10, n11, n12, n13, n14, n15⟩ := fd
        have e2 : (some (n1, n2, n3, n4, n5, n6, n7, n15) : He.FnW) = some (d.name, (d.cls ++ "." ++ d.name : Str), defArgs d.st, .stmts (defBody d.st), defScope d.st, mainGlobals, [], builtinsNs) := e
        simp only [Option.some.injEq, Prod.mk.injEq] at e2
        obtain ⟨h1, h2, h3, h4, h5, h6, h7, h8⟩ := e2
        subst h1 h2 h3 h4 h5 h6 h7 h8
        have c7 : (PySem.W.codeIn K n13 (d.cls ++ "." ++ d.name) && He.dflB K n8 []) = true := c6
        obtain ⟨k1, k2⟩ := He.ba c7
        exact ⟨_, ⟨oc, od, n8, n9, n10, n11, n12, n13, n14, osl, rfl, q, k1, He.dflB_ok k2, .inl rfl⟩, c5⟩
      | _ => cases c6
theorem SaysJ.prop (c : SaysJ fa fn ps ex K) {d : PropD} (i : Nat) (h : ps[i]? = some d := by rfl) :
    PropOf K (He.ga K d.cls) d.name (propA K d.cls d.name) (getA K d.cls d.name) ∧ ∃ fd, FunD K d.name (d.cls ++ "." ++ d.name) (defArgs d.st) (defBody d.st) (defScope d.st) [] [] (getA K d.cls d.name) fd := by
  have e2 : (ps.map (fun d => fnWat K (getA K d.cls d.name)))[i]? = (ps.map PropD.val)[i]? := by rw [c.p]
  rw [List.getElem?_map, List.getElem?_map, h] at e2
  exact PropD.facts (Option.some.inj e2) (List.all_eq_true.mp c.b.1 d (List.mem_of_getElem? h))
end
/-! ### this program's defs and facts -/
def d_isInt : He.DefD := ⟨("is_integer", none), "is_integer", "is_integer", defArgs s_isInt, defBody s_isInt, defScope s_isInt, [], []⟩
def d_isRow : He.DefD := ⟨("is_row", none), "is_row", "is_row", defArgs s_isRow, defBody s_isRow, defScope s_isRow, [], []⟩
def d_isPlace : He.DefD := ⟨("is_place", none), "is_place", "is_place", defArgs s_isPlace, defBody s_isPlace, defScope s_isPlace, [], []⟩
def d_chkRound : He.DefD := ⟨("check_round", none), "check_round", "check_round", defArgs s_chkRound, defBody s_chkRound, defScope s_chkRound, [], []⟩
def d_isPair : He.DefD := ⟨("is_pair", none), "is_pair", "is_pair", defArgs s_isPair, defBody s_isPair, defScope s_isPair, [], []⟩
def d_chkRows : He.DefD := ⟨("checked_rows", none), "checked_rows", "checked_rows", defArgs s_chkRows, defBody s_chkRows, defScope s_chkRows, [], []⟩
def d_rowsT : He.DefD := ⟨("rows_turned", none), "rows_turned", "rows_turned", defArgs s_rowsT, defBody s_rowsT, defScope s_rowsT, [], []⟩
def d_leastP : He.DefD := ⟨("least_period", none), "least_period", "least_period", defArgs s_leastP, defBody s_leastP, defScope s_leastP, [], []⟩
def d_tInit : He.DefD := ⟨("Turning", some "__init__"), "__init__", "Turning.__init__", defArgs s_tInit, defBody s_tInit, defScope s_tInit, [], []⟩
def d_tRests : He.DefD := ⟨("Turning", some "rests"), "rests", "Turning.rests", defArgs s_tRests, defBody s_tRests, defScope s_tRests, [], []⟩
def d_tLift : He.DefD := ⟨("Turning", some "lifted"), "lifted", "Turning.lifted", defArgs s_tLift, defBody s_tLift, defScope s_tLift, [], []⟩
def d_tEven : He.DefD := ⟨("Turning", some "is_even"), "is_even", "Turning.is_even", defArgs s_tEven, defBody s_tEven, defScope s_tEven, [], []⟩
def d_isWord : He.DefD := ⟨("is_word", none), "is_word", "is_word", defArgs s_isWord, defBody s_isWord, defScope s_isWord, [], []⟩
def d_chkEven : He.DefD := ⟨("check_even", none), "check_even", "check_even", defArgs s_chkEven, defBody s_chkEven, defScope s_chkEven, [], []⟩
def d_pInit : He.DefD := ⟨("Part", some "__init__"), "__init__", "Part.__init__", defArgs s_pInit, defBody s_pInit, defScope s_pInit, [.non, .non, .non], []⟩
def d_pItem : He.DefD := ⟨("Part", some "__getitem__"), "__getitem__", "Part.__getitem__", defArgs s_pItem, defBody s_pItem, defScope s_pItem, [], []⟩
def d_pRests : He.DefD := ⟨("Part", some "rests"), "rests", "Part.rests", defArgs s_pRests, defBody s_pRests, defScope s_pRests, [], []⟩
def d_isDeed : He.DefD := ⟨("is_deed", none), "is_deed", "is_deed", defArgs s_isDeed, defBody s_isDeed, defScope s_isDeed, [], []⟩
def d_plInit : He.DefD := ⟨("Plan", some "__init__"), "__init__", "Plan.__init__", defArgs s_plInit, defBody s_plInit, defScope s_plInit, [], []⟩
def d_chkPlan : He.DefD := ⟨("check_plan", none), "check_plan", "check_plan", defArgs s_chkPlan, defBody s_chkPlan, defScope s_chkPlan, [], []⟩
def d_moved : He.DefD := ⟨("moved", none), "moved", "moved", defArgs s_moved, defBody s_moved, defScope s_moved, [], []⟩
def d_counts : He.DefD := ⟨("counts", none), "counts", "counts", defArgs s_counts, defBody s_counts, defScope s_counts, [], []⟩
def d_does : He.DefD := ⟨("does", none), "does", "does", defArgs s_does, defBody s_does, defScope s_does, [], []⟩
def d_bInit : He.DefD := ⟨("Board", some "__init__"), "__init__", "Board.__init__", defArgs s_bInit, defBody s_bInit, defScope s_bInit, [], []⟩
def d_bCarr : He.DefD := ⟨("Board", some "carried"), "carried", "Board.carried", defArgs s_bCarr, defBody s_bCarr, defScope s_bCarr, [], []⟩
def d_leftB : He.DefD := ⟨("left_behind", none), "left_behind", "left_behind", defArgs s_leftB, defBody s_leftB, defScope s_leftB, [], []⟩
def d_slInit : He.DefD := ⟨("Slack", some "__init__"), "__init__", "Slack.__init__", defArgs s_slInit, defBody s_slInit, defScope s_slInit, [], []⟩
def d_covered : He.DefD := ⟨("covered", none), "covered", "covered", defArgs s_covered, defBody s_covered, defScope s_covered, [], []⟩
def d_chkRoom : He.DefD := ⟨("check_room", none), "check_room", "check_room", defArgs s_chkRoom, defBody s_chkRoom, defScope s_chkRoom, [], []⟩
def d_leftA : He.DefD := ⟨("left_after", none), "left_after", "left_after", defArgs s_leftA, defBody s_leftA, defScope s_leftA, [], []⟩
def d_sure : He.DefD := ⟨("sure", none), "sure", "sure", defArgs s_sure, defBody s_sure, defScope s_sure, [.int 0], []⟩
def d_lPool : He.DefD := ⟨("_law_pool", none), "_law_pool", "_law_pool", defArgs s_lPool, defBody s_lPool, defScope s_lPool, [], []⟩
def d_lDraw : He.DefD := ⟨("_law_draw", none), "_law_draw", "_law_draw", defArgs s_lDraw, defBody s_lDraw, defScope s_lDraw, [], []⟩
def d_lLaps : He.DefD := ⟨("_law_laps", none), "_law_laps", "_law_laps", defArgs s_lLaps, defBody s_lLaps, defScope s_lLaps, [], []⟩
def d_lRows : He.DefD := ⟨("_law_rows", none), "_law_rows", "_law_rows", defArgs s_lRows, defBody s_lRows, defScope s_lRows, [], []⟩
def d_lWorld : He.DefD := ⟨("_law_world", none), "_law_world", "_law_world", defArgs s_lWorld, defBody s_lWorld, defScope s_lWorld, [], []⟩
def d_lPart : He.DefD := ⟨("_law_part", none), "_law_part", "_law_part", defArgs s_lPart, defBody s_lPart, defScope s_lPart, [], []⟩
def d_lTable : He.DefD := ⟨("_law_table", none), "_law_table", "_law_table", defArgs s_lTable, defBody s_lTable, defScope s_lTable, [], []⟩
def d_lLift : He.DefD := ⟨("_law_lift", none), "_law_lift", "_law_lift", defArgs s_lLift, defBody s_lLift, defScope s_lLift, [], []⟩
def d_lKeeps : He.DefD := ⟨("_law_keeps", none), "_law_keeps", "_law_keeps", defArgs s_lKeeps, defBody s_lKeeps, defScope s_lKeeps, [], []⟩
def d_lTables : He.DefD := ⟨("_law_tables", none), "_law_tables", "_law_tables", defArgs s_lTables, defBody s_lTables, defScope s_lTables, [], []⟩
def d_lSpan : He.DefD := ⟨("_law_span", none), "_law_span", "_law_span", defArgs s_lSpan, defBody s_lSpan, defScope s_lSpan, [], []⟩
def d_lModel : He.DefD := ⟨("_law_model", none), "_law_model", "_law_model", defArgs s_lModel, defBody s_lModel, defScope s_lModel, [], []⟩
def d_lReal : He.DefD := ⟨("_law_real", none), "_law_real", "_law_real", defArgs s_lReal, defBody s_lReal, defScope s_lReal, [], []⟩
def d_lBlur : He.DefD := ⟨("_law_blurred", none), "_law_blurred", "_law_blurred", defArgs s_lBlur, defBody s_lBlur, defScope s_lBlur, [], []⟩
def d_lLaw : He.DefD := ⟨("law", none), "law", "law", defArgs s_lLaw, defBody s_lLaw, defScope s_lLaw, [], []⟩
def fn : List He.DefD := [d_isInt, d_isRow, d_isPlace, d_chkRound, d_isPair, d_chkRows, d_rowsT, d_leastP, d_tInit, d_tRests, d_tLift, d_tEven, d_isWord, d_chkEven, d_pInit, d_pItem, d_pRests, d_isDeed, d_plInit, d_chkPlan, d_moved, d_counts, d_does, d_bInit, d_bCarr, d_leftB, d_slInit, d_covered, d_chkRoom, d_leftA, d_sure, d_lPool, d_lDraw, d_lLaps, d_lRows, d_lWorld, d_lPart, d_lTable, d_lLift, d_lKeeps, d_lTables, d_lSpan, d_lModel, d_lReal, d_lBlur, d_lLaw]
def fa : List He.Fa := [.glo "is_integer", .glo "is_row", .glo "is_place", .glo "check_round", .glo "is_pair", .glo "checked_rows", .glo "rows_turned", .glo "least_period", .glo "is_word", .glo "check_even", .glo "is_deed", .glo "check_plan", .glo "moved", .glo "counts", .glo "does", .glo "left_behind", .glo "covered", .glo "check_room", .glo "left_after", .glo "sure", .glo "_law_pool", .glo "_law_draw", .glo "_law_laps", .glo "_law_rows", .glo "_law_world", .glo "_law_part", .glo "_law_table", .glo "_law_lift", .glo "_law_keeps", .glo "_law_tables", .glo "_law_span", .glo "_law_model", .glo "_law_real", .glo "_law_blurred", .glo "law", .glo "Turning", .glo "Part", .glo "Plan", .glo "Board", .glo "Slack", .free "isinstance", .free "int", .free "bool", .free "list", .free "tuple", .free "len", .free "enumerate", .free "sorted", .free "range", .free "divmod", .free "min", .free "max", .free "set", .free "str", .int "MOST_ROUND" 360, .int "MOST_ROWS" 12, .int "MOST_SLACK" 60, .int "MOST_DEEDS" 400, .cls "Turning", .mkr "Turning", .noat "Turning" "around", .noat "Turning" "rows", .noat "Turning" "_period", .cls "Part", .mkr "Part", .noat "Part" "around", .noat "Part" "_shown", .noat "Part" "_turnings", .cls "Plan", .mkr "Plan", .noat "Plan" "around", .noat "Plan" "deeds", .cls "Board", .mkr "Board", .noat "Board" "source", .noat "Board" "span", .noat "Board" "spots", .noat "Board" "slots", .noat "Board" "found", .cls "Slack", .mkr "Slack", .noat "Slack" "rest", .noat "Slack" "border", .meth "Turning" "rests", .meth "Turning" "lifted", .meth "Turning" "is_even", .meth "Part" "rests", .meth "Part" "__getitem__", .meth "Board" "carried"]
def pd : List PropD := [⟨"Turning", "period", s_tPer⟩, ⟨"Part", "words", s_pWords⟩, ⟨"Part", "period", s_pPer⟩]
def ex (K : PySem.W.Frag) : Bool := He.eqO (PySem.W.nsIn K mainGlobals "lcm") (some (some (.builtin "math.lcm"))) && (He.tupB K "WORDS" [.str "push", .str "squeeze"] && (PySem.W.fnIn K (He.ma K (He.ga K "Part") "__getitem__") && PySem.W.nsIn K mainGlobals "WORDS" == some (some (.ref (He.ga K "WORDS")))))
abbrev R : PySem.W.OpenRow := PySem.W.OpenLaw.row PySem.Challenge.rw_jawturns_k79_whole_real_standings
abbrev hk : PySem.W.Hook := hookJ fa fn pd ex
def ob (s : PySem.W.SharedT) : AlJ := obsJG fa fn pd ex (HeadRun.getT s)
theorem ob_eq (s : PySem.W.SharedT) : ob s = hk.obs s.abs := obsJG_eq (HeadRun.getT_eq s)
def names0 : List PySem.Str := ["_wall", "JawError", "BadRound", "BadRows", "BadTurn", "BadStanding", "BadWord", "BadSlack", "BadPlan", "MOST_ROUND", "MOST_ROWS", "MOST_WIDTH", "is_integer", "is_row", "is_place", "check_round", "is_pair", "checked_rows", "rows_turned", "least_period", "Turning", "WORDS", "is_word", "checked_widths", "check_even", "Part", "MOST_DEEDS", "is_deed", "Plan", "repeated"]
def names1 : List PySem.Str := ["check_plan", "moved", "counts", "does", "Board", "left_behind", "MOST_SLACK", "Slack", "covered", "check_room", "left_after", "sure", "_law_pool", "_law_draw", "_law_laps", "_law_rows", "_law_world", "_law_part", "_law_table", "_law_lift", "_law_keeps", "_law_tables", "_law_span", "_law_model", "_law_real", "_law_blurred"]
abbrev names : List PySem.Str := names0 ++ names1
end Jaw

/-! ## HdRun -/
set_option Elab.async false
set_option linter.all false
set_option maxRecDepth 100000
set_option maxHeartbeats 0
namespace Jaw
open PySem L2 PyProof.Rows
theorem run (w : World) : HeadRun.RunEqI R (PySem.W.view R.prog [0, 65]) hk ob 8000 names w := by
  unfold HeadRun.RunEqI
  kernel_rfl
end Jaw

/-! ## Cm -/
set_option Elab.async false
set_option linter.all false
set_option maxRecDepth 100000
set_option maxHeartbeats 4000000
namespace Jaw
open PySem PySem.Spec PyProof.Rows L2
/-! ### a def of the module by its facts -/
structure Fd (K : PySem.W.Frag) (mg : Str → Option Value) (x : Str) (st : Stmt) (dv : List V) : Prop where
  ex : ∃ f fd, FunD K x x (defArgs st) (defBody st) (defScope st) dv [] f fd ∧ mg x = some (.ref f)
structure Md (K : PySem.W.Frag) (C : Addr) (m qual : Str) (st : Stmt) : Prop where
  ex : ∃ f fd, FunD K m qual (defArgs st) (defBody st) (defScope st) [] [] f fd ∧ Meth K C m f
structure Id (K : PySem.W.Frag) (C : Addr) (qual : Str) (st : Stmt) (dv : List V) : Prop where
  ex : ∃ f fd, FunD K "__init__" qual (defArgs st) (defBody st) (defScope st) dv [] f fd ∧ Mk K C f
structure Pd (K : PySem.W.Frag) (C : Addr) (m qual : Str) (st : Stmt) : Prop where
  ex : ∃ p f fd, FunD K m qual (defArgs st) (defBody st) (defScope st) [] [] f fd ∧ PropOf K C m p f
/-- how the written parameters bind -/
def Bd (ps : List Str) (x : Str) (st : Stmt) : Prop := ∀ (kV doc pm : Value) (an : Option Addr) (cdv ct : Value) (qual : Str) (us : List Value), us.length = ps.length →
  bindArgs (PySem.W.fnOf x qual (defArgs st) (defBody st) (defScope st) .none kV doc pm an cdv ct) ⟨us, []⟩ = pure (ps.zip us)
section
variable {P : Program} {w : World} {K : PySem.W.Frag} {mg : Str → Option Value} {base : Heap}
/-- what is asked of a body -/
def Body (P : Program) (w : World) (K : PySem.W.Frag) (mg : Str → Option Value) (base : Heap) (N : List Str) (qual : Str) (st : Stmt) (k : Nat) (sp : Sp) : Prop :=
  ∀ (f : Addr) (cdv : Value) (A : Around) (outer : List Env) (s : Shared) (H : Hp) (vs : List V) (Q : VK) (E : XK), Room k (A.deeper (envOfC qual (defScope st) s.heap.objs.size f cdv)) → sp vs H Q E →
    ∃ t, PSs (cxOf CX0 P w K mg base N qual (defScope st) f cdv A outer s H E).nox (defBody st) t ∧ t { nx := fun _ H' => Q .non H', rt := Q } (start N vs) H
theorem cal_of {x : Str} {st : Stmt} {N ps : List Str} {k : Nat} {sp : Sp} (F : Fd K mg x st []) (S : FnScope N ps (defScope st)) (b : Bd ps x st) (len : ∀ vs H Q E, sp vs H Q E → vs.length = ps.length)
    (h : Body P w K mg base N x st k sp) : C8.Cal P w K mg base (k + 1) x sp [] := by
  obtain ⟨f, fd, F, hm⟩ := F.ex
  refine ⟨f, fd, ps, [], F.ok S len fun cdv A outer s H vs Q E hr hs => ?_, hm, F.kp, F.bindsN fun kV doc pm an cdv ct us hl => b kV doc pm an cdv ct x us hl, .nil⟩
  obtain ⟨t, h1, h2⟩ := h f cdv A outer s H vs Q E hr hs
  exact ⟨t, h1.nox, h2⟩
theorem met_of {x qual : Str} {C : Addr} {st : Stmt} {N ps : List Str} {k : Nat} {sp : Sp} (c : Cls K C) (F : Md K C x qual st) (S : FnScope N ps (defScope st)) (b : Bd ps x st) (len : ∀ vs H Q E, sp vs H Q E → vs.length = ps.length)
    (h : Body P w K mg base N qual st k sp) : C8.Met P w K mg base (k + 1) C x sp [] := by
  obtain ⟨f, fd, F, hm⟩ := F.ex
  refine ⟨f, fd, ps, [], c, hm, F.ok S len fun cdv A outer s H vs Q E hr hs => ?_, F.bindsN fun kV doc pm an cdv ct us hl => b kV doc pm an cdv ct qual us hl, .nil⟩
  obtain ⟨t, h1, h2⟩ := h f cdv A outer s H vs Q E hr hs
  exact ⟨t, h1.nox, h2⟩
theorem mak_of {x qual : Str} {C : Addr} {st : Stmt} {N ps : List Str} {k : Nat} {sp : Sp} (F : Id K C qual st []) (hm : mg x = some (.ref C)) (S : FnScope N ps (defScope st)) (b : Bd ps "__init__" st) (len : ∀ vs H Q E, sp vs H Q E → vs.length = ps.length)
    (h : Body P w K mg base N qual st k sp) : C8.Mak P w K mg base (k + 1) x C sp [] := by
  obtain ⟨f, fd, F, mk⟩ := F.ex
  refine ⟨f, fd, ps, [], mk, F.ok S len fun cdv A outer s H vs Q E hr hs => ?_, hm, F.bindsN fun kV doc pm an cdv ct us hl => b kV doc pm an cdv ct qual us hl, .nil⟩
  obtain ⟨t, h1, h2⟩ := h f cdv A outer s H vs Q E hr hs
  exact ⟨t, h1.nox, h2⟩
/-- a property of the class at C -/
structure Pro (P : Program) (w : World) (K : PySem.W.Frag) (mg : Str → Option Value) (base : Heap) (k : Nat) (C : Addr) (m : Str) (sp : Sp) : Prop where
  ex : ∃ (p g : Addr) (fd : FuncData), Cls K C ∧ PropOf K C m p g ∧ FnOk P w K mg base CX0 k g fd ["self"] sp ∧ Binds K fd ["self"] []
theorem pro_of {x qual : Str} {C : Addr} {st : Stmt} {N : List Str} {k : Nat} {sp : Sp} (c : Cls K C) (F : Pd K C x qual st) (S : FnScope N ["self"] (defScope st)) (b : Bd ["self"] x st) (len : ∀ vs H Q E, sp vs H Q E → vs.length = 1)
    (h : Body P w K mg base N qual st k sp) : Pro P w K mg base (k + 1) C x sp := by
  obtain ⟨p, f, fd, F, hm⟩ := F.ex
  refine ⟨p, f, fd, c, hm, F.ok S len fun cdv A outer s H vs Q E hr hs => ?_, F.bindsN fun kV doc pm an cdv ct us hl => b kV doc pm an cdv ct qual us hl⟩
  obtain ⟨t, h1, h2⟩ := h f cdv A outer s H vs Q E hr hs
  exact ⟨t, h1.nox, h2⟩
/-- an own subscript -/
structure Itm (P : Program) (w : World) (K : PySem.W.Frag) (mg : Str → Option Value) (base : Heap) (k : Nat) (C : Addr) (sp : Sp) : Prop where
  ex : ∃ (f : Addr) (fd : FuncData), Cls K C ∧ Meth K C "__getitem__" f ∧ PySem.W.fnIn K f = true ∧ FnOk P w K mg base CX0 k f fd ["self", "at"] sp ∧ Binds K fd ["self", "at"] []
theorem itm_of {qual : Str} {C : Addr} {st : Stmt} {N : List Str} {k : Nat} {sp : Sp} (c : Cls K C) (F : Md K C "__getitem__" qual st) (hf : ∀ f, Meth K C "__getitem__" f → PySem.W.fnIn K f = true) (S : FnScope N ["self", "at"] (defScope st)) (b : Bd ["self", "at"] "__getitem__" st) (len : ∀ vs H Q E, sp vs H Q E → vs.length = 2)
    (h : Body P w K mg base N qual st k sp) : Itm P w K mg base (k + 1) C sp := by
  obtain ⟨f, fd, F, hm⟩ := F.ex
  refine ⟨f, fd, c, hm, hf f hm, F.ok S len fun cdv A outer s H vs Q E hr hs => ?_, F.bindsN fun kV doc pm an cdv ct us hl => b kV doc pm an cdv ct qual us hl⟩
  obtain ⟨t, h1, h2⟩ := h f cdv A outer s H vs Q E hr hs
  exact ⟨t, h1.nox, h2⟩
end
/-! ### rules -/
section
variable {X : Cx} {CX : CXT} {j k : Nat} {C a : Addr} {m : Str} {sp : Sp} {E : XK} {e e2 : Expr} {pos : Pos} {ta tb : TE}
theorem pe_pr (c : Pro X.prog X.w X.K X.mg X.base k C m sp) (hr : Room j X.A) (hk : k + 1 ≤ j) (he : PE X e ta) (hab : attributeBase e m X.env (eval e X.env) = eval e X.env := by rfl) : PE X (.Attribute e m pos) (tProp C sp [] E0 ta) := by
  obtain ⟨p, g, fd, cl, hp, F, b⟩ := c.ex
  exact pe_prop he cl hp F (hr.mono hk) b .nil pass0 hab
def tItm (C : Addr) (sp : Sp) (ta tb : TE) : TE := fun σ H Q => ta σ H fun x H1 => tb σ H1 fun y H2 => ∃ a dx fs, x = .ref a ∧ H2 a = some (.ins C dx fs) ∧ sp [.ref a, y] H2 Q E0
/-- o[i], o of an own class with __getitem__ -/
theorem pe_im (c : Itm X.prog X.w X.K X.mg X.base k C sp) (hr : Room j X.A) (hk : k + 1 ≤ j) (ha : PE X e ta) (hb : PE X e2 tb)
    (hsl : ∀ o i, subscripted e2 true o i = runValue (.builtin "lifetime.subscript" ⟨[o, i], []⟩) := by intros; rfl) : PE X (.Subscript e e2 pos) (tItm C sp ta tb) := by
  obtain ⟨f, fd, cl, hm, hfi, F, b⟩ := c.ex
  refine ⟨fun pins s σ H Q I h => ?_⟩
  refine Subscript_ (binT ha hb I h fun v u s2 x y H2 I2 rx ry q => ?_)
  obtain ⟨p, dx, fs, rfl, hp, q⟩ := q
  obtain rfl : v = Value.ref p := rx
  obtain ⟨mA, O, _, _, _, _⟩ := ins_get I2.hok hp
  obtain ⟨od, J, _⟩ := O.look
  obtain ⟨m, Fr⟩ := I2.fr
  refine PySem.W.sub_K Fr I2.ok.mod.kin J hm.at_ hfi hm.fn (wpAny_call ?_) (hsl _ _)
  refine codeAny_mono (F.run X.A.in1 X.stack s2 H2 ⟨[.ref p, u], []⟩ [.ref p, u] [.ref p, y] Q E0 (hr.mono hk).in1 I2.env0.in1 (b _ [.ref p, u] I2.kIn rfl) (.cons rfl (.cons ry .nil)) q) fun r s' hq => ?_
  cases r with
  | error er => exact False.elim hq
  | ok fl =>
    cases fl with
    | ret u => exact I2.after hq
    | next => exact False.elim hq
    | brk => exact False.elim hq
    | cont => exact False.elim hq
/-- an expression that is never asked -/
def tNo : TE := fun _ _ _ => False
theorem pe_no : PE X e tNo := ⟨fun _ _ _ _ _ _ h => h.elim⟩
/-! ### math.lcm -/
def rLcm : List V → Hp → VK → Prop := fun vs H Q => ∃ a b : Int, vs = [.int a, .int b] ∧ 0 < a ∧ a < 1000 ∧ 0 < b ∧ b < 1000 ∧ Q (.int ((Nat.lcm a.natAbs b.natAbs : Nat) : Int)) H
theorem cr_lcm : CallR X (.builtin "math.lcm") rLcm := by
  intro pins s σ H vs us Q I r h
  obtain ⟨a, b, rfl, a0, a1, b0, b1, q⟩ := h
  obtain ⟨t, u, rfl⟩ := Vals.int2 r
  have hl : Nat.lcm a.natAbs b.natAbs ≤ a.natAbs * b.natAbs := by
    unfold Nat.lcm
    exact Nat.div_le_self _ _
  have h2 : a.natAbs * b.natAbs ≤ 1000 * 1000 := Nat.mul_le_mul (by omega) (by omega)
  refine PySem.W.mg_lcm_v (c := ((Nat.lcm a.natAbs b.natAbs : Nat) : Int)) (by omega) (by omega) (by rw [Nat.lcm_one_left]) ?_ ⟨.int _, H, I.tok _, ⟨_, rfl⟩, q⟩
  have h3 : (((Nat.lcm a.natAbs b.natAbs : Nat) : Int)).natAbs < 2 ^ 20 := by
    rw [Int.natAbs_natCast]
    exact Nat.lt_of_le_of_lt (Nat.le_trans hl h2) (by decide)
  have h4 : (((Nat.lcm a.natAbs b.natAbs : Nat) : Int)).natAbs.log2 ≤ 20 := by
    by_cases z : (((Nat.lcm a.natAbs b.natAbs : Nat) : Int)).natAbs = 0
    · rw [z]; decide
    · exact Nat.le_of_lt ((Nat.log2_lt z).mpr h3)
  exact Nat.lt_of_le_of_lt h4 (by decide)
end
end Jaw

/-! ## St -/
set_option Elab.async false
set_option linter.all false
set_option maxRecDepth 100000
set_option maxHeartbeats 4000000
namespace Jaw
open PySem PySem.Spec PyProof.Rows L2
/-! ### steps of a reading -/
section
variable {σ : L2.St} {H : Hp} {Q : VK} {QB : Bool → Hp → Prop} {QA : List V → Hp → Prop} {D : Ends} {i : Nat} {v x y : V} {ta tb te tc : TE} {r r' : R2} {t u : TS} {tt uu : TT} {g : TG} {ts tr : TA} {K : PySem.W.Frag}
theorem g_seq (h : t { D with nx := u D } σ H) : tSeq t u D σ H := h
theorem g_set (h : te σ H fun x H1 => D.nx (σ.set i (some x)) H1) : tAsg te (gName i) D σ H := h
theorem g_asg (h : te σ H fun x H1 => g x σ H1 D.nx) : tAsg te g D σ H := h
theorem g_drop (h : te σ H fun _ H1 => D.nx σ H1) : tDrop te D σ H := h
theorem g_ret (h : te σ H D.rt) : tRet te D σ H := h
theorem g_retN (h : D.rt .non H) : tRetN D σ H := h
theorem g_ifs (h : tt σ H fun b H1 => if b = true then t D σ H1 else u D σ H1) : tIfS tt t u D σ H := h
theorem g_next (h : D.nx σ H) : tNext D σ H := h
theorem g_brk (h : D.bk σ H) : tBreak D σ H := h
theorem g_cont (h : D.ct σ H) : tCont D σ H := h
theorem g_var (h : ∃ v, σ[i]? = some (some v) ∧ Q v H) : tVar i σ H Q := h
theorem g_c (h : Q v H) : tC v σ H Q := h
theorem g_op (h : ta σ H fun x H1 => tb σ H1 fun y H2 => r x y H2 Q) : tOp r ta tb σ H Q := h
theorem g_un {r : V → Hp → VK → Prop} (h : ta σ H fun x H1 => r x H1 Q) : tUn r ta σ H Q := h
theorem g_rI0 {f : Int → Int → V} {i j : Int} (h : Q (f i j) H) : rI0 f (.int i) (.int j) H Q := ⟨i, j, rfl, rfl, h⟩
theorem g_rU {f : Int → V} {i : Int} (h : Q (f i) H) : rU f (.int i) H Q := ⟨i, rfl, h⟩
theorem g_rI {C : Int → Int → Prop} {f : Int → Int → V} {i j : Int} (c : C i j) (h : Q (f i j) H) : rI C f (.int i) (.int j) H Q := ⟨i, j, rfl, rfl, c, h⟩
theorem g_nil (h : QA [] H) : tNil σ H QA := h
theorem g_cons (h : ta σ H fun x H1 => tr σ H1 fun xs H2 => QA (x :: xs) H2) : tCons ta tr σ H QA := h
theorem g_cb {r : List V → Hp → VK → Prop} (h : ts σ H fun vs H1 => r vs H1 Q) : tCB r ts σ H Q := h
theorem g_call {sp : Sp} {dvs : List V} {E : XK} (h : ts σ H fun vs H1 => sp (vs ++ dvs) H1 Q E) : tCall sp dvs E ts σ H Q := h
theorem g_test (h : te σ H fun x H' => ∃ k, x = .bl k ∧ QB k H') : tTest te σ H QB := h
theorem g_tB (h : te σ H fun x H' => ∃ k, x = .bl k ∧ QB k H') : tB te σ H QB := h
theorem g_bl {b : Bool} {QP : Bool → Prop} (h : QP b) : ∃ k, V.bl b = .bl k ∧ QP k := ⟨b, rfl, h⟩
theorem g_and (h : tt σ H fun c H1 => if c = true then uu σ H1 QB else QB false H1) : tAnd tt uu σ H QB := h
theorem g_or (h : tt σ H fun c H1 => if c = true then QB true H1 else uu σ H1 QB) : tOr tt uu σ H QB := h
theorem g_not (h : tt σ H fun c H1 => QB (!c) H1) : tNot tt σ H QB := h
theorem g_andV (h : ta σ H fun x H1 => ∃ c, x = .bl c ∧ if c = true then tb σ H1 Q else Q (.bl false) H1) : tAndV ta tb σ H Q := h
theorem g_orV (h : ta σ H fun x H1 => ∃ c, x = .bl c ∧ if c = true then Q (.bl true) H1 else tb σ H1 Q) : tOrV ta tb σ H Q := h
theorem g_notV (h : ta σ H fun x H1 => ∃ c, x = .bl c ∧ Q (.bl (!c)) H1) : tNotV ta σ H Q := h
theorem g_ife (h : tt σ H fun c H1 => if c = true then ta σ H1 Q else tb σ H1 Q) : tIf tt ta tb σ H Q := h
theorem g_chain (h : ta σ H fun x H1 => tb σ H1 fun y H2 => r x y H2 fun z H3 => ∃ k, z = .bl k ∧ (if k = true then tc σ H3 fun w' H4 => r' y w' H4 Q else Q (.bl false) H3)) : tChain r r' ta tb tc σ H Q := h
theorem g_par {j : Nat} (h : ts σ H fun vs H1 => ∃ v w, vs = [v, w] ∧ D.nx ((σ.set i (some v)).set j (some w)) H1) : tPar i j ts D σ H := h
theorem g_tup (h : ts σ H fun xs H1 => xs.length ≤ sizeLine ∧ ∀ p, H1 p = none → Q (.ref p) (upd H1 p (.tup xs))) : tTup ts σ H Q := h
theorem g_lst (h : ts σ H fun xs H1 => xs.length ≤ sizeLine ∧ ∀ p, H1 p = none → Q (.ref p) (upd H1 p (.lst xs))) : tLst ts σ H Q := h
theorem g_small2 {a b : V} : [a, b].length ≤ sizeLine := by show 2 ≤ sizeLine; decide
theorem g_small1 {a : V} : [a].length ≤ sizeLine := by show 1 ≤ sizeLine; decide
theorem g_small0 : ([] : List V).length ≤ sizeLine := by show 0 ≤ sizeLine; decide
theorem g_small3 {a b c : V} : [a, b, c].length ≤ sizeLine := by show 3 ≤ sizeLine; decide
theorem g_fld {f : Str} (h : ta σ H fun x H1 => ∃ a C dx fs v, x = .ref a ∧ H1 a = some (.ins C dx fs) ∧ Cls K C ∧ NoAttr K C f ∧ fs.lookup f = some v ∧ Q v H1) : tFld K ta f σ H Q := h
theorem g_fld1 {f : Str} {a C dx : Addr} {fs : List (Str × V)} (h1 : H a = some (.ins C dx fs)) (c : Cls K C) (n : NoAttr K C f) (l : fs.lookup f = some v) (h : Q v H) :
    ∃ a' C' dx' fs' v', V.ref a = .ref a' ∧ H a' = some (.ins C' dx' fs') ∧ Cls K C' ∧ NoAttr K C' f ∧ fs'.lookup f = some v' ∧ Q v' H := ⟨a, C, dx, fs, v, rfl, h1, c, n, l, h⟩
theorem g_sfld {f : Str} {tv : TE} (h : tv σ H fun y H1 => ta σ H1 fun x H2 => ∃ a C dx fs, x = .ref a ∧ H2 a = some (.ins C dx fs) ∧ Cls K C ∧ NoAttr K C f ∧ fs.length < 1000 ∧ D.nx σ (upd H2 a (.ins C dx (putF f y fs)))) : sFld K ta tv f D σ H := h
theorem g_meth {C : Addr} {m : Str} {sp : Sp} {dvs : List V} {E : XK} (h : ta σ H fun x H1 => ∃ a dx fs, x = .ref a ∧ H1 a = some (.ins C dx fs) ∧ fs.lookup m = none ∧ ts σ H1 fun vs H2 => sp (x :: (vs ++ dvs)) H2 Q E) : tMeth C m sp dvs E ta ts σ H Q := h
theorem g_prop {C : Addr} {sp : Sp} {dvs : List V} {E : XK} (h : ta σ H fun x H1 => ∃ a dx fs, x = .ref a ∧ H1 a = some (.ins C dx fs) ∧ sp (.ref a :: dvs) H1 Q E) : tProp C sp dvs E ta σ H Q := h
theorem g_item {C : Addr} {sp : Sp} (h : ta σ H fun x H1 => tb σ H1 fun y H2 => ∃ a dx fs, x = .ref a ∧ H2 a = some (.ins C dx fs) ∧ sp [.ref a, y] H2 Q E0) : tItm C sp ta tb σ H Q := h
theorem g_eqI {i j : Int} (h : Q (.bl (decide (V.int i = V.int j))) H) : rEq (.int i) (.int j) H Q := ⟨rfl, h⟩
theorem g_neI {i j : Int} (h : Q (.bl (!decide (V.int i = V.int j))) H) : rNe (.int i) (.int j) H Q := ⟨rfl, h⟩
theorem g_nt {A B : Prop} (h : B) : if (!true) = true then A else B := (show (if (!true) = true then A else B) = B from if_neg (by decide)) ▸ h
theorem g_nf {A B : Prop} (h : A) : if (!false) = true then A else B := (show (if (!false) = true then A else B) = A from if_pos rfl) ▸ h
theorem iD {c A B : Prop} [Decidable c] (h : c) (q : A) : if decide c = true then A else B := by rw [decide_eq_true h]; exact iteT q
theorem iDn {c A B : Prop} [Decidable c] (h : ¬ c) (q : B) : if decide c = true then A else B := by rw [decide_eq_false h]; exact iteF q
theorem iN {c A B : Prop} [Decidable c] (h : c) (q : B) : if (!decide c) = true then A else B := by rw [decide_eq_true h]; exact g_nt q
theorem iNn {c A B : Prop} [Decidable c] (h : ¬ c) (q : A) : if (!decide c) = true then A else B := by rw [decide_eq_false h]; exact g_nf q
theorem iC {c A B : Prop} [Decidable c] (h1 : c → A) (h2 : ¬ c → B) : if decide c = true then A else B := by
  by_cases h : c
  · exact iD h (h1 h)
  · exact iDn h (h2 h)
theorem iCN {c A B : Prop} [Decidable c] (h1 : ¬ c → A) (h2 : c → B) : if (!decide c) = true then A else B := by
  by_cases h : c
  · exact iN h (h2 h)
  · exact iNn h (h1 h)
theorem vI {i j : Int} (h : i = j) : V.int i = V.int j := by rw [h]
theorem vIn {i j : Int} (h : i ≠ j) : V.int i ≠ V.int j := fun e => h (V.int.inj e)
theorem dec_I {i j : Int} : decide (V.int i = V.int j) = decide (i = j) := by
  by_cases h : i = j
  · subst h; rw [decide_eq_true rfl, decide_eq_true rfl]
  · rw [decide_eq_false h, decide_eq_false fun e => h (V.int.inj e)]
end
/-! ### loops and comprehensions, by an invariant -/
def LoopW (J : It) (g : TG) (tb : TS) (D : Ends) (σ : L2.St) (H1 : Hp) : Prop := ∃ W : Nat → Nat → L2.St → Hp → Prop, (∃ m, W 0 m σ H1) ∧ ∀ i m σ H, W i m σ H →
  (J.stop i H ∧ D.nx σ H) ∨ (J.go i H ∧ ∃ N : L2.St → Hp → Prop, (∀ σ' H', N σ' H' → ∃ m', m' < m ∧ W (i + 1) m' σ' H') ∧ ∀ x H', J.yld i H x H' → g x σ H' fun σ2 H2 => tb { D with nx := N, ct := N, bk := D.nx } σ2 H2)
def LcW (J : It) (g : TG) (tt : TT) (te : TE) (vs : List Nat) (σ : L2.St) (Dd : Addr) (H1 : Hp) (Q : VK) : Prop := ∃ W : Nat → Nat → Hp → Prop, (∃ m, W 0 m (upd H1 Dd (.lst []))) ∧ ∀ i m H, W i m H →
  (J.stop i H ∧ Q (.ref Dd) H) ∨ (J.go i H ∧ ∃ Nx : Hp → Prop, (∀ H', Nx H' → ∃ m', m' < m ∧ W (i + 1) m' H') ∧ ∀ x H', J.yld i H x H' → g x (wipe σ vs) H' fun σ2 H2 => wipe σ2 vs = wipe σ vs ∧ tt σ2 H2 fun b H3 =>
    if b = true then te σ2 H3 fun y H4 => ∃ acc, H4 Dd = some (.lst acc) ∧ acc.length < sizeLine ∧ Nx (upd H4 Dd (.lst (acc ++ [y]))) else Nx H3)
section
variable {σ : L2.St} {H : Hp} {Q : VK} {D : Ends} {g : TG} {tb : TS} {wi : TI} {te : TE} {tt : TT} {K : PySem.W.Frag} {vs : List Nat} {a : Addr} {xs : List V} {J : It} {Dd : Addr}
theorem g_for (h : wi σ H fun J H1 => LoopW J g tb D σ H1) : tFor wi g tb D σ H := h
theorem g_lc (h : wi σ H fun J H1 => ∀ Dd, H1 Dd = none → LcW J g tt te vs σ Dd H1 Q) : tLc wi g tt te vs σ H Q := h
theorem g_iE {ts : TA} {R : It → Hp → Prop} (h : ts σ H fun vs H1 => ∃ a xs, vs = [.ref a] ∧ SqL K H1 a xs ∧ R (Ite K a) H1) : iEnum K ts σ H R := h
theorem g_iL {R : It → Hp → Prop} (h : te σ H fun x H1 => ∃ a, x = .ref a ∧ (∃ xs, SqL K H1 a xs) ∧ R (Itl K a) H1) : iList K te σ H R := h
theorem g_iT {R : It → Hp → Prop} (h : te σ H fun x H1 => ∃ a, x = .ref a ∧ (∃ xs, SqT K H1 a xs) ∧ R (Itt K a) H1) : iTup K te σ H R := h
theorem g_iR1 {ts : TA} {R : It → Hp → Prop} (h : ts σ H fun vs H1 => ∃ j : Int, vs = [.int j] ∧ -(2 ^ 62) ≤ j ∧ j < 2 ^ 62 ∧ R (Itr 0 j.toNat) H1) : iRng1 ts σ H R := h
theorem g_iR2 {ts : TA} {R : It → Hp → Prop} (h : ts σ H fun vs H1 => ∃ i j : Int, vs = [.int i, .int j] ∧ (-(2 ^ 62) ≤ i ∧ i < 2 ^ 62 ∧ -(2 ^ 62) ≤ j ∧ j < 2 ^ 62) ∧ R (Itr i (j - i).toNat) H1) : iRng2 ts σ H R := h
theorem g_iV {R : It → Hp → Prop} (h : te σ H fun x H1 => ∃ d o kvs, x = .ref d ∧ H1 d = some (.frz o (.dK kvs)) ∧ R (Itd d o kvs) H1) : iVals te σ H R := h
theorem g_iK {R : It → Hp → Prop} (h : te σ H fun x H1 => ∃ d o, x = .ref d ∧ ((∃ kvs, H1 d = some (.frz o (.dK kvs)) ∧ R (Itk d o kvs) H1) ∨ ∃ kvs, H1 d = some (.frz o (.dT kvs)) ∧ R (Itkt d o kvs) H1)) : iKeys te σ H R := h
theorem loopE (Pv : Nat → L2.St → Hp → Prop) (h0 : Pv 0 σ H) (hG : ∀ i σ H, Pv i σ H → SqL K H a xs)
    (ht : ∀ i x T σ H, xs[i]? = some x → Pv i σ H → H T = none → g (.ref T) σ (upd H T (.tup [.int (i : Nat), x])) fun σ2 H2 => tb { D with nx := Pv (i + 1), ct := Pv (i + 1), bk := D.nx } σ2 H2) (hd : ∀ σ H, Pv xs.length σ H → D.nx σ H) : LoopW (Ite K a) g tb D σ H := by
  refine for_it (walk_enum (xs := xs)) Pv h0 (fun i σ H _ p => hG i σ H p) (fun i x σ H H' hi p y => ?_) hd
  obtain ⟨T, u, v, rfl, hT, rfl, e1, e2⟩ := y
  cases e1
  exact ht i v T σ H e2 p hT
theorem loopL (Pv : Nat → L2.St → Hp → Prop) (h0 : Pv 0 σ H) (hG : ∀ i σ H, Pv i σ H → SqL K H a xs) (ht : ∀ i x σ H, xs[i]? = some x → Pv i σ H → g x σ H fun σ2 H2 => tb { D with nx := Pv (i + 1), ct := Pv (i + 1), bk := D.nx } σ2 H2)
    (hd : ∀ σ H, Pv xs.length σ H → D.nx σ H) : LoopW (Itl K a) g tb D σ H := for_list (xs := xs) Pv h0 (fun i σ H _ p => hG i σ H p) (fun i x σ H e p => ht i x σ H e p) hd
theorem loopT (Pv : Nat → L2.St → Hp → Prop) (h0 : Pv 0 σ H) (hG : ∀ i σ H, Pv i σ H → SqT K H a xs) (ht : ∀ i x σ H, xs[i]? = some x → Pv i σ H → g x σ H fun σ2 H2 => tb { D with nx := Pv (i + 1), ct := Pv (i + 1), bk := D.nx } σ2 H2)
    (hd : ∀ σ H, Pv xs.length σ H → D.nx σ H) : LoopW (Itt K a) g tb D σ H := for_tup (xs := xs) Pv h0 (fun i σ H _ p => hG i σ H p) (fun i x σ H e p => ht i x σ H e p) hd
theorem loopR {lo : Int} {n : Nat} (Pv : Nat → L2.St → Hp → Prop) (h0 : Pv 0 σ H) (ht : ∀ i σ H, i < n → Pv i σ H → g (.int (lo + i)) σ H fun σ2 H2 => tb { D with nx := Pv (i + 1), ct := Pv (i + 1), bk := D.nx } σ2 H2)
    (hd : ∀ σ H, Pv n σ H → D.nx σ H) : LoopW (Itr lo n) g tb D σ H := for_range Pv h0 ht hd
theorem loopV {d : Addr} {o : Obj} {kvs : List (Key × V)} (Pv : Nat → L2.St → Hp → Prop) (h0 : Pv 0 σ H) (hG : ∀ i σ H, Pv i σ H → H d = some (.frz o (.dK kvs))) (ht : ∀ i k x σ H, kvs[i]? = some (k, x) → Pv i σ H → g x σ H fun σ2 H2 => tb { D with nx := Pv (i + 1), ct := Pv (i + 1), bk := D.nx } σ2 H2)
    (hd : ∀ σ H, Pv kvs.length σ H → D.nx σ H) : LoopW (Itd d o kvs) g tb D σ H := by
  refine for_it (walk_values (kvs := kvs)) Pv h0 (fun i σ H _ p => hG i σ H p) (fun i x σ H H' hi p y => ?_) hd
  obtain ⟨rfl, k, e⟩ := y
  exact ht i k x σ _ e p
theorem loopK {d : Addr} {o : Obj} {kvs : List (Key × V)} (Pv : Nat → L2.St → Hp → Prop) (h0 : Pv 0 σ H) (hG : ∀ i σ H, Pv i σ H → H d = some (.frz o (.dK kvs))) (ht : ∀ i k v σ H, kvs[i]? = some (k, v) → Pv i σ H → g (kV k) σ H fun σ2 H2 => tb { D with nx := Pv (i + 1), ct := Pv (i + 1), bk := D.nx } σ2 H2)
    (hd : ∀ σ H, Pv kvs.length σ H → D.nx σ H) : LoopW (Itk d o kvs) g tb D σ H := by
  refine for_it (walk_keys (kvs := kvs)) Pv h0 (fun i σ H _ p => hG i σ H p) (fun i x σ H H' hi p y => ?_) hd
  obtain ⟨rfl, k, v, e, rfl⟩ := y
  exact ht i k v σ _ e p
/-- what a comprehension's turn is asked -/
def LcT (g : TG) (tt : TT) (te : TE) (vs : List Nat) (σ : L2.St) (Dd : Addr) (x : V) (H : Hp) (N : Hp → Prop) : Prop := g x (wipe σ vs) H fun σ2 H2 => wipe σ2 vs = wipe σ vs ∧ tt σ2 H2 fun b H3 =>
  if b = true then te σ2 H3 fun y H4 => ∃ acc, H4 Dd = some (.lst acc) ∧ acc.length < sizeLine ∧ N (upd H4 Dd (.lst (acc ++ [y]))) else N H3
theorem lcL (Pv : Nat → Hp → Prop) (h0 : Pv 0 (upd H Dd (.lst []))) (hG : ∀ i H, Pv i H → SqL K H a xs) (ht : ∀ i x H, xs[i]? = some x → Pv i H → LcT g tt te vs σ Dd x H (Pv (i + 1))) (hd : ∀ H, Pv xs.length H → Q (.ref Dd) H) : LcW (Itl K a) g tt te vs σ Dd H Q :=
  lc_list (xs := xs) Pv h0 (fun i H _ p => hG i H p) (fun i x H e p => ht i x H e p) hd
theorem lcT (Pv : Nat → Hp → Prop) (h0 : Pv 0 (upd H Dd (.lst []))) (hG : ∀ i H, Pv i H → SqT K H a xs) (ht : ∀ i x H, xs[i]? = some x → Pv i H → LcT g tt te vs σ Dd x H (Pv (i + 1))) (hd : ∀ H, Pv xs.length H → Q (.ref Dd) H) : LcW (Itt K a) g tt te vs σ Dd H Q :=
  lc_tup (xs := xs) Pv h0 (fun i H _ p => hG i H p) (fun i x H e p => ht i x H e p) hd
theorem lcR {lo : Int} {n : Nat} (Pv : Nat → Hp → Prop) (h0 : Pv 0 (upd H Dd (.lst []))) (ht : ∀ i H, i < n → Pv i H → LcT g tt te vs σ Dd (.int (lo + i)) H (Pv (i + 1))) (hd : ∀ H, Pv n H → Q (.ref Dd) H) : LcW (Itr lo n) g tt te vs σ Dd H Q :=
  lc_range Pv h0 ht hd
/-- the targets -/
theorem lct_n {i : Nat} {x : V} {N : Hp → Prop} (hw : wipe ((wipe σ vs).set i (some x)) vs = wipe σ vs) (h : tt ((wipe σ vs).set i (some x)) H fun b H3 =>
    if b = true then te ((wipe σ vs).set i (some x)) H3 fun y H4 => ∃ acc, H4 Dd = some (.lst acc) ∧ acc.length < sizeLine ∧ N (upd H4 Dd (.lst (acc ++ [y]))) else N H3) : LcT (gName i) tt te vs σ Dd x H N := ⟨hw, h⟩
theorem lct_2 {i j : Nat} {t : Addr} {x y : V} {N : Hp → Prop} (ht : SqT K H t [x, y]) (hw : wipe (((wipe σ vs).set i (some x)).set j (some y)) vs = wipe σ vs) (h : tt (((wipe σ vs).set i (some x)).set j (some y)) H fun b H3 =>
    if b = true then te (((wipe σ vs).set i (some x)).set j (some y)) H3 fun y H4 => ∃ acc, H4 Dd = some (.lst acc) ∧ acc.length < sizeLine ∧ N (upd H4 Dd (.lst (acc ++ [y]))) else N H3) : LcT (gTup K 2 (gCons (gName i) (gCons (gName j) gNil))) tt te vs σ Dd (.ref t) H N :=
  ⟨t, [x, y], rfl, ht, rfl, x, [y], rfl, y, [], rfl, rfl, hw, h⟩
theorem g_yes {QB : Bool → Hp → Prop} (h : QB true H) : tYes σ H QB := h
theorem g_gn {i : Nat} {x : V} {Q : L2.St → Hp → Prop} (h : Q (σ.set i (some x)) H) : gName i x σ H Q := h
theorem g_g2 {i j : Nat} {t : Addr} {x y : V} {Q : L2.St → Hp → Prop} (ht : SqT K H t [x, y]) (h : Q ((σ.set i (some x)).set j (some y)) H) : gTup K 2 (gCons (gName i) (gCons (gName j) gNil)) (.ref t) σ H Q :=
  ⟨t, [x, y], rfl, ht, rfl, x, [y], rfl, y, [], rfl, rfl, h⟩
theorem g_g12 {i j l : Nat} {t u : Addr} {x y z : V} {Q : L2.St → Hp → Prop} (ht : SqT K H t [x, .ref u]) (hu : SqT K H u [y, z]) (h : Q (((σ.set i (some x)).set j (some y)).set l (some z)) H) :
    gTup K 2 (gCons (gName i) (gCons (gTup K 2 (gCons (gName j) (gCons (gName l) gNil))) gNil)) (.ref t) σ H Q :=
  ⟨t, [x, .ref u], rfl, ht, rfl, x, [.ref u], rfl, .ref u, [], rfl, u, [y, z], rfl, hu, rfl, y, [z], rfl, z, [], rfl, rfl, rfl, h⟩
end
local macro_rules | `(tactic| walk_at "st") => `(tactic| ((try (set_option simprocs false in dsimp only)); (repeat (first
  | with_reducible refine g_seq ?_
  | with_reducible refine g_set ?_
  | with_reducible refine g_asg ?_
  | with_reducible refine g_drop ?_
  | with_reducible refine g_ret ?_
  | with_reducible refine g_retN ?_
  | with_reducible refine g_ifs ?_
  | with_reducible refine g_next ?_
  | with_reducible refine g_brk ?_
  | with_reducible refine g_cont ?_
  | (with_reducible refine g_var ?_; refine ⟨_, rfl, ?_⟩)
  | with_reducible refine g_c ?_
  | with_reducible refine g_op ?_
  | with_reducible refine g_un ?_
  | with_reducible refine g_rI0 ?_
  | with_reducible refine g_rU ?_
  | with_reducible refine g_nil ?_
  | with_reducible refine g_cons ?_
  | with_reducible refine g_cb ?_
  | with_reducible refine g_call ?_
  | with_reducible refine g_test ?_
  | with_reducible refine g_tB ?_
  | with_reducible refine g_bl ?_
  | with_reducible refine g_and ?_
  | with_reducible refine g_or ?_
  | with_reducible refine g_not ?_
  | with_reducible refine g_andV ?_
  | with_reducible refine g_orV ?_
  | with_reducible refine g_notV ?_
  | with_reducible refine g_ife ?_
  | with_reducible refine g_chain ?_
  | with_reducible refine g_par ?_
  | with_reducible refine g_tup ?_
  | with_reducible refine g_lst ?_
  | with_reducible refine g_fld ?_
  | with_reducible refine g_meth ?_
  | with_reducible refine g_sfld ?_
  | with_reducible refine g_prop ?_
  | with_reducible refine g_item ?_
  | with_reducible refine g_eqI ?_
  | with_reducible refine g_neI ?_
  | with_reducible refine g_for ?_
  | with_reducible refine g_lc ?_
  | with_reducible refine g_iE ?_
  | with_reducible refine g_iL ?_
  | with_reducible refine g_iT ?_
  | with_reducible refine g_iR1 ?_
  | with_reducible refine g_iR2 ?_
  | with_reducible refine g_iV ?_
  | with_reducible refine g_iK ?_
  | with_reducible refine g_yes ?_
  | with_reducible refine g_gn ?_
  | with_reducible refine g_nt ?_
  | with_reducible refine g_nf ?_
  | with_reducible refine iteT ?_
  | with_reducible refine iteF ?_))))
/-! ### constants of the module, isinstance -/
section
variable {X : Cx}
theorem pe_gi {x : Str} {i : Int} {pos : Pos} (hg : Gl X x) (h : ∃ t, X.mg x = some (.int i t)) (hd : (x == ("__debug__" : Str)) = false := by decide) : PE X (.Name x pos) (tC (.int i)) := by
  obtain ⟨t, h⟩ := h
  exact pe_glob hg h ⟨t, rfl⟩ hd
variable {K : PySem.W.Frag} {H : Hp} {Q : VK}
theorem isi_ii {i : Int} (h : Q (.bl true) H) : rIsi K [.int i, .ty "int"] H Q := ⟨_, _, _, _, true, rfl, .ty _, .base (.int i), kit_ty (by decide +kernel), h⟩
theorem isi_ib {i : Int} (h : Q (.bl false) H) : rIsi K [.int i, .ty "bool"] H Q := ⟨_, _, _, _, false, rfl, .ty _, .base (.int i), kit_ty (by decide +kernel), h⟩
theorem isi_ss {i : Str} (h : Q (.bl true) H) : rIsi K [.str i, .ty "str"] H Q := ⟨_, _, _, _, true, rfl, .ty _, .base (.str i), kit_ty (by decide +kernel), h⟩
theorem isi_tt {a : Addr} {xs : List V} (ha : H a = some (.tup xs)) (h : Q (.bl true) H) : rIsi K [.ref a, .ty "tuple"] H Q := ⟨_, _, _, _, true, rfl, .ty _, .base (.tup ha), kit_ty (by decide +kernel), h⟩
theorem isi_ll {a : Addr} {xs : List V} (ha : H a = some (.lst xs)) (h : Q (.bl true) H) : rIsi K [.ref a, .ty "list"] H Q := ⟨_, _, _, _, true, rfl, .ty _, .base (.lst ha), kit_ty (by decide +kernel), h⟩
end
/-! ### within a comprehension -/
section
variable {X : Cx} {K : PySem.W.Frag} {o : Expr} {f : Str} {pos : Pos} {ta : TE}
theorem pe_fldK (hK : X.K = K) (he : PE X o ta) (hb : attributeBase o f X.env (eval o X.env) = eval o X.env) : PE X (.Attribute o f pos) (tFld K ta f) := hK ▸ pe_fld he hb
theorem ix_listK (hK : X.K = K) : IxR X (rIxL K) := hK ▸ ix_list
theorem ix_tupK (hK : X.K = K) : IxR X (rIxT K) := hK ▸ ix_tup
end
/-! ### what the top has made -/
structure Mod0 (K : PySem.W.Frag) (mg : Str → Option Value) : Prop where
  b_isinstance : mg "isinstance" = none
  b_int : mg "int" = none
  b_bool : mg "bool" = none
  b_str : mg "str" = none
  b_list : mg "list" = none
  b_tuple : mg "tuple" = none
  b_set : mg "set" = none
  b_len : mg "len" = none
  b_enumerate : mg "enumerate" = none
  b_sorted : mg "sorted" = none
  b_range : mg "range" = none
  b_divmod : mg "divmod" = none
  b_min : mg "min" = none
  b_max : mg "max" = none
  MOST_ROUND : ∃ t, mg "MOST_ROUND" = some (.int 360 t)
  MOST_ROWS : ∃ t, mg "MOST_ROWS" = some (.int 12 t)
  MOST_SLACK : ∃ t, mg "MOST_SLACK" = some (.int 60 t)
  MOST_DEEDS : ∃ t, mg "MOST_DEEDS" = some (.int 400 t)
  lcm : mg "lcm" = some (.builtin "math.lcm")
  WORDS : mg "WORDS" = some (.ref (He.ga K "WORDS"))
  words : ∀ H : Hp, SqT K H (He.ga K "WORDS") [.str "push", .str "squeeze"]
  cT : Cls K (He.ga K "Turning")
  cP : Cls K (He.ga K "Part")
  cL : Cls K (He.ga K "Plan")
  cB : Cls K (He.ga K "Board")
  cS : Cls K (He.ga K "Slack")
  nT : ∀ f ∈ (["around", "rows", "_period"] : List Str), NoAttr K (He.ga K "Turning") f
  nP : ∀ f ∈ (["around", "_shown", "_turnings"] : List Str), NoAttr K (He.ga K "Part") f
  nL : ∀ f ∈ (["around", "deeds"] : List Str), NoAttr K (He.ga K "Plan") f
  nB : ∀ f ∈ (["source", "span", "spots", "slots", "found"] : List Str), NoAttr K (He.ga K "Board") f
  nS : ∀ f ∈ (["rest", "border"] : List Str), NoAttr K (He.ga K "Slack") f
end Jaw

/-! ## M1 -/
set_option linter.all false
namespace Jaw

/-! ### remainders -/
theorem emod_uniq {x N q r : Int} (h : x = q * N + r) (h0 : 0 ≤ r) (h1 : r < N) : x % N = r ∧ x / N = q := by
  have hN : 0 < N := by omega
  subst h
  constructor
  · rw [Int.add_comm, Int.add_mul_emod_self_right, Int.emod_eq_of_lt h0 h1]
  · rw [Int.add_comm, Int.add_mul_ediv_right _ _ (by omega), Int.ediv_eq_zero_of_lt h0 h1]; omega
theorem euc (x : Int) {N : Int} (hN : 0 < N) : x = x / N * N + x % N ∧ 0 ≤ x % N ∧ x % N < N := by
  refine ⟨?_, Int.emod_nonneg _ (by omega), Int.emod_lt_of_pos _ hN⟩
  have := Int.mul_ediv_add_emod x N
  rw [Int.mul_comm] at this
  omega
/-- equal remainders: apart by a multiple -/
theorem emod_eq_iff {x y N : Int} (hN : 0 < N) : x % N = y % N ↔ ∃ k : Int, x = y + k * N := by
  constructor
  · intro h
    refine ⟨x / N - y / N, ?_⟩
    have a := (euc x hN).1
    have b := (euc y hN).1
    rw [Int.sub_mul]
    omega
  · rintro ⟨k, rfl⟩
    rw [Int.add_mul_emod_self_right]
theorem emod_shift {x y N : Int} (hN : 0 < N) (k : Int) (h : x = y + k * N) : x % N = y % N := (emod_eq_iff hN).mpr ⟨k, h⟩

/-! ### rows of a turning -/
abbrev Row := Int × Int
/-- a row's rest, on the lap of its begin -/
def up (N : Int) (p : Row) : Int := p.1 + (p.2 - p.1) % N

structure Valid (N : Int) (rows : List Row) : Prop where
  ne : rows ≠ []
  asc : rows.Pairwise (fun p q => p.1 < q.1)
  rng : ∀ p ∈ rows, 0 ≤ p.1 ∧ p.1 < N ∧ 0 ≤ p.2 ∧ p.2 < N
  low : ∀ p ∈ rows, ∀ q ∈ rows, p.1 < q.1 → up N p < q.1
  lap : ∀ p ∈ rows, ∀ q ∈ rows, up N p < q.1 + N

theorem Valid.pos {N : Int} {rows : List Row} (v : Valid N rows) : 0 < N := by
  cases rows with
  | nil => exact absurd rfl v.ne
  | cons p t => have := v.rng p (List.mem_cons_self ..); omega

/-- the lifted pairs -/
def Pr (N : Int) (rows : List Row) (B R : Int) : Prop := ∃ p ∈ rows, ∃ k : Int, B = p.1 + k * N ∧ R = up N p + k * N
/-- x comes to y -/
def Gr (N : Int) (rows : List Row) (x y : Int) : Prop := ∃ B, Pr N rows B y ∧ B ≤ x ∧ ∀ B' R', Pr N rows B' R' → B' ≤ x → B' ≤ B

section
variable {N : Int} {rows : List Row}
theorem Pr.le (v : Valid N rows) {B R : Int} (h : Pr N rows B R) : B ≤ R := by
  obtain ⟨p, hp, k, rfl, rfl⟩ := h
  have := Int.emod_nonneg (p.2 - p.1) (show N ≠ 0 by have := v.pos; omega)
  unfold up
  omega
theorem Pr.shift {B R : Int} (h : Pr N rows B R) (j : Int) : Pr N rows (B + j * N) (R + j * N) := by
  obtain ⟨p, hp, k, rfl, rfl⟩ := h
  exact ⟨p, hp, k + j, by rw [Int.add_mul]; omega, by rw [Int.add_mul]; omega⟩
/-- begins in order: ascending pairs -/
theorem asc_get {l : List Row} (h : l.Pairwise (fun p q => p.1 < q.1)) : ∀ p ∈ l, ∀ q ∈ l, p.1 = q.1 → p = q := by
  induction l with
  | nil => intro p hp; cases hp
  | cons a t ih =>
    rw [List.pairwise_cons] at h
    intro p hp q hq e
    rcases List.mem_cons.mp hp with rfl | hp2
    · rcases List.mem_cons.mp hq with rfl | hq2
      · rfl
      · have := h.1 q hq2; omega
    · rcases List.mem_cons.mp hq with rfl | hq2
      · have := h.1 p hp2; omega
      · exact ih h.2 p hp2 q hq2 e
theorem mul_lt_of {k l N : Int} (hN : 0 < N) (h : k < l) : k * N + N ≤ l * N := by
  have : (k + 1) * N ≤ l * N := Int.mul_le_mul_of_nonneg_right (by omega) (by omega)
  rw [Int.add_mul] at this
  omega
theorem Pr.apart (v : Valid N rows) {B R B' R' : Int} (h : Pr N rows B R) (h' : Pr N rows B' R') (l : B < B') : R < B' := by
  obtain ⟨p, hp, k, rfl, rfl⟩ := h
  obtain ⟨q, hq, j, rfl, rfl⟩ := h'
  have a := v.rng p hp
  have b := v.rng q hq
  have hN := v.pos
  rcases Int.lt_trichotomy k j with e | e | e
  · have := v.lap p hp q hq
    have := mul_lt_of hN e
    omega
  · subst e
    have := v.low p hp q hq (by omega)
    omega
  · have := mul_lt_of hN e
    omega
theorem Pr.fn (v : Valid N rows) {B R R' : Int} (h : Pr N rows B R) (h' : Pr N rows B R') : R = R' := by
  obtain ⟨p, hp, k, e1, rfl⟩ := h
  obtain ⟨q, hq, j, e2, rfl⟩ := h'
  have a := v.rng p hp
  have b := v.rng q hq
  have hN := v.pos
  rcases Int.lt_trichotomy k j with e | e | e
  · have := mul_lt_of hN e; omega
  · subst e
    have : p = q := asc_get v.asc p hp q hq (by omega)
    subst this; rfl
  · have := mul_lt_of hN e; omega
theorem Gr.fn (v : Valid N rows) {x y y' : Int} (h : Gr N rows x y) (h' : Gr N rows x y') : y = y' := by
  obtain ⟨B, p, l, m⟩ := h
  obtain ⟨B', p', l', m'⟩ := h'
  have e : B = B' := Int.le_antisymm (m' B y p l) (m B' y' p' l')
  subst e
  exact p.fn v p'
theorem Gr.mono (v : Valid N rows) {x x' y y' : Int} (h : Gr N rows x y) (h' : Gr N rows x' y') (l : x ≤ x') : y ≤ y' := by
  obtain ⟨B, p, l1, m⟩ := h
  obtain ⟨B', p', l', m'⟩ := h'
  have e : B ≤ B' := m' B y p (by omega)
  by_cases q : B = B'
  · subst q
    rw [p.fn v p']
    exact Int.le_refl _
  · have := p.apart v p' (by omega)
    have := p'.le v
    omega
theorem Gr.idem (v : Valid N rows) {x y : Int} (h : Gr N rows x y) : Gr N rows y y := by
  obtain ⟨B, p, l, m⟩ := h
  refine ⟨B, p, p.le v, fun B' R' p' l' => ?_⟩
  by_cases q : B' ≤ B
  · exact q
  · have := p.apart v p' (by omega)
    omega
theorem Gr.shift {x y : Int} (h : Gr N rows x y) (j : Int) : Gr N rows (x + j * N) (y + j * N) := by
  obtain ⟨B, p, l, m⟩ := h
  refine ⟨B + j * N, p.shift j, by omega, fun B' R' p' l' => ?_⟩
  have := m _ _ (p'.shift (-j)) (by rw [Int.neg_mul]; omega)
  rw [Int.neg_mul] at this
  omega
/-- begins tell themselves: a place where the map jumps over it -/
theorem Gr.begin_iff (v : Valid N rows) {B y y' : Int} (h : Gr N rows B y) (h' : Gr N rows (B - 1) y') : (∃ R, Pr N rows B R) ↔ y' < B ∧ B ≤ y := by
  constructor
  · rintro ⟨R, p⟩
    obtain ⟨B1, p1, l1, m1⟩ := h
    obtain ⟨B2, p2, l2, m2⟩ := h'
    have a := m1 B R p (Int.le_refl _)
    have e : B1 = B := by omega
    subst e
    exact ⟨p2.apart v p (by omega), p1.le v⟩
  · rintro ⟨a, b⟩
    obtain ⟨B1, p1, l1, m1⟩ := h
    by_cases e : B1 = B
    · subst e; exact ⟨_, p1⟩
    · obtain ⟨B2, p2, l2, m2⟩ := h'
      have := m2 B1 y p1 (by omega)
      have := m1 B2 y' p2 (by omega)
      have e2 : B1 = B2 := by omega
      subst e2
      have := p1.fn v p2
      omega
theorem Gr.at_begin (v : Valid N rows) {B R : Int} (p : Pr N rows B R) : Gr N rows B R := ⟨B, p, Int.le_refl _, fun _ _ _ l => l⟩

/-! ### lifted, as the program reckons it -/
def lastRow (q : Row) (place : Int) (rows : List Row) : Row := rows.foldl (fun acc p => if p.1 ≤ place then p else acc) q
def hd (rows : List Row) : Row := rows.headD (0, 0)
def lift (N : Int) (rows : List Row) (x : Int) : Int :=
  if x % N < (hd rows).1 then
    (x / N - 1) * N + (lastRow (hd rows) (x % N + N) rows).1 + ((lastRow (hd rows) (x % N + N) rows).2 - (lastRow (hd rows) (x % N + N) rows).1) % N
  else
    x / N * N + (lastRow (hd rows) (x % N) rows).1 + ((lastRow (hd rows) (x % N) rows).2 - (lastRow (hd rows) (x % N) rows).1) % N
theorem lastRow_spec (place : Int) : ∀ (rows : List Row) (q : Row), q.1 ≤ place → rows.Pairwise (fun p q => p.1 < q.1) → (∀ p ∈ rows, q.1 ≤ p.1) →
    (lastRow q place rows = q ∨ lastRow q place rows ∈ rows) ∧ (lastRow q place rows).1 ≤ place ∧ q.1 ≤ (lastRow q place rows).1 ∧ ∀ p ∈ rows, p.1 ≤ place → p.1 ≤ (lastRow q place rows).1
  | [], q, h, _, _ => ⟨.inl rfl, h, Int.le_refl _, fun p hp => by cases hp⟩
  | a :: t, q, h, hp, hq => by
    rw [List.pairwise_cons] at hp
    unfold lastRow
    rw [List.foldl_cons]
    show (lastRow _ place t = q ∨ lastRow _ place t ∈ a :: t) ∧ (lastRow _ place t).1 ≤ place ∧ q.1 ≤ (lastRow _ place t).1 ∧ ∀ p ∈ a :: t, p.1 ≤ place → p.1 ≤ (lastRow _ place t).1
    by_cases l : a.1 ≤ place
    · rw [if_pos l]
      obtain ⟨i1, i2, i3, i4⟩ := lastRow_spec place t a l hp.2 (fun p m => by have := hp.1 p m; omega)
      refine ⟨?_, i2, by have := hq a (List.mem_cons_self ..); omega, fun p m lp => ?_⟩
      · rcases i1 with e | e
        · right; rw [e]; exact List.mem_cons_self ..
        · right; exact List.mem_cons_of_mem _ e
      · rcases List.mem_cons.mp m with rfl | m
        · exact i3
        · exact i4 p m lp
    · rw [if_neg l]
      obtain ⟨i1, i2, i3, i4⟩ := lastRow_spec place t q h hp.2 (fun p m => hq p (List.mem_cons_of_mem _ m))
      refine ⟨?_, i2, i3, fun p m lp => ?_⟩
      · rcases i1 with e | e
        · exact .inl e
        · exact .inr (List.mem_cons_of_mem _ e)
      · rcases List.mem_cons.mp m with rfl | m
        · exact absurd lp l
        · exact i4 p m lp
theorem hd_mem (v : Valid N rows) : hd rows ∈ rows := by
  cases rows with
  | nil => exact absurd rfl v.ne
  | cons a t => exact List.mem_cons_self ..
theorem hd_le (v : Valid N rows) : ∀ p ∈ rows, (hd rows).1 ≤ p.1 := by
  cases rows with
  | nil => exact absurd rfl v.ne
  | cons a t =>
    intro p hp
    have h := v.asc
    rw [List.pairwise_cons] at h
    rcases List.mem_cons.mp hp with rfl | hp
    · exact Int.le_refl _
    · have := h.1 p hp
      show a.1 ≤ p.1
      omega
theorem gr_of_place (v : Valid N rows) {l place : Int} (h0 : (hd rows).1 ≤ place) (h1 : place < (hd rows).1 + N) : Gr N rows (l * N + place) (l * N + (lastRow (hd rows) place rows).1 + ((lastRow (hd rows) place rows).2 - (lastRow (hd rows) place rows).1) % N) := by
  obtain ⟨i1, i2, i3, i4⟩ := lastRow_spec place rows (hd rows) h0 v.asc (hd_le v)
  have hm : lastRow (hd rows) place rows ∈ rows := by
    rcases i1 with e | e
    · rw [e]; exact hd_mem v
    · exact e
  generalize lastRow (hd rows) place rows = p at *
  have hN := v.pos
  have hp := v.rng p hm
  refine ⟨p.1 + l * N, ⟨p, hm, l, rfl, by unfold up; omega⟩, by omega, ?_⟩
  rintro B' R' ⟨q, hq, k, rfl, rfl⟩ lq
  have hqr := v.rng q hq
  have hh := hd_le v q hq
  rcases Int.lt_trichotomy k l with e | e | e
  · have := mul_lt_of hN e; omega
  · subst e
    have := i4 q hq (by omega)
    omega
  · have := mul_lt_of hN e; omega
theorem lift_gr (v : Valid N rows) (x : Int) : Gr N rows x (lift N rows x) := by
  obtain ⟨e, h0, h1⟩ := euc x v.pos
  have hr := v.rng _ (hd_mem v)
  unfold lift
  by_cases c : x % N < (hd rows).1
  · rw [if_pos c]
    have := gr_of_place v (l := x / N - 1) (place := x % N + N) (by omega) (by omega)
    have e2 : (x / N - 1) * N + (x % N + N) = x := by rw [Int.sub_mul]; omega
    rw [e2] at this
    exact this
  · rw [if_neg c]
    have := gr_of_place v (l := x / N) (place := x % N) (by omega) (by omega)
    have e2 : x / N * N + x % N = x := by omega
    rw [e2] at this
    exact this
theorem lift_eq (v : Valid N rows) {x y : Int} (h : Gr N rows x y) : lift N rows x = y := (lift_gr v x).fn v h
end

/-- what a turning does: a rising map onto its rests -/
structure Proj (N : Int) (F : Int → Int) : Prop where
  mono : ∀ x y, x ≤ y → F x ≤ F y
  idem : ∀ x, F (F x) = F x
  lap : ∀ x, F (x + N) = F x + N
theorem lift_proj {N : Int} {rows : List Row} (v : Valid N rows) : Proj N (lift N rows) where
  mono := fun x y l => (lift_gr v x).mono v (lift_gr v y) l
  idem := fun x => lift_eq v ((lift_gr v x).idem v)
  lap := fun x => by
    have := (lift_gr v x).shift 1
    rw [Int.one_mul] at this
    exact lift_eq v this

/-! ### moves that keep a map -/
def Com (F : Int → Int) (s : Int) : Prop := ∀ x, F (x + s) = F x + s
theorem Com.neg {F : Int → Int} {s : Int} (h : Com F s) : Com F (-s) := fun x => by
  have := h (x + -s)
  rw [show x + -s + s = x by omega] at this
  omega
theorem Com.add {F : Int → Int} {s t : Int} (h : Com F s) (h' : Com F t) : Com F (s + t) := fun x => by
  rw [← Int.add_assoc, h', h]; omega
theorem Com.zero {F : Int → Int} : Com F 0 := fun x => by rw [Int.add_zero, Int.add_zero]
theorem Com.nmul {F : Int → Int} {s : Int} (h : Com F s) : ∀ n : Nat, Com F ((n : Int) * s)
  | 0 => by rw [show ((0 : Nat) : Int) * s = 0 by simp]; exact Com.zero
  | n + 1 => by
    have := (Com.nmul h n).add h
    rw [show ((n + 1 : Nat) : Int) * s = (n : Int) * s + s by rw [Int.natCast_add, Int.add_mul]; simp]
    exact this
theorem Com.mul {F : Int → Int} {s : Int} (h : Com F s) (k : Int) : Com F (k * s) := by
  rcases Int.le_total 0 k with l | l
  · obtain ⟨n, rfl⟩ := Int.eq_ofNat_of_zero_le l
    exact h.nmul n
  · obtain ⟨n, e⟩ := Int.eq_ofNat_of_zero_le (show 0 ≤ -k by omega)
    have := (h.nmul n).neg
    rw [← e, Int.neg_mul, Int.neg_neg] at this
    exact this
theorem Com.dvd {F : Int → Int} {s t : Int} (h : Com F s) (d : s ∣ t) : Com F t := by
  obtain ⟨k, rfl⟩ := d
  rw [Int.mul_comm]
  exact h.mul k
theorem Com.emod {F : Int → Int} {s t : Int} (h : Com F s) (h' : Com F t) : Com F (t % s) := by
  have e : t % s = t + -(t / s) * s := by
    have := Int.mul_ediv_add_emod t s
    rw [Int.neg_mul, Int.mul_comm (t / s)]
    omega
  rw [e]
  exact h'.add (h.mul _)
/-- the least move -/
structure Least (N : Int) (F : Int → Int) (p : Int) : Prop where
  pos : 0 < p
  dvd : p ∣ N
  com : Com F p
  least : ∀ s, 0 < s → s < p → s ∣ N → ¬ Com F s
theorem Int.natCast_dvd_left_of {n : Nat} {x : Int} (h : n ∣ x.natAbs) : (n : Int) ∣ x := by
  have := Int.natAbs_dvd_natAbs (a := (n : Int)) (b := x)
  rw [Int.natAbs_natCast] at this
  exact this.mp h
/-- every move that keeps the map is a multiple of the least one -/
theorem com_nat_gcd {F : Int → Int} : ∀ (a b : Nat), Com F (a : Int) → Com F (b : Int) → Com F ((Nat.gcd a b : Nat) : Int) := by
  intro a
  induction a using Nat.strongRecOn with
  | _ a ih =>
    intro b ha hb
    by_cases h0 : a = 0
    · subst h0; rw [Nat.gcd_zero_left]; exact hb
    · rw [Nat.gcd_rec]
      refine ih (b % a) (Nat.mod_lt _ (by omega)) a ?_ ha
      have := ha.emod hb
      rw [← Int.natCast_emod] at this
      exact this
theorem Least.all {N : Int} {F : Int → Int} {p s : Int} (l : Least N F p) (hN : 0 < N) (h : Com F s) : p ∣ s := by
  have hp := l.pos
  have hc : Com F ((Nat.gcd p.natAbs s.natAbs : Nat) : Int) := by
    refine com_nat_gcd _ _ ?_ ?_
    · rw [Int.natAbs_of_nonneg (by omega)]; exact l.com
    · rcases Int.le_total 0 s with a | a
      · rw [Int.natAbs_of_nonneg a]; exact h
      · rw [show ((s.natAbs : Nat) : Int) = -s by omega]; exact h.neg
  have hg : 0 < Nat.gcd p.natAbs s.natAbs := Nat.gcd_pos_of_pos_left _ (by omega)
  have hd : ((Nat.gcd p.natAbs s.natAbs : Nat) : Int) ∣ p := Int.natCast_dvd_left_of (Nat.gcd_dvd_left _ _)
  have hd2 : ((Nat.gcd p.natAbs s.natAbs : Nat) : Int) ∣ s := Int.natCast_dvd_left_of (Nat.gcd_dvd_right _ _)
  have hle : ((Nat.gcd p.natAbs s.natAbs : Nat) : Int) ≤ p := Int.le_of_dvd hp hd
  by_cases e : ((Nat.gcd p.natAbs s.natAbs : Nat) : Int) = p
  · rw [e] at hd2; exact hd2
  · exact absurd hc (l.least _ (by omega) (by omega) (Int.dvd_trans hd l.dvd))
theorem Least.uniq {N : Int} {F : Int → Int} {p q : Int} (hN : 0 < N) (a : Least N F p) (b : Least N F q) : p = q :=
  Int.le_antisymm (Int.le_of_dvd b.pos (a.all hN b.com)) (Int.le_of_dvd a.pos (b.all hN a.com))
end Jaw

/-! ## M2 -/
set_option linter.all false
namespace Jaw
def lexLeM (p q : Row) : Prop := p.1 < q.1 ∨ (p.1 = q.1 ∧ p.2 ≤ q.2)
def turnRow (N c : Int) (p : Row) : Row := ((p.1 + c) % N, (p.2 + c) % N)
theorem perm_of_sub {α : Type} [DecidableEq α] : ∀ {l m : List α}, l.Nodup → (∀ x ∈ l, x ∈ m) → l.length = m.length → l.Perm m
  | [], m, _, _, e => by
    have : m = [] := List.length_eq_zero_iff.mp e.symm
    subst this; exact List.Perm.refl _
  | a :: l, m, nd, sub, e => by
    rw [List.nodup_cons] at nd
    have ha := sub a (List.mem_cons_self ..)
    have p := List.perm_cons_erase ha
    have le : l.length = (m.erase a).length := by
      rw [List.length_erase_of_mem ha, ← e, List.length_cons]; rfl
    have sb : ∀ x ∈ l, x ∈ m.erase a := fun x hx => by
      have hne : x ≠ a := fun z => nd.1 (z ▸ hx)
      exact (List.mem_erase_of_ne hne).mpr (sub x (List.mem_cons_of_mem _ hx))
    exact (List.Perm.cons a (perm_of_sub nd.2 sb le)).trans p.symm
theorem sorted_uniq : ∀ {l m : List Row}, l.Perm m → l.Pairwise lexLeM → m.Pairwise lexLeM → l = m
  | [], m, p, _, _ => (List.nil_perm.mp p).symm
  | a :: l, [], p, _, _ => absurd p.length_eq (by simp)
  | a :: l, b :: m, p, h1, h2 => by
    rw [List.pairwise_cons] at h1 h2
    have e : a = b := by
      rcases List.mem_cons.mp (p.mem_iff.mp (List.mem_cons_self (a := a) (l := l))) with z | z
      · exact z
      · rcases List.mem_cons.mp (p.mem_iff.mpr (List.mem_cons_self (a := b) (l := m))) with y | y
        · exact y.symm
        · have q1 := h1.1 b y
          have q2 := h2.1 a z
          unfold lexLeM at q1 q2
          exact Prod.ext (by omega) (by omega)
    subst e
    rw [sorted_uniq (List.Perm.cons_inv p) h1.2 h2.2]
section
variable {N : Int} {rows : List Row}
theorem Pr.nat {c : Int} (h : ∀ B R, Pr N rows B R → Pr N rows (B + c) (R + c)) : ∀ (n : Nat) {B R : Int}, Pr N rows B R → Pr N rows (B + n * c) (R + n * c)
  | 0, B, R, p => by simpa using p
  | n + 1, B, R, p => by
    have := h _ _ (Pr.nat h n p)
    rw [show ((n + 1 : Nat) : Int) * c = n * c + c by rw [Int.natCast_add, Int.add_mul]; simp, ← Int.add_assoc, ← Int.add_assoc]
    exact this
theorem com_of_pr (v : Valid N rows) {c : Int} (h : ∀ B R, Pr N rows B R → Pr N rows (B + c) (R + c)) : Com (lift N rows) c := by
  have hN := v.pos
  have back : ∀ B R, Pr N rows B R → Pr N rows (B - c) (R - c) := fun B R p => by
    have q := (Pr.nat h (N - 1).toNat p).shift (-c)
    have e : ((N - 1).toNat : Int) = N - 1 := by omega
    rw [e] at q
    have e2 : (N - 1) * c + -c * N = -c := by
      rw [Int.sub_mul, Int.neg_mul, Int.mul_comm c N]; omega
    rw [Int.add_assoc, Int.add_assoc, e2] at q
    exact q
  intro x
  obtain ⟨B, p, l, m⟩ := lift_gr v x
  refine lift_eq v ⟨B + c, h _ _ p, by omega, fun B' R' p' l' => ?_⟩
  have := m _ _ (back _ _ p') (by omega)
  omega
theorem pr_of_com (v : Valid N rows) {c : Int} (h : Com (lift N rows) c) {B R : Int} (p : Pr N rows B R) : Pr N rows (B + c) (R + c) := by
  have g := Gr.at_begin v p
  have e : lift N rows B = R := lift_eq v g
  have g1 := lift_gr v (B - 1)
  obtain ⟨a, b⟩ := (g.begin_iff v g1).mp ⟨R, p⟩
  have f1 := lift_gr v (B + c)
  have f2 := lift_gr v (B + c - 1)
  rw [h, e] at f1
  rw [show B + c - 1 = B - 1 + c by omega, h] at f2
  rw [show B - 1 + c = B + c - 1 by omega] at f2
  obtain ⟨R', q⟩ := (f1.begin_iff v f2).mpr ⟨by omega, by omega⟩
  have : R' = R + c := (Gr.at_begin v q).fn v f1
  rw [← this]; exact q
theorem up_mod (hN : 0 < N) (p : Row) : up N p % N = p.2 % N := by
  unfold up
  rw [Int.add_emod_emod]
  congr 1; omega
theorem pr_turn (v : Valid N rows) {c : Int} {p : Row} (hp : p ∈ rows) : Pr N rows (p.1 + c) (up N p + c) ↔ turnRow N c p ∈ rows := by
  have hN := v.pos
  constructor
  · rintro ⟨q, hq, k, e1, e2⟩
    have r := v.rng q hq
    have h1 : (p.1 + c) % N = q.1 := (emod_uniq (show p.1 + c = k * N + q.1 by omega) r.1 r.2.1).1
    have h2 : (p.2 + c) % N = q.2 := by
      have : (up N p + c) % N = (up N q + k * N) % N := by rw [e2]
      rw [Int.add_mul_emod_self_right, up_mod hN, Int.emod_eq_of_lt r.2.2.1 r.2.2.2] at this
      rw [← this, Int.add_emod, ← up_mod hN p, ← Int.add_emod]
    have : turnRow N c p = q := Prod.ext h1 h2
    rw [this]; exact hq
  · intro h
    refine ⟨_, h, (p.1 + c) / N, ?_, ?_⟩
    · have := (euc (p.1 + c) hN).1
      show p.1 + c = (p.1 + c) % N + _
      omega
    · have := (euc (p.1 + c) hN).1
      have e : ((p.2 + c) % N - (p.1 + c) % N) % N = (p.2 - p.1) % N := by
        rw [← Int.sub_emod]
        congr 1; omega
      show up N p + c = (p.1 + c) % N + ((p.2 + c) % N - (p.1 + c) % N) % N + _
      rw [e]
      unfold up
      omega
theorem pr_all (v : Valid N rows) {c : Int} : (∀ B R, Pr N rows B R → Pr N rows (B + c) (R + c)) ↔ ∀ p ∈ rows, turnRow N c p ∈ rows := by
  constructor
  · intro h p hp
    exact (pr_turn v hp).mp (h _ _ ⟨p, hp, 0, by omega, by omega⟩)
  · rintro h B R ⟨p, hp, k, rfl, rfl⟩
    have := ((pr_turn v hp).mpr (h p hp)).shift k
    rw [show p.1 + k * N + c = p.1 + c + k * N by omega, show up N p + k * N + c = up N p + c + k * N by omega]
    exact this
theorem rows_lex (v : Valid N rows) : rows.Pairwise lexLeM := List.Pairwise.imp (fun {p q} h => by unfold lexLeM; omega) v.asc
theorem turn_nodup (v : Valid N rows) (c : Int) : (rows.map (turnRow N c)).Nodup := by
  have hN := v.pos
  unfold List.Nodup
  rw [List.pairwise_map]
  have : rows.Pairwise fun p q => p.1 < q.1 ∧ p ∈ rows ∧ q ∈ rows := by
    refine List.Pairwise.imp_of_mem (fun {p q} hp hq h => ⟨h, hp, hq⟩) v.asc
  refine List.Pairwise.imp (fun {p q} h e => ?_) this
  have e1 : (p.1 + c) % N = (q.1 + c) % N := congrArg Prod.fst e
  obtain ⟨k, hk⟩ := (emod_eq_iff hN).mp e1
  have a := v.rng p h.2.1
  have b := v.rng q h.2.2
  rcases Int.lt_trichotomy k 0 with z | z | z
  · have := mul_lt_of hN z; omega
  · subst z; omega
  · have := mul_lt_of hN z; omega
/-- the rows turned are the rows if the map keeps -/
theorem turned_iff (v : Valid N rows) {c : Int} {rows' : List Row} (p : rows'.Perm (rows.map (turnRow N c))) (s : rows'.Pairwise lexLeM) : rows' = rows ↔ Com (lift N rows) c := by
  constructor
  · intro e
    subst e
    refine com_of_pr v ((pr_all v).mpr fun q hq => ?_)
    exact p.mem_iff.mpr (List.mem_map_of_mem hq)
  · intro h
    have hm := (pr_all v).mp fun B R q => pr_of_com v h q
    refine sorted_uniq (p.trans (perm_of_sub (turn_nodup v c) (fun x hx => ?_) (by rw [List.length_map]))) s (rows_lex v)
    obtain ⟨q, hq, rfl⟩ := List.mem_map.mp hx
    exact hm q hq
/-- the least move, as the program finds it -/
theorem least_found (v : Valid N rows) {s : Int} (h0 : 1 ≤ s) (h1 : s < N) (hd : N % s = 0) (hc : Com (lift N rows) s) (hl : ∀ t, 1 ≤ t → t < s → N % t = 0 → ¬ Com (lift N rows) t) : Least N (lift N rows) s :=
  ⟨by omega, Int.dvd_of_emod_eq_zero hd, hc, fun t a b d => hl t (by omega) b (Int.emod_eq_zero_of_dvd d)⟩
theorem least_round (v : Valid N rows) (hl : ∀ t, 1 ≤ t → t < N → N % t = 0 → ¬ Com (lift N rows) t) : Least N (lift N rows) N :=
  ⟨v.pos, Int.dvd_refl N, (lift_proj v).lap, fun t a b d => hl t (by omega) b (Int.emod_eq_zero_of_dvd d)⟩
end
end Jaw

/-! ## M3 -/
set_option linter.all false
namespace Jaw
/-- all the maps of a part move alike -/
structure PerOf (N : Int) (Fs : List (Int → Int)) (p : Int) : Prop where
  pos : 0 < p
  dvd : p ∣ N
  com : ∀ F ∈ Fs, Com F p
  least : ∀ s, (∀ F ∈ Fs, Com F s) → p ∣ s
theorem PerOf.uniq {N : Int} {Fs : List (Int → Int)} {p q : Int} (a : PerOf N Fs p) (b : PerOf N Fs q) : p = q :=
  Int.le_antisymm (Int.le_of_dvd b.pos (a.least q b.com)) (Int.le_of_dvd a.pos (b.least p a.com))
theorem PerOf.nil {N : Int} : PerOf N [] 1 := ⟨by decide, Int.one_dvd N, (fun F h => nomatch h), fun s _ => Int.one_dvd s⟩
theorem lcm_dvd_int {a b c : Int} (h1 : a ∣ c) (h2 : b ∣ c) : ((Nat.lcm a.natAbs b.natAbs : Nat) : Int) ∣ c := by
  refine Int.natCast_dvd_left_of (Nat.lcm_dvd ?_ ?_)
  · exact Int.natAbs_dvd_natAbs.mpr h1
  · exact Int.natAbs_dvd_natAbs.mpr h2
theorem dvd_lcm_l {a b : Int} : a ∣ ((Nat.lcm a.natAbs b.natAbs : Nat) : Int) := by
  have := Int.natAbs_dvd_natAbs (a := a) (b := ((Nat.lcm a.natAbs b.natAbs : Nat) : Int))
  rw [Int.natAbs_natCast] at this
  exact this.mp (Nat.dvd_lcm_left _ _)
theorem dvd_lcm_r {a b : Int} : b ∣ ((Nat.lcm a.natAbs b.natAbs : Nat) : Int) := by
  have := Int.natAbs_dvd_natAbs (a := b) (b := ((Nat.lcm a.natAbs b.natAbs : Nat) : Int))
  rw [Int.natAbs_natCast] at this
  exact this.mp (Nat.dvd_lcm_right _ _)
theorem PerOf.snoc {N : Int} {Fs : List (Int → Int)} {F : Int → Int} {p q : Int} (hN : 0 < N) (a : PerOf N Fs p) (b : Least N F q) : PerOf N (Fs ++ [F]) ((Nat.lcm p.natAbs q.natAbs : Nat) : Int) where
  pos := by
    have h1 := a.pos
    have h2 := b.pos
    have : 0 < Nat.lcm p.natAbs q.natAbs := Nat.lcm_pos (by omega) (by omega)
    omega
  dvd := lcm_dvd_int a.dvd b.dvd
  com := fun G h => by
    rcases List.mem_append.mp h with h | h
    · exact (a.com G h).dvd dvd_lcm_l
    · rw [List.mem_singleton.mp h]
      exact b.com.dvd dvd_lcm_r
  least := fun s h => lcm_dvd_int (a.least s fun G m => h G (List.mem_append_left _ m)) (b.all hN (h F (List.mem_append_right _ (List.mem_singleton.mpr rfl))))
theorem PerOf.le {N : Int} {Fs : List (Int → Int)} {p : Int} (hN : 0 < N) (a : PerOf N Fs p) : p ≤ N := Int.le_of_dvd hN a.dvd
section
variable {N : Int} {rows : List Row}
/-- the rests are what the map keeps -/
theorem rest_iff (v : Valid N rows) {x : Int} : x ∈ rows.map Prod.snd ↔ 0 ≤ x ∧ x < N ∧ lift N rows x = x := by
  have hN := v.pos
  constructor
  · intro h
    obtain ⟨q, hq, rfl⟩ := List.mem_map.mp h
    have r := v.rng q hq
    refine ⟨r.2.2.1, r.2.2.2, ?_⟩
    have p : Pr N rows q.1 (up N q) := ⟨q, hq, 0, by omega, by omega⟩
    have g := (Gr.at_begin v p).idem v
    obtain ⟨k, hk⟩ := (emod_eq_iff hN).mp (up_mod hN q).symm
    have g2 := g.shift k
    rw [← hk] at g2
    exact lift_eq v g2
  · rintro ⟨h0, h1, h⟩
    have g := lift_gr v x
    rw [h] at g
    obtain ⟨B, ⟨q, hq, k, e1, e2⟩, _⟩ := g
    have r := v.rng q hq
    have : x = q.2 := by
      have e3 : x % N = q.2 % N := by
        rw [e2, Int.add_mul_emod_self_right, up_mod hN]
      rw [Int.emod_eq_of_lt h0 h1, Int.emod_eq_of_lt r.2.2.1 r.2.2.2] at e3
      exact e3
    rw [this]
    exact List.mem_map_of_mem hq
theorem rests_nodup (v : Valid N rows) : (rows.map Prod.snd).Nodup := by
  have hN := v.pos
  unfold List.Nodup
  rw [List.pairwise_map]
  have : rows.Pairwise fun p q => p.1 < q.1 ∧ p ∈ rows ∧ q ∈ rows := List.Pairwise.imp_of_mem (fun {p q} hp hq h => ⟨h, hp, hq⟩) v.asc
  refine List.Pairwise.imp (fun {p q} h e => ?_) this
  have a := v.low p h.2.1 q h.2.2 h.1
  have b := v.lap q h.2.2 p h.2.1
  have c : q.1 ≤ up N q := by
    have := Int.emod_nonneg (q.2 - q.1) (show N ≠ 0 by omega)
    unfold up; omega
  have d : p.1 ≤ up N p := by
    have := Int.emod_nonneg (p.2 - p.1) (show N ≠ 0 by omega)
    unfold up; omega
  have e3 : up N q % N = up N p % N := by rw [up_mod hN, up_mod hN, e]
  obtain ⟨k, hk⟩ := (emod_eq_iff hN).mp e3
  rcases Int.lt_trichotomy k 0 with z | z | z
  · have := mul_lt_of hN z; omega
  · subst z; omega
  · have := mul_lt_of hN z; omega
end
theorem strict_of {ns : List Int} (h1 : ns.Pairwise (· ≤ ·)) (h2 : ns.Nodup) : ns.Pairwise (· < ·) := by
  refine List.Pairwise.imp (fun {a b} h => ?_) (List.pairwise_and_iff.mpr ⟨h1, h2⟩)
  have := h.1
  have := h.2
  omega
/-- an ascending list is its members -/
structure Asc (ns : List Int) (S : Int → Prop) : Prop where
  up : ns.Pairwise (· < ·)
  mem : ∀ x, x ∈ ns ↔ S x
theorem asc_uniq : ∀ {l m : List Int}, l.Pairwise (· < ·) → m.Pairwise (· < ·) → (∀ x, x ∈ l ↔ x ∈ m) → l = m
  | [], [], _, _, _ => rfl
  | [], b :: m, _, _, h => by have := (h b).mpr (List.mem_cons_self ..); cases this
  | a :: l, [], _, _, h => by have := (h a).mp (List.mem_cons_self ..); cases this
  | a :: l, b :: m, h1, h2, h => by
    rw [List.pairwise_cons] at h1 h2
    have e : a = b := by
      rcases List.mem_cons.mp ((h a).mp (List.mem_cons_self ..)) with z | z
      · exact z
      · rcases List.mem_cons.mp ((h b).mpr (List.mem_cons_self ..)) with y | y
        · exact y.symm
        · have := h1.1 b y; have := h2.1 a z; omega
    subst e
    have : l = m := asc_uniq h1.2 h2.2 fun x => by
      constructor
      · intro hx
        rcases List.mem_cons.mp ((h x).mp (List.mem_cons_of_mem _ hx)) with z | z
        · subst z; have := h1.1 x hx; omega
        · exact z
      · intro hx
        rcases List.mem_cons.mp ((h x).mpr (List.mem_cons_of_mem _ hx)) with z | z
        · subst z; have := h2.1 x hx; omega
        · exact z
    rw [this]
theorem Asc.uniq {l m : List Int} {S : Int → Prop} (a : Asc l S) (b : Asc m S) : l = m := asc_uniq a.up b.up fun x => (a.mem x).trans (b.mem x).symm
theorem Asc.filter {ns : List Int} {S : Int → Prop} (a : Asc ns S) (p : Int → Bool) : Asc (ns.filter p) fun x => S x ∧ p x = true :=
  ⟨List.Pairwise.sublist List.filter_sublist a.up, fun x => by rw [List.mem_filter, a.mem]⟩
theorem Asc.congr {ns : List Int} {S T : Int → Prop} (a : Asc ns S) (h : ∀ x, S x ↔ T x) : Asc ns T := ⟨a.up, fun x => (a.mem x).trans (h x)⟩
end Jaw

/-! ## M4 -/
set_option linter.all false
namespace Jaw
theorem len_le_sub {α : Type} [DecidableEq α] : ∀ {l m : List α}, l.Nodup → (∀ x ∈ l, x ∈ m) → l.length ≤ m.length
  | [], m, _, _ => Nat.zero_le _
  | a :: l, m, nd, sub => by
    rw [List.nodup_cons] at nd
    have ha := sub a (List.mem_cons_self ..)
    have := len_le_sub (m := m.erase a) nd.2 fun x hx => (List.mem_erase_of_ne (fun z : x = a => nd.1 (by rw [← z]; exact hx))).mpr (sub x (List.mem_cons_of_mem _ hx))
    rw [List.length_erase_of_mem ha] at this
    have : 0 < m.length := List.length_pos_of_mem ha
    rw [List.length_cons]; omega
theorem len_le_range {l : List Int} {n : Nat} (nd : l.Nodup) (h : ∀ x ∈ l, 0 ≤ x ∧ x < n) : l.length ≤ n := by
  have := len_le_sub (m := (List.range n).map Int.ofNat) nd fun x hx => by
    have := h x hx
    refine List.mem_map.mpr ⟨x.toNat, List.mem_range.mpr (by omega), ?_⟩
    show ((x.toNat : Nat) : Int) = x
    omega
  simpa using this
/-- plans, followed exactly -/
abbrev Deed := String × Int
section
variable {W : Type}
def stepE (N : Int) (F : W → Int → Int) (S : Int → Prop) (d : W × Int) : Int → Prop := fun y => ∃ x, S x ∧ y = (F d.1 (x - d.2) + d.2) % N
def full (s : Int) : Int → Prop := fun x => 0 ≤ x ∧ x < s
def Es (N : Int) (F : W → Int → Int) (ds : List (W × Int)) : Int → Prop := ds.foldl (stepE N F) (full N)
/-- .. off by up to e -/
def stepT (s e : Int) (F : W → Int → Int) (T : Int → Prop) (d : W × Int) : Int → Prop := fun v => ∃ u, T u ∧ ∃ z, -e ≤ z ∧ z ≤ e ∧ v = (F d.1 (u + z - d.2) + d.2) % s
def Ts (s e : Int) (F : W → Int → Int) (ds : List (W × Int)) : Int → Prop := ds.foldl (stepT s e F) (full s)
def blur (s b : Int) (T : Int → Prop) : Int → Prop := fun v => ∃ u, T u ∧ ∃ z, -b ≤ z ∧ z ≤ b ∧ v = (u + z) % s
theorem Es_snoc {N : Int} {F : W → Int → Int} {ds : List (W × Int)} {d : W × Int} : Es N F (ds ++ [d]) = stepE N F (Es N F ds) d := by unfold Es; rw [List.foldl_append]; rfl
theorem Ts_snoc {s e : Int} {F : W → Int → Int} {ds : List (W × Int)} {d : W × Int} : Ts s e F (ds ++ [d]) = stepT s e F (Ts s e F ds) d := by unfold Ts; rw [List.foldl_append]; rfl
theorem stepT_congr {s e : Int} {F : W → Int → Int} {S T : Int → Prop} (h : ∀ x, S x ↔ T x) (d : W × Int) (v : Int) : stepT s e F S d v ↔ stepT s e F T d v := by
  unfold stepT
  constructor
  · rintro ⟨u, a, r⟩; exact ⟨u, (h u).mp a, r⟩
  · rintro ⟨u, a, r⟩; exact ⟨u, (h u).mpr a, r⟩
theorem foldE_rng {N : Int} (hN : 0 < N) (F : W → Int → Int) : ∀ (ds : List (W × Int)) (S : Int → Prop), (∀ x, S x → 0 ≤ x ∧ x < N) → ∀ x, ds.foldl (stepE N F) S x → 0 ≤ x ∧ x < N
  | [], S, h, x, q => h x q
  | d :: ds, S, h, x, q => foldE_rng hN F ds _ (fun y ⟨z, _, e⟩ => by rw [e]; exact ⟨Int.emod_nonneg _ (by omega), Int.emod_lt_of_pos _ hN⟩) x q
theorem foldE_ne {N : Int} (F : W → Int → Int) : ∀ (ds : List (W × Int)) (S : Int → Prop), (∃ x, S x) → ∃ x, ds.foldl (stepE N F) S x
  | [], S, h => h
  | d :: ds, S, ⟨x, h⟩ => foldE_ne F ds _ ⟨_, x, h, rfl⟩
theorem Es_ne {N : Int} (hN : 0 < N) (F : W → Int → Int) (ds : List (W × Int)) : ∃ x, Es N F ds x := foldE_ne F ds _ ⟨0, by unfold full; omega⟩
theorem Es_rng {N : Int} (hN : 0 < N) (F : W → Int → Int) (ds : List (W × Int)) : ∀ x, Es N F ds x → 0 ≤ x ∧ x < N := foldE_rng hN F ds _ fun x h => h
theorem foldT_rng {s e : Int} (hs : 0 < s) (F : W → Int → Int) : ∀ (ds : List (W × Int)) (S : Int → Prop), (∀ x, S x → 0 ≤ x ∧ x < s) → ∀ x, ds.foldl (stepT s e F) S x → 0 ≤ x ∧ x < s
  | [], S, h, x, q => h x q
  | d :: ds, S, h, x, q => foldT_rng hs F ds _ (fun y ⟨z, _, u, _, _, e⟩ => by rw [e]; exact ⟨Int.emod_nonneg _ (by omega), Int.emod_lt_of_pos _ hs⟩) x q
theorem foldT_ne {s e : Int} (he : 0 ≤ e) (F : W → Int → Int) : ∀ (ds : List (W × Int)) (S : Int → Prop), (∃ x, S x) → ∃ x, ds.foldl (stepT s e F) S x
  | [], S, h => h
  | d :: ds, S, ⟨x, h⟩ => foldT_ne he F ds _ ⟨_, x, h, 0, by omega, he, rfl⟩
theorem Ts_rng {s e : Int} (hs : 0 < s) (F : W → Int → Int) (ds : List (W × Int)) : ∀ x, Ts s e F ds x → 0 ≤ x ∧ x < s := foldT_rng hs F ds _ fun x h => h
theorem Ts_ne {s e : Int} (hs : 0 < s) (he : 0 ≤ e) (F : W → Int → Int) (ds : List (W × Int)) : ∃ x, Ts s e F ds x := foldT_ne he F ds _ ⟨0, by unfold full; omega⟩
/-- exact standings are among the told ones -/
theorem exact_told {N s e : Int} (hs : 0 < s) (he : 0 ≤ e) (hd : s ∣ N) (F : W → Int → Int) : ∀ (ds : List (W × Int)), (∀ d ∈ ds, Com (F d.1) s) → ∀ (S T : Int → Prop), (∀ x, S x → T (x % s)) → ∀ x, ds.foldl (stepE N F) S x → ds.foldl (stepT s e F) T (x % s)
  | [], _, S, T, h, x, q => h x q
  | d :: ds, hc, S, T, h, x, q => by
    refine exact_told hs he hd F ds (fun d' m => hc d' (List.mem_cons_of_mem _ m)) (stepE N F S d) (stepT s e F T d) (fun y ⟨z, a, ey⟩ => ?_) x q
    refine ⟨z % s, h z a, 0, by omega, he, ?_⟩
    have c := hc d (List.mem_cons_self ..)
    obtain ⟨k, ek⟩ : ∃ k, z % s = z + k * s := ⟨-(z / s), by have := (euc z hs).1; rw [Int.neg_mul]; omega⟩
    have c2 := (c.mul k) (z - d.2)
    rw [ek, show z + k * s + 0 - d.2 = z - d.2 + k * s by omega, c2, ey, Int.emod_emod_of_dvd _ hd]
    exact (emod_shift hs k (by omega)).symm
end
end Jaw

/-! ## Dt -/
set_option Elab.async false
set_option linter.all false
set_option maxRecDepth 100000
set_option maxHeartbeats 4000000
namespace Jaw
open PySem PySem.Spec PyProof.Rows L2
/-! ### heaps that grow -/
theorem Same.new {H : Hp} {p : Addr} {o : HO} (h : H p = none) : Same H (upd H p o) := fun b u e => by rw [upd_ne (ne_of_none e h)]; exact e
theorem _root_.L2.Same.sput {H H1 : Hp} {p : Addr} {o : HO} (e : Same H H1) (h : H p = none) : Same H (upd H1 p o) := fun b u q => by rw [upd_ne (ne_of_none q h)]; exact e b u q
theorem _root_.L2.Same.snew {H H1 : Hp} {p : Addr} {o : HO} (e : Same H H1) (h : H1 p = none) : Same H (upd H1 p o) := e.trans (Same.new h)
/-- all but p stands -/
def Sx (p : Addr) (H H' : Hp) : Prop := ∀ b o, H b = some o → b ≠ p → H' b = some o
theorem Sx.refl {p : Addr} {H : Hp} : Sx p H H := fun _ _ e _ => e
theorem Sx.of {p : Addr} {H H' : Hp} (s : Same H H') : Sx p H H' := fun b o e _ => s b o e
theorem Sx.trans {p : Addr} {H H1 H2 : Hp} (a : Sx p H H1) (s : Sx p H1 H2) : Sx p H H2 := fun b o e n => s b o (a b o e n) n
theorem Sx.same {p : Addr} {H H1 H2 : Hp} (a : Sx p H H1) (s : Same H1 H2) : Sx p H H2 := fun b o e n => s b o (a b o e n)
theorem Sx.upd {p : Addr} {H H1 : Hp} {o : HO} (a : Sx p H H1) : Sx p H (L2.upd H1 p o) := fun b u e n => by rw [upd_ne n]; exact a b u e n
theorem Sx.put {p q : Addr} {H H1 : Hp} {o : HO} (a : Sx p H H1) (h : H1 q = none) : Sx p H (L2.upd H1 q o) := fun b u e n => by rw [upd_ne (ne_of_none (a b u e n) h)]; exact a b u e n
theorem Sx.mut {p q : Addr} {H H1 : Hp} {o : HO} (a : Sx p H H1) (h : H q = none) : Sx p H (L2.upd H1 q o) := fun b u e n => by rw [upd_ne (ne_of_none e h)]; exact a b u e n
/-- from a new object's making -/
theorem Sx.made {x dx C : Addr} {H H1 : Hp} (nx : H x = none) (nd : H dx = none) (s : Sx x (L2.upd (L2.upd H dx (.own x)) x (.ins C dx [])) H1) : Same H H1 := fun b o e => by
  have n1 : b ≠ x := ne_of_none e nx
  have n2 : b ≠ dx := ne_of_none e nd
  exact s b o (by rw [upd_ne n1, upd_ne n2]; exact e) n1
/-! ### a row of pairs -/
def PV (H : Hp) (xs : List V) (rows : List Row) : Prop := Paired (fun x p => ∃ t, x = V.ref t ∧ H t = some (.tup [.int p.1, .int p.2])) xs rows
theorem Paired.mapQ {α β : Type} {F G : α → β → Prop} : ∀ {l₁ : List α} {l₂ : List β}, Paired F l₁ l₂ → (∀ a b, F a b → G a b) → Paired G l₁ l₂
  | _, _, .nil, _ => .nil
  | _, _, .cons r t, f => .cons (f _ _ r) (Paired.mapQ t f)
theorem Paired.at1 {α β : Type} {F : α → β → Prop} : ∀ {l₁ : List α} {l₂ : List β} {i : Nat} {a : α}, Paired F l₁ l₂ → l₁[i]? = some a → ∃ b, l₂[i]? = some b ∧ F a b
  | _, _, _, _, .nil, e => by simp at e
  | _, _, 0, _, .cons r _, e => by simp at e; subst e; exact ⟨_, rfl, r⟩
  | _, _, i + 1, a, .cons r t, e => by
    obtain ⟨b, h1, h2⟩ := Paired.at1 (i := i) (a := a) t (by simpa using e)
    exact ⟨b, by simpa using h1, h2⟩
theorem Paired.at2 {α β : Type} {F : α → β → Prop} : ∀ {l₁ : List α} {l₂ : List β} {i : Nat} {b : β}, Paired F l₁ l₂ → l₂[i]? = some b → ∃ a, l₁[i]? = some a ∧ F a b
  | _, _, _, _, .nil, e => by simp at e
  | _, _, 0, _, .cons r _, e => by simp at e; subst e; exact ⟨_, rfl, r⟩
  | _, _, i + 1, b, .cons r t, e => by
    obtain ⟨a, h1, h2⟩ := Paired.at2 (i := i) (b := b) t (by simpa using e)
    exact ⟨a, by simpa using h1, h2⟩
theorem Paired.snoc {α β : Type} {F : α → β → Prop} : ∀ {l₁ : List α} {l₂ : List β} {a : α} {b : β}, Paired F l₁ l₂ → F a b → Paired F (l₁ ++ [a]) (l₂ ++ [b])
  | _, _, _, _, .nil, h => .cons h .nil
  | _, _, _, _, .cons r t, h => .cons r (Paired.snoc t h)
theorem Paired.len {α β : Type} {F : α → β → Prop} : ∀ {l₁ : List α} {l₂ : List β}, Paired F l₁ l₂ → l₁.length = l₂.length
  | _, _, .nil => rfl
  | _, _, .cons _ t => congrArg Nat.succ (Paired.len t)
section
variable {H H' : Hp} {xs : List V} {rows : List Row}
theorem PV.mono (h : PV H xs rows) (s : Same H H') : PV H' xs rows := Paired.mapQ h fun _ _ ⟨t, a, b⟩ => ⟨t, a, s _ _ b⟩
theorem PV.len (h : PV H xs rows) : xs.length = rows.length := Paired.len h
theorem PV.at1 (h : PV H xs rows) {i : Nat} {x : V} (e : xs[i]? = some x) : ∃ p t, rows[i]? = some p ∧ x = .ref t ∧ H t = some (.tup [.int p.1, .int p.2]) := by
  obtain ⟨p, a, t, b, c⟩ := Paired.at1 h e
  exact ⟨p, t, a, b, c⟩
theorem PV.at2 (h : PV H xs rows) {i : Nat} {p : Row} (e : rows[i]? = some p) : ∃ t, xs[i]? = some (.ref t) ∧ H t = some (.tup [.int p.1, .int p.2]) := by
  obtain ⟨x, a, t, b, c⟩ := Paired.at2 h e
  exact ⟨t, by rw [a, b], c⟩
theorem PV.snoc (h : PV H xs rows) {t : Addr} {p : Row} (e : H t = some (.tup [.int p.1, .int p.2])) : PV H (xs ++ [.ref t]) (rows ++ [p]) := Paired.snoc h ⟨t, rfl, e⟩
theorem PV.nil : PV H [] [] := Paired.nil
end
/-- a list's own place is no pair's -/
theorem PV.upd_lst {H : Hp} {xs ys zs : List V} {rows : List Row} {d : Addr} (h : PV H xs rows) (hd : H d = some (.lst ys)) : PV (upd H d (.lst zs)) xs rows := Paired.mapQ h fun _ _ ⟨t, a, b⟩ => ⟨t, a, by
  rw [upd_ne (ne_of b hd (by intro z; cases z))]; exact b⟩
theorem PV.sx {H H' : Hp} {xs : List V} {rows : List Row} {p C dx : Addr} {fs : List (Str × V)} (h : PV H xs rows) (s : Sx p H H') (hp : H p = some (.ins C dx fs)) : PV H' xs rows := Paired.mapQ h fun _ _ ⟨t, a, b⟩ => ⟨t, a, s _ _ b (ne_of b hp (by intro z; cases z))⟩
theorem fresh_of {H H1 : Hp} {p : Addr} (s : Same H H1) (h : H1 p = none) : H p = none := s.free h
/-- a turning of the program's -/
structure TurnAt (K : PySem.W.Frag) (H : Hp) (a : Addr) (N : Int) (rows : List Row) (pd : Int) : Prop where
  ex : ∃ dx fs tr xs, H a = some (.ins (He.ga K "Turning") dx fs) ∧ fs.lookup ("around" : Str) = some (.int N) ∧ fs.lookup ("rows" : Str) = some (.ref tr) ∧ fs.lookup ("_period" : Str) = some (.int pd) ∧
    fs.lookup ("lifted" : Str) = none ∧ fs.lookup ("rests" : Str) = none ∧ fs.lookup ("is_even" : Str) = none ∧ H tr = some (.tup xs) ∧ PV H xs rows
theorem TurnAt.mono {K : PySem.W.Frag} {H H' : Hp} {a : Addr} {N : Int} {rows : List Row} {pd : Int} (h : TurnAt K H a N rows pd) (s : Same H H') : TurnAt K H' a N rows pd := by
  obtain ⟨dx, fs, tr, xs, h1, h2, h3, h4, h5, h6, h7, h8, h9⟩ := h.ex
  exact ⟨dx, fs, tr, xs, s _ _ h1, h2, h3, h4, h5, h6, h7, s _ _ h8, h9.mono s⟩
theorem TurnAt.sx {K : PySem.W.Frag} {H H' : Hp} {a d : Addr} {N : Int} {rows : List Row} {pd : Int} {kvs : List (Key × V)} (h : TurnAt K H a N rows pd) (s : Sx d H H') (hd : H d = some (.dK kvs)) : TurnAt K H' a N rows pd := by
  obtain ⟨dx, fs, tr, xs, h1, h2, h3, h4, h5, h6, h7, h8, h9⟩ := h.ex
  exact ⟨dx, fs, tr, xs, s _ _ h1 (ne_of h1 hd (by intro z; cases z)), h2, h3, h4, h5, h6, h7, s _ _ h8 (ne_of h8 hd (by intro z; cases z)),
    Paired.mapQ h9 fun _ _ ⟨t, a, b⟩ => ⟨t, a, s _ _ b (ne_of b hd (by intro z; cases z))⟩⟩
theorem TurnAt.sxi {K : PySem.W.Frag} {H H' : Hp} {a p C dx2 : Addr} {N : Int} {rows : List Row} {pd : Int} {fs2 : List (Str × V)} (h : TurnAt K H a N rows pd) (s : Sx p H H') (hp : H p = some (.ins C dx2 fs2)) (hn : a ≠ p) : TurnAt K H' a N rows pd := by
  obtain ⟨dx, fs, tr, xs, h1, h2, h3, h4, h5, h6, h7, h8, h9⟩ := h.ex
  exact ⟨dx, fs, tr, xs, s _ _ h1 hn, h2, h3, h4, h5, h6, h7, s _ _ h8 (ne_of h8 hp (by intro z; cases z)), h9.sx s hp⟩
/-- a part: its words and their rows -/
abbrev Ws := List (Str × List Row)
structure PartOk (N : Int) (ws : Ws) : Prop where
  n2 : 2 ≤ N
  n360 : N ≤ 360
  shape : (∃ r, ws = [(("push" : Str), r)]) ∨ (∃ r, ws = [(("squeeze" : Str), r)]) ∨ ∃ r1 r2, ws = [(("push" : Str), r1), (("squeeze" : Str), r2)]
  val : ∀ x ∈ ws, Valid N x.2 ∧ x.2.length ≤ 12
def TV (K : PySem.W.Frag) (H : Hp) (N : Int) (kvs : List (Key × V)) (ws : Ws) : Prop := Paired (fun (kv : Key × V) (wr : Str × List Row) => kv.1 = Sum.inr wr.1 ∧ ∃ t pd, kv.2 = .ref t ∧ TurnAt K H t N wr.2 pd ∧ Least N (lift N wr.2) pd) kvs ws
theorem TV.mono {K : PySem.W.Frag} {H H' : Hp} {N : Int} {kvs : List (Key × V)} {ws : Ws} (h : TV K H N kvs ws) (s : Same H H') : TV K H' N kvs ws :=
  Paired.mapQ h fun _ _ ⟨a, t, pd, b, c, d⟩ => ⟨a, t, pd, b, c.mono s, d⟩
structure PartAt (K : PySem.W.Frag) (H : Hp) (a : Addr) (N : Int) (ws : Ws) : Prop where
  ok : PartOk N ws
  ex : ∃ dx fs d kvs, H a = some (.ins (He.ga K "Part") dx fs) ∧ fs.lookup ("around" : Str) = some (.int N) ∧ fs.lookup ("_turnings" : Str) = some (.ref d) ∧ fs.lookup ("rests" : Str) = none ∧ H d = some (.dK kvs) ∧ TV K H N kvs ws
theorem PartAt.mono {K : PySem.W.Frag} {H H' : Hp} {a : Addr} {N : Int} {ws : Ws} (h : PartAt K H a N ws) (s : Same H H') : PartAt K H' a N ws := by
  obtain ⟨dx, fs, d, kvs, h1, h2, h3, h4, h5, h6⟩ := h.ex
  exact ⟨h.ok, dx, fs, d, kvs, s _ _ h1, h2, h3, h4, s _ _ h5, h6.mono s⟩
def ArgT (K : PySem.W.Frag) (H : Hp) (N : Int) (v : V) : Option (List Row) → Prop
  | none => v = .non
  | some rows => ∃ t pd, v = .ref t ∧ TurnAt K H t N rows pd ∧ Least N (lift N rows) pd
theorem ArgT.is {K : PySem.W.Frag} {H : Hp} {N : Int} {v : V} {o : Option (List Row)} (h : ArgT K H N v o) : (o = none ∧ v = .non) ∨ ∃ rows t pd, o = some rows ∧ v = .ref t ∧ TurnAt K H t N rows pd ∧ Least N (lift N rows) pd := by
  cases o with
  | none => exact .inl ⟨rfl, h⟩
  | some rows =>
    obtain ⟨t, pd, a, b, c⟩ := h
    exact .inr ⟨rows, t, pd, rfl, a, b, c⟩
def wsOf (po so : Option (List Row)) : Ws := (po.map fun r => (("push" : Str), r)).toList ++ (so.map fun r => (("squeeze" : Str), r)).toList
/-- the maps of its words -/
def maps (N : Int) (ws : Ws) : List (Int → Int) := ws.map fun x => lift N x.2
theorem TV.look {K : PySem.W.Frag} {H : Hp} {N : Int} {kvs : List (Key × V)} {ws : Ws} (h : TV K H N kvs ws) (x : Str) : (ws.lookup x = none ∧ valV kvs (Sum.inr x : Key) = none) ∨
    ∃ rows t pd, ws.lookup x = some rows ∧ valV kvs (Sum.inr x : Key) = some (.ref t) ∧ TurnAt K H t N rows pd ∧ Least N (lift N rows) pd := by
  unfold TV at h
  induction h with
  | nil => exact .inl ⟨rfl, rfl⟩
  | cons r t ih =>
    rename_i a b l1 l2
    obtain ⟨w, rows⟩ := b
    obtain ⟨kk, vv⟩ := a
    obtain ⟨e, t, pd, e2, tu, le⟩ := r
    have e : kk = Sum.inr w := e
    have e2 : vv = .ref t := e2
    subst e e2
    by_cases q : x = w
    · subst q
      refine .inr ⟨rows, t, pd, ?_, valV_pos rfl, tu, le⟩
      rw [List.lookup_cons, beq_self_eq_true]
    · have hb : (x == w) = false := beq_eq_false_iff_ne.mpr q
      have hv : valV ((Sum.inr w, V.ref t) :: l1) (Sum.inr x : Key) = valV l1 (Sum.inr x) := valV_neg fun z => q (Sum.inr.inj z).symm
      rw [List.lookup_cons, hb, hv]
      exact ih
theorem TV.map {K : PySem.W.Frag} {H : Hp} {N : Int} {kvs : List (Key × V)} {ws : Ws} (h : TV K H N kvs ws) : kvs.map (·.1) = ws.map fun x => Sum.inr x.1 := by
  unfold TV at h
  induction h with
  | nil => rfl
  | cons r t ih => rw [List.map_cons, List.map_cons, ih, r.1]
/-- the period there is -/
theorem perOf_ex {K : PySem.W.Frag} {H : Hp} {N : Int} (hN : 0 < N) {kvs : List (Key × V)} {ws : Ws} (h : TV K H N kvs ws) : ∀ Fs p, PerOf N Fs p → ∃ q, PerOf N (Fs ++ maps N ws) q := by
  unfold TV at h
  induction h with
  | nil => intro Fs p a; exact ⟨p, by simpa [maps] using a⟩
  | cons r t ih =>
    rename_i a b l1 l2
    intro Fs p a
    obtain ⟨_, _, pd, _, _, le⟩ := r
    obtain ⟨q, hq⟩ := ih _ _ (a.snoc hN le)
    refine ⟨q, ?_⟩
    have e : Fs ++ maps N (b :: l2) = Fs ++ [lift N b.2] ++ maps N l2 := by
      unfold maps
      rw [List.map_cons, List.append_assoc]; rfl
    rw [e]
    exact hq
theorem PartAt.per {K : PySem.W.Frag} {H : Hp} {a : Addr} {N : Int} {ws : Ws} (h : PartAt K H a N ws) : ∃ q, PerOf N (maps N ws) q := by
  obtain ⟨dx, fs, d, kvs, h1, h2, h3, h4, h5, h6⟩ := h.ex
  have := perOf_ex (by have := h.ok.n2; omega) h6 [] 1 PerOf.nil
  simpa using this
theorem upd_self {H : Hp} {d : Addr} {u : HO} (h : H d = some u) : upd H d u = H := by
  funext b
  by_cases q : b = d
  · subst q; rw [upd_same, h]
  · rw [upd_ne q]
/-! ### plans -/
def DV (H : Hp) (xs : List V) (ds : List (Str × Int)) : Prop := Paired (fun x p => ∃ t, x = V.ref t ∧ H t = some (.tup [.str p.1, .int p.2])) xs ds
section
variable {H H' : Hp} {xs : List V} {ds : List (Str × Int)}
theorem DV.mono (h : DV H xs ds) (s : Same H H') : DV H' xs ds := Paired.mapQ h fun _ _ ⟨t, a, b⟩ => ⟨t, a, s _ _ b⟩
theorem DV.len (h : DV H xs ds) : xs.length = ds.length := Paired.len h
theorem DV.at1 (h : DV H xs ds) {i : Nat} {x : V} (e : xs[i]? = some x) : ∃ p t, ds[i]? = some p ∧ x = .ref t ∧ H t = some (.tup [.str p.1, .int p.2]) := by
  obtain ⟨p, a, t, b, c⟩ := Paired.at1 h e
  exact ⟨p, t, a, b, c⟩
theorem DV.at2 (h : DV H xs ds) {i : Nat} {p : Str × Int} (e : ds[i]? = some p) : ∃ t, xs[i]? = some (.ref t) ∧ H t = some (.tup [.str p.1, .int p.2]) := by
  obtain ⟨x, a, t, b, c⟩ := Paired.at2 h e
  exact ⟨t, by rw [a, b], c⟩
theorem DV.snoc (h : DV H xs ds) {t : Addr} {p : Str × Int} (e : H t = some (.tup [.str p.1, .int p.2])) : DV H (xs ++ [.ref t]) (ds ++ [p]) := Paired.snoc h ⟨t, rfl, e⟩
theorem DV.nil : DV H [] [] := Paired.nil
theorem DV.upd_lst {ys zs : List V} {d : Addr} (h : DV H xs ds) (hd : H d = some (.lst ys)) : DV (upd H d (.lst zs)) xs ds := Paired.mapQ h fun _ _ ⟨t, a, b⟩ => ⟨t, a, by
  rw [upd_ne (ne_of b hd (by intro z; cases z))]; exact b⟩
theorem DV.sx {p C dx : Addr} {fs : List (Str × V)} (h : DV H xs ds) (s : Sx p H H') (hp : H p = some (.ins C dx fs)) : DV H' xs ds := Paired.mapQ h fun _ _ ⟨t, a, b⟩ => ⟨t, a, s _ _ b (ne_of b hp (by intro z; cases z))⟩
end
structure PlanAt (K : PySem.W.Frag) (H : Hp) (a : Addr) (N : Int) (ds : List (Str × Int)) : Prop where
  ex : ∃ dx fs t xs, H a = some (.ins (He.ga K "Plan") dx fs) ∧ fs.lookup ("around" : Str) = some (.int N) ∧ fs.lookup ("deeds" : Str) = some (.ref t) ∧ H t = some (.tup xs) ∧ DV H xs ds
theorem PlanAt.mono {K : PySem.W.Frag} {H H' : Hp} {a : Addr} {N : Int} {ds : List (Str × Int)} (h : PlanAt K H a N ds) (s : Same H H') : PlanAt K H' a N ds := by
  obtain ⟨dx, fs, t, xs, h1, h2, h3, h4, h5⟩ := h.ex
  exact ⟨dx, fs, t, xs, s _ _ h1, h2, h3, s _ _ h4, h5.mono s⟩
/-- the map of a word -/
def FW (N : Int) (ws : Ws) (x : Str) (y : Int) : Int := match ws.lookup x with
  | some rows => lift N rows y
  | none => y
theorem FW_at {N : Int} {ws : Ws} {x : Str} {rows : List Row} (h : ws.lookup x = some rows) : FW N ws x = lift N rows := by
  funext y
  unfold FW
  rw [h]
/-! ### sorted of pairs -/
def kOf (H : Hp) : V → Int × Int
  | .ref t => match H t with
    | some (.tup [.int i, .int j]) => (i, j)
    | _ => (0, 0)
  | _ => (0, 0)
theorem kOf_at {H : Hp} {t : Addr} {i j : Int} (h : H t = some (.tup [.int i, .int j])) : kOf H (.ref t) = (i, j) := by
  show (match H t with
    | some (.tup [.int i, .int j]) => (i, j)
    | _ => (0, 0)) = (i, j)
  rw [h]
theorem PV.map {H : Hp} {xs : List V} {rows : List Row} (h : PV H xs rows) : xs.map (kOf H) = rows := by
  unfold PV at h
  induction h with
  | nil => rfl
  | cons r t ih =>
    obtain ⟨t, e, h⟩ := r
    rw [List.map_cons, ih, e, kOf_at h]
theorem PV.mem {H : Hp} {xs : List V} {rows : List Row} (h : PV H xs rows) : ∀ x ∈ xs, ∃ t, x = .ref t ∧ H t = some (.tup [.int (kOf H x).1, .int (kOf H x).2]) := by
  unfold PV at h
  induction h with
  | nil => intro x m; cases m
  | cons r t ih =>
    intro x m
    obtain ⟨t, e, h⟩ := r
    rcases List.mem_cons.mp m with q | q
    · subst q
      refine ⟨t, e, ?_⟩
      rw [e, kOf_at h]
      exact h
    · exact ih x q
theorem PV.of_mem {H : Hp} : ∀ {xs : List V}, (∀ x ∈ xs, ∃ t, x = V.ref t ∧ H t = some (.tup [.int (kOf H x).1, .int (kOf H x).2])) → PV H xs (xs.map (kOf H))
  | [], _ => .nil
  | x :: r, h => .cons (h x (List.mem_cons_self ..)) (PV.of_mem fun y m => h y (List.mem_cons_of_mem _ m))
theorem r_sortedP {K : PySem.W.Frag} {H : Hp} {a : Addr} {xs : List V} {rows : List Row} {Q : VK} (hl : H a = some (.lst xs)) (pv : PV H xs rows)
    (h : ∀ ys p rows', H p = none → PV H ys rows' → rows'.Perm rows → rows'.Pairwise lexLeM → Q (.ref p) (upd H p (.lst ys))) : rSortedPO K [.ref a] H Q := by
  refine ⟨a, xs, kOf H, rfl, .inl (.inl hl), pv.mem, fun ys p srt stb hp => ?_⟩
  refine h ys p (ys.map (kOf H)) hp (PV.of_mem fun x m => pv.mem x (stb.perm.mem_iff.mp m)) ?_ ?_
  · rw [← pv.map]
    exact stb.perm.map _
  · rw [List.pairwise_map]
    refine List.Pairwise.imp (fun {x y} e => ?_) srt
    have e2 : SrtO.lexB (kOf H y) (kOf H x) = false := e
    have e3 := SrtO.lexB_no.mp e2
    unfold lexLeM
    omega
/-! ### compared as data -/
def pairD (p : Row) : PyData := .tuple [.int p.1, .int p.2]
def rowsD (rows : List Row) : PyData := .tuple (rows.map pairD)
def intsD (ns : List Int) : PyData := .list (ns.map PyData.int)
theorem eqv_pair (p q : Row) : PyData.eqv (pairD p) (pairD q) = decide (p = q) := by
  obtain ⟨a, b⟩ := p
  obtain ⟨c, d⟩ := q
  simp only [pairD, PyData.eqv, PyData.eqvAll, Bool.and_true, Prod.mk.injEq]
  by_cases h1 : a = c <;> by_cases h2 : b = d <;> simp [h1, h2]
theorem eqvAll_dec {α : Type} [DecidableEq α] (f : α → PyData) (hf : ∀ a b, PyData.eqv (f a) (f b) = decide (a = b)) : ∀ xs ys : List α, PyData.eqvAll (xs.map f) (ys.map f) = decide (xs = ys)
  | [], [] => by simp [PyData.eqvAll]
  | [], _ :: _ => by simp [PyData.eqvAll]
  | _ :: _, [] => by simp [PyData.eqvAll]
  | x :: xs, y :: ys => by
    simp only [List.map_cons, PyData.eqvAll, hf, eqvAll_dec f hf xs ys, List.cons.injEq]
    by_cases h1 : x = y <;> by_cases h2 : xs = ys <;> simp [h1, h2]
theorem eqv_rows (a b : List Row) : PyData.eqv (rowsD a) (rowsD b) = decide (a = b) := by
  simp only [rowsD, PyData.eqv]
  exact eqvAll_dec pairD eqv_pair a b
theorem eqv_ints (a b : List Int) : PyData.eqv (intsD a) (intsD b) = decide (a = b) := by
  simp only [intsD, PyData.eqv]
  exact eqvAll_dec PyData.int (fun a b => by simp only [PyData.eqv]; by_cases h : a = b <;> simp [h]) a b
theorem lay_all {α : Type} (f : α → PyData) (n : Nat) (hf : ∀ a, (f a).canLay0 = true ∧ (f a).depth ≤ n) : ∀ xs : List α, PyData.canLayAll0 (xs.map f) = true ∧ PyData.depthAll (xs.map f) ≤ n
  | [] => by simp [PyData.canLayAll0, PyData.depthAll]
  | x :: xs => by
    have h := lay_all f n hf xs
    have g := hf x
    simp only [List.map_cons, PyData.canLayAll0, PyData.depthAll, h.1, g.1, Bool.and_self, true_and]
    omega
theorem shaped_pair (p : Row) : (pairD p).canLay0 = true ∧ (pairD p).depth ≤ 1 := by
  simp [pairD, PyData.canLay0, PyData.canLayAll0, PyData.depth, PyData.depthAll]
theorem shaped_rows (a : List Row) : SeqAt.shaped (rowsD a) = true := by
  have h := lay_all pairD 1 shaped_pair a
  refine Bool.and_eq_true_iff.mpr ⟨?_, decide_eq_true ?_⟩
  · rw [rowsD, PyData.canLay0]
    exact h.1
  · rw [rowsD, PyData.depth]
    have := h.2
    omega
theorem shaped_ints (a : List Int) : SeqAt.shaped (intsD a) = true := by
  have h := lay_all PyData.int 0 (fun i => by simp [PyData.canLay0, PyData.depth]) a
  refine Bool.and_eq_true_iff.mpr ⟨?_, decide_eq_true ?_⟩
  · rw [intsD, PyData.canLay0]
    exact h.1
  · rw [intsD, PyData.depth]
    have := h.2
    omega
theorem PV.dpAll {K : PySem.W.Frag} {H : Hp} {xs : List V} {rows : List Row} (h : PV H xs rows) : DpAll K H xs (rows.map pairD) := by
  unfold PV at h
  induction h with
  | nil => exact .nil
  | cons r t ih =>
    obtain ⟨t, e, h⟩ := r
    subst e
    exact .cons (.tup (.inl (.inl h)) (.cons (.int _) (.cons (.int _) .nil))) ih
theorem PV.dp {K : PySem.W.Frag} {H : Hp} {t : Addr} {xs : List V} {rows : List Row} (h : PV H xs rows) (ht : H t = some (.tup xs)) : Dp K H (.ref t) (rowsD rows) := .tup (.inl (.inl ht)) h.dpAll
theorem ints_dpAll {K : PySem.W.Frag} {H : Hp} : ∀ ns : List Int, DpAll K H (ns.map V.int) (ns.map PyData.int)
  | [] => .nil
  | n :: ns => .cons (.int n) (ints_dpAll ns)
theorem ints_dp {K : PySem.W.Frag} {H : Hp} {t : Addr} {ns : List Int} (ht : H t = some (.lst (ns.map V.int))) : Dp K H (.ref t) (intsD ns) := .lst (.inl (.inl ht)) (ints_dpAll ns)
/-! ### attributes by names -/
theorem strNe {a b : Str} (h : decide (a = b) = false) : ¬ a = b := of_decide_eq_false h
theorem lk_put {f g : Str} {v : V} {fs : List (Str × V)} (h : ¬ g = f) : (putF f v fs).lookup g = fs.lookup g := by rw [lookup_putF, if_neg h]
theorem lk_same {f : Str} {v : V} {fs : List (Str × V)} : (putF f v fs).lookup f = some v := by rw [lookup_putF, if_pos rfl]
theorem pl {f : Str} {v : V} {fs : List (Str × V)} {n : Nat} (h : fs.length ≤ n) : (putF f v fs).length ≤ n + 1 := by have := length_putF f v fs; omega
theorem pl1 {f : Str} {v : V} : (putF f v []).length < 1000 := Nat.lt_of_le_of_lt (pl (Nat.le_refl 0)) (by decide)
theorem pl2 {f f2 : Str} {v v2 : V} : (putF f v (putF f2 v2 [])).length < 1000 := Nat.lt_of_le_of_lt (pl (pl (Nat.le_refl 0))) (by decide)
theorem pl3 {f f2 f3 : Str} {v v2 v3 : V} : (putF f v (putF f2 v2 (putF f3 v3 []))).length < 1000 := Nat.lt_of_le_of_lt (pl (pl (pl (Nat.le_refl 0)))) (by decide)
theorem pl4 {f f2 f3 f4 : Str} {v v2 v3 v4 : V} : (putF f v (putF f2 v2 (putF f3 v3 (putF f4 v4 [])))).length < 1000 := Nat.lt_of_le_of_lt (pl (pl (pl (pl (Nat.le_refl 0))))) (by decide)
theorem lk_nil {g : Str} : ([] : List (Str × V)).lookup g = none := rfl
end Jaw

/-! ## Se -/
set_option Elab.async false
set_option linter.all false
set_option maxRecDepth 100000
set_option maxHeartbeats 4000000
/-! sets of whole numbers: set(list), {elt for ..}, len -/
namespace Jaw
open PySem PySem.Spec PyProof.Rows L2
/-- the object that a set begins as -/
abbrev so0 (w : World) : Obj := { cls := .type "set", dict := none, data := .set #[] 0 (.fresh 0 0 (!w.params.followText "set-order")) }
section
variable {P : Program} {w : World} {A : Around} {E : Value → Shared → Prop} {s : Shared}
/-- set(xs), xs a list of ints -/
theorem set_of_list {l : Addr} {items : Array Value} {ns : List Int} {Q : Value → Shared → Prop} (hh : A.handled = none) (hl : s.heap.IsList l items) (hit : IntsAre items.toList ns) (hb : ns.length + 1 < scanBound)
    (h : ∀ (h' : Heap) (tk c : Nat), SetR w h' s.heap.objs.size (fun j => decide (j ∈ ns)) c → (∀ b o, s.heap.get? b = some o → h'.get? b = some o) → Q (.ref s.heap.objs.size) { s with heap := h', toks := tk }) :
    wpAny (model P w) A (call (.type "set") [.ref l]) Q E s := by
  have lenI : items.size = ns.length := by rw [← Array.length_toList]; exact IntsAre.length hit
  have ⟨c, tl, hmro⟩ := F.called_set.mro
  have m1 := F.called_set.made
  have m2 := F.called_set.sub
  have m3 := F.called_set.notType
  have m4 := F.called_set.canCreate
  have m5 := F.typeCall_set_1 (.ref l)
  refine wpAny_call (codeAny_of_tree ?_)
  show wpAny _ _ (callAny (.type "set") _) _ _ _
  refine wpAny_pure ⟨Code.quiet_builtin _ (by decide +kernel), codeAny_builtin F.entry_type_call ?_⟩
  rw [Around.under_plain (weight_type_call_type "set" [.ref l] []) rfl]
  repeat (any_goals (first | assumption | wp_step))
  -- the new object
  let W1 : Value → Shared → Prop := fun obj t => obj = .ref s.heap.objs.size ∧ t = { s with heap := s.heap.push (so0 w) }
  refine codeAny_mono (code_set_led1 (.ref l) (E := E) (Q₁ := W1) ⟨rfl, rfl⟩) fun r t1 hr => ?_
  match r, hr with
  | .error _, hr => exact hr
  | .ok .next, hr => exact hr.elim
  | .ok .brk, hr => exact hr.elim
  | .ok .cont, hr => exact hr.elim
  | .ok (.ret obj), hr =>
  obtain ⟨rfl, rfl⟩ := hr
  have hS : (s.heap.push (so0 w)).get? s.heap.objs.size = some (so0 w) := Heap.get?_push_size _ rfl
  have hT : Shared.TypeIs { s with heap := s.heap.push (so0 w) } (.ref s.heap.objs.size) "set" := ⟨_, hS, rfl⟩
  have i1 := F.called_set.init.lookup
  have i2 := F.called_set.init.bind (.ref s.heap.objs.size)
  repeat (any_goals (first | assumption | wp_step))
  -- its filling
  let W2 : Value → Shared → Prop := fun r t => r = .none ∧ ∃ h' tk c, t = { s with heap := h', toks := tk } ∧ SetR w h' s.heap.objs.size (fun j => decide (j ∈ ns)) c ∧ ∀ b o, s.heap.get? b = some o → h'.get? b = some o
  refine codeAny_mono (codeAny_call_builtin (R := wants W2 E) F.called_set.init.plain F.entry_set_init (check_set_init_1 hT ?_)) fun r2 t2 hr2 => ?_
  · obtain ⟨⟨ocls, odict, odata, oslots⟩, hol, hcl, nl, hdl⟩ := hl
    simp only at hcl hdl
    subst hcl hdl
    have hol' : (s.heap.push (so0 w)).get? l = some { cls := .type "list", dict := odict, data := .seq items nl, slots := oslots } := Heap.get?_push_of_some _ hol
    have n1 := F.sub_list_set
    have n2 := F.sub_list_frozenset
    have n3 : (Value.type "list" == Value.type "dict") = false := by decide
    have hl1 : (s.heap.push (so0 w)).IsList l items := ⟨_, hol', rfl, nl, rfl⟩
    unfold Builtin.«set.__init__» noKeywords Builtin.Frozenset.updateFrom
    generalize hPI : pyIter = PI
    wp_walk
    subst hPI
    refine wpAny_pyIter_list hl1 (wpAny_bind (wpAny_runValue ?_))
    have ll : l < s.heap.objs.size := Heap.lt_size hol
    have lz : (s.heap.push (so0 w)).objs.size = s.heap.objs.size + 1 := Heap.size_push ..
    have a3 : A.in1.in1.in1.handled = none := by simp [hh]
    have neI : l ≠ (s.heap.push (so0 w)).objs.size := by rw [lz]; exact Nat.ne_of_lt (Nat.lt_succ_of_lt ll)
    have nIn : s.heap.objs.size ∉ [(s.heap.push (so0 w)).objs.size, l] := fun m => by
      rcases List.mem_cons.mp m with e | m
      · rw [lz] at e; exact absurd e (Nat.ne_of_lt (Nat.lt_succ_self _))
      · exact absurd (List.mem_singleton.mp m) (Nat.ne_of_gt ll)
    have val : ∀ (i : Nat) (v : Value), items[i]? = some v → ∃ k t, ns[i]? = some k ∧ v = .int k t := fun i v hv => by
      have hi : i < ns.length := by rw [← lenI]; exact (Array.getElem?_eq_some_iff.mp hv).1
      obtain ⟨t, e⟩ := PyProof.Rows.IntsAre.int_at hit i v (by rw [Array.getElem?_toList]; exact hv)
      exact ⟨ns[i], t, List.getElem?_eq_getElem hi, by rw [e, List.getD_eq_getElem?_getD, List.getElem?_eq_getElem hi]; rfl⟩
    refine set_update_ints (Walks.list a3 _ l neI items).toS s.heap.objs.size nIn ns lenI hb val (items.size - 0) 0 _ (by omega) (Nat.zero_le _) ⟨⟨_, Heap.get?_push_size _ rfl, rfl, rfl⟩, hl1.push _⟩
      ⟨0, Nat.le_refl 0, setR_new_at (Heap.get?_push_of_some _ hS)⟩ fun s' c' hm hc' hS' => ?_
    obtain ⟨h', g2, d', tk', os'⟩ := s'
    obtain rfl : g2 = s.gens := hm.gens
    obtain rfl : d' = s.drawn := hm.drawn
    obtain rfl : os' = s.os := hm.os
    show wpAny _ _ _ _ _ _
    refine wpAny_pure ?_
    show wpAny _ _ (ret Value.none) _ _ _
    refine wpAny_pure ⟨rfl, h', tk', c', rfl, hS', fun b o e => ?_⟩
    have b0 : b < s.heap.objs.size := Heap.lt_size e
    refine hm.heap b o (fun m => ?_) (Heap.get?_push_of_some _ (Heap.get?_push_of_some _ e))
    rcases List.mem_cons.mp m with q | m
    · exact absurd q (Nat.ne_of_lt b0)
    · rw [lz] at m
      exact absurd (List.mem_singleton.mp m) (Nat.ne_of_lt (Nat.lt_succ_of_lt b0))
  · match r2, hr2 with
    | .error _, hr2 => exact hr2
    | .ok .next, hr2 => exact hr2.elim
    | .ok .brk, hr2 => exact hr2.elim
    | .ok .cont, hr2 => exact hr2.elim
    | .ok (.ret _), hr2 =>
    obtain ⟨rfl, h', tk, c, rfl, hS', hk'⟩ := hr2
    repeat (any_goals (first | assumption | wp_step))
    exact h _ _ _ hS' hk'
end
theorem ints_vals : ∀ {ns : List Int} {us : List Value}, Vals (ns.map V.int) us → IntsAre us ns
  | [], _, .nil => .nil
  | n :: ns, _, .cons r t => by
    obtain ⟨k, rfl⟩ := r
    exact .cons n k (ints_vals t)
section
variable {X : Cx}
def rSetI (K : PySem.W.Frag) (w : World) : List V → Hp → VK → Prop := fun vs H Q => ∃ (a : Addr) (ns : List Int), vs = [.ref a] ∧ H a = some (.lst (ns.map V.int)) ∧ ns.length ≤ 2000 ∧
  ∀ p n (es : List Int), es.Nodup → (∀ k, k ∈ es ↔ k ∈ ns) → es.length = n → H p = none → Q (.ref p) (upd H p (SetO w p (fun j => decide (j ∈ ns)) n))
/-- set(xs) -/
theorem cr_setI (hc : X.calm = true) : CallR X (.type "set") (rSetI X.K X.w) := by
  intro pins s σ H vs us Q I r h
  obtain ⟨a, ns, rfl, ha, hl, q⟩ := h
  obtain ⟨its, rv, pl, hz⟩ := I.list (a := a) (xs := ns.map V.int) (.inl (.inl ha))
  rw [Vals.ref1 r]
  refine set_of_list (ns := ns) (I.ok.hd hc) pl.isList (by simpa using ints_vals rv) (by unfold scanBound; omega) fun h' tk c R k => ?_
  refine ⟨.ref _, _, I.laid (t' := tk) (fun b u e => k b u e) (Nat.le_refl _) (setO_new R), rfl, ?_⟩
  obtain ⟨o, es, ep, t, ho, hex, hd, hg, hnd, hm, hb, hf, hn, _⟩ := id R
  exact q _ c (es.toList.map keyOf) hnd (fun k => (hm k).symm.trans (by simp)) (by rw [List.length_map, Array.length_toList, hn]) (I.hok.fresh (Nat.le_refl _))
def rLenS (w : World) : List V → Hp → VK → Prop := fun vs H Q => ∃ (a : Addr) (S : Int → Bool) (n : Nat), vs = [.ref a] ∧ H a = some (SetO w a S n) ∧
  (∀ es : List Int, es.Nodup → (∀ k, S k = true ↔ k ∈ es) → es.length = n → Q (.int n) H)
/-- len(S) -/
theorem cr_lenS : CallR X (.builtin "len") (rLenS X.w) := by
  intro pins s σ H vs us Q I r h
  obtain ⟨a, S, n, rfl, ha, q⟩ := h
  rw [Vals.ref1 r]
  have R := setO_get I ha
  obtain ⟨o, es, ep, t, ho, hex, hd, hg, hnd, hm, hb, hf, hn, _⟩ := R
  unfold scanBound at hb
  refine call_len_set ho hex hd hf (by omega) ⟨.int n, H, I.tok _, ⟨_, by rw [hn]⟩, q (es.toList.map keyOf) hnd hm (by rw [List.length_map, Array.length_toList, hn])⟩
/-- a set's own add -/
theorem add_int {pins : List (Addr × Obj)} {σ : L2.St} {H : Hp} {s : Shared} {E : Value → Shared → Prop} {a : Addr} {S : Int → Bool} {n : Nat} {k : Int} {tk : Tok} {Q : Value → Shared → Prop} (I : Inv X pins σ H s) (ha : H a = some (SetO X.w a S n)) (room : n + 1 < scanBound)
    (h : ∀ s', Inv X pins σ (upd H a (SetO X.w a (fun j => S j || decide (j = k)) (if S k = true then n else n + 1))) s' → Q .none s') : wpAny (model X.prog X.w) X.A (call (.builtin "set.add") [.ref a, .int k tk]) Q E s := by
  refine setR_add (setO_get I ha) room fun h' sb new => h _ ?_
  refine I.write (e := a) (t' := s.toks + 1) (by rw [ha]; trivial) (.inl rfl) (fun b u hb hu => (sb.2 b hb).trans hu) ?_ (setO_new new)
  have ⟨o, _, _, _, ho, _⟩ := new
  exact ⟨o, ho⟩
/-- what a walk's turn of {elt for ..} is asked: Dd the new set -/
def ScT (w : World) (g : TG) (tt : TT) (te : TE) (vs : List Nat) (σ : L2.St) (Dd : Addr) (x : V) (H : Hp) (N : Hp → Prop) : Prop := g x (wipe σ vs) H fun σ2 H2 => wipe σ2 vs = wipe σ vs ∧ tt σ2 H2 fun b H3 =>
  if b = true then te σ2 H3 fun y H4 => ∃ (k : Int) (S : Int → Bool) (n : Nat), y = .int k ∧ H4 Dd = some (SetO w Dd S n) ∧ n + 1 < scanBound ∧ N (upd H4 Dd (SetO w Dd (fun j => S j || decide (j = k)) (if S k = true then n else n + 1))) else N H3
def tSi (w : World) (wi : TI) (g : TG) (tt : TT) (te : TE) (vs : List Nat) : TE := fun σ H Q => wi σ H fun J H1 => ∀ Dd, H1 Dd = none → ∃ W : Nat → Nat → Hp → Prop, (∃ m, W 0 m (upd H1 Dd (SetO w Dd (fun _ => false) 0))) ∧ ∀ i m H, W i m H →
  (J.stop i H ∧ Q (.ref Dd) H) ∨ (J.go i H ∧ ∃ Nx : Hp → Prop, (∀ H', Nx H' → ∃ m', m' < m ∧ W (i + 1) m' H') ∧ ∀ x H', J.yld i H x H' → ScT w g tt te vs σ Dd x H' Nx)
variable {elt tg iter : Expr} {ifs : List Expr} {scope : Scope} {own : List (PySem.Str × Nat)} {pos : Pos} {wi : TI} {g : TG} {tt : TT} {te : TE}
/-- {elt for target in iter if ..}, elt a whole number -/
theorem pe_scI (hc : X.calm = true) (hN : X.N.Nodup) (hi : PI X tg iter wi) (ok : BlkOk X.N X.env.scope scope own)
    (hg : ∀ (s : Shared) (H : Hp) (C : Addr) (cl : List (PySem.Str × Addr)) (fp : List Addr), PG (X.blk s H scope (compEnvC scope cl C X.env) fp) tg g) (ht : ∀ (s : Shared) (H : Hp) (C : Addr) (cl : List (PySem.Str × Addr)) (fp : List Addr), PTs (X.blk s H scope (compEnvC scope cl C X.env) fp) ifs tt)
    (he : ∀ (s : Shared) (H : Hp) (C : Addr) (cl : List (PySem.Str × Addr)) (fp : List Addr), PE (X.blk s H scope (compEnvC scope cl C X.env) fp) elt te) (hs : ∀ x, foldedSetIterable iter X.env x = pure x := by intro _; rfl) :
    PE X (.SetComp elt [⟨tg, iter, ifs, 0⟩] scope pos) (tSi X.w wi g tt te (own.map (·.2))) := by
  refine ⟨fun pins s σ H Q I h => ?_⟩
  rw [PpSet.eval_SetComp]
  have hfree : ∀ y ∈ scope.names, y.2 = .free → ∃ c, X.env.cells.lookup y.1 = some c := fun y hy e => (ok.free y hy e).elim (fun k => I.ok.has _ (.inl k)) fun k => I.ok.has _ (.inr k)
  refine wpAny_comprehension_free (use := none) rfl hs (closure_ok hfree) ok.kind (fun y hy e => by rw [ok.uniq y hy, e]) (thn (hi.run pins s σ H _ I h) fun xv s1 hx => thn hx fun itv s2 h2 => ?_)
  obtain ⟨it, fp, tn, J, H2, rfl, I2, T, st2, f2, q⟩ := h2
  refine PpSet.newSet_ok (newEnv_comp ?_)
  -- the new set
  generalize hD : s2.heap.objs.size = Dd
  obtain ⟨W, ⟨m0, w0⟩, turn⟩ := q Dd (I2.hok.fresh (Nat.le_of_eq hD))
  generalize e3 : ({ s2 with heap := s2.heap.push (so0 X.w) } : Shared) = s3
  have h3 : s3.heap = s2.heap.push (so0 X.w) := by rw [← e3]
  generalize eH : upd H2 Dd (SetO X.w Dd (fun _ => false) 0) = H3 at w0
  have up3 : ∀ b, b ≠ Dd → H3 b = H2 b := fun b n => by rw [← eH, upd_ne n]
  have I3 : Inv X pins σ H3 s3 := by
    rw [← e3, ← eH]
    refine I2.laid (t' := s2.toks) (fun b o e => Heap.get?_push_of_some _ e) (Nat.le_of_eq hD) ?_
    rw [← hD]
    exact setO_new (setR_fresh X.w)
  have f3 : ∀ b ∈ fp, FpOk X pins H3 b ∧ b < s3.heap.objs.size := fun b hb => by
    obtain ⟨o, e, _⟩ := T.obj _ _ st2 b hb
    have lt := Heap.lt_size e
    exact ⟨⟨by rw [up3 b (by rw [← hD]; exact Nat.ne_of_lt lt)]; exact (f2 b hb).1, (f2 b hb).2⟩, by rw [h3, Heap.size_push]; exact Nat.lt_succ_of_lt lt⟩
  have st3 : tn 0 s3.heap := T.keep _ _ _ st2 fun b _ o e => by rw [h3]; exact Heap.get?_push_of_some _ e
  -- the block
  generalize eC : cellsFrom (s3.heap.objs.size + 1) scope.names (cloFrom X.env.cells scope.names []) = cl
  have I4 := block_start I3 ok hN f3
  rw [eC] at I4
  have pg := hg s3 H3 s3.heap.objs.size cl fp
  have pt := ht s3 H3 s3.heap.objs.size cl fp
  have pe := he s3 H3 s3.heap.objs.size cl fp
  show codeAny _ _ (.compStart (.SetComp elt [⟨tg, iter, ifs, 0⟩] scope pos) 0 (.ref it) (.ref Dd) (compEnvC scope cl s3.heap.objs.size X.env))
    (compPost (model X.prog X.w) X.A X.xe none (EP X pins σ Q) (.ref Dd) s3.heap.objs.size) { s3 with heap := pushCells (s3.heap.push { cls := .type "dict", data := .dict #[] }) scope.names }
  generalize hce : compEnvC scope cl s3.heap.objs.size X.env = ce at I4 pg pt pe ⊢
  have cL : ce.locals = s3.heap.objs.size := by subst hce; rfl
  generalize e4 : ({ s3 with heap := pushCells (s3.heap.push { cls := .type "dict", data := .dict #[] }) scope.names } : Shared) = s4 at I4 ⊢
  have st4 : tn 0 s4.heap := T.keep _ _ _ st3 fun b _ o e => by rw [← e4]; exact pushCells_keeps _ _ _ _ (Heap.get?_push_of_some _ e)
  have own4 : ∀ {σ' : L2.St} {H' : Hp} {s' : Shared}, Inv (X.blk s3 H3 scope ce fp) [] σ' H' s' → (∀ b ∈ fp, H' b = none) → ∀ b ∈ fp, FpOk (X.blk s3 H3 scope ce fp) [] H' b := fun {σ' H' s'} I' hn b hb =>
    ⟨hn b hb, (I'.ok.exf b hb).1, I'.ok.exfs b hb, .inl hb, fun x c e => (I'.ok.exf b hb).2 x c e, fun p hp => absurd (show p ∈ ([] : List (Addr × Obj)) ++ [] from hp) (by simp)⟩
  let J4 : Nat → Shared → Prop := fun n s' => ∃ i H', Inv (X.blk s3 H3 scope ce fp) [] (wipe σ (own.map (·.2))) H' s' ∧ tn i s'.heap ∧ (∀ b ∈ fp, H' b = none) ∧ W i n H'
  refine PpSet.codeAny_compStart_set (PpSet.compLoopS_any J4 ?_ m0 ⟨0, H3, I4, st4, fun b hb => (f3 b hb).1.1, w0⟩) (T.self X.A 0 _ _ _ st4 (PpSet.compLoopS_any J4 ?_ m0 ⟨0, H3, I4, st4, fun b hb => (f3 b hb).1.1, w0⟩))
  all_goals
    rintro n s5 ⟨i, H5, I5, st5, n5, w5⟩
    rcases turn i n H5 w5 with ⟨stop, qq⟩ | ⟨go, Nx, hNx, step⟩
    · refine thnF (T.done (X.blk s3 H3 scope ce fp) rfl rfl rfl hc i [] s5 _ H5 (fun _ _ => False) I5 (own4 I5 n5) st5 stop) fun r s6 ⟨hr, I6⟩ => ?_
      subst hr
      have I7 : Inv X pins σ H5 s6 := I3.call' (ch := fp) I6.os I6.base I6.hok I6.bare fun b hb => ⟨(f3 b hb).1.2.2.2.1, (f3 b hb).1.2.1, (f3 b hb).1.2.2.2.2.1, (f3 b hb).1.2.2.2.2.2⟩
      have nC : H5 s3.heap.objs.size = none := cL ▸ (show H5 ce.locals = none from I6.free)
      obtain ⟨m, hn, _⟩ := I6.loc
      have hn : s6.heap.Ns s3.heap.objs.size m := cL ▸ (show s6.heap.Ns ce.locals m from hn)
      obtain ⟨f0, f1, _, f3', f4, f5⟩ := I3.fpOk (Nat.le_refl _) nC
      exact ⟨m, hn, fun h'' sb => ⟨.ref Dd, H5, I7.turned (t' := s6.toks) (fun b o hb e => (sb.2 b hb).trans e) f0 f1 f3' f4 f5, rfl, qq⟩⟩
    · refine thnF (T.item (X.blk s3 H3 scope ce fp) rfl rfl rfl hc i [] s5 _ H5 (fun _ _ => False) I5 (own4 I5 n5) st5 go) fun r s6 ⟨u, hr, h6⟩ => ?_
      subst hr
      refine thnF h6 fun _ s7 ⟨x, H7, I7, r7, y7, st7, n7⟩ => ?_
      refine thnF (pg.run _ s7 _ H7 x u _ (I7.pinned (own4 I7 n7) (T.obj _ _ st7)) r7 (step x H7 y7)) fun _ s8 ⟨σ8, H8, I8, hw8, q8⟩ => ?_
      refine thnF (pt.run _ s8 σ8 H8 _ I8 q8) fun b s9 ⟨H9, I9, q9⟩ => ?_
      have fin : ∀ {s' : Shared} {H' : Hp}, Inv (X.blk s3 H3 scope ce fp) ([] ++ pinsAt fp s7.heap) σ8 H' s' → Nx H' → ∃ m, m < n ∧ J4 m s' := fun {s' H'} I' nx => by
        obtain ⟨m', hm, w'⟩ := hNx H' nx
        have pin' : ∀ b ∈ fp, ∀ o, s7.heap.get? b = some o → s'.heap.get? b = some o ∧ H' b = none := fun b hb o e =>
          have z := I'.pin (b, o) (List.mem_append_right _ (List.mem_append_right _ (mem_pinsAt hb e)))
          ⟨z.1, z.2.1⟩
        refine ⟨m', hm, i + 1, H', (I'.unpinned (pins := [])).weak (by rw [← wipe_length σ8 (own.map (·.2)), hw8]) (fun j v e => (wipe_some (hw8 ▸ e)).1), T.keep _ _ _ st7 fun b hb o e => (pin' b hb o e).1, fun b hb => ?_, w'⟩
        obtain ⟨o, e, _⟩ := T.obj _ _ st7 b hb
        exact (pin' b hb o e).2
      cases b with
      | false =>
        simp only [Bool.false_eq_true, if_false] at q9 ⊢
        exact fin I9 q9
      | true =>
        simp only [if_true] at q9 ⊢
        refine thnF (pe.run _ s9 σ8 H9 _ I9 q9) fun z s10 ⟨yv, H10, I10, r10, kk, S0, n0, ey, hD10, hz10, nx⟩ => ?_
        subst ey
        obtain ⟨tk, rfl⟩ := r10
        exact add_int (X := X.blk s3 H3 scope ce fp) I10 hD10 hz10 fun s11 I11 => fin I11 nx
end
/-- what the whole walk of {elt for ..} is asked -/
def ScW (J : It) (w : World) (g : TG) (tt : TT) (te : TE) (vs : List Nat) (σ : L2.St) (Dd : Addr) (H : Hp) (Q : VK) : Prop := ∃ W : Nat → Nat → Hp → Prop, (∃ m, W 0 m (upd H Dd (SetO w Dd (fun _ => false) 0))) ∧ ∀ i m H, W i m H →
  (J.stop i H ∧ Q (.ref Dd) H) ∨ (J.go i H ∧ ∃ Nx : Hp → Prop, (∀ H', Nx H' → ∃ m', m' < m ∧ W (i + 1) m' H') ∧ ∀ x H', J.yld i H x H' → ScT w g tt te vs σ Dd x H' Nx)
/-- over a list that the block leaves as it is -/
theorem siL {w : World} {K : PySem.W.Frag} {a : Addr} {xs : List V} {g : TG} {tt : TT} {te : TE} {vs : List Nat} {σ : L2.St} {H : Hp} {Dd : Addr} {Q : VK} (Pv : Nat → Hp → Prop) (h0 : Pv 0 (upd H Dd (SetO w Dd (fun _ => false) 0))) (hG : ∀ i H, Pv i H → SqL K H a xs)
    (ht : ∀ i x H, xs[i]? = some x → Pv i H → ScT w g tt te vs σ Dd x H (Pv (i + 1))) (hd : ∀ H, Pv xs.length H → Q (.ref Dd) H) : ScW (Itl K a) w g tt te vs σ Dd H Q := by
  have wk := walk_list (K := K) (a := a) (xs := xs)
  refine ⟨fun i m H => m = xs.length - i ∧ i ≤ xs.length ∧ Pv i H, ⟨_, rfl, Nat.zero_le _, h0⟩, ?_⟩
  rintro i m H ⟨rfl, hi, p⟩
  rcases Nat.lt_or_eq_of_le hi with lt | rfl
  · refine .inr ⟨wk.goes i H lt (hG i H p), Pv (i + 1), fun H' p' => ⟨_, by omega, rfl, lt, p'⟩, fun x H' y => ?_⟩
    obtain ⟨rfl, e⟩ := wk.yields i H x H' lt (hG i H p) y
    exact ht i x _ e p
  · exact .inl ⟨wk.stops H (hG _ H p), hd H p⟩
theorem sct_n {w : World} {i : Nat} {x : V} {tt : TT} {te : TE} {vs : List Nat} {σ : L2.St} {H : Hp} {Dd : Addr} {N : Hp → Prop} (hw : wipe ((wipe σ vs).set i (some x)) vs = wipe σ vs) (h : tt ((wipe σ vs).set i (some x)) H fun b H3 =>
    if b = true then te ((wipe σ vs).set i (some x)) H3 fun y H4 => ∃ (k : Int) (S : Int → Bool) (n : Nat), y = .int k ∧ H4 Dd = some (SetO w Dd S n) ∧ n + 1 < scanBound ∧ N (upd H4 Dd (SetO w Dd (fun j => S j || decide (j = k)) (if S k = true then n else n + 1))) else N H3) : ScT w (gName i) tt te vs σ Dd x H N := ⟨hw, h⟩
theorem g_si {w : World} {wi : TI} {g : TG} {tt : TT} {te : TE} {vs : List Nat} {σ : L2.St} {H : Hp} {Q : VK} (h : wi σ H fun J H1 => ∀ Dd, H1 Dd = none → ScW J w g tt te vs σ Dd H1 Q) : tSi w wi g tt te vs σ H Q := h
end Jaw

/-! ## W1 -/
set_option Elab.async false
set_option linter.all false
set_option maxRecDepth 100000
set_option maxHeartbeats 4000000
namespace Jaw
open PySem PySem.Spec PyProof.Rows L2
local macro_rules | `(tactic| walk_at "st") => `(tactic| ((try (set_option simprocs false in dsimp only)); (repeat (first
  | with_reducible refine g_seq ?_
  | with_reducible refine g_set ?_
  | with_reducible refine g_asg ?_
  | with_reducible refine g_drop ?_
  | with_reducible refine g_ret ?_
  | with_reducible refine g_retN ?_
  | with_reducible refine g_ifs ?_
  | with_reducible refine g_next ?_
  | with_reducible refine g_brk ?_
  | with_reducible refine g_cont ?_
  | (with_reducible refine g_var ?_; refine ⟨_, rfl, ?_⟩)
  | with_reducible refine g_c ?_
  | with_reducible refine g_op ?_
  | with_reducible refine g_un ?_
  | with_reducible refine g_rI0 ?_
  | with_reducible refine g_rU ?_
  | with_reducible refine g_nil ?_
  | with_reducible refine g_cons ?_
  | with_reducible refine g_cb ?_
  | with_reducible refine g_call ?_
  | with_reducible refine g_test ?_
  | with_reducible refine g_tB ?_
  | with_reducible refine g_bl ?_
  | with_reducible refine g_and ?_
  | with_reducible refine g_or ?_
  | with_reducible refine g_not ?_
  | with_reducible refine g_andV ?_
  | with_reducible refine g_orV ?_
  | with_reducible refine g_notV ?_
  | with_reducible refine g_ife ?_
  | with_reducible refine g_chain ?_
  | with_reducible refine g_par ?_
  | with_reducible refine g_tup ?_
  | with_reducible refine g_lst ?_
  | with_reducible refine g_fld ?_
  | with_reducible refine g_meth ?_
  | with_reducible refine g_sfld ?_
  | with_reducible refine g_prop ?_
  | with_reducible refine g_item ?_
  | with_reducible refine g_eqI ?_
  | with_reducible refine g_neI ?_
  | with_reducible refine g_for ?_
  | with_reducible refine g_lc ?_
  | with_reducible refine g_iE ?_
  | with_reducible refine g_iL ?_
  | with_reducible refine g_iT ?_
  | with_reducible refine g_iR1 ?_
  | with_reducible refine g_iR2 ?_
  | with_reducible refine g_iV ?_
  | with_reducible refine g_iK ?_
  | with_reducible refine g_yes ?_
  | with_reducible refine g_gn ?_
  | with_reducible refine g_nt ?_
  | with_reducible refine g_nf ?_
  | with_reducible refine iteT ?_
  | with_reducible refine iteF ?_))))
section
variable {P : Program} {w : World} {K : PySem.W.Frag} {mg : Str → Option Value} {base : Heap}
def spIsInt : Sp := fun vs H Q _ => ∃ i, vs = [.int i] ∧ Q (.bl true) H
theorem sc_isInt : FnScope ["thing"] ["thing"] (defScope s_isInt) := ⟨rfl, rfl, rfl, by decide +kernel, rfl, by decide +kernel, by decide +kernel⟩
theorem bd_isInt : Bd ["thing"] "is_integer" s_isInt := fun _ _ _ _ _ _ _ us hl => match us, hl with | [_], _ => rfl
theorem ok_isInt (F : Fd K mg "is_integer" s_isInt []) (G : Mod0 K mg) : C8.Cal P w K mg base 1 "is_integer" spIsInt [] := by
  refine cal_of F sc_isInt bd_isInt (fun vs H Q E h => ?_) fun f cdv A outer s H vs Q E hr h => ?_
  · obtain ⟨_, rfl, _⟩ := h; rfl
  · obtain ⟨i, rfl, k⟩ := h
    refine ⟨_, (pss_one (ps_ret (pe_and (pe_callB call_isi (by rfl) G.b_isinstance (by decide +kernel) (pa_cons (L2.pv 0) (pa_cons (pe_bltn (v := .ty "int") (by rfl) G.b_int (by decide +kernel) rfl) pa_nil))) (pe_one (pe_not (pe_callB call_isi (by rfl) G.b_isinstance (by decide +kernel) (pa_cons (L2.pv 0) (pa_cons (pe_bltn (v := .ty "bool") (by rfl) G.b_bool (by decide +kernel) rfl) pa_nil)))))))), ?_⟩
    walk_at "st"
    refine isi_ii ?_
    walk_at "st"
    refine isi_ib ?_
    walk_at "st"
    exact k
def spIsRow : Sp := fun vs H Q _ => ∃ a xs, vs = [.ref a] ∧ H a = some (.lst xs) ∧ ∀ H', Same H H' → Q (.bl true) H'
theorem sc_isRow : FnScope ["thing"] ["thing"] (defScope s_isRow) := ⟨rfl, rfl, rfl, by decide +kernel, rfl, by decide +kernel, by decide +kernel⟩
theorem bd_isRow : Bd ["thing"] "is_row" s_isRow := fun _ _ _ _ _ _ _ us hl => match us, hl with | [_], _ => rfl
theorem ok_isRow (F : Fd K mg "is_row" s_isRow []) (G : Mod0 K mg) : C8.Cal P w K mg base 1 "is_row" spIsRow [] := by
  refine cal_of F sc_isRow bd_isRow (fun vs H Q E h => ?_) fun f cdv A outer s H vs Q E hr h => ?_
  · obtain ⟨_, _, rfl, _⟩ := h; rfl
  · obtain ⟨a, xs, rfl, ha, k⟩ := h
    refine ⟨_, (pss_one (ps_ret (pe_callB call_isiT (by rfl) G.b_isinstance (by decide +kernel) (pa_cons (L2.pv 0) (pa_cons (pe_tup (pa_cons (pe_bltn (v := .ty "list") (by rfl) G.b_list (by decide +kernel) rfl) (pa_cons (pe_bltn (v := .ty "tuple") (by rfl) G.b_tuple (by decide +kernel) rfl) pa_nil))) pa_nil))))), ?_⟩
    walk_at "st"
    refine ⟨g_small2, fun p hp => ?_⟩
    walk_at "st"
    have ha' : (upd H p (.tup [.ty "list", .ty "tuple"])) a = some (.lst xs) := by rw [upd_ne (ne_of_none ha hp)]; exact ha
    refine ⟨_, _, _, _, _, true, rfl, upd_same, .cons (.ty _) (.cons (.ty _) .nil), .base (.lst ha'), rfl, ?_⟩
    exact k _ fun b o e => by rw [upd_ne (ne_of_none e hp)]; exact e
def spIsPlace : Sp := fun vs H Q _ => ∃ i n, vs = [.int i, .int n] ∧ 0 ≤ i ∧ i < n ∧ Q (.bl true) H
theorem sc_isPlace : FnScope ["thing", "around"] ["thing", "around"] (defScope s_isPlace) := ⟨rfl, rfl, rfl, by decide +kernel, rfl, by decide +kernel, by decide +kernel⟩
theorem bd_isPlace : Bd ["thing", "around"] "is_place" s_isPlace := fun _ _ _ _ _ _ _ us hl => match us, hl with | [_, _], _ => rfl
theorem ok_isPlace (F : Fd K mg "is_place" s_isPlace []) (G : Mod0 K mg) (c_isInt : C8.Cal P w K mg base 1 "is_integer" spIsInt []) : C8.Cal P w K mg base 2 "is_place" spIsPlace [] := by
  refine cal_of F sc_isPlace bd_isPlace (fun vs H Q E h => ?_) fun f cdv A outer s H vs Q E hr h => ?_
  · obtain ⟨_, _, rfl, _⟩ := h; rfl
  · obtain ⟨i, n, rfl, h0, h1, k⟩ := h
    refine ⟨_, (pss_one (ps_ret (pe_and (C8.pe_c c_isInt hr (by decide) rfl (pa_cons (L2.pv 0) pa_nil)) (pe_one (pe_chain op_le op_lt pe_int (L2.pv 0) (L2.pv 1)))))), ?_⟩
    walk_at "st"
    refine ⟨_, rfl, ?_⟩
    walk_at "st"
    rw [decide_eq_true h0]
    walk_at "st"
    rw [decide_eq_true h1]
    exact k
def spChkRound : Sp := fun vs H Q _ => ∃ n, vs = [.int n] ∧ 2 ≤ n ∧ n ≤ 360 ∧ Q .non H
theorem sc_chkRound : FnScope ["around"] ["around"] (defScope s_chkRound) := ⟨rfl, rfl, rfl, by decide +kernel, rfl, by decide +kernel, by decide +kernel⟩
theorem bd_chkRound : Bd ["around"] "check_round" s_chkRound := fun _ _ _ _ _ _ _ us hl => match us, hl with | [_], _ => rfl
theorem ok_chkRound (F : Fd K mg "check_round" s_chkRound []) (G : Mod0 K mg) (c_isInt : C8.Cal P w K mg base 1 "is_integer" spIsInt []) : C8.Cal P w K mg base 2 "check_round" spChkRound [] := by
  refine cal_of F sc_chkRound bd_chkRound (fun vs H Q E h => ?_) fun f cdv A outer s H vs Q E hr h => ?_
  · obtain ⟨_, rfl, _⟩ := h; rfl
  · obtain ⟨n, rfl, h0, h1, k⟩ := h
    refine ⟨_, (pss_one (ps_if (PW.pt (pw_or (pt_not (pt_val (C8.pe_c c_isInt hr (by decide) rfl (pa_cons (L2.pv 0) pa_nil)))) (pw_or1 (pt_not (pt_chain op_le op_le pe_int (L2.pv 0) (pe_gi rfl G.MOST_ROUND)))))) pss_never pss_nil)), ?_⟩
    walk_at "st"
    refine ⟨_, rfl, ?_⟩
    walk_at "st"
    rw [decide_eq_true h0]
    walk_at "st"
    rw [decide_eq_true h1]
    walk_at "st"
    exact k
def spIsPair : Sp := fun vs H Q _ => ∃ a b r n, vs = [.ref a, .int n] ∧ H a = some (.tup [.int b, .int r]) ∧ 0 ≤ b ∧ b < n ∧ 0 ≤ r ∧ r < n ∧ Q (.bl true) H
theorem sc_isPair : FnScope ["thing", "around"] ["thing", "around"] (defScope s_isPair) := ⟨rfl, rfl, rfl, by decide +kernel, rfl, by decide +kernel, by decide +kernel⟩
theorem bd_isPair : Bd ["thing", "around"] "is_pair" s_isPair := fun _ _ _ _ _ _ _ us hl => match us, hl with | [_, _], _ => rfl
theorem ok_isPair (F : Fd K mg "is_pair" s_isPair []) (G : Mod0 K mg) (c_isPlace : C8.Cal P w K mg base 2 "is_place" spIsPlace []) : C8.Cal P w K mg base 3 "is_pair" spIsPair [] := by
  refine cal_of F sc_isPair bd_isPair (fun vs H Q E h => ?_) fun f cdv A outer s H vs Q E hr h => ?_
  · obtain ⟨_, _, _, _, rfl, _⟩ := h; rfl
  · obtain ⟨a, b, r, n, rfl, ha, b0, b1, r0, r1, k⟩ := h
    refine ⟨_, (pss_cons (ps_if (PW.pt (pw_or (pt_not (pt_val (pe_callB call_isi (by rfl) G.b_isinstance (by decide +kernel) (pa_cons (L2.pv 0) (pa_cons (pe_bltn (v := .ty "tuple") (by rfl) G.b_tuple (by decide +kernel) rfl) pa_nil))))) (pw_or1 (pt_cmpR op_ne (pe_callB call_len_seq (by rfl) G.b_len (by decide +kernel) (pa_cons (L2.pv 0) pa_nil)) pe_int (nomark _))))) (pss_one (ps_ret pe_bl)) pss_nil)
      (pss_one (ps_ret (pe_and (C8.pe_c c_isPlace hr (by decide) rfl (pa_cons (pe_ix ix_tup (L2.pv 0) pe_int (fun _ _ => rfl)) (pa_cons (L2.pv 1) pa_nil))) (pe_one (C8.pe_c c_isPlace hr (by decide) rfl (pa_cons (pe_ix ix_tup (L2.pv 0) pe_int (fun _ _ => rfl)) (pa_cons (L2.pv 1) pa_nil)))))))), ?_⟩
    walk_at "st"
    refine isi_tt ha ?_
    walk_at "st"
    refine ⟨_, _, rfl, .inr (.inl (.inl ha)), ?_⟩
    walk_at "st"
    refine iN rfl ?_
    walk_at "st"
    refine ⟨_, _, _, _, rfl, rfl, .inl (.inl ha), rfl, ?_⟩
    walk_at "st"
    refine ⟨_, _, rfl, b0, b1, ?_⟩
    walk_at "st"
    refine ⟨_, _, _, _, rfl, rfl, .inl (.inl ha), rfl, ?_⟩
    walk_at "st"
    exact ⟨_, _, rfl, r0, r1, k⟩
end
end Jaw

/-! ## W2 -/
set_option Elab.async false
set_option linter.all false
set_option maxRecDepth 100000
set_option maxHeartbeats 4000000
namespace Jaw
open PySem PySem.Spec PyProof.Rows L2
local macro_rules | `(tactic| walk_at "st") => `(tactic| ((try (set_option simprocs false in dsimp only)); (repeat (first
  | with_reducible refine g_seq ?_
  | with_reducible refine g_set ?_
  | with_reducible refine g_asg ?_
  | with_reducible refine g_drop ?_
  | with_reducible refine g_ret ?_
  | with_reducible refine g_retN ?_
  | with_reducible refine g_ifs ?_
  | with_reducible refine g_next ?_
  | with_reducible refine g_brk ?_
  | with_reducible refine g_cont ?_
  | (with_reducible refine g_var ?_; refine ⟨_, rfl, ?_⟩)
  | with_reducible refine g_c ?_
  | with_reducible refine g_op ?_
  | with_reducible refine g_un ?_
  | with_reducible refine g_rI0 ?_
  | with_reducible refine g_rU ?_
  | with_reducible refine g_nil ?_
  | with_reducible refine g_cons ?_
  | with_reducible refine g_cb ?_
  | with_reducible refine g_call ?_
  | with_reducible refine g_test ?_
  | with_reducible refine g_tB ?_
  | with_reducible refine g_bl ?_
  | with_reducible refine g_and ?_
  | with_reducible refine g_or ?_
  | with_reducible refine g_not ?_
  | with_reducible refine g_andV ?_
  | with_reducible refine g_orV ?_
  | with_reducible refine g_notV ?_
  | with_reducible refine g_ife ?_
  | with_reducible refine g_chain ?_
  | with_reducible refine g_par ?_
  | with_reducible refine g_tup ?_
  | with_reducible refine g_lst ?_
  | with_reducible refine g_fld ?_
  | with_reducible refine g_meth ?_
  | with_reducible refine g_sfld ?_
  | with_reducible refine g_prop ?_
  | with_reducible refine g_item ?_
  | with_reducible refine g_eqI ?_
  | with_reducible refine g_neI ?_
  | with_reducible refine g_for ?_
  | with_reducible refine g_lc ?_
  | with_reducible refine g_iE ?_
  | with_reducible refine g_iL ?_
  | with_reducible refine g_iT ?_
  | with_reducible refine g_iR1 ?_
  | with_reducible refine g_iR2 ?_
  | with_reducible refine g_iV ?_
  | with_reducible refine g_iK ?_
  | with_reducible refine g_yes ?_
  | with_reducible refine g_gn ?_
  | with_reducible refine g_nt ?_
  | with_reducible refine g_nf ?_
  | with_reducible refine iteT ?_
  | with_reducible refine iteF ?_))))
theorem asc_at {rows : List Row} (h : rows.Pairwise (fun p q => p.1 < q.1)) {i : Nat} {p q : Row} (e1 : rows[i]? = some p) (e2 : rows[i + 1]? = some q) : p.1 < q.1 := by
  obtain ⟨h1, e1⟩ := List.getElem?_eq_some_iff.mp e1
  obtain ⟨h2, e2⟩ := List.getElem?_eq_some_iff.mp e2
  have := List.pairwise_iff_getElem.mp h i (i + 1) h1 h2 (Nat.lt_succ_self i)
  rw [e1, e2] at this
  exact this
theorem mem_of_at {α : Type} {l : List α} {i : Nat} {a : α} (e : l[i]? = some a) : a ∈ l := by
  obtain ⟨h, e⟩ := List.getElem?_eq_some_iff.mp e
  exact e ▸ List.getElem_mem h
theorem take_snoc {α : Type} {l : List α} {i : Nat} {a : α} (e : l[i]? = some a) : l.take (i + 1) = l.take i ++ [a] := by
  rw [List.take_add_one, e]; rfl
theorem sq {K : PySem.W.Frag} {H : Hp} {a : Addr} {xs : List V} (h : H a = some (.lst xs)) : SqL K H a xs := .inl (.inl h)
theorem st {K : PySem.W.Frag} {H : Hp} {a : Addr} {xs : List V} (h : H a = some (.tup xs)) : SqT K H a xs := .inl (.inl h)
section
variable {P : Program} {w : World} {K : PySem.W.Frag} {mg : Str → Option Value} {base : Heap}
def spChkRows : Sp := fun vs H Q _ => ∃ N a xs rows, vs = [.int N, .ref a] ∧ H a = some (.lst xs) ∧ PV H xs rows ∧ Valid N rows ∧ rows.length ≤ 12 ∧
  ∀ H' t ys, Same H H' → H' t = some (.tup ys) → PV H' ys rows → Q (.ref t) H'
theorem sc_chkRows : FnScope ["around", "rows", "before", "at", "pair", "behind", "begin", "rest"] ["around", "rows"] (defScope s_chkRows) := ⟨rfl, rfl, rfl, by decide +kernel, rfl, by decide +kernel, by decide +kernel⟩
theorem bd_chkRows : Bd ["around", "rows"] "checked_rows" s_chkRows := fun _ _ _ _ _ _ _ us hl => match us, hl with | [_, _], _ => rfl
theorem ok_chkRows (F : Fd K mg "checked_rows" s_chkRows []) (G : Mod0 K mg) (c_isRow : C8.Cal P w K mg base 1 "is_row" spIsRow []) (c_isPair : C8.Cal P w K mg base 3 "is_pair" spIsPair []) : C8.Cal P w K mg base 4 "checked_rows" spChkRows [] := by
  refine cal_of F sc_chkRows bd_chkRows (fun vs H Q E h => ?_) fun f cdv A outer s H vs Q E hr h => ?_
  · obtain ⟨_, _, _, _, rfl, _⟩ := h; rfl
  · obtain ⟨N, a, xs, rows, rfl, ha, pv, v, hl, k⟩ := h
    have hN := v.pos
    have l1 := pv.len
    have l0 : rows.length ≠ 0 := fun z => v.ne (List.length_eq_zero_iff.mp z)
    refine ⟨_, (pss_cons (ps_if (PW.pt (pw_or (pt_not (pt_val (C8.pe_c c_isRow hr (by decide) rfl (pa_cons (L2.pv 1) pa_nil)))) (pw_or1 (pt_not (pt_chain op_le op_le pe_int (pe_callB call_len_seq (by rfl) G.b_len (by decide +kernel) (pa_cons (L2.pv 1) pa_nil)) (pe_gi rfl G.MOST_ROWS)))))) pss_never pss_nil)
      (pss_cons (ps_set (i := 2) sc_chkRows.nd rfl (Or.inl rfl) (pe_un un_neg pe_int))
      (pss_cons (ps_for PassesOwn.never rfl (pi_enum rfl G.b_enumerate (pa_cons (L2.pv 1) pa_nil)) (pg_tup rfl (pgs_cons (pg_name (i := 3) sc_chkRows.nd rfl (Or.inl rfl)) (pgs_cons (pg_name (i := 4) sc_chkRows.nd rfl (Or.inl rfl)) pgs_nil))) (pss_cons (ps_if (PW.pt (pw_or (pt_not (pt_val (C8.pe_c c_isPair hr (by decide) rfl (pa_cons (L2.pv 4) (pa_cons (L2.pv 0) pa_nil))))) (pw_or1 (pt_cmpR op_le (pe_ix ix_tup (L2.pv 4) pe_int (fun _ _ => rfl)) (L2.pv 2) (nomark _))))) pss_never pss_nil)
      (pss_one (ps_set (i := 2) sc_chkRows.nd rfl (Or.inl rfl) (pe_ix ix_tup (L2.pv 4) pe_int (fun _ _ => rfl))))))
      (pss_cons (ps_for PassesOwn.never rfl (pi_enum rfl G.b_enumerate (pa_cons (L2.pv 1) pa_nil)) (pg_tup rfl (pgs_cons (pg_name (i := 3) sc_chkRows.nd rfl (Or.inl rfl)) (pgs_cons (pg_tup rfl (pgs_cons (pg_name (i := 6) sc_chkRows.nd rfl (Or.inl rfl)) (pgs_cons (pg_name (i := 7) sc_chkRows.nd rfl (Or.inl rfl)) pgs_nil))) pgs_nil))) (pss_cons (ps_set (i := 5) sc_chkRows.nd rfl (Or.inl rfl) (pe_ifExp (pt_cmpR op_lt (pe_op op_add (L2.pv 3) pe_int) (pe_callB call_len_seq (by rfl) G.b_len (by decide +kernel) (pa_cons (L2.pv 1) pa_nil)) (nomark _)) (pe_ix ix_tup (pe_ix ix_list (L2.pv 1) (pe_op op_add (L2.pv 3) pe_int) (fun _ _ => rfl)) pe_int (fun _ _ => rfl)) (pe_op op_add (pe_ix ix_tup (pe_ix ix_list (L2.pv 1) pe_int (fun _ _ => rfl)) pe_int (fun _ _ => rfl)) (L2.pv 0))))
      (pss_one (ps_if (pt_cmpR op_ge (pe_op op_add (L2.pv 6) (pe_op op_mod (pe_op op_sub (L2.pv 7) (L2.pv 6)) (L2.pv 0))) (L2.pv 5) (nomark _)) pss_never pss_nil))))
      (pss_one (ps_ret (pe_callTy call_tuple_of (by rfl) G.b_tuple (by decide +kernel) (pa_cons (pe_lc (own := [("begin", 6), ("rest", 7)]) (g := (gTup K 2 (gCons (gName 6) (gCons (gName 7) gNil)))) (tt := tYes) rfl sc_chkRows.nd (pi_list (L2.pv 1)) (blkOk_by (N := ["around", "rows", "before", "at", "pair", "behind", "begin", "rest"]) (sc := defScope s_chkRows) (by decide +kernel)) (fun _ _ _ _ _ => (pg_tup rfl (pgs_cons (pg_name (i := 6) sc_chkRows.nd rfl (Or.inl rfl)) (pgs_cons (pg_name (i := 7) sc_chkRows.nd rfl (Or.inl rfl)) pgs_nil)))) (fun _ _ _ _ _ => pts_nil) (fun _ _ _ _ _ => (pe_tup (pa_cons (L2.pv 6) (pa_cons (L2.pv 7) pa_nil))))) pa_nil)))))))), ?_⟩
    walk_at "st"
    refine ⟨a, xs, rfl, ha, fun H1 s1 => ?_⟩
    walk_at "st"
    refine ⟨_, _, rfl, .inl (sq (s1 _ _ ha)), ?_⟩
    walk_at "st"
    refine iD (by omega) ?_
    walk_at "st"
    refine ite2 (fun z => ?_) (fun z => ?_)
    · exact absurd z (by simp; omega)
    walk_at "st"
    refine ⟨_, _, rfl, sq (s1 _ _ ha), loopE (xs := xs) (fun i σ H' => ∃ bf o3 o4, σ = [some (.int N), some (.ref a), some (.int bf), o3, o4, none, none, none] ∧ Same H H' ∧ ∀ p, rows[i]? = some p → bf < p.1) ?_ ?_ ?_ ?_⟩
    · refine ⟨-1, none, none, rfl, s1, fun p e => ?_⟩
      have := v.rng p (mem_of_at e)
      omega
    · rintro i σ H' ⟨bf, o3, o4, rfl, s', _⟩
      exact sq (s' _ _ ha)
    · rintro i x T σ H' e ⟨bf, o3, o4, rfl, s', hb⟩ hT
      obtain ⟨p, t, e1, rfl, ht⟩ := pv.at1 e
      have hp := v.rng p (mem_of_at e1)
      have s2 := s'.snew (o := .tup [.int (i : Nat), .ref t]) hT
      refine g_g2 (st upd_same) ?_
      walk_at "st"
      refine ⟨t, p.1, p.2, N, rfl, s2 _ _ ht, hp.1, hp.2.1, hp.2.2.1, hp.2.2.2, ?_⟩
      walk_at "st"
      refine ⟨_, _, _, _, rfl, rfl, st (s2 _ _ ht), rfl, ?_⟩
      walk_at "st"
      refine iDn (by have := hb p e1; omega) ?_
      walk_at "st"
      refine ⟨_, _, _, _, rfl, rfl, st (s2 _ _ ht), rfl, ?_⟩
      walk_at "st"
      exact ⟨p.1, _, _, rfl, s2, fun q e2 => asc_at v.asc e1 e2⟩
    · rintro σ H2 ⟨bf, o3, o4, rfl, s2, _⟩
      walk_at "st"
      refine ⟨_, _, rfl, sq (s2 _ _ ha), loopE (xs := xs) (fun i σ H' => ∃ o2 o3 o4 o5 o6 o7, σ = [some (.int N), some (.ref a), o2, o3, o4, o5, o6, o7] ∧ Same H H') ?_ ?_ ?_ ?_⟩
      · exact ⟨_, _, _, _, _, _, rfl, s2⟩
      · rintro i σ H' ⟨o2, o3, o4, o5, o6, o7, rfl, s'⟩
        exact sq (s' _ _ ha)
      · rintro i x T σ H' e ⟨o2, o3, o4, o5, o6, o7, rfl, s'⟩ hT
        obtain ⟨p, t, e1, rfl, ht⟩ := pv.at1 e
        have hi : i < rows.length := (List.getElem?_eq_some_iff.mp e1).1
        have hp := v.rng p (mem_of_at e1)
        have s3 := s'.snew (o := .tup [.int (i : Nat), .ref t]) hT
        refine g_g12 (st upd_same) (st (s3 _ _ ht)) ?_
        walk_at "st"
        refine ⟨_, _, rfl, .inl (sq (s3 _ _ ha)), ?_⟩
        walk_at "st"
        have fin : ∀ bh : Int, up N p < bh → ∀ (D : Ends) (σ : L2.St), σ = [some (.int N), some (.ref a), o2, some (.int (i : Nat)), o4, some (.int bh), some (.int p.1), some (.int p.2)] → ¬ p.1 + (p.2 - p.1) % N ≥ bh := fun bh h D σ _ => by
          have : up N p = p.1 + (p.2 - p.1) % N := rfl
          omega
        refine iC (fun z => ?_) (fun z => ?_)
        · have hi2 : i + 1 < rows.length := by omega
          obtain ⟨t2, e2, ht2⟩ := pv.at2 (List.getElem?_eq_getElem hi2)
          walk_at "st"
          refine ⟨_, _, _, _, rfl, rfl, sq (s3 _ _ ha), at_of (by omega) e2, ?_⟩
          walk_at "st"
          refine ⟨_, _, _, _, rfl, rfl, st (s3 _ _ ht2), rfl, ?_⟩
          walk_at "st"
          refine g_rI hN ?_
          walk_at "st"
          have h1 := asc_at v.asc e1 (List.getElem?_eq_getElem hi2)
          have h2 := v.low p (mem_of_at e1) _ (List.getElem_mem hi2) h1
          refine iDn (by unfold up at h2; omega) ?_
          walk_at "st"
          exact ⟨_, _, _, _, _, _, rfl, s3⟩
        · have hi2 : 0 < rows.length := by omega
          obtain ⟨t2, e2, ht2⟩ := pv.at2 (List.getElem?_eq_getElem hi2)
          walk_at "st"
          refine ⟨_, _, _, _, rfl, rfl, sq (s3 _ _ ha), at_of (by omega) e2, ?_⟩
          walk_at "st"
          refine ⟨_, _, _, _, rfl, rfl, st (s3 _ _ ht2), rfl, ?_⟩
          walk_at "st"
          refine g_rI hN ?_
          walk_at "st"
          have h2 := v.lap p (mem_of_at e1) _ (List.getElem_mem hi2)
          refine iDn (by unfold up at h2; omega) ?_
          walk_at "st"
          exact ⟨_, _, _, _, _, _, rfl, s3⟩
      · rintro σ H3 ⟨o2, o3, o4, o5, o6, o7, rfl, s3⟩
        walk_at "st"
        refine ⟨_, rfl, ⟨_, sq (s3 _ _ ha)⟩, fun Dd hD => lcL (xs := xs) (fun i H' => ∃ ys, Same H H' ∧ H' Dd = some (.lst ys) ∧ PV H' ys (rows.take i)) ?_ ?_ ?_ ?_⟩
        · exact ⟨[], s3.snew hD, upd_same, PV.nil⟩
        · rintro i H' ⟨ys, s', _⟩
          exact sq (s' _ _ ha)
        · rintro i x H' e ⟨ys, s', hd, pv'⟩
          obtain ⟨p, t, e1, rfl, ht⟩ := pv.at1 e
          have hi : i < rows.length := (List.getElem?_eq_some_iff.mp e1).1
          refine lct_2 (st (s' _ _ ht)) rfl ?_
          walk_at "st"
          refine ⟨g_small2, fun q hq => ?_⟩
          have lys : ys.length ≤ 12 := by
            have := pv'.len
            rw [List.length_take] at this
            omega
          have nq : Dd ≠ q := ne_of_none hd hq
          refine ⟨ys, by rw [upd_ne nq]; exact hd, small1000 (by omega), ys ++ [.ref q], ?_, upd_same, ?_⟩
          · exact (s'.snew hq).sput (fresh_of s3 hD)
          · rw [take_snoc e1]
            have pq : PV (upd H' q (.tup [.int p.1, .int p.2])) ys (rows.take i) := pv'.mono (Same.new hq)
            exact PV.upd_lst (pq.snoc upd_same) (by rw [upd_ne nq]; exact hd)
        · rintro H4 ⟨ys, s4, hd, pv'⟩
          rw [l1, List.take_length] at pv'
          walk_at "st"
          refine ⟨_, _, rfl, .inl ⟨sq hd, fun l hl => ?_⟩⟩
          exact k _ _ _ (s4.snew hl) upd_same (pv'.mono (Same.new hl))
end
end Jaw

/-! ## W3 -/
set_option Elab.async false
set_option linter.all false
set_option maxRecDepth 100000
set_option maxHeartbeats 4000000
namespace Jaw
open PySem PySem.Spec PyProof.Rows L2
local macro_rules | `(tactic| walk_at "st") => `(tactic| ((try (set_option simprocs false in dsimp only)); (repeat (first
  | with_reducible refine g_seq ?_
  | with_reducible refine g_set ?_
  | with_reducible refine g_asg ?_
  | with_reducible refine g_drop ?_
  | with_reducible refine g_ret ?_
  | with_reducible refine g_retN ?_
  | with_reducible refine g_ifs ?_
  | with_reducible refine g_next ?_
  | with_reducible refine g_brk ?_
  | with_reducible refine g_cont ?_
  | (with_reducible refine g_var ?_; refine ⟨_, rfl, ?_⟩)
  | with_reducible refine g_c ?_
  | with_reducible refine g_op ?_
  | with_reducible refine g_un ?_
  | with_reducible refine g_rI0 ?_
  | with_reducible refine g_rU ?_
  | with_reducible refine g_nil ?_
  | with_reducible refine g_cons ?_
  | with_reducible refine g_cb ?_
  | with_reducible refine g_call ?_
  | with_reducible refine g_test ?_
  | with_reducible refine g_tB ?_
  | with_reducible refine g_bl ?_
  | with_reducible refine g_and ?_
  | with_reducible refine g_or ?_
  | with_reducible refine g_not ?_
  | with_reducible refine g_andV ?_
  | with_reducible refine g_orV ?_
  | with_reducible refine g_notV ?_
  | with_reducible refine g_ife ?_
  | with_reducible refine g_chain ?_
  | with_reducible refine g_par ?_
  | with_reducible refine g_tup ?_
  | with_reducible refine g_lst ?_
  | with_reducible refine g_fld ?_
  | with_reducible refine g_meth ?_
  | with_reducible refine g_sfld ?_
  | with_reducible refine g_prop ?_
  | with_reducible refine g_item ?_
  | with_reducible refine g_eqI ?_
  | with_reducible refine g_neI ?_
  | with_reducible refine g_for ?_
  | with_reducible refine g_lc ?_
  | with_reducible refine g_iE ?_
  | with_reducible refine g_iL ?_
  | with_reducible refine g_iT ?_
  | with_reducible refine g_iR1 ?_
  | with_reducible refine g_iR2 ?_
  | with_reducible refine g_iV ?_
  | with_reducible refine g_iK ?_
  | with_reducible refine g_yes ?_
  | with_reducible refine g_gn ?_
  | with_reducible refine g_nt ?_
  | with_reducible refine g_nf ?_
  | with_reducible refine iteT ?_
  | with_reducible refine iteF ?_))))
section
variable {P : Program} {w : World} {K : PySem.W.Frag} {mg : Str → Option Value} {base : Heap}
def spRowsT : Sp := fun vs H Q _ => ∃ N a c xs rows, vs = [.int N, .ref a, .int c] ∧ H a = some (.tup xs) ∧ PV H xs rows ∧ 0 < N ∧ rows.length ≤ 12 ∧
  ∀ H' t ys rows', Same H H' → H' t = some (.tup ys) → PV H' ys rows' → rows'.Perm (rows.map (turnRow N c)) → rows'.Pairwise lexLeM → Q (.ref t) H'
theorem sc_rowsT : FnScope ["around", "rows", "by", "begin", "rest"] ["around", "rows", "by"] (defScope s_rowsT) := ⟨rfl, rfl, rfl, by decide +kernel, rfl, by decide +kernel, by decide +kernel⟩
theorem bd_rowsT : Bd ["around", "rows", "by"] "rows_turned" s_rowsT := fun _ _ _ _ _ _ _ us hl => match us, hl with | [_, _, _], _ => rfl
theorem ok_rowsT (F : Fd K mg "rows_turned" s_rowsT []) (G : Mod0 K mg) : C8.Cal P w K mg base 1 "rows_turned" spRowsT [] := by
  refine cal_of F sc_rowsT bd_rowsT (fun vs H Q E h => ?_) fun f cdv A outer s H vs Q E hr h => ?_
  · obtain ⟨_, _, _, _, _, rfl, _⟩ := h; rfl
  · obtain ⟨N, a, c, xs, rows, rfl, ha, pv, hN, hl, k⟩ := h
    have l1 := pv.len
    refine ⟨_, (pss_one (ps_ret (pe_callTy call_tuple_of (by rfl) G.b_tuple (by decide +kernel) (pa_cons (pe_callB cr_sortedPO (by rfl) G.b_sorted (by decide +kernel) (pa_cons (pe_lc (own := [("begin", 3), ("rest", 4)]) (g := (gTup K 2 (gCons (gName 3) (gCons (gName 4) gNil)))) (tt := tYes) rfl sc_rowsT.nd (pi_tup (L2.pv 1)) (blkOk_by (N := ["around", "rows", "by", "begin", "rest"]) (sc := defScope s_rowsT) (by decide +kernel)) (fun _ _ _ _ _ => (pg_tup rfl (pgs_cons (pg_name (i := 3) sc_rowsT.nd rfl (Or.inl rfl)) (pgs_cons (pg_name (i := 4) sc_rowsT.nd rfl (Or.inl rfl)) pgs_nil)))) (fun _ _ _ _ _ => pts_nil) (fun _ _ _ _ _ => (pe_tup (pa_cons (pe_op op_mod (pe_op op_add (L2.pv 3) (L2.pv 2)) (L2.pv 0)) (pa_cons (pe_op op_mod (pe_op op_add (L2.pv 4) (L2.pv 2)) (L2.pv 0)) pa_nil))))) pa_nil)) pa_nil)))), ?_⟩
    walk_at "st"
    refine ⟨_, rfl, ⟨_, st ha⟩, fun Dd hD => lcT (xs := xs) (fun i H' => ∃ ys, Same H H' ∧ H' Dd = some (.lst ys) ∧ PV H' ys ((rows.map (turnRow N c)).take i)) ?_ ?_ ?_ ?_⟩
    · exact ⟨[], Same.new hD, upd_same, PV.nil⟩
    · rintro i H' ⟨ys, s', _⟩
      exact st (s' _ _ ha)
    · rintro i x H' e ⟨ys, s', hd, pv'⟩
      obtain ⟨p, t, e1, rfl, ht⟩ := pv.at1 e
      refine lct_2 (st (s' _ _ ht)) rfl ?_
      walk_at "st"
      refine g_rI hN ?_
      walk_at "st"
      refine g_rI hN ?_
      walk_at "st"
      refine ⟨g_small2, fun q hq => ?_⟩
      have lys : ys.length ≤ 12 := by
        have := pv'.len
        rw [List.length_take, List.length_map] at this
        omega
      have nq : Dd ≠ q := ne_of_none hd hq
      refine ⟨ys, by rw [upd_ne nq]; exact hd, small1000 (by omega), ys ++ [.ref q], (s'.snew hq).sput hD, upd_same, ?_⟩
      rw [take_snoc (a := turnRow N c p) (by rw [List.getElem?_map, e1]; rfl)]
      have pq : PV (upd H' q (.tup [.int ((p.1 + c) % N), .int ((p.2 + c) % N)])) ys ((rows.map (turnRow N c)).take i) := pv'.mono (Same.new hq)
      exact PV.upd_lst (pq.snoc (p := turnRow N c p) upd_same) (by rw [upd_ne nq]; exact hd)
    · rintro H4 ⟨ys, s4, hd, pv'⟩
      rw [l1, ← List.length_map (f := turnRow N c), List.take_length] at pv'
      walk_at "st"
      refine r_sortedP hd pv' fun zs p rows' hp pv2 perm srt => ?_
      walk_at "st"
      refine ⟨_, _, rfl, .inl ⟨sq upd_same, fun l hl => ?_⟩⟩
      exact k _ _ _ _ ((s4.snew hp).snew hl) upd_same ((pv2.mono (Same.new hp)).mono (Same.new hl)) perm srt
def spLeastP : Sp := fun vs H Q _ => ∃ N a xs rows, vs = [.int N, .ref a] ∧ H a = some (.tup xs) ∧ PV H xs rows ∧ Valid N rows ∧ rows.length ≤ 12 ∧ N ≤ 360 ∧
  ∀ H' p, Same H H' → Least N (lift N rows) p → Q (.int p) H'
theorem sc_leastP : FnScope ["around", "rows", "step"] ["around", "rows"] (defScope s_leastP) := ⟨rfl, rfl, rfl, by decide +kernel, rfl, by decide +kernel, by decide +kernel⟩
theorem bd_leastP : Bd ["around", "rows"] "least_period" s_leastP := fun _ _ _ _ _ _ _ us hl => match us, hl with | [_, _], _ => rfl
theorem ok_leastP (F : Fd K mg "least_period" s_leastP []) (G : Mod0 K mg) (c_rowsT : C8.Cal P w K mg base 1 "rows_turned" spRowsT []) : C8.Cal P w K mg base 2 "least_period" spLeastP [] := by
  refine cal_of F sc_leastP bd_leastP (fun vs H Q E h => ?_) fun f cdv A outer s H vs Q E hr h => ?_
  · obtain ⟨_, _, _, _, rfl, _⟩ := h; rfl
  · obtain ⟨N, a, xs, rows, rfl, ha, pv, v, hl, hN2, k⟩ := h
    have hN := v.pos
    refine ⟨_, (pss_cons (ps_for PassesOwn.never rfl (pi_range2 rfl G.b_range (pa_cons pe_int (pa_cons (L2.pv 0) pa_nil))) (pg_name (i := 2) sc_leastP.nd rfl (Or.inl rfl)) (pss_one (ps_if (PW.pt (pw_and (pt_cmpR op_eq (pe_op op_mod (L2.pv 0) (L2.pv 2)) pe_int (nomark _)) (pw_and1 (pt_cmpR (op_eqD hr.units) (C8.pe_c c_rowsT hr (by decide) rfl (pa_cons (L2.pv 0) (pa_cons (L2.pv 1) (pa_cons (L2.pv 2) pa_nil)))) (L2.pv 1) (nomark _))))) (pss_one (ps_ret (L2.pv 2))) pss_nil)))
      (pss_one (ps_ret (L2.pv 0)))), ?_⟩
    walk_at "st"
    refine ⟨_, _, rfl, by omega, loopR (fun i σ H' => ∃ o2, σ = [some (.int N), some (.ref a), o2] ∧ Same H H' ∧ ∀ t, 1 ≤ t → t < 1 + (i : Int) → N % t = 0 → ¬ Com (lift N rows) t) ?_ ?_ ?_⟩
    · exact ⟨_, rfl, Same.refl H, fun t h1 h2 => by omega⟩
    · rintro i σ H' hi ⟨o2, rfl, s', no⟩
      walk_at "st"
      refine g_rI (show (0 : Int) < 1 + i by omega) ?_
      walk_at "st"
      rw [dec_I]
      refine iC (fun z => ?_) (fun z => ?_)
      · walk_at "st"
        refine ⟨N, a, 1 + i, xs, rows, rfl, s' _ _ ha, pv.mono s', hN, hl, fun H2 t ys rows' s2 ht pv2 perm srt => ?_⟩
        walk_at "st"
        refine ⟨_, _, pv2.dp ht, (pv.mono (s'.trans s2)).dp ((s'.trans s2) _ _ ha), shaped_rows _, shaped_rows _, ?_⟩
        rw [eqv_rows]
        walk_at "st"
        have key := turned_iff v perm srt
        refine iC (fun y => ?_) (fun y => ?_)
        · walk_at "st"
          exact k _ _ (s'.trans s2) (least_found v (by omega) (by omega) z (key.mp y) fun t h1 h2 h3 => no t h1 h2 h3)
        · walk_at "st"
          refine ⟨_, rfl, s'.trans s2, fun t h1 h2 h3 => ?_⟩
          by_cases q : t = 1 + i
          · subst q; exact fun c => y (key.mpr c)
          · exact no t h1 (by omega) h3
      · walk_at "st"
        refine ⟨_, rfl, s', fun t h1 h2 h3 => ?_⟩
        by_cases q : t = 1 + i
        · subst q; exact absurd h3 z
        · exact no t h1 (by omega) h3
    · rintro σ H' ⟨o2, rfl, s', no⟩
      walk_at "st"
      exact k _ _ s' (least_round v fun t h1 h2 h3 => no t h1 (by omega) h3)
def spTInit (K : PySem.W.Frag) : Sp := fun vs H Q _ => ∃ p N a dx xs rows, vs = [.ref p, .int N, .ref a] ∧ H p = some (.ins (He.ga K "Turning") dx []) ∧ H a = some (.lst xs) ∧ PV H xs rows ∧ Valid N rows ∧ rows.length ≤ 12 ∧ 2 ≤ N ∧ N ≤ 360 ∧
  ∀ H' pd, Sx p H H' → TurnAt K H' p N rows pd → Least N (lift N rows) pd → Q .non H'
theorem sc_tInit : FnScope ["self", "around", "rows"] ["self", "around", "rows"] (defScope s_tInit) := ⟨rfl, rfl, rfl, by decide +kernel, rfl, by decide +kernel, by decide +kernel⟩
theorem bd_tInit : Bd ["self", "around", "rows"] "__init__" s_tInit := fun _ _ _ _ _ _ _ us hl => match us, hl with | [_, _, _], _ => rfl
theorem ok_tInit (F : Id K (He.ga K "Turning") "Turning.__init__" s_tInit []) (hm : mg "Turning" = some (.ref (He.ga K "Turning"))) (G : Mod0 K mg) (c_chkRound : C8.Cal P w K mg base 2 "check_round" spChkRound [])
    (c_chkRows : C8.Cal P w K mg base 4 "checked_rows" spChkRows []) (c_leastP : C8.Cal P w K mg base 2 "least_period" spLeastP []) : C8.Mak P w K mg base 5 "Turning" (He.ga K "Turning") (spTInit K) [] := by
  refine mak_of F hm sc_tInit bd_tInit (fun vs H Q E h => ?_) fun f cdv A outer s H vs Q E hr h => ?_
  · obtain ⟨_, _, _, _, _, _, rfl, _⟩ := h; rfl
  · obtain ⟨p, N, a, dx, xs, rows, rfl, hp, ha, pv, v, hl, h2, h3, k⟩ := h
    have npa : a ≠ p := ne_of ha hp (by intro z; cases z)
    refine ⟨_, (pss_cons (ps_expr (C8.pe_c c_chkRound hr (by decide) rfl (pa_cons (L2.pv 1) pa_nil)))
      (pss_cons (ps_fld (L2.pv 0) (L2.pv 1) rfl)
      (pss_cons (ps_fld (L2.pv 0) (C8.pe_c c_chkRows hr (by decide) rfl (pa_cons (L2.pv 1) (pa_cons (L2.pv 2) pa_nil))) rfl)
      (pss_one (ps_fld (L2.pv 0) (C8.pe_c c_leastP hr (by decide) rfl (pa_cons (L2.pv 1) (pa_cons (pe_fld (L2.pv 0) rfl) pa_nil))) rfl))))), ?_⟩
    walk_at "st"
    refine ⟨N, rfl, h2, h3, ?_⟩
    walk_at "st"
    refine ⟨_, _, _, _, rfl, hp, G.cT, G.nT _ (by decide +kernel), by decide, ?_⟩
    walk_at "st"
    have s1 : Sx p H (upd H p (.ins (He.ga K "Turning") dx (putF "around" (.int N) []))) := Sx.refl.upd
    refine ⟨N, a, xs, rows, rfl, s1 _ _ ha npa, pv.sx s1 hp, v, hl, fun H2 t ys e2 ht pv2 => ?_⟩
    walk_at "st"
    have hp2 := e2 p _ upd_same
    have ntp : t ≠ p := ne_of ht hp2 (by intro z; cases z)
    refine ⟨_, _, _, _, rfl, hp2, G.cT, G.nT _ (by decide +kernel), pl1, ?_⟩
    walk_at "st"
    refine ⟨_, _, _, _, _, rfl, upd_same, G.cT, G.nT _ (by decide +kernel), lk_same, ?_⟩
    walk_at "st"
    have s3 : Sx p H2 (upd H2 p (.ins (He.ga K "Turning") dx (putF "rows" (.ref t) (putF "around" (.int N) [])))) := Sx.refl.upd
    refine ⟨N, t, ys, rows, rfl, s3 _ _ ht ntp, pv2.sx s3 hp2, v, hl, h3, fun H4 pd e4 lst => ?_⟩
    walk_at "st"
    have hp4 := e4 p _ upd_same
    refine ⟨_, _, _, _, rfl, hp4, G.cT, G.nT _ (by decide +kernel), pl2, ?_⟩
    walk_at "st"
    have s5 : Sx p H4 (upd H4 p (.ins (He.ga K "Turning") dx (putF "_period" (.int pd) (putF "rows" (.ref t) (putF "around" (.int N) []))))) := Sx.refl.upd
    refine k _ pd ((((s1.same e2).trans s3).same e4).trans s5) ⟨dx, _, t, ys, upd_same, ?_, ?_, lk_same, ?_, ?_, ?_, s5 _ _ (e4 _ _ (s3 _ _ ht ntp)) ntp, ((pv2.sx s3 hp2).mono e4).sx s5 hp4⟩ lst
    · rw [lk_put (by decide +kernel), lk_put (by decide +kernel), lk_same]
    · rw [lk_put (by decide +kernel), lk_same]
    · rw [lk_put (by decide +kernel), lk_put (by decide +kernel), lk_put (by decide +kernel)]; rfl
    · rw [lk_put (by decide +kernel), lk_put (by decide +kernel), lk_put (by decide +kernel)]; rfl
    · rw [lk_put (by decide +kernel), lk_put (by decide +kernel), lk_put (by decide +kernel)]; rfl
def spTPer (K : PySem.W.Frag) : Sp := fun vs H Q _ => ∃ a N rows pd, vs = [.ref a] ∧ TurnAt K H a N rows pd ∧ Q (.int pd) H
theorem sc_tPer : FnScope ["self"] ["self"] (defScope s_tPer) := ⟨rfl, rfl, rfl, by decide +kernel, rfl, by decide +kernel, by decide +kernel⟩
theorem bd_tPer : Bd ["self"] "period" s_tPer := fun _ _ _ _ _ _ _ us hl => match us, hl with | [_], _ => rfl
theorem ok_tPer (F : Pd K (He.ga K "Turning") "period" "Turning.period" s_tPer) (G : Mod0 K mg) : Pro P w K mg base 1 (He.ga K "Turning") "period" (spTPer K) := by
  refine pro_of G.cT F sc_tPer bd_tPer (fun vs H Q E h => ?_) fun f cdv A outer s H vs Q E hr h => ?_
  · obtain ⟨_, _, _, _, rfl, _⟩ := h; rfl
  · obtain ⟨a, N, rows, pd, rfl, tu, k⟩ := h
    obtain ⟨dx, fs, tr, xs, h1, h2, h3, h4, _⟩ := tu.ex
    refine ⟨_, (pss_one (ps_ret (pe_fld (L2.pv 0) rfl))), ?_⟩
    walk_at "st"
    exact ⟨_, _, _, _, _, rfl, h1, G.cT, G.nT _ (by decide +kernel), h4, k⟩
def spTRests (K : PySem.W.Frag) : Sp := fun vs H Q _ => ∃ a N rows pd, vs = [.ref a] ∧ TurnAt K H a N rows pd ∧ rows.length ≤ 12 ∧
  ∀ H' l (ns : List Int), Same H H' → H' l = some (.lst (ns.map V.int)) → ns.Perm (rows.map Prod.snd) → ns.Pairwise (· ≤ ·) → Q (.ref l) H'
theorem sc_tRests : FnScope ["self", "begin", "rest"] ["self"] (defScope s_tRests) := ⟨rfl, rfl, rfl, by decide +kernel, rfl, by decide +kernel, by decide +kernel⟩
theorem bd_tRests : Bd ["self"] "rests" s_tRests := fun _ _ _ _ _ _ _ us hl => match us, hl with | [_], _ => rfl
theorem ok_tRests (F : Md K (He.ga K "Turning") "rests" "Turning.rests" s_tRests) (G : Mod0 K mg) : C8.Met P w K mg base 1 (He.ga K "Turning") "rests" (spTRests K) [] := by
  refine met_of G.cT F sc_tRests bd_tRests (fun vs H Q E h => ?_) fun f cdv A outer s H vs Q E hr h => ?_
  · obtain ⟨_, _, _, _, rfl, _⟩ := h; rfl
  · obtain ⟨a, N, rows, pd, rfl, tu, hl, k⟩ := h
    obtain ⟨dx, fs, tr, xs, h1, h2, h3, h4, _, _, _, htr, pv⟩ := tu.ex
    have l1 := pv.len
    refine ⟨_, (pss_one (ps_ret (pe_callB cr_sorted (by rfl) G.b_sorted (by decide +kernel) (pa_cons (pe_lc (own := [("begin", 1), ("rest", 2)]) (g := (gTup K 2 (gCons (gName 1) (gCons (gName 2) gNil)))) (tt := tYes) rfl sc_tRests.nd (pi_tup (pe_fld (L2.pv 0) rfl)) (blkOk_by (N := ["self", "begin", "rest"]) (sc := defScope s_tRests) (by decide +kernel)) (fun _ _ _ _ _ => (pg_tup rfl (pgs_cons (pg_name (i := 1) sc_tRests.nd rfl (Or.inl rfl)) (pgs_cons (pg_name (i := 2) sc_tRests.nd rfl (Or.inl rfl)) pgs_nil)))) (fun _ _ _ _ _ => pts_nil) (fun _ _ _ _ _ => (L2.pv 2))) pa_nil)))), ?_⟩
    walk_at "st"
    refine ⟨_, _, _, _, _, rfl, h1, G.cT, G.nT _ (by decide +kernel), h3, ?_⟩
    refine ⟨_, rfl, ⟨_, st htr⟩, fun Dd hD => lcT (xs := xs) (fun i H' => Same H H' ∧ H' Dd = some (.lst (((rows.map Prod.snd).take i).map V.int))) ?_ ?_ ?_ ?_⟩
    · exact ⟨Same.new hD, upd_same⟩
    · rintro i H' ⟨s', _⟩
      exact st (s' _ _ htr)
    · rintro i x H' e ⟨s', hd⟩
      obtain ⟨p, t, e1, rfl, ht⟩ := pv.at1 e
      refine lct_2 (st (s' _ _ ht)) rfl ?_
      walk_at "st"
      refine ⟨_, hd, small1000 (by rw [List.length_map, List.length_take, List.length_map]; omega), s'.sput hD, ?_⟩
      rw [take_snoc (a := p.2) (by rw [List.getElem?_map, e1]; rfl), List.map_append]
      exact upd_same
    · rintro H4 ⟨s4, hd⟩
      rw [l1, ← List.length_map (f := Prod.snd), List.take_length] at hd
      walk_at "st"
      refine ⟨_, _, rfl, sq hd, by rw [List.length_map]; omega, fun ns' p perm srt hp => ?_⟩
      exact k _ _ _ (s4.snew hp) upd_same perm srt
def spTLift (K : PySem.W.Frag) : Sp := fun vs H Q _ => ∃ a x N rows pd, vs = [.ref a, .int x] ∧ TurnAt K H a N rows pd ∧ Valid N rows ∧ N ≤ 360 ∧ ∀ H', Same H H' → Q (.int (lift N rows x)) H'
theorem sc_tLift : FnScope ["self", "x", "row", "lap", "place", "begin", "rest"] ["self", "x"] (defScope s_tLift) := ⟨rfl, rfl, rfl, by decide +kernel, rfl, by decide +kernel, by decide +kernel⟩
theorem bd_tLift : Bd ["self", "x"] "lifted" s_tLift := fun _ _ _ _ _ _ _ us hl => match us, hl with | [_, _], _ => rfl
theorem ok_tLift (F : Md K (He.ga K "Turning") "lifted" "Turning.lifted" s_tLift) (G : Mod0 K mg) (c_isInt : C8.Cal P w K mg base 1 "is_integer" spIsInt []) : C8.Met P w K mg base 2 (He.ga K "Turning") "lifted" (spTLift K) [] := by
  refine met_of G.cT F sc_tLift bd_tLift (fun vs H Q E h => ?_) fun f cdv A outer s H vs Q E hr h => ?_
  · obtain ⟨_, _, _, _, _, rfl, _⟩ := h; rfl
  · obtain ⟨a, x, N, rows, pd, rfl, tu, v, h360, k⟩ := h
    obtain ⟨dx, fs, tr, xs, h1, h2, h3, h4, _, _, _, htr, pv⟩ := tu.ex
    have hN := v.pos
    refine ⟨_, (pss_cons (ps_if (pt_not (pt_val (C8.pe_c c_isInt hr (by decide) rfl (pa_cons (L2.pv 1) pa_nil)))) pss_never pss_nil)
      (pss_cons (ps_asg (pe_callB call_divmod (by rfl) G.b_divmod (by decide +kernel) (pa_cons (L2.pv 1) (pa_cons (pe_fld (L2.pv 0) rfl) pa_nil))) (pg_tup rfl (pgs_cons (pg_name (i := 3) sc_tLift.nd rfl (Or.inl rfl)) (pgs_cons (pg_name (i := 4) sc_tLift.nd rfl (Or.inl rfl)) pgs_nil))))
      (C8.pss_cut (ps_if (pt_cmpR op_lt (L2.pv 4) (pe_ix ix_tup (pe_ix ix_tup (pe_fld (L2.pv 0) rfl) pe_int (fun _ _ => rfl)) pe_int (fun _ _ => rfl)) (nomark _)) (pss_one (ps_par (i := 3) (j := 4) (by rfl) sc_tLift.nd rfl rfl (by decide) rfl rfl (pa_cons (pe_op op_sub (L2.pv 3) pe_int) (pa_cons (pe_op op_add (L2.pv 4) (pe_fld (L2.pv 0) rfl)) pa_nil)) (by rfl))) pss_nil)
      (pss_cons (ps_asg (pe_ix ix_tup (pe_fld (L2.pv 0) rfl) pe_int (fun _ _ => rfl)) (pg_tup rfl (pgs_cons (pg_name (i := 5) sc_tLift.nd rfl (Or.inl rfl)) (pgs_cons (pg_name (i := 6) sc_tLift.nd rfl (Or.inl rfl)) pgs_nil))))
      (pss_cons (ps_for PassesOwn.never rfl (pi_tup (pe_fld (L2.pv 0) rfl)) (pg_name (i := 2) sc_tLift.nd rfl (Or.inl rfl)) (pss_one (ps_if (pt_cmpR op_le (pe_ix ix_tup (L2.pv 2) pe_int (fun _ _ => rfl)) (L2.pv 4) (nomark _)) (pss_one (ps_asg (L2.pv 2) (pg_tup rfl (pgs_cons (pg_name (i := 5) sc_tLift.nd rfl (Or.inl rfl)) (pgs_cons (pg_name (i := 6) sc_tLift.nd rfl (Or.inl rfl)) pgs_nil))))) pss_nil)))
      (pss_one (ps_ret (pe_op op_add (pe_op op_add (pe_op op_mul (L2.pv 3) (pe_fld (L2.pv 0) rfl)) (L2.pv 5)) (pe_op op_mod (pe_op op_sub (L2.pv 6) (L2.pv 5)) (pe_fld (L2.pv 0) rfl)))))))))), ?_⟩
    walk_at "st"
    refine ⟨x, rfl, ?_⟩
    walk_at "st"
    refine ⟨_, _, _, _, _, rfl, h1, G.cT, G.nT _ (by decide +kernel), h2, ?_⟩
    walk_at "st"
    refine ⟨_, _, rfl, ⟨hN, by omega⟩, fun q hq => ?_⟩
    have s1 : Same H (upd H q (.tup [.int (x / N), .int (x % N)])) := Same.new hq
    refine g_g2 (st upd_same) ?_
    walk_at "st"
    have ehd : rows[0]? = some (hd rows) := by
      cases hrw : rows with
      | nil => exact absurd hrw v.ne
      | cons p r => rfl
    obtain ⟨t0, e0, ht0⟩ := pv.at2 ehd
    refine ⟨fun σ H' => ∃ lap place : Int, σ = [some (.ref a), some (.int x), none, some (.int lap), some (.int place), none, none] ∧ Same H H' ∧ (hd rows).1 ≤ place ∧
      lap * N + (lastRow (hd rows) place rows).1 + ((lastRow (hd rows) place rows).2 - (lastRow (hd rows) place rows).1) % N = lift N rows x, ?_, ?_⟩
    · walk_at "st"
      refine ⟨_, _, _, _, _, rfl, s1 _ _ h1, G.cT, G.nT _ (by decide +kernel), h3, ?_⟩
      refine ⟨_, _, _, _, rfl, rfl, st (s1 _ _ htr), at_of rfl e0, ?_⟩
      walk_at "st"
      refine ⟨_, _, _, _, rfl, rfl, st (s1 _ _ ht0), rfl, ?_⟩
      walk_at "st"
      refine iC (fun z => ?_) (fun z => ?_)
      · walk_at "st"
        refine ⟨_, _, _, _, _, rfl, s1 _ _ h1, G.cT, G.nT _ (by decide +kernel), h2, ?_⟩
        walk_at "st"
        refine ⟨_, _, rfl, _, _, rfl, s1, ?_, ?_⟩
        · have := v.rng _ (hd_mem v)
          have := (euc x hN).2.1
          omega
        · unfold lift
          rw [if_pos z]
      · walk_at "st"
        refine ⟨_, _, rfl, s1, by omega, ?_⟩
        unfold lift
        rw [if_neg z]
    · rintro σ H' ⟨lap, place, rfl, s2, hpl, el⟩
      walk_at "st"
      refine ⟨_, _, _, _, _, rfl, s2 _ _ h1, G.cT, G.nT _ (by decide +kernel), h3, ?_⟩
      refine ⟨_, _, _, _, rfl, rfl, st (s2 _ _ htr), at_of rfl e0, ?_⟩
      refine g_g2 (st (s2 _ _ ht0)) ?_
      walk_at "st"
      refine ⟨_, _, _, _, _, rfl, s2 _ _ h1, G.cT, G.nT _ (by decide +kernel), h3, ?_⟩
      refine ⟨_, rfl, ⟨_, st (s2 _ _ htr)⟩, loopT (xs := xs) (fun i σ H3 => ∃ o2, σ = [some (.ref a), some (.int x), o2, some (.int lap), some (.int place), some (.int (lastRow (hd rows) place (rows.take i)).1), some (.int (lastRow (hd rows) place (rows.take i)).2)] ∧ H3 = H') ?_ ?_ ?_ ?_⟩
      · exact ⟨_, rfl, rfl⟩
      · rintro i σ H3 ⟨o2, rfl, rfl⟩
        exact st (s2 _ _ htr)
      · rintro i x2 σ H3 e ⟨o2, rfl, rfl⟩
        obtain ⟨p, t, e1, rfl, ht⟩ := pv.at1 e
        have snoc : lastRow (hd rows) place (rows.take (i + 1)) = if p.1 ≤ place then p else lastRow (hd rows) place (rows.take i) := by
          rw [take_snoc e1]
          unfold lastRow
          rw [List.foldl_append]; rfl
        walk_at "st"
        refine ⟨_, _, _, _, rfl, rfl, st (s2 _ _ ht), rfl, ?_⟩
        walk_at "st"
        refine iC (fun z => ?_) (fun z => ?_)
        · walk_at "st"
          refine g_g2 (st (s2 _ _ ht)) ?_
          rw [if_pos z] at snoc
          exact ⟨_, by rw [snoc]; rfl, rfl⟩
        · walk_at "st"
          rw [if_neg z] at snoc
          exact ⟨_, by rw [snoc]; rfl, rfl⟩
      · rintro σ H3 ⟨o2, rfl, rfl⟩
        rw [pv.len, List.take_length]
        walk_at "st"
        refine ⟨_, _, _, _, _, rfl, s2 _ _ h1, G.cT, G.nT _ (by decide +kernel), h2, ?_⟩
        walk_at "st"
        refine g_rI (.inr ⟨by omega, by omega⟩) ?_
        walk_at "st"
        refine ⟨_, _, _, _, _, rfl, s2 _ _ h1, G.cT, G.nT _ (by decide +kernel), h2, ?_⟩
        walk_at "st"
        refine g_rI hN ?_
        walk_at "st"
        rw [el]
        exact k _ s2
def spTEven (K : PySem.W.Frag) : Sp := fun vs H Q _ => ∃ a N rows pd, vs = [.ref a] ∧ TurnAt K H a N rows pd ∧ 0 < pd ∧ N % 2 = 0 ∧ N / 2 % pd = 0 ∧ Q (.bl true) H
theorem sc_tEven : FnScope ["self"] ["self"] (defScope s_tEven) := ⟨rfl, rfl, rfl, by decide +kernel, rfl, by decide +kernel, by decide +kernel⟩
theorem bd_tEven : Bd ["self"] "is_even" s_tEven := fun _ _ _ _ _ _ _ us hl => match us, hl with | [_], _ => rfl
theorem ok_tEven (F : Md K (He.ga K "Turning") "is_even" "Turning.is_even" s_tEven) (G : Mod0 K mg) : C8.Met P w K mg base 1 (He.ga K "Turning") "is_even" (spTEven K) [] := by
  refine met_of G.cT F sc_tEven bd_tEven (fun vs H Q E h => ?_) fun f cdv A outer s H vs Q E hr h => ?_
  · obtain ⟨_, _, _, _, rfl, _⟩ := h; rfl
  · obtain ⟨a, N, rows, pd, rfl, tu, p0, e1, e2, k⟩ := h
    obtain ⟨dx, fs, tr, xs, h1, h2, h3, h4, _⟩ := tu.ex
    refine ⟨_, (pss_one (ps_ret (pe_and (pe_cmpR op_eq (pe_op op_mod (pe_fld (L2.pv 0) rfl) pe_int) pe_int (nomark _)) (pe_one (pe_cmpR op_eq (pe_op op_mod (pe_op op_fdiv (pe_fld (L2.pv 0) rfl) pe_int) (pe_fld (L2.pv 0) rfl)) pe_int (nomark _)))))), ?_⟩
    walk_at "st"
    refine ⟨_, _, _, _, _, rfl, h1, G.cT, G.nT _ (by decide +kernel), h2, ?_⟩
    walk_at "st"
    refine g_rI (by decide) ?_
    walk_at "st"
    rw [dec_I]
    refine iD e1 ?_
    walk_at "st"
    refine ⟨_, _, _, _, _, rfl, h1, G.cT, G.nT _ (by decide +kernel), h2, ?_⟩
    walk_at "st"
    refine g_rI ⟨by decide, by decide⟩ ?_
    walk_at "st"
    refine ⟨_, _, _, _, _, rfl, h1, G.cT, G.nT _ (by decide +kernel), h4, ?_⟩
    walk_at "st"
    refine g_rI p0 ?_
    walk_at "st"
    rw [dec_I, decide_eq_true e2]
    exact k
end
end Jaw

/-! ## W4 -/
set_option Elab.async false
set_option linter.all false
set_option maxRecDepth 100000
set_option maxHeartbeats 4000000
namespace Jaw
open PySem PySem.Spec PyProof.Rows L2
local macro_rules | `(tactic| walk_at "st") => `(tactic| ((try (set_option simprocs false in dsimp only)); (repeat (first
  | with_reducible refine g_seq ?_
  | with_reducible refine g_set ?_
  | with_reducible refine g_asg ?_
  | with_reducible refine g_drop ?_
  | with_reducible refine g_ret ?_
  | with_reducible refine g_retN ?_
  | with_reducible refine g_ifs ?_
  | with_reducible refine g_next ?_
  | with_reducible refine g_brk ?_
  | with_reducible refine g_cont ?_
  | (with_reducible refine g_var ?_; refine ⟨_, rfl, ?_⟩)
  | with_reducible refine g_c ?_
  | with_reducible refine g_op ?_
  | with_reducible refine g_un ?_
  | with_reducible refine g_rI0 ?_
  | with_reducible refine g_rU ?_
  | with_reducible refine g_nil ?_
  | with_reducible refine g_cons ?_
  | with_reducible refine g_cb ?_
  | with_reducible refine g_call ?_
  | with_reducible refine g_test ?_
  | with_reducible refine g_tB ?_
  | with_reducible refine g_bl ?_
  | with_reducible refine g_and ?_
  | with_reducible refine g_or ?_
  | with_reducible refine g_not ?_
  | with_reducible refine g_andV ?_
  | with_reducible refine g_orV ?_
  | with_reducible refine g_notV ?_
  | with_reducible refine g_ife ?_
  | with_reducible refine g_chain ?_
  | with_reducible refine g_par ?_
  | with_reducible refine g_tup ?_
  | with_reducible refine g_lst ?_
  | with_reducible refine g_fld ?_
  | with_reducible refine g_meth ?_
  | with_reducible refine g_sfld ?_
  | with_reducible refine g_prop ?_
  | with_reducible refine g_item ?_
  | with_reducible refine g_eqI ?_
  | with_reducible refine g_neI ?_
  | with_reducible refine g_for ?_
  | with_reducible refine g_lc ?_
  | with_reducible refine g_iE ?_
  | with_reducible refine g_iL ?_
  | with_reducible refine g_iT ?_
  | with_reducible refine g_iR1 ?_
  | with_reducible refine g_iR2 ?_
  | with_reducible refine g_iV ?_
  | with_reducible refine g_iK ?_
  | with_reducible refine g_yes ?_
  | with_reducible refine g_gn ?_
  | with_reducible refine g_nt ?_
  | with_reducible refine g_nf ?_
  | with_reducible refine iteT ?_
  | with_reducible refine iteF ?_))))
section
variable {P : Program} {w : World} {K : PySem.W.Frag} {mg : Str → Option Value} {base : Heap}
def spIsWord : Sp := fun vs H Q _ => ∃ x : Str, vs = [.str x] ∧ (x = "push" ∨ x = "squeeze") ∧ Q (.bl true) H
theorem sc_isWord : FnScope ["thing"] ["thing"] (defScope s_isWord) := ⟨rfl, rfl, rfl, by decide +kernel, rfl, by decide +kernel, by decide +kernel⟩
theorem bd_isWord : Bd ["thing"] "is_word" s_isWord := fun _ _ _ _ _ _ _ us hl => match us, hl with | [_], _ => rfl
theorem ok_isWord (F : Fd K mg "is_word" s_isWord []) (G : Mod0 K mg) : C8.Cal P w K mg base 1 "is_word" spIsWord [] := by
  refine cal_of F sc_isWord bd_isWord (fun vs H Q E h => ?_) fun f cdv A outer s H vs Q E hr h => ?_
  · obtain ⟨_, rfl, _⟩ := h; rfl
  · obtain ⟨x, rfl, hx, k⟩ := h
    refine ⟨_, (pss_one (ps_ret (pe_and (pe_callB call_isi (by rfl) G.b_isinstance (by decide +kernel) (pa_cons (L2.pv 0) (pa_cons (pe_bltn (v := .ty "str") (by rfl) G.b_str (by decide +kernel) rfl) pa_nil))) (pe_one (pe_cmpR op_in_seq (L2.pv 0) (pe_glob (v := .ref (He.ga K "WORDS")) rfl G.WORDS rfl) (by rfl)))))), ?_⟩
    walk_at "st"
    refine isi_ss ?_
    walk_at "st"
    refine ⟨_, _, rfl, .inr (G.words H), rfl, rfl, ?_⟩
    have e : (if (false : Bool) = true then !inV (V.str x) [.str "push", .str "squeeze"] else inV (V.str x) [.str "push", .str "squeeze"]) = true := by
      rcases hx with rfl | rfl <;> decide +kernel
    rw [e]
    exact k
def spChkEven (K : PySem.W.Frag) : Sp := fun vs H Q _ => ∃ a N rows pd, vs = [.ref a] ∧ TurnAt K H a N rows pd ∧ 0 < pd ∧ N % 2 = 0 ∧ N / 2 % pd = 0 ∧ Q .non H
theorem sc_chkEven : FnScope ["turning"] ["turning"] (defScope s_chkEven) := ⟨rfl, rfl, rfl, by decide +kernel, rfl, by decide +kernel, by decide +kernel⟩
theorem bd_chkEven : Bd ["turning"] "check_even" s_chkEven := fun _ _ _ _ _ _ _ us hl => match us, hl with | [_], _ => rfl
theorem ok_chkEven (F : Fd K mg "check_even" s_chkEven []) (G : Mod0 K mg) (c_tEven : C8.Met P w K mg base 1 (He.ga K "Turning") "is_even" (spTEven K) []) : C8.Cal P w K mg base 2 "check_even" (spChkEven K) [] := by
  refine cal_of F sc_chkEven bd_chkEven (fun vs H Q E h => ?_) fun f cdv A outer s H vs Q E hr h => ?_
  · obtain ⟨_, _, _, _, rfl, _⟩ := h; rfl
  · obtain ⟨a, N, rows, pd, rfl, tu, p0, e1, e2, k⟩ := h
    obtain ⟨dx, fs, tr, xs, h1, h2, h3, h4, h5, h6, h7, _⟩ := id tu.ex
    refine ⟨_, (pss_one (ps_if (pt_not (pt_val (C8.pe_mt0 c_tEven hr (by decide) (L2.pv 0)))) pss_never pss_nil)), ?_⟩
    walk_at "st"
    refine ⟨_, _, _, rfl, h1, h7, ?_⟩
    walk_at "st"
    refine ⟨_, _, _, _, rfl, tu, p0, e1, e2, ?_⟩
    walk_at "st"
    exact k
def spPWords (K : PySem.W.Frag) : Sp := fun vs H Q _ => ∃ a N ws, vs = [.ref a] ∧ PartAt K H a N ws ∧ ∀ H' l, Same H H' → H' l = some (.lst (ws.map fun x => V.str x.1)) → Q (.ref l) H'
theorem sc_pWords : FnScope ["self", "word"] ["self"] (defScope s_pWords) := ⟨rfl, rfl, rfl, by decide +kernel, rfl, by decide +kernel, by decide +kernel⟩
theorem bd_pWords : Bd ["self"] "words" s_pWords := fun _ _ _ _ _ _ _ us hl => match us, hl with | [_], _ => rfl
theorem ok_pWords (F : Pd K (He.ga K "Part") "words" "Part.words" s_pWords) (G : Mod0 K mg) : Pro P w K mg base 1 (He.ga K "Part") "words" (spPWords K) := by
  refine pro_of G.cP F sc_pWords bd_pWords (fun vs H Q E h => ?_) fun f cdv A outer s H vs Q E hr h => ?_
  · obtain ⟨_, _, _, rfl, _⟩ := h; rfl
  · obtain ⟨a, N, ws, rfl, pa, k⟩ := h
    obtain ⟨dx, fs, d, kvs, h1, h2, h3, h4, h5, h6⟩ := pa.ex
    have hu := hu_of hr
    refine ⟨_, (pss_one (ps_ret (pe_lc (own := [("word", 1)]) (g := (gName 1)) rfl sc_pWords.nd (pi_tup (pe_glob (v := .ref (He.ga K "WORDS")) rfl G.WORDS rfl)) (blkOk_by (N := ["self", "word"]) (sc := defScope s_pWords) (by decide +kernel)) (fun _ _ _ _ _ => (pg_name (i := 1) sc_pWords.nd rfl (Or.inl rfl))) (fun _ _ _ _ _ => (pts_one (pt_cmp (by exact (pc_din hu (L2.pv 1) (pe_fldK (K := K) rfl (L2.pv 0) rfl)))))) (fun _ _ _ _ _ => (L2.pv 1))))), ?_⟩
    walk_at "st"
    let ok : Str → Bool := fun x => (ws.lookup x).isSome
    let two : List Str := ["push", "squeeze"]
    refine ⟨_, rfl, ⟨_, G.words H⟩, fun Dd hD => lcT (xs := [.str "push", .str "squeeze"]) (fun i H' => Same H H' ∧ H' Dd = some (.lst (((two.take i).filter ok).map V.str))) ?_ ?_ ?_ ?_⟩
    · exact ⟨Same.new hD, upd_same⟩
    · rintro i H' _
      exact G.words H'
    · rintro i x H' e ⟨s', hd⟩
      obtain ⟨y, ey, e2⟩ : ∃ y : Str, x = .str y ∧ two[i]? = some y := by
        match i, e with
        | 0, e => exact ⟨"push", (Option.some.inj e).symm, rfl⟩
        | 1, e => exact ⟨"squeeze", (Option.some.inj e).symm, rfl⟩
        | n + 2, e => simp at e
      subst ey
      have hi : i < 2 := (List.getElem?_eq_some_iff.mp e2).1
      refine lct_n rfl ?_
      walk_at "st"
      refine ⟨_, rfl, _, rfl, _, _, _, _, _, rfl, s' _ _ h1, G.cP, G.nP _ (by decide +kernel), h3, d, _, rfl, DGet.k (k := Sum.inr y) (s' _ _ h5), ?_⟩
      walk_at "st"
      rcases h6.look y with ⟨l1, l2⟩ | ⟨rows, t, pd, l1, l2, _⟩
      · rw [l2]
        refine ite2 (fun z => by cases z) fun _ => ?_
        refine ⟨s', ?_⟩
        rw [take_snoc e2, List.filter_append, List.filter_cons_of_neg (by show ¬ (ws.lookup y).isSome = true; rw [l1]; decide)]
        simpa using hd
      · rw [l2]
        refine ite2 (fun _ => ?_) fun z => absurd rfl z
        walk_at "st"
        refine ⟨_, hd, small1000 ?_, s'.sput hD, ?_⟩
        · rw [List.length_map]
          have := List.length_filter_le ok (two.take i)
          rw [List.length_take] at this
          omega
        · rw [take_snoc e2, List.filter_append, List.filter_cons_of_pos (by show (ws.lookup y).isSome = true; rw [l1]; rfl), List.map_append]
          exact upd_same
    · rintro H4 ⟨s4, hd⟩
      have e : ((two.take 2).filter ok).map V.str = ws.map fun x => V.str x.1 := by
        have np : ¬ (("push" : Str) = "squeeze") := by decide +kernel
        rcases pa.ok.shape with ⟨r, rfl⟩ | ⟨r, rfl⟩ | ⟨r1, r2, rfl⟩
        · have a1 : ok "push" = true := by show (List.lookup _ _).isSome = true; rw [List.lookup_cons, beq_self_eq_true]; rfl
          have a2 : ok "squeeze" = false := by show (List.lookup _ _).isSome = false; rw [List.lookup_cons, beq_eq_false_iff_ne.mpr (Ne.symm np)]; rfl
          show (List.filter ok ["push", "squeeze"]).map V.str = _
          rw [List.filter_cons_of_pos a1, List.filter_cons_of_neg (by rw [a2]; decide)]; rfl
        · have a1 : ok "push" = false := by show (List.lookup _ _).isSome = false; rw [List.lookup_cons, beq_eq_false_iff_ne.mpr np]; rfl
          have a2 : ok "squeeze" = true := by show (List.lookup _ _).isSome = true; rw [List.lookup_cons, beq_self_eq_true]; rfl
          show (List.filter ok ["push", "squeeze"]).map V.str = _
          rw [List.filter_cons_of_neg (by rw [a1]; decide), List.filter_cons_of_pos a2]; rfl
        · have a1 : ok "push" = true := by show (List.lookup _ _).isSome = true; rw [List.lookup_cons, beq_self_eq_true]; rfl
          have a2 : ok "squeeze" = true := by show (List.lookup _ _).isSome = true; rw [List.lookup_cons, beq_eq_false_iff_ne.mpr (Ne.symm np)]; show (List.lookup _ _).isSome = true; rw [List.lookup_cons, beq_self_eq_true]; rfl
          show (List.filter ok ["push", "squeeze"]).map V.str = _
          rw [List.filter_cons_of_pos a1, List.filter_cons_of_pos a2]; rfl
      have hd2 : H4 Dd = some (.lst (((two.take 2).filter ok).map V.str)) := hd
      rw [e] at hd2
      exact k _ _ s4 hd2
def spPPer (K : PySem.W.Frag) : Sp := fun vs H Q _ => ∃ a N ws, vs = [.ref a] ∧ PartAt K H a N ws ∧ ∀ p, PerOf N (maps N ws) p → Q (.int p) H
theorem sc_pPer : FnScope ["self", "many", "turning"] ["self"] (defScope s_pPer) := ⟨rfl, rfl, rfl, by decide +kernel, rfl, by decide +kernel, by decide +kernel⟩
theorem bd_pPer : Bd ["self"] "period" s_pPer := fun _ _ _ _ _ _ _ us hl => match us, hl with | [_], _ => rfl
theorem ok_pPer (F : Pd K (He.ga K "Part") "period" "Part.period" s_pPer) (G : Mod0 K mg) (c_tPer : Pro P w K mg base 1 (He.ga K "Turning") "period" (spTPer K)) : Pro P w K mg base 3 (He.ga K "Part") "period" (spPPer K) := by
  refine pro_of G.cP F sc_pPer bd_pPer (fun vs H Q E h => ?_) fun f cdv A outer s H vs Q E hr h => ?_
  · obtain ⟨_, _, _, rfl, _⟩ := h; rfl
  · obtain ⟨a, N, ws, rfl, pa, k⟩ := h
    obtain ⟨dx, fs, d, kvs, h1, h2, h3, h4, h5, h6⟩ := pa.ex
    have hu := hu_of hr
    have hN : 0 < N := by have := pa.ok.n2; omega
    refine ⟨_, (pss_cons (ps_set (i := 1) sc_pPer.nd rfl (Or.inl rfl) pe_int)
      (pss_cons (ps_lock (ps_for PassesOwn.never rfl (pi_values (pe_fld (L2.pv 0) rfl)) (pg_name (i := 2) sc_pPer.nd rfl (Or.inl rfl)) (pss_one (ps_set (i := 1) sc_pPer.nd rfl (Or.inl rfl) (pe_callBfun cr_lcm (by rfl) G.lcm (pa_cons (L2.pv 1) (pa_cons (pe_pr c_tPer hr (by decide) (L2.pv 2)) pa_nil)))))))
      (pss_one (ps_ret (L2.pv 1))))), ?_⟩
    walk_at "st"
    refine ⟨d, _, h5, True.intro, fun od => ?_⟩
    have sx : Sx d H (upd H d (.frz od (.dK kvs))) := Sx.refl.upd
    have nad : a ≠ d := ne_of h1 h5 (by intro z; cases z)
    walk_at "st"
    refine ⟨_, _, _, _, _, rfl, sx _ _ h1 nad, G.cP, G.nP _ (by decide +kernel), h3, ?_⟩
    refine ⟨_, _, _, rfl, upd_same, loopV (fun i σ H' => ∃ m o2, σ = [some (.ref a), some (.int m), o2] ∧ H' = upd H d (.frz od (.dK kvs)) ∧ PerOf N (maps N (ws.take i)) m) ?_ ?_ ?_ ?_⟩
    · exact ⟨1, none, rfl, rfl, by simpa [maps] using PerOf.nil⟩
    · rintro i σ H' ⟨m, o2, rfl, rfl, _⟩
      exact upd_same
    · rintro i kk x σ H' e ⟨m, o2, rfl, rfl, pm⟩
      obtain ⟨b, e1, ek, t, pd, ex, tu, le⟩ := Paired.at1 h6 e
      have ex : x = .ref t := ex
      subst ex
      have tu2 := tu.sx sx h5
      obtain ⟨tdx, tfs, _, _, t1, _⟩ := id tu2.ex
      walk_at "st"
      refine ⟨_, _, _, rfl, t1, _, _, _, _, rfl, tu2, ?_⟩
      walk_at "st"
      have b1 := Int.le_of_dvd hN pm.dvd
      have b2 := Int.le_of_dvd hN le.dvd
      have b3 := pa.ok.n360
      refine ⟨m, pd, rfl, pm.pos, by omega, le.pos, by omega, ?_⟩
      walk_at "st"
      refine ⟨_, _, rfl, rfl, ?_⟩
      have eq : maps N (ws.take (i + 1)) = maps N (ws.take i) ++ [lift N b.2] := by
        unfold maps
        rw [take_snoc e1, List.map_append]; rfl
      rw [eq]
      exact pm.snoc hN le
    · rintro σ H' ⟨m, o2, rfl, rfl, pm⟩
      rw [Paired.len h6, List.take_length] at pm
      refine ⟨upd_same, ?_⟩
      rw [upd_upd, upd_self h5]
      walk_at "st"
      exact k _ pm
def spPItem (K : PySem.W.Frag) : Sp := fun vs H Q _ => ∃ a x N ws rows, vs = [.ref a, .str x] ∧ PartAt K H a N ws ∧ ws.lookup x = some rows ∧ ∀ t pd, TurnAt K H t N rows pd → Q (.ref t) H
theorem sc_pItem : FnScope ["self", "at"] ["self", "at"] (defScope s_pItem) := ⟨rfl, rfl, rfl, by decide +kernel, rfl, by decide +kernel, by decide +kernel⟩
theorem bd_pItem : Bd ["self", "at"] "__getitem__" s_pItem := fun _ _ _ _ _ _ _ us hl => match us, hl with | [_, _], _ => rfl
theorem PartOk.word {N : Int} {ws : Ws} {x : Str} {rows : List Row} (h : PartOk N ws) (e : ws.lookup x = some rows) : x = "push" ∨ x = "squeeze" := by
  have two : ∀ {y : Str} {r : List Row} {l : Ws}, List.lookup x ((y, r) :: l) = some rows → x = y ∨ l.lookup x = some rows := fun {y r l} e => by
    by_cases q : x = y
    · exact .inl q
    · rw [List.lookup_cons, beq_eq_false_iff_ne.mpr q] at e
      exact .inr e
  rcases h.shape with ⟨r, rfl⟩ | ⟨r, rfl⟩ | ⟨r1, r2, rfl⟩
  · rcases two e with z | z
    · exact .inl z
    · cases z
  · rcases two e with z | z
    · exact .inr z
    · cases z
  · rcases two e with z | z
    · exact .inl z
    · rcases two z with y | y
      · exact .inr y
      · cases y
theorem lookup_mem {x : Str} {rows : List Row} : ∀ {ws : Ws}, ws.lookup x = some rows → (x, rows) ∈ ws
  | [], e => by cases e
  | (y, r) :: l, e => by
    by_cases q : x = y
    · subst q
      rw [List.lookup_cons, beq_self_eq_true] at e
      cases e
      exact List.mem_cons_self ..
    · rw [List.lookup_cons, beq_eq_false_iff_ne.mpr q] at e
      exact List.mem_cons_of_mem _ (lookup_mem e)
theorem ok_pItem (F : Md K (He.ga K "Part") "__getitem__" "Part.__getitem__" s_pItem) (hf : ∀ f, Meth K (He.ga K "Part") "__getitem__" f → PySem.W.fnIn K f = true) (G : Mod0 K mg) (c_isWord : C8.Cal P w K mg base 1 "is_word" spIsWord []) :
    Itm P w K mg base 2 (He.ga K "Part") (spPItem K) := by
  refine itm_of G.cP F hf sc_pItem bd_pItem (fun vs H Q E h => ?_) fun f cdv A outer s H vs Q E hr h => ?_
  · obtain ⟨_, _, _, _, _, rfl, _⟩ := h; rfl
  · obtain ⟨a, x, N, ws, rows, rfl, pa, lk, k⟩ := h
    obtain ⟨dx, fs, d, kvs, h1, h2, h3, h4, h5, h6⟩ := pa.ex
    have hu := hu_of hr
    rcases h6.look x with ⟨l1, l2⟩ | ⟨rows', t, pd, l1, l2, tu, le⟩
    · rw [l1] at lk; cases lk
    rw [l1] at lk; cases lk
    refine ⟨_, (pss_cons (ps_if (PW.pt (pw_or (pt_not (pt_val (C8.pe_c c_isWord hr (by decide) rfl (pa_cons (L2.pv 1) pa_nil)))) (pw_or1 (pt_cmp (by exact (pc_dnotin hu (L2.pv 1) (pe_fld (L2.pv 0) rfl))))))) pss_never pss_nil)
      (pss_one (ps_ret (pe_dget hu (pe_fld (L2.pv 0) rfl) (L2.pv 1) (fun _ _ => rfl))))), ?_⟩
    walk_at "st"
    refine ⟨x, rfl, pa.ok.word l1, ?_⟩
    walk_at "st"
    refine ⟨_, rfl, _, rfl, _, _, _, _, _, rfl, h1, G.cP, G.nP _ (by decide +kernel), h3, d, _, rfl, DGet.k (k := Sum.inr x) h5, ?_⟩
    rw [l2]
    walk_at "st"
    refine ite2 (fun z => by cases z) fun _ => ?_
    walk_at "st"
    refine ⟨_, rfl, _, _, _, _, _, rfl, h1, G.cP, G.nP _ (by decide +kernel), h3, _, rfl, d, _, rfl, ?_, k _ _ tu⟩
    have := DGet.k (k := Sum.inr x) h5
    rw [l2] at this
    exact this
def spPRests (K : PySem.W.Frag) : Sp := fun vs H Q _ => ∃ a x N ws rows, vs = [.ref a, .str x] ∧ PartAt K H a N ws ∧ ws.lookup x = some rows ∧
  ∀ H' l p (ns : List Int), Same H H' → PerOf N (maps N ws) p → H' l = some (.lst (ns.map V.int)) → Asc ns (fun y => 0 ≤ y ∧ y < p ∧ lift N rows y = y) → Q (.ref l) H'
theorem sc_pRests : FnScope ["self", "word", "rest"] ["self", "word"] (defScope s_pRests) := ⟨rfl, rfl, rfl, by decide +kernel, rfl, by decide +kernel, by decide +kernel⟩
theorem bd_pRests : Bd ["self", "word"] "rests" s_pRests := fun _ _ _ _ _ _ _ us hl => match us, hl with | [_, _], _ => rfl
theorem ok_pRests (F : Md K (He.ga K "Part") "rests" "Part.rests" s_pRests) (G : Mod0 K mg) (c_pItem : Itm P w K mg base 2 (He.ga K "Part") (spPItem K)) (c_tRests : C8.Met P w K mg base 1 (He.ga K "Turning") "rests" (spTRests K) [])
    (c_pPer : Pro P w K mg base 3 (He.ga K "Part") "period" (spPPer K)) : C8.Met P w K mg base 5 (He.ga K "Part") "rests" (spPRests K) [] := by
  refine met_of G.cP F sc_pRests bd_pRests (fun vs H Q E h => ?_) fun f cdv A outer s H vs Q E hr h => ?_
  · obtain ⟨_, _, _, _, _, rfl, _⟩ := h; rfl
  · obtain ⟨a, x, N, ws, rows, rfl, pa, lk, k⟩ := h
    obtain ⟨dx, fs, d, kvs, h1, h2, h3, h4, h5, h6⟩ := id pa.ex
    have hu := hu_of hr
    have hv := pa.ok.val _ (lookup_mem lk)
    obtain ⟨p, hp⟩ := pa.per
    have hpN := hp.le hv.1.pos
    refine ⟨_, (pss_one (ps_ret (pe_lc (own := [("rest", 2)]) (g := (gName 2)) rfl sc_pRests.nd (pi_list (C8.pe_mt0 c_tRests hr (by decide) (pe_im c_pItem hr (by decide) (L2.pv 0) (L2.pv 1)))) (blkOk_by (N := ["self", "word", "rest"]) (sc := defScope s_pRests) (by decide +kernel)) (fun _ _ _ _ _ => (pg_name (i := 2) sc_pRests.nd rfl (Or.inl rfl))) (fun _ _ _ _ _ => (pts_one (pt_cmpR op_lt (L2.pv 2) (pe_pr c_pPer hr (by decide) (L2.pv 0)) (nomark _)))) (fun _ _ _ _ _ => (L2.pv 2))))), ?_⟩
    walk_at "st"
    refine ⟨_, _, _, rfl, h1, _, _, _, _, _, rfl, pa, lk, fun t pd tu => ?_⟩
    obtain ⟨tdx, tfs, _, _, t1, _, _, _, _, t6, _⟩ := id tu.ex
    refine ⟨_, _, _, rfl, t1, t6, ?_⟩
    walk_at "st"
    refine ⟨_, _, _, _, rfl, tu, hv.2, fun H1 l ns s1 hl perm srt => ?_⟩
    have asc : Asc ns (fun y => 0 ≤ y ∧ y < N ∧ lift N rows y = y) := ⟨strict_of srt (perm.nodup_iff.mpr (rests_nodup hv.1)), fun y => perm.mem_iff.trans (rest_iff hv.1)⟩
    have lns : ns.length ≤ 12 := by
      have := perm.length_eq
      rw [List.length_map] at this
      have h12 : rows.length ≤ 12 := hv.2
      omega
    refine ⟨_, rfl, ⟨_, sq hl⟩, fun Dd hD => lcL (xs := ns.map V.int) (fun i H' => Same H1 H' ∧ H' Dd = some (.lst (((ns.take i).filter fun y => decide (y < p)).map V.int))) ?_ ?_ ?_ ?_⟩
    · exact ⟨Same.new hD, upd_same⟩
    · rintro i H' ⟨s', _⟩
      exact sq (s' _ _ hl)
    · rintro i y H' e ⟨s', hd⟩
      rw [List.getElem?_map] at e
      cases e2 : ns[i]? with
      | none => rw [e2] at e; cases e
      | some z =>
        rw [e2] at e
        obtain rfl : V.int z = y := Option.some.inj e
        have pa' := pa.mono (s1.trans s')
        refine lct_n rfl ?_
        walk_at "st"
        refine ⟨_, _, _, rfl, s' _ _ (s1 _ _ h1), _, _, _, rfl, pa', fun p' hp' => ?_⟩
        rw [hp'.uniq hp]
        walk_at "st"
        refine iC (fun c => ?_) (fun c => ?_)
        · walk_at "st"
          refine ⟨_, hd, small1000 ?_, s'.sput hD, ?_⟩
          · rw [List.length_map]
            have := List.length_filter_le (fun y => decide (y < p)) (ns.take i)
            rw [List.length_take] at this
            omega
          · rw [take_snoc e2, List.filter_append, List.filter_cons_of_pos (by simpa using c), List.map_append]
            exact upd_same
        · refine ⟨s', ?_⟩
          rw [take_snoc e2, List.filter_append, List.filter_cons_of_neg (by simpa using c)]
          simpa using hd
    · rintro H4 ⟨s4, hd⟩
      rw [List.length_map, List.take_length] at hd
      refine k _ _ p _ (s1.trans s4) hp hd ((asc.filter _).congr fun y => ?_)
      simp only [decide_eq_true_eq]
      constructor
      · rintro ⟨⟨a, b, c⟩, d⟩; exact ⟨a, d, c⟩
      · rintro ⟨a, b, c⟩; exact ⟨⟨a, by omega, c⟩, b⟩
end
end Jaw

/-! ## W5 -/
set_option Elab.async false
set_option linter.all false
set_option maxRecDepth 100000
set_option maxHeartbeats 4000000
namespace Jaw
open PySem PySem.Spec PyProof.Rows L2
local macro_rules | `(tactic| walk_at "st") => `(tactic| ((try (set_option simprocs false in dsimp only)); (repeat (first
  | with_reducible refine g_seq ?_
  | with_reducible refine g_set ?_
  | with_reducible refine g_asg ?_
  | with_reducible refine g_drop ?_
  | with_reducible refine g_ret ?_
  | with_reducible refine g_retN ?_
  | with_reducible refine g_ifs ?_
  | with_reducible refine g_next ?_
  | with_reducible refine g_brk ?_
  | with_reducible refine g_cont ?_
  | (with_reducible refine g_var ?_; refine ⟨_, rfl, ?_⟩)
  | with_reducible refine g_c ?_
  | with_reducible refine g_op ?_
  | with_reducible refine g_un ?_
  | with_reducible refine g_rI0 ?_
  | with_reducible refine g_rU ?_
  | with_reducible refine g_nil ?_
  | with_reducible refine g_cons ?_
  | with_reducible refine g_cb ?_
  | with_reducible refine g_call ?_
  | with_reducible refine g_test ?_
  | with_reducible refine g_tB ?_
  | with_reducible refine g_bl ?_
  | with_reducible refine g_and ?_
  | with_reducible refine g_or ?_
  | with_reducible refine g_not ?_
  | with_reducible refine g_andV ?_
  | with_reducible refine g_orV ?_
  | with_reducible refine g_notV ?_
  | with_reducible refine g_ife ?_
  | with_reducible refine g_chain ?_
  | with_reducible refine g_par ?_
  | with_reducible refine g_tup ?_
  | with_reducible refine g_lst ?_
  | with_reducible refine g_fld ?_
  | with_reducible refine g_meth ?_
  | with_reducible refine g_sfld ?_
  | with_reducible refine g_prop ?_
  | with_reducible refine g_item ?_
  | with_reducible refine g_eqI ?_
  | with_reducible refine g_neI ?_
  | with_reducible refine g_for ?_
  | with_reducible refine g_lc ?_
  | with_reducible refine g_iE ?_
  | with_reducible refine g_iL ?_
  | with_reducible refine g_iT ?_
  | with_reducible refine g_iR1 ?_
  | with_reducible refine g_iR2 ?_
  | with_reducible refine g_iV ?_
  | with_reducible refine g_iK ?_
  | with_reducible refine g_yes ?_
  | with_reducible refine g_gn ?_
  | with_reducible refine g_nt ?_
  | with_reducible refine g_nf ?_
  | with_reducible refine iteT ?_
  | with_reducible refine iteF ?_))))
/-! ### Part(squeeze=.., push=..) -/
structure MakK (P : Program) (w : World) (K : PySem.W.Frag) (mg : Str → Option Value) (base : Heap) (k : Nat) (x : Str) (C : Addr) (ks : List Str) (gV : List V → List V → List V) (sp : Sp) : Prop where
  ex : ∃ (f : Addr) (fd : FuncData) (ps : List Str) (g : List Value → List Value → List Value), Mk K C f ∧ FnOk P w K mg base CX0 k f fd ps sp ∧ mg x = some (.ref C) ∧ KBn K fd ps 1 ks g gV
section
variable {X : Cx} {j k : Nat} {C : Addr} {x : Str} {sp : Sp} {ks : List Str} {gV : List V → List V → List V} {p pos : Pos} {kws : List Keyword} {tk : TA}
theorem pe_mkK (c : MakK X.prog X.w X.K X.mg X.base k x C ks gV sp) (hr : Room j X.A) (hk : k + 1 ≤ j) (hg : Gl X x) (hkw : PK X kws tk)
    (hall : (backToKw pos (keywordEach kws X.env)).all (·.1.isSome) = true := by rfl) (hks : (backToKw pos (keywordEach kws X.env)).filterMap (·.1) = ks := by rfl) (hdb : (x == ("__debug__" : Str)) = false := by decide)
    (hpl : ((backTo pos (starEach [] X.env)).any (·.1) || (backToKw pos (keywordEach kws X.env)).any (·.1.isNone)) = false := by rfl) :
    PE X (.Call (.Name x p) [] kws pos) (tMakeK C 0 ks.length sp gV E0 tNil tk) := by
  obtain ⟨f, fd, ps, g, M, F, hm, hb⟩ := c.ex
  exact pe_makeK0 M F (hr.mono hk) hg hm hb pass0 hkw hall hks hdb hpl
end
theorem non3 {its : List Value} (h : Vals [.non, .non, .non] its) : its = [.none, .none, .none] := by
  cases h with
  | cons r h => cases h with
    | cons r2 h => cases h with
      | cons r3 h => cases h with
        | nil =>
          cases (show _ = Value.none from r)
          cases (show _ = Value.none from r2)
          cases (show _ = Value.none from r3)
          rfl
theorem kbn_part {K : PySem.W.Frag} {f : Addr} {fd : FuncData} (F : FunD K "__init__" "Part.__init__" (defArgs s_pInit) (defBody s_pInit) (defScope s_pInit) [.non, .non, .non] [] f fd) :
    KBn K fd ["self", "squeeze", "push", "widths"] 1 ["squeeze", "push"] (fun us ws => us ++ (ws ++ [Value.none])) (fun vs zs => vs ++ (zs ++ [V.non])) := by
  obtain ⟨oc, od, dV, kV, doc, pm, an, cdv, ct, osl, rfl, lk, hcd, hD, hK⟩ := F.ex
  rcases hD with ⟨e, _⟩ | ⟨_, T, o, its, m, rfl, lT, oT, rT⟩
  · cases e
  have e := non3 rT
  subst e
  refine ⟨fun s us ws X l1 l2 => BindsTo.of_looks fun M => ?_, fun r1 r2 => r1.append (r2.append (.cons rfl .nil))⟩
  match us, ws, l1, l2 with
  | [u], [w1, w2], _, _ =>
    obtain ⟨k, e1, e2⟩ : ∃ k, bindArgs (PySem.W.fnOf "__init__" "Part.__init__" (defArgs s_pInit) (defBody s_pInit) (defScope s_pInit) (.ref T) kV doc pm an cdv ct) ⟨[u], (["squeeze", "push"] : List Str).zip [w1, w2]⟩ = seqItems? (.ref T) >>= k ∧
      k (some ([.none, .none, .none] : List Value).toArray) = pure ((["self", "squeeze", "push", "widths"] : List Str).zip ([u] ++ ([w1, w2] ++ [Value.none]))) := ⟨_, rfl, rfl⟩
    rw [e1]
    exact looks_items X lT oT (.of_pure e2)
section
variable {P : Program} {w : World} {K : PySem.W.Frag} {mg : Str → Option Value} {base : Heap}
def pushKv : V → List (Key × V)
  | .non => []
  | x => [(Sum.inr ("push" : Str), x)]
theorem pushKv_len (v : V) : (pushKv v).length ≤ 1 := by
  cases v with
  | non => exact Nat.zero_le _
  | _ => exact Nat.le_refl 1
theorem pushKv_ref (t : Addr) : pushKv (.ref t) = [(Sum.inr ("push" : Str), V.ref t)] := rfl
def spPInit (K : PySem.W.Frag) : Sp := fun vs H Q _ => ∃ p dx sq pu N po so, vs = [.ref p, sq, pu, .non] ∧ H p = some (.ins (He.ga K "Part") dx []) ∧ ArgT K H N sq so ∧ ArgT K H N pu po ∧ PartOk N (wsOf po so) ∧ sq ≠ .ref p ∧ pu ≠ .ref p ∧
  (∀ rows, so = some rows → N % 2 = 0 ∧ Com (lift N rows) (N / 2)) ∧ ∀ H', Sx p H H' → PartAt K H' p N (wsOf po so) → Q .non H'
theorem sc_pInit : FnScope ["self", "squeeze", "push", "widths"] ["self", "squeeze", "push", "widths"] (defScope s_pInit) := ⟨rfl, rfl, rfl, by decide +kernel, rfl, by decide +kernel, by decide +kernel⟩
theorem ok_pInit (F : Id K (He.ga K "Part") "Part.__init__" s_pInit [.non, .non, .non]) (hm : mg "Part" = some (.ref (He.ga K "Part"))) (G : Mod0 K mg) (c_chkEven : C8.Cal P w K mg base 2 "check_even" (spChkEven K) []) :
    MakK P w K mg base 3 "Part" (He.ga K "Part") ["squeeze", "push"] (fun vs zs => vs ++ (zs ++ [V.non])) (spPInit K) := by
  obtain ⟨f, fd, F, mk⟩ := F.ex
  refine ⟨f, fd, _, _, mk, F.ok sc_pInit (fun vs H Q E h => ?_) (fun cdv A outer s H vs Q E hr h => ?_), hm, kbn_part F⟩
  · obtain ⟨_, _, _, _, _, _, _, rfl, _⟩ := h; rfl
  suffices hb : ∃ t, PSs (cxOf CX0 P w K mg base ["self", "squeeze", "push", "widths"] "Part.__init__" (defScope s_pInit) f cdv A outer s H E).nox (defBody s_pInit) t ∧ t { nx := fun _ H' => Q .non H', rt := Q } (start ["self", "squeeze", "push", "widths"] vs) H by
    obtain ⟨t, h1, h2⟩ := hb
    exact ⟨t, h1.nox, h2⟩
  obtain ⟨p, dx, sq, pu, N, po, so, rfl, hp, asq, apu, ok, nsq, npu, ev, k⟩ := h
  have hu := hu_of hr
  have hN : 0 < N := by have := ok.n2; omega
  refine ⟨_, (C8.pss_cut (ps_if (PW.pt (pw_and (pt_cmpR op_isN (L2.pv 1) pe_non (nomark _)) (pw_and1 (pt_cmpR op_isN (L2.pv 2) pe_non (nomark _))))) pss_never pss_nil)
      (C8.pss_cut (ps_if (PW.pt (pw_and (pt_cmpR op_notN (L2.pv 1) pe_non (nomark _)) (pw_and (pt_cmpR op_notN (L2.pv 2) pe_non (nomark _)) (pw_and1 (pt_cmpR op_ne (pe_fld (L2.pv 1) rfl) (pe_fld (L2.pv 2) rfl) (nomark _)))))) pss_never pss_nil)
      (C8.pss_cut (ps_if (pt_cmpR op_notN (L2.pv 1) pe_non (nomark _)) (pss_one (ps_expr (C8.pe_c c_chkEven hr (by decide) rfl (pa_cons (L2.pv 1) pa_nil)))) (pss_one (ps_if (pt_cmpR op_notN (L2.pv 3) pe_non (nomark _)) pss_never pss_nil)))
      (C8.pss_cut (ps_fld (L2.pv 0) (pe_ifExp (pt_cmpR op_isN (L2.pv 1) pe_non (nomark _)) (pe_fld (L2.pv 2) rfl) (pe_fld (L2.pv 1) rfl)) rfl)
      (pss_cons (ps_fld (L2.pv 0) (pe_ifExp (pt_cmpR op_isN (L2.pv 3) pe_non (nomark _)) pe_non pe_no) rfl)
      (pss_cons (ps_fld (L2.pv 0) pe_dnewK rfl)
      (C8.pss_cut (ps_if (pt_cmpR op_notN (L2.pv 2) pe_non (nomark _)) (pss_one (ps_dput hu (pe_fld (L2.pv 0) rfl) pe_str (L2.pv 2) rfl)) pss_nil)
      (pss_one (ps_if (pt_cmpR op_notN (L2.pv 1) pe_non (nomark _)) (pss_one (ps_dput hu (pe_fld (L2.pv 0) rfl) pe_str (L2.pv 1) rfl)) pss_nil))))))))), ?_⟩
  refine ⟨fun σ H' => σ = [some (.ref p), some sq, some pu, some .non] ∧ H' = H, ?_, ?_⟩
  · walk_at "st"
    refine ⟨rfl, ?_⟩
    walk_at "st"
    refine iC (fun z => ?_) (fun z => ?_)
    · walk_at "st"
      refine ⟨rfl, ?_⟩
      walk_at "st"
      refine iC (fun y => ?_) (fun y => ?_)
      · subst z y
        rcases asq.is with ⟨rfl, _⟩ | ⟨_, _, _, _, e, _⟩
        · rcases apu.is with ⟨rfl, _⟩ | ⟨_, _, _, _, e, _⟩
          · rcases ok.shape with ⟨r, e⟩ | ⟨r, e⟩ | ⟨r1, r2, e⟩ <;> cases e
          · cases e
        · cases e
      · exact ⟨rfl, rfl⟩
    · walk_at "st"
      exact ⟨rfl, rfl⟩
  rintro σ H' ⟨rfl, rfl⟩
  refine ⟨fun σ H2 => σ = [some (.ref p), some sq, some pu, some .non] ∧ H2 = H', ?_, ?_⟩
  · walk_at "st"
    refine ⟨rfl, ?_⟩
    walk_at "st"
    refine iCN (fun z => ?_) (fun z => ?_)
    · walk_at "st"
      refine ⟨rfl, ?_⟩
      walk_at "st"
      refine iCN (fun y => ?_) (fun y => ?_)
      · rcases asq.is with ⟨_, e⟩ | ⟨r1, t1, pd1, _, rfl, tu1, le1⟩
        · exact absurd e z
        rcases apu.is with ⟨_, e⟩ | ⟨r2, t2, pd2, _, rfl, tu2, le2⟩
        · exact absurd e y
        obtain ⟨dx1, fs1, _, _, a1, a2, _⟩ := tu1.ex
        obtain ⟨dx2, fs2, _, _, b1, b2, _⟩ := tu2.ex
        walk_at "st"
        refine ⟨_, _, _, _, _, rfl, a1, G.cT, G.nT _ (by decide +kernel), a2, ?_⟩
        walk_at "st"
        refine ⟨_, _, _, _, _, rfl, b1, G.cT, G.nT _ (by decide +kernel), b2, ?_⟩
        walk_at "st"
        refine iN rfl ?_
        exact ⟨rfl, rfl⟩
      · exact ⟨rfl, rfl⟩
    · exact ⟨rfl, rfl⟩
  rintro σ H2 ⟨rfl, rfl⟩
  refine ⟨fun σ H3 => σ = [some (.ref p), some sq, some pu, some .non] ∧ H3 = H2, ?_, ?_⟩
  · walk_at "st"
    refine ⟨rfl, ?_⟩
    walk_at "st"
    refine iCN (fun z => ?_) (fun z => ?_)
    · rcases asq.is with ⟨_, e⟩ | ⟨r1, t1, pd1, e1, rfl, tu1, le1⟩
      · exact absurd e z
      obtain ⟨ev1, ev2⟩ := ev _ e1
      walk_at "st"
      refine ⟨_, _, _, _, rfl, tu1, le1.pos, ev1, Int.emod_eq_zero_of_dvd (le1.all hN ev2), ?_⟩
      exact ⟨rfl, rfl⟩
    · walk_at "st"
      refine ⟨rfl, ?_⟩
      walk_at "st"
      refine iN rfl ?_
      exact ⟨rfl, rfl⟩
  rintro σ H3 ⟨rfl, rfl⟩
  refine ⟨fun σ H4 => σ = [some (.ref p), some sq, some pu, some .non] ∧ H4 = upd H3 p (.ins (He.ga K "Part") dx (putF "around" (.int N) [])), ?_, ?_⟩
  · walk_at "st"
    refine ⟨rfl, ?_⟩
    walk_at "st"
    refine iC (fun z => ?_) (fun z => ?_)
    · rcases apu.is with ⟨e0, e⟩ | ⟨r2, t2, pd2, _, rfl, tu2, le2⟩
      · subst e0
        rcases asq.is with ⟨rfl, _⟩ | ⟨_, _, _, _, e, _⟩
        · rcases ok.shape with ⟨r, e⟩ | ⟨r, e⟩ | ⟨r1, r2, e⟩ <;> cases e
        · rw [z] at e; cases e
      obtain ⟨dx2, fs2, _, _, b1, b2, _⟩ := tu2.ex
      walk_at "st"
      refine ⟨_, _, _, _, _, rfl, b1, G.cT, G.nT _ (by decide +kernel), b2, ?_⟩
      walk_at "st"
      refine ⟨_, _, _, _, rfl, hp, G.cP, G.nP _ (by decide +kernel), by decide, ?_⟩
      exact ⟨rfl, rfl⟩
    · rcases asq.is with ⟨_, e⟩ | ⟨r1, t1, pd1, e1, rfl, tu1, le1⟩
      · exact absurd e z
      obtain ⟨dx1, fs1, _, _, a1, a2, _⟩ := tu1.ex
      walk_at "st"
      refine ⟨_, _, _, _, _, rfl, a1, G.cT, G.nT _ (by decide +kernel), a2, ?_⟩
      walk_at "st"
      refine ⟨_, _, _, _, rfl, hp, G.cP, G.nP _ (by decide +kernel), by decide, ?_⟩
      exact ⟨rfl, rfl⟩
  rintro σ H4 ⟨rfl, rfl⟩
  walk_at "st"
  refine ⟨rfl, ?_⟩
  walk_at "st"
  refine iD rfl ?_
  walk_at "st"
  refine ⟨_, _, _, _, rfl, upd_same, G.cP, G.nP _ (by decide +kernel), pl1, ?_⟩
  walk_at "st"
  intro d hd
  rw [upd_upd] at hd
  have npd : p ≠ d := ne_of_none upd_same hd
  have hd0 : H3 d = none := by rw [upd_ne npd.symm] at hd; exact hd
  rw [upd_upd]
  have s5 : Sx p H3 (upd (upd H3 p (.ins (He.ga K "Part") dx (putF "_shown" .non (putF "around" (.int N) [])))) d (.dK [])) := (Sx.refl.upd).mut hd0
  walk_at "st"
  refine ⟨_, _, _, _, rfl, by rw [upd_ne npd, upd_same], G.cP, G.nP _ (by decide +kernel), pl2, ?_⟩
  let FS := putF ("_turnings" : Str) (V.ref d) (putF "_shown" .non (putF "around" (.int N) []))
  have lA : FS.lookup ("around" : Str) = some (.int N) := by rw [lk_put (by decide +kernel), lk_put (by decide +kernel), lk_same]
  have lT : FS.lookup ("_turnings" : Str) = some (.ref d) := lk_same
  have lR : FS.lookup ("rests" : Str) = none := by rw [lk_put (by decide +kernel), lk_put (by decide +kernel), lk_put (by decide +kernel)]; rfl
  refine ⟨fun σ H5 => ∃ kvs, σ = [some (.ref p), some sq, some pu, some .non] ∧ Sx p H3 H5 ∧ H5 p = some (.ins (He.ga K "Part") dx FS) ∧ H5 d = some (.dK kvs) ∧ kvs = pushKv pu, ?_, ?_⟩
  · walk_at "st"
    refine ⟨rfl, ?_⟩
    walk_at "st"
    have hdd : ∀ {o : HO}, (upd (upd (upd H3 p (.ins (He.ga K "Part") dx (putF "_shown" .non (putF "around" (.int N) [])))) d (.dK [])) p o) d = some (.dK []) := fun {o} => by rw [upd_ne npd.symm, upd_same]
    refine iCN (fun z => ?_) (fun z => ?_)
    · rcases apu.is with ⟨e0, e⟩ | ⟨r2, t2, pd2, _, rfl, tu2, le2⟩
      · exact absurd e z
      walk_at "st"
      refine ⟨_, rfl, _, rfl, _, _, _, _, _, rfl, upd_same, G.cP, G.nP _ (by decide +kernel), lT, d, _, rfl, DPut.k (k := Sum.inr "push") hdd (by decide), ?_⟩
      refine ⟨_, rfl, (s5.upd).mut hd0, by rw [upd_ne npd, upd_same], upd_same, rfl⟩
    · subst z
      walk_at "st"
      exact ⟨_, rfl, s5.upd, upd_same, hdd, rfl⟩
  · rintro σ H5 ⟨kvs, rfl, s6, hp5, hd5, ek⟩
    walk_at "st"
    refine ⟨rfl, ?_⟩
    walk_at "st"
    have np : ¬ (("push" : Str) = "squeeze") := by decide +kernel
    refine iCN (fun z => ?_) (fun z => ?_)
    · rcases asq.is with ⟨_, e⟩ | ⟨r1, t1, pd1, rfl, rfl, tu1, le1⟩
      · exact absurd e z
      have nt1 : t1 ≠ p := fun e => nsq (by rw [e])
      walk_at "st"
      refine ⟨_, rfl, _, rfl, _, _, _, _, _, rfl, hp5, G.cP, G.nP _ (by decide +kernel), lT, d, _, rfl, DPut.k (k := Sum.inr "squeeze") hd5 ?_, ?_⟩
      · rw [ek]
        exact small1000 (Nat.le_trans (pushKv_len _) (by decide))
      have s7 : Sx p H3 (upd H5 d (.dK (putK kvs (Sum.inr "squeeze") (.ref t1)))) := s6.mut hd0
      refine k _ s7 ⟨ok, dx, FS, d, _, by rw [upd_ne npd]; exact hp5, lA, lT, lR, upd_same, ?_⟩
      have T1 : TurnAt K (upd H5 d (.dK (putK kvs (Sum.inr "squeeze") (.ref t1)))) t1 N r1 pd1 := tu1.sxi s7 hp nt1
      rcases apu.is with ⟨rfl, rfl⟩ | ⟨r2, t2, pd2, rfl, rfl, tu2, le2⟩
      · rw [ek]
        exact .cons ⟨rfl, t1, pd1, rfl, by rw [ek] at T1; exact T1, le1⟩ .nil
      · have nt2 : t2 ≠ p := fun e => npu (by rw [e])
        have e2 : putK kvs (Sum.inr ("squeeze" : Str) : Key) (V.ref t1) = ([(Sum.inr ("push" : Str), V.ref t2), (Sum.inr ("squeeze" : Str), V.ref t1)] : List (Key × V)) := by
          rw [ek, pushKv_ref]
          rw [putK_new _ (by rw [valV_neg (fun z => np (Sum.inr.inj z))]; rfl)]
          rfl
        rw [e2] at T1 s7 ⊢
        exact .cons ⟨rfl, t2, pd2, rfl, tu2.sxi s7 hp nt2, le2⟩ (.cons ⟨rfl, t1, pd1, rfl, T1, le1⟩ .nil)
    · subst z
      rcases asq.is with ⟨rfl, _⟩ | ⟨_, _, _, _, e, _⟩
      · rcases apu.is with ⟨rfl, rfl⟩ | ⟨r2, t2, pd2, rfl, rfl, tu2, le2⟩
        · rcases ok.shape with ⟨r, e⟩ | ⟨r, e⟩ | ⟨r1, r2, e⟩ <;> cases e
        · have nt2 : t2 ≠ p := fun e => npu (by rw [e])
          refine k _ s6 ⟨ok, dx, FS, d, _, hp5, lA, lT, lR, hd5, ?_⟩
          rw [ek]
          exact .cons ⟨rfl, t2, pd2, rfl, tu2.sxi s6 hp nt2, le2⟩ .nil
      · cases e
end
end Jaw

/-! ## W6 -/
set_option Elab.async false
set_option linter.all false
set_option maxRecDepth 100000
set_option maxHeartbeats 4000000
namespace Jaw
open PySem PySem.Spec PyProof.Rows L2
local macro_rules | `(tactic| walk_at "st") => `(tactic| ((try (set_option simprocs false in dsimp only)); (repeat (first
  | with_reducible refine g_seq ?_
  | with_reducible refine g_set ?_
  | with_reducible refine g_asg ?_
  | with_reducible refine g_drop ?_
  | with_reducible refine g_ret ?_
  | with_reducible refine g_retN ?_
  | with_reducible refine g_ifs ?_
  | with_reducible refine g_next ?_
  | with_reducible refine g_brk ?_
  | with_reducible refine g_cont ?_
  | (with_reducible refine g_var ?_; refine ⟨_, rfl, ?_⟩)
  | with_reducible refine g_c ?_
  | with_reducible refine g_op ?_
  | with_reducible refine g_un ?_
  | with_reducible refine g_rI0 ?_
  | with_reducible refine g_rU ?_
  | with_reducible refine g_nil ?_
  | with_reducible refine g_cons ?_
  | with_reducible refine g_cb ?_
  | with_reducible refine g_call ?_
  | with_reducible refine g_test ?_
  | with_reducible refine g_tB ?_
  | with_reducible refine g_bl ?_
  | with_reducible refine g_and ?_
  | with_reducible refine g_or ?_
  | with_reducible refine g_not ?_
  | with_reducible refine g_andV ?_
  | with_reducible refine g_orV ?_
  | with_reducible refine g_notV ?_
  | with_reducible refine g_ife ?_
  | with_reducible refine g_chain ?_
  | with_reducible refine g_par ?_
  | with_reducible refine g_tup ?_
  | with_reducible refine g_lst ?_
  | with_reducible refine g_fld ?_
  | with_reducible refine g_meth ?_
  | with_reducible refine g_sfld ?_
  | with_reducible refine g_prop ?_
  | with_reducible refine g_item ?_
  | with_reducible refine g_eqI ?_
  | with_reducible refine g_neI ?_
  | with_reducible refine g_for ?_
  | with_reducible refine g_lc ?_
  | with_reducible refine g_iE ?_
  | with_reducible refine g_iL ?_
  | with_reducible refine g_iT ?_
  | with_reducible refine g_iR1 ?_
  | with_reducible refine g_iR2 ?_
  | with_reducible refine g_iV ?_
  | with_reducible refine g_iK ?_
  | with_reducible refine g_yes ?_
  | with_reducible refine g_lstRg ?_
  | with_reducible refine g_tupRg ?_
  | with_reducible refine g_rg1 ?_
  | with_reducible refine g_gn ?_
  | with_reducible refine g_nt ?_
  | with_reducible refine g_nf ?_
  | with_reducible refine iteT ?_
  | with_reducible refine iteF ?_))))
section
variable {P : Program} {w : World} {K : PySem.W.Frag} {mg : Str → Option Value} {base : Heap}
def spIsDeed : Sp := fun vs H Q _ => ∃ (a : Addr) (x : Str) (i : Int), vs = [.ref a] ∧ H a = some (.tup [.str x, .int i]) ∧ (x = "push" ∨ x = "squeeze") ∧ Q (.bl true) H
theorem sc_isDeed : FnScope ["thing"] ["thing"] (defScope s_isDeed) := ⟨rfl, rfl, rfl, by decide +kernel, rfl, by decide +kernel, by decide +kernel⟩
theorem bd_isDeed : Bd ["thing"] "is_deed" s_isDeed := fun _ _ _ _ _ _ _ us hl => match us, hl with | [_], _ => rfl
theorem ok_isDeed (F : Fd K mg "is_deed" s_isDeed []) (G : Mod0 K mg) (c_isWord : C8.Cal P w K mg base 1 "is_word" spIsWord []) (c_isInt : C8.Cal P w K mg base 1 "is_integer" spIsInt []) : C8.Cal P w K mg base 2 "is_deed" spIsDeed [] := by
  refine cal_of F sc_isDeed bd_isDeed (fun vs H Q E h => ?_) fun f cdv A outer s H vs Q E hr h => ?_
  · obtain ⟨_, _, _, rfl, _⟩ := h; rfl
  · obtain ⟨a, x, i, rfl, ha, hx, k⟩ := h
    refine ⟨_, (pss_one (ps_ret (pe_and (pe_callB call_isi (by rfl) G.b_isinstance (by decide +kernel) (pa_cons (L2.pv 0) (pa_cons (pe_bltn (v := .ty "tuple") (by rfl) G.b_tuple (by decide +kernel) rfl) pa_nil))) (pe_and (pe_cmpR op_eq (pe_callB call_len_seq (by rfl) G.b_len (by decide +kernel) (pa_cons (L2.pv 0) pa_nil)) pe_int (nomark _)) (pe_and (C8.pe_c c_isWord hr (by decide) rfl (pa_cons (pe_ix ix_tup (L2.pv 0) pe_int (fun _ _ => rfl)) pa_nil)) (pe_one (C8.pe_c c_isInt hr (by decide) rfl (pa_cons (pe_ix ix_tup (L2.pv 0) pe_int (fun _ _ => rfl)) pa_nil)))))))), ?_⟩
    walk_at "st"
    refine isi_tt ha ?_
    walk_at "st"
    refine ⟨_, _, rfl, .inr (st ha), ?_⟩
    walk_at "st"
    refine iD rfl ?_
    walk_at "st"
    refine ⟨_, _, _, _, rfl, rfl, st ha, rfl, ?_⟩
    walk_at "st"
    refine ⟨x, rfl, hx, ?_⟩
    walk_at "st"
    refine ⟨_, _, _, _, rfl, rfl, st ha, rfl, ?_⟩
    walk_at "st"
    exact ⟨i, rfl, k⟩
def spPlInit (K : PySem.W.Frag) : Sp := fun vs H Q _ => ∃ p N a dx xs ds, vs = [.ref p, .int N, .ref a] ∧ H p = some (.ins (He.ga K "Plan") dx []) ∧ H a = some (.lst xs) ∧ DV H xs ds ∧ (∀ d ∈ ds, d.1 = "push" ∨ d.1 = "squeeze") ∧ ds.length ≤ 400 ∧ 2 ≤ N ∧ N ≤ 360 ∧
  ∀ H', Sx p H H' → PlanAt K H' p N (ds.map fun d => (d.1, d.2 % N)) → Q .non H'
theorem sc_plInit : FnScope ["self", "around", "deeds", "at", "deed", "word", "turn"] ["self", "around", "deeds"] (defScope s_plInit) := ⟨rfl, rfl, rfl, by decide +kernel, rfl, by decide +kernel, by decide +kernel⟩
theorem bd_plInit : Bd ["self", "around", "deeds"] "__init__" s_plInit := fun _ _ _ _ _ _ _ us hl => match us, hl with | [_, _, _], _ => rfl
theorem ok_plInit (F : Id K (He.ga K "Plan") "Plan.__init__" s_plInit []) (hm : mg "Plan" = some (.ref (He.ga K "Plan"))) (G : Mod0 K mg) (c_chkRound : C8.Cal P w K mg base 2 "check_round" spChkRound [])
    (c_isRow : C8.Cal P w K mg base 1 "is_row" spIsRow []) (c_isDeed : C8.Cal P w K mg base 2 "is_deed" spIsDeed []) : C8.Mak P w K mg base 3 "Plan" (He.ga K "Plan") (spPlInit K) [] := by
  refine mak_of F hm sc_plInit bd_plInit (fun vs H Q E h => ?_) fun f cdv A outer s H vs Q E hr h => ?_
  · obtain ⟨_, _, _, _, _, _, rfl, _⟩ := h; rfl
  · obtain ⟨p, N, a, dx, xs, ds, rfl, hp, ha, dv, hw, hl, h2, h3, k⟩ := h
    have l1 := dv.len
    have hN : 0 < N := by omega
    refine ⟨_, (pss_cons (ps_expr (C8.pe_c c_chkRound hr (by decide) rfl (pa_cons (L2.pv 1) pa_nil)))
      (pss_cons (ps_if (PW.pt (pw_or (pt_not (pt_val (C8.pe_c c_isRow hr (by decide) rfl (pa_cons (L2.pv 2) pa_nil)))) (pw_or1 (pt_cmpR op_gt (pe_callB call_len_seq (by rfl) G.b_len (by decide +kernel) (pa_cons (L2.pv 2) pa_nil)) (pe_gi rfl G.MOST_DEEDS) (nomark _))))) pss_never pss_nil)
      (pss_cons (ps_for PassesOwn.never rfl (pi_enum rfl G.b_enumerate (pa_cons (L2.pv 2) pa_nil)) (pg_tup rfl (pgs_cons (pg_name (i := 3) sc_plInit.nd rfl (Or.inl rfl)) (pgs_cons (pg_name (i := 4) sc_plInit.nd rfl (Or.inl rfl)) pgs_nil))) (pss_one (ps_if (pt_not (pt_val (C8.pe_c c_isDeed hr (by decide) rfl (pa_cons (L2.pv 4) pa_nil)))) pss_never pss_nil)))
      (pss_cons (ps_fld (L2.pv 0) (L2.pv 1) rfl)
      (pss_one (ps_fld (L2.pv 0) (pe_callTy call_tuple_of (by rfl) G.b_tuple (by decide +kernel) (pa_cons (pe_lc (own := [("word", 5), ("turn", 6)]) (g := (gTup K 2 (gCons (gName 5) (gCons (gName 6) gNil)))) (tt := tYes) rfl sc_plInit.nd (pi_list (L2.pv 2)) (blkOk_by (N := ["self", "around", "deeds", "at", "deed", "word", "turn"]) (sc := defScope s_plInit) (by decide +kernel)) (fun _ _ _ _ _ => (pg_tup rfl (pgs_cons (pg_name (i := 5) sc_plInit.nd rfl (Or.inl rfl)) (pgs_cons (pg_name (i := 6) sc_plInit.nd rfl (Or.inl rfl)) pgs_nil)))) (fun _ _ _ _ _ => pts_nil) (fun _ _ _ _ _ => (pe_tup (pa_cons (L2.pv 5) (pa_cons (pe_op op_mod (L2.pv 6) (L2.pv 1)) pa_nil))))) pa_nil)) rfl)))))), ?_⟩
    walk_at "st"
    refine ⟨N, rfl, h2, h3, ?_⟩
    walk_at "st"
    refine ⟨a, xs, rfl, ha, fun H1 s1 => ?_⟩
    walk_at "st"
    refine ⟨_, _, rfl, .inl (sq (s1 _ _ ha)), ?_⟩
    walk_at "st"
    refine iDn (by omega) ?_
    walk_at "st"
    refine ⟨_, _, rfl, sq (s1 _ _ ha), loopE (xs := xs) (fun i σ H' => ∃ o3 o4, σ = [some (.ref p), some (.int N), some (.ref a), o3, o4, none, none] ∧ Same H H') ?_ ?_ ?_ ?_⟩
    · exact ⟨_, _, rfl, s1⟩
    · rintro i σ H' ⟨o3, o4, rfl, s'⟩
      exact sq (s' _ _ ha)
    · rintro i x T σ H' e ⟨o3, o4, rfl, s'⟩ hT
      obtain ⟨d, t, e1, rfl, ht⟩ := dv.at1 e
      have s2 := s'.snew (o := .tup [.int (i : Nat), .ref t]) hT
      refine g_g2 (st upd_same) ?_
      walk_at "st"
      refine ⟨t, d.1, d.2, rfl, s2 _ _ ht, hw d (mem_of_at e1), ?_⟩
      walk_at "st"
      exact ⟨_, _, rfl, s2⟩
    · rintro σ H2 ⟨o3, o4, rfl, s2⟩
      walk_at "st"
      refine ⟨_, _, _, _, rfl, s2 _ _ hp, G.cL, G.nL _ (by decide +kernel), by decide, ?_⟩
      walk_at "st"
      have npa : a ≠ p := ne_of ha hp (by intro z; cases z)
      have s3 : Sx p H (upd H2 p (.ins (He.ga K "Plan") dx (putF "around" (.int N) []))) := (Sx.of s2).upd
      refine ⟨_, rfl, ⟨_, sq (s3 _ _ ha npa)⟩, fun Dd hD => lcL (xs := xs) (fun i H' => ∃ ys, Sx p H H' ∧ H' p = some (.ins (He.ga K "Plan") dx (putF "around" (.int N) [])) ∧ H' Dd = some (.lst ys) ∧ DV H' ys ((ds.map fun d => (d.1, d.2 % N)).take i)) ?_ ?_ ?_ ?_⟩
      · have n1 : p ≠ Dd := ne_of_none upd_same hD
        exact ⟨[], s3.put hD, by rw [upd_ne n1, upd_same], upd_same, DV.nil⟩
      · rintro i H' ⟨ys, s', _⟩
        exact sq (s' _ _ ha npa)
      · rintro i x H' e ⟨ys, s', hp', hd, dv'⟩
        obtain ⟨d, t, e1, rfl, ht⟩ := dv.at1 e
        have ntp : t ≠ p := ne_of ht hp (by intro z; cases z)
        refine lct_2 (st (s' _ _ ht ntp)) rfl ?_
        walk_at "st"
        refine g_rI hN ?_
        walk_at "st"
        refine ⟨g_small2, fun q hq => ?_⟩
        have lys : ys.length ≤ 400 := by
          have := dv'.len
          rw [List.length_take, List.length_map] at this
          omega
        have nq : Dd ≠ q := ne_of_none hd hq
        have npq : p ≠ q := ne_of_none hp' hq
        have npD : p ≠ Dd := ne_of hp' hd (by intro z; cases z)
        have hd0 : H Dd = none := by
          cases z : H Dd with
          | none => rfl
          | some o => have := s3 _ _ z npD.symm; rw [hD] at this; cases this
        refine ⟨ys, by rw [upd_ne nq]; exact hd, small1000 (by omega), ys ++ [.ref q], (s'.put hq).mut hd0, by rw [upd_ne npD, upd_ne npq]; exact hp', upd_same, ?_⟩
        rw [take_snoc (a := (d.1, d.2 % N)) (by rw [List.getElem?_map, e1]; rfl)]
        have pq : DV (upd H' q (.tup [.str d.1, .int (d.2 % N)])) ys ((ds.map fun d => (d.1, d.2 % N)).take i) := dv'.mono (Same.new hq)
        exact DV.upd_lst (pq.snoc (p := (d.1, d.2 % N)) upd_same) (by rw [upd_ne nq]; exact hd)
      · rintro H4 ⟨ys, s4, hp4, hd, dv'⟩
        rw [l1, ← List.length_map (f := fun d : Str × Int => (d.1, d.2 % N)), List.take_length] at dv'
        walk_at "st"
        refine ⟨_, _, rfl, .inl ⟨sq hd, fun l hl' => ?_⟩⟩
        walk_at "st"
        have npl : p ≠ l := ne_of_none hp4 hl'
        refine ⟨_, _, _, _, rfl, by rw [upd_ne npl]; exact hp4, G.cL, G.nL _ (by decide +kernel), pl1, ?_⟩
        walk_at "st"
        have s5 : Sx p (upd H4 l (.tup ys)) (upd (upd H4 l (.tup ys)) p (.ins (He.ga K "Plan") dx (putF "deeds" (.ref l) (putF "around" (.int N) [])))) := Sx.refl.upd
        refine k _ ((s4.put hl').trans s5) ⟨dx, _, l, ys, upd_same, ?_, lk_same, s5 _ _ upd_same npl.symm, (dv'.mono (Same.new hl')).sx s5 (by rw [upd_ne npl]; exact hp4)⟩
        rw [lk_put (by decide +kernel), lk_same]
theorem inV_words {x : Str} : ∀ {ws : Ws}, (ws.lookup x).isSome = true → inV (V.str x) (ws.map fun y => V.str y.1) = true
  | [], h => by cases h
  | (y, r) :: l, h => by
    by_cases q : x = y
    · subst q
      show (eqV (V.str x) (V.str x) || _) = true
      have : eqV (V.str x) (V.str x) = true := by show decide (x = x) = true; exact decide_eq_true rfl
      rw [this]; rfl
    · rw [List.lookup_cons, beq_eq_false_iff_ne.mpr q] at h
      show (_ || inV (V.str x) (l.map fun y => V.str y.1)) = true
      rw [inV_words h, Bool.or_true]
theorem flat_words (ws : Ws) : (ws.map fun y => V.str y.1).all flatV = true := by
  rw [List.all_map, List.all_eq_true]
  intro y _; rfl
def spChkPlan (K : PySem.W.Frag) : Sp := fun vs H Q _ => ∃ a b N ws ds, vs = [.ref a, .ref b] ∧ PartAt K H a N ws ∧ PlanAt K H b N ds ∧ (∀ d ∈ ds, (ws.lookup d.1).isSome = true) ∧ ∀ H', Same H H' → Q .non H'
theorem sc_chkPlan : FnScope ["part", "plan", "words", "word", "_"] ["part", "plan"] (defScope s_chkPlan) := ⟨rfl, rfl, rfl, by decide +kernel, rfl, by decide +kernel, by decide +kernel⟩
theorem bd_chkPlan : Bd ["part", "plan"] "check_plan" s_chkPlan := fun _ _ _ _ _ _ _ us hl => match us, hl with | [_, _], _ => rfl
theorem ok_chkPlan (F : Fd K mg "check_plan" s_chkPlan []) (G : Mod0 K mg) (c_pWords : Pro P w K mg base 1 (He.ga K "Part") "words" (spPWords K)) : C8.Cal P w K mg base 3 "check_plan" (spChkPlan K) [] := by
  refine cal_of F sc_chkPlan bd_chkPlan (fun vs H Q E h => ?_) fun f cdv A outer s H vs Q E hr h => ?_
  · obtain ⟨_, _, _, _, _, rfl, _⟩ := h; rfl
  · obtain ⟨a, b, N, ws, ds, rfl, pa, pl, hw, k⟩ := h
    obtain ⟨dx, fs, d, kvs, h1, h2, h3, h4, h5, h6⟩ := id pa.ex
    obtain ⟨dy, gs, t, xs, g1, g2, g3, g4, dv⟩ := id pl.ex
    refine ⟨_, (pss_cons (ps_if (pt_cmpR op_ne (pe_fld (L2.pv 1) rfl) (pe_fld (L2.pv 0) rfl) (nomark _)) pss_never pss_nil)
      (pss_cons (ps_set (i := 2) sc_chkPlan.nd rfl (Or.inl rfl) (pe_pr c_pWords hr (by decide) (L2.pv 0)))
      (pss_one (ps_for PassesOwn.never rfl (pi_tup (pe_fld (L2.pv 1) rfl)) (pg_tup rfl (pgs_cons (pg_name (i := 3) sc_chkPlan.nd rfl (Or.inl rfl)) (pgs_cons (pg_name (i := 4) sc_chkPlan.nd rfl (Or.inl rfl)) pgs_nil))) (pss_one (ps_if (pt_cmpR op_notIn_seq (L2.pv 3) (L2.pv 2) (by rfl)) pss_never pss_nil)))))), ?_⟩
    walk_at "st"
    refine ⟨_, _, _, _, _, rfl, g1, G.cL, G.nL _ (by decide +kernel), g2, ?_⟩
    walk_at "st"
    refine ⟨_, _, _, _, _, rfl, h1, G.cP, G.nP _ (by decide +kernel), h2, ?_⟩
    walk_at "st"
    refine iN rfl ?_
    walk_at "st"
    refine ⟨_, _, _, rfl, h1, _, _, _, rfl, pa, fun H1 l s1 hl => ?_⟩
    walk_at "st"
    refine ⟨_, _, _, _, _, rfl, s1 _ _ g1, G.cL, G.nL _ (by decide +kernel), g3, ?_⟩
    refine ⟨_, rfl, ⟨_, st (s1 _ _ g4)⟩, loopT (xs := xs) (fun i σ H' => ∃ o3 o4, σ = [some (.ref a), some (.ref b), some (.ref l), o3, o4] ∧ H' = H1) ?_ ?_ ?_ ?_⟩
    · exact ⟨_, _, rfl, rfl⟩
    · rintro i σ H' ⟨o3, o4, rfl, rfl⟩
      exact st (s1 _ _ g4)
    · rintro i x σ H' e ⟨o3, o4, rfl, rfl⟩
      obtain ⟨p, t, e1, rfl, ht⟩ := dv.at1 e
      refine g_g2 (st (s1 _ _ ht)) ?_
      walk_at "st"
      refine ⟨_, _, rfl, .inl (sq hl), rfl, flat_words ws, ?_⟩
      rw [inV_words (hw p (mem_of_at e1))]
      walk_at "st"
      refine ite2 (fun z => by cases z) fun _ => ?_
      exact ⟨_, _, rfl, rfl⟩
    · rintro σ H' ⟨o3, o4, rfl, rfl⟩
      exact k _ s1
def spMoved (K : PySem.W.Frag) : Sp := fun vs H Q _ => ∃ a l d N ws ns x t rows, vs = [.ref a, .ref l, .ref d] ∧ PartAt K H a N ws ∧ H l = some (.lst ((ns : List Int).map V.int)) ∧ H d = some (.tup [.str x, .int t]) ∧ ws.lookup x = some rows ∧ ns.length ≤ 60 ∧ N ≤ 60 ∧
  ∀ H' p (ms : List Int), Same H H' → H p = none → H' p = some (.lst (ms.map V.int)) → Asc ms (fun y => ∃ z ∈ ns, y = (lift N rows (z - t) + t) % N) → Q (.ref p) H'
theorem sc_moved : FnScope ["part", "standings", "deed", "word", "turn", "turning", "around", "x"] ["part", "standings", "deed"] (defScope s_moved) := ⟨rfl, rfl, rfl, by decide +kernel, rfl, by decide +kernel, by decide +kernel⟩
theorem bd_moved : Bd ["part", "standings", "deed"] "moved" s_moved := fun _ _ _ _ _ _ _ us hl => match us, hl with | [_, _, _], _ => rfl
theorem ok_moved (F : Fd K mg "moved" s_moved []) (G : Mod0 K mg) (c_pItem : Itm P w K mg base 2 (He.ga K "Part") (spPItem K)) (c_tLift : C8.Met P w K mg base 2 (He.ga K "Turning") "lifted" (spTLift K) []) : C8.Cal P w K mg base 4 "moved" (spMoved K) [] := by
  refine cal_of F sc_moved bd_moved (fun vs H Q E h => ?_) fun f cdv A outer s H vs Q E hr h => ?_
  · obtain ⟨_, _, _, _, _, _, _, _, _, rfl, _⟩ := h; rfl
  · obtain ⟨a, l, d, N, ws, ns, x, t, rows, rfl, pa, hl, hd, lk, hn, hN60, k⟩ := h
    obtain ⟨dx, fs, dd, kvs, h1, h2, h3, h4, h5, h6⟩ := id pa.ex
    have hv := pa.ok.val _ (lookup_mem lk)
    have hN : 0 < N := hv.1.pos
    have hu := hu_of hr
    refine ⟨_, (pss_cons (ps_asg (L2.pv 2) (pg_tup rfl (pgs_cons (pg_name (i := 3) sc_moved.nd rfl (Or.inl rfl)) (pgs_cons (pg_name (i := 4) sc_moved.nd rfl (Or.inr rfl)) pgs_nil))))
      (pss_cons (ps_asg (pe_tup (pa_cons (pe_im c_pItem hr (by decide) (L2.pv 0) (L2.pv 3)) (pa_cons (pe_fld (L2.pv 0) rfl) pa_nil))) (pg_tup rfl (pgs_cons (pg_name (i := 5) sc_moved.nd rfl (Or.inr rfl)) (pgs_cons (pg_name (i := 6) sc_moved.nd rfl (Or.inr rfl)) pgs_nil))))
      (pss_one (ps_ret (pe_callB (cr_sortedSet rfl) (by rfl) G.b_sorted (by decide +kernel) (pa_cons (pe_scI (own := [("x", 7)]) (g := (gName 7)) (tt := tYes) rfl sc_moved.nd (pi_list (L2.pv 1)) (blkOk_by (N := ["part", "standings", "deed", "word", "turn", "turning", "around", "x"]) (sc := defScope s_moved) (by decide +kernel)) (fun _ _ _ _ _ => (pg_name (i := 7) sc_moved.nd rfl (Or.inl rfl))) (fun _ _ _ _ _ => pts_nil) (fun _ _ _ _ _ => (pe_op op_mod (pe_op op_add (C8.pe_mt c_tLift hr (by decide) (L2.pv 5) (pa_cons (pe_op op_sub (L2.pv 7) (L2.pv 4)) pa_nil)) (L2.pv 4)) (L2.pv 6)))) pa_nil)))))), ?_⟩
    walk_at "st"
    refine g_g2 (st hd) ?_
    walk_at "st"
    refine ⟨_, _, _, rfl, h1, _, _, _, _, _, rfl, pa, lk, fun tt pd tu => ?_⟩
    walk_at "st"
    refine ⟨_, _, _, _, _, rfl, h1, G.cP, G.nP _ (by decide +kernel), h2, ?_⟩
    walk_at "st"
    refine ⟨g_small2, fun q hq => ?_⟩
    have s1 : Same H (upd H q (.tup [.ref tt, .int N])) := Same.new hq
    refine g_g2 (st upd_same) ?_
    walk_at "st"
    refine g_si ?_
    walk_at "st"
    refine ⟨_, rfl, ⟨_, sq (s1 _ _ hl)⟩, fun Dd hD => siL (xs := ns.map V.int) (fun i H' => ∃ (S : Int → Bool) (n : Nat) (es : List Int), Same H H' ∧ H' Dd = some (SetO w Dd S n) ∧ es.Nodup ∧ es.length = n ∧ (∀ y, S y = true ↔ y ∈ es) ∧ ∀ y, y ∈ es ↔ ∃ z ∈ ns.take i, y = (lift N rows (z - t) + t) % N) ?_ ?_ ?_ ?_⟩
    · exact ⟨_, 0, [], s1.snew hD, upd_same, List.nodup_nil, rfl, fun y => by simp, fun y => by simp⟩
    · rintro i H' ⟨S, n, es, s', _⟩
      exact sq (s' _ _ hl)
    · rintro i y H' e ⟨S, n, es, s', hS, nd, ln, mS, mE⟩
      rw [List.getElem?_map] at e
      cases e2 : ns[i]? with
      | none => rw [e2] at e; cases e
      | some z =>
        rw [e2] at e
        obtain rfl : V.int z = y := Option.some.inj e
        have tu' := tu.mono s'
        obtain ⟨tdx, tfs, _, _, t1, _, _, _, t5, _⟩ := id tu'.ex
        refine sct_n rfl ?_
        walk_at "st"
        refine ⟨_, _, _, rfl, t1, t5, ?_⟩
        walk_at "st"
        refine ⟨_, _, _, _, _, rfl, tu', hv.1, pa.ok.n360, fun H2 s2 => ?_⟩
        walk_at "st"
        refine g_rI hN ?_
        have nb : n ≤ N.toNat := by
          rw [← ln]
          refine len_le_range nd fun y hy => ?_
          obtain ⟨u, _, rfl⟩ := (mE y).mp hy
          have := (euc (lift N rows (u - t) + t) hN)
          omega
        refine ⟨_, S, n, rfl, s2 _ _ hS, by unfold scanBound; omega, ?_⟩
        have hD0 : H Dd = none := s1.free hD
        have tk : ∀ v, (∃ u ∈ ns.take (i + 1), v = (lift N rows (u - t) + t) % N) ↔ (∃ u ∈ ns.take i, v = (lift N rows (u - t) + t) % N) ∨ v = (lift N rows (z - t) + t) % N := fun v => by
          rw [take_snoc e2]
          constructor
          · rintro ⟨u, hu, rfl⟩
            rcases List.mem_append.mp hu with hu | hu
            · exact .inl ⟨u, hu, rfl⟩
            · exact .inr (by rw [List.mem_singleton.mp hu])
          · rintro (⟨u, hu, rfl⟩ | rfl)
            · exact ⟨u, List.mem_append_left _ hu, rfl⟩
            · exact ⟨z, List.mem_append_right _ (List.mem_singleton.mpr rfl), rfl⟩
        cases hk : S ((lift N rows (z - t) + t) % N) with
        | true =>
          have hin := (mS _).mp hk
          refine ⟨_, _, es, (s'.trans s2).sput hD0, upd_same, nd, ?_, fun v => ?_, fun v => ?_⟩
          · rw [if_pos rfl, ln]
          · rw [Bool.or_eq_true, decide_eq_true_eq, mS]
            exact ⟨fun q => q.elim id fun e => e ▸ hin, .inl⟩
          · rw [tk, mE]
            exact ⟨.inl, fun q => q.elim id fun e => (mE v).mp (e ▸ hin)⟩
        | false =>
          have hout : ¬ (lift N rows (z - t) + t) % N ∈ es := fun q => by rw [(mS _).mpr q] at hk; cases hk
          refine ⟨_, _, es ++ [(lift N rows (z - t) + t) % N], (s'.trans s2).sput hD0, upd_same, ?_, ?_, fun v => ?_, fun v => ?_⟩
          · rw [List.nodup_append]
            exact ⟨nd, by simp, fun y hy b hb e => hout (by rw [List.mem_singleton.mp hb] at e; rw [← e]; exact hy)⟩
          · rw [if_neg (by decide), List.length_append, ln]; rfl
          · rw [Bool.or_eq_true, decide_eq_true_eq, mS, List.mem_append, List.mem_singleton]
          · rw [tk, List.mem_append, List.mem_singleton, mE]
    · rintro H4 ⟨S, n, es, s4, hS, nd, ln, mS, mE⟩
      rw [List.length_map, List.take_length] at mE
      have nb : n ≤ N.toNat := by
        rw [← ln]
        refine len_le_range nd fun y hy => ?_
        obtain ⟨u, _, rfl⟩ := (mE y).mp hy
        have := (euc (lift N rows (u - t) + t) hN)
        omega
      walk_at "st"
      refine ⟨_, S, n, rfl, hS, by omega, fun ms p up mem _ hp => ?_⟩
      exact k _ _ ms (s4.snew hp) (fresh_of s4 hp) upd_same ⟨up, fun y => (mem y).trans ((mS y).trans (mE y))⟩
end
end Jaw

/-! ## W7 -/
set_option Elab.async false
set_option linter.all false
set_option maxRecDepth 100000
set_option maxHeartbeats 4000000
namespace Jaw
open PySem PySem.Spec PyProof.Rows L2
theorem g_bm {K : PySem.W.Frag} {ty : String} {r : V → List V → Hp → VK → Prop} {ta : TE} {ts : TA} {σ : L2.St} {H : Hp} {Q : VK} (h : ta σ H fun x H1 => tyV K ty x H1 ∧ ts σ H1 fun xs H2 => r x xs H2 Q) : tBM K ty r ta ts σ H Q := h
theorem g_lstRg {te : L2.St → Hp → (Int → Int → Hp → Prop) → Prop} {σ : L2.St} {H : Hp} {Q : VK} (h : te σ H fun a b H1 => RgOk a b ∧ ∀ q, H1 q = none → Q (.ref q) (upd H1 q (.lst (rgV a b)))) : tLstRg te σ H Q := h
theorem g_tupRg {te : L2.St → Hp → (Int → Int → Hp → Prop) → Prop} {σ : L2.St} {H : Hp} {Q : VK} (h : te σ H fun a b H1 => RgOk a b ∧ ∀ q, H1 q = none → Q (.ref q) (upd H1 q (.tup (rgV a b)))) : tTupRg te σ H Q := h
theorem g_rg1 {ta : TE} {σ : L2.St} {H : Hp} {Q : Int → Int → Hp → Prop} (h : ta σ H fun x H1 => ∃ n, x = .int n ∧ Q 0 n H1) : tRg1 ta σ H Q := h
local macro_rules | `(tactic| walk_at "st") => `(tactic| ((try (set_option simprocs false in dsimp only)); (repeat (first
  | with_reducible refine g_seq ?_
  | with_reducible refine g_set ?_
  | with_reducible refine g_asg ?_
  | with_reducible refine g_drop ?_
  | with_reducible refine g_ret ?_
  | with_reducible refine g_retN ?_
  | with_reducible refine g_ifs ?_
  | with_reducible refine g_next ?_
  | with_reducible refine g_brk ?_
  | with_reducible refine g_cont ?_
  | (with_reducible refine g_var ?_; refine ⟨_, rfl, ?_⟩)
  | with_reducible refine g_c ?_
  | with_reducible refine g_op ?_
  | with_reducible refine g_un ?_
  | with_reducible refine g_rI0 ?_
  | with_reducible refine g_rU ?_
  | with_reducible refine g_nil ?_
  | with_reducible refine g_cons ?_
  | with_reducible refine g_cb ?_
  | with_reducible refine g_call ?_
  | with_reducible refine g_test ?_
  | with_reducible refine g_tB ?_
  | with_reducible refine g_bl ?_
  | with_reducible refine g_and ?_
  | with_reducible refine g_or ?_
  | with_reducible refine g_not ?_
  | with_reducible refine g_andV ?_
  | with_reducible refine g_orV ?_
  | with_reducible refine g_notV ?_
  | with_reducible refine g_ife ?_
  | with_reducible refine g_chain ?_
  | with_reducible refine g_par ?_
  | with_reducible refine g_tup ?_
  | with_reducible refine g_lst ?_
  | with_reducible refine g_fld ?_
  | with_reducible refine g_meth ?_
  | with_reducible refine g_sfld ?_
  | with_reducible refine g_prop ?_
  | with_reducible refine g_item ?_
  | with_reducible refine g_eqI ?_
  | with_reducible refine g_neI ?_
  | with_reducible refine g_for ?_
  | with_reducible refine g_lc ?_
  | with_reducible refine g_iE ?_
  | with_reducible refine g_iL ?_
  | with_reducible refine g_iT ?_
  | with_reducible refine g_iR1 ?_
  | with_reducible refine g_iR2 ?_
  | with_reducible refine g_iV ?_
  | with_reducible refine g_iK ?_
  | with_reducible refine g_yes ?_
  | with_reducible refine g_bm ?_
  | with_reducible refine g_si ?_
  | with_reducible refine g_lstRg ?_
  | with_reducible refine g_tupRg ?_
  | with_reducible refine g_rg1 ?_
  | with_reducible refine g_gn ?_
  | with_reducible refine g_nt ?_
  | with_reducible refine g_nf ?_
  | with_reducible refine iteT ?_
  | with_reducible refine iteF ?_))))
section
variable {P : Program} {w : World} {K : PySem.W.Frag} {mg : Str → Option Value} {base : Heap}
theorem es_add {S : Int → Bool} {n : Nat} {es : List Int} {T T' : Int → Prop} (nd : es.Nodup) (ln : es.length = n) (mS : ∀ y, S y = true ↔ y ∈ es) (mE : ∀ y, y ∈ es ↔ T y) (k : Int) (tk : ∀ y, T' y ↔ T y ∨ y = k) :
    ∃ es' : List Int, es'.Nodup ∧ es'.length = (if S k = true then n else n + 1) ∧ (∀ y, (S y || decide (y = k)) = true ↔ y ∈ es') ∧ ∀ y, y ∈ es' ↔ T' y := by
  cases hk : S k with
  | true =>
    have hin := (mS _).mp hk
    refine ⟨es, nd, by rw [if_pos rfl, ln], fun v => ?_, fun v => ?_⟩
    · rw [Bool.or_eq_true, decide_eq_true_eq, mS]
      exact ⟨fun q => q.elim id fun e => e ▸ hin, .inl⟩
    · rw [tk, mE]
      exact ⟨.inl, fun q => q.elim id fun e => (mE v).mp (e ▸ hin)⟩
  | false =>
    have hout : ¬ k ∈ es := fun q => by rw [(mS _).mpr q] at hk; cases hk
    refine ⟨es ++ [k], ?_, ?_, fun v => ?_, fun v => ?_⟩
    · rw [List.nodup_append]
      exact ⟨nd, by simp, fun y hy b hb e => hout (by rw [List.mem_singleton.mp hb] at e; rw [← e]; exact hy)⟩
    · rw [if_neg (by decide), List.length_append, ln]; rfl
    · rw [Bool.or_eq_true, decide_eq_true_eq, mS, List.mem_append, List.mem_singleton]
    · rw [tk, List.mem_append, List.mem_singleton, mE]
theorem mem_rg {N : Int} {y : Int} (h0 : 0 ≤ N) : y ∈ (List.range N.toNat).map (fun i : Nat => (i : Int)) ↔ 0 ≤ y ∧ y < N := by
  rw [List.mem_map]
  constructor
  · rintro ⟨i, hi, rfl⟩
    rw [List.mem_range] at hi
    omega
  · rintro ⟨a, b⟩
    exact ⟨y.toNat, List.mem_range.mpr (by omega), by omega⟩
theorem rgV0 {N : Int} : rgV 0 N = ((List.range N.toNat).map (fun i : Nat => (i : Int))).map V.int := by
  unfold rgV
  rw [Int.sub_zero, List.map_map]
  refine List.map_congr_left fun i _ => ?_
  show V.int (0 + (i : Int)) = V.int (i : Int)
  rw [Int.zero_add]
theorem asc_rg (n : Nat) : ((List.range n).map (fun i : Nat => (i : Int))).Pairwise (· < ·) := by
  rw [List.pairwise_map]
  exact List.Pairwise.imp (fun h => by omega) List.pairwise_lt_range
theorem tk_take {α β : Type} {l : List α} {i : Nat} {a : α} (e : l[i]? = some a) (f : α → β) (v : β) : (∃ u ∈ l.take (i + 1), v = f u) ↔ (∃ u ∈ l.take i, v = f u) ∨ v = f a := by
  rw [take_snoc e]
  constructor
  · rintro ⟨u, hu, rfl⟩
    rcases List.mem_append.mp hu with hu | hu
    · exact .inl ⟨u, hu, rfl⟩
    · exact .inr (by rw [List.mem_singleton.mp hu])
  · rintro (⟨u, hu, rfl⟩ | rfl)
    · exact ⟨u, List.mem_append_left _ hu, rfl⟩
    · exact ⟨a, List.mem_append_right _ (List.mem_singleton.mpr rfl), rfl⟩
/-- all that is left is one standing -/
def One (N : Int) (ws : Ws) (p : Int) (ds : List (Str × Int)) : Prop := ∃ u0, ∀ x, Es N (FW N ws) ds x → x % p = u0
theorem one_start {N p : Int} {ws : Ws} (hN : 0 < N) (hp : PerOf N (maps N ws) p) (h : One N ws p []) : p = 1 := by
  obtain ⟨u0, h⟩ := h
  have h0 := h 0 (by show full N 0; unfold full; omega)
  have hp0 := hp.pos
  have hpN := hp.le hN
  by_cases q : p = 1
  · exact q
  · have h1 := h 1 (by show full N 1; unfold full; omega)
    rw [Int.emod_eq_of_lt (by omega) (by omega)] at h0 h1
    omega
theorem one_len {es : List Int} {u0 : Int} (nd : es.Nodup) (ne : ∃ x, x ∈ es) (h : ∀ x ∈ es, x = u0) : es.length = 1 := by
  match es, nd, ne, h with
  | [], _, ⟨_, z⟩, _ => cases z
  | [_], _, _, _ => rfl
  | a :: b :: l, nd, _, h =>
    have e1 := h a (List.mem_cons_self ..)
    have e2 := h b (List.mem_cons_of_mem _ (List.mem_cons_self ..))
    rw [List.nodup_cons] at nd
    exact absurd (by rw [e1, ← e2]; exact List.mem_cons_self ..) nd.1
def spCounts (K : PySem.W.Frag) : Sp := fun vs H Q _ => ∃ a b N ws ds p, vs = [.ref a, .ref b] ∧ PartAt K H a N ws ∧ PlanAt K H b N ds ∧ (∀ d ∈ ds, (ws.lookup d.1).isSome = true) ∧ ds.length ≤ 60 ∧ N ≤ 60 ∧ PerOf N (maps N ws) p ∧
  ∀ H' l xs (n : Int), Same H H' → H' l = some (.lst (xs ++ [.int n])) → (xs ++ [V.int n]).length ≤ 61 → (One N ws p ds → n = 1) → Q (.ref l) H'
theorem sc_counts : FnScope ["part", "plan", "period", "left", "found", "deed", "x"] ["part", "plan"] (defScope s_counts) := ⟨rfl, rfl, rfl, by decide +kernel, rfl, by decide +kernel, by decide +kernel⟩
theorem bd_counts : Bd ["part", "plan"] "counts" s_counts := fun _ _ _ _ _ _ _ us hl => match us, hl with | [_, _], _ => rfl
theorem ok_counts (F : Fd K mg "counts" s_counts []) (G : Mod0 K mg) (c_chkPlan : C8.Cal P w K mg base 3 "check_plan" (spChkPlan K) []) (c_pPer : Pro P w K mg base 3 (He.ga K "Part") "period" (spPPer K)) (c_moved : C8.Cal P w K mg base 4 "moved" (spMoved K) []) :
    C8.Cal P w K mg base 5 "counts" (spCounts K) [] := by
  refine cal_of F sc_counts bd_counts (fun vs H Q E h => ?_) fun f cdv A outer s H vs Q E hr h => ?_
  · obtain ⟨_, _, _, _, _, _, rfl, _⟩ := h; rfl
  · obtain ⟨a, b, N, ws, ds, p, rfl, pa, pl, hw, hl, hN60, hp, k⟩ := h
    obtain ⟨dx, fs, d, kvs, h1, h2, h3, h4, h5, h6⟩ := id pa.ex
    obtain ⟨dy, gs, t, xs, g1, g2, g3, g4, dv⟩ := id pl.ex
    have hN : 0 < N := by have := pa.ok.n2; omega
    have hpN := hp.le hN
    have hp0 := hp.pos
    have l1 := dv.len
    refine ⟨_, (pss_cons (ps_expr (C8.pe_c c_chkPlan hr (by decide) rfl (pa_cons (L2.pv 0) (pa_cons (L2.pv 1) pa_nil))))
      (pss_cons (ps_set (i := 2) sc_counts.nd rfl (Or.inr rfl) (pe_pr c_pPer hr (by decide) (L2.pv 0)))
      (pss_cons (ps_set (i := 3) sc_counts.nd rfl (Or.inl rfl) (pe_listRg rfl rfl G.b_list (prg_1 rfl G.b_range (pe_fld (L2.pv 0) rfl))))
      (pss_cons (ps_set (i := 4) sc_counts.nd rfl (Or.inl rfl) (pe_lst (pa_cons (L2.pv 2) pa_nil)))
      (pss_cons (ps_for PassesOwn.never rfl (pi_tup (pe_fld (L2.pv 1) rfl)) (pg_name (i := 5) sc_counts.nd rfl (Or.inl rfl)) (pss_cons (ps_set (i := 3) sc_counts.nd rfl (Or.inl rfl) (C8.pe_c c_moved hr (by decide) rfl (pa_cons (L2.pv 0) (pa_cons (L2.pv 3) (pa_cons (L2.pv 5) pa_nil)))))
      (pss_one (ps_expr (pe_bm PySem.F.plainAttrs_list PySem.F.slot_list_append PySem.F.type_list_append mt_append (L2.pv 4) (pa_cons (pe_callB cr_lenS (by rfl) G.b_len (by decide +kernel) (pa_cons (pe_scI (own := [("x", 6)]) (g := (gName 6)) (tt := tYes) rfl sc_counts.nd (pi_list (L2.pv 3)) (blkOk_by (N := ["part", "plan", "period", "left", "found", "deed", "x"]) (sc := defScope s_counts) (by decide +kernel)) (fun _ _ _ _ _ => (pg_name (i := 6) sc_counts.nd rfl (Or.inl rfl))) (fun _ _ _ _ _ => pts_nil) (fun _ _ _ _ _ => (pe_op op_mod (L2.pv 6) (L2.pv 2)))) pa_nil)) pa_nil))))))
      (pss_one (ps_ret (L2.pv 4)))))))), ?_⟩
    walk_at "st"
    refine ⟨_, _, _, _, _, rfl, pa, pl, hw, fun H1 s1 => ?_⟩
    walk_at "st"
    refine ⟨_, _, _, rfl, s1 _ _ h1, _, _, _, rfl, pa.mono s1, fun p' hp' => ?_⟩
    rw [hp'.uniq hp]
    walk_at "st"
    refine ⟨_, _, _, _, _, rfl, s1 _ _ h1, G.cP, G.nP _ (by decide +kernel), h2, N, rfl, RgOk.of_le (by decide) (by omega) (by decide) (by omega), fun la hla => ?_⟩
    have s2 := s1.snew (o := .lst (rgV 0 N)) hla
    walk_at "st"
    refine ⟨g_small1, fun fl hfl => ?_⟩
    have s3 := s2.snew (o := .lst [.int p]) hfl
    have hlf : la ≠ fl := ne_of_none upd_same hfl
    walk_at "st"
    refine ⟨_, _, _, _, _, rfl, s3 _ _ g1, G.cL, G.nL _ (by decide +kernel), g3, ?_⟩
    refine ⟨_, rfl, ⟨_, st (s3 _ _ g4)⟩, loopT (xs := xs) (fun i σ H' => ∃ (lf : Addr) (o5 : Option V) (ms : List Int) (zs : List V) (n : Int), σ = [some (.ref a), some (.ref b), some (.int p), some (.ref lf), some (.ref fl), o5, none] ∧ Same H H' ∧
      H' lf = some (.lst (ms.map V.int)) ∧ lf ≠ fl ∧ Asc ms (Es N (FW N ws) (ds.take i)) ∧ H' fl = some (.lst (zs ++ [.int n])) ∧ zs.length = i ∧ (One N ws p (ds.take i) → n = 1)) ?_ ?_ ?_ ?_⟩
    · refine ⟨la, none, (List.range N.toNat).map (fun i : Nat => (i : Int)), [], p, rfl, s3, ?_, hlf, ⟨asc_rg _, fun y => mem_rg (by omega)⟩, upd_same, rfl, fun q => one_start hN hp q⟩
      rw [upd_ne hlf, upd_same, rgV0]
    · rintro i σ H' ⟨lf, o5, ms, zs, n, rfl, s', _⟩
      exact st (s' _ _ g4)
    · rintro i x σ H' e ⟨lf, o5, ms, zs, n, rfl, s', hlf, nlf, asc, hfl', lz, one⟩
      obtain ⟨dd, tt, e1, rfl, ht⟩ := dv.at1 e
      have hi : i < ds.length := (List.getElem?_eq_some_iff.mp e1).1
      obtain ⟨rows, lk⟩ := Option.isSome_iff_exists.mp (hw dd (mem_of_at e1))
      have pa' := pa.mono s'
      have hrg : ∀ y ∈ ms, 0 ≤ y ∧ y < N := fun y hy => Es_rng hN _ _ y ((asc.mem y).mp hy)
      have hms : ms.length ≤ 60 := by
        have := len_le_range (n := N.toNat) (asc.up.imp fun h => Int.ne_of_lt h) fun y hy => by
          have := hrg y hy
          omega
        omega
      walk_at "st"
      refine ⟨a, lf, tt, N, ws, ms, dd.1, dd.2, rows, rfl, pa', hlf, s' _ _ ht, lk, hms, hN60, fun H2 lg gs' s2' flg hlg asc2 => ?_⟩
      have asc3 : Asc gs' (Es N (FW N ws) (ds.take (i + 1))) := by
        rw [take_snoc e1, Es_snoc]
        refine asc2.congr fun y => ?_
        unfold stepE
        rw [FW_at lk]
        constructor
        · rintro ⟨z, hz, rfl⟩
          exact ⟨z, (asc.mem z).mp hz, rfl⟩
        · rintro ⟨z, hz, rfl⟩
          exact ⟨z, (asc.mem z).mpr hz, rfl⟩
      have sH2 := s'.trans s2'
      have nlg : lg ≠ fl := (ne_of_none hfl' flg).symm
      have lgs : gs'.length ≤ 60 := by
        have := len_le_range (n := N.toNat) (asc3.up.imp fun h => Int.ne_of_lt h) fun y hy => by
          have := Es_rng hN _ _ y ((asc3.mem y).mp hy)
          omega
        omega
      walk_at "st"
      refine ⟨.inl ⟨rfl, _, sq (s2' _ _ hfl')⟩, ?_⟩
      walk_at "st"
      refine ⟨_, rfl, ⟨_, sq hlg⟩, fun Dd hD => siL (xs := gs'.map V.int) (fun i' H' => ∃ (S : Int → Bool) (n : Nat) (es : List Int), Same H2 H' ∧ H' Dd = some (SetO w Dd S n) ∧ es.Nodup ∧ es.length = n ∧ (∀ y, S y = true ↔ y ∈ es) ∧ ∀ y, y ∈ es ↔ ∃ z ∈ gs'.take i', y = z % p) ?_ ?_ ?_ ?_⟩
      · exact ⟨_, 0, [], Same.new hD, upd_same, List.nodup_nil, rfl, fun y => by simp, fun y => by simp⟩
      · rintro i' H' ⟨S, n, es, s'', _⟩
        exact sq (s'' _ _ hlg)
      · rintro i' y H' e' ⟨S, m, es, s'', hS, nd, ln, mS, mE⟩
        rw [List.getElem?_map] at e'
        cases e2 : gs'[i']? with
        | none => rw [e2] at e'; cases e'
        | some z =>
          rw [e2] at e'
          obtain rfl : V.int z = y := Option.some.inj e'
          have hi' : i' < gs'.length := (List.getElem?_eq_some_iff.mp e2).1
          refine sct_n rfl ?_
          walk_at "st"
          refine g_rI hp0 ?_
          have nb : m ≤ p.toNat := by
            rw [← ln]
            refine len_le_range nd fun y hy => ?_
            obtain ⟨u, _, rfl⟩ := (mE y).mp hy
            have := (euc u hp0)
            omega
          obtain ⟨es', nd', ln', mS', mE'⟩ := es_add nd ln mS mE (z % p) (tk_take e2 (fun u => u % p))
          have hD0 : H2 Dd = none := hD
          exact ⟨_, S, m, rfl, hS, by unfold scanBound; omega, _, _, es', s''.sput hD0, upd_same, nd', ln', mS', mE'⟩
      · rintro H4 ⟨S, m, es, s4, hS, nd, ln, mS, mE⟩
        rw [List.length_map, List.take_length] at mE
        walk_at "st"
        refine ⟨_, S, m, rfl, hS, fun es' nd' mS' ln' => ?_⟩
        have hfl4 := s4 _ _ (s2' _ _ hfl')
        refine ⟨fl, _, _, rfl, rfl, hfl4, small1000 (by rw [List.length_append]; show zs.length + 1 ≤ 1000; omega), ?_⟩
        have hfl0 : H fl = none := s2.free hfl
        refine ⟨lg, some (.ref tt), gs', zs ++ [.int n], m, rfl, (sH2.trans s4).sput hfl0, ?_, nlg, asc3, upd_same, by rw [List.length_append, lz]; rfl, fun ⟨u0, h0⟩ => ?_⟩
        · rw [upd_ne nlg]
          exact s4 _ _ hlg
        · have e1 : es.length = 1 := by
            refine one_len (u0 := u0) nd ?_ fun x hx => ?_
            · obtain ⟨x, hx⟩ := Es_ne hN (FW N ws) (ds.take (i + 1))
              exact ⟨x % p, (mE _).mpr ⟨x, (asc3.mem x).mpr hx, rfl⟩⟩
            · obtain ⟨u, hu, rfl⟩ := (mE x).mp hx
              exact h0 u ((asc3.mem u).mp hu)
          rw [← ln, e1]; rfl
    · rintro σ H' ⟨lf, o5, ms, zs, n, rfl, s', hlf, nlf, asc, hfl', lz, one⟩
      walk_at "st"
      rw [l1, List.take_length] at one
      refine k _ _ _ _ s' hfl' ?_ one
      rw [List.length_append, lz, l1]
      show ds.length + 1 ≤ 61
      omega
def spDoes (K : PySem.W.Frag) : Sp := fun vs H Q _ => ∃ a b N ws ds p, vs = [.ref a, .ref b] ∧ PartAt K H a N ws ∧ PlanAt K H b N ds ∧ (∀ d ∈ ds, (ws.lookup d.1).isSome = true) ∧ ds.length ≤ 60 ∧ N ≤ 60 ∧ PerOf N (maps N ws) p ∧
  One N ws p ds ∧ ∀ H', Same H H' → Q (.bl true) H'
theorem sc_does : FnScope ["part", "plan"] ["part", "plan"] (defScope s_does) := ⟨rfl, rfl, rfl, by decide +kernel, rfl, by decide +kernel, by decide +kernel⟩
theorem bd_does : Bd ["part", "plan"] "does" s_does := fun _ _ _ _ _ _ _ us hl => match us, hl with | [_, _], _ => rfl
theorem ok_does (F : Fd K mg "does" s_does []) (G : Mod0 K mg) (c_counts : C8.Cal P w K mg base 5 "counts" (spCounts K) []) :
    C8.Cal P w K mg base 6 "does" (spDoes K) [] := by
  refine cal_of F sc_does bd_does (fun vs H Q E h => ?_) fun f cdv A outer s H vs Q E hr h => ?_
  · obtain ⟨_, _, _, _, _, _, rfl, _⟩ := h; rfl
  · obtain ⟨a, b, N, ws, ds, p, rfl, pa, pl, hw, hl, hN60, hp, one, k⟩ := h
    refine ⟨_, (pss_one (ps_ret (pe_cmpR op_eq (pe_ix ix_list (C8.pe_c c_counts hr (by decide) rfl (pa_cons (L2.pv 0) (pa_cons (L2.pv 1) pa_nil))) (pe_un un_neg pe_int) (fun _ _ => rfl)) pe_int (nomark _)))), ?_⟩
    walk_at "st"
    refine ⟨_, _, _, _, _, _, rfl, pa, pl, hw, hl, hN60, hp, fun H1 l xs n s1 hl1 hlen h1 => ?_⟩
    rw [h1 one] at hl1 hlen
    walk_at "st"
    refine ⟨_, _, _, _, rfl, rfl, sq hl1, atI_last _ _, ?_⟩
    walk_at "st"
    exact k _ s1
end
end Jaw

/-! ## M5 -/
set_option linter.all false
namespace Jaw
theorem lift_near {N : Int} {rows : List Row} (v : Valid N rows) (x : Int) : x - N < lift N rows x ∧ lift N rows x < x + N := by
  have hN := v.pos
  obtain ⟨B, p, l, g⟩ := lift_gr v x
  have p1 := p.shift 1
  have h1 := p.le v
  have h2 : lift N rows x < B + 1 * N := p.apart v p1 (by omega)
  have h3 : x < B + 1 * N := by
    refine Int.not_le.mp fun z => ?_
    have := g _ _ p1 z
    omega
  omega
section
variable {N p : Int} {F : Int → Int}
def spots (p : Int) (F : Int → Int) : List Int := ((List.range p.toNat).map (fun i : Nat => (i : Int))).filter (fun y => decide (F y = y))
theorem asc_spots (hp : 0 < p) : Asc (spots p F) (fun y => 0 ≤ y ∧ y < p ∧ F y = y) := by
  unfold spots
  refine ⟨List.Pairwise.filter _ ?_, fun y => ?_⟩
  · rw [List.pairwise_map]
    exact List.Pairwise.imp (fun h => by omega) List.pairwise_lt_range
  · rw [List.mem_filter, List.mem_map, decide_eq_true_eq]
    constructor
    · rintro ⟨⟨i, hi, rfl⟩, e⟩
      rw [List.mem_range] at hi
      exact ⟨by omega, by omega, e⟩
    · rintro ⟨a, b, c⟩
      exact ⟨⟨y.toNat, List.mem_range.mpr (by omega), by omega⟩, c⟩
theorem fix_mod (c : Com F p) {y : Int} (h : F y = y) : F (y % p) = y % p := by
  have e : y % p = y + -(y / p) * p := by
    have := Int.mul_ediv_add_emod y p
    rw [Int.neg_mul, Int.mul_comm (y / p)]
    omega
  rw [e, c.mul, h]
theorem spots_ne (P : Proj N F) (c : Com F p) (hp : 0 < p) : 0 < (spots p F).length := by
  refine List.length_pos_of_mem (a := F 0 % p) (((asc_spots hp).mem _).mpr ?_)
  have := euc (F 0) hp
  exact ⟨this.2.1, this.2.2, fix_mod c (P.idem 0)⟩
theorem spots_len (hp : 0 < p) : (spots p F).length ≤ p.toNat := by
  refine len_le_range ((asc_spots (F := F) hp).up.imp fun h => Int.ne_of_lt h) fun y hy => ?_
  have := ((asc_spots hp).mem y).mp hy
  omega
/-- a word's rests, one by one, whatever the lap -/
def nth (p : Int) (F : Int → Int) (k : Int) : Int := (spots p F).getD (k % (spots p F).length).toNat 0 + k / (spots p F).length * p
variable (P : Proj N F) (c : Com F p) (hp : 0 < p)
include P c hp
theorem at_spot (k : Int) : ∃ y, (spots p F)[(k % (spots p F).length).toNat]? = some y ∧ (spots p F).getD (k % (spots p F).length).toNat 0 = y ∧ 0 ≤ y ∧ y < p ∧ F y = y := by
  have hm := spots_ne P c hp
  have e := euc k (N := ((spots p F).length : Int)) (by omega)
  have lt : (k % (spots p F).length).toNat < (spots p F).length := by omega
  refine ⟨(spots p F)[(k % (spots p F).length).toNat], List.getElem?_eq_getElem lt, ?_, ((asc_spots hp).mem _).mp (List.getElem_mem lt)⟩
  rw [List.getD_eq_getElem?_getD, List.getElem?_eq_getElem lt]; rfl
theorem nth_fix (k : Int) : F (nth p F k) = nth p F k := by
  obtain ⟨y, _, e, _, _, h⟩ := at_spot P c hp k
  unfold nth
  rw [c.mul, e, h]
theorem nth_lap (k j : Int) : nth p F (k + j * (spots p F).length) = nth p F k + j * p := by
  have hm := spots_ne P c hp
  unfold nth
  rw [Int.add_mul_emod_self_right, Int.add_mul_ediv_right _ _ (by omega), Int.add_mul, Int.add_assoc]
theorem nth_small {i : Nat} {y : Int} (h : (spots p F)[i]? = some y) : nth p F i = y := by
  have lt : i < (spots p F).length := (List.getElem?_eq_some_iff.mp h).1
  unfold nth
  rw [Int.emod_eq_of_lt (by omega) (by omega), Int.ediv_eq_zero_of_lt (by omega) (by omega), Int.toNat_natCast, List.getD_eq_getElem?_getD, h]
  simp
theorem nth_mod (k : Int) : nth p F (k % (spots p F).length) % p = nth p F k % p := by
  have hm := spots_ne P c hp
  have e := euc k (N := ((spots p F).length : Int)) (by omega)
  have : nth p F k = nth p F (k % (spots p F).length) + (k / (spots p F).length) * p := by
    rw [← nth_lap P c hp]
    congr 1
    omega
  rw [this, Int.add_mul_emod_self_right]
theorem nth_onto {y : Int} (h : F y = y) : ∃ k, nth p F k = y := by
  have hy := euc y hp
  have hm : y % p ∈ spots p F := ((asc_spots hp).mem _).mpr ⟨hy.2.1, hy.2.2, fix_mod c h⟩
  obtain ⟨i, hi⟩ := List.mem_iff_getElem?.mp hm
  refine ⟨(i : Int) + y / p * (spots p F).length, ?_⟩
  rw [nth_lap P c hp, nth_small P c hp hi]
  omega
theorem nth_lt {k k' : Int} (h : k < k') : nth p F k < nth p F k' := by
  have hm := spots_ne P c hp
  have e1 := euc k (N := ((spots p F).length : Int)) (by omega)
  have e2 := euc k' (N := ((spots p F).length : Int)) (by omega)
  obtain ⟨y, hy, ey, y0, y1, _⟩ := at_spot P c hp k
  obtain ⟨z, hz, ez, z0, z1, _⟩ := at_spot P c hp k'
  unfold nth
  rw [ey, ez]
  rcases Int.lt_trichotomy (k / (spots p F).length) (k' / (spots p F).length) with l | l | l
  · have := mul_lt_of hp l
    omega
  · rw [l] at e1 ⊢
    have lt : (k % (spots p F).length).toNat < (k' % (spots p F).length).toNat := by omega
    have hp' := List.pairwise_iff_getElem.mp (asc_spots (F := F) hp).up
    obtain ⟨l1, g1⟩ := List.getElem?_eq_some_iff.mp hy
    obtain ⟨l2, g2⟩ := List.getElem?_eq_some_iff.mp hz
    have := hp' _ _ l1 l2 lt
    rw [g1, g2] at this
    omega
  · have := mul_lt_of (N := ((spots p F).length : Int)) (by omega) l
    omega
theorem nth_le {k k' : Int} : k ≤ k' ↔ nth p F k ≤ nth p F k' := by
  rcases Int.lt_trichotomy k k' with l | l | l
  · have := nth_lt P c hp l
    exact ⟨fun _ => by omega, fun _ => by omega⟩
  · subst l; exact ⟨fun _ => Int.le_refl _, fun _ => Int.le_refl _⟩
  · have := nth_lt P c hp l
    exact ⟨fun _ => by omega, fun _ => by omega⟩
/-- what F makes of a stretch -/
theorem stretch {lo hi a b : Int} (ha : nth p F a = F lo) (hb : nth p F b = F hi) (hl : lo ≤ hi) (y : Int) : (∃ x, lo ≤ x ∧ x ≤ hi ∧ F x = y) ↔ ∃ k, a ≤ k ∧ k ≤ b ∧ nth p F k = y := by
  constructor
  · rintro ⟨x, l1, l2, rfl⟩
    obtain ⟨k, hk⟩ := nth_onto P c hp (P.idem x)
    refine ⟨k, (nth_le P c hp).mpr ?_, (nth_le P c hp).mpr ?_, hk⟩
    · rw [ha, hk]; exact P.mono _ _ l1
    · rw [hb, hk]; exact P.mono _ _ l2
  · rintro ⟨k, l1, l2, rfl⟩
    have l1 := (nth_le P c hp).mp l1
    have l2 := (nth_le P c hp).mp l2
    rw [ha] at l1
    rw [hb] at l2
    have fx := nth_fix P c hp k
    by_cases q1 : nth p F k < lo
    · refine ⟨lo, Int.le_refl _, hl, ?_⟩
      have := P.mono _ _ (Int.le_of_lt q1)
      rw [fx] at this
      omega
    · by_cases q2 : hi < nth p F k
      · refine ⟨hi, hl, Int.le_refl _, ?_⟩
        have := P.mono _ _ (Int.le_of_lt q2)
        rw [fx] at this
        omega
      · exact ⟨nth p F k, by omega, by omega, fx⟩
end
/-! ### the sets, by indices -/
def atI' (p : Int) (F : Int → Int) (t : Int) (L : Int → Prop) : Int → Prop := fun v => ∃ i, L i ∧ v = (nth p F i + t) % p
section
variable {N p : Int} {F G : Int → Int}
theorem mod_of {p a b q : Int} (hp : 0 < p) (h : a = b + q * p) : a % p = b % p := emod_shift hp q h
theorem first_set {Wd : Type} (P : Proj N F) (c : Com F p) (hp : 0 < p) {e t : Int} (he : 0 ≤ e) {Fs : Wd → Int → Int} {x : Wd} (hx : Fs x = F) (v : Int) :
    stepT p e Fs (full p) (x, t) v ↔ atI' p F t (fun i => 0 ≤ i ∧ i < (spots p F).length) v := by
  unfold stepT atI' full
  show (∃ u, (0 ≤ u ∧ u < p) ∧ ∃ z, -e ≤ z ∧ z ≤ e ∧ v = (Fs x (u + z - t) + t) % p) ↔ _
  rw [hx]
  have hm := spots_ne P c hp
  constructor
  · rintro ⟨u, _, z, _, _, rfl⟩
    obtain ⟨k, hk⟩ := nth_onto P c hp (P.idem (u + z - t))
    have e1 := euc k (N := ((spots p F).length : Int)) (by omega)
    refine ⟨k % (spots p F).length, ⟨e1.2.1, e1.2.2⟩, ?_⟩
    rw [← hk, Int.add_emod, ← nth_mod P c hp k, ← Int.add_emod]
  · rintro ⟨i, hi, rfl⟩
    have e2 := euc (nth p F i + t) hp
    refine ⟨(nth p F i + t) % p, ⟨e2.2.1, e2.2.2⟩, 0, by omega, he, ?_⟩
    have e3 : (nth p F i + t) % p + 0 - t = nth p F i + -((nth p F i + t) / p) * p := by
      rw [Int.neg_mul]; omega
    rw [e3, c.mul, nth_fix P c hp i]
    have e4 : nth p F i + -((nth p F i + t) / p) * p + t = (nth p F i + t) + -((nth p F i + t) / p) * p := by omega
    rw [e4, Int.add_mul_emod_self_right]
theorem next_set {Wd : Type} (PG : Proj N G) (cG : Com G p) (PF : Proj N F) (cF : Com F p) (hp : 0 < p) (hd : p ∣ N) {e t t' : Int} (he : 0 ≤ e) {Fs : Wd → Int → Int} {x : Wd} (hx : Fs x = F) {L : Int → Prop} (v : Int) :
    stepT p e Fs (atI' p G t L) (x, t') v ↔ atI' p F t' (fun j => ∃ i, L i ∧ ∃ k, F (nth p G i - (t' - t) % N - e) ≤ nth p F k ∧ nth p F k ≤ F (nth p G i - (t' - t) % N + e) ∧ j = k % (spots p F).length) v := by
  have hm := spots_ne PF cF hp
  obtain ⟨r, hr⟩ := hd
  have hstep : (t' - t) % N = (t' - t) + -((t' - t) / N * r) * p := by
    have := Int.mul_ediv_add_emod (t' - t) N
    have e2 : N * ((t' - t) / N) = (t' - t) / N * r * p := by
      rw [hr, Int.mul_comm, Int.mul_comm p r, ← Int.mul_assoc]
    rw [Int.neg_mul]
    omega
  generalize hq : -((t' - t) / N * r) = q at hstep
  unfold stepT
  show (∃ u, atI' p G t L u ∧ ∃ z, -e ≤ z ∧ z ≤ e ∧ v = (Fs x (u + z - t') + t') % p) ↔ _
  rw [hx]
  unfold atI'
  -- of one index
  have one : ∀ i z, (F ((nth p G i + t) % p + z - t') + t') % p = (F (nth p G i - (t' - t) % N + z) + t') % p := fun i z => by
    have e3 := euc (nth p G i + t) hp
    have e4 : (nth p G i + t) % p + z - t' = (nth p G i - (t' - t) % N + z) + (q - (nth p G i + t) / p) * p := by
      rw [hstep, Int.sub_mul]
      omega
    rw [e4, cF.mul]
    exact mod_of hp (q := q - (nth p G i + t) / p) (by omega)
  have jm : ∀ k, (nth p F (k % (spots p F).length) + t') % p = (nth p F k + t') % p := fun k => by
    rw [Int.add_emod, nth_mod PF cF hp k, ← Int.add_emod]
  constructor
  · rintro ⟨u, ⟨i, hi, rfl⟩, z, z1, z2, rfl⟩
    rw [one]
    obtain ⟨k, hk⟩ := nth_onto PF cF hp (PF.idem (nth p G i - (t' - t) % N + z))
    refine ⟨k % (spots p F).length, ⟨i, hi, k, ?_, ?_, rfl⟩, by rw [jm, hk]⟩
    · rw [hk]; exact PF.mono _ _ (by omega)
    · rw [hk]; exact PF.mono _ _ (by omega)
  · rintro ⟨j, ⟨i, hi, k, k1, k2, rfl⟩, rfl⟩
    obtain ⟨a, ha⟩ := nth_onto PF cF hp (PF.idem (nth p G i - (t' - t) % N - e))
    obtain ⟨b, hb⟩ := nth_onto PF cF hp (PF.idem (nth p G i - (t' - t) % N + e))
    rw [← ha] at k1
    rw [← hb] at k2
    obtain ⟨y, y1, y2, y3⟩ := (stretch PF cF hp ha hb (by omega) (nth p F k)).mpr ⟨k, (nth_le PF cF hp).mpr k1, (nth_le PF cF hp).mpr k2, rfl⟩
    refine ⟨_, ⟨i, hi, rfl⟩, y - (nth p G i - (t' - t) % N), by omega, by omega, ?_⟩
    rw [one, jm, ← y3]
    congr 3
    omega
end
end Jaw

/-! ## W8 -/
set_option Elab.async false
set_option linter.all false
set_option maxRecDepth 100000
set_option maxHeartbeats 4000000
namespace Jaw
open PySem PySem.Spec PyProof.Rows L2
/-! ### dict comprehensions over enumerate -/
def DcT (g : TG) (tt : TT) (tk tv : TE) (vs : List Nat) (σ : L2.St) (Dd : Addr) (x : V) (H : Hp) (N : Hp → Prop) : Prop := g x (wipe σ vs) H fun σ2 H2 => wipe σ2 vs = wipe σ vs ∧ tt σ2 H2 fun b H3 =>
  if b = true then tk σ2 H3 fun y H4 => tv σ2 H4 fun z H5 => ∃ kvs k, y = kV k ∧ H5 Dd = some (.dK kvs) ∧ kvs.length < sizeLine ∧ N (upd H5 Dd (.dK (putK kvs k z))) else N H3
def DcW (J : It) (g : TG) (tt : TT) (tk tv : TE) (vs : List Nat) (σ : L2.St) (Dd : Addr) (H1 : Hp) (Q : VK) : Prop := ∃ W : Nat → Nat → Hp → Prop, (∃ m, W 0 m (upd H1 Dd (.dK []))) ∧ ∀ i m H, W i m H →
  (J.stop i H ∧ Q (.ref Dd) H) ∨ (J.go i H ∧ ∃ Nx : Hp → Prop, (∀ H', Nx H' → ∃ m', m' < m ∧ W (i + 1) m' H') ∧ ∀ x H', J.yld i H x H' → DcT g tt tk tv vs σ Dd x H' Nx)
section
variable {σ : L2.St} {H : Hp} {Q : VK} {g : TG} {wi : TI} {tk tv : TE} {tt : TT} {K : PySem.W.Frag} {vs : List Nat} {a : Addr} {xs : List V} {J : It} {Dd : Addr}
theorem g_dc (h : wi σ H fun J H1 => ∀ Dd, H1 Dd = none → DcW J g tt tk tv vs σ Dd H1 Q) : tDc wi g tt tk tv vs σ H Q := h
theorem dcE (Pv : Nat → Hp → Prop) (h0 : Pv 0 (upd H Dd (.dK []))) (hG : ∀ i H, Pv i H → SqL K H a xs)
    (ht : ∀ i x T H, xs[i]? = some x → Pv i H → H T = none → DcT g tt tk tv vs σ Dd (.ref T) (upd H T (.tup [.int (i : Nat), x])) (Pv (i + 1))) (hd : ∀ H, Pv xs.length H → Q (.ref Dd) H) : DcW (Ite K a) g tt tk tv vs σ Dd H Q := by
  have wk := walk_enum (K := K) (a := a) (xs := xs)
  refine ⟨fun i m H => m = xs.length - i ∧ i ≤ xs.length ∧ Pv i H, ⟨_, rfl, Nat.zero_le _, h0⟩, ?_⟩
  rintro i m H ⟨rfl, hi, p⟩
  rcases Nat.lt_or_eq_of_le hi with lt | rfl
  · refine .inr ⟨wk.goes i H lt (hG i H p), Pv (i + 1), fun H' p' => ⟨_, by omega, rfl, lt, p'⟩, fun x H' y => ?_⟩
    obtain ⟨T, u, v, rfl, hT, rfl, e1, e2⟩ := wk.yields i H x H' lt (hG i H p) y
    cases e1
    exact ht i v T H e2 p hT
  · exact .inl ⟨wk.stops H (hG _ H p), hd H p⟩
theorem dct_2 {i j : Nat} {t : Addr} {x y : V} {N : Hp → Prop} (ht : SqT K H t [x, y]) (hw : wipe (((wipe σ vs).set i (some x)).set j (some y)) vs = wipe σ vs) (h : tt (((wipe σ vs).set i (some x)).set j (some y)) H fun b H3 =>
    if b = true then tk (((wipe σ vs).set i (some x)).set j (some y)) H3 fun y' H4 => tv (((wipe σ vs).set i (some x)).set j (some y)) H4 fun z H5 => ∃ kvs k, y' = kV k ∧ H5 Dd = some (.dK kvs) ∧ kvs.length < sizeLine ∧ N (upd H5 Dd (.dK (putK kvs k z))) else N H3) :
    DcT (gTup K 2 (gCons (gName i) (gCons (gName j) gNil))) tt tk tv vs σ Dd (.ref t) H N :=
  ⟨t, [x, y], rfl, ht, rfl, x, [y], rfl, y, [], rfl, rfl, hw, h⟩
theorem g_dnK (h : ∀ p, H p = none → Q (.ref p) (upd H p (.dK []))) : tDNewK σ H Q := h
theorem g_dnT (h : ∀ p, H p = none → Q (.ref p) (upd H p (.dT []))) : tDNewT σ H Q := h
theorem g_dget {td ty : TE} (h : td σ H fun x H1 => ty σ H1 fun y H2 => ∃ a v, x = .ref a ∧ DGet H2 a y (some v) ∧ Q v H2) : tDGet td ty σ H Q := h
theorem g_dput {td ty tv : TE} {D : Ends} (h : tv σ H fun v H1 => td σ H1 fun x H2 => ty σ H2 fun y H3 => ∃ a H4, x = .ref a ∧ DPut H3 a y v H4 ∧ D.nx σ H4) : sDPut td ty tv D σ H := h
theorem g_din {td ty : TE} (h : ty σ H fun y H1 => td σ H1 fun x H2 => ∃ a o, x = .ref a ∧ DGet H2 a y o ∧ Q (.bl o.isSome) H2) : tDIn ty td σ H Q := h
theorem g_dnin {td ty : TE} (h : ty σ H fun y H1 => td σ H1 fun x H2 => ∃ a o, x = .ref a ∧ DGet H2 a y o ∧ Q (.bl (!o.isSome)) H2) : tDNotIn ty td σ H Q := h
end
local macro_rules | `(tactic| walk_at "st") => `(tactic| ((try (set_option simprocs false in dsimp only)); (repeat (first
  | with_reducible refine g_seq ?_
  | with_reducible refine g_set ?_
  | with_reducible refine g_asg ?_
  | with_reducible refine g_drop ?_
  | with_reducible refine g_ret ?_
  | with_reducible refine g_retN ?_
  | with_reducible refine g_ifs ?_
  | with_reducible refine g_next ?_
  | with_reducible refine g_brk ?_
  | with_reducible refine g_cont ?_
  | (with_reducible refine g_var ?_; refine ⟨_, rfl, ?_⟩)
  | with_reducible refine g_c ?_
  | with_reducible refine g_op ?_
  | with_reducible refine g_un ?_
  | with_reducible refine g_rI0 ?_
  | with_reducible refine g_rU ?_
  | with_reducible refine g_nil ?_
  | with_reducible refine g_cons ?_
  | with_reducible refine g_cb ?_
  | with_reducible refine g_call ?_
  | with_reducible refine g_test ?_
  | with_reducible refine g_tB ?_
  | with_reducible refine g_bl ?_
  | with_reducible refine g_and ?_
  | with_reducible refine g_or ?_
  | with_reducible refine g_not ?_
  | with_reducible refine g_andV ?_
  | with_reducible refine g_orV ?_
  | with_reducible refine g_notV ?_
  | with_reducible refine g_ife ?_
  | with_reducible refine g_chain ?_
  | with_reducible refine g_par ?_
  | with_reducible refine g_tup ?_
  | with_reducible refine g_lst ?_
  | with_reducible refine g_fld ?_
  | with_reducible refine g_meth ?_
  | with_reducible refine g_sfld ?_
  | with_reducible refine g_prop ?_
  | with_reducible refine g_item ?_
  | with_reducible refine g_eqI ?_
  | with_reducible refine g_neI ?_
  | with_reducible refine g_for ?_
  | with_reducible refine g_lc ?_
  | with_reducible refine g_iE ?_
  | with_reducible refine g_iL ?_
  | with_reducible refine g_iT ?_
  | with_reducible refine g_iR1 ?_
  | with_reducible refine g_iR2 ?_
  | with_reducible refine g_iV ?_
  | with_reducible refine g_iK ?_
  | with_reducible refine g_yes ?_
  | with_reducible refine g_dc ?_
  | with_reducible refine g_dnK ?_
  | with_reducible refine g_dnT ?_
  | with_reducible refine g_dget ?_
  | with_reducible refine g_dput ?_
  | with_reducible refine g_din ?_
  | with_reducible refine g_dnin ?_
  | with_reducible refine g_bm ?_
  | with_reducible refine g_si ?_
  | with_reducible refine g_lstRg ?_
  | with_reducible refine g_tupRg ?_
  | with_reducible refine g_rg1 ?_
  | with_reducible refine g_gn ?_
  | with_reducible refine g_nt ?_
  | with_reducible refine g_nf ?_
  | with_reducible refine iteT ?_
  | with_reducible refine iteF ?_))))
section
variable {P : Program} {w : World} {K : PySem.W.Frag} {mg : Str → Option Value} {base : Heap}
theorem Sx.free {p q : Addr} {H H1 : Hp} (s : Sx p H H1) (h : H1 q = none) (n : q ≠ p) : H q = none := by
  cases z : H q with
  | none => rfl
  | some o => have := s _ _ z n; rw [h] at this; cases this
theorem PartAt.sx0 {H H' : Hp} {a p C dx : Addr} {N : Int} {ws : Ws} (h : PartAt K H a N ws) (s : Sx p H H') (hp : H p = some (.ins C dx [])) : PartAt K H' a N ws := by
  obtain ⟨dx', fs, d, kvs, h1, h2, h3, h4, h5, h6⟩ := h.ex
  have ne1 : ∀ {b C' d' fs'} {f : Str} {v}, H b = some (.ins C' d' fs') → List.lookup f fs' = some v → b ≠ p := fun {b C' d' fs' f v} e l z => by
    subst z
    rw [hp] at e
    cases e
    cases l
  refine ⟨h.ok, dx', fs, d, kvs, s _ _ h1 (ne1 h1 h2), h2, h3, h4, s _ _ h5 (ne_of h5 hp (by intro z; cases z)), Paired.mapQ h6 fun _ _ ⟨x, t, pd, b, c, e⟩ => ⟨x, t, pd, b, ?_, e⟩⟩
  obtain ⟨_, _, _, _, t1, t2, _⟩ := id c.ex
  exact c.sxi s hp (ne1 t1 t2)
/-- a word's rests as the board keeps them -/
def Spot (H : Hp) (p : Int) (ds dl : Addr) (ks ls : List (Key × V)) (x : Str) (F : Int → Int) : Prop := ∃ l sd kv, valV ks (Sum.inr x : Key) = some (.ref l) ∧ H l = some (.lst ((spots p F).map V.int)) ∧ valV ls (Sum.inr x : Key) = some (.ref sd) ∧ H sd = some (.dK kv) ∧ sd ≠ ds ∧ sd ≠ dl ∧
  ∀ (i : Nat) y, (spots p F)[i]? = some y → valV kv (Sum.inl y : Key) = some (.int (i : Nat))
def Cache (N p : Int) (ws : Ws) (fk : List (List Key × V)) : Prop := (fk.map (·.1)).Nodup ∧ (∀ k ∈ fk.map (·.1), ∃ (x : Str) (y : Int), k = [Sum.inr x, Sum.inl y] ∧ (x = "push" ∨ x = "squeeze") ∧ 0 ≤ y ∧ y < p) ∧
  ∀ x rows y z, ws.lookup x = some rows → valV fk [Sum.inr x, Sum.inl y] = some z → ∃ c : Int, z = .int c ∧ nth p (lift N rows) c = lift N rows y
structure BoardAt (K : PySem.W.Frag) (H : Hp) (b : Addr) (a : Addr) (N : Int) (ws : Ws) (p : Int) (df : Addr) : Prop where
  part : PartAt K H a N ws
  per : PerOf N (maps N ws) p
  ex : ∃ dx fs ds dl ks ls fk, H b = some (.ins (He.ga K "Board") dx fs) ∧ fs.lookup ("source" : Str) = some (.ref a) ∧ fs.lookup ("span" : Str) = some (.int p) ∧ fs.lookup ("spots" : Str) = some (.ref ds) ∧ fs.lookup ("slots" : Str) = some (.ref dl) ∧
    fs.lookup ("found" : Str) = some (.ref df) ∧ fs.lookup ("carried" : Str) = none ∧ H ds = some (.dK ks) ∧ H dl = some (.dK ls) ∧ H df = some (.dT fk) ∧ Cache N p ws fk ∧ ∀ x rows, ws.lookup x = some rows → Spot H p ds dl ks ls x (lift N rows)
def spBInit (K : PySem.W.Frag) : Sp := fun vs H Q _ => ∃ b dx a N ws p, vs = [.ref b, .ref a] ∧ H b = some (.ins (He.ga K "Board") dx []) ∧ PartAt K H a N ws ∧ PerOf N (maps N ws) p ∧ N ≤ 60 ∧ ∀ H' df, Sx b H H' → H df = none → BoardAt K H' b a N ws p df → Q .non H'
theorem sc_bInit : FnScope ["self", "part", "word", "at", "spot"] ["self", "part"] (defScope s_bInit) := ⟨rfl, rfl, rfl, by decide +kernel, rfl, by decide +kernel, by decide +kernel⟩
theorem bd_bInit : Bd ["self", "part"] "__init__" s_bInit := fun _ _ _ _ _ _ _ us hl => match us, hl with | [_, _], _ => rfl
theorem ok_bInit (F : Id K (He.ga K "Board") "Board.__init__" s_bInit []) (hm : mg "Board" = some (.ref (He.ga K "Board"))) (G : Mod0 K mg) (c_pPer : Pro P w K mg base 3 (He.ga K "Part") "period" (spPPer K)) (c_pWords : Pro P w K mg base 1 (He.ga K "Part") "words" (spPWords K))
    (c_pRests : C8.Met P w K mg base 5 (He.ga K "Part") "rests" (spPRests K) []) : C8.Mak P w K mg base 6 "Board" (He.ga K "Board") (spBInit K) [] := by
  refine mak_of F hm sc_bInit bd_bInit (fun vs H Q E h => ?_) fun f cdv A outer s H vs Q E hr h => ?_
  · obtain ⟨_, _, _, _, _, _, rfl, _⟩ := h; rfl
  · obtain ⟨b, dx, a, N, ws, p, rfl, hb, pa, hp, hN60, k⟩ := h
    have hN : 0 < N := by have := pa.ok.n2; omega
    have hu := hu_of hr
    refine ⟨_, (pss_cons (ps_fld (L2.pv 0) (L2.pv 1) rfl)
      (pss_cons (ps_fld (L2.pv 0) (pe_pr c_pPer hr (by decide) (L2.pv 1)) rfl)
      (pss_cons (ps_fld (L2.pv 0) pe_dnewK rfl)
      (pss_cons (ps_fld (L2.pv 0) pe_dnewK rfl)
      (pss_cons (ps_for PassesOwn.never rfl (pi_list (pe_pr c_pWords hr (by decide) (L2.pv 1))) (pg_name (i := 2) sc_bInit.nd rfl (Or.inl rfl)) (pss_cons (ps_dput hu (pe_fld (L2.pv 0) rfl) (L2.pv 2) (C8.pe_mt c_pRests hr (by decide) (L2.pv 1) (pa_cons (L2.pv 2) pa_nil)) rfl)
      (pss_one (ps_dput hu (pe_fld (L2.pv 0) rfl) (L2.pv 2) (pe_dc (own := [("at", 3), ("spot", 4)]) (g := (gTup K 2 (gCons (gName 3) (gCons (gName 4) gNil)))) (tt := tYes) rfl sc_bInit.nd (pi_enum rfl G.b_enumerate (pa_cons (pe_dget hu (pe_fld (L2.pv 0) rfl) (L2.pv 2) (fun _ _ => rfl)) pa_nil)) (blkOk_by (N := ["self", "part", "word", "at", "spot"]) (sc := defScope s_bInit) (by decide +kernel)) (fun _ _ _ _ _ => (pg_tup rfl (pgs_cons (pg_name (i := 3) sc_bInit.nd rfl (Or.inl rfl)) (pgs_cons (pg_name (i := 4) sc_bInit.nd rfl (Or.inl rfl)) pgs_nil)))) (fun _ _ _ _ _ => pts_nil) (fun _ _ _ _ _ => (L2.pv 4)) (fun _ _ _ _ _ => (L2.pv 3))) rfl))))
      (pss_one (ps_fld (L2.pv 0) pe_dnewT rfl))))))), ?_⟩
    walk_at "st"
    refine ⟨_, _, _, _, rfl, hb, G.cB, G.nB _ (by decide +kernel), by decide, ?_⟩
    have s1 : Sx b H (upd H b (.ins (He.ga K "Board") dx (putF "source" (.ref a) []))) := Sx.refl.upd
    have pa1 := pa.sx0 s1 hb
    obtain ⟨dx1, fs1, d1, kvs1, p1, p2, p3, p4, p5, p6⟩ := id pa1.ex
    have nab : a ≠ b := fun z => by
      subst z
      obtain ⟨_, _, _, _, q1, q2, _⟩ := id pa.ex
      rw [hb] at q1
      have e := (HO.ins.inj (Option.some.inj q1)).2.2
      rw [← e] at q2
      cases q2
    walk_at "st"
    refine ⟨_, _, _, rfl, p1, _, _, _, rfl, pa1, fun p' hp' => ?_⟩
    rw [hp'.uniq hp]
    walk_at "st"
    refine ⟨_, _, _, _, rfl, upd_same, G.cB, G.nB _ (by decide +kernel), pl1, ?_⟩
    rw [upd_upd]
    walk_at "st"
    intro ds hds
    have nds : b ≠ ds := ne_of_none upd_same hds
    walk_at "st"
    refine ⟨_, _, _, _, rfl, by rw [upd_ne nds]; exact upd_same, G.cB, G.nB _ (by decide +kernel), pl2, ?_⟩
    walk_at "st"
    intro dl hdl
    have ndl : b ≠ dl := ne_of_none upd_same hdl
    walk_at "st"
    refine ⟨_, _, _, _, rfl, by rw [upd_ne ndl]; exact upd_same, G.cB, G.nB _ (by decide +kernel), pl3, ?_⟩
    generalize eF : putF ("slots" : Str) (.ref dl) (putF "spots" (.ref ds) (putF "span" (.int p) (putF "source" (.ref a) []))) = FS
    have fl : FS.length < 1000 := by rw [← eF]; exact pl4
    have f1 : FS.lookup ("source" : Str) = some (.ref a) := by rw [← eF, lk_put (by decide +kernel), lk_put (by decide +kernel), lk_put (by decide +kernel), lk_same]
    have f2 : FS.lookup ("span" : Str) = some (.int p) := by rw [← eF, lk_put (by decide +kernel), lk_put (by decide +kernel), lk_same]
    have f3 : FS.lookup ("spots" : Str) = some (.ref ds) := by rw [← eF, lk_put (by decide +kernel), lk_same]
    have f4 : FS.lookup ("slots" : Str) = some (.ref dl) := by rw [← eF, lk_same]
    have f5 : FS.lookup ("carried" : Str) = none := by rw [← eF, lk_put (by decide +kernel), lk_put (by decide +kernel), lk_put (by decide +kernel), lk_put (by decide +kernel)]; rfl
    have hds0 : H ds = none := s1.free (by rw [upd_ne nds.symm] at hds ⊢; exact hds) nds.symm
    have n12 : dl ≠ ds := fun z => by
      subst z
      rw [upd_ne ndl.symm, upd_same] at hdl
      cases hdl
    have hdl0 : H dl = none := by
      rw [upd_ne ndl.symm, upd_ne n12, upd_ne ndl.symm] at hdl
      exact hdl
    generalize eH : upd (upd (upd (upd (upd H b (.ins (He.ga K "Board") dx (putF "span" (.int p) (putF "source" (.ref a) [])))) ds (.dK [])) b (.ins (He.ga K "Board") dx (putF "spots" (.ref ds) (putF "span" (.int p) (putF "source" (.ref a) []))))) dl (.dK [])) b (.ins (He.ga K "Board") dx FS) = H3
    have s3 : Sx b H H3 := by
      rw [← eH]
      exact ((((Sx.refl.upd).mut hds0).upd).mut hdl0).upd
    have b3 : H3 b = some (.ins (He.ga K "Board") dx FS) := by rw [← eH, upd_same]
    have d3 : H3 ds = some (.dK []) := by rw [← eH, upd_ne nds.symm, upd_ne n12.symm, upd_ne nds.symm, upd_same]
    have l3 : H3 dl = some (.dK []) := by rw [← eH, upd_ne ndl.symm, upd_same]
    have pa3 := pa.sx0 s3 hb
    walk_at "st"
    obtain ⟨dx3, fs3, d3', kvs3, q1, q2, q3, q4, q5, q6⟩ := id pa3.ex
    refine ⟨_, _, _, rfl, q1, _, _, _, rfl, pa3, fun H4 lw s4 hlw => ?_⟩
    have b4 := s4 _ _ b3
    have d4 := s4 _ _ d3
    have l4 := s4 _ _ l3
    have sx4 := s3.same s4
    have nlb : lw ≠ b := ne_of hlw b4 (by intro z; cases z)
    have nlds : lw ≠ ds := ne_of hlw d4 (by intro z; cases z)
    have nldl : lw ≠ dl := ne_of hlw l4 (by intro z; cases z)
    have wl : ws.length ≤ 2 := by
      rcases pa.ok.shape with ⟨r, rfl⟩ | ⟨r, rfl⟩ | ⟨r1, r2, rfl⟩
      · exact Nat.le_succ _
      · exact Nat.le_succ _
      · exact Nat.le_refl _
    refine ⟨_, rfl, ⟨_, sq hlw⟩, loopL (xs := ws.map fun x => V.str x.1) (fun i σ H' => ∃ (o2 : Option V) (ks ls : List (Key × V)), σ = [some (.ref b), some (.ref a), o2, none, none] ∧ Sx b H H' ∧ H' b = some (.ins (He.ga K "Board") dx FS) ∧
      H' lw = some (.lst (ws.map fun x => V.str x.1)) ∧ H' ds = some (.dK ks) ∧ H' dl = some (.dK ls) ∧ ks.length ≤ i ∧ ls.length ≤ i ∧ ∀ x rows, ws.lookup x = some rows → x ∈ (ws.take i).map (·.1) → Spot H' p ds dl ks ls x (lift N rows)) ?_ ?_ ?_ ?_⟩
    · exact ⟨none, [], [], rfl, sx4, b4, hlw, d4, l4, Nat.le_refl _, Nat.le_refl _, fun x rows _ hx => by cases hx⟩
    · rintro i σ H' ⟨o2, ks, ls, rfl, s', _, hlw', _⟩
      exact sq hlw'
    · rintro i x σ H' e ⟨o2, ks, ls, rfl, s', hb', hlw', hds', hdl', k1, k2, sp⟩
      rw [List.getElem?_map] at e
      cases e2 : ws[i]? with
      | none => rw [e2] at e; cases e
      | some xr =>
      rw [e2] at e
      obtain rfl : V.str xr.1 = x := Option.some.inj e
      have hi : i < ws.length := (List.getElem?_eq_some_iff.mp e2).1
      have sm : (ws.lookup xr.1).isSome = true := by
        cases z : ws.lookup xr.1 with
        | some r => rfl
        | none =>
          rw [List.lookup_eq_none_iff] at z
          have := z xr (mem_of_at e2)
          simp at this
      obtain ⟨rows, lk⟩ := Option.isSome_iff_exists.mp sm
      have hv := pa.ok.val _ (lookup_mem lk)
      have PF := lift_proj hv.1
      have pa' := pa.sx0 s' hb
      obtain ⟨dx5, fs5, d5, kvs5, r1, r2, r3, r4, r5, r6⟩ := id pa'.ex
      walk_at "st"
      refine ⟨_, _, _, rfl, r1, r4, ?_⟩
      walk_at "st"
      refine ⟨_, _, _, _, _, rfl, pa', lk, fun H5 l p' ns s5 hp' hl asc => ?_⟩
      obtain rfl := hp'.uniq hp
      obtain rfl : ns = spots p' (lift N rows) := asc.uniq (asc_spots hp'.pos)
      have s6 := s'.same s5
      have b5 := s5 _ _ hb'
      have d5 := s5 _ _ hds'
      have l5 := s5 _ _ hdl'
      walk_at "st"
      refine ⟨_, _, _, _, _, rfl, b5, G.cB, G.nB _ (by decide +kernel), f3, ?_⟩
      walk_at "st"
      refine ⟨ds, _, rfl, DPut.k (k := Sum.inr xr.1) d5 (small1000 (by omega)), ?_⟩
      have s7 := s6.mut (o := .dK (putK ks (Sum.inr xr.1) (.ref l))) hds0
      have nbd : b ≠ ds := nds
      have b7 : upd H5 ds (.dK (putK ks (Sum.inr xr.1) (.ref l))) b = _ := (upd_ne nbd).trans b5
      have nl : l ≠ ds := ne_of hl d5 (by intro z; cases z)
      walk_at "st"
      refine ⟨_, _, _, _, _, rfl, b7, G.cB, G.nB _ (by decide +kernel), f3, ?_⟩
      walk_at "st"
      refine ⟨ds, .ref l, rfl, ?_, l, _, rfl, sq ((upd_ne nl).trans hl), fun Dd hD => ?_⟩
      · have := DGet.k (H := upd H5 ds (.dK (putK ks (Sum.inr xr.1) (.ref l)))) (a := ds) (k := Sum.inr xr.1) upd_same
        rw [valV_put, if_pos rfl] at this
        exact this
      have hl7 : upd H5 ds (.dK (putK ks (Sum.inr xr.1) (.ref l))) l = _ := (upd_ne nl).trans hl
      have l7 : upd H5 ds (.dK (putK ks (Sum.inr xr.1) (.ref l))) dl = _ := (upd_ne n12).trans l5
      have d7 : upd H5 ds (.dK (putK ks (Sum.inr xr.1) (.ref l))) ds = _ := upd_same
      have w7 : upd H5 ds (.dK (putK ks (Sum.inr xr.1) (.ref l))) lw = _ := (upd_ne nlds).trans (s5 _ _ hlw')
      have sp7 : ∀ x rows', ws.lookup x = some rows' → x ∈ (ws.take (i + 1)).map (·.1) → x ≠ xr.1 → Spot (upd H5 ds (.dK (putK ks (Sum.inr xr.1) (.ref l)))) p' ds dl (putK ks (Sum.inr xr.1) (.ref l)) ls x (lift N rows') := fun x rows' lk' hx nx => by
        have hx' : x ∈ (ws.take i).map (·.1) := by
          rw [take_snoc e2, List.map_append, List.mem_append] at hx
          rcases hx with hx | hx
          · exact hx
          · exact absurd (List.mem_singleton.mp hx) nx
        obtain ⟨l', sd, kv, a1, a2, a3, a4, a5, a6, a7⟩ := sp x rows' lk' hx'
        refine ⟨l', sd, kv, ?_, ?_, a3, ?_, a5, a6, a7⟩
        · rw [valV_put, if_neg (fun z => nx (Sum.inr.inj z))]; exact a1
        · rw [upd_ne (ne_of (s5 _ _ a2) d5 (by intro z; cases z))]; exact s5 _ _ a2
        · rw [upd_ne a5]; exact s5 _ _ a4
      clear sp
      generalize upd H5 ds (.dK (putK ks (Sum.inr xr.1) (.ref l))) = H7 at s7 b7 hl7 l7 d7 w7 sp7 hD ⊢
      have asp := asc_spots (F := lift N rows) hp'.pos
      have lsp := spots_len (F := lift N rows) hp'.pos
      have lpN := hp'.le hN
      refine dcE (xs := (spots p' (lift N rows)).map V.int) (fun j H' => ∃ kv, Same H7 H' ∧ H' Dd = some (.dK kv) ∧ kv.length ≤ j ∧ ∀ (i : Nat) y, i < j → (spots p' (lift N rows))[i]? = some y → valV kv (Sum.inl y : Key) = some (.int (i : Nat))) ?_ ?_ ?_ ?_
      · exact ⟨[], Same.new hD, upd_same, Nat.le_refl _, fun i y hi => absurd hi (Nat.not_lt_zero _)⟩
      · rintro j H' ⟨kv, s'', _⟩
        exact sq (s'' _ _ hl7)
      · rintro j x T H' e' ⟨kv, s'', hdd, kl, kk⟩ hT
        rw [List.getElem?_map] at e'
        cases e3 : (spots p' (lift N rows))[j]? with
        | none => rw [e3] at e'; cases e'
        | some y =>
        rw [e3] at e'
        obtain rfl : V.int y = x := Option.some.inj e'
        have hj : j < (spots p' (lift N rows)).length := (List.getElem?_eq_some_iff.mp e3).1
        refine dct_2 (st upd_same) rfl ?_
        walk_at "st"
        have ndT : Dd ≠ T := ne_of_none hdd hT
        refine ⟨kv, Sum.inl y, rfl, (upd_ne ndT).trans hdd, small1000 (by omega), _, ?_, upd_same, ?_, fun i' y' hi' hy' => ?_⟩
        · exact (s''.snew hT).sput hD
        · have := length_putK kv (Sum.inl y) (.int (j : Nat)); omega
        · rw [valV_put]
          rcases Nat.lt_or_eq_of_le (Nat.lt_succ_iff.mp hi') with lt | rfl
          · have ne : y' ≠ y := fun z => by
              obtain ⟨g1, g2⟩ := List.getElem?_eq_some_iff.mp hy'
              obtain ⟨g3, g4⟩ := List.getElem?_eq_some_iff.mp e3
              have := List.pairwise_iff_getElem.mp asp.up _ _ g1 g3 lt
              omega
            rw [if_neg (fun z => ne (Sum.inl.inj z))]
            exact kk i' y' lt hy'
          · rw [hy'] at e3
            cases e3
            rw [if_pos rfl]
      · rintro H8 ⟨kv, s8, hdd, kl, kk⟩
        rw [List.length_map] at kk kl
        have b8 := s8 _ _ b7
        have l8 := s8 _ _ l7
        walk_at "st"
        refine ⟨_, _, _, _, _, rfl, b8, G.cB, G.nB _ (by decide +kernel), f4, ?_⟩
        walk_at "st"
        refine ⟨dl, _, rfl, DPut.k (k := Sum.inr xr.1) l8 (small1000 (by omega)), ?_⟩
        have nDs : Dd ≠ ds := (ne_of_none d7 hD).symm
        have nDl : Dd ≠ dl := (ne_of_none l7 hD).symm
        refine ⟨_, _, _, rfl, (s7.same s8).mut hdl0, (upd_ne ndl).trans b8, (upd_ne nldl).trans (s8 _ _ w7), (upd_ne n12.symm).trans (s8 _ _ d7), upd_same, ?_, ?_, fun x rows' lk' hx => ?_⟩
        · have := length_putK ks (Sum.inr xr.1) (.ref l); omega
        · have := length_putK ls (Sum.inr xr.1) (.ref Dd); omega
        · by_cases nx : x = xr.1
          · subst nx
            rw [lk] at lk'
            cases lk'
            refine ⟨l, Dd, kv, by rw [valV_put, if_pos rfl], (upd_ne (ne_of (s8 _ _ hl7) l8 (by intro z; cases z))).trans (s8 _ _ hl7), by rw [valV_put, if_pos rfl], (upd_ne nDl).trans hdd, nDs, nDl, fun i' y' hy' => kk i' y' (List.getElem?_eq_some_iff.mp hy').1 hy'⟩
          · obtain ⟨l', sd, kv', a1, a2, a3, a4, a5, a6, a7⟩ := sp7 x rows' lk' hx nx
            refine ⟨l', sd, kv', a1, ?_, ?_, ?_, a5, a6, a7⟩
            · exact (upd_ne (ne_of (s8 _ _ a2) l8 (by intro z; cases z))).trans (s8 _ _ a2)
            · rw [valV_put, if_neg (fun z => nx (Sum.inr.inj z))]; exact a3
            · exact (upd_ne a6).trans (s8 _ _ a4)
    · rintro σ H' ⟨o2, ks, ls, rfl, s', hb', hlw', hds', hdl', k1, k2, sp⟩
      walk_at "st"
      intro df hdf
      have ndf : b ≠ df := ne_of_none hb' hdf
      walk_at "st"
      refine ⟨_, _, _, _, rfl, (upd_ne ndf).trans hb', G.cB, G.nB _ (by decide +kernel), fl, ?_⟩
      walk_at "st"
      have s8 : Sx b H' (upd (upd H' df (.dT [])) b (.ins (He.ga K "Board") dx (putF "found" (.ref df) FS))) := ((Sx.refl.put hdf).upd)
      have s9 := s'.trans s8
      refine k _ df s9 (s'.free hdf ndf.symm) ⟨pa.sx0 s9 hb, hp, dx, _, ds, dl, ks, ls, [], upd_same, ?_, ?_, ?_, ?_, lk_same, ?_, s8 _ _ hds' nds.symm, s8 _ _ hdl' ndl.symm, ?_, ⟨List.nodup_nil, (fun k hk => by cases hk), fun x rows y z _ hz => by cases hz⟩, fun x rows lk => ?_⟩
      · rw [lk_put (by decide +kernel), f1]
      · rw [lk_put (by decide +kernel), f2]
      · rw [lk_put (by decide +kernel), f3]
      · rw [lk_put (by decide +kernel), f4]
      · rw [lk_put (by decide +kernel), f5]
      · rw [upd_ne ndf.symm, upd_same]
      · rw [List.length_map, List.take_length] at sp
        obtain ⟨l, sd, kv, a1, a2, a3, a4, a5, a6, a7⟩ := sp x rows lk (List.mem_map.mpr ⟨_, lookup_mem lk, rfl⟩)
        exact ⟨l, sd, kv, a1, s8 _ _ a2 (ne_of a2 hb' (by intro z; cases z)), a3, s8 _ _ a4 (ne_of a4 hb' (by intro z; cases z)), a5, a6, a7⟩
end
end Jaw

/-! ## W9 -/
set_option Elab.async false
set_option linter.all false
set_option maxRecDepth 100000
set_option maxHeartbeats 4000000
namespace Jaw
open PySem PySem.Spec PyProof.Rows L2
local macro_rules | `(tactic| walk_at "st") => `(tactic| ((try (set_option simprocs false in dsimp only)); (repeat (first
  | with_reducible refine g_seq ?_
  | with_reducible refine g_set ?_
  | with_reducible refine g_asg ?_
  | with_reducible refine g_drop ?_
  | with_reducible refine g_ret ?_
  | with_reducible refine g_retN ?_
  | with_reducible refine g_ifs ?_
  | with_reducible refine g_next ?_
  | with_reducible refine g_brk ?_
  | with_reducible refine g_cont ?_
  | (with_reducible refine g_var ?_; refine ⟨_, rfl, ?_⟩)
  | with_reducible refine g_c ?_
  | with_reducible refine g_op ?_
  | with_reducible refine g_un ?_
  | with_reducible refine g_rI0 ?_
  | with_reducible refine g_rU ?_
  | with_reducible refine g_nil ?_
  | with_reducible refine g_cons ?_
  | with_reducible refine g_cb ?_
  | with_reducible refine g_call ?_
  | with_reducible refine g_test ?_
  | with_reducible refine g_tB ?_
  | with_reducible refine g_bl ?_
  | with_reducible refine g_and ?_
  | with_reducible refine g_or ?_
  | with_reducible refine g_not ?_
  | with_reducible refine g_andV ?_
  | with_reducible refine g_orV ?_
  | with_reducible refine g_notV ?_
  | with_reducible refine g_ife ?_
  | with_reducible refine g_chain ?_
  | with_reducible refine g_par ?_
  | with_reducible refine g_tup ?_
  | with_reducible refine g_lst ?_
  | with_reducible refine g_fld ?_
  | with_reducible refine g_meth ?_
  | with_reducible refine g_sfld ?_
  | with_reducible refine g_prop ?_
  | with_reducible refine g_item ?_
  | with_reducible refine g_eqI ?_
  | with_reducible refine g_neI ?_
  | with_reducible refine g_for ?_
  | with_reducible refine g_lc ?_
  | with_reducible refine g_iE ?_
  | with_reducible refine g_iL ?_
  | with_reducible refine g_iT ?_
  | with_reducible refine g_iR1 ?_
  | with_reducible refine g_iR2 ?_
  | with_reducible refine g_iV ?_
  | with_reducible refine g_iK ?_
  | with_reducible refine g_yes ?_
  | with_reducible refine g_dc ?_
  | with_reducible refine g_dnK ?_
  | with_reducible refine g_dnT ?_
  | with_reducible refine g_dget ?_
  | with_reducible refine g_dput ?_
  | with_reducible refine g_din ?_
  | with_reducible refine g_dnin ?_
  | with_reducible refine g_bm ?_
  | with_reducible refine g_si ?_
  | with_reducible refine g_lstRg ?_
  | with_reducible refine g_tupRg ?_
  | with_reducible refine g_rg1 ?_
  | with_reducible refine g_gn ?_
  | with_reducible refine g_nt ?_
  | with_reducible refine g_nf ?_
  | with_reducible refine iteT ?_
  | with_reducible refine iteF ?_))))
section
variable {P : Program} {w : World} {K : PySem.W.Frag} {mg : Str → Option Value} {base : Heap}
theorem cache_len {N p : Int} {ws : Ws} {fk : List (List Key × V)} (h : Cache N p ws fk) : fk.length ≤ 2 * p.toNat := by
  haveI : DecidableEq (List Key) := fun a b => Classical.propDecidable (a = b)
  let all : List (List Key) := (List.range p.toNat).map (fun i : Nat => [Sum.inr ("push" : Str), Sum.inl (i : Int)]) ++ (List.range p.toNat).map (fun i : Nat => [Sum.inr ("squeeze" : Str), Sum.inl (i : Int)])
  have la : all.length = 2 * p.toNat := by
    rw [List.length_append, List.length_map, List.length_map, List.length_range]; omega
  rw [← la, ← List.length_map (f := fun x : List Key × V => x.1)]
  refine len_le_sub h.1 fun k hk => ?_
  obtain ⟨x, y, rfl, hx, y0, y1⟩ := h.2.1 k hk
  rw [List.mem_append, List.mem_map, List.mem_map]
  have hy : ((y.toNat : Nat) : Int) = y := by omega
  rcases hx with rfl | rfl
  · exact .inl ⟨y.toNat, List.mem_range.mpr (by omega), by rw [hy]⟩
  · exact .inr ⟨y.toNat, List.mem_range.mpr (by omega), by rw [hy]⟩
theorem Cache.put {N p : Int} {ws : Ws} {fk : List (List Key × V)} (h : Cache N p ws fk) {x : Str} {y c : Int} (hn : valV fk [Sum.inr x, Sum.inl y] = none) (hx : x = "push" ∨ x = "squeeze") (y0 : 0 ≤ y) (y1 : y < p)
    (hc : ∀ rows, ws.lookup x = some rows → nth p (lift N rows) c = lift N rows y) : Cache N p ws (putK fk [Sum.inr x, Sum.inl y] (.int c)) := by
  refine ⟨nd_putK _ h.1 hn, fun k hk => ?_, fun x' rows y' z lk hz => ?_⟩
  · rw [putK_new _ hn, List.map_append, List.mem_append] at hk
    rcases hk with hk | hk
    · exact h.2.1 k hk
    · exact ⟨x, y, List.mem_singleton.mp hk, hx, y0, y1⟩
  · rw [valV_put] at hz
    by_cases e : ([Sum.inr x', Sum.inl y'] : List Key) = [Sum.inr x, Sum.inl y]
    · rw [if_pos e] at hz
      injection e with e1 e2
      injection e2 with e2 _
      obtain rfl := Sum.inr.inj e1
      obtain rfl := Sum.inl.inj e2
      cases hz
      exact ⟨c, rfl, hc rows lk⟩
    · rw [if_neg e] at hz
      exact h.2.2 x' rows y' z lk hz
def spBCarr (K : PySem.W.Frag) : Sp := fun vs H Q _ => ∃ b x k y t a N ws p df rows rows', vs = [.ref b, .str x, .int k, .str y, .int t] ∧ BoardAt K H b a N ws p df ∧ ws.lookup x = some rows ∧ ws.lookup y = some rows' ∧ N ≤ 60 ∧ 0 ≤ k ∧ k < 1000 ∧ -1000 ≤ t ∧ t ≤ 1000 ∧
  ∀ H' c, Sx df H H' → BoardAt K H' b a N ws p df → nth p (lift N rows') c = lift N rows' (nth p (lift N rows) k + t) → Q (.int c) H'
theorem sc_bCarr : FnScope ["self", "word", "number", "v", "shift", "key", "lap", "at", "more", "place", "far", "spot"] ["self", "word", "number", "v", "shift"] (defScope s_bCarr) := ⟨rfl, rfl, rfl, by decide +kernel, rfl, by decide +kernel, by decide +kernel⟩
theorem bd_bCarr : Bd ["self", "word", "number", "v", "shift"] "carried" s_bCarr := fun _ _ _ _ _ _ _ us hl => match us, hl with | [_, _, _, _, _], _ => rfl
theorem ok_bCarr (F : Md K (He.ga K "Board") "carried" "Board.carried" s_bCarr) (G : Mod0 K mg) (c_pItem : Itm P w K mg base 2 (He.ga K "Part") (spPItem K)) (c_tLift : C8.Met P w K mg base 2 (He.ga K "Turning") "lifted" (spTLift K) []) :
    C8.Met P w K mg base 4 (He.ga K "Board") "carried" (spBCarr K) [] := by
  refine met_of G.cB F sc_bCarr bd_bCarr (fun vs H Q E h => ?_) fun f cdv A outer s H vs Q E hr h => ?_
  · obtain ⟨_, _, _, _, _, _, _, _, _, _, _, _, rfl, _⟩ := h; rfl
  · obtain ⟨b, x, k, y, t, a, N, ws, p, df, rows, rows', rfl, bo, lx, ly, hN60, k0, k1, t0, t1, q⟩ := h
    have hu := hu_of hr
    obtain ⟨dx, fs, ds, dl, ks, ls, fk, b1, b2, b3, b4, b5, b6, b7, b8, b9, b10, ca, sp⟩ := id bo.ex
    have hvx : Valid N rows ∧ rows.length ≤ 12 := bo.part.ok.val _ (lookup_mem lx)
    have hvy : Valid N rows' ∧ rows'.length ≤ 12 := bo.part.ok.val _ (lookup_mem ly)
    have hN := hvx.1.pos
    have hp := bo.per.pos
    have hpN := bo.per.le hN
    refine ⟨_, (pss_cons (ps_asg (pe_callB call_divmod (by rfl) G.b_divmod (by decide +kernel) (pa_cons (L2.pv 2) (pa_cons (pe_callB call_len_seq (by rfl) G.b_len (by decide +kernel) (pa_cons (pe_dget hu (pe_fld (L2.pv 0) rfl) (L2.pv 1) (fun _ _ => rfl)) pa_nil)) pa_nil))) (pg_tup rfl (pgs_cons (pg_name (i := 6) sc_bCarr.nd rfl (Or.inl rfl)) (pgs_cons (pg_name (i := 7) sc_bCarr.nd rfl (Or.inl rfl)) pgs_nil))))
      (pss_cons (ps_asg (pe_callB call_divmod (by rfl) G.b_divmod (by decide +kernel) (pa_cons (pe_op op_add (pe_ix ix_list (pe_dget hu (pe_fld (L2.pv 0) rfl) (L2.pv 1) (fun _ _ => rfl)) (L2.pv 7) (fun _ _ => rfl)) (L2.pv 4)) (pa_cons (pe_fld (L2.pv 0) rfl) pa_nil))) (pg_tup rfl (pgs_cons (pg_name (i := 8) sc_bCarr.nd rfl (Or.inl rfl)) (pgs_cons (pg_name (i := 9) sc_bCarr.nd rfl (Or.inl rfl)) pgs_nil))))
      (pss_cons (ps_set (i := 5) sc_bCarr.nd rfl (Or.inl rfl) (pe_tup (pa_cons (L2.pv 3) (pa_cons (L2.pv 9) pa_nil))))
      (C8.pss_cut (ps_if (pt_cmp (by exact (pc_dnotin hu (L2.pv 5) (pe_fld (L2.pv 0) rfl)))) (pss_cons (ps_asg (pe_callB call_divmod (by rfl) G.b_divmod (by decide +kernel) (pa_cons (C8.pe_mt c_tLift hr (by decide) (pe_im c_pItem hr (by decide) (pe_fld (L2.pv 0) rfl) (L2.pv 3)) (pa_cons (L2.pv 9) pa_nil)) (pa_cons (pe_fld (L2.pv 0) rfl) pa_nil))) (pg_tup rfl (pgs_cons (pg_name (i := 10) sc_bCarr.nd rfl (Or.inl rfl)) (pgs_cons (pg_name (i := 11) sc_bCarr.nd rfl (Or.inl rfl)) pgs_nil))))
      (pss_one (ps_dput hu (pe_fld (L2.pv 0) rfl) (L2.pv 5) (pe_op op_add (pe_op op_mul (L2.pv 10) (pe_callB call_len_seq (by rfl) G.b_len (by decide +kernel) (pa_cons (pe_dget hu (pe_fld (L2.pv 0) rfl) (L2.pv 3) (fun _ _ => rfl)) pa_nil))) (pe_dget hu (pe_dget hu (pe_fld (L2.pv 0) rfl) (L2.pv 3) (fun _ _ => rfl)) (L2.pv 11) (fun _ _ => rfl))) rfl))) pss_nil)
      (pss_one (ps_ret (pe_op op_add (pe_dget hu (pe_fld (L2.pv 0) rfl) (L2.pv 5) (fun _ _ => rfl)) (pe_op op_mul (pe_op op_add (L2.pv 6) (L2.pv 8)) (pe_callB call_len_seq (by rfl) G.b_len (by decide +kernel) (pa_cons (pe_dget hu (pe_fld (L2.pv 0) rfl) (L2.pv 3) (fun _ _ => rfl)) pa_nil)))))))))), ?_⟩
    walk_at "st"
    obtain ⟨l1, sd1, kv1, x1, x2, x3, x4, x5, x6, x7⟩ := sp x rows lx
    obtain ⟨l2, sd2, kv2, y1, y2, y3, y4, y5, y6, y7⟩ := sp y rows' ly
    have PF := lift_proj hvx.1
    have PG := lift_proj hvy.1
    have cF : Com (lift N rows) p := bo.per.com _ (List.mem_map.mpr ⟨_, lookup_mem lx, rfl⟩)
    have cG : Com (lift N rows') p := bo.per.com _ (List.mem_map.mpr ⟨_, lookup_mem ly, rfl⟩)
    have m1 := spots_ne PF cF hp
    have m2 := spots_ne PG cG hp
    have z1 := spots_len (F := lift N rows) hp
    have z2 := spots_len (F := lift N rows') hp
    have ek := euc k (N := ((spots p (lift N rows)).length : Int)) (by omega)
    obtain ⟨u, u1, u2, u3, u4, u5⟩ := at_spot PF cF hp k
    have getS : ∀ {H' : Hp} {d : Addr} {kk : List (Key × V)} {z : Str} {v : V}, H' d = some (.dK kk) → valV kk (Sum.inr z : Key) = some v → DGet H' d (.str z) (some v) := fun {H' d kk z v} e e2 => by
      have := DGet.k (k := Sum.inr z) e
      rw [e2] at this
      exact this
    refine ⟨_, _, _, _, _, rfl, b1, G.cB, G.nB _ (by decide +kernel), b4, ?_⟩
    walk_at "st"
    refine ⟨ds, .ref l1, rfl, getS b8 x1, ?_⟩
    walk_at "st"
    refine ⟨l1, _, rfl, .inl (sq x2), ?_⟩
    rw [List.length_map]
    walk_at "st"
    refine ⟨k, _, rfl, ⟨by omega, by omega⟩, fun T hT => ?_⟩
    refine g_g2 (st upd_same) ?_
    have sT : Same H (upd H T _) := Same.new (o := .tup [.int (k / (spots p (lift N rows)).length), .int (k % (spots p (lift N rows)).length)]) hT
    walk_at "st"
    refine ⟨_, _, _, _, _, rfl, sT _ _ b1, G.cB, G.nB _ (by decide +kernel), b4, ?_⟩
    walk_at "st"
    refine ⟨ds, .ref l1, rfl, getS (sT _ _ b8) x1, ?_⟩
    walk_at "st"
    have ixu : atI ((spots p (lift N rows)).map V.int) (k % (spots p (lift N rows)).length) = some (.int u) := by
      have e3 : ixN (spots p (lift N rows)).length (k % (spots p (lift N rows)).length) = some (k % (spots p (lift N rows)).length).toNat := by
        unfold ixN
        rw [if_pos ek.2.1, if_pos ek.2.2]
      unfold atI
      rw [List.length_map, e3]
      show ((spots p (lift N rows)).map V.int)[(k % (spots p (lift N rows)).length).toNat]? = _
      rw [List.getElem?_map, u1]; rfl
    refine ⟨l1, _, _, _, rfl, rfl, sq (sT _ _ x2), ixu, ?_⟩
    walk_at "st"
    refine ⟨_, _, _, _, _, rfl, sT _ _ b1, G.cB, G.nB _ (by decide +kernel), b3, ?_⟩
    walk_at "st"
    refine ⟨u + t, p, rfl, ⟨by omega, by omega⟩, fun T2 hT2 => ?_⟩
    refine g_g2 (st upd_same) ?_
    have sT2 := sT.snew (o := .tup [.int ((u + t) / p), .int ((u + t) % p)]) hT2
    have ep := euc (u + t) hp
    generalize hH2 : upd (upd H T (.tup [.int (k / (spots p (lift N rows)).length), .int (k % (spots p (lift N rows)).length)])) T2 (.tup [.int ((u + t) / p), .int ((u + t) % p)]) = H2 at sT2 ⊢
    clear hH2
    walk_at "st"
    refine ⟨g_small2, fun T3 hT3 => ?_⟩
    have s3 := sT2.snew (o := .tup [.str y, .int ((u + t) % p)]) hT3
    have k3 : upd H2 T3 (.tup [.str y, .int ((u + t) % p)]) T3 = _ := upd_same
    generalize upd H2 T3 (.tup [.str y, .int ((u + t) % p)]) = H3 at s3 k3 ⊢
    walk_at "st"
    have e3 := euc (lift N rows' ((u + t) % p)) hp
    have nbf : b ≠ df := ne_of b1 b10 (by intro z; cases z)
    have ndsf : ds ≠ df := ne_of b8 b10 (by intro z; cases z)
    have ndlf : dl ≠ df := ne_of b9 b10 (by intro z; cases z)
    have nl2f : l2 ≠ df := ne_of y2 b10 (by intro z; cases z)
    refine ⟨fun σ H' => ∃ (o10 o11 : Option V) (fk' : List (List Key × V)) (c : Int), σ = [some (.ref b), some (.str x), some (.int k), some (.str y), some (.int t), some (.ref T3), some (.int (k / (spots p (lift N rows)).length)), some (.int (k % (spots p (lift N rows)).length)), some (.int ((u + t) / p)), some (.int ((u + t) % p)), o10, o11] ∧
      Sx df H H' ∧ H' T3 = some (.tup [.str y, .int ((u + t) % p)]) ∧ H' df = some (.dT fk') ∧ Cache N p ws fk' ∧ valV fk' [Sum.inr y, Sum.inl ((u + t) % p)] = some (.int c) ∧ nth p (lift N rows') c = lift N rows' ((u + t) % p), ?_, ?_⟩
    · walk_at "st"
      refine ⟨_, _, _, _, _, rfl, s3 _ _ b1, G.cB, G.nB _ (by decide +kernel), b6, ?_⟩
      walk_at "st"
      refine ⟨df, _, rfl, DGet.t (k := [Sum.inr y, Sum.inl ((u + t) % p)]) (s3 _ _ b10) k3, ?_⟩
      cases hz : valV fk [Sum.inr y, Sum.inl ((u + t) % p)] with
      | some z =>
        refine ⟨_, rfl, ite2 (fun z => by cases z) fun _ => ?_⟩
        obtain ⟨c, rfl, hc⟩ := ca.2.2 y rows' _ _ ly hz
        exact ⟨_, _, fk, c, rfl, Sx.of s3, k3, s3 _ _ b10, ca, hz, hc⟩
      | none =>
        refine ⟨_, rfl, ite2 (fun _ => ?_) fun z => absurd rfl z⟩
        have po3 := bo.part.mono s3
        obtain ⟨pdx, pfs, pd, pk, p1, p2, p3, p4, p5, p6⟩ := id po3.ex
        walk_at "st"
        refine ⟨_, _, _, _, _, rfl, s3 _ _ b1, G.cB, G.nB _ (by decide +kernel), b2, ?_⟩
        walk_at "st"
        refine ⟨_, _, _, rfl, p1, _, _, _, _, _, rfl, po3, ly, fun tt pd tu => ?_⟩
        obtain ⟨tdx, tfs, _, _, w1, _, _, _, w5, _⟩ := id tu.ex
        refine ⟨_, _, _, rfl, w1, w5, ?_⟩
        walk_at "st"
        refine ⟨_, _, _, _, _, rfl, tu, hvy.1, bo.part.ok.n360, fun H4 s4 => ?_⟩
        have sH4 := s3.trans s4
        walk_at "st"
        refine ⟨_, _, _, _, _, rfl, sH4 _ _ b1, G.cB, G.nB _ (by decide +kernel), b3, ?_⟩
        walk_at "st"
        refine ⟨_, p, rfl, ⟨by omega, by omega⟩, fun T5 hT5 => ?_⟩
        refine g_g2 (st upd_same) ?_
        have s5 := s4.snew (o := .tup [.int (lift N rows' ((u + t) % p) / p), .int (lift N rows' ((u + t) % p) % p)]) hT5
        generalize upd H4 T5 (.tup [.int (lift N rows' ((u + t) % p) / p), .int (lift N rows' ((u + t) % p) % p)]) = H5 at s5 ⊢
        have sH5 := s3.trans s5
        walk_at "st"
        refine ⟨_, _, _, _, _, rfl, sH5 _ _ b1, G.cB, G.nB _ (by decide +kernel), b4, ?_⟩
        walk_at "st"
        refine ⟨ds, .ref l2, rfl, getS (sH5 _ _ b8) y1, ?_⟩
        walk_at "st"
        refine ⟨l2, _, rfl, .inl (sq (sH5 _ _ y2)), ?_⟩
        rw [List.length_map]
        refine g_rI (.inr ⟨by omega, by omega⟩) ?_
        walk_at "st"
        refine ⟨_, _, _, _, _, rfl, sH5 _ _ b1, G.cB, G.nB _ (by decide +kernel), b5, ?_⟩
        walk_at "st"
        refine ⟨dl, .ref sd2, rfl, getS (sH5 _ _ b9) y3, ?_⟩
        walk_at "st"
        have hm : lift N rows' ((u + t) % p) % p ∈ spots p (lift N rows') := ((asc_spots hp).mem _).mpr ⟨e3.2.1, e3.2.2, fix_mod cG (PG.idem _)⟩
        obtain ⟨i, hi⟩ := List.mem_iff_getElem?.mp hm
        refine ⟨sd2, .int (i : Nat), rfl, ?_, ?_⟩
        · have := DGet.k (k := Sum.inl (lift N rows' ((u + t) % p) % p)) (sH5 _ _ y4)
          rw [y7 i _ hi] at this
          exact this
        walk_at "st"
        refine ⟨_, _, _, _, _, rfl, sH5 _ _ b1, G.cB, G.nB _ (by decide +kernel), b6, ?_⟩
        walk_at "st"
        have cl := cache_len ca
        refine ⟨df, _, rfl, DPut.t (k := [Sum.inr y, Sum.inl ((u + t) % p)]) (sH5 _ _ b10) (s5 _ _ k3) (small1000 (by omega)), ?_⟩
        have nT : T3 ≠ df := ne_of k3 (s3 _ _ b10) (by intro z; cases z)
        have hc : nth p (lift N rows') (lift N rows' ((u + t) % p) / p * (spots p (lift N rows')).length + (i : Nat)) = lift N rows' ((u + t) % p) := by
          rw [Int.add_comm, nth_lap PG cG hp, nth_small PG cG hp hi]
          omega
        refine ⟨_, _, _, _, rfl, (Sx.of sH5).upd, (upd_ne nT).trans (s5 _ _ k3), upd_same, ca.put hz (bo.part.ok.word ly) ep.2.1 ep.2.2 (fun r lr => ?_), by rw [valV_put, if_pos rfl], hc⟩
        rw [ly] at lr
        cases lr
        exact hc
    · rintro σ H4 ⟨o10, o11, fk', c, rfl, s4, k4, f4, ca4, v4, hc⟩
      have q1 := s4 _ _ b1 nbf
      have q2 := s4 _ _ b8 ndsf
      have q3 := s4 _ _ y2 nl2f
      walk_at "st"
      refine ⟨_, _, _, _, _, rfl, q1, G.cB, G.nB _ (by decide +kernel), b6, ?_⟩
      walk_at "st"
      refine ⟨df, .int c, rfl, ?_, ?_⟩
      · have := DGet.t (k := [Sum.inr y, Sum.inl ((u + t) % p)]) f4 k4
        rw [v4] at this
        exact this
      walk_at "st"
      refine ⟨_, _, _, _, _, rfl, q1, G.cB, G.nB _ (by decide +kernel), b4, ?_⟩
      walk_at "st"
      refine ⟨ds, .ref l2, rfl, getS q2 y1, ?_⟩
      walk_at "st"
      refine ⟨l2, _, rfl, .inl (sq q3), ?_⟩
      rw [List.length_map]
      refine g_rI (.inr ⟨by omega, by omega⟩) ?_
      walk_at "st"
      have bo4 : BoardAt K H4 b a N ws p df := by
        refine ⟨?_, bo.per, dx, fs, ds, dl, ks, ls, fk', q1, b2, b3, b4, b5, b6, b7, q2, s4 _ _ b9 ndlf, f4, ca4, fun x' r' lk' => ?_⟩
        · obtain ⟨pdx, pfs, pd, pk, p1, p2, p3, p4, p5, p6⟩ := id bo.part.ex
          refine ⟨bo.part.ok, pdx, pfs, pd, pk, s4 _ _ p1 (ne_of p1 b10 (by intro z; cases z)), p2, p3, p4, s4 _ _ p5 (ne_of p5 b10 (by intro z; cases z)), Paired.mapQ p6 fun _ _ ⟨x, t, pd, b, c, e⟩ => ⟨x, t, pd, b, ?_, e⟩⟩
          obtain ⟨_, _, _, _, t1, t2, t3, t4, t5, t6, t7, t8, t9⟩ := id c.ex
          exact ⟨_, _, _, _, s4 _ _ t1 (ne_of t1 b10 (by intro z; cases z)), t2, t3, t4, t5, t6, t7, s4 _ _ t8 (ne_of t8 b10 (by intro z; cases z)), Paired.mapQ t9 fun _ _ ⟨t, a, b⟩ => ⟨t, a, s4 _ _ b (ne_of b b10 (by intro z; cases z))⟩⟩
        · obtain ⟨l, sd, kv, a1, a2, a3, a4, a5, a6, a7⟩ := sp x' r' lk'
          exact ⟨l, sd, kv, a1, s4 _ _ a2 (ne_of a2 b10 (by intro z; cases z)), a3, s4 _ _ a4 (ne_of a4 b10 (by intro z; cases z)), a5, a6, a7⟩
      refine q _ _ s4 bo4 ?_
      rw [nth_lap PG cG hp, hc]
      have e5 : nth p (lift N rows) k + t = (u + t) % p + (k / (spots p (lift N rows)).length + (u + t) / p) * p := by
        unfold nth
        rw [u2, Int.add_mul]
        omega
      rw [e5, cG.mul]
end
end Jaw

/-! ## M6 -/
set_option linter.all false
namespace Jaw
theorem spots12 {N p : Int} {rows : List Row} (v : Valid N rows) (hp : 0 < p) (hpN : p ≤ N) : (spots p (lift N rows)).length ≤ rows.length := by
  rw [← List.length_map (f := Prod.snd) (as := rows)]
  refine len_le_sub ((asc_spots (F := lift N rows) hp).up.imp fun h => Int.ne_of_lt h) fun y hy => ?_
  have := ((asc_spots hp).mem y).mp hy
  exact (rest_iff v).mpr ⟨this.1, by omega, this.2.2⟩
section
variable {N p : Int} {F : Int → Int} (P : Proj N F) (c : Com F p) (hp : 0 < p)
include P c hp
theorem nth_grow (k : Int) : ∀ n : Nat, nth p F k + n ≤ nth p F (k + n)
  | 0 => by simp
  | n + 1 => by
    have := nth_grow k n
    have h := nth_lt P c hp (k := k + n) (k' := k + (n + 1 : Nat)) (by omega)
    omega
theorem nth_zero : 0 ≤ nth p F 0 ∧ nth p F 0 < p := by
  obtain ⟨y, _, e, y0, y1, _⟩ := at_spot P c hp 0
  unfold nth
  rw [e, Int.zero_ediv, Int.zero_mul]
  omega
theorem nth_rng {i : Int} (h0 : 0 ≤ i) (h1 : i < (spots p F).length) : 0 ≤ nth p F i ∧ nth p F i < p := by
  obtain ⟨y, _, e, y0, y1, _⟩ := at_spot P c hp i
  unfold nth
  rw [e, Int.ediv_eq_zero_of_lt h0 h1, Int.zero_mul]
  omega
theorem nth_bound (k : Int) : -p - (if 0 ≤ nth p F k then nth p F k else - nth p F k) ≤ k ∧ k ≤ p + (if 0 ≤ nth p F k then nth p F k else - nth p F k) := by
  have z := nth_zero P c hp
  rcases Int.le_total 0 k with l | l
  · have := nth_grow P c hp 0 k.toNat
    have e : (0 : Int) + (k.toNat : Int) = k := by omega
    rw [e] at this
    split <;> omega
  · have := nth_grow P c hp k (-k).toNat
    have e : k + ((-k).toNat : Int) = 0 := by omega
    rw [e] at this
    split <;> omega
end
/-- a stretch of numbers, by their remainders -/
theorem stretch_mod {lo hi m : Int} (hm : 0 < m) (j : Int) : (∃ i : Nat, i < ((if lo + m < hi + 1 then lo + m else hi + 1) - lo).toNat ∧ j = (lo + i) % m) ↔ ∃ k, lo ≤ k ∧ k ≤ hi ∧ j = k % m := by
  constructor
  · rintro ⟨i, h, rfl⟩
    refine ⟨lo + i, by omega, ?_, rfl⟩
    split at h <;> omega
  · rintro ⟨k, h1, h2, rfl⟩
    by_cases q : lo + m < hi + 1
    · rw [if_pos q]
      have e := euc (k - lo) hm
      refine ⟨((k - lo) % m).toNat, by omega, ?_⟩
      have e2 : lo + (((k - lo) % m).toNat : Int) = k + -((k - lo) / m) * m := by
        rw [Int.neg_mul]; omega
      rw [e2, Int.add_mul_emod_self_right]
    · rw [if_neg q]
      exact ⟨(k - lo).toNat, by omega, by congr 1; omega⟩
end Jaw

/-! ## W10 -/
set_option Elab.async false
set_option linter.all false
set_option maxRecDepth 100000
set_option maxHeartbeats 4000000
namespace Jaw
open PySem PySem.Spec PyProof.Rows L2
local macro_rules | `(tactic| walk_at "st") => `(tactic| ((try (set_option simprocs false in dsimp only)); (repeat (first
  | with_reducible refine g_seq ?_
  | with_reducible refine g_set ?_
  | with_reducible refine g_asg ?_
  | with_reducible refine g_drop ?_
  | with_reducible refine g_ret ?_
  | with_reducible refine g_retN ?_
  | with_reducible refine g_ifs ?_
  | with_reducible refine g_next ?_
  | with_reducible refine g_brk ?_
  | with_reducible refine g_cont ?_
  | (with_reducible refine g_var ?_; refine ⟨_, rfl, ?_⟩)
  | with_reducible refine g_c ?_
  | with_reducible refine g_op ?_
  | with_reducible refine g_un ?_
  | with_reducible refine g_rI0 ?_
  | with_reducible refine g_rU ?_
  | with_reducible refine g_nil ?_
  | with_reducible refine g_cons ?_
  | with_reducible refine g_cb ?_
  | with_reducible refine g_call ?_
  | with_reducible refine g_test ?_
  | with_reducible refine g_tB ?_
  | with_reducible refine g_bl ?_
  | with_reducible refine g_and ?_
  | with_reducible refine g_or ?_
  | with_reducible refine g_not ?_
  | with_reducible refine g_andV ?_
  | with_reducible refine g_orV ?_
  | with_reducible refine g_notV ?_
  | with_reducible refine g_ife ?_
  | with_reducible refine g_chain ?_
  | with_reducible refine g_par ?_
  | with_reducible refine g_tup ?_
  | with_reducible refine g_lst ?_
  | with_reducible refine g_fld ?_
  | with_reducible refine g_meth ?_
  | with_reducible refine g_sfld ?_
  | with_reducible refine g_prop ?_
  | with_reducible refine g_item ?_
  | with_reducible refine g_eqI ?_
  | with_reducible refine g_neI ?_
  | with_reducible refine g_for ?_
  | with_reducible refine g_lc ?_
  | with_reducible refine g_iE ?_
  | with_reducible refine g_iL ?_
  | with_reducible refine g_iT ?_
  | with_reducible refine g_iR1 ?_
  | with_reducible refine g_iR2 ?_
  | with_reducible refine g_iV ?_
  | with_reducible refine g_iK ?_
  | with_reducible refine g_yes ?_
  | with_reducible refine g_dc ?_
  | with_reducible refine g_dnK ?_
  | with_reducible refine g_dnT ?_
  | with_reducible refine g_dget ?_
  | with_reducible refine g_dput ?_
  | with_reducible refine g_din ?_
  | with_reducible refine g_dnin ?_
  | with_reducible refine g_bm ?_
  | with_reducible refine g_si ?_
  | with_reducible refine g_lstRg ?_
  | with_reducible refine g_tupRg ?_
  | with_reducible refine g_rg1 ?_
  | with_reducible refine g_gn ?_
  | with_reducible refine g_nt ?_
  | with_reducible refine g_nf ?_
  | with_reducible refine iteT ?_
  | with_reducible refine iteF ?_))))
section
variable {P : Program} {w : World} {K : PySem.W.Frag} {mg : Str → Option Value} {base : Heap}
theorem BoardAt.keep {H H' : Hp} {b a df q : Addr} {N p : Int} {ws : Ws} {o : HO} (bo : BoardAt K H b a N ws p df) (s : Sx df H H') (e : H q = some o) (n : ∀ kvs, o ≠ .dT kvs) : H' q = some o := by
  obtain ⟨dx, fs, ds, dl, ks, ls, fk, b1, b2, b3, b4, b5, b6, b7, b8, b9, b10, ca, sp⟩ := bo.ex
  exact s _ _ e (ne_of e b10 (n _))
theorem BoardAt.mono {H H' : Hp} {b a df : Addr} {N p : Int} {ws : Ws} (bo : BoardAt K H b a N ws p df) (s : Same H H') : BoardAt K H' b a N ws p df := by
  obtain ⟨dx, fs, ds, dl, ks, ls, fk, b1, b2, b3, b4, b5, b6, b7, b8, b9, b10, ca, sp⟩ := bo.ex
  refine ⟨bo.part.mono s, bo.per, dx, fs, ds, dl, ks, ls, fk, s _ _ b1, b2, b3, b4, b5, b6, b7, s _ _ b8, s _ _ b9, s _ _ b10, ca, fun x r lk => ?_⟩
  obtain ⟨l, sd, kv, a1, a2, a3, a4, a5, a6, a7⟩ := sp x r lk
  exact ⟨l, sd, kv, a1, s _ _ a2, a3, s _ _ a4, a5, a6, a7⟩
theorem BoardAt.again {H H' : Hp} {b a df : Addr} {N p : Int} {ws : Ws} {fk' : List (List Key × V)} (bo : BoardAt K H b a N ws p df) (s4 : Sx df H H') (f4 : H' df = some (.dT fk')) (ca4 : Cache N p ws fk') : BoardAt K H' b a N ws p df := by
  obtain ⟨dx, fs, ds, dl, ks, ls, fk, b1, b2, b3, b4, b5, b6, b7, b8, b9, b10, ca, sp⟩ := bo.ex
  refine ⟨?_, bo.per, dx, fs, ds, dl, ks, ls, fk', s4 _ _ b1 (ne_of b1 b10 (by intro z; cases z)), b2, b3, b4, b5, b6, b7, s4 _ _ b8 (ne_of b8 b10 (by intro z; cases z)), s4 _ _ b9 (ne_of b9 b10 (by intro z; cases z)), f4, ca4, fun x' r' lk' => ?_⟩
  · obtain ⟨pdx, pfs, pd, pk, p1, p2, p3, p4, p5, p6⟩ := id bo.part.ex
    refine ⟨bo.part.ok, pdx, pfs, pd, pk, s4 _ _ p1 (ne_of p1 b10 (by intro z; cases z)), p2, p3, p4, s4 _ _ p5 (ne_of p5 b10 (by intro z; cases z)), Paired.mapQ p6 fun _ _ ⟨x, t, pd, b, c, e⟩ => ⟨x, t, pd, b, ?_, e⟩⟩
    obtain ⟨_, _, _, _, t1, t2, t3, t4, t5, t6, t7, t8, t9⟩ := id c.ex
    exact ⟨_, _, _, _, s4 _ _ t1 (ne_of t1 b10 (by intro z; cases z)), t2, t3, t4, t5, t6, t7, s4 _ _ t8 (ne_of t8 b10 (by intro z; cases z)), Paired.mapQ t9 fun _ _ ⟨t, a, b⟩ => ⟨t, a, s4 _ _ b (ne_of b b10 (by intro z; cases z))⟩⟩
  · obtain ⟨l, sd, kv, a1, a2, a3, a4, a5, a6, a7⟩ := sp x' r' lk'
    exact ⟨l, sd, kv, a1, s4 _ _ a2 (ne_of a2 b10 (by intro z; cases z)), a3, s4 _ _ a4 (ne_of a4 b10 (by intro z; cases z)), a5, a6, a7⟩
def spLeftB (K : PySem.W.Frag) : Sp := fun vs H Q _ => ∃ b e x l y t a N ws p df rows rows' ns, vs = [.ref b, .int e, .str x, .ref l, .str y, .int t] ∧ BoardAt K H b a N ws p df ∧ ws.lookup x = some rows ∧ ws.lookup y = some rows' ∧ N ≤ 60 ∧ 0 ≤ e ∧ e ≤ 100 ∧ 0 ≤ t ∧ t < N ∧
  H l = some (.tup ((ns : List Int).map V.int)) ∧ ns.Nodup ∧ (∀ i ∈ ns, 0 ≤ i ∧ i < (spots p (lift N rows)).length) ∧
  ∀ H' q ms, Sx df H H' → BoardAt K H' b a N ws p df → H' q = some (.tup ((ms : List Int).map V.int)) →
    Asc ms (fun j => ∃ i ∈ ns, ∃ k, lift N rows' (nth p (lift N rows) i - t - e) ≤ nth p (lift N rows') k ∧ nth p (lift N rows') k ≤ lift N rows' (nth p (lift N rows) i - t + e) ∧ j = k % (spots p (lift N rows')).length) → Q (.ref q) H'
theorem sc_leftB : FnScope ["board", "spread", "word", "left", "v", "turn", "many", "found", "i", "low", "high", "k"] ["board", "spread", "word", "left", "v", "turn"] (defScope s_leftB) := ⟨rfl, rfl, rfl, by decide +kernel, rfl, by decide +kernel, by decide +kernel⟩
theorem bd_leftB : Bd ["board", "spread", "word", "left", "v", "turn"] "left_behind" s_leftB := fun _ _ _ _ _ _ _ us hl => match us, hl with | [_, _, _, _, _, _], _ => rfl
theorem ok_leftB (F : Fd K mg "left_behind" s_leftB []) (G : Mod0 K mg) (c_bCarr : C8.Met P w K mg base 4 (He.ga K "Board") "carried" (spBCarr K) []) : C8.Cal P w K mg base 5 "left_behind" (spLeftB K) [] := by
  refine cal_of F sc_leftB bd_leftB (fun vs H Q E h => ?_) fun f cdv A outer s H vs Q E hr h => ?_
  · obtain ⟨_, _, _, _, _, _, _, _, _, _, _, _, _, _, rfl, _⟩ := h; rfl
  · obtain ⟨b, e, x, l, y, t, a, N, ws, p, df, rows, rows', ns, rfl, bo, lx, ly, hN60, e0, e1, t0, t1, hl, nd, hns, q⟩ := h
    have hu := hu_of hr
    obtain ⟨dx, fs, ds, dl, ks, ls, fk, b1, b2, b3, b4, b5, b6, b7, b8, b9, b10, ca, sp⟩ := id bo.ex
    have hvx : Valid N rows ∧ rows.length ≤ 12 := bo.part.ok.val _ (lookup_mem lx)
    have hvy : Valid N rows' ∧ rows'.length ≤ 12 := bo.part.ok.val _ (lookup_mem ly)
    have hN := hvx.1.pos
    have hp := bo.per.pos
    have hpN := bo.per.le hN
    have PF := lift_proj hvx.1
    have PG := lift_proj hvy.1
    have cF : Com (lift N rows) p := bo.per.com _ (List.mem_map.mpr ⟨_, lookup_mem lx, rfl⟩)
    have cG : Com (lift N rows') p := bo.per.com _ (List.mem_map.mpr ⟨_, lookup_mem ly, rfl⟩)
    have m1 := spots_ne PF cF hp
    have m2 := spots_ne PG cG hp
    have z1 := Nat.le_trans (spots12 hvx.1 hp hpN) hvx.2
    have z2 := Nat.le_trans (spots12 hvy.1 hp hpN) hvy.2
    obtain ⟨l2, sd2, kv2, y1, y2, y3, y4, y5, y6, y7⟩ := sp y rows' ly
    have getS : ∀ {H' : Hp} {d : Addr} {kk : List (Key × V)} {z : Str} {v : V}, H' d = some (.dK kk) → valV kk (Sum.inr z : Key) = some v → DGet H' d (.str z) (some v) := fun {H' d kk z v} e e2 => by
      have := DGet.k (k := Sum.inr z) e
      rw [e2] at this
      exact this
    refine ⟨_, (pss_cons (ps_set (i := 6) sc_leftB.nd rfl (Or.inr rfl) (pe_callB call_len_seq (by rfl) G.b_len (by decide +kernel) (pa_cons (pe_dget hu (pe_fld (L2.pv 0) rfl) (L2.pv 4) (fun _ _ => rfl)) pa_nil)))
      (pss_cons (ps_set (i := 7) sc_leftB.nd rfl (Or.inl rfl) (pe_lst pa_nil))
      (pss_cons (ps_for PassesOwn.never rfl (pi_tup (L2.pv 3)) (pg_name (i := 8) sc_leftB.nd rfl (Or.inl rfl)) (pss_cons (ps_set (i := 9) sc_leftB.nd rfl (Or.inl rfl) (C8.pe_mt c_bCarr hr (by decide) (L2.pv 0) (pa_cons (L2.pv 2) (pa_cons (L2.pv 8) (pa_cons (L2.pv 4) (pa_cons (pe_op op_sub (pe_un un_neg (L2.pv 5)) (L2.pv 1)) pa_nil))))))
      (pss_cons (ps_set (i := 10) sc_leftB.nd rfl (Or.inl rfl) (C8.pe_mt c_bCarr hr (by decide) (L2.pv 0) (pa_cons (L2.pv 2) (pa_cons (L2.pv 8) (pa_cons (L2.pv 4) (pa_cons (pe_op op_add (pe_un un_neg (L2.pv 5)) (L2.pv 1)) pa_nil))))))
      (pss_one (ps_expr (pe_bm PySem.F.plainAttrs_list PySem.F.slot_list_extend PySem.F.type_list_extend mt_extend (L2.pv 7) (pa_cons (pe_lc (own := [("k", 11)]) (g := (gName 11)) (tt := tYes) rfl sc_leftB.nd (pi_range2 rfl G.b_range (pa_cons (L2.pv 9) (pa_cons (pe_callB (call_min2 rfl) (by rfl) G.b_min (by decide +kernel) (pa_cons (pe_op op_add (L2.pv 10) pe_int) (pa_cons (pe_op op_add (L2.pv 9) (L2.pv 6)) pa_nil))) pa_nil))) (blkOk_by (N := ["board", "spread", "word", "left", "v", "turn", "many", "found", "i", "low", "high", "k"]) (sc := defScope s_leftB) (by decide +kernel)) (fun _ _ _ _ _ => (pg_name (i := 11) sc_leftB.nd rfl (Or.inl rfl))) (fun _ _ _ _ _ => pts_nil) (fun _ _ _ _ _ => (pe_op op_mod (L2.pv 11) (L2.pv 6)))) pa_nil)))))))
      (pss_one (ps_ret (pe_callTy call_tuple_of (by rfl) G.b_tuple (by decide +kernel) (pa_cons (pe_callB (cr_sortedSet rfl) (by rfl) G.b_sorted (by decide +kernel) (pa_cons (pe_callTy (cr_setI rfl) (by rfl) G.b_set (by decide +kernel) (pa_cons (L2.pv 7) pa_nil)) pa_nil)) pa_nil))))))), ?_⟩
    walk_at "st"
    refine ⟨_, _, _, _, _, rfl, b1, G.cB, G.nB _ (by decide +kernel), b4, ?_⟩
    walk_at "st"
    refine ⟨ds, .ref l2, rfl, getS b8 y1, ?_⟩
    walk_at "st"
    refine ⟨l2, _, rfl, .inl (sq y2), ?_⟩
    rw [List.length_map]
    walk_at "st"
    refine ⟨g_small0, fun fl hfl => ?_⟩
    walk_at "st"
    have hl1 : upd H fl (.lst []) l = _ := (upd_ne (ne_of_none hl hfl)).trans hl
    have lns : ns.length ≤ 12 := by
      have := len_le_range (n := (spots p (lift N rows)).length) nd fun y hy => hns y hy
      omega
    have nfd : fl ≠ df := (ne_of_none b10 hfl).symm
    refine ⟨_, rfl, ⟨_, st hl1⟩, loopT (xs := ns.map V.int) (fun i σ H' => ∃ (o8 o9 o10 : Option V) (fs' : List Int) (fk' : List (List Key × V)), σ = [some (.ref b), some (.int e), some (.str x), some (.ref l), some (.str y), some (.int t), some (.int (spots p (lift N rows')).length), some (.ref fl), o8, o9, o10, none] ∧
      Sx df H H' ∧ H' df = some (.dT fk') ∧ Cache N p ws fk' ∧ H' fl = some (.lst (fs'.map V.int)) ∧ fs'.length ≤ 12 * i ∧ ∀ j, j ∈ fs' ↔ ∃ i' ∈ ns.take i, ∃ k, lift N rows' (nth p (lift N rows) i' - t - e) ≤ nth p (lift N rows') k ∧ nth p (lift N rows') k ≤ lift N rows' (nth p (lift N rows) i' - t + e) ∧ j = k % (spots p (lift N rows')).length) ?_ ?_ ?_ ?_⟩
    · exact ⟨none, none, none, [], fk, rfl, Sx.refl.put hfl, (upd_ne nfd.symm).trans b10, ca, upd_same, Nat.le_refl _, fun j => by simp⟩
    · rintro i σ H' ⟨o8, o9, o10, fs', fk', rfl, s', _⟩
      exact st (bo.keep s' hl (by intro _ z; cases z))
    · rintro i xv σ H' e' ⟨o8, o9, o10, fs', fk', rfl, s', f', ca', hfl', lf, mf⟩
      rw [List.getElem?_map] at e'
      cases e2 : ns[i]? with
      | none => rw [e2] at e'; cases e'
      | some z =>
      rw [e2] at e'
      obtain rfl : V.int z = xv := Option.some.inj e'
      have hi : i < ns.length := (List.getElem?_eq_some_iff.mp e2).1
      have hz := hns z (mem_of_at e2)
      have rz := nth_rng PF cF hp hz.1 hz.2
      have bo1 := bo.again s' f' ca'
      obtain ⟨dx1, fs1, _, _, _, _, _, c1, _, _, _, _, _, c7, _⟩ := id bo1.ex
      walk_at "st"
      refine ⟨_, _, _, rfl, c1, c7, ?_⟩
      walk_at "st"
      refine ⟨b, x, z, y, -t - e, a, N, ws, p, df, rows, rows', rfl, bo1, lx, ly, hN60, hz.1, by omega, by omega, by omega, fun H2 lo s2 bo2 hlo => ?_⟩
      obtain ⟨dx2, fs2, _, _, _, _, _, d1, _, _, _, _, _, d7, _⟩ := id bo2.ex
      walk_at "st"
      refine ⟨_, _, _, rfl, d1, d7, ?_⟩
      walk_at "st"
      refine ⟨b, x, z, y, -t + e, a, N, ws, p, df, rows, rows', rfl, bo2, lx, ly, hN60, hz.1, by omega, by omega, by omega, fun H3 hh s3 bo3 hhi => ?_⟩
      have fl2 := bo1.keep s2 hfl' (by intro _ z; cases z)
      have fl3 := bo2.keep s3 fl2 (by intro _ z; cases z)
      have nr1 := lift_near hvy.1 (nth p (lift N rows) z + (-t - e))
      have nr2 := lift_near hvy.1 (nth p (lift N rows) z + (-t + e))
      have bl := nth_bound PG cG hp lo
      have bh := nth_bound PG cG hp hh
      rw [hlo] at bl
      rw [hhi] at bh
      walk_at "st"
      refine ⟨.inl ⟨rfl, _, sq fl3⟩, ?_⟩
      walk_at "st"
      refine ⟨_, _, rfl, ?_⟩
      walk_at "st"
      have bnd : -(2 ^ 62) ≤ lo ∧ lo < 2 ^ 62 ∧ -(2 ^ 62) ≤ (if lo + (spots p (lift N rows')).length < hh + 1 then lo + ((spots p (lift N rows')).length : Int) else hh + 1) ∧ (if lo + (spots p (lift N rows')).length < hh + 1 then lo + ((spots p (lift N rows')).length : Int) else hh + 1) < 2 ^ 62 := by
        split <;> (split at bl <;> split at bh <;> omega)
      refine ⟨lo, _, rfl, bnd, fun Dd hD => ?_⟩
      have hm2 : (0 : Int) < (spots p (lift N rows')).length := by omega
      have mr := stretch_mod (lo := lo) (hi := hh) hm2
      generalize en : ((if lo + (spots p (lift N rows')).length < hh + 1 then lo + ((spots p (lift N rows')).length : Int) else hh + 1) - lo).toNat = n at mr ⊢
      have ln : n ≤ 12 := by
        rw [← en]
        split <;> omega
      have ll : ∀ k : Nat, ((List.range k).map fun i : Nat => (lo + (i : Int)) % (spots p (lift N rows')).length).length = k := fun k => by rw [List.length_map, List.length_range]
      refine lcR (fun j H' => Same H3 H' ∧ H' Dd = some (.lst (((List.range j).map fun i : Nat => (lo + (i : Int)) % (spots p (lift N rows')).length).map V.int))) ⟨Same.new hD, upd_same⟩ ?_ ?_
      · rintro j H' hj ⟨s'', hd⟩
        refine lct_n rfl ?_
        walk_at "st"
        refine g_rI hm2 ?_
        refine ⟨_, hd, small1000 (by rw [List.length_map, ll]; omega), s''.sput hD, ?_⟩
        rw [List.range_succ, List.map_append, List.map_append]
        exact upd_same
      · rintro H4 ⟨s4, hd⟩
        walk_at "st"
        have fl4 := s4 _ _ fl3
        refine ⟨fl, Dd, _, _, rfl, rfl, fl4, hd, ?_, ?_⟩
        · refine Nat.le_of_lt (small1000 ?_)
          rw [List.length_map, List.length_map, ll]
          omega
        have s5 : Sx df H H4 := ((s'.trans s2).trans s3).same s4
        have bo4 := bo3.mono s4
        obtain ⟨_, _, _, _, _, _, fk4, _, _, _, _, _, _, _, _, _, f4, ca4, _⟩ := id bo4.ex
        refine ⟨_, _, _, fs' ++ (List.range n).map (fun i : Nat => (lo + (i : Int)) % (spots p (lift N rows')).length), fk4, rfl, s5.mut hfl, (upd_ne nfd.symm).trans f4, ca4, ?_, ?_, fun j => ?_⟩
        · rw [List.map_append]
          exact upd_same
        · rw [List.length_append, ll]
          omega
        · have h1 : nth p (lift N rows) z + (-t - e) = nth p (lift N rows) z - t - e := by omega
          have h2 : nth p (lift N rows) z + (-t + e) = nth p (lift N rows) z - t + e := by omega
          rw [h1] at hlo
          rw [h2] at hhi
          have new : j ∈ (List.range n).map (fun i : Nat => (lo + (i : Int)) % (spots p (lift N rows')).length) ↔ ∃ k, lift N rows' (nth p (lift N rows) z - t - e) ≤ nth p (lift N rows') k ∧ nth p (lift N rows') k ≤ lift N rows' (nth p (lift N rows) z - t + e) ∧ j = k % (spots p (lift N rows')).length := by
            rw [List.mem_map, ← hlo, ← hhi]
            refine Iff.trans ?_ ((mr j).trans ?_)
            · exact ⟨fun ⟨i, a, b⟩ => ⟨i, List.mem_range.mp a, b.symm⟩, fun ⟨i, a, b⟩ => ⟨i, List.mem_range.mpr a, b.symm⟩⟩
            · exact ⟨fun ⟨k, a, b, c⟩ => ⟨k, (nth_le PG cG hp).mp a, (nth_le PG cG hp).mp b, c⟩, fun ⟨k, a, b, c⟩ => ⟨k, (nth_le PG cG hp).mpr a, (nth_le PG cG hp).mpr b, c⟩⟩
          rw [List.mem_append, mf, new, take_snoc e2]
          constructor
          · rintro (⟨i', hi', r⟩ | r)
            · exact ⟨i', List.mem_append_left _ hi', r⟩
            · exact ⟨z, List.mem_append_right _ (List.mem_singleton.mpr rfl), r⟩
          · rintro ⟨i', hi', r⟩
            rcases List.mem_append.mp hi' with hi' | hi'
            · exact .inl ⟨i', hi', r⟩
            · rw [List.mem_singleton.mp hi'] at r
              exact .inr r
    · rintro σ H' ⟨o8, o9, o10, fs', fk', rfl, s', f', ca', hfl', lf, mf⟩
      rw [List.length_map] at lf
      rw [List.length_map, List.take_length] at mf
      walk_at "st"
      refine ⟨fl, fs', rfl, hfl', by omega, fun S n es nde me le hS => ?_⟩
      walk_at "st"
      have hn : n ≤ 12 := by
        have := len_le_range (n := (spots p (lift N rows')).length) nde fun y hy => by
          obtain ⟨_, _, k, _, _, rfl⟩ := (mf y).mp ((me y).mp hy)
          have := euc k (N := ((spots p (lift N rows')).length : Int)) (by omega)
          omega
        omega
      refine ⟨S, _, n, rfl, upd_same, by omega, fun ms q' up mem _ hq => ?_⟩
      walk_at "st"
      refine ⟨q', _, rfl, .inl ⟨sq upd_same, fun l' hl' => ?_⟩⟩
      have s5 : Sx df H (upd (upd (upd H' S (SetO w S (fun j => decide (j ∈ fs')) n)) q' (.lst (ms.map V.int))) l' (.tup (ms.map V.int))) := ((s'.put hS).put hq).put hl'
      refine q _ l' ms s5 (bo.again s5 ?_ ca') upd_same ⟨up, fun j => (mem j).trans (Iff.trans ?_ (mf j))⟩
      · have g1 := ne_of_none f' hS
        have g2 : upd H' S (SetO w S (fun j => decide (j ∈ fs')) n) df = _ := (upd_ne g1).trans f'
        have g3 := ne_of_none g2 hq
        have g4 : upd (upd H' S (SetO w S (fun j => decide (j ∈ fs')) n)) q' (.lst (ms.map V.int)) df = _ := (upd_ne g3).trans g2
        exact (upd_ne (ne_of_none g4 hl')).trans g4
      · exact decide_eq_true_iff
end
end Jaw

/-! ## W11 -/
set_option Elab.async false
set_option linter.all false
set_option maxRecDepth 100000
set_option maxHeartbeats 4000000
namespace Jaw
open PySem PySem.Spec PyProof.Rows L2
local macro_rules | `(tactic| walk_at "st") => `(tactic| ((try (set_option simprocs false in dsimp only)); (repeat (first
  | with_reducible refine g_seq ?_
  | with_reducible refine g_set ?_
  | with_reducible refine g_asg ?_
  | with_reducible refine g_drop ?_
  | with_reducible refine g_ret ?_
  | with_reducible refine g_retN ?_
  | with_reducible refine g_ifs ?_
  | with_reducible refine g_next ?_
  | with_reducible refine g_brk ?_
  | with_reducible refine g_cont ?_
  | (with_reducible refine g_var ?_; refine ⟨_, rfl, ?_⟩)
  | with_reducible refine g_c ?_
  | with_reducible refine g_op ?_
  | with_reducible refine g_un ?_
  | with_reducible refine g_rI0 ?_
  | with_reducible refine g_rU ?_
  | with_reducible refine g_nil ?_
  | with_reducible refine g_cons ?_
  | with_reducible refine g_cb ?_
  | with_reducible refine g_call ?_
  | with_reducible refine g_test ?_
  | with_reducible refine g_tB ?_
  | with_reducible refine g_bl ?_
  | with_reducible refine g_and ?_
  | with_reducible refine g_or ?_
  | with_reducible refine g_not ?_
  | with_reducible refine g_andV ?_
  | with_reducible refine g_orV ?_
  | with_reducible refine g_notV ?_
  | with_reducible refine g_ife ?_
  | with_reducible refine g_chain ?_
  | with_reducible refine g_par ?_
  | with_reducible refine g_tup ?_
  | with_reducible refine g_lst ?_
  | with_reducible refine g_fld ?_
  | with_reducible refine g_meth ?_
  | with_reducible refine g_sfld ?_
  | with_reducible refine g_prop ?_
  | with_reducible refine g_item ?_
  | with_reducible refine g_eqI ?_
  | with_reducible refine g_neI ?_
  | with_reducible refine g_for ?_
  | with_reducible refine g_lc ?_
  | with_reducible refine g_iE ?_
  | with_reducible refine g_iL ?_
  | with_reducible refine g_iT ?_
  | with_reducible refine g_iR1 ?_
  | with_reducible refine g_iR2 ?_
  | with_reducible refine g_iV ?_
  | with_reducible refine g_iK ?_
  | with_reducible refine g_yes ?_
  | with_reducible refine g_dc ?_
  | with_reducible refine g_dnK ?_
  | with_reducible refine g_dnT ?_
  | with_reducible refine g_dget ?_
  | with_reducible refine g_dput ?_
  | with_reducible refine g_din ?_
  | with_reducible refine g_dnin ?_
  | with_reducible refine g_bm ?_
  | with_reducible refine g_si ?_
  | with_reducible refine g_lstRg ?_
  | with_reducible refine g_tupRg ?_
  | with_reducible refine g_rg1 ?_
  | with_reducible refine g_gn ?_
  | with_reducible refine g_nt ?_
  | with_reducible refine g_nf ?_
  | with_reducible refine iteT ?_
  | with_reducible refine iteF ?_))))
section
variable {P : Program} {w : World} {K : PySem.W.Frag} {mg : Str → Option Value} {base : Heap}
structure SlackAt (K : PySem.W.Frag) (H : Hp) (a : Addr) (r e : Int) : Prop where
  ex : ∃ dx fs, H a = some (.ins (He.ga K "Slack") dx fs) ∧ fs.lookup ("rest" : Str) = some (.int r) ∧ fs.lookup ("border" : Str) = some (.int e)
theorem SlackAt.mono {H H' : Hp} {a : Addr} {r e : Int} (h : SlackAt K H a r e) (s : Same H H') : SlackAt K H' a r e := by
  obtain ⟨dx, fs, h1, h2, h3⟩ := h.ex
  exact ⟨dx, fs, s _ _ h1, h2, h3⟩
def spSlInit (K : PySem.W.Frag) : Sp := fun vs H Q _ => ∃ p dx r e, vs = [.ref p, .int r, .int e] ∧ H p = some (.ins (He.ga K "Slack") dx []) ∧ 0 ≤ r ∧ r ≤ 60 ∧ 0 ≤ e ∧ e ≤ 60 ∧ ∀ H', Sx p H H' → SlackAt K H' p r e → Q .non H'
theorem sc_slInit : FnScope ["self", "rest", "border", "value"] ["self", "rest", "border"] (defScope s_slInit) := ⟨rfl, rfl, rfl, by decide +kernel, rfl, by decide +kernel, by decide +kernel⟩
theorem bd_slInit : Bd ["self", "rest", "border"] "__init__" s_slInit := fun _ _ _ _ _ _ _ us hl => match us, hl with | [_, _, _], _ => rfl
theorem ok_slInit (F : Id K (He.ga K "Slack") "Slack.__init__" s_slInit []) (hm : mg "Slack" = some (.ref (He.ga K "Slack"))) (G : Mod0 K mg) (c_isInt : C8.Cal P w K mg base 1 "is_integer" spIsInt []) : C8.Mak P w K mg base 2 "Slack" (He.ga K "Slack") (spSlInit K) [] := by
  refine mak_of F hm sc_slInit bd_slInit (fun vs H Q E h => ?_) fun f cdv A outer s H vs Q E hr h => ?_
  · obtain ⟨_, _, _, _, rfl, _⟩ := h; rfl
  · obtain ⟨p, dx, r, e, rfl, hp, r0, r1, e0, e1, k⟩ := h
    refine ⟨_, (pss_cons (ps_for PassesOwn.never rfl (pi_tup (pe_tup (pa_cons (L2.pv 1) (pa_cons (L2.pv 2) pa_nil)))) (pg_name (i := 3) sc_slInit.nd rfl (Or.inl rfl)) (pss_one (ps_if (PW.pt (pw_or (pt_not (pt_val (C8.pe_c c_isInt hr (by decide) rfl (pa_cons (L2.pv 3) pa_nil)))) (pw_or1 (pt_not (pt_chain op_le op_le pe_int (L2.pv 3) (pe_gi rfl G.MOST_SLACK)))))) pss_never pss_nil)))
      (pss_cons (ps_fld (L2.pv 0) (L2.pv 1) rfl)
      (pss_one (ps_fld (L2.pv 0) (L2.pv 2) rfl)))), ?_⟩
    walk_at "st"
    refine ⟨g_small2, fun T hT => ?_⟩
    have npT : p ≠ T := ne_of_none hp hT
    refine ⟨_, rfl, ⟨_, st upd_same⟩, loopT (xs := [.int r, .int e]) (fun i σ H' => ∃ o3, σ = [some (.ref p), some (.int r), some (.int e), o3] ∧ H' = upd H T (.tup [.int r, .int e])) ?_ ?_ ?_ ?_⟩
    · exact ⟨_, rfl, rfl⟩
    · rintro i σ H' ⟨o3, rfl, rfl⟩
      exact st upd_same
    · rintro i x σ H' e' ⟨o3, rfl, rfl⟩
      obtain ⟨v, rfl, v0, v1⟩ : ∃ v : Int, x = .int v ∧ 0 ≤ v ∧ v ≤ 60 := by
        match i, e' with
        | 0, e' => exact ⟨r, (Option.some.inj e').symm, r0, r1⟩
        | 1, e' => exact ⟨e, (Option.some.inj e').symm, e0, e1⟩
        | n + 2, e' => simp at e'
      walk_at "st"
      refine ⟨v, rfl, ?_⟩
      walk_at "st"
      refine iD v0 ?_
      walk_at "st"
      refine iN v1 ?_
      walk_at "st"
      exact ⟨_, rfl, rfl⟩
    · rintro σ H' ⟨o3, rfl, rfl⟩
      walk_at "st"
      refine ⟨_, _, _, _, rfl, (upd_ne npT).trans hp, G.cS, G.nS _ (by decide +kernel), by decide, ?_⟩
      walk_at "st"
      refine ⟨_, _, _, _, rfl, upd_same, G.cS, G.nS _ (by decide +kernel), pl1, ?_⟩
      walk_at "st"
      refine k _ (((Sx.of (Same.new hT)).upd).upd) ⟨dx, _, upd_same, ?_, lk_same⟩
      rw [lk_put (by decide +kernel), lk_same]
def spCovered : Sp := fun vs H Q _ => ∃ a s ns, vs = [.ref a, .int s] ∧ H a = some (.lst ((ns : List Int).map V.int)) ∧ ns.Pairwise (· < ·) ∧ (∀ y ∈ ns, 0 ≤ y ∧ y < s) ∧ 0 < ns.length ∧ ns.length ≤ 400 ∧ ∀ H' c, Same H H' → (c ≤ 0 → ns.length = 1) → Q (.int c) H'
theorem sc_covered : FnScope ["places", "span", "gaps", "at"] ["places", "span"] (defScope s_covered) := ⟨rfl, rfl, rfl, by decide +kernel, rfl, by decide +kernel, by decide +kernel⟩
theorem bd_covered : Bd ["places", "span"] "covered" s_covered := fun _ _ _ _ _ _ _ us hl => match us, hl with | [_, _], _ => rfl
theorem ok_covered (F : Fd K mg "covered" s_covered []) (G : Mod0 K mg) : C8.Cal P w K mg base 1 "covered" spCovered [] := by
  refine cal_of F sc_covered bd_covered (fun vs H Q E h => ?_) fun f cdv A outer s H vs Q E hr h => ?_
  · obtain ⟨_, _, _, rfl, _⟩ := h; rfl
  · obtain ⟨a, s', ns, rfl, ha, up, rng, l0, l1, k⟩ := h
    refine ⟨_, (pss_cons (ps_set (i := 2) sc_covered.nd rfl (Or.inl rfl) (pe_lst (pa_cons (pe_op op_sub (pe_op op_add (pe_ix ix_list (L2.pv 0) pe_int (fun _ _ => rfl)) (L2.pv 1)) (pe_ix ix_list (L2.pv 0) (pe_un un_neg pe_int) (fun _ _ => rfl))) pa_nil)))
      (pss_cons (ps_for PassesOwn.never rfl (pi_range2 rfl G.b_range (pa_cons pe_int (pa_cons (pe_callB call_len_seq (by rfl) G.b_len (by decide +kernel) (pa_cons (L2.pv 0) pa_nil)) pa_nil))) (pg_name (i := 3) sc_covered.nd rfl (Or.inl rfl)) (pss_one (ps_expr (pe_bm PySem.F.plainAttrs_list PySem.F.slot_list_append PySem.F.type_list_append mt_append (L2.pv 2) (pa_cons (pe_op op_sub (pe_ix ix_list (L2.pv 0) (L2.pv 3) (fun _ _ => rfl)) (pe_ix ix_list (L2.pv 0) (pe_op op_sub (L2.pv 3) pe_int) (fun _ _ => rfl))) pa_nil)))))
      (pss_one (ps_ret (pe_op op_sub (L2.pv 1) (pe_callB (cr_max rfl) (by rfl) G.b_max (by decide +kernel) (pa_cons (L2.pv 2) pa_nil))))))), ?_⟩
    obtain ⟨ys, z, rfl⟩ : ∃ ys z, ns = ys ++ [z] := by
      rcases List.eq_nil_or_concat ns with h | ⟨ys, z, h⟩
      · rw [h] at l0; cases l0
      · exact ⟨ys, z, by rw [h, List.concat_eq_append]⟩
    obtain ⟨x, hx⟩ : ∃ x, (ys ++ [z])[0]? = some x := ⟨_, List.getElem?_eq_getElem l0⟩
    have hxz : x < z ∨ ys = [] := by
      cases ys with
      | nil => exact .inr rfl
      | cons u l =>
        have hu : u = x := by simpa using hx
        subst hu
        rw [List.cons_append, List.pairwise_cons] at up
        exact .inl (up.1 z (List.mem_append_right _ (List.mem_singleton.mpr rfl)))
    have rx := rng x (mem_of_at hx)
    have rz := rng z (List.mem_append_right _ (List.mem_singleton.mpr rfl))
    walk_at "st"
    refine ⟨_, _, _, _, rfl, rfl, sq ha, atI_nat (j := 0) (v := .int x) (by rw [List.getElem?_map, hx]; rfl), ?_⟩
    walk_at "st"
    refine ⟨_, _, _, _, rfl, rfl, sq ha, by rw [List.map_append]; exact atI_last _ _, ?_⟩
    walk_at "st"
    refine ⟨g_small1, fun gl hgl => ?_⟩
    have nag := ne_of_none ha hgl
    have s1 : Same H (upd H gl (.lst [.int (x + s' - z)])) := Same.new hgl
    walk_at "st"
    refine ⟨a, _, rfl, .inl (sq (s1 _ _ ha)), ?_⟩
    rw [List.length_map]
    walk_at "st"
    refine ⟨1, _, rfl, by omega, loopR (fun i σ H' => ∃ (o3 : Option V) (gs : List Int), σ = [some (.ref a), some (.int s'), some (.ref gl), o3] ∧ Same H H' ∧ H' gl = some (.lst (gs.map V.int)) ∧ 0 < gs.length ∧ gs.length ≤ i + 1 ∧ ∀ y ∈ gs, y = x + s' - z ∨ y < s') ?_ ?_ ?_⟩
    · exact ⟨none, [x + s' - z], rfl, s1, upd_same, Nat.succ_pos _, Nat.le_refl _, fun y hy => .inl (List.mem_singleton.mp hy)⟩
    · rintro i σ H' hi ⟨o3, gs, rfl, s2, hg, g0, g1, mg'⟩
      have hi : i < (((ys ++ [z]).length : Int) - 1).toNat := hi
      obtain ⟨u, hu⟩ : ∃ u, (ys ++ [z])[i + 1]? = some u := ⟨_, List.getElem?_eq_getElem (by omega)⟩
      obtain ⟨v, hv⟩ : ∃ v, (ys ++ [z])[i]? = some v := ⟨_, List.getElem?_eq_getElem (by omega)⟩
      have ru := rng u (mem_of_at hu)
      have rv := rng v (mem_of_at hv)
      have e1 : (1 : Int) + (i : Int) = ((i + 1 : Nat) : Int) := by omega
      have e2 : (1 : Int) + (i : Int) - 1 = ((i : Nat) : Int) := by omega
      walk_at "st"
      refine ⟨.inl ⟨rfl, _, sq hg⟩, ?_⟩
      walk_at "st"
      refine ⟨_, _, _, _, rfl, rfl, sq (s2 _ _ ha), (by rw [e1]; exact atI_nat (j := i + 1) (v := .int u) (by rw [List.getElem?_map, hu]; rfl)), ?_⟩
      walk_at "st"
      refine ⟨_, _, _, _, rfl, rfl, sq (s2 _ _ ha), (by rw [e2]; exact atI_nat (j := i) (v := .int v) (by rw [List.getElem?_map, hv]; rfl)), ?_⟩
      walk_at "st"
      refine ⟨gl, _, _, rfl, rfl, hg, small1000 (by rw [List.length_map]; omega), ?_⟩
      refine ⟨_, gs ++ [u - v], rfl, s2.sput hgl, ?_, by rw [List.length_append]; omega, by rw [List.length_append]; exact Nat.succ_le_succ g1, fun y hy => ?_⟩
      · rw [List.map_append]; exact upd_same
      · rcases List.mem_append.mp hy with hy | hy
        · exact mg' y hy
        · rw [List.mem_singleton.mp hy]
          exact .inr (by omega)
    · rintro σ H' ⟨o3, gs, rfl, s2, hg, g0, g1, mg'⟩
      walk_at "st"
      refine ⟨gl, gs, rfl, sq hg, g0, fun m hm _ => ?_⟩
      walk_at "st"
      refine k _ _ s2 fun hc => ?_
      rcases hxz with h | h
      · rcases mg' m hm with q | q <;> omega
      · subst h; rfl
def spChkRoom (K : PySem.W.Frag) : Sp := fun vs H Q _ => ∃ a N ws, vs = [.ref a, .int 0] ∧ PartAt K H a N ws ∧ Q .non H
theorem sc_chkRoom : FnScope ["part", "room"] ["part", "room"] (defScope s_chkRoom) := ⟨rfl, rfl, rfl, by decide +kernel, rfl, by decide +kernel, by decide +kernel⟩
theorem bd_chkRoom : Bd ["part", "room"] "check_room" s_chkRoom := fun _ _ _ _ _ _ _ us hl => match us, hl with | [_, _], _ => rfl
theorem ok_chkRoom (F : Fd K mg "check_room" s_chkRoom []) (G : Mod0 K mg) (c_isInt : C8.Cal P w K mg base 1 "is_integer" spIsInt []) : C8.Cal P w K mg base 2 "check_room" (spChkRoom K) [] := by
  refine cal_of F sc_chkRoom bd_chkRoom (fun vs H Q E h => ?_) fun f cdv A outer s H vs Q E hr h => ?_
  · obtain ⟨_, _, _, rfl, _⟩ := h; rfl
  · obtain ⟨a, N, ws, rfl, pa, k⟩ := h
    obtain ⟨dx, fs, d, kvs, h1, h2, h3, h4, h5, h6⟩ := id pa.ex
    have := pa.ok.n2
    refine ⟨_, (pss_one (ps_if (PW.pt (pw_or (pt_not (pt_val (C8.pe_c c_isInt hr (by decide) rfl (pa_cons (L2.pv 1) pa_nil)))) (pw_or1 (pt_not (pt_chain op_le op_le pe_int (L2.pv 1) (pe_fld (L2.pv 0) rfl)))))) pss_never pss_nil)), ?_⟩
    walk_at "st"
    refine ⟨0, rfl, ?_⟩
    walk_at "st"
    refine iD (Int.le_refl 0) ?_
    walk_at "st"
    refine ⟨_, _, _, _, _, rfl, h1, G.cP, G.nP _ (by decide +kernel), h2, ?_⟩
    walk_at "st"
    refine iN (by omega) ?_
    walk_at "st"
    exact k
end
end Jaw

/-! ## W12 -/
set_option Elab.async false
set_option linter.all false
set_option maxRecDepth 100000
set_option maxHeartbeats 4000000
namespace Jaw
open PySem PySem.Spec PyProof.Rows L2
theorem g_make {C : Addr} {sp : Sp} {dvs : List V} {E : XK} {t : TA} {σ : L2.St} {H : Hp} {Q : VK} (h : t σ H fun vs H1 => ∀ x dx, H1 x = none → H1 dx = none → dx ≠ x → sp (.ref x :: (vs ++ dvs)) (upd (upd H1 dx (.own x)) x (.ins C dx [])) (fun v H2 => v = .non ∧ Q (.ref x) H2) E) : tMake C sp dvs E t σ H Q := h
theorem g_eqS {a b : Str} {H : Hp} {Q : VK} (h : Q (.bl (decide (V.str a = V.str b))) H) : rEq (.str a) (.str b) H Q := ⟨rfl, h⟩
theorem g_neS {a b : Str} {H : Hp} {Q : VK} (h : Q (.bl (!decide (V.str a = V.str b))) H) : rNe (.str a) (.str b) H Q := ⟨rfl, h⟩
local macro_rules | `(tactic| walk_at "st") => `(tactic| ((try (set_option simprocs false in dsimp only)); (repeat (first
  | with_reducible refine g_seq ?_
  | with_reducible refine g_set ?_
  | with_reducible refine g_asg ?_
  | with_reducible refine g_drop ?_
  | with_reducible refine g_ret ?_
  | with_reducible refine g_retN ?_
  | with_reducible refine g_ifs ?_
  | with_reducible refine g_next ?_
  | with_reducible refine g_brk ?_
  | with_reducible refine g_cont ?_
  | (with_reducible refine g_var ?_; refine ⟨_, rfl, ?_⟩)
  | with_reducible refine g_c ?_
  | with_reducible refine g_op ?_
  | with_reducible refine g_un ?_
  | with_reducible refine g_rI0 ?_
  | with_reducible refine g_rU ?_
  | with_reducible refine g_nil ?_
  | with_reducible refine g_cons ?_
  | with_reducible refine g_cb ?_
  | with_reducible refine g_call ?_
  | with_reducible refine g_test ?_
  | with_reducible refine g_tB ?_
  | with_reducible refine g_bl ?_
  | with_reducible refine g_and ?_
  | with_reducible refine g_or ?_
  | with_reducible refine g_not ?_
  | with_reducible refine g_andV ?_
  | with_reducible refine g_orV ?_
  | with_reducible refine g_notV ?_
  | with_reducible refine g_ife ?_
  | with_reducible refine g_chain ?_
  | with_reducible refine g_par ?_
  | with_reducible refine g_tup ?_
  | with_reducible refine g_lst ?_
  | with_reducible refine g_fld ?_
  | with_reducible refine g_meth ?_
  | with_reducible refine g_sfld ?_
  | with_reducible refine g_prop ?_
  | with_reducible refine g_item ?_
  | with_reducible refine g_eqI ?_
  | with_reducible refine g_neI ?_
  | with_reducible refine g_for ?_
  | with_reducible refine g_lc ?_
  | with_reducible refine g_iE ?_
  | with_reducible refine g_iL ?_
  | with_reducible refine g_iT ?_
  | with_reducible refine g_iR1 ?_
  | with_reducible refine g_iR2 ?_
  | with_reducible refine g_iV ?_
  | with_reducible refine g_iK ?_
  | with_reducible refine g_yes ?_
  | with_reducible refine g_make ?_
  | with_reducible refine g_eqS ?_
  | with_reducible refine g_neS ?_
  | with_reducible refine g_dc ?_
  | with_reducible refine g_dnK ?_
  | with_reducible refine g_dnT ?_
  | with_reducible refine g_dget ?_
  | with_reducible refine g_dput ?_
  | with_reducible refine g_din ?_
  | with_reducible refine g_dnin ?_
  | with_reducible refine g_bm ?_
  | with_reducible refine g_si ?_
  | with_reducible refine g_lstRg ?_
  | with_reducible refine g_tupRg ?_
  | with_reducible refine g_rg1 ?_
  | with_reducible refine g_gn ?_
  | with_reducible refine g_nt ?_
  | with_reducible refine g_nf ?_
  | with_reducible refine iteT ?_
  | with_reducible refine iteF ?_))))
section
variable {P : Program} {w : World} {K : PySem.W.Frag} {mg : Str → Option Value} {base : Heap}
theorem _root_.L2.Same.over {H H2 H' : Hp} {df : Addr} (s : Same H H2) (t : Sx df H2 H') (h : H df = none) : Same H H' := fun b o e => t _ _ (s _ _ e) (ne_of_none e h)
def spLeftA (K : PySem.W.Frag) : Sp := fun vs H Q _ => ∃ a sl b N ws r e ds p, vs = [.ref a, .ref sl, .ref b] ∧ PartAt K H a N ws ∧ SlackAt K H sl r e ∧ PlanAt K H b N ds ∧ PerOf N (maps N ws) p ∧ (∀ d ∈ ds, (ws.lookup d.1).isSome = true ∧ 0 ≤ d.2 ∧ d.2 < N) ∧ ds.length ≤ 60 ∧ N ≤ 60 ∧
  0 ≤ r ∧ 0 ≤ e ∧ r + e ≤ 100 ∧ ∀ H' l ms, Same H H' → H' l = some (.lst ((ms : List Int).map V.int)) → Asc ms (Ts p (r + e) (FW N ws) ds) → Q (.ref l) H'
theorem sc_leftA : FnScope ["part", "slack", "plan", "board", "left", "word", "last", "v", "turn", "step", "i"] ["part", "slack", "plan"] (defScope s_leftA) := ⟨rfl, rfl, rfl, by decide +kernel, rfl, by decide +kernel, by decide +kernel⟩
theorem bd_leftA : Bd ["part", "slack", "plan"] "left_after" s_leftA := fun _ _ _ _ _ _ _ us hl => match us, hl with | [_, _, _], _ => rfl
theorem ok_leftA (F : Fd K mg "left_after" s_leftA []) (G : Mod0 K mg) (c_chkPlan : C8.Cal P w K mg base 3 "check_plan" (spChkPlan K) []) (c_bInit : C8.Mak P w K mg base 6 "Board" (He.ga K "Board") (spBInit K) [])
    (c_leftB : C8.Cal P w K mg base 5 "left_behind" (spLeftB K) []) : C8.Cal P w K mg base 8 "left_after" (spLeftA K) [] := by
  refine cal_of F sc_leftA bd_leftA (fun vs H Q E h => ?_) fun f cdv A outer s H vs Q E hr h => ?_
  · obtain ⟨_, _, _, _, _, _, _, _, _, rfl, _⟩ := h; rfl
  · obtain ⟨a, sl, b, N, ws, r, e, ds, p, rfl, pa, sa, pl, hper, hd, hl60, hN60, r0, e0, re, k⟩ := h
    have hu := hu_of hr
    have hN : 0 < N := by have := pa.ok.n2; omega
    have hp := hper.pos
    have hpN := hper.le hN
    refine ⟨_, (pss_cons (ps_expr (C8.pe_c c_chkPlan hr (by decide) rfl (pa_cons (L2.pv 0) (pa_cons (L2.pv 2) pa_nil))))
      (pss_cons (ps_set (i := 3) sc_leftA.nd rfl (Or.inr rfl) (C8.pe_mk c_bInit hr (by decide) rfl (pa_cons (L2.pv 0) pa_nil)))
      (pss_cons (ps_set (i := 4) sc_leftA.nd rfl (Or.inl rfl) (pe_tup pa_nil))
      (pss_cons (ps_set (i := 5) sc_leftA.nd rfl (Or.inr rfl) pe_str)
      (pss_cons (ps_set (i := 6) sc_leftA.nd rfl (Or.inr rfl) pe_int)
      (pss_cons (ps_for PassesOwn.never rfl (pi_tup (pe_fld (L2.pv 2) rfl)) (pg_tup rfl (pgs_cons (pg_name (i := 7) sc_leftA.nd rfl (Or.inl rfl)) (pgs_cons (pg_name (i := 8) sc_leftA.nd rfl (Or.inl rfl)) pgs_nil))) (pss_cons (ps_if (pt_cmpR op_eq (L2.pv 5) pe_str (nomark _)) (pss_one (ps_set (i := 4) sc_leftA.nd rfl (Or.inl rfl) (pe_tupRg rfl rfl G.b_tuple (prg_1 rfl G.b_range (pe_callB call_len_seq (by rfl) G.b_len (by decide +kernel) (pa_cons (pe_dget hu (pe_fld (L2.pv 3) rfl) (L2.pv 7) (fun _ _ => rfl)) pa_nil)))))) (pss_cons (ps_set (i := 9) sc_leftA.nd rfl (Or.inl rfl) (pe_op op_mod (pe_op op_sub (L2.pv 8) (L2.pv 6)) (pe_fld (L2.pv 0) rfl)))
      (pss_one (ps_set (i := 4) sc_leftA.nd rfl (Or.inl rfl) (C8.pe_c c_leftB hr (by decide) rfl (pa_cons (L2.pv 3) (pa_cons (pe_op op_add (pe_fld (L2.pv 1) rfl) (pe_fld (L2.pv 1) rfl)) (pa_cons (L2.pv 5) (pa_cons (L2.pv 4) (pa_cons (L2.pv 7) (pa_cons (L2.pv 9) pa_nil)))))))))))
      (pss_cons (ps_set (i := 5) sc_leftA.nd rfl (Or.inr rfl) (L2.pv 7))
      (pss_one (ps_set (i := 6) sc_leftA.nd rfl (Or.inr rfl) (L2.pv 8))))))
      (pss_cons (ps_if (pt_cmpR op_eq (L2.pv 5) pe_str (nomark _)) (pss_one (ps_ret (pe_listRg rfl rfl G.b_list (prg_1 rfl G.b_range (pe_fld (L2.pv 3) rfl))))) pss_nil)
      (pss_one (ps_ret (pe_callB cr_sorted (by rfl) G.b_sorted (by decide +kernel) (pa_cons (pe_lc (own := [("i", 10)]) (g := (gName 10)) (tt := tYes) rfl sc_leftA.nd (pi_tup (L2.pv 4)) (blkOk_by (N := ["part", "slack", "plan", "board", "left", "word", "last", "v", "turn", "step", "i"]) (sc := defScope s_leftA) (by decide +kernel)) (fun _ _ _ _ _ => (pg_name (i := 10) sc_leftA.nd rfl (Or.inl rfl))) (fun _ _ _ _ _ => pts_nil) (fun _ _ _ _ _ => (pe_op op_mod (pe_op op_add (pe_ix (ix_listK (K := K) rfl) (pe_dget hu (pe_fldK (K := K) rfl (L2.pv 3) rfl) (L2.pv 5) (fun _ _ => rfl)) (L2.pv 10) (fun _ _ => rfl)) (L2.pv 6)) (pe_fldK (K := K) rfl (L2.pv 3) rfl)))) pa_nil))))))))))), ?_⟩
    walk_at "st"
    refine ⟨_, _, _, _, _, rfl, pa, pl, fun d h => (hd d h).1, fun H1 s1 => ?_⟩
    walk_at "st"
    intro bx dx nx nd ndx
    refine ⟨bx, dx, a, N, ws, p, rfl, upd_same, (pa.mono s1).mono ((Same.new nd).snew (by rw [upd_ne ndx.symm]; exact nx)), hper, hN60, fun H2 df s2 hdf bo => ⟨rfl, ?_⟩⟩
    have sH2 : Same H H2 := s1.trans (Sx.made nx nd s2)
    have hdf1 : H1 df = none := by
      have n1 : df ≠ bx := fun z => by rw [z, upd_same] at hdf; cases hdf
      rw [upd_ne n1] at hdf
      have n2 : df ≠ dx := fun z => by rw [z, upd_same] at hdf; cases hdf
      rw [upd_ne n2] at hdf
      exact hdf
    have hdf0 : H df = none := s1.free hdf1
    obtain ⟨pdx, pfs, pd, pk, p1, p2, p3, p4, p5, p6⟩ := id pa.ex
    obtain ⟨dy, gs, tt, xs, g1, g2, g3, g4, dv⟩ := id pl.ex
    obtain ⟨sdx, sfs, q1, q2, q3⟩ := id sa.ex
    have getS : ∀ {H' : Hp} {d : Addr} {kk : List (Key × V)} {z : Str} {v : V}, H' d = some (.dK kk) → valV kk (Sum.inr z : Key) = some v → DGet H' d (.str z) (some v) := fun {H' d kk z v} e e2 => by
      have := DGet.k (k := Sum.inr z) e
      rw [e2] at this
      exact this
    have notE : ∀ {x : Str} {rows}, ws.lookup x = some rows → V.str x ≠ V.str "" := fun {x rows} lk z => by
      have := V.str.inj z
      subst this
      rcases pa.ok.word lk with h | h <;> revert h <;> decide +kernel
    have ld := dv.len
    walk_at "st"
    refine ⟨g_small0, fun l0 hl0 => ?_⟩
    have sx3 : Sx df H2 (upd H2 l0 (.tup [])) := Sx.of (Same.new hl0)
    have bo3 := bo.mono (Same.new (o := .tup []) hl0)
    walk_at "st"
    have sH3 := sH2.snew (o := .tup []) hl0
    refine ⟨_, _, _, _, _, rfl, sH3 _ _ g1, G.cL, G.nL _ (by decide +kernel), g3, ?_⟩
    refine ⟨_, rfl, ⟨_, st (sH3 _ _ g4)⟩, loopT (xs := xs) (fun i σ H' => ∃ (lf : Addr) (x : Str) (t : Int) (o7 o8 o9 : Option V), σ = [some (.ref a), some (.ref sl), some (.ref b), some (.ref bx), some (.ref lf), some (.str x), some (.int t), o7, o8, o9, none] ∧ Sx df H2 H' ∧ BoardAt K H' bx a N ws p df ∧
      ((i = 0 ∧ x = "" ∧ t = 0) ∨ ∃ rows ns, ws.lookup x = some rows ∧ 0 ≤ t ∧ t < N ∧ H' lf = some (.tup ((ns : List Int).map V.int)) ∧ ns.Nodup ∧ (∀ j ∈ ns, 0 ≤ j ∧ j < (spots p (lift N rows)).length) ∧ 0 < i ∧ ∀ v, Ts p (r + e) (FW N ws) (ds.take i) v ↔ atI' p (lift N rows) t (· ∈ ns) v)) ?_ ?_ ?_ ?_⟩
    · exact ⟨l0, "", 0, none, none, none, rfl, sx3, bo3, .inl ⟨rfl, rfl, rfl⟩⟩
    · rintro i σ H' ⟨lf, x, t, o7, o8, o9, rfl, s', _⟩
      exact st (sH2.over s' hdf0 _ _ g4)
    · rintro i xv σ H' e' ⟨lf, x, t, o7, o8, o9, rfl, s', bo', alt⟩
      obtain ⟨d, td, e1, rfl, ht⟩ := dv.at1 e'
      have hdm := hd d (mem_of_at e1)
      obtain ⟨rows', ly⟩ := Option.isSome_iff_exists.mp hdm.1
      have hvy : Valid N rows' ∧ rows'.length ≤ 12 := pa.ok.val _ (lookup_mem ly)
      have PG := lift_proj hvy.1
      have cG : Com (lift N rows') p := hper.com _ (List.mem_map.mpr ⟨_, lookup_mem ly, rfl⟩)
      have sH' := sH2.over s' hdf0
      have m2 := spots_ne PG cG hp
      have z2 := Nat.le_trans (spots12 hvy.1 hp hpN) hvy.2
      refine g_g2 (st (sH' _ _ ht)) ?_
      walk_at "st"
      rcases alt with ⟨i0, rfl, t00⟩ | ⟨rows, ns, lx, t0, t1, hlf, nns, rns, i1, set⟩
      · refine iD rfl ?_
        obtain ⟨bdx, bfs, ds', dl', ks', ls', fk', b1, b2, b3, b4, b5, b6, b7, b8, b9, b10, ca, sp⟩ := id bo'.ex
        obtain ⟨l2, sd2, kv2, y1, y2, y3, y4, y5, y6, y7⟩ := sp d.1 rows' ly
        walk_at "st"
        refine ⟨_, _, _, _, _, rfl, b1, G.cB, G.nB _ (by decide +kernel), b4, ?_⟩
        walk_at "st"
        refine ⟨ds', .ref l2, rfl, getS b8 y1, ?_⟩
        walk_at "st"
        refine ⟨l2, _, rfl, .inl (sq y2), ?_⟩
        rw [List.length_map]
        refine ⟨_, rfl, RgOk.of_le (by decide) (by omega) (by decide) (by omega), fun q hq => ?_⟩
        walk_at "st"
        refine ⟨q, d.1, d.2, _, _, _, rfl, s'.put hq, bo'.mono (Same.new hq), .inr ⟨rows', (List.range (spots p (lift N rows')).length).map (fun i : Nat => (i : Int)), ly, hdm.2.1, hdm.2.2, ?_, (asc_rg _).imp fun h => Int.ne_of_lt h, fun j hj => ?_, Nat.succ_pos _, fun v => ?_⟩⟩
        · rw [upd_same, rgV0, Int.toNat_natCast]
        · have := (mem_rg (N := ((spots p (lift N rows')).length : Int)) (by omega)).mp (by rw [Int.toNat_natCast]; exact hj)
          omega
        · subst i0
          rw [take_snoc e1, Ts_snoc]
          refine (first_set PG cG hp (by omega) (FW_at ly) v).trans ?_
          unfold atI'
          constructor
          · rintro ⟨j, hj, rfl⟩
            exact ⟨j, by have := (mem_rg (N := ((spots p (lift N rows')).length : Int)) (by omega)).mpr hj; rwa [Int.toNat_natCast] at this, rfl⟩
          · rintro ⟨j, hj, rfl⟩
            exact ⟨j, (mem_rg (N := ((spots p (lift N rows')).length : Int)) (by omega)).mp (by rw [Int.toNat_natCast]; exact hj), rfl⟩
      · have hvx : Valid N rows ∧ rows.length ≤ 12 := pa.ok.val _ (lookup_mem lx)
        have PF := lift_proj hvx.1
        have cF : Com (lift N rows) p := hper.com _ (List.mem_map.mpr ⟨_, lookup_mem lx, rfl⟩)
        refine iDn (notE lx) ?_
        walk_at "st"
        refine ⟨_, _, _, _, _, rfl, sH' _ _ p1, G.cP, G.nP _ (by decide +kernel), p2, ?_⟩
        refine g_rI hN ?_
        walk_at "st"
        refine ⟨_, _, _, _, _, rfl, sH' _ _ q1, G.cS, G.nS _ (by decide +kernel), q2, ?_⟩
        walk_at "st"
        refine ⟨_, _, _, _, _, rfl, sH' _ _ q1, G.cS, G.nS _ (by decide +kernel), q3, ?_⟩
        walk_at "st"
        have eu := euc (d.2 - t) hN
        refine ⟨bx, r + e, x, lf, d.1, (d.2 - t) % N, a, N, ws, p, df, rows, rows', ns, rfl, bo', lx, ly, hN60, by omega, re, eu.2.1, eu.2.2, hlf, nns, rns, fun H3 q ms s3 bo3' hq asc => ?_⟩
        walk_at "st"
        refine ⟨q, d.1, d.2, _, _, _, rfl, s'.trans s3, bo3', .inr ⟨rows', ms, ly, hdm.2.1, hdm.2.2, hq, asc.up.imp fun h => Int.ne_of_lt h, fun j hj => ?_, Nat.succ_pos _, fun v => ?_⟩⟩
        · obtain ⟨_, _, k', _, _, rfl⟩ := (asc.mem j).mp hj
          have := euc k' (N := ((spots p (lift N rows')).length : Int)) (by omega)
          omega
        · rw [take_snoc e1, Ts_snoc]
          refine (stepT_congr set _ v).trans ((next_set PF cF PG cG hp hper.dvd (by omega) (FW_at ly) v).trans ?_)
          unfold atI'
          constructor
          · rintro ⟨j, hj, rfl⟩
            exact ⟨j, (asc.mem j).mpr hj, rfl⟩
          · rintro ⟨j, hj, rfl⟩
            exact ⟨j, (asc.mem j).mp hj, rfl⟩
    · rintro σ H' ⟨lf, x, t, o7, o8, o9, rfl, s', bo', alt⟩
      have sH' := sH2.over s' hdf0
      obtain ⟨bdx, bfs, ds', dl', ks', ls', fk', b1, b2, b3, b4, b5, b6, b7, b8, b9, b10, ca, sp⟩ := id bo'.ex
      walk_at "st"
      rcases alt with ⟨i0, rfl, t00⟩ | ⟨rows, ns, lx, t0, t1, hlf, nns, rns, i1, set⟩
      · refine iD rfl ?_
        walk_at "st"
        refine ⟨_, _, _, _, _, rfl, b1, G.cB, G.nB _ (by decide +kernel), b3, ?_⟩
        refine ⟨_, rfl, RgOk.of_le (by decide) (by omega) (by decide) (by omega), fun q hq => ?_⟩
        refine k _ q _ (sH'.snew hq) (by rw [upd_same, rgV0]) ⟨asc_rg _, fun y => (mem_rg (by omega)).trans ?_⟩
        rw [ld] at i0
        rw [List.length_eq_zero_iff.mp i0]
        exact Iff.rfl
      · have hvx : Valid N rows ∧ rows.length ≤ 12 := pa.ok.val _ (lookup_mem lx)
        have PF := lift_proj hvx.1
        have cF : Com (lift N rows) p := hper.com _ (List.mem_map.mpr ⟨_, lookup_mem lx, rfl⟩)
        have z1 := Nat.le_trans (spots12 hvx.1 hp hpN) hvx.2
        obtain ⟨l1, sd1, kv1, x1, x2, x3, x4, x5, x6, x7⟩ := sp x rows lx
        refine iDn (notE lx) ?_
        walk_at "st"
        refine ⟨_, rfl, ⟨_, st hlf⟩, fun Dd hD => lcT (xs := ns.map V.int) (fun i H3 => Same H' H3 ∧ H3 Dd = some (.lst (((ns.take i).map fun j => (nth p (lift N rows) j + t) % p).map V.int))) ⟨Same.new hD, upd_same⟩ ?_ ?_ ?_⟩
        · rintro i H3 ⟨s3, _⟩
          exact st (s3 _ _ hlf)
        · rintro i yv H3 e' ⟨s3, hdd⟩
          rw [List.getElem?_map] at e'
          cases e2 : ns[i]? with
          | none => rw [e2] at e'; cases e'
          | some j =>
          rw [e2] at e'
          obtain rfl : V.int j = yv := Option.some.inj e'
          have rj := rns j (mem_of_at e2)
          obtain ⟨u, hu⟩ : ∃ u, (spots p (lift N rows))[j.toNat]? = some u := ⟨_, List.getElem?_eq_getElem (by omega)⟩
          have ej : ((j.toNat : Nat) : Int) = j := by omega
          have nj : nth p (lift N rows) j = u := by rw [← ej]; exact nth_small PF cF hp hu
          refine lct_n rfl ?_
          walk_at "st"
          refine ⟨_, _, _, _, _, rfl, s3 _ _ b1, G.cB, G.nB _ (by decide +kernel), b4, ?_⟩
          walk_at "st"
          refine ⟨ds', .ref l1, rfl, getS (s3 _ _ b8) x1, ?_⟩
          walk_at "st"
          refine ⟨l1, _, _, _, rfl, rfl, sq (s3 _ _ x2), (by rw [← ej]; exact atI_nat (j := j.toNat) (v := .int u) (by rw [List.getElem?_map, hu]; rfl)), ?_⟩
          walk_at "st"
          refine ⟨_, _, _, _, _, rfl, s3 _ _ b1, G.cB, G.nB _ (by decide +kernel), b3, ?_⟩
          refine g_rI hp ?_
          refine ⟨_, hdd, small1000 ?_, s3.sput hD, ?_⟩
          · rw [List.length_map, List.length_map, List.length_take]
            have := len_le_range (n := (spots p (lift N rows)).length) nns fun y hy => rns y hy
            omega
          · rw [take_snoc e2, List.map_append, List.map_append]
            show upd H3 Dd _ Dd = some (HO.lst (_ ++ [V.int ((nth p (lift N rows) j + t) % p)]))
            rw [nj]
            exact upd_same
        · rintro H4 ⟨s4, hdd⟩
          rw [List.length_map, List.take_length] at hdd
          walk_at "st"
          have lns := len_le_range (n := (spots p (lift N rows)).length) nns fun y hy => rns y hy
          refine ⟨Dd, _, rfl, sq hdd, by rw [List.length_map]; omega, fun ns' q perm srt hq => ?_⟩
          have nd' : (ns.map fun j => (nth p (lift N rows) j + t) % p).Nodup := by
            show List.Pairwise _ _
            rw [List.pairwise_map]
            refine List.Pairwise.imp_of_mem (fun {i j} hi hj hne z => hne ?_) nns
            have ri := nth_rng PF cF hp (rns i hi).1 (rns i hi).2
            have rj := nth_rng PF cF hp (rns j hj).1 (rns j hj).2
            obtain ⟨c, hc⟩ := (emod_eq_iff hp).mp z
            have c0 : c = 0 := by
              rcases Int.lt_trichotomy c 0 with l | l | l
              · have := Int.mul_le_mul_of_nonneg_right (show c ≤ -1 by omega) (Int.le_of_lt hp)
                omega
              · exact l
              · have := Int.mul_le_mul_of_nonneg_right (show 1 ≤ c by omega) (Int.le_of_lt hp)
                omega
            rw [c0] at hc
            rcases Int.lt_trichotomy i j with l | l | l
            · have := nth_lt PF cF hp l; omega
            · exact l
            · have := nth_lt PF cF hp l; omega
          rw [ld, List.take_length] at set
          refine k _ q ns' ((sH'.trans s4).snew hq) upd_same ⟨strict_of srt (perm.nodup_iff.mpr nd'), fun v => perm.mem_iff.trans (Iff.trans ?_ (set v).symm)⟩
          rw [List.mem_map]
          exact ⟨fun ⟨j, a, b⟩ => ⟨j, a, b.symm⟩, fun ⟨j, a, b⟩ => ⟨j, a, b.symm⟩⟩
def spSure (K : PySem.W.Frag) : Sp := fun vs H Q _ => ∃ a sl b N ws r e ds p, vs = [.ref a, .ref sl, .ref b, .int 0] ∧ PartAt K H a N ws ∧ SlackAt K H sl r e ∧ PlanAt K H b N ds ∧ PerOf N (maps N ws) p ∧ (∀ d ∈ ds, (ws.lookup d.1).isSome = true ∧ 0 ≤ d.2 ∧ d.2 < N) ∧ ds.length ≤ 60 ∧ N ≤ 60 ∧
  0 ≤ r ∧ 0 ≤ e ∧ r + e ≤ 100 ∧ ∀ H' c, Same H H' → (c = true → One N ws p ds) → Q (.bl c) H'
theorem sc_sure : FnScope ["part", "slack", "plan", "room", "places"] ["part", "slack", "plan", "room"] (defScope s_sure) := ⟨rfl, rfl, rfl, by decide +kernel, rfl, by decide +kernel, by decide +kernel⟩
theorem bd_sure : Bd ["part", "slack", "plan", "room"] "sure" s_sure := fun _ _ _ _ _ _ _ us hl => match us, hl with | [_, _, _, _], _ => rfl
theorem ok_sure (F : Fd K mg "sure" s_sure [.int 0]) (G : Mod0 K mg) (c_leftA : C8.Cal P w K mg base 8 "left_after" (spLeftA K) []) (c_covered : C8.Cal P w K mg base 1 "covered" spCovered []) (c_chkRoom : C8.Cal P w K mg base 2 "check_room" (spChkRoom K) [])
    (c_pPer : Pro P w K mg base 3 (He.ga K "Part") "period" (spPPer K)) : C8.Cal P w K mg base 9 "sure" (spSure K) [.int 0] := by
  obtain ⟨f, fd, F, hm⟩ := F.ex
  obtain ⟨ds', hv, hb⟩ := F.binds1 (ps := ["part", "slack", "plan", "room"]) 3 0 (by simp) rfl fun T kV doc pm an cdv ct us its h1 h2 => by
    match us, its, h1, h2 with
    | [_, _, _], [_], _, _ => exact ⟨_, rfl, rfl⟩
  refine ⟨f, fd, ["part", "slack", "plan", "room"], ds', F.ok sc_sure (fun vs H Q E h => ?_) (fun cdv A outer s H vs Q E hr h => ?_), hm, F.kp, hb, hv⟩
  · obtain ⟨_, _, _, _, _, _, _, _, _, rfl, _⟩ := h; rfl
  suffices hb : ∃ t, PSs (cxOf CX0 P w K mg base ["part", "slack", "plan", "room", "places"] "sure" (defScope s_sure) f cdv A outer s H E).nox (defBody s_sure) t ∧ t { nx := fun _ H' => Q .non H', rt := Q } (start ["part", "slack", "plan", "room", "places"] vs) H by
    obtain ⟨t, h1, h2⟩ := hb
    exact ⟨t, h1.nox, h2⟩
  obtain ⟨a, sl, b, N, ws, r, e, ds, p, rfl, pa, sa, pl, hper, hd, hl60, hN60, r0, e0, re, k⟩ := h
  have hN : 0 < N := by have := pa.ok.n2; omega
  have hp := hper.pos
  have hpN := hper.le hN
  obtain ⟨pdx, pfs, pd, pk, p1, p2, p3, p4, p5, p6⟩ := id pa.ex
  refine ⟨_, (pss_cons (ps_set (i := 4) sc_sure.nd rfl (Or.inl rfl) (C8.pe_c c_leftA hr (by decide) rfl (pa_cons (L2.pv 0) (pa_cons (L2.pv 1) (pa_cons (L2.pv 2) pa_nil)))))
      (pss_cons (ps_expr (C8.pe_c c_chkRoom hr (by decide) rfl (pa_cons (L2.pv 0) (pa_cons (L2.pv 3) pa_nil))))
      (pss_one (ps_ret (pe_cmpR op_le (C8.pe_c c_covered hr (by decide) rfl (pa_cons (L2.pv 4) (pa_cons (pe_pr c_pPer hr (by decide) (L2.pv 0)) pa_nil))) (L2.pv 3) (nomark _)))))), ?_⟩
  walk_at "st"
  refine ⟨a, sl, b, N, ws, r, e, ds, p, rfl, pa, sa, pl, hper, hd, hl60, hN60, r0, e0, re, fun H1 l ms s1 hl asc => ?_⟩
  walk_at "st"
  refine ⟨_, _, _, rfl, pa.mono s1, ?_⟩
  walk_at "st"
  refine ⟨_, _, _, rfl, s1 _ _ p1, _, _, _, rfl, pa.mono s1, fun p' hp' => ?_⟩
  obtain rfl := hp'.uniq hper
  have rg : ∀ y ∈ ms, 0 ≤ y ∧ y < p' := fun y hy => Ts_rng hp _ _ y ((asc.mem y).mp hy)
  have lm := len_le_range (n := p'.toNat) (asc.up.imp fun h => Int.ne_of_lt h) fun y hy => by
    have := rg y hy
    omega
  obtain ⟨u, hu⟩ := Ts_ne hp (e := r + e) (by omega) (FW N ws) ds
  refine ⟨l, p', ms, rfl, hl, asc.up, rg, List.length_pos_of_mem ((asc.mem u).mpr hu), by omega, fun H2 c s2 hc => ?_⟩
  walk_at "st"
  refine k _ _ (s1.trans s2) fun h => ?_
  have h1 := hc (of_decide_eq_true h)
  obtain ⟨u0, hu0⟩ := List.length_eq_one_iff.mp h1
  refine ⟨u0, fun x hx => ?_⟩
  have cm : ∀ d ∈ ds, Com (FW N ws d.1) p' := fun d hd' => by
    obtain ⟨rows, lk⟩ := Option.isSome_iff_exists.mp (hd d hd').1
    rw [FW_at lk]
    exact hper.com _ (List.mem_map.mpr ⟨_, lookup_mem lk, rfl⟩)
  have := exact_told hp (e := r + e) (by omega) hper.dvd (FW N ws) ds cm (full N) (full p') (fun x hx => by
    have := euc x hp
    unfold full
    omega) x hx
  have := (asc.mem _).mpr this
  rw [hu0] at this
  exact List.mem_singleton.mp this
end
end Jaw

/-! ## W13 -/
set_option Elab.async false
set_option linter.all false
set_option maxRecDepth 100000
set_option maxHeartbeats 4000000
namespace Jaw
open PySem PySem.Spec PyProof.Rows L2
theorem g_sub {to ti : TE} {t : TSet} {v : V} {σ : L2.St} {H : Hp} {Q : L2.St → Hp → Prop} (h : to σ H fun o H1 => ti σ H1 fun i H2 => t o i v H2 fun H3 => Q σ H3) : gSub to ti t v σ H Q := h
local macro_rules | `(tactic| walk_at "st") => `(tactic| ((try (set_option simprocs false in dsimp only)); (repeat (first
  | with_reducible refine g_seq ?_
  | with_reducible refine g_set ?_
  | with_reducible refine g_asg ?_
  | with_reducible refine g_drop ?_
  | with_reducible refine g_ret ?_
  | with_reducible refine g_retN ?_
  | with_reducible refine g_ifs ?_
  | with_reducible refine g_next ?_
  | with_reducible refine g_brk ?_
  | with_reducible refine g_cont ?_
  | (with_reducible refine g_var ?_; refine ⟨_, rfl, ?_⟩)
  | with_reducible refine g_c ?_
  | with_reducible refine g_op ?_
  | with_reducible refine g_un ?_
  | with_reducible refine g_rI0 ?_
  | with_reducible refine g_rU ?_
  | with_reducible refine g_nil ?_
  | with_reducible refine g_cons ?_
  | with_reducible refine g_cb ?_
  | with_reducible refine g_call ?_
  | with_reducible refine g_test ?_
  | with_reducible refine g_tB ?_
  | with_reducible refine g_bl ?_
  | with_reducible refine g_and ?_
  | with_reducible refine g_or ?_
  | with_reducible refine g_not ?_
  | with_reducible refine g_andV ?_
  | with_reducible refine g_orV ?_
  | with_reducible refine g_notV ?_
  | with_reducible refine g_ife ?_
  | with_reducible refine g_chain ?_
  | with_reducible refine g_par ?_
  | with_reducible refine g_tup ?_
  | with_reducible refine g_lst ?_
  | with_reducible refine g_fld ?_
  | with_reducible refine g_meth ?_
  | with_reducible refine g_sfld ?_
  | with_reducible refine g_prop ?_
  | with_reducible refine g_item ?_
  | with_reducible refine g_eqI ?_
  | with_reducible refine g_neI ?_
  | with_reducible refine g_for ?_
  | with_reducible refine g_lc ?_
  | with_reducible refine g_iE ?_
  | with_reducible refine g_iL ?_
  | with_reducible refine g_iT ?_
  | with_reducible refine g_iR1 ?_
  | with_reducible refine g_iR2 ?_
  | with_reducible refine g_iV ?_
  | with_reducible refine g_iK ?_
  | with_reducible refine g_yes ?_
  | with_reducible refine g_sub ?_
  | with_reducible refine g_make ?_
  | with_reducible refine g_eqS ?_
  | with_reducible refine g_neS ?_
  | with_reducible refine g_dc ?_
  | with_reducible refine g_dnK ?_
  | with_reducible refine g_dnT ?_
  | with_reducible refine g_dget ?_
  | with_reducible refine g_dput ?_
  | with_reducible refine g_din ?_
  | with_reducible refine g_dnin ?_
  | with_reducible refine g_bm ?_
  | with_reducible refine g_si ?_
  | with_reducible refine g_lstRg ?_
  | with_reducible refine g_tupRg ?_
  | with_reducible refine g_rg1 ?_
  | with_reducible refine g_gn ?_
  | with_reducible refine g_nt ?_
  | with_reducible refine g_nf ?_
  | with_reducible refine iteT ?_
  | with_reducible refine iteF ?_))))
section
variable {P : Program} {w : World} {K : PySem.W.Frag} {mg : Str → Option Value} {base : Heap}
def PoolAt (H : Hp) (p : Addr) : Prop := ∃ n f k : Int, H p = some (.lst [.int n, .int f, .int k])
def spLPool (K : PySem.W.Frag) : Sp := fun vs H Q _ => ∃ a ns k, vs = [.ref a, .int k] ∧ SqL K H a ((ns : List Int).map V.int) ∧ 0 ≤ k ∧ ∀ H' p, Same H H' → H p = none → PoolAt H' p → Q (.ref p) H'
theorem sc_lPool : FnScope ["_law_script", "_law_k", "_law_cell"] ["_law_script", "_law_k"] (defScope s_lPool) := ⟨rfl, rfl, rfl, by decide +kernel, rfl, by decide +kernel, by decide +kernel⟩
theorem bd_lPool : Bd ["_law_script", "_law_k"] "_law_pool" s_lPool := fun _ _ _ _ _ _ _ us hl => match us, hl with | [_, _], _ => rfl
theorem ok_lPool (F : Fd K mg "_law_pool" s_lPool []) (G : Mod0 K mg) : C8.Cal P w K mg base 1 "_law_pool" (spLPool K) [] := by
  refine cal_of F sc_lPool bd_lPool (fun vs H Q E h => ?_) fun f cdv A outer s H vs Q E hr h => ?_
  · obtain ⟨_, _, _, rfl, _⟩ := h; rfl
  · obtain ⟨a, ns, k, rfl, ha, k0, q⟩ := h
    refine ⟨_, (pss_cons (ps_set (i := 2) sc_lPool.nd rfl (Or.inl rfl) pe_int)
      (C8.pss_cut (ps_if (pt_cmpR op_lt (L2.pv 1) (pe_callB call_len_seq (by rfl) G.b_len (by decide +kernel) (pa_cons (L2.pv 0) pa_nil)) (nomark _)) (pss_one (ps_set (i := 2) sc_lPool.nd rfl (Or.inl rfl) (pe_ix ix_list (L2.pv 0) (L2.pv 1) (fun _ _ => rfl)))) pss_nil)
      (pss_cons (ps_if (pt_cmpR op_ge (L2.pv 2) (pe_op op_pow pe_int pe_int) (nomark _)) (pss_one (ps_ret (pe_lst (pa_cons (L2.pv 2) (pa_cons pe_int (pa_cons pe_int pa_nil)))))) pss_nil)
      (pss_one (ps_ret (pe_lst (pa_cons (pe_op op_mod (pe_callTy call_int1 (by rfl) G.b_int (by decide +kernel) (pa_cons (L2.pv 2) pa_nil)) pe_int) (pa_cons pe_int (pa_cons (L2.pv 1) pa_nil))))))))), ?_⟩
    refine ⟨fun σ H' => ∃ c : Int, σ = [some (.ref a), some (.int k), some (.int c)] ∧ H' = H, ?_, ?_⟩
    · walk_at "st"
      refine ⟨a, _, rfl, .inl ha, ?_⟩
      rw [List.length_map]
      walk_at "st"
      refine iC (fun c => ?_) (fun c => ?_)
      · obtain ⟨u, hu⟩ : ∃ u, ns[k.toNat]? = some u := ⟨_, List.getElem?_eq_getElem (by omega)⟩
        walk_at "st"
        refine ⟨_, _, _, _, rfl, rfl, ha, (by rw [← Int.toNat_of_nonneg k0]; exact atI_nat (v := .int u) (by rw [List.getElem?_map, hu]; rfl)), ?_⟩
        exact ⟨u, rfl, rfl⟩
      · exact ⟨0, rfl, rfl⟩
    · rintro σ H' ⟨c, rfl, rfl⟩
      walk_at "st"
      refine g_rI ⟨by decide, by decide, by decide⟩ ?_
      walk_at "st"
      refine iC (fun c => ?_) (fun c => ?_)
      · walk_at "st"
        refine ⟨g_small3, fun q' hq => ?_⟩
        exact q _ q' (Same.new hq) hq ⟨_, _, _, upd_same⟩
      · walk_at "st"
        refine .inl ⟨_, rfl, ?_⟩
        walk_at "st"
        refine g_rI (by decide) ?_
        walk_at "st"
        refine ⟨g_small3, fun q' hq => ?_⟩
        exact q _ q' (Same.new hq) hq ⟨_, _, _, upd_same⟩
def spLDraw : Sp := fun vs H Q _ => ∃ p many, vs = [.ref p, .int many] ∧ PoolAt H p ∧ 0 < many ∧ many < 1000000 ∧ ∀ H' x, Sx p H H' → PoolAt H' p → 0 ≤ x → x < many → Q (.int x) H'
theorem sc_lDraw : FnScope ["_law_pool_here", "_law_many", "_law_number"] ["_law_pool_here", "_law_many"] (defScope s_lDraw) := ⟨rfl, rfl, rfl, by decide +kernel, rfl, by decide +kernel, by decide +kernel⟩
theorem bd_lDraw : Bd ["_law_pool_here", "_law_many"] "_law_draw" s_lDraw := fun _ _ _ _ _ _ _ us hl => match us, hl with | [_, _], _ => rfl
theorem ok_lDraw (F : Fd K mg "_law_draw" s_lDraw []) (G : Mod0 K mg) : C8.Cal P w K mg base 1 "_law_draw" spLDraw [] := by
  refine cal_of F sc_lDraw bd_lDraw (fun vs H Q E h => ?_) fun f cdv A outer s H vs Q E hr h => ?_
  · obtain ⟨_, _, rfl, _⟩ := h; rfl
  · obtain ⟨p, many, rfl, ⟨n, fl, k, hp⟩, m0, m1, q⟩ := h
    refine ⟨_, (pss_cons (ps_set (i := 2) sc_lDraw.nd rfl (Or.inl rfl) (pe_ix ix_list (L2.pv 0) pe_int (fun _ _ => rfl)))
      (pss_cons (ps_if (pt_cmpR op_eq (pe_ix ix_list (L2.pv 0) pe_int (fun _ _ => rfl)) pe_int (nomark _)) (pss_cons (ps_asg (pe_op op_fdiv (L2.pv 2) (L2.pv 1)) (pg_sub (L2.pv 0) pe_int set_list))
      (pss_one (ps_ret (pe_op op_mod (pe_callTy call_int1 (by rfl) G.b_int (by decide +kernel) (pa_cons (L2.pv 2) pa_nil)) (L2.pv 1))))) pss_nil)
      (pss_cons (ps_asg (pe_op op_add (pe_ix ix_list (L2.pv 0) pe_int (fun _ _ => rfl)) pe_int) (pg_sub (L2.pv 0) pe_int set_list))
      (pss_cons (ps_set (i := 2) sc_lDraw.nd rfl (Or.inl rfl) (pe_op op_mod (pe_callTy call_int1 (by rfl) G.b_int (by decide +kernel) (pa_cons (pe_op op_add (pe_op op_mul (L2.pv 2) pe_int) (pe_op op_mul pe_int (pe_ix ix_list (L2.pv 0) pe_int (fun _ _ => rfl)))) pa_nil)) pe_int))
      (pss_cons (ps_asg (L2.pv 2) (pg_sub (L2.pv 0) pe_int set_list))
      (pss_one (ps_ret (pe_op op_mod (pe_op op_fdiv (pe_op op_mod (pe_callTy call_int1 (by rfl) G.b_int (by decide +kernel) (pa_cons (pe_op op_mul (L2.pv 2) (pe_op op_add (pe_op op_fdiv (L2.pv 2) pe_int) pe_int)) pa_nil)) pe_int) pe_int) (L2.pv 1))))))))), ?_⟩
    walk_at "st"
    refine ⟨_, _, _, _, rfl, rfl, sq hp, atI_nat (j := 0) (v := .int n) rfl, ?_⟩
    walk_at "st"
    refine ⟨_, _, _, _, rfl, rfl, sq hp, atI_nat (j := 1) (v := .int fl) rfl, ?_⟩
    walk_at "st"
    refine iC (fun c => ?_) (fun c => ?_)
    · walk_at "st"
      refine g_rI ⟨m0, by omega⟩ ?_
      walk_at "st"
      refine ⟨p, _, 0, 0, rfl, rfl, hp, rfl, ?_⟩
      walk_at "st"
      refine .inl ⟨_, rfl, ?_⟩
      walk_at "st"
      refine g_rI m0 ?_
      have e := euc n m0
      exact q _ _ (Sx.refl.upd) ⟨_, _, _, upd_same⟩ e.2.1 e.2.2
    · walk_at "st"
      refine ⟨_, _, _, _, rfl, rfl, sq hp, atI_nat (j := 2) (v := .int k) rfl, ?_⟩
      walk_at "st"
      refine ⟨p, _, 2, 2, rfl, rfl, hp, rfl, ?_⟩
      walk_at "st"
      refine g_rI (.inr ⟨by decide, by decide⟩) ?_
      walk_at "st"
      refine ⟨_, _, _, _, rfl, rfl, sq upd_same, atI_nat (j := 2) (v := .int (k + 1)) rfl, ?_⟩
      refine g_rI (.inl ⟨by decide, by decide⟩) ?_
      walk_at "st"
      refine .inl ⟨_, rfl, ?_⟩
      walk_at "st"
      refine g_rI (by decide) ?_
      walk_at "st"
      refine ⟨p, _, 0, 0, rfl, rfl, upd_same, rfl, ?_⟩
      walk_at "st"
      refine g_rI ⟨by decide, by decide⟩ ?_
      walk_at "st"
      have e1 := euc (n * 48271 + 30103 * (k + 1)) (N := 2147483647) (by decide)
      refine g_rI (.inl ⟨by omega, by omega⟩) ?_
      walk_at "st"
      refine .inl ⟨_, rfl, ?_⟩
      walk_at "st"
      refine g_rI (by decide) ?_
      walk_at "st"
      refine g_rI ⟨by decide, by decide⟩ ?_
      walk_at "st"
      refine g_rI m0 ?_
      exact q _ _ (Sx.refl.upd.upd) ⟨_, _, _, upd_same⟩ (euc _ m0).2.1 (euc _ m0).2.2
end
end Jaw

/-! ## M7 -/
set_option linter.all false
namespace Jaw
def bk (bs : List Int) (k : Nat) : Int := bs.getD k 0
def sz (s : Int) (bs : List Int) (k : Nat) : Int := (bk bs ((k + 1) % bs.length) - bk bs k - 1) % s + 1
def mkR (N s : Int) (bs : List Int) (off : Nat → Int) (k lap : Nat) : Row := (bk bs k + lap * s, (bk bs k + lap * s + off k) % N)
structure Bg (s : Int) (bs : List Int) : Prop where
  ne : 0 < bs.length
  up : bs.Pairwise (· < ·)
  rng : ∀ b ∈ bs, 0 ≤ b ∧ b < s
theorem bk_at {bs : List Int} {k : Nat} {b : Int} (h : bs[k]? = some b) : bk bs k = b := by
  unfold bk
  rw [List.getD_eq_getElem?_getD, h]; rfl
section
variable {s : Int} {bs : List Int} (B : Bg s bs)
include B
theorem Bg.get {k : Nat} (h : k < bs.length) : bs[k]? = some (bk bs k) := by
  rw [bk_at (List.getElem?_eq_getElem h), List.getElem?_eq_getElem h]
theorem Bg.in {k : Nat} (h : k < bs.length) : 0 ≤ bk bs k ∧ bk bs k < s := B.rng _ (List.mem_iff_getElem?.mpr ⟨k, B.get h⟩)
theorem Bg.lt {j k : Nat} (h : k < bs.length) (l : j < k) : bk bs j < bk bs k := by
  have hj : j < bs.length := by omega
  have := List.pairwise_iff_getElem.mp B.up j k hj h l
  rw [bk_at (List.getElem?_eq_getElem hj), bk_at (List.getElem?_eq_getElem h)]
  exact this
theorem Bg.inj {j k : Nat} (hj : j < bs.length) (hk : k < bs.length) (h : bk bs j = bk bs k) : j = k := by
  rcases Nat.lt_trichotomy j k with l | l | l
  · have := B.lt hk l; omega
  · exact l
  · have := B.lt hj l; omega
theorem Bg.sz1 {k : Nat} (h : k + 1 < bs.length) : sz s bs k = bk bs (k + 1) - bk bs k := by
  unfold sz
  have l := B.lt h (Nat.lt_succ_self k)
  have a := B.in h
  have b := B.in (Nat.lt_of_succ_lt h)
  rw [Nat.mod_eq_of_lt h, Int.emod_eq_of_lt (by omega) (by omega)]
  omega
theorem Bg.sz2 {k : Nat} (h : k + 1 = bs.length) : sz s bs k = bk bs 0 - bk bs k + s := by
  unfold sz
  have a := B.in (k := k) (by omega)
  have b := B.in B.ne
  have l : bk bs 0 ≤ bk bs k := by
    rcases Nat.eq_zero_or_pos k with rfl | z
    · exact Int.le_refl _
    · exact Int.le_of_lt (B.lt (by omega) z)
  rw [h, Nat.mod_self, (emod_uniq (q := -1) (r := bk bs 0 - bk bs k - 1 + s) (by omega) (by omega) (by omega)).1]
  omega
theorem Bg.szs {k : Nat} (h : k < bs.length) : 0 < sz s bs k ∧ sz s bs k ≤ s := by
  have a := B.in h
  have e : sz s bs k = (bk bs ((k + 1) % bs.length) - bk bs k - 1) % s + 1 := rfl
  have := euc (bk bs ((k + 1) % bs.length) - bk bs k - 1) (N := s) (by omega)
  omega
/-- the next begin -/
theorem Bg.gap {k j : Nat} (hk : k < bs.length) (hj : j < bs.length) (z : Int) (h : bk bs k < bk bs j + z * s) : bk bs k + sz s bs k ≤ bk bs j + z * s := by
  have a := B.in hk
  have b := B.in hj
  have c := B.in B.ne
  have h0 : bk bs 0 ≤ bk bs j := by
    rcases Nat.eq_zero_or_pos j with rfl | z
    · exact Int.le_refl _
    · exact Int.le_of_lt (B.lt hj z)
  have hs : 0 < s := by omega
  rcases Int.lt_trichotomy z 0 with l | l | l
  · have := mul_lt_of hs l
    omega
  · subst l
    rw [Int.zero_mul, Int.add_zero] at h ⊢
    have kj : k < j := by
      rcases Nat.lt_trichotomy k j with l | l | l
      · exact l
      · subst l; omega
      · have := B.lt hk l; omega
    rw [B.sz1 (by omega)]
    rcases Nat.lt_or_eq_of_le kj with l | l
    · have := B.lt hj l
      show _ ≤ _
      simp only [Nat.succ_eq_add_one] at this
      omega
    · rw [Nat.succ_eq_add_one] at l
      rw [l]
      omega
  · have := mul_lt_of hs l
    rw [Int.zero_mul] at this
    rcases Nat.lt_or_eq_of_le (show k + 1 ≤ bs.length from hk) with l2 | l2
    · rw [B.sz1 l2]
      have := B.in l2
      omega
    · rw [B.sz2 l2]
      omega
end
section
variable {N s : Int} {L : Nat} {bs : List Int} {off : Nat → Int} {rows : List Row}
theorem up_mk (B : Bg s bs) (hN : N = s * L) (hL : 0 < L) {k lap : Nat} (hk : k < bs.length) (ho : 0 ≤ off k ∧ off k < sz s bs k) : up N (mkR N s bs off k lap) = bk bs k + lap * s + off k := by
  have h1 := B.szs hk
  have h2 := B.in hk
  have hsN : s ≤ N := by
    rw [hN]
    have := Int.mul_le_mul_of_nonneg_left (show (1 : Int) ≤ L by omega) (show 0 ≤ s by omega)
    omega
  have e := euc (bk bs k + lap * s + off k) (N := N) (by omega)
  have e2 : ((bk bs k + lap * s + off k) % N - (bk bs k + lap * s)) % N = off k := by
    refine (emod_uniq (q := -((bk bs k + lap * s + off k) / N)) (r := off k) ?_ ho.1 (by omega)).1
    rw [Int.neg_mul]
    omega
  show bk bs k + lap * s + ((bk bs k + lap * s + off k) % N - (bk bs k + lap * s)) % N = _
  rw [e2]
theorem mul_le_L {L lap : Nat} {s : Int} (hs : 0 ≤ s) (h : lap < L) : (lap : Int) * s + s ≤ s * L := by
  have := Int.mul_le_mul_of_nonneg_right (show (lap : Int) + 1 ≤ L by omega) hs
  rw [Int.add_mul, Int.one_mul] at this
  rw [Int.mul_comm s]
  exact this
theorem rows_valid (B : Bg s bs) (hN : N = s * L) (hL : 0 < L) (ho : ∀ k, k < bs.length → 0 ≤ off k ∧ off k < sz s bs k)
    (mem : ∀ p, p ∈ rows ↔ ∃ k, k < bs.length ∧ ∃ lap, lap < L ∧ p = mkR N s bs off k lap) (srt : rows.Pairwise lexLeM) (nd : (rows.map Prod.fst).Nodup) : Valid N rows := by
  have hs : 0 < s := by have := B.in B.ne; omega
  have hN0 : 0 < N := by
    have := mul_le_L (lap := 0) (Int.le_of_lt hs) hL
    omega
  refine ⟨?_, ?_, ?_, ?_, ?_⟩
  · intro e
    have := (mem _).mpr ⟨0, B.ne, 0, hL, rfl⟩
    rw [e] at this
    cases this
  · have nd' : rows.Pairwise fun p q => p.1 ≠ q.1 := List.pairwise_map.mp nd
    refine List.Pairwise.imp₂ (fun p q h1 h2 => ?_) srt nd'
    rcases h1 with h | h
    · exact h
    · exact absurd h.1 h2
  · intro p hp
    obtain ⟨k, hk, lap, hl, rfl⟩ := (mem p).mp hp
    have a := B.in hk
    have b := mul_le_L (Int.le_of_lt hs) hl
    have c := Int.mul_nonneg (show (0 : Int) ≤ lap by omega) (Int.le_of_lt hs)
    have e := euc (bk bs k + lap * s + off k) hN0
    refine ⟨?_, ?_, e.2.1, e.2.2⟩
    · show 0 ≤ bk bs k + lap * s
      omega
    · show bk bs k + lap * s < N
      omega
  · intro p hp q hq h
    obtain ⟨k, hk, lap, hl, rfl⟩ := (mem p).mp hp
    obtain ⟨j, hj, lap2, hl2, rfl⟩ := (mem q).mp hq
    rw [up_mk B hN hL hk (ho k hk)]
    have h : bk bs k + lap * s < bk bs j + lap2 * s := h
    show _ < bk bs j + lap2 * s
    have g := B.gap hk hj ((lap2 : Int) - lap) (by rw [Int.sub_mul]; omega)
    rw [Int.sub_mul] at g
    have := ho k hk
    omega
  · intro p hp q hq
    obtain ⟨k, hk, lap, hl, rfl⟩ := (mem p).mp hp
    obtain ⟨j, hj, lap2, hl2, rfl⟩ := (mem q).mp hq
    rw [up_mk B hN hL hk (ho k hk)]
    show _ < bk bs j + lap2 * s + N
    have b := mul_le_L (Int.le_of_lt hs) hl
    have a := B.in hk
    have a2 := B.in hj
    have c := Int.mul_nonneg (show (0 : Int) ≤ lap2 by omega) (Int.le_of_lt hs)
    have eN : N = (L : Int) * s := by rw [hN, Int.mul_comm]
    have g := B.gap hk hj ((lap2 : Int) - lap + L) (by rw [Int.add_mul, Int.sub_mul]; omega)
    rw [Int.add_mul, Int.sub_mul] at g
    have := ho k hk
    omega
theorem rows_com (B : Bg s bs) (hN : N = s * L) (hL : 0 < L) (v : Valid N rows) (mem : ∀ p, p ∈ rows ↔ ∃ k, k < bs.length ∧ ∃ lap, lap < L ∧ p = mkR N s bs off k lap) : Com (lift N rows) s := by
  have hs : 0 < s := by have := B.in B.ne; omega
  refine com_of_pr v ((pr_all v).mpr fun p hp => ?_)
  obtain ⟨k, hk, lap, hl, rfl⟩ := (mem p).mp hp
  have a := B.in hk
  have b := mul_le_L (Int.le_of_lt hs) hl
  have c := Int.mul_nonneg (show (0 : Int) ≤ lap by omega) (Int.le_of_lt hs)
  rw [mem]
  by_cases q : lap + 1 < L
  · refine ⟨k, hk, lap + 1, q, ?_⟩
    have b2 := mul_le_L (Int.le_of_lt hs) q
    have e : ((lap + 1 : Nat) : Int) * s = lap * s + s := by rw [Int.natCast_add, Int.add_mul]; omega
    show ((bk bs k + lap * s + s) % N, ((bk bs k + lap * s + off k) % N + s) % N) = (bk bs k + ((lap + 1 : Nat) : Int) * s, (bk bs k + ((lap + 1 : Nat) : Int) * s + off k) % N)
    rw [e] at b2 ⊢
    rw [Int.emod_eq_of_lt (by omega) (by omega), Int.emod_add_emod]
    congr 1
    · omega
    · congr 1; omega
  · refine ⟨k, hk, 0, hL, ?_⟩
    have e : (lap : Int) * s + s = N := by
      rw [hN, Int.mul_comm s]
      have : (L : Int) = lap + 1 := by omega
      rw [this, Int.add_mul, Int.one_mul]
    show ((bk bs k + lap * s + s) % N, ((bk bs k + lap * s + off k) % N + s) % N) = (bk bs k + ((0 : Nat) : Int) * s, (bk bs k + ((0 : Nat) : Int) * s + off k) % N)
    have z : ((0 : Nat) : Int) * s = 0 := Int.zero_mul s
    have s0 : s ≤ N := by omega
    rw [z, Int.emod_add_emod]
    congr 1
    · rw [show bk bs k + lap * s + s = bk bs k + 1 * N by omega, Int.add_mul_emod_self_right, Int.emod_eq_of_lt (by omega) (by omega)]
      omega
    · rw [show bk bs k + lap * s + off k + s = bk bs k + 0 + off k + 1 * N by omega, Int.add_mul_emod_self_right]
end
/-- b and what follows it, round and round: one of them is free -/
theorem all_full {s b : Int} {l : List Int} (hs : 0 < s) (h : ∀ j : Nat, (j : Int) < s → (b + j) % s ∈ l) : s.toNat ≤ l.length := by
  have sub : ∀ x ∈ (List.range s.toNat).map (fun i : Nat => (i : Int)), x ∈ l := fun x hx => by
    obtain ⟨i, hi, rfl⟩ := List.mem_map.mp hx
    rw [List.mem_range] at hi
    have e := euc ((i : Int) - b) hs
    have := h (((i : Int) - b) % s).toNat (by omega)
    have e2 : (b + ((((i : Int) - b) % s).toNat : Int)) % s = i := by
      refine (emod_uniq (q := -(((i : Int) - b) / s)) ?_ (by omega) (by omega)).1
      rw [Int.neg_mul]
      omega
    rw [e2] at this
    exact this
  have nd : ((List.range s.toNat).map (fun i : Nat => (i : Int))).Nodup := by
    show List.Pairwise _ _
    rw [List.pairwise_map]
    exact List.nodup_range.imp fun h e => h (by omega)
  have := len_le_sub nd sub
  rwa [List.length_map, List.length_range] at this
end Jaw

/-! ## W14 -/
set_option Elab.async false
set_option linter.all false
set_option maxRecDepth 100000
set_option maxHeartbeats 4000000
namespace Jaw
open PySem PySem.Spec PyProof.Rows L2
local macro_rules | `(tactic| walk_at "st") => `(tactic| ((try (set_option simprocs false in dsimp only)); (repeat (first
  | with_reducible refine g_seq ?_
  | with_reducible refine g_set ?_
  | with_reducible refine g_asg ?_
  | with_reducible refine g_drop ?_
  | with_reducible refine g_ret ?_
  | with_reducible refine g_retN ?_
  | with_reducible refine g_ifs ?_
  | with_reducible refine g_next ?_
  | with_reducible refine g_brk ?_
  | with_reducible refine g_cont ?_
  | (with_reducible refine g_var ?_; refine ⟨_, rfl, ?_⟩)
  | with_reducible refine g_c ?_
  | with_reducible refine g_op ?_
  | with_reducible refine g_un ?_
  | with_reducible refine g_rI0 ?_
  | with_reducible refine g_rU ?_
  | with_reducible refine g_nil ?_
  | with_reducible refine g_cons ?_
  | with_reducible refine g_cb ?_
  | with_reducible refine g_call ?_
  | with_reducible refine g_test ?_
  | with_reducible refine g_tB ?_
  | with_reducible refine g_bl ?_
  | with_reducible refine g_and ?_
  | with_reducible refine g_or ?_
  | with_reducible refine g_not ?_
  | with_reducible refine g_andV ?_
  | with_reducible refine g_orV ?_
  | with_reducible refine g_notV ?_
  | with_reducible refine g_ife ?_
  | with_reducible refine g_chain ?_
  | with_reducible refine g_par ?_
  | with_reducible refine g_tup ?_
  | with_reducible refine g_lst ?_
  | with_reducible refine g_fld ?_
  | with_reducible refine g_meth ?_
  | with_reducible refine g_sfld ?_
  | with_reducible refine g_prop ?_
  | with_reducible refine g_item ?_
  | with_reducible refine g_eqI ?_
  | with_reducible refine g_neI ?_
  | with_reducible refine g_for ?_
  | with_reducible refine g_lc ?_
  | with_reducible refine g_iE ?_
  | with_reducible refine g_iL ?_
  | with_reducible refine g_iT ?_
  | with_reducible refine g_iR1 ?_
  | with_reducible refine g_iR2 ?_
  | with_reducible refine g_iV ?_
  | with_reducible refine g_iK ?_
  | with_reducible refine g_yes ?_
  | with_reducible refine g_sub ?_
  | with_reducible refine g_make ?_
  | with_reducible refine g_eqS ?_
  | with_reducible refine g_neS ?_
  | with_reducible refine g_dc ?_
  | with_reducible refine g_dnK ?_
  | with_reducible refine g_dnT ?_
  | with_reducible refine g_dget ?_
  | with_reducible refine g_dput ?_
  | with_reducible refine g_din ?_
  | with_reducible refine g_dnin ?_
  | with_reducible refine g_bm ?_
  | with_reducible refine g_si ?_
  | with_reducible refine g_lstRg ?_
  | with_reducible refine g_tupRg ?_
  | with_reducible refine g_rg1 ?_
  | with_reducible refine g_gn ?_
  | with_reducible refine g_nt ?_
  | with_reducible refine g_nf ?_
  | with_reducible refine iteT ?_
  | with_reducible refine iteF ?_))))
section
variable {P : Program} {w : World} {K : PySem.W.Frag} {mg : Str → Option Value} {base : Heap}
def spLLaps : Sp := fun vs H Q _ => ∃ p N ev, vs = [.ref p, .int N, .bl ev, .int 12] ∧ PoolAt H p ∧ 2 ≤ N ∧ N ≤ 60 ∧ (ev = true → N % 2 = 0) ∧ ∀ H' x, Sx p H H' → PoolAt H' p → 1 ≤ x → x ≤ 12 → N % x = 0 → (ev = true → x % 2 = 0) → Q (.int x) H'
theorem sc_lLaps : FnScope ["_law_pool_here", "_law_around", "_law_even", "_law_most", "_law_menu", "_law_at", "_law_laps_here"] ["_law_pool_here", "_law_around", "_law_even", "_law_most"] (defScope s_lLaps) := ⟨rfl, rfl, rfl, by decide +kernel, rfl, by decide +kernel, by decide +kernel⟩
theorem bd_lLaps : Bd ["_law_pool_here", "_law_around", "_law_even", "_law_most"] "_law_laps" s_lLaps := fun _ _ _ _ _ _ _ us hl => match us, hl with | [_, _, _, _], _ => rfl
theorem ok_lLaps (F : Fd K mg "_law_laps" s_lLaps []) (G : Mod0 K mg) (c_lDraw : C8.Cal P w K mg base 1 "_law_draw" spLDraw []) : C8.Cal P w K mg base 2 "_law_laps" spLLaps [] := by
  refine cal_of F sc_lLaps bd_lLaps (fun vs H Q E h => ?_) fun f cdv A outer s H vs Q E hr h => ?_
  · obtain ⟨_, _, _, rfl, _⟩ := h; rfl
  · obtain ⟨p, N, ev, rfl, hp, h2, h60, he, q⟩ := h
    refine ⟨_, (pss_cons (ps_setLc (i := 4) (own := [("_law_laps_here", 6)]) (g := (gName 6)) rfl sc_lLaps.nd rfl rfl (sw_true rfl rfl rfl (by decide +kernel)) (pi_range2 rfl G.b_range (pa_cons pe_int (pa_cons (pe_op op_add (L2.pv 3) pe_int) pa_nil))) (blkOk_by (N := ["_law_pool_here", "_law_around", "_law_even", "_law_most", "_law_menu", "_law_at", "_law_laps_here"]) (sc := defScope s_lLaps) (by decide +kernel)) (fun _ _ _ _ _ => (pg_name (i := 6) sc_lLaps.nd rfl (Or.inl rfl))) (fun _ _ _ _ _ => (pts_one (pt_cmpR op_eq (pe_op op_mod (L2.pv 1) (L2.pv 6)) pe_int (nomark _)))) (fun _ _ _ _ _ => (L2.pv 6)))
      (C8.pss_cut (ps_if (pt_val (L2.pv 2)) (pss_one (ps_setLc (i := 4) (own := [("_law_laps_here", 6)]) (g := (gName 6)) rfl sc_lLaps.nd rfl rfl (sw_true rfl rfl rfl (by decide +kernel)) (pi_list (L2.pv 4)) (blkOk_by (N := ["_law_pool_here", "_law_around", "_law_even", "_law_most", "_law_menu", "_law_at", "_law_laps_here"]) (sc := defScope s_lLaps) (by decide +kernel)) (fun _ _ _ _ _ => (pg_name (i := 6) sc_lLaps.nd rfl (Or.inl rfl))) (fun _ _ _ _ _ => (pts_one (pt_cmpR op_eq (pe_op op_mod (L2.pv 6) pe_int) pe_int (nomark _)))) (fun _ _ _ _ _ => (L2.pv 6)))) pss_nil)
      (pss_cons (ps_set (i := 5) sc_lLaps.nd rfl (Or.inl rfl) (C8.pe_c c_lDraw hr (by decide) rfl (pa_cons (L2.pv 0) (pa_cons (pe_op op_mul pe_int (pe_callB call_len_seq (by rfl) G.b_len (by decide +kernel) (pa_cons (L2.pv 4) pa_nil))) pa_nil))))
      (C8.pss_cut (ps_if (pt_cmpR op_ge (L2.pv 5) (pe_callB call_len_seq (by rfl) G.b_len (by decide +kernel) (pa_cons (L2.pv 4) pa_nil)) (nomark _)) (pss_one (ps_set (i := 5) sc_lLaps.nd rfl (Or.inl rfl) pe_int)) pss_nil)
      (pss_one (ps_ret (pe_ix ix_list (L2.pv 4) (L2.pv 5) (fun _ _ => rfl)))))))), ?_⟩
    walk_at "st"
    refine ⟨1, 13, rfl, by decide, fun Dd hD => ?_⟩
    have hp0 := hp
    obtain ⟨n1, n2, n3, hp⟩ := hp
    have npD := ne_of_none hp hD
    refine lcR (fun i H' => ∃ ns : List Int, Same H H' ∧ H' Dd = some (.lst (ns.map V.int)) ∧ ns.length ≤ i ∧ (∀ l ∈ ns, 1 ≤ l ∧ l ≤ 12 ∧ N % l = 0) ∧ (0 < i → 1 ∈ ns) ∧ (N % 2 = 0 → 1 < i → 2 ∈ ns)) ?_ ?_ ?_
    · exact ⟨[], Same.new hD, upd_same, Nat.le_refl _, (fun l h => by cases h), (fun h => absurd h (Nat.lt_irrefl _)), fun _ h => absurd h (by decide)⟩
    · rintro i H' hi ⟨ns, s', hd, ln, ml, m1, m2⟩
      have hi : i < 12 := hi
      refine lct_n rfl ?_
      walk_at "st"
      refine g_rI (show (0 : Int) < 1 + (i : Int) by omega) ?_
      walk_at "st"
      rw [dec_I]
      refine iC (fun c => ?_) (fun c => ?_)
      · walk_at "st"
        refine ⟨_, hd, small1000 (by rw [List.length_map]; omega), ns ++ [1 + (i : Int)], s'.sput hD, ?_, ?_, fun l hl => ?_, fun _ => ?_, fun hN h => ?_⟩
        · rw [List.map_append]; exact upd_same
        · rw [List.length_append]; exact Nat.succ_le_succ ln
        · rcases List.mem_append.mp hl with hl | hl
          · exact ml l hl
          · rw [List.mem_singleton.mp hl]
            exact ⟨by omega, by omega, c⟩
        · by_cases z : i = 0
          · subst z
            exact List.mem_append_right _ (List.mem_singleton.mpr rfl)
          · exact List.mem_append_left _ (m1 (by omega))
        · by_cases z : i = 1
          · subst z
            exact List.mem_append_right _ (List.mem_singleton.mpr rfl)
          · exact List.mem_append_left _ (m2 hN (by omega))
      · refine ⟨ns, s', hd, by omega, ml, fun _ => ?_, fun hN h => ?_⟩
        · by_cases z : i = 0
          · subst z
            exact absurd (show N % (1 + ((0 : Nat) : Int)) = 0 by omega) c
          · exact m1 (by omega)
        · by_cases z : i = 1
          · subst z
            exact absurd (show N % (1 + ((1 : Nat) : Int)) = 0 from hN) c
          · exact m2 hN (by omega)
    · rintro H2 ⟨ns, s2, hd, ln, ml, m1, m2⟩
      have ln : ns.length ≤ 12 := ln
      have m1 := m1 (by decide)
      have m2 := fun h => m2 h (by decide)
      walk_at "st"
      have hp2 := s2 _ _ hp
      refine ⟨fun σ H' => ∃ (l : Addr) (ms : List Int), σ = [some (.ref p), some (.int N), some (.bl ev), some (.int 12), some (.ref l), none, none] ∧ Same H H' ∧ H' l = some (.lst (ms.map V.int)) ∧ l ≠ p ∧ 0 < ms.length ∧ ms.length ≤ 12 ∧ ∀ x ∈ ms, 1 ≤ x ∧ x ≤ 12 ∧ N % x = 0 ∧ (ev = true → x % 2 = 0), ?_, ?_⟩
      · walk_at "st"
        cases ev with
        | false =>
          walk_at "st"
          exact ⟨Dd, ns, rfl, s2, hd, npD.symm, List.length_pos_of_mem m1, ln, fun x hx => ⟨(ml x hx).1, (ml x hx).2.1, (ml x hx).2.2, fun z => by cases z⟩⟩
        | true =>
          walk_at "st"
          refine ⟨_, rfl, ⟨_, sq hd⟩, fun D2 hD2 => lcL (xs := ns.map V.int) (fun i H' => Same H2 H' ∧ H' D2 = some (.lst (((ns.take i).filter fun y => decide (y % 2 = 0)).map V.int))) ⟨Same.new hD2, upd_same⟩ ?_ ?_ ?_⟩
          · rintro i H' ⟨s', _⟩
            exact sq (s' _ _ hd)
          · rintro i y H' e ⟨s', hdd⟩
            rw [List.getElem?_map] at e
            cases e2 : ns[i]? with
            | none => rw [e2] at e; cases e
            | some z =>
            rw [e2] at e
            obtain rfl : V.int z = y := Option.some.inj e
            refine lct_n rfl ?_
            walk_at "st"
            refine g_rI (by decide) ?_
            walk_at "st"
            rw [dec_I]
            refine iC (fun c => ?_) (fun c => ?_)
            · walk_at "st"
              refine ⟨_, hdd, small1000 ?_, s'.sput hD2, ?_⟩
              · rw [List.length_map]
                have := List.length_filter_le (fun y : Int => decide (y % 2 = 0)) (ns.take i)
                rw [List.length_take] at this
                omega
              · rw [take_snoc e2, List.filter_append, List.filter_cons_of_pos (by simpa using c), List.map_append]
                exact upd_same
            · refine ⟨s', ?_⟩
              rw [take_snoc e2, List.filter_append, List.filter_cons_of_neg (by simpa using c)]
              simpa using hdd
          · rintro H4 ⟨s4, hdd⟩
            rw [List.length_map, List.take_length] at hdd
            refine ⟨D2, ns.filter fun y => decide (y % 2 = 0), rfl, s2.trans s4, hdd, (ne_of_none hp2 hD2).symm, List.length_pos_of_mem (a := 2) (List.mem_filter.mpr ⟨m2 (he rfl), rfl⟩), Nat.le_trans (List.length_filter_le _ _) ln, fun x hx => ?_⟩
            obtain ⟨a, b⟩ := List.mem_filter.mp hx
            exact ⟨(ml x a).1, (ml x a).2.1, (ml x a).2.2, fun _ => of_decide_eq_true b⟩
      · rintro σ H3 ⟨l, ms, rfl, s3, hl, nl, l0, l1, mm⟩
        walk_at "st"
        refine ⟨l, _, rfl, .inl (sq hl), ?_⟩
        rw [List.length_map]
        refine g_rI (.inl ⟨by decide, by decide⟩) ?_
        walk_at "st"
        have hp3 : PoolAt H3 p := ⟨_, _, _, s3 _ _ hp⟩
        refine ⟨p, _, rfl, hp3, by omega, by omega, fun H4 x s4 hp4 x0 x1 => ?_⟩
        have hl4 := s4 _ _ hl nl
        have s5 : Sx p H H4 := (Sx.of s3).trans s4
        walk_at "st"
        refine ⟨fun σ H' => ∃ y : Int, σ = [some (.ref p), some (.int N), some (.bl ev), some (.int 12), some (.ref l), some (.int y), none] ∧ H' = H4 ∧ 0 ≤ y ∧ y < ms.length, ?_, ?_⟩
        · walk_at "st"
          refine ⟨l, _, rfl, .inl (sq hl4), ?_⟩
          rw [List.length_map]
          walk_at "st"
          refine iC (fun c => ?_) (fun c => ?_)
          · exact ⟨0, rfl, rfl, Int.le_refl _, by omega⟩
          · exact ⟨x, rfl, rfl, x0, by omega⟩
        · rintro σ H' ⟨y, rfl, rfl, y0, y1⟩
          obtain ⟨u, hu⟩ : ∃ u, ms[y.toNat]? = some u := ⟨_, List.getElem?_eq_getElem (by omega)⟩
          walk_at "st"
          refine ⟨_, _, _, _, rfl, rfl, sq hl4, (by rw [← Int.toNat_of_nonneg y0]; exact atI_nat (v := .int u) (by rw [List.getElem?_map, hu]; rfl)), ?_⟩
          obtain ⟨a, b, c, d⟩ := mm u (mem_of_at hu)
          exact q _ u s5 hp4 a b c d
end
end Jaw

/-! ## W15 -/
set_option Elab.async false
set_option linter.all false
set_option maxRecDepth 100000
set_option maxHeartbeats 4000000
namespace Jaw
open PySem PySem.Spec PyProof.Rows L2
local macro_rules | `(tactic| walk_at "st") => `(tactic| ((try (set_option simprocs false in dsimp only)); (repeat (first
  | with_reducible refine g_seq ?_
  | with_reducible refine g_set ?_
  | with_reducible refine g_asg ?_
  | with_reducible refine g_drop ?_
  | with_reducible refine g_ret ?_
  | with_reducible refine g_retN ?_
  | with_reducible refine g_ifs ?_
  | with_reducible refine g_next ?_
  | with_reducible refine g_brk ?_
  | with_reducible refine g_cont ?_
  | (with_reducible refine g_var ?_; refine ⟨_, rfl, ?_⟩)
  | with_reducible refine g_c ?_
  | with_reducible refine g_op ?_
  | with_reducible refine g_un ?_
  | with_reducible refine g_rI0 ?_
  | with_reducible refine g_rU ?_
  | with_reducible refine g_nil ?_
  | with_reducible refine g_cons ?_
  | with_reducible refine g_cb ?_
  | with_reducible refine g_call ?_
  | with_reducible refine g_test ?_
  | with_reducible refine g_tB ?_
  | with_reducible refine g_bl ?_
  | with_reducible refine g_and ?_
  | with_reducible refine g_or ?_
  | with_reducible refine g_not ?_
  | with_reducible refine g_andV ?_
  | with_reducible refine g_orV ?_
  | with_reducible refine g_notV ?_
  | with_reducible refine g_ife ?_
  | with_reducible refine g_chain ?_
  | with_reducible refine g_par ?_
  | with_reducible refine g_tup ?_
  | with_reducible refine g_lst ?_
  | with_reducible refine g_fld ?_
  | with_reducible refine g_meth ?_
  | with_reducible refine g_sfld ?_
  | with_reducible refine g_prop ?_
  | with_reducible refine g_item ?_
  | with_reducible refine g_eqI ?_
  | with_reducible refine g_neI ?_
  | with_reducible refine g_for ?_
  | with_reducible refine g_lc ?_
  | with_reducible refine g_iE ?_
  | with_reducible refine g_iL ?_
  | with_reducible refine g_iT ?_
  | with_reducible refine g_iR1 ?_
  | with_reducible refine g_iR2 ?_
  | with_reducible refine g_iV ?_
  | with_reducible refine g_iK ?_
  | with_reducible refine g_yes ?_
  | with_reducible refine g_sub ?_
  | with_reducible refine g_make ?_
  | with_reducible refine g_eqS ?_
  | with_reducible refine g_neS ?_
  | with_reducible refine g_dc ?_
  | with_reducible refine g_dnK ?_
  | with_reducible refine g_dnT ?_
  | with_reducible refine g_dget ?_
  | with_reducible refine g_dput ?_
  | with_reducible refine g_din ?_
  | with_reducible refine g_dnin ?_
  | with_reducible refine g_bm ?_
  | with_reducible refine g_si ?_
  | with_reducible refine g_lstRg ?_
  | with_reducible refine g_tupRg ?_
  | with_reducible refine g_rg1 ?_
  | with_reducible refine g_gn ?_
  | with_reducible refine g_nt ?_
  | with_reducible refine g_nf ?_
  | with_reducible refine iteT ?_
  | with_reducible refine iteF ?_))))
section
variable {P : Program} {w : World} {K : PySem.W.Frag} {mg : Str → Option Value} {base : Heap}
theorem inV_int {x : Int} : ∀ {l : List Int}, inV (V.int x) (l.map V.int) = decide (x ∈ l)
  | [] => rfl
  | y :: l => by
    show (eqV (V.int y) (V.int x) || inV (V.int x) (l.map V.int)) = _
    rw [inV_int (l := l)]
    have e : eqV (V.int y) (V.int x) = decide (y = x) := rfl
    rw [e]
    by_cases q : y = x
    · subst q
      rw [decide_eq_true rfl, decide_eq_true (List.mem_cons_self ..)]; rfl
    · rw [decide_eq_false q, Bool.false_or]
      refine decide_eq_decide.mpr ?_
      rw [List.mem_cons]
      exact ⟨.inr, fun h => h.elim (fun e => absurd e.symm q) id⟩
theorem flat_ints (l : List Int) : (l.map V.int).all flatV = true := by
  rw [List.all_map, List.all_eq_true]
  intro y _; rfl
def spLRows : Sp := fun vs H Q _ => ∃ p N x, vs = [.ref p, .int N, .int x, .int 12] ∧ PoolAt H p ∧ 2 ≤ N ∧ N ≤ 60 ∧ 1 ≤ x ∧ x ≤ 12 ∧ N % x = 0 ∧
  ∀ H' l xs rows, Sx p H H' → PoolAt H' p → H l = none → H' l = some (.lst xs) → PV H' xs rows → Valid N rows → rows.length ≤ 12 → Com (lift N rows) (N / x) → Q (.ref l) H'
theorem sc_lRows : FnScope ["_law_pool_here", "_law_around", "_law_laps_here", "_law_most", "_law_span_here", "_law_many", "_law_begins", "_law_k", "_law_pairs", "_law_begin", "_law_j", "_law_size", "_law_off", "_law_lap"] ["_law_pool_here", "_law_around", "_law_laps_here", "_law_most"] (defScope s_lRows) := ⟨rfl, rfl, rfl, by decide +kernel, rfl, by decide +kernel, by decide +kernel⟩
theorem bd_lRows : Bd ["_law_pool_here", "_law_around", "_law_laps_here", "_law_most"] "_law_rows" s_lRows := fun _ _ _ _ _ _ _ us hl => match us, hl with | [_, _, _, _], _ => rfl
theorem ok_lRows (F : Fd K mg "_law_rows" s_lRows []) (G : Mod0 K mg) (c_lDraw : C8.Cal P w K mg base 1 "_law_draw" spLDraw []) : C8.Cal P w K mg base 2 "_law_rows" spLRows [] := by
  refine cal_of F sc_lRows bd_lRows (fun vs H Q E h => ?_) fun f cdv A outer s0 H vs Q E hr h => ?_
  · obtain ⟨_, _, _, rfl, _⟩ := h; rfl
  · obtain ⟨p, N, x, rfl, hp, h2, h60, x1, x12, hx, q⟩ := h
    have hNx : N / x * x = N := by
      have := euc N (N := x) (by omega)
      omega
    generalize hs : N / x = s at hNx q
    have s1 : 0 < s := by
      rcases Int.lt_trichotomy s 0 with l | l | l
      · have := Int.mul_le_mul_of_nonneg_right (show s ≤ 0 by omega) (show 0 ≤ x by omega)
        omega
      · subst l; omega
      · exact l
    have sN : s ≤ N := by
      have := Int.mul_le_mul_of_nonneg_left (show 1 ≤ x by omega) (show 0 ≤ s by omega)
      omega
    have d1 : 1 ≤ 12 / x := (Int.le_ediv_iff_mul_le (by omega)).mpr (by omega)
    have d2 : 12 / x ≤ 12 := Int.ediv_le_self _ (by decide)
    refine ⟨_, (pss_cons (ps_set (i := 4) sc_lRows.nd rfl (Or.inl rfl) (pe_op op_fdiv (L2.pv 1) (L2.pv 2)))
      (pss_cons (ps_set (i := 5) sc_lRows.nd rfl (Or.inl rfl) (pe_op op_add pe_int (C8.pe_c c_lDraw hr (by decide) rfl (pa_cons (L2.pv 0) (pa_cons (pe_callB (call_min2 rfl) (by rfl) G.b_min (by decide +kernel) (pa_cons (pe_op op_fdiv (L2.pv 3) (L2.pv 2)) (pa_cons (L2.pv 4) pa_nil))) pa_nil)))))
      (pss_cons (ps_set (i := 6) sc_lRows.nd rfl (Or.inl rfl) (pe_lst pa_nil))
      (pss_cons (ps_for PassesOwn.never rfl (pi_range1 rfl G.b_range (pa_cons (L2.pv 5) pa_nil)) (pg_name (i := 7) sc_lRows.nd rfl (Or.inl rfl)) (pss_cons (ps_set (i := 9) sc_lRows.nd rfl (Or.inl rfl) (C8.pe_c c_lDraw hr (by decide) rfl (pa_cons (L2.pv 0) (pa_cons (L2.pv 4) pa_nil))))
      (C8.pss_cut (ps_for PassesOwn.never rfl (pi_range1 rfl G.b_range (pa_cons (L2.pv 4) pa_nil)) (pg_name (i := 10) sc_lRows.nd rfl (Or.inl rfl)) (pss_cons (ps_if (pt_cmpR op_notIn_seq (L2.pv 9) (L2.pv 6) (by rfl)) (pss_one ps_break) pss_nil)
      (pss_one (ps_set (i := 9) sc_lRows.nd rfl (Or.inl rfl) (pe_op op_mod (pe_op op_add (L2.pv 9) pe_int) (L2.pv 4))))))
      (pss_one (ps_expr (pe_bm PySem.F.plainAttrs_list PySem.F.slot_list_append PySem.F.type_list_append mt_append (L2.pv 6) (pa_cons (L2.pv 9) pa_nil)))))))
      (pss_cons (ps_set (i := 6) sc_lRows.nd rfl (Or.inl rfl) (pe_callB cr_sorted (by rfl) G.b_sorted (by decide +kernel) (pa_cons (L2.pv 6) pa_nil)))
      (pss_cons (ps_set (i := 8) sc_lRows.nd rfl (Or.inl rfl) (pe_lst pa_nil))
      (pss_cons (ps_for PassesOwn.never rfl (pi_range1 rfl G.b_range (pa_cons (L2.pv 5) pa_nil)) (pg_name (i := 7) sc_lRows.nd rfl (Or.inl rfl)) (pss_cons (ps_set (i := 11) sc_lRows.nd rfl (Or.inl rfl) (pe_op op_add (pe_op op_mod (pe_op op_sub (pe_op op_sub (pe_ix ix_list (L2.pv 6) (pe_op op_mod (pe_op op_add (L2.pv 7) pe_int) (L2.pv 5)) (fun _ _ => rfl)) (pe_ix ix_list (L2.pv 6) (L2.pv 7) (fun _ _ => rfl))) pe_int) (L2.pv 4)) pe_int))
      (pss_cons (ps_set (i := 12) sc_lRows.nd rfl (Or.inl rfl) (C8.pe_c c_lDraw hr (by decide) rfl (pa_cons (L2.pv 0) (pa_cons (L2.pv 11) pa_nil))))
      (pss_one (ps_for PassesOwn.never rfl (pi_range1 rfl G.b_range (pa_cons (L2.pv 2) pa_nil)) (pg_name (i := 13) sc_lRows.nd rfl (Or.inl rfl)) (pss_cons (ps_set (i := 9) sc_lRows.nd rfl (Or.inl rfl) (pe_op op_add (pe_ix ix_list (L2.pv 6) (L2.pv 7) (fun _ _ => rfl)) (pe_op op_mul (L2.pv 13) (L2.pv 4))))
      (pss_one (ps_expr (pe_bm PySem.F.plainAttrs_list PySem.F.slot_list_append PySem.F.type_list_append mt_append (L2.pv 8) (pa_cons (pe_tup (pa_cons (L2.pv 9) (pa_cons (pe_op op_mod (pe_op op_add (L2.pv 9) (L2.pv 12)) (L2.pv 1)) pa_nil))) pa_nil))))))))))
      (pss_one (ps_ret (pe_callB cr_sortedPO (by rfl) G.b_sorted (by decide +kernel) (pa_cons (L2.pv 8) pa_nil))))))))))), ?_⟩
    walk_at "st"
    refine g_rI ⟨by omega, by omega⟩ ?_
    rw [hs]
    walk_at "st"
    refine g_rI ⟨by omega, by omega⟩ ?_
    walk_at "st"
    refine ⟨_, _, rfl, ?_⟩
    walk_at "st"
    refine ⟨p, _, rfl, hp, by split <;> omega, by split <;> omega, fun H1 d s1' hp1 d0 d1' => ?_⟩
    have m1 : 1 + d ≤ s ∧ 1 + d ≤ 12 / x := by
      split at d1' <;> omega
    have mx : (1 + d) * x ≤ 12 := (Int.le_ediv_iff_mul_le (by omega)).mp m1.2
    generalize hm : 1 + d = m at m1 mx
    have m0 : 0 < m := by omega
    walk_at "st"
    rw [hm]
    refine ⟨g_small0, fun bl hbl => ?_⟩
    walk_at "st"
    have npb : bl ≠ p := fun z => by subst z; obtain ⟨_, _, _, e⟩ := hp1; rw [hbl] at e; cases e
    have hbl0 : H bl = none := s1'.free hbl npb
    refine ⟨m, rfl, by omega, by omega, loopR (fun i σ H' => ∃ (o7 o9 o10 : Option V) (bs : List Int), σ = [some (.ref p), some (.int N), some (.int x), some (.int 12), some (.int s), some (.int m), some (.ref bl), o7, none, o9, o10, none, none, none] ∧ Sx p H H' ∧ PoolAt H' p ∧
      H' bl = some (.lst (bs.map V.int)) ∧ bs.length = i ∧ bs.Nodup ∧ ∀ b ∈ bs, 0 ≤ b ∧ b < s) ?_ ?_ ?_⟩
    · obtain ⟨_, _, _, e⟩ := hp1
      exact ⟨none, none, none, [], rfl, s1'.put hbl, ⟨_, _, _, (upd_ne npb.symm).trans e⟩, upd_same, rfl, List.nodup_nil, fun b h => by cases h⟩
    · rintro i σ H' hi ⟨o7, o9, o10, bs, rfl, s', hp', hb', lb, nb, rb⟩
      walk_at "st"
      refine ⟨p, s, rfl, hp', s1, by omega, fun H2 b0 s2 hp2 b00 b01 => ?_⟩
      have hb2 := s2 _ _ hb' npb
      walk_at "st"
      refine ⟨fun σ H' => ∃ (o7 o10 : Option V) (b : Int), σ = [some (.ref p), some (.int N), some (.int x), some (.int 12), some (.int s), some (.int m), some (.ref bl), o7, none, some (.int b), o10, none, none, none] ∧ H' = H2 ∧ 0 ≤ b ∧ b < s ∧ b ∉ bs, ?_, ?_⟩
      · walk_at "st"
        refine ⟨s, rfl, by omega, by omega, loopR (fun j σ H' => ∃ (o7 o10 : Option V), σ = [some (.ref p), some (.int N), some (.int x), some (.int 12), some (.int s), some (.int m), some (.ref bl), o7, none, some (.int ((b0 + j) % s)), o10, none, none, none] ∧ H' = H2 ∧ ∀ j' : Nat, j' < j → (b0 + j') % s ∈ bs) ?_ ?_ ?_⟩
        · refine ⟨some (.int (0 + (i : Int))), o10, ?_, rfl, fun j' h => absurd h (Nat.not_lt_zero _)⟩
          have e : (b0 + ((0 : Nat) : Int)) % s = b0 := by rw [Int.emod_eq_of_lt (by omega) (by omega)]; omega
          rw [e]; rfl
        · rintro j σ H' hj ⟨o7', o10', rfl, rfl, fj⟩
          walk_at "st"
          refine ⟨_, _, rfl, .inl (sq hb2), rfl, flat_ints bs, ?_⟩
          rw [inV_int]
          have ee := euc (b0 + j) s1
          refine ⟨_, rfl, ?_⟩
          by_cases c : (b0 + (j : Int)) % s ∈ bs
          · rw [decide_eq_true c]
            refine ite2 (fun z => by cases z) fun _ => ?_
            walk_at "st"
            refine g_rI s1 ?_
            refine ⟨o7', some (.int (0 + (j : Int))), ?_, rfl, fun j' h => ?_⟩
            · have e : ((b0 + (j : Int)) % s + 1) % s = (b0 + ((j + 1 : Nat) : Int)) % s := by
                rw [Int.emod_add_emod]; congr 1; omega
              rw [e]; rfl
            · rcases Nat.lt_or_eq_of_le (Nat.lt_succ_iff.mp h) with l | rfl
              · exact fj j' l
              · exact c
          · rw [decide_eq_false c]
            refine ite2 (fun _ => ?_) fun z => absurd rfl z
            walk_at "st"
            exact ⟨_, _, _, rfl, rfl, ee.2.1, ee.2.2, c⟩
        · rintro σ H' ⟨o7', o10', rfl, rfl, fj⟩
          have := all_full (b := b0) (l := bs) s1 fun j hj => fj j (by omega)
          omega
      · rintro σ H' ⟨o7', o10', b, rfl, rfl, b0', b1', nb'⟩
        walk_at "st"
        refine ⟨.inl ⟨rfl, _, sq hb2⟩, ?_⟩
        walk_at "st"
        refine ⟨bl, _, _, rfl, rfl, hb2, small1000 (by rw [List.length_map]; omega), ?_⟩
        obtain ⟨_, _, _, ep⟩ := hp2
        refine ⟨_, _, _, bs ++ [b], rfl, (s'.trans s2).mut hbl0, ⟨_, _, _, (upd_ne npb.symm).trans ep⟩, ?_, by rw [List.length_append, lb]; rfl, ?_, fun y hy => ?_⟩
        · rw [List.map_append]; exact upd_same
        · rw [List.nodup_append]
          exact ⟨nb, by simp, fun y hy b hb e => nb' (by rw [List.mem_singleton.mp hb] at e; rw [← e]; exact hy)⟩
        · rcases List.mem_append.mp hy with hy | hy
          · exact rb y hy
          · rw [List.mem_singleton.mp hy]; exact ⟨b0', b1'⟩
    · rintro σ H2 ⟨o7, o9, o10, bs0, rfl, s2, hp2, hb2, lb, nb, rb⟩
      walk_at "st"
      refine ⟨bl, bs0, rfl, sq hb2, by omega, fun bs q2 perm srt hq2 => ?_⟩
      have B : Bg s bs := by
        refine ⟨by have := perm.length_eq; omega, strict_of srt (perm.nodup_iff.mpr nb), fun b hb => rb b (perm.mem_iff.mp hb)⟩
      have lbs : (bs.length : Int) = m := by have := perm.length_eq; omega
      have s3 : Sx p H (upd H2 q2 (.lst (bs.map V.int))) := s2.put hq2
      have nq2 : q2 ≠ p := fun z => by subst z; obtain ⟨_, _, _, e⟩ := hp2; rw [hq2] at e; cases e
      have hp3 : PoolAt (upd H2 q2 (.lst (bs.map V.int))) p := by
        obtain ⟨_, _, _, e⟩ := hp2
        exact ⟨_, _, _, (upd_ne nq2.symm).trans e⟩
      have hq3 : upd H2 q2 (.lst (bs.map V.int)) q2 = _ := upd_same
      generalize upd H2 q2 (.lst (bs.map V.int)) = H3 at s3 hp3 hq3 ⊢
      clear hb2 srt
      walk_at "st"
      refine ⟨g_small0, fun pl hpl => ?_⟩
      have npl : pl ≠ p := fun z => by subst z; obtain ⟨_, _, _, e⟩ := hp3; rw [hpl] at e; cases e
      have hpl0 : H pl = none := s3.free hpl npl
      have nqp : q2 ≠ pl := ne_of_none hq3 hpl
      walk_at "st"
      have hL : 0 < x.toNat := by omega
      have hNL : N = s * x.toNat := by rw [Int.toNat_of_nonneg (by omega)]; exact hNx.symm
      have lbs' : bs.length = m.toNat := by omega
      have mL : m.toNat * x.toNat ≤ 12 := by
        have : ((m.toNat * x.toNat : Nat) : Int) ≤ 12 := by
          rw [Int.natCast_mul, Int.toNat_of_nonneg (by omega), Int.toNat_of_nonneg (by omega)]
          exact mx
        omega
      refine ⟨m, rfl, by omega, by omega, loopR (fun i σ H' => ∃ (o7 o9 o10 o11 o12 o13 : Option V) (xs : List V) (rows : List Row) (off : Nat → Int), σ = [some (.ref p), some (.int N), some (.int x), some (.int 12), some (.int s), some (.int m), some (.ref q2), o7, some (.ref pl), o9, o10, o11, o12, o13] ∧ Sx p H H' ∧ PoolAt H' p ∧
        H' q2 = some (.lst (bs.map V.int)) ∧ H' pl = some (.lst xs) ∧ PV H' xs rows ∧ rows.length = i * x.toNat ∧ (∀ k, k < i → 0 ≤ off k ∧ off k < sz s bs k) ∧ (∀ r, r ∈ rows ↔ ∃ k, k < i ∧ ∃ lap, lap < x.toNat ∧ r = mkR N s bs off k lap) ∧ (rows.map Prod.fst).Nodup) ?_ ?_ ?_⟩
      · obtain ⟨_, _, _, e⟩ := hp3
        exact ⟨o7, o9, o10, none, none, none, [], [], fun _ => 0, rfl, s3.put hpl, ⟨_, _, _, (upd_ne npl.symm).trans e⟩, (upd_ne nqp).trans hq3, upd_same, PV.nil, by rw [Nat.zero_mul]; rfl, (fun k h => absurd h (Nat.not_lt_zero _)), (fun r => ⟨(fun h => by cases h), fun ⟨k, h, _⟩ => absurd h (Nat.not_lt_zero _)⟩), List.nodup_nil⟩
      · rintro i σ H' hi ⟨o7, o9, o10, o11, o12, o13, xs, rows, off, rfl, s', hp', hq', hpl', pv, lr, ho, mem, nd⟩
        have hi : i < bs.length := by omega
        have bi := B.in hi
        have ei := B.get hi
        have z0 : (0 : Int) + (i : Int) = ((i : Nat) : Int) := by omega
        have ej : ((0 : Int) + (i : Int) + 1) % m = (((i + 1) % bs.length : Nat) : Int) := by
          rw [Int.natCast_emod, lbs]; congr 1; omega
        have hj : (i + 1) % bs.length < bs.length := Nat.mod_lt _ (by omega)
        have eg := B.get hj
        have sz0 := B.szs hi
        walk_at "st"
        refine g_rI m0 ?_
        refine ⟨_, _, _, _, rfl, rfl, sq hq', (by rw [ej]; exact atI_nat (v := .int _) (by rw [List.getElem?_map, eg]; rfl)), ?_⟩
        walk_at "st"
        refine ⟨_, _, _, _, rfl, rfl, sq hq', (by rw [z0]; exact atI_nat (v := .int _) (by rw [List.getElem?_map, ei]; rfl)), ?_⟩
        walk_at "st"
        refine g_rI s1 ?_
        walk_at "st"
        refine ⟨p, _, rfl, hp', sz0.1, (show sz s bs i < 1000000 by omega), fun H4 of s4 hp4 of0 of1 => ?_⟩
        have of1 : of < sz s bs i := of1
        have npq : q2 ≠ p := nq2
        have hq4 := s4 _ _ hq' npq
        have hpl4 := s4 _ _ hpl' npl
        have pv4 : PV H4 xs rows := Paired.mapQ pv fun _ _ ⟨t, a, b⟩ => ⟨t, a, s4 _ _ b (fun z => by
          obtain ⟨_, _, _, e⟩ := hp'
          rw [z, e] at b; cases b)⟩
        let off' : Nat → Int := fun k => if k = i then of else off k
        have eo : ∀ k lap, k < i → mkR N s bs off' k lap = mkR N s bs off k lap := fun k lap h => by
          unfold mkR
          have : off' k = off k := if_neg (by omega)
          rw [this]
        have ho' : ∀ k, k < i + 1 → 0 ≤ off' k ∧ off' k < sz s bs k := fun k h => by
          by_cases c : k = i
          · subst c
            have : off' k = of := if_pos rfl
            rw [this]; exact ⟨of0, of1⟩
          · have : off' k = off k := if_neg c
            rw [this]; exact ho k (by omega)
        have oi : off' i = of := if_pos rfl
        walk_at "st"
        refine ⟨x, rfl, by omega, by omega, loopR (fun j σ H' => ∃ (o9 o13 : Option V) (xs : List V) (rows : List Row), σ = [some (.ref p), some (.int N), some (.int x), some (.int 12), some (.int s), some (.int m), some (.ref q2), some (.int (0 + (i : Int))), some (.ref pl), o9, o10, some (.int (sz s bs i)), some (.int of), o13] ∧ Sx p H H' ∧ PoolAt H' p ∧
          H' q2 = some (.lst (bs.map V.int)) ∧ H' pl = some (.lst xs) ∧ PV H' xs rows ∧ rows.length = i * x.toNat + j ∧ (∀ r, r ∈ rows ↔ (∃ k, k < i ∧ ∃ lap, lap < x.toNat ∧ r = mkR N s bs off' k lap) ∨ ∃ lap, lap < j ∧ r = mkR N s bs off' i lap) ∧ (rows.map Prod.fst).Nodup) ?_ ?_ ?_⟩
        · refine ⟨o9, o13, xs, rows, rfl, s'.trans s4, hp4, hq4, hpl4, pv4, lr, fun r => (mem r).trans ?_, nd⟩
          constructor
          · rintro ⟨k, hk, lap, hl, rfl⟩
            exact .inl ⟨k, hk, lap, hl, (eo k lap hk).symm⟩
          · rintro (⟨k, hk, lap, hl, rfl⟩ | ⟨lap, h, _⟩)
            · exact ⟨k, hk, lap, hl, eo k lap hk⟩
            · exact absurd h (Nat.not_lt_zero _)
        · rintro j σ H5 hj5 ⟨o9', o13', xs5, rows5, rfl, s5, hp5, hq5, hpl5, pv5, lr5, mem5, nd5⟩
          walk_at "st"
          refine ⟨_, _, _, _, rfl, rfl, sq hq5, (by rw [z0]; exact atI_nat (v := .int _) (by rw [List.getElem?_map, ei]; rfl)), ?_⟩
          walk_at "st"
          refine g_rI (.inr ⟨by omega, by omega⟩) ?_
          walk_at "st"
          refine ⟨.inl ⟨rfl, _, sq hpl5⟩, ?_⟩
          walk_at "st"
          refine g_rI (by omega) ?_
          walk_at "st"
          refine ⟨g_small2, fun t ht => ?_⟩
          have zj : (0 : Int) + (j : Int) = ((j : Nat) : Int) := by omega
          rw [zj]
          walk_at "st"
          have npt : p ≠ t := fun z => by subst z; obtain ⟨_, _, _, e⟩ := hp5; rw [ht] at e; cases e
          have nlt : pl ≠ t := ne_of_none hpl5 ht
          have nqt : q2 ≠ t := ne_of_none hq5 ht
          have rlen : rows5.length ≤ 12 := by
            have := Nat.mul_le_mul_right x.toNat (show i + 1 ≤ m.toNat by omega)
            rw [Nat.add_mul, Nat.one_mul] at this
            omega
          refine ⟨pl, xs5, _, rfl, rfl, (upd_ne nlt).trans hpl5, small1000 (by rw [pv5.len]; omega), ?_⟩
          have tv : upd H5 t (.tup [.int (bk bs i + (j : Int) * s), .int ((bk bs i + (j : Int) * s + of) % N)]) t = some (.tup [.int (mkR N s bs off' i j).1, .int (mkR N s bs off' i j).2]) := by
            rw [upd_same]
            unfold mkR
            rw [oi]
          have pvn := (pv5.mono (Same.new (o := .tup [.int (bk bs i + (j : Int) * s), .int ((bk bs i + (j : Int) * s + of) % N)]) ht)).snoc tv
          refine ⟨_, _, xs5 ++ [.ref t], rows5 ++ [mkR N s bs off' i j], rfl, (s5.put ht).mut hpl0, ?_, (upd_ne nqp).trans ((upd_ne nqt).trans hq5), upd_same, pvn.upd_lst ((upd_ne nlt).trans hpl5), by rw [List.length_append, lr5]; rfl, fun r => ?_, ?_⟩
          · obtain ⟨_, _, _, e⟩ := hp5
            exact ⟨_, _, _, (upd_ne npl.symm).trans ((upd_ne npt).trans e)⟩
          · rw [List.mem_append, mem5, List.mem_singleton]
            constructor
            · rintro ((h | ⟨lap, h, e⟩) | h)
              · exact .inl h
              · exact .inr ⟨lap, by omega, e⟩
              · exact .inr ⟨j, by omega, h⟩
            · rintro (h | ⟨lap, h, e⟩)
              · exact .inl (.inl h)
              · rcases Nat.lt_or_eq_of_le (Nat.lt_succ_iff.mp h) with l | rfl
                · exact .inl (.inr ⟨lap, l, e⟩)
                · exact .inr e
          · rw [List.map_append, List.nodup_append]
            refine ⟨nd5, by simp, fun y hy b hb e => ?_⟩
            rw [List.map_singleton, List.mem_singleton] at hb
            obtain ⟨r, hr', rfl⟩ := List.mem_map.mp hy
            rw [hb] at e
            have eqs : ∀ {b1 b2 : Int} {l1 l2 : Nat}, 0 ≤ b1 → b1 < s → 0 ≤ b2 → b2 < s → b1 + l1 * s = b2 + l2 * s → b1 = b2 ∧ l1 = l2 := fun {b1 b2 l1 l2} g1 g2 g3 g4 g => by
              rcases Nat.lt_trichotomy l1 l2 with l | l | l
              · have := mul_lt_of (k := l1) (l := l2) s1 (by omega); omega
              · subst l; exact ⟨by omega, rfl⟩
              · have := mul_lt_of (k := l2) (l := l1) s1 (by omega); omega
            rcases (mem5 r).mp hr' with ⟨k, hk, lap, hl, rfl⟩ | ⟨lap, hl, rfl⟩
            · have bk' := B.in (k := k) (by omega)
              have := (eqs bk'.1 bk'.2 bi.1 bi.2 e).1
              have := B.inj (by omega) hi this
              omega
            · have := (eqs bi.1 bi.2 bi.1 bi.2 e).2
              omega
        · rintro σ H5 ⟨o9', o13', xs5, rows5, rfl, s5, hp5, hq5, hpl5, pv5, lr5, mem5, nd5⟩
          refine ⟨_, _, _, _, _, _, xs5, rows5, off', rfl, s5, hp5, hq5, hpl5, pv5, by rw [lr5, Nat.add_mul, Nat.one_mul], ho', fun r => (mem5 r).trans ?_, nd5⟩
          constructor
          · rintro (⟨k, hk, lap, hl, e⟩ | ⟨lap, h, e⟩)
            · exact ⟨k, by omega, lap, hl, e⟩
            · exact ⟨i, Nat.lt_succ_self i, lap, h, e⟩
          · rintro ⟨k, hk, lap, hl, e⟩
            rcases Nat.lt_or_eq_of_le (Nat.lt_succ_iff.mp hk) with l | rfl
            · exact .inl ⟨k, l, lap, hl, e⟩
            · exact .inr ⟨lap, hl, e⟩
      · rintro σ H' ⟨o7, o9, o10, o11, o12, o13, xs, rows, off, rfl, s', hp', hq', hpl', pv, lr, ho, mem, nd⟩
        walk_at "st"
        refine r_sortedP hpl' pv fun ys q4 rows' hq4 pv2 perm srt => ?_
        rw [← lbs'] at mem ho
        have mem' : ∀ r, r ∈ rows' ↔ ∃ k, k < bs.length ∧ ∃ lap, lap < x.toNat ∧ r = mkR N s bs off k lap := fun r => perm.mem_iff.trans (mem r)
        have v := rows_valid B hNL hL ho mem' srt ((perm.map Prod.fst).nodup_iff.mpr nd)
        have np4 : q4 ≠ p := fun z => by subst z; obtain ⟨_, _, _, e⟩ := hp'; rw [hq4] at e; cases e
        obtain ⟨_, _, _, e⟩ := hp'
        exact q _ q4 ys rows' (s'.put hq4) ⟨_, _, _, (upd_ne np4.symm).trans e⟩ (s'.free hq4 np4) upd_same (pv2.mono (Same.new hq4)) v (by rw [perm.length_eq, lr]; exact mL) (rows_com B hNL hL v mem')
end
end Jaw

/-! ## W16 -/
set_option Elab.async false
set_option linter.all false
set_option maxRecDepth 100000
set_option maxHeartbeats 4000000
namespace Jaw
open PySem PySem.Spec PyProof.Rows L2
theorem g_mkK {C : Addr} {n m : Nat} {sp : Sp} {gV : List V → List V → List V} {E : XK} {t tk : TA} {σ : L2.St} {H : Hp} {Q : VK} (h : t σ H fun vs H1 => tk σ H1 fun zs H2 => vs.length = n ∧ zs.length = m ∧ ∀ x dx, H2 x = none → H2 dx = none → dx ≠ x →
  sp (gV (.ref x :: vs) zs) (upd (upd H2 dx (.own x)) x (.ins C dx [])) (fun v H3 => v = .non ∧ Q (.ref x) H3) E) : tMakeK C n m sp gV E t tk σ H Q := h
local macro_rules | `(tactic| walk_at "st") => `(tactic| ((try (set_option simprocs false in dsimp only)); (repeat (first
  | with_reducible refine g_seq ?_
  | with_reducible refine g_set ?_
  | with_reducible refine g_asg ?_
  | with_reducible refine g_drop ?_
  | with_reducible refine g_ret ?_
  | with_reducible refine g_retN ?_
  | with_reducible refine g_ifs ?_
  | with_reducible refine g_next ?_
  | with_reducible refine g_brk ?_
  | with_reducible refine g_cont ?_
  | (with_reducible refine g_var ?_; refine ⟨_, rfl, ?_⟩)
  | with_reducible refine g_c ?_
  | with_reducible refine g_op ?_
  | with_reducible refine g_un ?_
  | with_reducible refine g_rI0 ?_
  | with_reducible refine g_rU ?_
  | with_reducible refine g_nil ?_
  | with_reducible refine g_cons ?_
  | with_reducible refine g_cb ?_
  | with_reducible refine g_call ?_
  | with_reducible refine g_test ?_
  | with_reducible refine g_tB ?_
  | with_reducible refine g_bl ?_
  | with_reducible refine g_and ?_
  | with_reducible refine g_or ?_
  | with_reducible refine g_not ?_
  | with_reducible refine g_andV ?_
  | with_reducible refine g_orV ?_
  | with_reducible refine g_notV ?_
  | with_reducible refine g_ife ?_
  | with_reducible refine g_chain ?_
  | with_reducible refine g_par ?_
  | with_reducible refine g_tup ?_
  | with_reducible refine g_lst ?_
  | with_reducible refine g_fld ?_
  | with_reducible refine g_meth ?_
  | with_reducible refine g_sfld ?_
  | with_reducible refine g_prop ?_
  | with_reducible refine g_item ?_
  | with_reducible refine g_eqI ?_
  | with_reducible refine g_neI ?_
  | with_reducible refine g_for ?_
  | with_reducible refine g_lc ?_
  | with_reducible refine g_iE ?_
  | with_reducible refine g_iL ?_
  | with_reducible refine g_iT ?_
  | with_reducible refine g_iR1 ?_
  | with_reducible refine g_iR2 ?_
  | with_reducible refine g_iV ?_
  | with_reducible refine g_iK ?_
  | with_reducible refine g_yes ?_
  | with_reducible refine g_mkK ?_
  | with_reducible refine g_sub ?_
  | with_reducible refine g_make ?_
  | with_reducible refine g_eqS ?_
  | with_reducible refine g_neS ?_
  | with_reducible refine g_dc ?_
  | with_reducible refine g_dnK ?_
  | with_reducible refine g_dnT ?_
  | with_reducible refine g_dget ?_
  | with_reducible refine g_dput ?_
  | with_reducible refine g_din ?_
  | with_reducible refine g_dnin ?_
  | with_reducible refine g_bm ?_
  | with_reducible refine g_si ?_
  | with_reducible refine g_lstRg ?_
  | with_reducible refine g_tupRg ?_
  | with_reducible refine g_rg1 ?_
  | with_reducible refine g_gn ?_
  | with_reducible refine g_nt ?_
  | with_reducible refine g_nf ?_
  | with_reducible refine iteT ?_
  | with_reducible refine iteF ?_))))
section
variable {P : Program} {w : World} {K : PySem.W.Frag} {mg : Str → Option Value} {base : Heap}
theorem Paired.mapM {α β : Type} {F G : α → β → Prop} : ∀ {l₁ : List α} {l₂ : List β}, Paired F l₁ l₂ → (∀ a ∈ l₁, ∀ b, F a b → G a b) → Paired G l₁ l₂
  | _, _, .nil, _ => .nil
  | _, _, .cons r t, f => .cons (f _ (List.mem_cons_self ..) _ r) (Paired.mapM t fun a h b => f a (List.mem_cons_of_mem _ h) b)
/-- the pairs of the words, in a dict of lists -/
def WV (H : Hp) (kvs : List (Key × V)) (ws : Ws) : Prop := Paired (fun (kv : Key × V) (wr : Str × List Row) => kv.1 = Sum.inr wr.1 ∧ ∃ l xs, kv.2 = .ref l ∧ H l = some (.lst xs) ∧ PV H xs wr.2) kvs ws
theorem WV.mono {H H' : Hp} {kvs : List (Key × V)} {ws : Ws} (h : WV H kvs ws) (s : Same H H') : WV H' kvs ws := Paired.mapQ h fun _ _ ⟨a, l, xs, b, c, d⟩ => ⟨a, l, xs, b, s _ _ c, d.mono s⟩
theorem PV.sx' {H H' : Hp} {p : Addr} {xs ys : List V} {rows : List Row} (h : PV H xs rows) (s : Sx p H H') (hp : H p = some (.lst ys)) : PV H' xs rows := Paired.mapQ h fun _ _ ⟨t, a, b⟩ => ⟨t, a, s _ _ b (ne_of b hp (by intro z; cases z))⟩
theorem PV.sxd {H H' : Hp} {p : Addr} {kk : List (Key × V)} {xs : List V} {rows : List Row} (h : PV H xs rows) (s : Sx p H H') (hp : H p = some (.dK kk)) : PV H' xs rows := Paired.mapQ h fun _ _ ⟨t, a, b⟩ => ⟨t, a, s _ _ b (ne_of b hp (by intro z; cases z))⟩
theorem WV.sxd {H H' : Hp} {p : Addr} {kk : List (Key × V)} {kvs : List (Key × V)} {ws : Ws} (h : WV H kvs ws) (s : Sx p H H') (hp : H p = some (.dK kk)) : WV H' kvs ws := Paired.mapQ h fun _ _ ⟨a, l, xs, b, c, d⟩ => ⟨a, l, xs, b, s _ _ c (ne_of c hp (by intro z; cases z)), d.sxd s hp⟩
theorem WV.look {H : Hp} {kvs : List (Key × V)} {ws : Ws} (h : WV H kvs ws) (x : Str) : (ws.lookup x = none ∧ valV kvs (Sum.inr x : Key) = none) ∨
    ∃ rows l xs, ws.lookup x = some rows ∧ valV kvs (Sum.inr x : Key) = some (.ref l) ∧ H l = some (.lst xs) ∧ PV H xs rows := by
  unfold WV at h
  induction h with
  | nil => exact .inl ⟨rfl, rfl⟩
  | cons r t ih =>
    rename_i a b l1 l2
    obtain ⟨w, rows⟩ := b
    obtain ⟨kk, vv⟩ := a
    obtain ⟨e, l, xs, e2, hl, pv⟩ := r
    have e : kk = Sum.inr w := e
    have e2 : vv = .ref l := e2
    subst e e2
    by_cases q : x = w
    · subst q
      refine .inr ⟨rows, l, xs, ?_, valV_pos rfl, hl, pv⟩
      rw [List.lookup_cons, beq_self_eq_true]
    · have hb : (x == w) = false := beq_eq_false_iff_ne.mpr q
      have hv : valV ((Sum.inr w, V.ref l) :: l1) (Sum.inr x : Key) = valV l1 (Sum.inr x) := valV_neg fun z => q (Sum.inr.inj z).symm
      rw [List.lookup_cons, hb, hv]
      exact ih
theorem WV.keys {H : Hp} {kvs : List (Key × V)} {ws : Ws} (h : WV H kvs ws) : kvs.map (fun kv => kV kv.1) = (ws.map (·.1)).map V.str := by
  unfold WV at h
  induction h with
  | nil => rfl
  | cons r t ih => rw [List.map_cons, List.map_cons, List.map_cons, ih, r.1]; rfl
structure WorldAt (H : Hp) (d : Addr) (N : Int) (po so : Option (List Row)) : Prop where
  ok : PartOk N (wsOf po so)
  ev : ∀ rows, so = some rows → N % 2 = 0 ∧ Com (lift N rows) (N / 2)
  ex : ∃ kvs, H d = some (.dK kvs) ∧ WV H kvs (wsOf po so)
theorem WorldAt.mono {H H' : Hp} {d : Addr} {N : Int} {po so : Option (List Row)} (h : WorldAt H d N po so) (s : Same H H') : WorldAt H' d N po so := by
  obtain ⟨kvs, a, b⟩ := h.ex
  exact ⟨h.ok, h.ev, kvs, s _ _ a, b.mono s⟩
def spLWorld : Sp := fun vs H Q _ => ∃ p N, vs = [.ref p, .int N, .int 12] ∧ PoolAt H p ∧ 2 ≤ N ∧ N ≤ 60 ∧ ∀ H' d po so, Sx p H H' → WorldAt H' d N po so → Q (.ref d) H'
theorem sc_lWorld : FnScope ["_law_pool_here", "_law_around", "_law_most", "_law_choice", "_law_pairs"] ["_law_pool_here", "_law_around", "_law_most"] (defScope s_lWorld) := ⟨rfl, rfl, rfl, by decide +kernel, rfl, by decide +kernel, by decide +kernel⟩
theorem bd_lWorld : Bd ["_law_pool_here", "_law_around", "_law_most"] "_law_world" s_lWorld := fun _ _ _ _ _ _ _ us hl => match us, hl with | [_, _, _], _ => rfl
theorem ok_lWorld (F : Fd K mg "_law_world" s_lWorld []) (G : Mod0 K mg) (c_lDraw : C8.Cal P w K mg base 1 "_law_draw" spLDraw []) (c_lLaps : C8.Cal P w K mg base 2 "_law_laps" spLLaps []) (c_lRows : C8.Cal P w K mg base 2 "_law_rows" spLRows []) :
    C8.Cal P w K mg base 3 "_law_world" spLWorld [] := by
  refine cal_of F sc_lWorld bd_lWorld (fun vs H Q E h => ?_) fun f cdv A outer s H vs Q E hr h => ?_
  · obtain ⟨_, _, rfl, _⟩ := h; rfl
  · obtain ⟨p, N, rfl, hp, h2, h60, q⟩ := h
    have hu := hu_of hr
    refine ⟨_, (pss_cons (ps_set (i := 3) sc_lWorld.nd rfl (Or.inl rfl) (C8.pe_c c_lDraw hr (by decide) rfl (pa_cons (L2.pv 0) (pa_cons pe_int pa_nil))))
      (C8.pss_cut (ps_if (pt_cmpR op_eq (pe_op op_mod (L2.pv 1) pe_int) pe_int (nomark _)) (pss_one (ps_set (i := 3) sc_lWorld.nd rfl (Or.inl rfl) pe_int)) pss_nil)
      (pss_cons (ps_set (i := 4) sc_lWorld.nd rfl (Or.inl rfl) pe_dnewK)
      (C8.pss_cut (ps_if (pt_cmpR op_ne (L2.pv 3) pe_int (nomark _)) (pss_one (ps_dput hu (L2.pv 4) pe_str (C8.pe_c c_lRows hr (by decide) rfl (pa_cons (L2.pv 0) (pa_cons (L2.pv 1) (pa_cons (C8.pe_c c_lLaps hr (by decide) rfl (pa_cons (L2.pv 0) (pa_cons (L2.pv 1) (pa_cons pe_bl (pa_cons (L2.pv 2) pa_nil))))) (pa_cons (L2.pv 2) pa_nil))))) rfl)) pss_nil)
      (C8.pss_cut (ps_if (pt_cmpR op_ne (L2.pv 3) pe_int (nomark _)) (pss_one (ps_dput hu (L2.pv 4) pe_str (C8.pe_c c_lRows hr (by decide) rfl (pa_cons (L2.pv 0) (pa_cons (L2.pv 1) (pa_cons (C8.pe_c c_lLaps hr (by decide) rfl (pa_cons (L2.pv 0) (pa_cons (L2.pv 1) (pa_cons pe_bl (pa_cons (L2.pv 2) pa_nil))))) (pa_cons (L2.pv 2) pa_nil))))) rfl)) pss_nil)
      (pss_one (ps_ret (L2.pv 4)))))))), ?_⟩
    walk_at "st"
    refine ⟨p, 3, rfl, hp, by decide, by decide, fun H1 c s1 hp1 c0 c1 => ?_⟩
    walk_at "st"
    refine ⟨fun σ H' => ∃ c : Int, σ = [some (.ref p), some (.int N), some (.int 12), some (.int c), none] ∧ H' = H1 ∧ (c ≠ 0 → N % 2 = 0), ?_, ?_⟩
    · walk_at "st"
      refine g_rI (by decide) ?_
      walk_at "st"
      rw [dec_I]
      refine iC (fun z => ?_) (fun z => ?_)
      · exact ⟨0, rfl, rfl, fun h => absurd rfl h⟩
      · exact ⟨c, rfl, rfl, fun _ => by omega⟩
    rintro σ H' ⟨c, rfl, rfl, hc⟩
    walk_at "st"
    intro d hd
    have npd : d ≠ p := fun z => by subst z; obtain ⟨_, _, _, e⟩ := hp1; rw [hd] at e; cases e
    have hd0 : H d = none := s1.free hd npd
    have hp2 : PoolAt (upd H' d (.dK [])) p := by
      obtain ⟨_, _, _, e⟩ := hp1
      exact ⟨_, _, _, (upd_ne npd.symm).trans e⟩
    have hd2 : upd H' d (.dK []) d = _ := upd_same
    have s2 : Sx p H (upd H' d (.dK [])) := s1.put hd
    generalize upd H' d (.dK []) = H2 at hp2 hd2 s2 ⊢
    walk_at "st"
    refine ⟨fun σ H' => ∃ po kvs, σ = [some (.ref p), some (.int N), some (.int 12), some (.int c), some (.ref d)] ∧ Sx p H H' ∧ PoolAt H' p ∧ H' d = some (.dK kvs) ∧ WV H' kvs (wsOf po none) ∧ (∀ rows, po = some rows → Valid N rows ∧ rows.length ≤ 12) ∧ (c = 1 ↔ po = none) ∧ ∀ kv ∈ kvs, kv.2 ≠ V.ref p, ?_, ?_⟩
    · walk_at "st"
      rw [dec_I]
      refine iCN (fun z => ?_) (fun z => ?_)
      · walk_at "st"
        refine ⟨p, N, false, rfl, hp2, h2, h60, (fun h => by cases h), fun H3 x s3 hp3 x1 x2 hx _ => ?_⟩
        walk_at "st"
        refine ⟨p, N, x, rfl, hp3, h2, h60, x1, x2, hx, fun H4 l xs rows s4 hp4 hl0 hl pv va ln _ => ?_⟩
        have hd4 := s4 _ _ (s3 _ _ hd2 npd) npd
        walk_at "st"
        refine ⟨d, _, rfl, DPut.k (k := Sum.inr ("push" : Str)) hd4 (by show 0 < sizeLine; decide), ?_⟩
        have nld : l ≠ d := ne_of hl hd4 (by intro z; cases z)
        have s5 : Sx d H4 (upd H4 d (.dK (putK [] (Sum.inr ("push" : Str)) (.ref l)))) := Sx.refl.upd
        refine ⟨some rows, _, rfl, ((s2.trans s3).trans s4).mut hd0, ?_, upd_same, ?_, fun r e => by cases e; exact ⟨va, ln⟩, ⟨fun e => absurd e z, fun e => by cases e⟩, fun kv hk => ?_⟩
        · obtain ⟨_, _, _, e⟩ := hp4
          exact ⟨_, _, _, (upd_ne npd.symm).trans e⟩
        · rw [putK_new _ rfl]
          exact .cons ⟨rfl, l, xs, rfl, (upd_ne nld).trans hl, pv.sxd s5 hd4⟩ .nil
        · rw [putK_new _ rfl] at hk
          rw [show kv = (Sum.inr ("push" : Str), V.ref l) from List.mem_singleton.mp hk]
          intro z
          have z : l = p := V.ref.inj z
          obtain ⟨_, _, _, e⟩ := hp3
          rw [← z, hl0] at e
          cases e
      · exact ⟨none, [], rfl, s2, hp2, hd2, .nil, (fun r e => by cases e), ⟨fun _ => rfl, fun _ => z⟩, (fun kv h => by cases h)⟩
    rintro σ H5 ⟨po, kvs, rfl, s5, hp5, hd5, wv5, vo5, hc5, np5⟩
    have lk : valV kvs (Sum.inr ("squeeze" : Str)) = none := by
      have ns : ¬ (("squeeze" : Str) = "push") := by decide +kernel
      rcases wv5.look "squeeze" with ⟨_, h⟩ | ⟨rows, l, xs, h, _⟩
      · exact h
      · cases po with
        | none => cases h
        | some r =>
          have : List.lookup ("squeeze" : Str) [(("push" : Str), r)] = some rows := h
          rw [List.lookup_cons, beq_eq_false_iff_ne.mpr ns] at this
          cases this
    have lkv : kvs.length ≤ 1 := by
      have := Paired.len wv5
      cases po with
      | none => rw [this]; exact Nat.zero_le _
      | some r => rw [this]; exact Nat.le_refl 1
    refine ⟨fun σ H' => ∃ so, σ = [some (.ref p), some (.int N), some (.int 12), some (.int c), some (.ref d)] ∧ Sx p H H' ∧ WorldAt H' d N po so, ?_, ?_⟩
    · walk_at "st"
      rw [dec_I]
      refine iCN (fun z => ?_) (fun z => ?_)
      · walk_at "st"
        refine ⟨p, N, true, rfl, hp5, h2, h60, (fun _ => hc z), fun H6 x s6 hp6 x1 x2 hx hx2 => ?_⟩
        walk_at "st"
        refine ⟨p, N, x, rfl, hp6, h2, h60, x1, x2, hx, fun H7 l xs rows s7 hp7 hl0 hl pv va ln cm => ?_⟩
        obtain ⟨_, _, _, e6⟩ := hp6
        obtain ⟨_, _, _, e5⟩ := hp5
        have hd7 := s7 _ _ (s6 _ _ hd5 npd) npd
        have wv7 : WV H7 kvs (wsOf po none) := Paired.mapM wv5 fun kv hk wr ⟨a, l, xs, b, c, dd⟩ => by
          have nl : l ≠ p := fun z => np5 kv hk (by rw [b, z])
          exact ⟨a, l, xs, b, s7 _ _ (s6 _ _ c nl) nl, (dd.sx' s6 e5).sx' s7 e6⟩
        walk_at "st"
        refine ⟨d, _, rfl, DPut.k (k := Sum.inr ("squeeze" : Str)) hd7 (small1000 (by omega)), ?_⟩
        have nld : l ≠ d := ne_of hl hd7 (by intro z; cases z)
        have s8 : Sx d H7 (upd H7 d (.dK (putK kvs (Sum.inr ("squeeze" : Str)) (.ref l)))) := Sx.refl.upd
        have wv8 : WV (upd H7 d (.dK (putK kvs (Sum.inr ("squeeze" : Str)) (.ref l)))) (putK kvs (Sum.inr ("squeeze" : Str)) (.ref l)) (wsOf po none ++ [(("squeeze" : Str), rows)]) := by
          rw [putK_new _ lk]
          rw [putK_new _ lk] at s8
          exact Paired.snoc (wv7.sxd s8 hd7) ⟨rfl, l, xs, rfl, (upd_ne nld).trans hl, pv.sxd s8 hd7⟩
        have ew : wsOf po none ++ [(("squeeze" : Str), rows)] = wsOf po (some rows) := by cases po <;> rfl
        rw [ew] at wv8
        refine ⟨some rows, rfl, ((s5.trans s6).trans s7).mut hd0, ⟨⟨h2, by omega, ?_, fun y hy => ?_⟩, fun r e => ?_, _, upd_same, wv8⟩⟩
        · cases po with
          | none => exact .inr (.inl ⟨rows, rfl⟩)
          | some r => exact .inr (.inr ⟨r, rows, rfl⟩)
        · cases po with
          | none =>
            rw [show y = (("squeeze" : Str), rows) from List.mem_singleton.mp hy]
            exact ⟨va, ln⟩
          | some r =>
            rcases List.mem_cons.mp hy with rfl | hy
            · exact vo5 r rfl
            · rw [show y = (("squeeze" : Str), rows) from List.mem_singleton.mp hy]
              exact ⟨va, ln⟩
        · cases e
          refine ⟨hc z, ?_⟩
          have hNx : N / x * x = N := by
            have := euc N (N := x) (by omega)
            omega
          have hx' : x = x / 2 * 2 := by have := hx2 rfl; omega
          have e2 : N / 2 = x / 2 * (N / x) := by
            have : N = x / 2 * (N / x) * 2 := by
              rw [Int.mul_assoc, Int.mul_comm (N / x) 2, ← Int.mul_assoc, ← hx', Int.mul_comm]
              exact hNx.symm
            omega
          rw [e2]
          exact cm.mul _
      · have c1 : c ≠ 1 := by omega
        cases po with
        | none => exact absurd (hc5.mpr rfl) c1
        | some r =>
          refine ⟨none, rfl, s5, ⟨⟨h2, by omega, .inl ⟨r, rfl⟩, fun y hy => ?_⟩, (fun r e => by cases e), kvs, hd5, wv5⟩⟩
          rw [show y = (("push" : Str), r) from List.mem_singleton.mp hy]
          exact vo5 r rfl
    rintro σ H6 ⟨so, rfl, s6, wo⟩
    walk_at "st"
    exact q _ d po so s6 wo
theorem look_sq {po so : Option (List Row)} : (wsOf po so).lookup ("squeeze" : Str) = so := by
  have ns : ¬ (("squeeze" : Str) = "push") := by decide +kernel
  cases po with
  | none =>
    cases so with
    | none => rfl
    | some r => show List.lookup _ [(("squeeze" : Str), r)] = _; rw [List.lookup_cons, beq_self_eq_true]
  | some r1 =>
    cases so with
    | none => show List.lookup _ [(("push" : Str), r1)] = _; rw [List.lookup_cons, beq_eq_false_iff_ne.mpr ns]; rfl
    | some r => show List.lookup _ [(("push" : Str), r1), (("squeeze" : Str), r)] = _; rw [List.lookup_cons, beq_eq_false_iff_ne.mpr ns]; show List.lookup _ [(("squeeze" : Str), r)] = _; rw [List.lookup_cons, beq_self_eq_true]
theorem look_pu {po so : Option (List Row)} : (wsOf po so).lookup ("push" : Str) = po := by
  have ns : ¬ (("push" : Str) = "squeeze") := by decide +kernel
  cases po with
  | none =>
    cases so with
    | none => rfl
    | some r => show List.lookup _ [(("squeeze" : Str), r)] = _; rw [List.lookup_cons, beq_eq_false_iff_ne.mpr ns]; rfl
  | some r1 =>
    cases so with
    | none => show List.lookup _ [(("push" : Str), r1)] = _; rw [List.lookup_cons, beq_self_eq_true]
    | some r => show List.lookup _ [(("push" : Str), r1), (("squeeze" : Str), r)] = _; rw [List.lookup_cons, beq_self_eq_true]
theorem ArgT.mono {H H' : Hp} {N : Int} {v : V} {o : Option (List Row)} (h : ArgT K H N v o) (s : Same H H') : ArgT K H' N v o := by
  rcases h.is with ⟨rfl, rfl⟩ | ⟨rows, t, pd, rfl, rfl, tu, le⟩
  · rfl
  · exact ⟨t, pd, rfl, tu.mono s, le⟩
def spLPart (K : PySem.W.Frag) : Sp := fun vs H Q _ => ∃ d N po so, vs = [.ref d, .int N] ∧ WorldAt H d N po so ∧ ∀ H' a, Same H H' → PartAt K H' a N (wsOf po so) → Q (.ref a) H'
theorem sc_lPart : FnScope ["_law_pairs", "_law_around", "_law_squeeze", "_law_push"] ["_law_pairs", "_law_around"] (defScope s_lPart) := ⟨rfl, rfl, rfl, by decide +kernel, rfl, by decide +kernel, by decide +kernel⟩
theorem bd_lPart : Bd ["_law_pairs", "_law_around"] "_law_part" s_lPart := fun _ _ _ _ _ _ _ us hl => match us, hl with | [_, _], _ => rfl
theorem ok_lPart (F : Fd K mg "_law_part" s_lPart []) (G : Mod0 K mg) (c_tInit : C8.Mak P w K mg base 5 "Turning" (He.ga K "Turning") (spTInit K) []) (c_pInit : MakK P w K mg base 3 "Part" (He.ga K "Part") ["squeeze", "push"] (fun vs zs => vs ++ (zs ++ [V.non])) (spPInit K)) :
    C8.Cal P w K mg base 7 "_law_part" (spLPart K) [] := by
  refine cal_of F sc_lPart bd_lPart (fun vs H Q E h => ?_) fun f cdv A outer s H vs Q E hr h => ?_
  · obtain ⟨_, _, _, _, rfl, _⟩ := h; rfl
  · obtain ⟨d, N, po, so, rfl, wo, q⟩ := h
    have hu := hu_of hr
    refine ⟨_, (pss_cons (ps_set (i := 2) sc_lPart.nd rfl (Or.inl rfl) pe_non)
      (pss_cons (ps_set (i := 3) sc_lPart.nd rfl (Or.inl rfl) pe_non)
      (C8.pss_cut (ps_if (pt_cmp (by exact (pc_din hu pe_str (L2.pv 0)))) (pss_one (ps_set (i := 2) sc_lPart.nd rfl (Or.inl rfl) (C8.pe_mk c_tInit hr (by decide) rfl (pa_cons (L2.pv 1) (pa_cons (pe_callTy call_list_of (by rfl) G.b_list (by decide +kernel) (pa_cons (pe_dget hu (L2.pv 0) pe_str (fun _ _ => rfl)) pa_nil)) pa_nil))))) pss_nil)
      (C8.pss_cut (ps_if (pt_cmp (by exact (pc_din hu pe_str (L2.pv 0)))) (pss_one (ps_set (i := 3) sc_lPart.nd rfl (Or.inl rfl) (C8.pe_mk c_tInit hr (by decide) rfl (pa_cons (L2.pv 1) (pa_cons (pe_callTy call_list_of (by rfl) G.b_list (by decide +kernel) (pa_cons (pe_dget hu (L2.pv 0) pe_str (fun _ _ => rfl)) pa_nil)) pa_nil))))) pss_nil)
      (pss_one (ps_ret (pe_mkK c_pInit hr (by decide) rfl (pk_cons (L2.pv 2) (pk_cons (L2.pv 3) pk_nil))))))))), ?_⟩
    obtain ⟨kvs, hd, wv⟩ := wo.ex
    walk_at "st"
    refine ⟨fun σ H' => ∃ sqv, σ = [some (.ref d), some (.int N), some sqv, some .non] ∧ Same H H' ∧ ArgT K H' N sqv so, ?_, ?_⟩
    · walk_at "st"
      refine ⟨d, _, rfl, DGet.k (k := Sum.inr ("squeeze" : Str)) hd, ?_⟩
      rcases wv.look "squeeze" with ⟨l1, l2⟩ | ⟨rows, l, xs, l1, l2, hl, pv⟩
      · rw [l2]
        rw [look_sq] at l1
        refine ⟨_, rfl, ite2 (fun z => by cases z) fun _ => ?_⟩
        walk_at "st"
        exact ⟨.non, rfl, fun _ _ e => e, l1 ▸ rfl⟩
      · rw [l2]
        refine ⟨_, rfl, ite2 (fun _ => ?_) fun z => absurd rfl z⟩
        have va := wo.ok.val _ (lookup_mem l1)
        rw [look_sq] at l1
        walk_at "st"
        refine ⟨d, .ref l, rfl, ?_, ?_⟩
        · have := DGet.k (k := Sum.inr ("squeeze" : Str)) hd
          rw [l2] at this
          exact this
        walk_at "st"
        refine ⟨l, xs, rfl, .inl (sq hl), fun l' hl' => ?_⟩
        walk_at "st"
        intro x dx nx ndx nxx
        have sA : Same H (upd H l' (.lst xs)) := Same.new hl'
        have sB : Same (upd H l' (.lst xs)) (upd (upd (upd H l' (.lst xs)) dx (.own x)) x (.ins (He.ga K "Turning") dx [])) := (Same.new ndx).snew (by rw [upd_ne nxx.symm]; exact nx)
        refine ⟨x, N, l', dx, xs, rows, rfl, upd_same, sB _ _ upd_same, (pv.mono sA).mono sB, va.1, va.2, wo.ok.n2, wo.ok.n360, fun H' pd sx tu le => ⟨rfl, ?_⟩⟩
        have sC : Same H H' := sA.trans (Sx.made nx ndx sx)
        exact ⟨.ref x, rfl, sC, l1 ▸ ⟨x, pd, rfl, tu, le⟩⟩
    rintro σ H1 ⟨sqv, rfl, s1, a1⟩
    refine ⟨fun σ H' => ∃ sqv pu, σ = [some (.ref d), some (.int N), some sqv, some pu] ∧ Same H H' ∧ ArgT K H' N sqv so ∧ ArgT K H' N pu po, ?_, ?_⟩
    · walk_at "st"
      refine ⟨d, _, rfl, DGet.k (k := Sum.inr ("push" : Str)) (s1 _ _ hd), ?_⟩
      rcases (wv.mono s1).look "push" with ⟨l1, l2⟩ | ⟨rows, l, xs, l1, l2, hl, pv⟩
      · rw [l2]
        rw [look_pu] at l1
        refine ⟨_, rfl, ite2 (fun z => by cases z) fun _ => ?_⟩
        walk_at "st"
        exact ⟨sqv, .non, rfl, s1, a1, l1 ▸ rfl⟩
      · rw [l2]
        refine ⟨_, rfl, ite2 (fun _ => ?_) fun z => absurd rfl z⟩
        have va := wo.ok.val _ (lookup_mem l1)
        rw [look_pu] at l1
        walk_at "st"
        refine ⟨d, .ref l, rfl, ?_, ?_⟩
        · have := DGet.k (k := Sum.inr ("push" : Str)) (s1 _ _ hd)
          rw [l2] at this
          exact this
        walk_at "st"
        refine ⟨l, xs, rfl, .inl (sq hl), fun l' hl' => ?_⟩
        walk_at "st"
        intro x dx nx ndx nxx
        have sA : Same H1 (upd H1 l' (.lst xs)) := Same.new hl'
        have sB : Same (upd H1 l' (.lst xs)) (upd (upd (upd H1 l' (.lst xs)) dx (.own x)) x (.ins (He.ga K "Turning") dx [])) := (Same.new ndx).snew (by rw [upd_ne nxx.symm]; exact nx)
        refine ⟨x, N, l', dx, xs, rows, rfl, upd_same, sB _ _ upd_same, (pv.mono sA).mono sB, va.1, va.2, wo.ok.n2, wo.ok.n360, fun H' pd sx tu le => ⟨rfl, ?_⟩⟩
        have sC : Same H1 H' := sA.trans (Sx.made nx ndx sx)
        exact ⟨sqv, .ref x, rfl, s1.trans sC, a1.mono sC, l1 ▸ ⟨x, pd, rfl, tu, le⟩⟩
    rintro σ H2 ⟨sqv, pu, rfl, s2, a2, a3⟩
    walk_at "st"
    refine ⟨rfl, rfl, fun x dx nx ndx nxx => ?_⟩
    have sB : Same H2 (upd (upd H2 dx (.own x)) x (.ins (He.ga K "Part") dx [])) := (Same.new ndx).snew (by rw [upd_ne nxx.symm]; exact nx)
    have nrf : ∀ {v : V} {o : Option (List Row)}, ArgT K H2 N v o → v ≠ .ref x := fun {v o} a z => by
      subst z
      rcases a.is with ⟨_, e⟩ | ⟨rows, t, pd, _, e, tu, _⟩
      · cases e
      · have e := V.ref.inj e
        obtain ⟨_, _, _, _, h, _⟩ := tu.ex
        rw [← e, nx] at h
        cases h
    refine ⟨x, dx, sqv, pu, N, po, so, rfl, upd_same, a2.mono sB, a3.mono sB, wo.ok, nrf a2, nrf a3, wo.ev, fun H' sx pa => ⟨rfl, ?_⟩⟩
    exact q _ x (s2.trans (Sx.made nx ndx sx)) pa
end
end Jaw

/-! ## M8 -/
set_option linter.all false
namespace Jaw
theorem idx_le {rows : List Row} (h : rows.Pairwise (fun p q => p.1 < q.1)) {i j : Nat} {p q : Row} (e1 : rows[i]? = some p) (e2 : rows[j]? = some q) (l : i ≤ j) : p.1 ≤ q.1 := by
  obtain ⟨h1, g1⟩ := List.getElem?_eq_some_iff.mp e1
  obtain ⟨h2, g2⟩ := List.getElem?_eq_some_iff.mp e2
  rcases Nat.lt_or_eq_of_le l with l | rfl
  · have := List.pairwise_iff_getElem.mp h i j h1 h2 l
    rw [g1, g2] at this
    omega
  · rw [e1] at e2; cases e2; exact Int.le_refl _
theorem idx_lt {rows : List Row} (h : rows.Pairwise (fun p q => p.1 < q.1)) {i j : Nat} {p q : Row} (e1 : rows[i]? = some p) (e2 : rows[j]? = some q) (l : i < j) : p.1 < q.1 := by
  obtain ⟨h1, g1⟩ := List.getElem?_eq_some_iff.mp e1
  obtain ⟨h2, g2⟩ := List.getElem?_eq_some_iff.mp e2
  have := List.pairwise_iff_getElem.mp h i j h1 h2 l
  rw [g1, g2] at this
  exact this
/-- the row that a place is moved by -/
theorem table_row {N : Int} {rows : List Row} (v : Valid N rows) {x at' : Int} (x0 : 0 ≤ x) (x1 : x < N) (hat : ∀ (j : Nat) p, rows[j]? = some p → (p.1 ≤ x ↔ (j : Int) ≤ at')) {a : Nat} {r : Row} (ha : rows[a]? = some r)
    (hr : (0 ≤ at' ∧ (a : Int) = at') ∨ (at' = -1 ∧ a + 1 = rows.length)) : lift N rows x = (if at' < 0 then r.1 - N else r.1) + (r.2 - r.1) % N := by
  have hN := v.pos
  have hrm : r ∈ rows := List.mem_iff_getElem?.mpr ⟨a, ha⟩
  have rr := v.rng r hrm
  rcases hr with ⟨h0, ea⟩ | ⟨rfl, ea⟩
  · rw [if_neg (by omega)]
    refine lift_eq v ⟨r.1, ⟨r, hrm, 0, by omega, by unfold up; omega⟩, (hat a r ha).mpr (by omega), ?_⟩
    rintro B' R' ⟨q, hq, k, rfl, rfl⟩ hB
    have rq := v.rng q hq
    obtain ⟨j, hj⟩ := List.mem_iff_getElem?.mp hq
    rcases Int.lt_trichotomy k 0 with l | l | l
    · have := mul_lt_of hN l; omega
    · subst l
      have := (hat j q hj).mp (by omega)
      have := idx_le v.asc hj ha (by omega)
      omega
    · have := mul_lt_of hN l; omega
  · rw [if_pos (by decide)]
    refine lift_eq v ⟨r.1 - N, ⟨r, hrm, -1, by omega, by unfold up; omega⟩, by omega, ?_⟩
    rintro B' R' ⟨q, hq, k, rfl, rfl⟩ hB
    have rq := v.rng q hq
    obtain ⟨j, hj⟩ := List.mem_iff_getElem?.mp hq
    rcases Int.lt_trichotomy k 0 with l | l | l
    · have h1 := mul_lt_of hN l
      have := (List.getElem?_eq_some_iff.mp hj).1
      have := idx_le v.asc hj ha (by omega)
      omega
    · subst l
      have := (hat j q hj).mp (by omega)
      omega
    · have := mul_lt_of hN l; omega
/-- the places told off -/
def tbl (N : Int) (F : Int → Int) : List Int := (List.range N.toNat).map fun i : Nat => F i
theorem com_tbl {N s : Int} {F : Int → Int} (P : Proj N F) (hN : 0 < N) (h : ∀ i : Nat, (i : Int) < N → F (i + s) = F i + s) : Com F s := fun x => by
  have lapk : ∀ (k : Int) y, F (y + k * N) = F y + k * N := fun k y => (show Com F N from P.lap).mul k y
  have e := euc x hN
  have h1 := h (x % N).toNat (by omega)
  rw [Int.toNat_of_nonneg e.2.1] at h1
  have e1 : x + s = (x % N + s) + x / N * N := by omega
  have e2 : F x = F (x % N) + x / N * N := by rw [← lapk]; congr 1; omega
  rw [e1, lapk, h1, e2]
  omega
/-! ### the law's sets -/
section
variable {Wd : Type} {s : Int} {F : Wd → Int → Int}
/-- what the law follows: off by the border, then by the rest -/
def stepR (s b : Int) (F : Wd → Int → Int) (S : Int → Prop) (d : Wd × Int) : Int → Prop := fun v => ∃ x, S x ∧ ∃ z, -b ≤ z ∧ z ≤ b ∧ v = (F d.1 (x - d.2 + z) + d.2) % s
theorem step_mod (hs : 0 < s) {x : Wd} (c : Com (F x) s) {a b t : Int} (h : a % s = b % s) : (F x a + t) % s = (F x b + t) % s := by
  obtain ⟨k, hk⟩ := (emod_eq_iff hs).mp h
  rw [hk, c.mul]
  exact emod_shift hs k (by omega)
theorem real_step (hs : 0 < s) {r b : Int} (hr : 0 ≤ r) (hb : 0 ≤ b) {T : Int → Prop} {d : Wd × Int} (c : Com (F d.1) s) (v : Int) : stepR s b F (blur s r T) d v ↔ stepT s (r + b) F T d v := by
  unfold stepR stepT blur
  constructor
  · rintro ⟨x, ⟨u, hu, y, y1, y2, rfl⟩, z, z1, z2, rfl⟩
    refine ⟨u, hu, y + z, by omega, by omega, step_mod hs c ?_⟩
    have e := euc (u + y) hs
    exact emod_shift hs (-((u + y) / s)) (by rw [Int.neg_mul]; omega)
  · rintro ⟨u, hu, z, z1, z2, rfl⟩
    -- split z
    have : ∃ y w : Int, -r ≤ y ∧ y ≤ r ∧ -b ≤ w ∧ w ≤ b ∧ z = y + w := by
      by_cases q1 : z ≤ -b
      · exact ⟨z + b, -b, by omega, by omega, by omega, by omega, by omega⟩
      · by_cases q2 : b ≤ z
        · exact ⟨z - b, b, by omega, by omega, by omega, by omega, by omega⟩
        · exact ⟨0, z, by omega, by omega, by omega, by omega, by omega⟩
    obtain ⟨y, w, y1, y2, w1, w2, rfl⟩ := this
    refine ⟨_, ⟨u, hu, y, y1, y2, rfl⟩, w, w1, w2, step_mod hs c ?_⟩
    have e := euc (u + y) hs
    exact emod_shift hs ((u + y) / s) (by omega)
theorem real_first (hs : 0 < s) {r b : Int} (hr : 0 ≤ r) (hb : 0 ≤ b) {d : Wd × Int} (c : Com (F d.1) s) (v : Int) : stepR s b F (full s) d v ↔ stepT s (r + b) F (full s) d v := by
  unfold stepR stepT full
  constructor
  · rintro ⟨x, hx, z, z1, z2, rfl⟩
    exact ⟨x, hx, z, by omega, by omega, step_mod hs c (by congr 1; omega)⟩
  · rintro ⟨u, hu, z, z1, z2, rfl⟩
    have e := euc (u + z) hs
    refine ⟨(u + z) % s, e.2, 0, by omega, hb, step_mod hs c ?_⟩
    exact emod_shift hs ((u + z) / s) (by omega)
theorem stepR_congr {b : Int} {S T : Int → Prop} (h : ∀ x, S x ↔ T x) (d : Wd × Int) (v : Int) : stepR s b F S d v ↔ stepR s b F T d v := by
  unfold stepR
  constructor
  · rintro ⟨x, a, k⟩; exact ⟨x, (h x).mp a, k⟩
  · rintro ⟨x, a, k⟩; exact ⟨x, (h x).mpr a, k⟩
theorem blur_congr {b : Int} {S T : Int → Prop} (h : ∀ x, S x ↔ T x) (v : Int) : blur s b S v ↔ blur s b T v := by
  unfold blur
  constructor
  · rintro ⟨x, a, k⟩; exact ⟨x, (h x).mp a, k⟩
  · rintro ⟨x, a, k⟩; exact ⟨x, (h x).mpr a, k⟩
theorem blur_zero (hs : 0 < s) {T : Int → Prop} (h : ∀ x, T x → 0 ≤ x ∧ x < s) (v : Int) : blur s 0 T v ↔ T v := by
  unfold blur
  constructor
  · rintro ⟨u, hu, z, z1, z2, rfl⟩
    have := h u hu
    rw [Int.emod_eq_of_lt (by omega) (by omega)]
    have : u + z = u := by omega
    rw [this]; exact hu
  · intro hv
    have := h v hv
    exact ⟨v, hv, 0, by omega, by omega, by rw [Int.add_zero, Int.emod_eq_of_lt this.1 this.2]⟩
/-- the standings the law follows, behind k deeds -/
def Real (s r b : Int) (F : Wd → Int → Int) (ds : List (Wd × Int)) : Int → Prop := match ds with
  | [] => full s
  | d :: l => blur s r (Ts s (r + b) F (d :: l))
theorem real_snoc (hs : 0 < s) {r b : Int} (hr : 0 ≤ r) (hb : 0 ≤ b) {ds : List (Wd × Int)} {d : Wd × Int} (c : Com (F d.1) s) (v : Int) : Real s r b F (ds ++ [d]) v ↔ blur s r (stepR s b F (Real s r b F ds) d) v := by
  have e : Real s r b F (ds ++ [d]) = blur s r (Ts s (r + b) F (ds ++ [d])) := by cases ds <;> rfl
  rw [e, Ts_snoc]
  cases ds with
  | nil => exact blur_congr (fun x => (real_first hs hr hb c x).symm) v
  | cons d0 l => exact blur_congr (fun x => (real_step hs hr hb c x).symm) v
end
end Jaw

/-! ## W17 -/
set_option Elab.async false
set_option linter.all false
set_option maxRecDepth 100000
set_option maxHeartbeats 4000000
namespace Jaw
open PySem PySem.Spec PyProof.Rows L2
local macro_rules | `(tactic| walk_at "st") => `(tactic| ((try (set_option simprocs false in dsimp only)); (repeat (first
  | with_reducible refine g_seq ?_
  | with_reducible refine g_set ?_
  | with_reducible refine g_asg ?_
  | with_reducible refine g_drop ?_
  | with_reducible refine g_ret ?_
  | with_reducible refine g_retN ?_
  | with_reducible refine g_ifs ?_
  | with_reducible refine g_next ?_
  | with_reducible refine g_brk ?_
  | with_reducible refine g_cont ?_
  | (with_reducible refine g_var ?_; refine ⟨_, rfl, ?_⟩)
  | with_reducible refine g_c ?_
  | with_reducible refine g_op ?_
  | with_reducible refine g_un ?_
  | with_reducible refine g_rI0 ?_
  | with_reducible refine g_rU ?_
  | with_reducible refine g_nil ?_
  | with_reducible refine g_cons ?_
  | with_reducible refine g_cb ?_
  | with_reducible refine g_call ?_
  | with_reducible refine g_test ?_
  | with_reducible refine g_tB ?_
  | with_reducible refine g_bl ?_
  | with_reducible refine g_and ?_
  | with_reducible refine g_or ?_
  | with_reducible refine g_not ?_
  | with_reducible refine g_andV ?_
  | with_reducible refine g_orV ?_
  | with_reducible refine g_notV ?_
  | with_reducible refine g_ife ?_
  | with_reducible refine g_chain ?_
  | with_reducible refine g_par ?_
  | with_reducible refine g_tup ?_
  | with_reducible refine g_lst ?_
  | with_reducible refine g_fld ?_
  | with_reducible refine g_meth ?_
  | with_reducible refine g_sfld ?_
  | with_reducible refine g_prop ?_
  | with_reducible refine g_item ?_
  | with_reducible refine g_eqI ?_
  | with_reducible refine g_neI ?_
  | with_reducible refine g_for ?_
  | with_reducible refine g_lc ?_
  | with_reducible refine g_iE ?_
  | with_reducible refine g_iL ?_
  | with_reducible refine g_iT ?_
  | with_reducible refine g_iR1 ?_
  | with_reducible refine g_iR2 ?_
  | with_reducible refine g_iV ?_
  | with_reducible refine g_iK ?_
  | with_reducible refine g_yes ?_
  | with_reducible refine g_mkK ?_
  | with_reducible refine g_sub ?_
  | with_reducible refine g_make ?_
  | with_reducible refine g_eqS ?_
  | with_reducible refine g_neS ?_
  | with_reducible refine g_dc ?_
  | with_reducible refine g_dnK ?_
  | with_reducible refine g_dnT ?_
  | with_reducible refine g_dget ?_
  | with_reducible refine g_dput ?_
  | with_reducible refine g_din ?_
  | with_reducible refine g_dnin ?_
  | with_reducible refine g_bm ?_
  | with_reducible refine g_si ?_
  | with_reducible refine g_lstRg ?_
  | with_reducible refine g_tupRg ?_
  | with_reducible refine g_rg1 ?_
  | with_reducible refine g_gn ?_
  | with_reducible refine g_nt ?_
  | with_reducible refine g_nf ?_
  | with_reducible refine iteT ?_
  | with_reducible refine iteF ?_))))
section
variable {P : Program} {w : World} {K : PySem.W.Frag} {mg : Str → Option Value} {base : Heap}
def spLTable : Sp := fun vs H Q _ => ∃ a N xs rows, vs = [.ref a, .int N] ∧ H a = some (.lst xs) ∧ PV H xs rows ∧ Valid N rows ∧ rows.length ≤ 12 ∧ N ≤ 60 ∧ ∀ H' l, Same H H' → H' l = some (.lst ((tbl N (lift N rows)).map V.int)) → Q (.ref l) H'
theorem sc_lTable : FnScope ["_law_pairs", "_law_around", "_law_table_here", "_law_at", "_law_place", "_law_begin"] ["_law_pairs", "_law_around"] (defScope s_lTable) := ⟨rfl, rfl, rfl, by decide +kernel, rfl, by decide +kernel, by decide +kernel⟩
theorem bd_lTable : Bd ["_law_pairs", "_law_around"] "_law_table" s_lTable := fun _ _ _ _ _ _ _ us hl => match us, hl with | [_, _], _ => rfl
theorem ok_lTable (F : Fd K mg "_law_table" s_lTable []) (G : Mod0 K mg) : C8.Cal P w K mg base 1 "_law_table" spLTable [] := by
  refine cal_of F sc_lTable bd_lTable (fun vs H Q E h => ?_) fun f cdv A outer s H vs Q E hr h => ?_
  · obtain ⟨_, _, _, _, rfl, _⟩ := h; rfl
  · obtain ⟨a, N, xs, rows, rfl, ha, pv, v, l12, h60, q⟩ := h
    have hN := v.pos
    have lx := pv.len
    have rl : 0 < rows.length := by
      cases e : rows with
      | nil => exact absurd e v.ne
      | cons _ _ => exact Nat.succ_pos _
    refine ⟨_, (pss_cons (ps_set (i := 2) sc_lTable.nd rfl (Or.inl rfl) (pe_lst pa_nil))
      (pss_cons (ps_set (i := 3) sc_lTable.nd rfl (Or.inl rfl) (pe_un un_neg pe_int))
      (pss_cons (ps_for PassesOwn.never rfl (pi_range1 rfl G.b_range (pa_cons (L2.pv 1) pa_nil)) (pg_name (i := 4) sc_lTable.nd rfl (Or.inl rfl)) (C8.pss_cut (ps_if (PW.pt (pw_and (pt_cmpR op_lt (pe_op op_add (L2.pv 3) pe_int) (pe_callB call_len_seq (by rfl) G.b_len (by decide +kernel) (pa_cons (L2.pv 0) pa_nil)) (nomark _)) (pw_and1 (pt_cmpR op_eq (pe_ix ix_tup (pe_ix ix_list (L2.pv 0) (pe_op op_add (L2.pv 3) pe_int) (fun _ _ => rfl)) pe_int (fun _ _ => rfl)) (L2.pv 4) (nomark _))))) (pss_one (ps_set (i := 3) sc_lTable.nd rfl (Or.inl rfl) (pe_op op_add (L2.pv 3) pe_int))) pss_nil)
      (pss_cons (ps_set (i := 5) sc_lTable.nd rfl (Or.inl rfl) (pe_ix ix_tup (pe_ix ix_list (L2.pv 0) (L2.pv 3) (fun _ _ => rfl)) pe_int (fun _ _ => rfl)))
      (C8.pss_cut (ps_if (pt_cmpR op_lt (L2.pv 3) pe_int (nomark _)) (pss_one (ps_set (i := 5) sc_lTable.nd rfl (Or.inl rfl) (pe_op op_sub (L2.pv 5) (L2.pv 1)))) pss_nil)
      (pss_one (ps_expr (pe_bm PySem.F.plainAttrs_list PySem.F.slot_list_append PySem.F.type_list_append mt_append (L2.pv 2) (pa_cons (pe_op op_add (L2.pv 5) (pe_op op_mod (pe_op op_sub (pe_ix ix_tup (pe_ix ix_list (L2.pv 0) (L2.pv 3) (fun _ _ => rfl)) pe_int (fun _ _ => rfl)) (pe_ix ix_tup (pe_ix ix_list (L2.pv 0) (L2.pv 3) (fun _ _ => rfl)) pe_int (fun _ _ => rfl))) (L2.pv 1))) pa_nil))))))))
      (pss_one (ps_ret (L2.pv 2)))))), ?_⟩
    walk_at "st"
    refine ⟨g_small0, fun tl htl => ?_⟩
    have nta : a ≠ tl := ne_of_none ha htl
    have s1 : Same H (upd H tl (.lst [])) := Same.new htl
    walk_at "st"
    refine ⟨N, rfl, by omega, by omega, loopR (fun i σ H' => ∃ (at' : Int) (o4 o5 : Option V), σ = [some (.ref a), some (.int N), some (.ref tl), some (.int at'), o4, o5] ∧ Same H H' ∧ H' tl = some (.lst (((List.range i).map fun j : Nat => lift N rows j).map V.int)) ∧
      -1 ≤ at' ∧ at' < rows.length ∧ ∀ (j : Nat) p, rows[j]? = some p → (p.1 < i ↔ (j : Int) ≤ at')) ?_ ?_ ?_⟩
    · exact ⟨-1, none, none, rfl, s1, upd_same, by omega, by omega, fun j p hj => by
        have := v.rng p (List.mem_iff_getElem?.mpr ⟨j, hj⟩)
        constructor
        · intro h; omega
        · intro h; omega⟩
    · rintro i σ H' hi ⟨at', o4, o5, rfl, s', htl', a0, a1, hat⟩
      have hi : i < N.toNat := hi
      have z0 : (0 : Int) + (i : Int) = ((i : Nat) : Int) := by omega
      walk_at "st"
      refine ⟨fun σ H2 => ∃ (at2 : Int) (o5 : Option V), σ = [some (.ref a), some (.int N), some (.ref tl), some (.int at2), some (.int (i : Nat)), o5] ∧ H2 = H' ∧ -1 ≤ at2 ∧ at2 < rows.length ∧ ∀ (j : Nat) p, rows[j]? = some p → (p.1 ≤ i ↔ (j : Int) ≤ at2), ?_, ?_⟩
      · walk_at "st"
        refine ⟨a, _, rfl, .inl (sq (s' _ _ ha)), ?_⟩
        walk_at "st"
        rw [z0]
        have keep : ∀ (c : ∀ p, rows[(at' + 1).toNat]? = some p → p.1 ≠ i), ∀ (j : Nat) p, rows[j]? = some p → (p.1 ≤ i ↔ (j : Int) ≤ at') := fun c j p hj => by
          have h1 := hat j p hj
          constructor
          · intro h
            by_cases q : p.1 < i
            · exact h1.mp q
            · by_cases g : (j : Int) ≤ at'
              · exact g
              · exfalso
                have pe : p.1 = i := by omega
                have jl := (List.getElem?_eq_some_iff.mp hj).1
                obtain ⟨u, hu⟩ : ∃ u, rows[(at' + 1).toNat]? = some u := ⟨_, List.getElem?_eq_getElem (by omega)⟩
                have h2 := hat _ u hu
                have h3 := idx_le v.asc hu hj (by omega)
                have h4 := c u hu
                have : ¬ u.1 < i := fun z => by have := h2.mp z; omega
                omega
          · intro h
            have := h1.mpr h
            omega
        refine iC (fun c => ?_) (fun c => ?_)
        · obtain ⟨u, hu⟩ : ∃ u, rows[(at' + 1).toNat]? = some u := ⟨_, List.getElem?_eq_getElem (by omega)⟩
          obtain ⟨t, ht, hh⟩ := pv.at2 hu
          walk_at "st"
          refine ⟨_, _, _, _, rfl, rfl, sq (s' _ _ ha), (by rw [← Int.toNat_of_nonneg (show 0 ≤ at' + 1 by omega)]; exact atI_nat ht), ?_⟩
          walk_at "st"
          refine ⟨_, _, _, _, rfl, rfl, st (s' _ _ hh), atI_nat (j := 0) (v := .int u.1) rfl, ?_⟩
          walk_at "st"
          rw [dec_I]
          refine iC (fun c2 => ?_) (fun c2 => ?_)
          · walk_at "st"
            refine ⟨at' + 1, _, rfl, rfl, by omega, by omega, fun j p hj => ?_⟩
            have h1 := hat j p hj
            constructor
            · intro h
              by_cases g : (j : Int) ≤ at' + 1
              · exact g
              · have := idx_lt v.asc hu hj (by omega)
                omega
            · intro h
              have := idx_le v.asc hj hu (by omega)
              omega
          · exact ⟨at', _, rfl, rfl, a0, a1, keep fun p hp => by rw [hu] at hp; cases hp; exact c2⟩
        · exact ⟨at', _, rfl, rfl, a0, a1, keep fun p hp => by have := (List.getElem?_eq_some_iff.mp hp).1; omega⟩
      · rintro σ H2 ⟨at2, o5', rfl, rfl, b0, b1, hat2⟩
        obtain ⟨ai, hai⟩ : ∃ ai : Nat, ((0 ≤ at2 ∧ (ai : Int) = at2) ∨ (at2 = -1 ∧ ai + 1 = rows.length)) := by
          by_cases g : 0 ≤ at2
          · exact ⟨at2.toNat, .inl ⟨g, by omega⟩⟩
          · exact ⟨rows.length - 1, .inr ⟨by omega, by omega⟩⟩
        obtain ⟨u, hu⟩ : ∃ u, rows[ai]? = some u := ⟨_, List.getElem?_eq_getElem (by rcases hai with h | h <;> omega)⟩
        obtain ⟨t, ht, hh⟩ := pv.at2 hu
        have eat : atI xs at2 = some (.ref t) := by
          rcases hai with ⟨g, e⟩ | ⟨e, el⟩
          · rw [← e]; exact atI_nat ht
          · subst e
            obtain ⟨h1, h2⟩ := List.getElem?_eq_some_iff.mp ht
            rcases List.eq_nil_or_concat xs with h | ⟨ys, z, h⟩
            · subst h; cases h1
            · rw [List.concat_eq_append] at h
              subst h
              have : ai = ys.length := by rw [List.length_append] at lx; have : [z].length = 1 := rfl; omega
              subst this
              rw [List.getElem?_append_right (Nat.le_refl _), Nat.sub_self] at ht
              cases ht
              exact atI_last _ _
        have val := table_row v (x := (i : Int)) (by omega) (by omega) hat2 hu hai
        walk_at "st"
        refine ⟨_, _, _, _, rfl, rfl, sq (s' _ _ ha), eat, ?_⟩
        walk_at "st"
        refine ⟨_, _, _, _, rfl, rfl, st (s' _ _ hh), atI_nat (j := 0) (v := .int u.1) rfl, ?_⟩
        walk_at "st"
        refine ⟨fun σ H3 => σ = [some (.ref a), some (.int N), some (.ref tl), some (.int at2), some (.int (i : Nat)), some (.int (if at2 < 0 then u.1 - N else u.1))] ∧ H3 = H2, ?_, ?_⟩
        · walk_at "st"
          refine iC (fun c => ?_) (fun c => ?_)
          · rw [if_pos c]
            walk_at "st"
            exact ⟨rfl, rfl⟩
          · rw [if_neg c]
            exact ⟨rfl, rfl⟩
        · rintro σ H3 ⟨rfl, rfl⟩
          walk_at "st"
          refine ⟨.inl ⟨rfl, _, sq htl'⟩, ?_⟩
          walk_at "st"
          refine ⟨_, _, _, _, rfl, rfl, sq (s' _ _ ha), eat, ?_⟩
          walk_at "st"
          refine ⟨_, _, _, _, rfl, rfl, st (s' _ _ hh), atI_nat (j := 1) (v := .int u.2) rfl, ?_⟩
          walk_at "st"
          refine ⟨_, _, _, _, rfl, rfl, sq (s' _ _ ha), eat, ?_⟩
          walk_at "st"
          refine ⟨_, _, _, _, rfl, rfl, st (s' _ _ hh), atI_nat (j := 0) (v := .int u.1) rfl, ?_⟩
          walk_at "st"
          refine g_rI hN ?_
          walk_at "st"
          rw [← val]
          refine ⟨tl, _, _, rfl, rfl, htl', small1000 (by rw [List.length_map, List.length_map, List.length_range]; omega), ?_⟩
          refine ⟨at2, _, _, rfl, s'.sput htl, ?_, b0, b1, fun j p hj => ?_⟩
          · rw [List.range_succ, List.map_append, List.map_append]; exact upd_same
          · have := hat2 j p hj
            exact Iff.trans ⟨fun h => by omega, fun h => by omega⟩ this
    · rintro σ H' ⟨at', o4, o5, rfl, s', htl', a0, a1, hat⟩
      walk_at "st"
      exact q _ tl s' htl'
/-- a told off map -/
structure TblAt (H : Hp) (t : Addr) (N : Int) (F : Int → Int) : Prop where
  ex : H t = some (.lst ((tbl N F).map V.int))
def spLLift : Sp := fun vs H Q _ => ∃ t x N F, vs = [.ref t, .int x] ∧ TblAt H t N F ∧ 0 < N ∧ N ≤ 60 ∧ Com F N ∧ Q (.int (F x)) H
theorem sc_lLift : FnScope ["_law_table_here", "_law_x", "_law_around"] ["_law_table_here", "_law_x"] (defScope s_lLift) := ⟨rfl, rfl, rfl, by decide +kernel, rfl, by decide +kernel, by decide +kernel⟩
theorem bd_lLift : Bd ["_law_table_here", "_law_x"] "_law_lift" s_lLift := fun _ _ _ _ _ _ _ us hl => match us, hl with | [_, _], _ => rfl
theorem ok_lLift (F : Fd K mg "_law_lift" s_lLift []) (G : Mod0 K mg) : C8.Cal P w K mg base 1 "_law_lift" spLLift [] := by
  refine cal_of F sc_lLift bd_lLift (fun vs H Q E h => ?_) fun f cdv A outer s H vs Q E hr h => ?_
  · obtain ⟨_, _, _, _, rfl, _⟩ := h; rfl
  · obtain ⟨t, x, N, F, rfl, ⟨ht⟩, hN, h60, cm, q⟩ := h
    have lt : (tbl N F).length = N.toNat := by unfold tbl; rw [List.length_map, List.length_range]
    have e := euc x hN
    refine ⟨_, (pss_cons (ps_set (i := 2) sc_lLift.nd rfl (Or.inl rfl) (pe_callB call_len_seq (by rfl) G.b_len (by decide +kernel) (pa_cons (L2.pv 0) pa_nil)))
      (pss_one (ps_ret (pe_op op_add (pe_ix ix_list (L2.pv 0) (pe_op op_mod (pe_callTy call_int1 (by rfl) G.b_int (by decide +kernel) (pa_cons (L2.pv 1) pa_nil)) (L2.pv 2)) (fun _ _ => rfl)) (pe_op op_mul (pe_op op_fdiv (L2.pv 1) (L2.pv 2)) (L2.pv 2)))))), ?_⟩
    walk_at "st"
    refine ⟨t, _, rfl, .inl (sq ht), ?_⟩
    rw [List.length_map, lt, Int.toNat_of_nonneg (by omega)]
    walk_at "st"
    refine .inl ⟨x, rfl, ?_⟩
    walk_at "st"
    refine g_rI hN ?_
    walk_at "st"
    refine ⟨_, _, _, _, rfl, rfl, sq ht, (by rw [← Int.toNat_of_nonneg e.2.1]; exact atI_nat (v := .int (F (x % N))) (by
      unfold tbl
      rw [List.getElem?_map, List.getElem?_map, List.getElem?_range (by omega)]
      show some (V.int (F (((x % N).toNat : Nat) : Int))) = _
      rw [Int.toNat_of_nonneg e.2.1])), ?_⟩
    walk_at "st"
    refine g_rI ⟨hN, by omega⟩ ?_
    walk_at "st"
    refine g_rI (.inr ⟨by omega, by omega⟩) ?_
    walk_at "st"
    have e2 : F (x % N) + x / N * N = F x := by
      rw [← cm.mul]; congr 1; omega
    rw [e2]
    exact q
/-- the told off maps by word -/
def TabV (H : Hp) (N : Int) (kvs : List (Key × V)) (ws : Ws) : Prop := Paired (fun (kv : Key × V) (wr : Str × List Row) => kv.1 = Sum.inr wr.1 ∧ ∃ t, kv.2 = .ref t ∧ TblAt H t N (lift N wr.2)) kvs ws
theorem TabV.mono {H H' : Hp} {N : Int} {kvs : List (Key × V)} {ws : Ws} (h : TabV H N kvs ws) (s : Same H H') : TabV H' N kvs ws := Paired.mapQ h fun _ _ ⟨a, t, b, c⟩ => ⟨a, t, b, ⟨s _ _ c.ex⟩⟩
theorem TabV.sxd {H H' : Hp} {p : Addr} {kk : List (Key × V)} {N : Int} {kvs : List (Key × V)} {ws : Ws} (h : TabV H N kvs ws) (s : Sx p H H') (hp : H p = some (.dK kk)) : TabV H' N kvs ws := Paired.mapQ h fun _ _ ⟨a, t, b, c⟩ => ⟨a, t, b, ⟨s _ _ c.ex (ne_of c.ex hp (by intro z; cases z))⟩⟩
theorem TabV.look {H : Hp} {N : Int} {kvs : List (Key × V)} {ws : Ws} (h : TabV H N kvs ws) (x : Str) : (ws.lookup x = none ∧ valV kvs (Sum.inr x : Key) = none) ∨
    ∃ rows t, ws.lookup x = some rows ∧ valV kvs (Sum.inr x : Key) = some (.ref t) ∧ TblAt H t N (lift N rows) := by
  unfold TabV at h
  induction h with
  | nil => exact .inl ⟨rfl, rfl⟩
  | cons r t ih =>
    rename_i a b l1 l2
    obtain ⟨w, rows⟩ := b
    obtain ⟨kk, vv⟩ := a
    obtain ⟨e, l, e2, hl⟩ := r
    have e : kk = Sum.inr w := e
    have e2 : vv = .ref l := e2
    subst e e2
    by_cases q : x = w
    · subst q
      refine .inr ⟨rows, l, ?_, valV_pos rfl, hl⟩
      rw [List.lookup_cons, beq_self_eq_true]
    · have hb : (x == w) = false := beq_eq_false_iff_ne.mpr q
      have hv : valV ((Sum.inr w, V.ref l) :: l1) (Sum.inr x : Key) = valV l1 (Sum.inr x) := valV_neg fun z => q (Sum.inr.inj z).symm
      rw [List.lookup_cons, hb, hv]
      exact ih
def spLKeeps : Sp := fun vs H Q _ => ∃ d s N ws kvs, vs = [.ref d, .int s] ∧ H d = some (.dK kvs) ∧ TabV H N kvs ws ∧ PartOk N ws ∧ N ≤ 60 ∧ ∀ b : Bool, (b = true ↔ ∀ F ∈ maps N ws, Com F s) → Q (.bl b) H
theorem sc_lKeeps : FnScope ["_law_tables_here", "_law_span_here", "_law_word", "_law_table_here", "_law_x"] ["_law_tables_here", "_law_span_here"] (defScope s_lKeeps) := ⟨rfl, rfl, rfl, by decide +kernel, rfl, by decide +kernel, by decide +kernel⟩
theorem bd_lKeeps : Bd ["_law_tables_here", "_law_span_here"] "_law_keeps" s_lKeeps := fun _ _ _ _ _ _ _ us hl => match us, hl with | [_, _], _ => rfl
theorem ok_lKeeps (F : Fd K mg "_law_keeps" s_lKeeps []) (G : Mod0 K mg) (c_lLift : C8.Cal P w K mg base 1 "_law_lift" spLLift []) : C8.Cal P w K mg base 2 "_law_keeps" spLKeeps [] := by
  refine cal_of F sc_lKeeps bd_lKeeps (fun vs H Q E h => ?_) fun f cdv A outer s H vs Q E hr h => ?_
  · obtain ⟨_, _, _, _, _, rfl, _⟩ := h; rfl
  · obtain ⟨d, s, N, ws, kvs, rfl, hd, tv, ok, h60, q⟩ := h
    have hu := hu_of hr
    have hN : 0 < N := by have := ok.n2; omega
    refine ⟨_, (pss_cons (ps_lock (ps_for PassesOwn.never rfl (pi_keys (L2.pv 0)) (pg_name (i := 2) sc_lKeeps.nd rfl (Or.inl rfl)) (pss_cons (ps_set (i := 3) sc_lKeeps.nd rfl (Or.inl rfl) (pe_dget hu (L2.pv 0) (L2.pv 2) (fun _ _ => rfl)))
      (pss_one (ps_for PassesOwn.never rfl (pi_range1 rfl G.b_range (pa_cons (pe_callB call_len_seq (by rfl) G.b_len (by decide +kernel) (pa_cons (L2.pv 3) pa_nil)) pa_nil)) (pg_name (i := 4) sc_lKeeps.nd rfl (Or.inl rfl)) (pss_one (ps_if (pt_cmpR op_ne (C8.pe_c c_lLift hr (by decide) rfl (pa_cons (L2.pv 3) (pa_cons (pe_op op_add (L2.pv 4) (L2.pv 1)) pa_nil))) (pe_op op_add (pe_ix ix_list (L2.pv 3) (L2.pv 4) (fun _ _ => rfl)) (L2.pv 1)) (nomark _)) (pss_one (ps_ret pe_bl)) pss_nil)))))))
      (pss_one (ps_ret pe_bl))), ?_⟩
    walk_at "st"
    refine ⟨d, _, hd, True.intro, fun od => ?_⟩
    have sx : Sx d H (upd H d (.frz od (.dK kvs))) := Sx.refl.upd
    have back : upd (upd H d (.frz od (.dK kvs))) d (.dK kvs) = H := by rw [upd_upd, upd_self hd]
    have hfz : upd H d (.frz od (.dK kvs)) d = some (.frz od (.dK kvs)) := upd_same
    have tvF : TabV (upd H d (.frz od (.dK kvs))) N kvs ws := tv.sxd sx hd
    generalize upd H d (.frz od (.dK kvs)) = HF at back hfz tvF ⊢
    walk_at "st"
    refine ⟨d, _, rfl, .inl ⟨_, hfz, loopK (fun i σ H' => ∃ o2 o3 o4, σ = [some (.ref d), some (.int s), o2, o3, o4] ∧ H' = HF ∧ ∀ wr ∈ ws.take i, Com (lift N wr.2) s) ?_ ?_ ?_ ?_⟩⟩
    · exact ⟨_, _, _, rfl, rfl, fun wr h => by cases h⟩
    · rintro i σ H' ⟨_, _, _, rfl, rfl, _⟩
      exact hfz
    · rintro i kk vv σ HG e ⟨o2, o3, o4, rfl, rfl, cs⟩
      obtain ⟨wr, e1, ek, t0, et, ht0⟩ := Paired.at1 tvF e
      have ek : kk = Sum.inr wr.1 := ek
      have hv := ok.val wr (mem_of_at e1)
      have lt : (tbl N (lift N wr.2)).length = N.toNat := by unfold tbl; rw [List.length_map, List.length_range]
      subst ek
      have sm : ws.lookup wr.1 = some wr.2 := by
        have dis : ∀ {i : Nat} {wr : Str × List Row}, ws[i]? = some wr → ws.lookup wr.1 = some wr.2 := fun {i wr} e1 => by
          have np : ¬ (("squeeze" : Str) = "push") := by decide +kernel
          rcases ok.shape with ⟨r, rfl⟩ | ⟨r, rfl⟩ | ⟨r1, r2, rfl⟩
          · match i, e1 with
            | 0, e1 => cases e1; rw [List.lookup_cons, beq_self_eq_true]
            | i + 1, e1 => simp at e1
          · match i, e1 with
            | 0, e1 => cases e1; rw [List.lookup_cons, beq_self_eq_true]
            | i + 1, e1 => simp at e1
          · match i, e1 with
            | 0, e1 => cases e1; rw [List.lookup_cons, beq_self_eq_true]
            | 1, e1 => cases e1; rw [List.lookup_cons, beq_eq_false_iff_ne.mpr np]; show List.lookup _ [(("squeeze" : Str), r2)] = _; rw [List.lookup_cons, beq_self_eq_true]
            | i + 2, e1 => simp at e1
        exact dis e1
      obtain ⟨t, look, ht⟩ : ∃ t, valV kvs (Sum.inr wr.1 : Key) = some (.ref t) ∧ TblAt HG t N (lift N wr.2) := by
        rcases tvF.look wr.1 with ⟨h, _⟩ | ⟨rows, t', h, h2, h3⟩
        · rw [sm] at h; cases h
        · rw [sm] at h
          cases h
          exact ⟨t', h2, h3⟩
      walk_at "st"
      refine ⟨d, .ref t, rfl, .inl ⟨kvs, Sum.inr wr.1, .inr ⟨_, hfz⟩, rfl, look.symm⟩, ?_⟩
      walk_at "st"
      refine ⟨t, _, rfl, .inl (sq ht.ex), ?_⟩
      rw [List.length_map, lt]
      walk_at "st"
      refine ⟨_, rfl, by omega, by omega, loopR (fun j σ H' => ∃ o4, σ = [some (.ref d), some (.int s), some (.str wr.1), some (.ref t), o4] ∧ H' = HG ∧ ∀ j' : Nat, j' < j → lift N wr.2 (j' + s) = lift N wr.2 j' + s) ?_ ?_ ?_⟩
      · exact ⟨_, rfl, rfl, fun j' h => absurd h (Nat.not_lt_zero _)⟩
      · rintro j σ H' hj ⟨o4', rfl, rfl, hc⟩
        have z0 : (0 : Int) + (j : Int) = ((j : Nat) : Int) := by omega
        walk_at "st"
        rw [z0]
        refine ⟨t, _, N, _, rfl, ht, hN, h60, (lift_proj hv.1).lap, ?_⟩
        walk_at "st"
        refine ⟨_, _, _, _, rfl, rfl, sq ht.ex, atI_nat (v := .int (lift N wr.2 j)) (by
          unfold tbl
          rw [List.getElem?_map, List.getElem?_map, List.getElem?_range (by omega)]; rfl), ?_⟩
        walk_at "st"
        rw [dec_I]
        refine iCN (fun c => ?_) (fun c => ?_)
        · walk_at "st"
          refine ⟨hfz, ?_⟩
          rw [back]
          refine q false ⟨(fun h => by cases h), fun h => ?_⟩
          exact absurd (h _ (List.mem_map.mpr ⟨wr, mem_of_at e1, rfl⟩) j) c
        · refine ⟨_, rfl, rfl, fun j' h => ?_⟩
          rcases Nat.lt_or_eq_of_le (Nat.lt_succ_iff.mp h) with l | rfl
          · exact hc j' l
          · exact c
      · rintro σ H' ⟨o4', rfl, rfl, hc⟩
        refine ⟨_, _, _, rfl, rfl, fun wr' h => ?_⟩
        rw [take_snoc e1, List.mem_append] at h
        rcases h with h | h
        · exact cs wr' h
        · rw [List.mem_singleton.mp h]
          exact com_tbl (lift_proj hv.1) hN fun i hi => hc i (by omega)
    · rintro σ H' ⟨o2, o3, o4, rfl, rfl, cs⟩
      rw [Paired.len tvF, List.take_length] at cs
      refine ⟨hfz, ?_⟩
      walk_at "st"
      rw [back]
      refine q true ⟨fun _ F hF => ?_, fun _ => rfl⟩
      obtain ⟨wr, hw, rfl⟩ := List.mem_map.mp hF
      exact cs wr hw
end
end Jaw

/-! ## W18 -/
set_option Elab.async false
set_option linter.all false
set_option maxRecDepth 100000
set_option maxHeartbeats 4000000
namespace Jaw
open PySem PySem.Spec PyProof.Rows L2
theorem g_pc {tk tv : TE} {r : List (TE × TE)} {σ : L2.St} {H : Hp} {Q : List (V × V) → Hp → Prop} (h : tk σ H fun x H1 => tv σ H1 fun y H2 => tPairs r σ H2 fun ps H3 => Q ((x, y) :: ps) H3) : tPairs ((tk, tv) :: r) σ H Q := h
theorem g_pn {σ : L2.St} {H : Hp} {Q : List (V × V) → Hp → Prop} (h : Q [] H) : tPairs [] σ H Q := h
local macro_rules | `(tactic| walk_at "st") => `(tactic| ((try (set_option simprocs false in dsimp only)); (repeat (first
  | with_reducible refine g_seq ?_
  | with_reducible refine g_set ?_
  | with_reducible refine g_asg ?_
  | with_reducible refine g_drop ?_
  | with_reducible refine g_ret ?_
  | with_reducible refine g_retN ?_
  | with_reducible refine g_ifs ?_
  | with_reducible refine g_next ?_
  | with_reducible refine g_brk ?_
  | with_reducible refine g_cont ?_
  | (with_reducible refine g_var ?_; refine ⟨_, rfl, ?_⟩)
  | with_reducible refine g_c ?_
  | with_reducible refine g_op ?_
  | with_reducible refine g_un ?_
  | with_reducible refine g_rI0 ?_
  | with_reducible refine g_rU ?_
  | with_reducible refine g_nil ?_
  | with_reducible refine g_cons ?_
  | with_reducible refine g_cb ?_
  | with_reducible refine g_call ?_
  | with_reducible refine g_test ?_
  | with_reducible refine g_tB ?_
  | with_reducible refine g_bl ?_
  | with_reducible refine g_and ?_
  | with_reducible refine g_or ?_
  | with_reducible refine g_not ?_
  | with_reducible refine g_andV ?_
  | with_reducible refine g_orV ?_
  | with_reducible refine g_notV ?_
  | with_reducible refine g_ife ?_
  | with_reducible refine g_chain ?_
  | with_reducible refine g_par ?_
  | with_reducible refine g_tup ?_
  | with_reducible refine g_lst ?_
  | with_reducible refine g_fld ?_
  | with_reducible refine g_meth ?_
  | with_reducible refine g_sfld ?_
  | with_reducible refine g_prop ?_
  | with_reducible refine g_item ?_
  | with_reducible refine g_eqI ?_
  | with_reducible refine g_neI ?_
  | with_reducible refine g_for ?_
  | with_reducible refine g_lc ?_
  | with_reducible refine g_iE ?_
  | with_reducible refine g_iL ?_
  | with_reducible refine g_iT ?_
  | with_reducible refine g_iR1 ?_
  | with_reducible refine g_iR2 ?_
  | with_reducible refine g_iV ?_
  | with_reducible refine g_iK ?_
  | with_reducible refine g_yes ?_
  | with_reducible refine g_disp ?_
  | with_reducible refine g_pc ?_
  | with_reducible refine g_pn ?_
  | with_reducible refine g_mkK ?_
  | with_reducible refine g_sub ?_
  | with_reducible refine g_make ?_
  | with_reducible refine g_eqS ?_
  | with_reducible refine g_neS ?_
  | with_reducible refine g_dc ?_
  | with_reducible refine g_dnK ?_
  | with_reducible refine g_dnT ?_
  | with_reducible refine g_dget ?_
  | with_reducible refine g_dput ?_
  | with_reducible refine g_din ?_
  | with_reducible refine g_dnin ?_
  | with_reducible refine g_bm ?_
  | with_reducible refine g_si ?_
  | with_reducible refine g_lstRg ?_
  | with_reducible refine g_tupRg ?_
  | with_reducible refine g_rg1 ?_
  | with_reducible refine g_gn ?_
  | with_reducible refine g_nt ?_
  | with_reducible refine g_nf ?_
  | with_reducible refine iteT ?_
  | with_reducible refine iteF ?_))))
section
variable {P : Program} {w : World} {K : PySem.W.Frag} {mg : Str → Option Value} {base : Heap}
theorem sorted_words {N : Int} {ws : Ws} (ok : PartOk N ws) {ys : List Str} (perm : ys.Perm (ws.map (·.1))) (srt : sortedS ys = true) : ys = ws.map (·.1) := by
  have two : ∀ {a b : Str}, ys.Perm [a, b] → ys = [a, b] ∨ ys = [b, a] := fun {a b} p => by
    have l := p.length_eq
    match ys, l, p with
    | [x, y], _, p =>
      have hx : x = a ∨ x = b := by
        have := p.mem_iff.mp (List.mem_cons_self ..)
        simpa using this
      rcases hx with rfl | rfl
      · have := (List.perm_cons x).mp p
        rw [List.perm_singleton.mp this]; exact .inl rfl
      · have := (List.perm_cons x).mp (p.trans (List.Perm.swap x a []))
        rw [List.perm_singleton.mp this]; exact .inr rfl
  rcases ok.shape with ⟨r, rfl⟩ | ⟨r, rfl⟩ | ⟨r1, r2, rfl⟩
  · exact List.perm_singleton.mp perm
  · exact List.perm_singleton.mp perm
  · rcases two perm with h | h
    · exact h
    · rw [h] at srt
      exact absurd (show sortedS [("squeeze" : Str), ("push" : Str)] = true from srt) (by decide +kernel)
theorem look_at {N : Int} {ws : Ws} (ok : PartOk N ws) {i : Nat} {wr : Str × List Row} (e1 : ws[i]? = some wr) : ws.lookup wr.1 = some wr.2 ∧ (ws.take i).lookup wr.1 = none := by
  have np : ¬ (("squeeze" : Str) = "push") := by decide +kernel
  rcases ok.shape with ⟨r, rfl⟩ | ⟨r, rfl⟩ | ⟨r1, r2, rfl⟩
  · match i, e1 with
    | 0, e1 => cases e1; exact ⟨by rw [List.lookup_cons, beq_self_eq_true], rfl⟩
    | i + 1, e1 => simp at e1
  · match i, e1 with
    | 0, e1 => cases e1; exact ⟨by rw [List.lookup_cons, beq_self_eq_true], rfl⟩
    | i + 1, e1 => simp at e1
  · match i, e1 with
    | 0, e1 => cases e1; exact ⟨by rw [List.lookup_cons, beq_self_eq_true], rfl⟩
    | 1, e1 =>
      cases e1
      refine ⟨?_, ?_⟩
      · rw [List.lookup_cons, beq_eq_false_iff_ne.mpr np]; show List.lookup _ [(("squeeze" : Str), r2)] = _; rw [List.lookup_cons, beq_self_eq_true]
      · show List.lookup _ [(("push" : Str), r1)] = _; rw [List.lookup_cons, beq_eq_false_iff_ne.mpr np]; rfl
    | i + 2, e1 => simp at e1
theorem ws_len {N : Int} {ws : Ws} (ok : PartOk N ws) : ws.length ≤ 2 := by
  rcases ok.shape with ⟨r, rfl⟩ | ⟨r, rfl⟩ | ⟨r1, r2, rfl⟩
  · exact Nat.le_succ _
  · exact Nat.le_succ _
  · exact Nat.le_refl _
def spLTables : Sp := fun vs H Q _ => ∃ d N kvs ws, vs = [.ref d, .int N] ∧ H d = some (.dK kvs) ∧ WV H kvs ws ∧ PartOk N ws ∧ N ≤ 60 ∧ ∀ H' td tk, Same H H' → H td = none → H' td = some (.dK tk) → TabV H' N tk ws → Q (.ref td) H'
theorem sc_lTables : FnScope ["_law_pairs", "_law_around", "_law_tables_here", "_law_word"] ["_law_pairs", "_law_around"] (defScope s_lTables) := ⟨rfl, rfl, rfl, by decide +kernel, rfl, by decide +kernel, by decide +kernel⟩
theorem bd_lTables : Bd ["_law_pairs", "_law_around"] "_law_tables" s_lTables := fun _ _ _ _ _ _ _ us hl => match us, hl with | [_, _], _ => rfl
theorem ok_lTables (F : Fd K mg "_law_tables" s_lTables []) (G : Mod0 K mg) (c_lTable : C8.Cal P w K mg base 1 "_law_table" spLTable []) : C8.Cal P w K mg base 2 "_law_tables" spLTables [] := by
  refine cal_of F sc_lTables bd_lTables (fun vs H Q E h => ?_) fun f cdv A outer s H vs Q E hr h => ?_
  · obtain ⟨_, _, _, _, rfl, _⟩ := h; rfl
  · obtain ⟨d, N, kvs, ws, rfl, hd, wv, ok, h60, q⟩ := h
    have hu := hu_of hr
    have wl := ws_len ok
    refine ⟨_, (pss_cons (ps_set (i := 2) sc_lTables.nd rfl (Or.inl rfl) pe_dnewK)
      (pss_cons (ps_for PassesOwn.never rfl (pi_list (pe_callB cr_sortedS (by rfl) G.b_sorted (by decide +kernel) (pa_cons (pe_callTy (call_list_dK rfl) (by rfl) G.b_list (by decide +kernel) (pa_cons (L2.pv 0) pa_nil)) pa_nil))) (pg_name (i := 3) sc_lTables.nd rfl (Or.inl rfl)) (pss_one (ps_dput hu (L2.pv 2) (L2.pv 3) (C8.pe_c c_lTable hr (by decide) rfl (pa_cons (pe_dget hu (L2.pv 0) (L2.pv 3) (fun _ _ => rfl)) (pa_cons (L2.pv 1) pa_nil))) rfl)))
      (pss_one (ps_ret (L2.pv 2))))), ?_⟩
    walk_at "st"
    intro td htd
    have s1 : Same H (upd H td (.dK [])) := Same.new htd
    have htd1 : upd H td (.dK []) td = _ := upd_same
    generalize upd H td (.dK []) = H1 at s1 htd1 ⊢
    walk_at "st"
    refine ⟨d, kvs, rfl, s1 _ _ hd, fun q1 hq1 => ?_⟩
    rw [wv.keys]
    walk_at "st"
    refine ⟨q1, ws.map (·.1), rfl, sq upd_same, by rw [List.length_map]; omega, fun ys q2 perm srt hq2 => ?_⟩
    obtain rfl := sorted_words ok perm srt
    have s2 := (s1.snew (o := .lst ((ws.map (·.1)).map V.str)) hq1).snew (o := .lst ((ws.map (·.1)).map V.str)) hq2
    have nt1 := ne_of_none htd1 hq1
    have htd2 : upd (upd H1 q1 (.lst ((ws.map (·.1)).map V.str))) q2 (.lst ((ws.map (·.1)).map V.str)) td = some (.dK []) := (upd_ne (ne_of_none ((upd_ne nt1).trans htd1) hq2)).trans ((upd_ne nt1).trans htd1)
    have hq3 : upd (upd H1 q1 (.lst ((ws.map (·.1)).map V.str))) q2 (.lst ((ws.map (·.1)).map V.str)) q2 = some (.lst ((ws.map (·.1)).map V.str)) := upd_same
    generalize upd (upd H1 q1 (.lst ((ws.map (·.1)).map V.str))) q2 (.lst ((ws.map (·.1)).map V.str)) = H2 at s2 htd2 hq3 ⊢
    have nq : q2 ≠ td := ne_of hq3 htd2 (by intro z; cases z)
    refine ⟨q2, rfl, ⟨_, sq hq3⟩, loopL (xs := (ws.map (·.1)).map V.str) (fun i σ H' => ∃ (o3 : Option V) (tk : List (Key × V)), σ = [some (.ref d), some (.int N), some (.ref td), o3] ∧ Same H H' ∧ H' q2 = some (.lst ((ws.map (·.1)).map V.str)) ∧ H' td = some (.dK tk) ∧ TabV H' N tk (ws.take i)) ?_ ?_ ?_ ?_⟩
    · exact ⟨none, [], rfl, s2, hq3, htd2, .nil⟩
    · rintro i σ H' ⟨o3, tk, rfl, s', hq', _⟩
      exact sq hq'
    · rintro i x σ H' e ⟨o3, tk, rfl, s', hq', ht', tv⟩
      rw [List.getElem?_map, List.getElem?_map] at e
      cases e2 : ws[i]? with
      | none => rw [e2] at e; cases e
      | some wr =>
      rw [e2] at e
      obtain rfl : V.str wr.1 = x := Option.some.inj e
      obtain ⟨sm, sn⟩ := look_at ok e2
      have hi : i < ws.length := (List.getElem?_eq_some_iff.mp e2).1
      have hv := ok.val wr (mem_of_at e2)
      obtain ⟨l, xs, look, hl, pv⟩ : ∃ l xs, valV kvs (Sum.inr wr.1 : Key) = some (.ref l) ∧ H' l = some (.lst xs) ∧ PV H' xs wr.2 := by
        rcases (wv.mono s').look wr.1 with ⟨h, _⟩ | ⟨rows, l, xs, h, h2, h3, h4⟩
        · rw [sm] at h; cases h
        · rw [sm] at h
          cases h
          exact ⟨l, xs, h2, h3, h4⟩
      walk_at "st"
      refine ⟨d, .ref l, rfl, ?_, ?_⟩
      · have := DGet.k (k := Sum.inr wr.1) (s' _ _ hd)
        rw [look] at this
        exact this
      walk_at "st"
      refine ⟨l, N, xs, wr.2, rfl, hl, pv, hv.1, hv.2, h60, fun H4 t s4 ht4 => ?_⟩
      have htd4 := s4 _ _ ht'
      have ntt : t ≠ td := ne_of ht4 htd4 (by intro z; cases z)
      have ltk : tk.length ≤ 2 := by
        have := Paired.len tv
        rw [List.length_take] at this
        omega
      have nv : valV tk (Sum.inr wr.1 : Key) = none := by
        rcases tv.look wr.1 with ⟨_, h⟩ | ⟨rows, t', h, _⟩
        · exact h
        · rw [sn] at h; cases h
      walk_at "st"
      refine ⟨td, _, rfl, DPut.k (k := Sum.inr wr.1) htd4 (small1000 (by omega)), ?_⟩
      have s5 : Sx td H4 (upd H4 td (.dK (putK tk (Sum.inr wr.1) (.ref t)))) := Sx.refl.upd
      refine ⟨_, _, rfl, (s'.trans s4).sput htd, (upd_ne nq).trans (s4 _ _ hq'), upd_same, ?_⟩
      rw [take_snoc e2, putK_new _ nv]
      rw [putK_new _ nv] at s5
      exact Paired.snoc ((tv.mono s4).sxd s5 htd4) ⟨rfl, t, rfl, ⟨(upd_ne ntt).trans ht4⟩⟩
    · rintro σ H' ⟨o3, tk, rfl, s', hq', ht', tv⟩
      rw [List.length_map, List.length_map, List.take_length] at tv
      walk_at "st"
      exact q _ td tk s' htd ht' tv
def spLSpan : Sp := fun vs H Q _ => ∃ d N ws kvs p, vs = [.ref d, .int N] ∧ H d = some (.dK kvs) ∧ TabV H N kvs ws ∧ PartOk N ws ∧ N ≤ 60 ∧ PerOf N (maps N ws) p ∧ Q (.int p) H
theorem sc_lSpan : FnScope ["_law_tables_here", "_law_around", "_law_span_here"] ["_law_tables_here", "_law_around"] (defScope s_lSpan) := ⟨rfl, rfl, rfl, by decide +kernel, rfl, by decide +kernel, by decide +kernel⟩
theorem bd_lSpan : Bd ["_law_tables_here", "_law_around"] "_law_span" s_lSpan := fun _ _ _ _ _ _ _ us hl => match us, hl with | [_, _], _ => rfl
theorem ok_lSpan (F : Fd K mg "_law_span" s_lSpan []) (G : Mod0 K mg) (c_lKeeps : C8.Cal P w K mg base 2 "_law_keeps" spLKeeps []) : C8.Cal P w K mg base 3 "_law_span" spLSpan [] := by
  refine cal_of F sc_lSpan bd_lSpan (fun vs H Q E h => ?_) fun f cdv A outer s H vs Q E hr h => ?_
  · obtain ⟨_, _, _, _, _, rfl, _⟩ := h; rfl
  · obtain ⟨d, N, ws, kvs, p, rfl, hd, tv, ok, h60, per, q⟩ := h
    have n2 := ok.n2
    have hN : 0 < N := by omega
    have p0 := per.pos
    have pN := per.le hN
    have pd : N % p = 0 := Int.emod_eq_zero_of_dvd per.dvd
    refine ⟨_, (pss_cons (ps_for PassesOwn.never rfl (pi_range2 rfl G.b_range (pa_cons pe_int (pa_cons (L2.pv 1) pa_nil))) (pg_name (i := 2) sc_lSpan.nd rfl (Or.inl rfl)) (pss_one (ps_if (PW.pt (pw_and (pt_cmpR op_eq (pe_op op_mod (L2.pv 1) (L2.pv 2)) pe_int (nomark _)) (pw_and1 (pt_val (C8.pe_c c_lKeeps hr (by decide) rfl (pa_cons (L2.pv 0) (pa_cons (L2.pv 2) pa_nil))))))) (pss_one (ps_ret (L2.pv 2))) pss_nil)))
      (pss_one (ps_ret (L2.pv 1)))), ?_⟩
    walk_at "st"
    refine ⟨1, N, rfl, by omega, loopR (fun i σ H' => ∃ o2, σ = [some (.ref d), some (.int N), o2] ∧ H' = H ∧ (i : Int) < p) ?_ ?_ ?_⟩
    · exact ⟨none, rfl, rfl, p0⟩
    · rintro i σ H' hi ⟨o2, rfl, rfl, ip⟩
      have hi : i < (N - 1).toNat := hi
      walk_at "st"
      refine g_rI (show (0 : Int) < 1 + (i : Int) by omega) ?_
      walk_at "st"
      rw [dec_I]
      have last : ¬ (1 + (i : Int) = p) → (((i + 1 : Nat) : Int)) < p := fun h => by omega
      refine iC (fun c => ?_) (fun c => ?_)
      · walk_at "st"
        refine ⟨d, _, N, ws, kvs, rfl, hd, tv, ok, h60, fun b hb => ?_⟩
        cases b with
        | true =>
          walk_at "st"
          have h1 := per.least _ (hb.mp rfl)
          have := Int.le_of_dvd (by omega) h1
          have e : 1 + (i : Int) = p := by omega
          rw [e]
          exact q
        | false =>
          walk_at "st"
          refine ⟨_, rfl, rfl, last fun e => ?_⟩
          have := hb.mpr (by rw [e]; exact per.com)
          cases this
      · walk_at "st"
        refine ⟨_, rfl, rfl, last fun e => ?_⟩
        rw [e] at c
        exact c pd
    · rintro σ H' ⟨o2, rfl, rfl, ip⟩
      walk_at "st"
      have e : N = p := by
        have : ((N - 1).toNat : Int) = N - 1 := by omega
        omega
      rw [e]
      exact q
structure ModelAt (H : Hp) (m : Addr) (N : Int) (ws : Ws) (p : Int) : Prop where
  ex : ∃ kvs tk td, H m = some (.dK kvs) ∧ valV kvs (Sum.inr ("tables" : Str) : Key) = some (.ref td) ∧ valV kvs (Sum.inr ("span" : Str) : Key) = some (.int p) ∧ H td = some (.dK tk) ∧ TabV H N tk ws
theorem ModelAt.mono {H H' : Hp} {m : Addr} {N p : Int} {ws : Ws} (h : ModelAt H m N ws p) (s : Same H H') : ModelAt H' m N ws p := by
  obtain ⟨kvs, tk, td, a, b, c, d, e⟩ := h.ex
  exact ⟨kvs, tk, td, s _ _ a, b, c, s _ _ d, e.mono s⟩
def spLModel : Sp := fun vs H Q _ => ∃ d N po so p, vs = [.ref d, .int N] ∧ WorldAt H d N po so ∧ N ≤ 60 ∧ PerOf N (maps N (wsOf po so)) p ∧ ∀ H' m, Same H H' → ModelAt H' m N (wsOf po so) p → Q (.ref m) H'
theorem sc_lModel : FnScope ["_law_pairs", "_law_around", "_law_tables_here", "_law_span_here", "_law_rests", "_law_word", "_law_x"] ["_law_pairs", "_law_around"] (defScope s_lModel) := ⟨rfl, rfl, rfl, by decide +kernel, rfl, by decide +kernel, by decide +kernel⟩
theorem bd_lModel : Bd ["_law_pairs", "_law_around"] "_law_model" s_lModel := fun _ _ _ _ _ _ _ us hl => match us, hl with | [_, _], _ => rfl
theorem ok_lModel (F : Fd K mg "_law_model" s_lModel []) (G : Mod0 K mg) (c_lTables : C8.Cal P w K mg base 2 "_law_tables" spLTables []) (c_lSpan : C8.Cal P w K mg base 3 "_law_span" spLSpan []) : C8.Cal P w K mg base 4 "_law_model" spLModel [] := by
  refine cal_of F sc_lModel bd_lModel (fun vs H Q E h => ?_) fun f cdv A outer s H vs Q E hr h => ?_
  · obtain ⟨_, _, _, _, _, rfl, _⟩ := h; rfl
  · obtain ⟨d, N, po, so, p, rfl, wo, h60, per, q⟩ := h
    have hu := hu_of hr
    obtain ⟨kvs, hd, wv⟩ := wo.ex
    have ok := wo.ok
    have n2 := ok.n2
    have hN : 0 < N := by omega
    have pN := per.le hN
    have pp := per.pos
    have wl := ws_len ok
    refine ⟨_, (pss_cons (ps_set (i := 2) sc_lModel.nd rfl (Or.inr rfl) (C8.pe_c c_lTables hr (by decide) rfl (pa_cons (L2.pv 0) (pa_cons (L2.pv 1) pa_nil))))
      (pss_cons (ps_set (i := 3) sc_lModel.nd rfl (Or.inl rfl) (C8.pe_c c_lSpan hr (by decide) rfl (pa_cons (L2.pv 2) (pa_cons (L2.pv 1) pa_nil))))
      (pss_cons (ps_set (i := 4) sc_lModel.nd rfl (Or.inl rfl) pe_dnewK)
      (pss_cons (ps_lock (ps_for PassesOwn.never rfl (pi_keys (L2.pv 2)) (pg_name (i := 5) sc_lModel.nd rfl (Or.inr rfl)) (pss_one (ps_dput hu (L2.pv 4) (L2.pv 5) (pe_lc (own := [("_law_x", 6)]) (g := (gName 6)) rfl sc_lModel.nd (pi_range1 rfl G.b_range (pa_cons (L2.pv 3) pa_nil)) (blkOk_by (N := ["_law_pairs", "_law_around", "_law_tables_here", "_law_span_here", "_law_rests", "_law_word", "_law_x"]) (sc := defScope s_lModel) (by decide +kernel)) (fun _ _ _ _ _ => (pg_name (i := 6) sc_lModel.nd rfl (Or.inl rfl))) (fun _ _ _ _ _ => (pts_one (pt_cmpR op_eq (pe_ix (ix_listK (K := K) rfl) (pe_dget hu (L2.pv 2) (L2.pv 5) (fun _ _ => rfl)) (L2.pv 6) (fun _ _ => rfl)) (L2.pv 6) (nomark _)))) (fun _ _ _ _ _ => (L2.pv 6))) rfl))))
      (pss_one (ps_ret (pe_disp (pps_cons pe_str (L2.pv 1) (pps_cons pe_str (L2.pv 3) (pps_cons pe_str (L2.pv 2) (pps_cons pe_str (L2.pv 4) (pps_cons pe_str pe_dnewK pps_nil))))) (by rfl) (by rfl) (fun z => by cases z) (by decide)))))))), ?_⟩
    walk_at "st"
    refine ⟨d, N, kvs, _, rfl, hd, wv, ok, h60, fun H1 td tk s1 ntd htd tv => ?_⟩
    walk_at "st"
    refine ⟨td, N, _, tk, p, rfl, htd, tv, ok, h60, per, ?_⟩
    walk_at "st"
    intro rd hrd
    have s2 : Same H1 (upd H1 rd (.dK [])) := Same.new hrd
    have hrd2 : upd H1 rd (.dK []) rd = _ := upd_same
    have ntr : td ≠ rd := ne_of_none htd hrd
    have nrd0 : H rd = none := s1.free hrd
    generalize upd H1 rd (.dK []) = H2 at s2 hrd2 ⊢
    have tv2 := tv.mono s2
    have htd2 := s2 _ _ htd
    walk_at "st"
    refine ⟨td, _, htd2, True.intro, fun od => ?_⟩
    walk_at "st"
    refine ⟨td, _, rfl, .inl ⟨tk, upd_same, loopK (fun i σ H' => ∃ (o5 : Option V) (rk : List (Key × V)), σ = [some (.ref d), some (.int N), some (.ref td), some (.int p), some (.ref rd), o5, none] ∧ (∀ c o, H2 c = some o → c ≠ rd → c ≠ td → H' c = some o) ∧ H' td = some (.frz od (.dK tk)) ∧ H' rd = some (.dK rk) ∧ rk.length ≤ i) ?_ ?_ ?_ ?_⟩⟩
    · refine ⟨none, [], rfl, fun c o e n1 n2 => (upd_ne n2).trans e, upd_same, (upd_ne ntr.symm).trans hrd2, Nat.le_refl _⟩
    · rintro i σ H' ⟨o5, rk, rfl, s', ht', _⟩
      exact ht'
    · rintro i kk vv σ H' e ⟨o5, rk, rfl, s', ht', hr', lr⟩
      obtain ⟨wr, e1, ek, t0, et, ht0⟩ := Paired.at1 tv2 e
      have ek : kk = Sum.inr wr.1 := ek
      subst ek
      have hi : i < (wsOf po so).length := (List.getElem?_eq_some_iff.mp e1).1
      obtain ⟨sm, _⟩ := look_at ok e1
      obtain ⟨t, look, ht⟩ : ∃ t, valV tk (Sum.inr wr.1 : Key) = some (.ref t) ∧ TblAt H2 t N (lift N wr.2) := by
        rcases tv2.look wr.1 with ⟨h, _⟩ | ⟨rows, t', h, h2, h3⟩
        · rw [sm] at h; cases h
        · rw [sm] at h
          cases h
          exact ⟨t', h2, h3⟩
      have ht' : H' t = _ ∧ H' td = _ := ⟨s' _ _ ht.ex (ne_of ht.ex hrd2 (by intro z; cases z)) (ne_of ht.ex htd2 (by intro z; cases z)), ht'⟩
      walk_at "st"
      refine ⟨p, rfl, by omega, by have := per.pos; omega, fun Dd hD => lcR (fun j H3 => Same H' H3 ∧ ∃ ys, H3 Dd = some (.lst ys) ∧ ys.length ≤ j) ⟨Same.new hD, [], upd_same, Nat.le_refl _⟩ ?_ ?_⟩
      · rintro j H3 hj ⟨s3, ys, hdd, ly⟩
        have z0 : (0 : Int) + (j : Int) = ((j : Nat) : Int) := by omega
        have hj : j < p.toNat := hj
        refine lct_n rfl ?_
        walk_at "st"
        refine ⟨td, .ref t, rfl, .inl ⟨tk, Sum.inr wr.1, .inr ⟨_, s3 _ _ ht'.2⟩, rfl, look.symm⟩, ?_⟩
        walk_at "st"
        rw [z0]
        refine ⟨_, _, _, _, rfl, rfl, sq (s3 _ _ ht'.1), atI_nat (v := .int (lift N wr.2 j)) (by
          unfold tbl
          rw [List.getElem?_map, List.getElem?_map, List.getElem?_range (by omega)]; rfl), ?_⟩
        walk_at "st"
        refine iC (fun c => ?_) (fun c => ?_)
        · walk_at "st"
          exact ⟨ys, hdd, small1000 (by omega), s3.sput hD, _, upd_same, by rw [List.length_append]; exact Nat.succ_le_succ ly⟩
        · exact ⟨s3, ys, hdd, by omega⟩
      · rintro H4 ⟨s4, ys, hdd, ly⟩
        walk_at "st"
        have hr4 := s4 _ _ hr'
        refine ⟨rd, _, rfl, DPut.k (k := Sum.inr wr.1) hr4 (small1000 (by omega)), ?_⟩
        refine ⟨_, _, rfl, fun c o e n1 n2 => (upd_ne n1).trans (s4 _ _ (s' _ _ e n1 n2)), (upd_ne ntr).trans (s4 _ _ ht'.2), upd_same, ?_⟩
        have := length_putK rk (Sum.inr wr.1) (.ref Dd); omega
    · rintro σ H' ⟨o5, rk, rfl, s', ht', hr', lr⟩
      refine ⟨ht', ?_⟩
      have nt0 := ntd
      have s5 : Same H (upd H' td (.dK tk)) := fun c o e => (upd_ne (ne_of_none e ntd)).trans (s' _ _ (s2 _ _ (s1 _ _ e)) (ne_of_none e nrd0) (ne_of_none e ntd))
      have hT : upd H' td (.dK tk) td = some (.dK tk) := upd_same
      have tv5 : TabV (upd H' td (.dK tk)) N tk (wsOf po so) := Paired.mapQ tv2 fun kv wr ⟨a, t, b, c⟩ => ⟨a, t, b, ⟨(upd_ne (ne_of c.ex htd2 (by intro z; cases z))).trans (s' _ _ c.ex (ne_of c.ex hrd2 (by intro z; cases z)) (ne_of c.ex htd2 (by intro z; cases z)))⟩⟩
      generalize upd H' td (.dK tk) = H5 at s5 hT tv5 ⊢
      walk_at "st"
      intro m hm
      walk_at "st"
      intro sd hsd
      walk_at "st"
      have nms : m ≠ sd := ne_of_none upd_same hsd
      refine ⟨(upd_ne nms).trans upd_same, [(Sum.inr ("around" : Str), .int N), (Sum.inr ("span" : Str), .int p), (Sum.inr ("tables" : Str), .ref td), (Sum.inr ("rests" : Str), .ref rd), (Sum.inr ("seen" : Str), .ref sd)], rfl, (show 5 ≤ 15 by decide), ?_⟩
      have s6 : Same H5 (upd (upd (upd H5 m (.dK [])) sd (.dK [])) m (.dK (mergeK [] [(Sum.inr ("around" : Str), .int N), (Sum.inr ("span" : Str), .int p), (Sum.inr ("tables" : Str), .ref td), (Sum.inr ("rests" : Str), .ref rd), (Sum.inr ("seen" : Str), .ref sd)]))) := ((Same.new hm).snew hsd).sput hm
      refine q _ m (s5.trans s6) ⟨_, tk, td, upd_same, ?_, ?_, s6 _ _ hT, tv5.mono s6⟩
      · rfl
      · rfl
end
end Jaw

/-! ## W19 -/
set_option Elab.async false
set_option linter.all false
set_option maxRecDepth 100000
set_option maxHeartbeats 4000000
namespace Jaw
open PySem PySem.Spec PyProof.Rows L2
local macro_rules | `(tactic| walk_at "st") => `(tactic| ((try (set_option simprocs false in dsimp only)); (repeat (first
  | with_reducible refine g_seq ?_
  | with_reducible refine g_set ?_
  | with_reducible refine g_asg ?_
  | with_reducible refine g_drop ?_
  | with_reducible refine g_ret ?_
  | with_reducible refine g_retN ?_
  | with_reducible refine g_ifs ?_
  | with_reducible refine g_next ?_
  | with_reducible refine g_brk ?_
  | with_reducible refine g_cont ?_
  | (with_reducible refine g_var ?_; refine ⟨_, rfl, ?_⟩)
  | with_reducible refine g_c ?_
  | with_reducible refine g_op ?_
  | with_reducible refine g_un ?_
  | with_reducible refine g_rI0 ?_
  | with_reducible refine g_rU ?_
  | with_reducible refine g_nil ?_
  | with_reducible refine g_cons ?_
  | with_reducible refine g_cb ?_
  | with_reducible refine g_call ?_
  | with_reducible refine g_test ?_
  | with_reducible refine g_tB ?_
  | with_reducible refine g_bl ?_
  | with_reducible refine g_and ?_
  | with_reducible refine g_or ?_
  | with_reducible refine g_not ?_
  | with_reducible refine g_andV ?_
  | with_reducible refine g_orV ?_
  | with_reducible refine g_notV ?_
  | with_reducible refine g_ife ?_
  | with_reducible refine g_chain ?_
  | with_reducible refine g_par ?_
  | with_reducible refine g_tup ?_
  | with_reducible refine g_lst ?_
  | with_reducible refine g_fld ?_
  | with_reducible refine g_meth ?_
  | with_reducible refine g_sfld ?_
  | with_reducible refine g_prop ?_
  | with_reducible refine g_item ?_
  | with_reducible refine g_eqI ?_
  | with_reducible refine g_neI ?_
  | with_reducible refine g_for ?_
  | with_reducible refine g_lc ?_
  | with_reducible refine g_iE ?_
  | with_reducible refine g_iL ?_
  | with_reducible refine g_iT ?_
  | with_reducible refine g_iR1 ?_
  | with_reducible refine g_iR2 ?_
  | with_reducible refine g_iV ?_
  | with_reducible refine g_iK ?_
  | with_reducible refine g_yes ?_
  | with_reducible refine g_disp ?_
  | with_reducible refine g_pc ?_
  | with_reducible refine g_pn ?_
  | with_reducible refine g_mkK ?_
  | with_reducible refine g_sub ?_
  | with_reducible refine g_make ?_
  | with_reducible refine g_eqS ?_
  | with_reducible refine g_neS ?_
  | with_reducible refine g_dc ?_
  | with_reducible refine g_dnK ?_
  | with_reducible refine g_dnT ?_
  | with_reducible refine g_dget ?_
  | with_reducible refine g_dput ?_
  | with_reducible refine g_din ?_
  | with_reducible refine g_dnin ?_
  | with_reducible refine g_bm ?_
  | with_reducible refine g_si ?_
  | with_reducible refine g_lstRg ?_
  | with_reducible refine g_tupRg ?_
  | with_reducible refine g_rg1 ?_
  | with_reducible refine g_gn ?_
  | with_reducible refine g_nt ?_
  | with_reducible refine g_nf ?_
  | with_reducible refine iteT ?_
  | with_reducible refine iteF ?_))))
section
variable {P : Program} {w : World} {K : PySem.W.Frag} {mg : Str → Option Value} {base : Heap}
def spLBlur : Sp := fun vs H Q _ => ∃ a r s ns, vs = [.ref a, .int r, .int s] ∧ H a = some (.lst ((ns : List Int).map V.int)) ∧ 0 ≤ r ∧ r ≤ 10 ∧ 0 < s ∧ s ≤ 60 ∧ ns.length ≤ 60 ∧ ∀ H' l ms, Same H H' → H l = none → H' l = some (.lst ((ms : List Int).map V.int)) → Asc ms (blur s r (· ∈ ns)) → Q (.ref l) H'
theorem sc_lBlur : FnScope ["_law_places", "_law_rest", "_law_span_here", "_law_found", "_law_x", "_law_z"] ["_law_places", "_law_rest", "_law_span_here"] (defScope s_lBlur) := ⟨rfl, rfl, rfl, by decide +kernel, rfl, by decide +kernel, by decide +kernel⟩
theorem bd_lBlur : Bd ["_law_places", "_law_rest", "_law_span_here"] "_law_blurred" s_lBlur := fun _ _ _ _ _ _ _ us hl => match us, hl with | [_, _, _], _ => rfl
theorem ok_lBlur (F : Fd K mg "_law_blurred" s_lBlur []) (G : Mod0 K mg) : C8.Cal P w K mg base 1 "_law_blurred" spLBlur [] := by
  refine cal_of F sc_lBlur bd_lBlur (fun vs H Q E h => ?_) fun f cdv A outer s0 H vs Q E hr h => ?_
  · obtain ⟨_, _, _, _, rfl, _⟩ := h; rfl
  · obtain ⟨a, r, s, ns, rfl, ha, r0, r1, s0, s1, ln, q⟩ := h
    refine ⟨_, (pss_cons (ps_set (i := 3) sc_lBlur.nd rfl (Or.inl rfl) (pe_lst pa_nil))
      (pss_cons (ps_for PassesOwn.never rfl (pi_list (L2.pv 0)) (pg_name (i := 4) sc_lBlur.nd rfl (Or.inr rfl)) (pss_one (ps_expr (pe_bm PySem.F.plainAttrs_list PySem.F.slot_list_extend PySem.F.type_list_extend mt_extend (L2.pv 3) (pa_cons (pe_lc (own := [("_law_z", 5)]) (g := (gName 5)) (tt := tYes) rfl sc_lBlur.nd (pi_range1 rfl G.b_range (pa_cons (pe_op op_add (pe_op op_mul pe_int (L2.pv 1)) pe_int) pa_nil)) (blkOk_by (N := ["_law_places", "_law_rest", "_law_span_here", "_law_found", "_law_x", "_law_z"]) (sc := defScope s_lBlur) (by decide +kernel)) (fun _ _ _ _ _ => (pg_name (i := 5) sc_lBlur.nd rfl (Or.inl rfl))) (fun _ _ _ _ _ => pts_nil) (fun _ _ _ _ _ => (pe_op op_mod (pe_callTy call_int1 (by rfl) G.b_int (by decide +kernel) (pa_cons (pe_op op_sub (pe_op op_add (L2.pv 4) (L2.pv 5)) (L2.pv 1)) pa_nil)) (L2.pv 2)))) pa_nil)))))
      (pss_one (ps_ret (pe_callB (cr_sortedSet rfl) (by rfl) G.b_sorted (by decide +kernel) (pa_cons (pe_callTy (cr_setI rfl) (by rfl) G.b_set (by decide +kernel) (pa_cons (L2.pv 3) pa_nil)) pa_nil)))))), ?_⟩
    walk_at "st"
    refine ⟨g_small0, fun fl hfl => ?_⟩
    have naf := ne_of_none ha hfl
    walk_at "st"
    refine ⟨a, rfl, ⟨_, sq ((upd_ne naf).trans ha)⟩, loopL (xs := ns.map V.int) (fun i σ H' => ∃ (o4 : Option V) (fs : List Int), σ = [some (.ref a), some (.int r), some (.int s), some (.ref fl), o4, none] ∧ Same H H' ∧ H' fl = some (.lst (fs.map V.int)) ∧ fs.length ≤ 21 * i ∧ (∀ v, v ∈ fs ↔ blur s r (· ∈ ns.take i) v)) ?_ ?_ ?_ ?_⟩
    · exact ⟨none, [], rfl, Same.new hfl, upd_same, Nat.le_refl _, fun v => ⟨(fun h => by cases h), fun ⟨_, h, _⟩ => by cases h⟩⟩
    · rintro i σ H' ⟨o4, fs, rfl, s', _⟩
      exact sq (s' _ _ ha)
    · rintro i x σ H' e ⟨o4, fs, rfl, s', hf', lf, mf⟩
      rw [List.getElem?_map] at e
      cases e2 : ns[i]? with
      | none => rw [e2] at e; cases e
      | some u =>
      rw [e2] at e
      obtain rfl : V.int u = x := Option.some.inj e
      have hi : i < ns.length := (List.getElem?_eq_some_iff.mp e2).1
      walk_at "st"
      refine ⟨.inl ⟨rfl, _, sq hf'⟩, ?_⟩
      walk_at "st"
      refine g_rI (.inl ⟨by decide, by decide⟩) ?_
      walk_at "st"
      refine ⟨_, rfl, by omega, by omega, fun Dd hD => lcR (fun j H3 => Same H' H3 ∧ H3 Dd = some (.lst (((List.range j).map fun k : Nat => (u + k - r) % s).map V.int))) ⟨Same.new hD, upd_same⟩ ?_ ?_⟩
      · rintro j H3 hj ⟨s3, hdd⟩
        have z0 : (0 : Int) + (j : Int) = ((j : Nat) : Int) := by omega
        have hj : j < (2 * r + 1).toNat := hj
        refine lct_n rfl ?_
        walk_at "st"
        rw [z0]
        refine .inl ⟨_, rfl, ?_⟩
        walk_at "st"
        refine g_rI s0 ?_
        refine ⟨_, hdd, small1000 (by rw [List.length_map, List.length_map, List.length_range]; omega), s3.sput hD, ?_⟩
        rw [List.range_succ, List.map_append, List.map_append]
        exact upd_same
      · rintro H4 ⟨s4, hdd⟩
        walk_at "st"
        have hf4 := s4 _ _ hf'
        refine ⟨fl, Dd, _, _, rfl, rfl, hf4, hdd, ?_, ?_⟩
        · refine Nat.le_trans (m := 1300) ?_ ?_
          · rw [List.length_map, List.length_map, List.length_map, List.length_range]
            omega
          · rw [sizeLine_eq]; omega
        refine ⟨_, fs ++ (List.range (2 * r + 1).toNat).map (fun k : Nat => (u + k - r) % s), rfl, (s'.trans s4).sput hfl, ?_, ?_, fun v => ?_⟩
        · rw [List.map_append]; exact upd_same
        · rw [List.length_append, List.length_map, List.length_range]; omega
        · rw [List.mem_append, mf, take_snoc e2]
          unfold blur
          constructor
          · rintro (⟨y, hy, k⟩ | h)
            · exact ⟨y, List.mem_append_left _ hy, k⟩
            · obtain ⟨k, hk, rfl⟩ := List.mem_map.mp h
              rw [List.mem_range] at hk
              exact ⟨u, List.mem_append_right _ (List.mem_singleton.mpr rfl), (k : Int) - r, by omega, by omega, by congr 1; omega⟩
          · rintro ⟨y, hy, z, z1, z2, rfl⟩
            rcases List.mem_append.mp hy with hy | hy
            · exact .inl ⟨y, hy, z, z1, z2, rfl⟩
            · rw [List.mem_singleton.mp hy]
              refine .inr (List.mem_map.mpr ⟨(z + r).toNat, List.mem_range.mpr (by omega), by congr 1; omega⟩)
    · rintro σ H' ⟨o4, fs, rfl, s', hf', lf, mf⟩
      rw [List.length_map] at lf
      rw [List.length_map, List.take_length] at mf
      walk_at "st"
      refine ⟨fl, fs, rfl, hf', by omega, fun S n es nde me le hS => ?_⟩
      walk_at "st"
      have hn : n ≤ s.toNat := by
        have := len_le_range (n := s.toNat) nde fun y hy => by
          obtain ⟨u, _, z, _, _, rfl⟩ := (mf y).mp ((me y).mp hy)
          have := euc (u + z) s0
          omega
        omega
      refine ⟨S, _, n, rfl, upd_same, by omega, fun ms q' up mem _ hq => ?_⟩
      exact q _ q' ms ((s'.snew hS).snew hq) ((s'.snew hS).free hq) upd_same ⟨up, fun j => (mem j).trans (Iff.trans decide_eq_true_iff (mf j))⟩
def spLReal : Sp := fun vs H Q _ => ∃ m l t r b N p ws ns x tn rows, vs = [.ref m, .ref l, .ref t, .int r, .int b] ∧ ModelAt H m N ws p ∧ H l = some (.lst ((ns : List Int).map V.int)) ∧ H t = some (.tup [.str x, .int tn]) ∧ ws.lookup x = some rows ∧ PartOk N ws ∧ N ≤ 60 ∧ PerOf N (maps N ws) p ∧
  0 ≤ r ∧ r ≤ 10 ∧ 0 ≤ b ∧ b ≤ 10 ∧ ns.length ≤ 60 ∧ ∀ H' q ms, Same H H' → H q = none → H' q = some (.lst ((ms : List Int).map V.int)) → Asc ms (blur p r (stepR p b (FW N ws) (· ∈ ns) (x, tn))) → Q (.ref q) H'
theorem sc_lReal : FnScope ["_law_model_here", "_law_standings", "_law_deed", "_law_rest", "_law_border", "_law_table_here", "_law_span_here", "_law_found", "_law_x", "_law_y"] ["_law_model_here", "_law_standings", "_law_deed", "_law_rest", "_law_border"] (defScope s_lReal) := ⟨rfl, rfl, rfl, by decide +kernel, rfl, by decide +kernel, by decide +kernel⟩
theorem bd_lReal : Bd ["_law_model_here", "_law_standings", "_law_deed", "_law_rest", "_law_border"] "_law_real" s_lReal := fun _ _ _ _ _ _ _ us hl => match us, hl with | [_, _, _, _, _], _ => rfl
theorem ok_lReal (F : Fd K mg "_law_real" s_lReal []) (G : Mod0 K mg) (c_lLift : C8.Cal P w K mg base 1 "_law_lift" spLLift []) (c_lBlur : C8.Cal P w K mg base 1 "_law_blurred" spLBlur []) : C8.Cal P w K mg base 2 "_law_real" spLReal [] := by
  refine cal_of F sc_lReal bd_lReal (fun vs H Q E h => ?_) fun f cdv A outer s0 H vs Q E hr h => ?_
  · obtain ⟨_, _, _, _, _, _, _, _, _, _, _, _, rfl, _⟩ := h; rfl
  · obtain ⟨m, l, t, r, b, N, p, ws, ns, x, tn, rows, rfl, mo, hl, ht, lk, ok, h60, per, r0, r1, b0, b1, ln, q⟩ := h
    have hu := hu_of hr
    obtain ⟨kvs, tk, td, hm, v1, v2, htd, tv⟩ := mo.ex
    have hv := ok.val _ (lookup_mem lk)
    have n2 := ok.n2
    have hN : 0 < N := by omega
    have pN := per.le hN
    have pp := per.pos
    obtain ⟨ta, look, hta⟩ : ∃ t, valV tk (Sum.inr x : Key) = some (.ref t) ∧ TblAt H t N (lift N rows) := by
      rcases tv.look x with ⟨h, _⟩ | ⟨rows', t', h, h2, h3⟩
      · rw [lk] at h; cases h
      · rw [lk] at h
        cases h
        exact ⟨t', h2, h3⟩
    have getS : ∀ {H' : Hp} {d : Addr} {kk : List (Key × V)} {z : Str} {v : V}, H' d = some (.dK kk) → valV kk (Sum.inr z : Key) = some v → DGet H' d (.str z) (some v) := fun {H' d kk z v} e e2 => by
      have := DGet.k (k := Sum.inr z) e
      rw [e2] at this
      exact this
    refine ⟨_, (pss_cons (ps_set (i := 5) sc_lReal.nd rfl (Or.inl rfl) (pe_dget hu (pe_dget hu (L2.pv 0) pe_str (fun _ _ => rfl)) (pe_ix ix_tup (L2.pv 2) pe_int (fun _ _ => rfl)) (fun _ _ => rfl)))
      (pss_cons (ps_set (i := 6) sc_lReal.nd rfl (Or.inl rfl) (pe_dget hu (L2.pv 0) pe_str (fun _ _ => rfl)))
      (pss_cons (ps_set (i := 7) sc_lReal.nd rfl (Or.inl rfl) (pe_lst pa_nil))
      (pss_cons (ps_for PassesOwn.never rfl (pi_list (L2.pv 1)) (pg_name (i := 8) sc_lReal.nd rfl (Or.inl rfl)) (pss_one (ps_for PassesOwn.never rfl (pi_range1 rfl G.b_range (pa_cons (pe_op op_add (pe_op op_mul pe_int (L2.pv 4)) pe_int) pa_nil)) (pg_name (i := 9) sc_lReal.nd rfl (Or.inl rfl)) (pss_one (ps_expr (pe_bm PySem.F.plainAttrs_list PySem.F.slot_list_append PySem.F.type_list_append mt_append (L2.pv 7) (pa_cons (pe_op op_mod (pe_callTy call_int1 (by rfl) G.b_int (by decide +kernel) (pa_cons (pe_op op_add (C8.pe_c c_lLift hr (by decide) rfl (pa_cons (L2.pv 5) (pa_cons (pe_op op_sub (pe_op op_add (pe_op op_sub (L2.pv 8) (pe_ix ix_tup (L2.pv 2) pe_int (fun _ _ => rfl))) (L2.pv 9)) (L2.pv 4)) pa_nil))) (pe_ix ix_tup (L2.pv 2) pe_int (fun _ _ => rfl))) pa_nil)) (L2.pv 6)) pa_nil)))))))
      (pss_cons (ps_set (i := 7) sc_lReal.nd rfl (Or.inl rfl) (pe_callB (cr_sortedSet rfl) (by rfl) G.b_sorted (by decide +kernel) (pa_cons (pe_callTy (cr_setI rfl) (by rfl) G.b_set (by decide +kernel) (pa_cons (L2.pv 7) pa_nil)) pa_nil)))
      (pss_one (ps_ret (C8.pe_c c_lBlur hr (by decide) rfl (pa_cons (L2.pv 7) (pa_cons (L2.pv 3) (pa_cons (L2.pv 6) pa_nil))))))))))), ?_⟩
    walk_at "st"
    refine ⟨m, .ref td, rfl, getS hm v1, ?_⟩
    walk_at "st"
    refine ⟨_, _, _, _, rfl, rfl, st ht, atI_nat (j := 0) (v := .str x) rfl, ?_⟩
    walk_at "st"
    refine ⟨td, .ref ta, rfl, getS htd look, ?_⟩
    walk_at "st"
    refine ⟨m, .int p, rfl, getS hm v2, ?_⟩
    walk_at "st"
    refine ⟨g_small0, fun fl hfl => ?_⟩
    have nlf := ne_of_none hl hfl
    walk_at "st"
    refine ⟨l, rfl, ⟨_, sq ((upd_ne nlf).trans hl)⟩, loopL (xs := ns.map V.int) (fun i σ H' => ∃ (o8 o9 : Option V) (fs : List Int), σ = [some (.ref m), some (.ref l), some (.ref t), some (.int r), some (.int b), some (.ref ta), some (.int p), some (.ref fl), o8, o9] ∧ Same H H' ∧ H' fl = some (.lst (fs.map V.int)) ∧ fs.length ≤ 21 * i ∧ (∀ v, v ∈ fs ↔ stepR p b (FW N ws) (· ∈ ns.take i) (x, tn) v)) ?_ ?_ ?_ ?_⟩
    · exact ⟨none, none, [], rfl, Same.new hfl, upd_same, Nat.le_refl _, fun v => ⟨(fun h => by cases h), fun ⟨_, h, _⟩ => by cases h⟩⟩
    · rintro i σ H' ⟨o8, o9, fs, rfl, s', _⟩
      exact sq (s' _ _ hl)
    · rintro i xv σ H' e ⟨o8, o9, fs, rfl, s', hf', lf, mf⟩
      rw [List.getElem?_map] at e
      cases e2 : ns[i]? with
      | none => rw [e2] at e; cases e
      | some u =>
      rw [e2] at e
      obtain rfl : V.int u = xv := Option.some.inj e
      have hi : i < ns.length := (List.getElem?_eq_some_iff.mp e2).1
      walk_at "st"
      refine g_rI (.inl ⟨by decide, by decide⟩) ?_
      walk_at "st"
      refine ⟨_, rfl, by omega, by omega, loopR (fun j σ H' => ∃ (o9 : Option V) (fs : List Int), σ = [some (.ref m), some (.ref l), some (.ref t), some (.int r), some (.int b), some (.ref ta), some (.int p), some (.ref fl), some (.int u), o9] ∧ Same H H' ∧ H' fl = some (.lst (fs.map V.int)) ∧ fs.length ≤ 21 * i + j ∧
        (∀ v, v ∈ fs ↔ stepR p b (FW N ws) (· ∈ ns.take i) (x, tn) v ∨ ∃ k : Nat, k < j ∧ v = (lift N rows (u - tn + k - b) + tn) % p)) ?_ ?_ ?_⟩
      · exact ⟨o9, fs, rfl, s', hf', lf, fun v => (mf v).trans ⟨.inl, fun h => h.elim id fun ⟨k, hk, _⟩ => absurd hk (Nat.not_lt_zero _)⟩⟩
      · rintro j σ H3 hj ⟨o9', gs, rfl, s3, hg, lg, mg'⟩
        have z0 : (0 : Int) + (j : Int) = ((j : Nat) : Int) := by omega
        have hj : j < (2 * b + 1).toNat := hj
        walk_at "st"
        rw [z0]
        refine ⟨.inl ⟨rfl, _, sq hg⟩, ?_⟩
        walk_at "st"
        refine ⟨_, _, _, _, rfl, rfl, st (s3 _ _ ht), atI_nat (j := 1) (v := .int tn) rfl, ?_⟩
        walk_at "st"
        refine ⟨ta, _, N, _, rfl, ⟨s3 _ _ hta.ex⟩, hN, h60, (lift_proj hv.1).lap, ?_⟩
        walk_at "st"
        refine ⟨_, _, _, _, rfl, rfl, st (s3 _ _ ht), atI_nat (j := 1) (v := .int tn) rfl, ?_⟩
        walk_at "st"
        refine .inl ⟨_, rfl, ?_⟩
        walk_at "st"
        refine g_rI pp ?_
        walk_at "st"
        refine ⟨fl, _, _, rfl, rfl, hg, by rw [sizeLine_eq, List.length_map]; omega, ?_⟩
        refine ⟨_, gs ++ [(lift N rows (u - tn + j - b) + tn) % p], rfl, s3.sput hfl, ?_, by rw [List.length_append]; exact Nat.succ_le_succ lg, fun v => ?_⟩
        · rw [List.map_append]; exact upd_same
        · rw [List.mem_append, mg', List.mem_singleton]
          constructor
          · rintro ((h | ⟨k, hk, e⟩) | h)
            · exact .inl h
            · exact .inr ⟨k, by omega, e⟩
            · exact .inr ⟨j, by omega, h⟩
          · rintro (h | ⟨k, hk, e⟩)
            · exact .inl (.inl h)
            · rcases Nat.lt_or_eq_of_le (Nat.lt_succ_iff.mp hk) with l | rfl
              · exact .inl (.inr ⟨k, l, e⟩)
              · exact .inr e
      · rintro σ H3 ⟨o9', gs, rfl, s3, hg, lg, mg'⟩
        refine ⟨_, _, gs, rfl, s3, hg, by omega, fun v => (mg' v).trans ?_⟩
        rw [take_snoc e2]
        unfold stepR
        rw [FW_at lk]
        constructor
        · rintro (⟨y, hy, k⟩ | ⟨k, hk, rfl⟩)
          · exact ⟨y, List.mem_append_left _ hy, k⟩
          · exact ⟨u, List.mem_append_right _ (List.mem_singleton.mpr rfl), (k : Int) - b, by omega, by omega, by congr 3; omega⟩
        · rintro ⟨y, hy, z, z1, z2, rfl⟩
          rcases List.mem_append.mp hy with hy | hy
          · exact .inl ⟨y, hy, z, z1, z2, rfl⟩
          · rw [List.mem_singleton.mp hy]
            exact .inr ⟨(z + b).toNat, by omega, by congr 3; show u - tn + z = u - tn + ((z + b).toNat : Int) - b; omega⟩
    · rintro σ H' ⟨o8, o9, fs, rfl, s', hf', lf, mf⟩
      rw [List.length_map] at lf
      rw [List.length_map, List.take_length] at mf
      walk_at "st"
      refine ⟨fl, fs, rfl, hf', by omega, fun S n es nde me le hS => ?_⟩
      walk_at "st"
      have hn : n ≤ p.toNat := by
        have := len_le_range (n := p.toNat) nde fun y hy => by
          obtain ⟨u, _, z, _, _, rfl⟩ := (mf y).mp ((me y).mp hy)
          have := euc (FW N ws (x, tn).1 (u - (x, tn).2 + z) + (x, tn).2) pp
          omega
        omega
      refine ⟨S, _, n, rfl, upd_same, by omega, fun ms q' up mem lm hq => ?_⟩
      have s5 := (s'.snew (o := SetO _ S (fun j => decide (j ∈ fs)) n) hS).snew (o := .lst (ms.map V.int)) hq
      walk_at "st"
      refine ⟨q', r, p, ms, rfl, upd_same, r0, r1, pp, by omega, by omega, fun H5 l5 ms5 s6 f5 hl5 asc5 => ?_⟩
      refine q _ l5 ms5 (s5.trans s6) (s5.free f5) hl5 (asc5.congr fun v => blur_congr (fun y => (mem y).trans (Iff.trans decide_eq_true_iff (mf y))) v)
end
end Jaw

/-! ## W20 -/
set_option Elab.async false
set_option linter.all false
set_option maxRecDepth 100000
set_option maxHeartbeats 4000000
namespace Jaw
open PySem PySem.Spec PyProof.Rows L2
theorem g_sl {r : V → Option Int → Option Int → Hp → VK → Prop} {te : TE} {tl th : TO} {σ : L2.St} {H : Hp} {Q : VK} (h : te σ H fun x H1 => tl σ H1 fun l H2 => th σ H2 fun u H3 => r x l u H3 Q) : tSl r te tl th σ H Q := h
theorem g_noPart {σ : L2.St} {H : Hp} {Q : Option Int → Hp → Prop} (h : Q none H) : tNoPart σ H Q := h
theorem g_part {te : TE} {σ : L2.St} {H : Hp} {Q : Option Int → Hp → Prop} (h : te σ H fun x H1 => ∃ i, x = .int i ∧ Q (some i) H1) : tPart te σ H Q := h
local macro_rules | `(tactic| walk_at "st") => `(tactic| ((try (set_option simprocs false in dsimp only)); (repeat (first
  | with_reducible refine g_seq ?_
  | with_reducible refine g_set ?_
  | with_reducible refine g_asg ?_
  | with_reducible refine g_drop ?_
  | with_reducible refine g_ret ?_
  | with_reducible refine g_retN ?_
  | with_reducible refine g_ifs ?_
  | with_reducible refine g_next ?_
  | with_reducible refine g_brk ?_
  | with_reducible refine g_cont ?_
  | (with_reducible refine g_var ?_; refine ⟨_, rfl, ?_⟩)
  | with_reducible refine g_c ?_
  | with_reducible refine g_op ?_
  | with_reducible refine g_un ?_
  | with_reducible refine g_rI0 ?_
  | with_reducible refine g_rU ?_
  | with_reducible refine g_nil ?_
  | with_reducible refine g_cons ?_
  | with_reducible refine g_cb ?_
  | with_reducible refine g_call ?_
  | with_reducible refine g_test ?_
  | with_reducible refine g_tB ?_
  | with_reducible refine g_bl ?_
  | with_reducible refine g_and ?_
  | with_reducible refine g_or ?_
  | with_reducible refine g_not ?_
  | with_reducible refine g_andV ?_
  | with_reducible refine g_orV ?_
  | with_reducible refine g_notV ?_
  | with_reducible refine g_ife ?_
  | with_reducible refine g_chain ?_
  | with_reducible refine g_par ?_
  | with_reducible refine g_tup ?_
  | with_reducible refine g_lst ?_
  | with_reducible refine g_fld ?_
  | with_reducible refine g_meth ?_
  | with_reducible refine g_sfld ?_
  | with_reducible refine g_prop ?_
  | with_reducible refine g_item ?_
  | with_reducible refine g_eqI ?_
  | with_reducible refine g_neI ?_
  | with_reducible refine g_for ?_
  | with_reducible refine g_lc ?_
  | with_reducible refine g_iE ?_
  | with_reducible refine g_iL ?_
  | with_reducible refine g_iT ?_
  | with_reducible refine g_iR1 ?_
  | with_reducible refine g_iR2 ?_
  | with_reducible refine g_iV ?_
  | with_reducible refine g_iK ?_
  | with_reducible refine g_yes ?_
  | with_reducible refine g_sl ?_
  | with_reducible refine g_part ?_
  | with_reducible refine g_noPart ?_
  | with_reducible refine g_disp ?_
  | with_reducible refine g_pc ?_
  | with_reducible refine g_pn ?_
  | with_reducible refine g_mkK ?_
  | with_reducible refine g_sub ?_
  | with_reducible refine g_make ?_
  | with_reducible refine g_eqS ?_
  | with_reducible refine g_neS ?_
  | with_reducible refine g_dc ?_
  | with_reducible refine g_dnK ?_
  | with_reducible refine g_dnT ?_
  | with_reducible refine g_dget ?_
  | with_reducible refine g_dput ?_
  | with_reducible refine g_din ?_
  | with_reducible refine g_dnin ?_
  | with_reducible refine g_bm ?_
  | with_reducible refine g_si ?_
  | with_reducible refine g_lstRg ?_
  | with_reducible refine g_tupRg ?_
  | with_reducible refine g_rg1 ?_
  | with_reducible refine g_gn ?_
  | with_reducible refine g_nt ?_
  | with_reducible refine g_nf ?_
  | with_reducible refine iteT ?_
  | with_reducible refine iteF ?_))))
section
variable {P : Program} {w : World} {K : PySem.W.Frag} {mg : Str → Option Value} {base : Heap}
theorem sql_same {H H' : Hp} {a : Addr} {xs : List V} (s : Same H H') (h : SqL K H a xs) : SqL K H' a xs := by
  rcases h with (h | ⟨o, h⟩) | h
  · exact .inl (.inl (s _ _ h))
  · exact .inl (.inr ⟨o, s _ _ h⟩)
  · exact .inr h
theorem cut_take {xs : List V} {k : Nat} (h : k ≤ xs.length) : cutV xs none (some (k : Int)) = xs.take k := by
  unfold cutV
  rw [HT.sIx_none, HT.sIx_nat, Nat.min_eq_left h]
  rfl
theorem DV.take {H : Hp} {xs : List V} {ds : List (Str × Int)} (h : DV H xs ds) (k : Nat) : DV H (xs.take k) (ds.take k) := by
  unfold DV at h
  induction h generalizing k with
  | nil => rw [List.take_nil, List.take_nil]; exact .nil
  | cons r t ih =>
    cases k with
    | zero => exact .nil
    | succ k => exact .cons r (ih k)
def spLaw (K : PySem.W.Frag) : Sp := fun vs H Q _ => ∃ a ns, vs = [.ref a] ∧ SqL K H a ((ns : List Int).map V.int) ∧ ns.length ≤ 63 ∧ ∀ H', Q (.bl true) H'
theorem sc_lLaw : FnScope ["_law_script", "_law_sizes", "_law_around", "_law_rest", "_law_border", "_law_extra", "_law_pairs", "_law_words", "_law_part_here", "_law_model_here", "_law_slack", "_law_deeds", "_law_k", "_law_standings", "_law_pool_here", "_law_plan", "_law_told", "_law_off", "_law_x"] ["_law_script"] (defScope s_lLaw) := ⟨rfl, rfl, rfl, by decide +kernel, rfl, by decide +kernel, by decide +kernel⟩
theorem bd_lLaw : Bd ["_law_script"] "law" s_lLaw := fun _ _ _ _ _ _ _ us hl => match us, hl with | [_], _ => rfl
theorem bo_lLaw (G : Mod0 K mg) (c_lPool : C8.Cal P w K mg base 1 "_law_pool" (spLPool K) []) (c_lDraw : C8.Cal P w K mg base 1 "_law_draw" spLDraw []) (c_lWorld : C8.Cal P w K mg base 3 "_law_world" spLWorld [])
    (c_lPart : C8.Cal P w K mg base 7 "_law_part" (spLPart K) []) (c_lModel : C8.Cal P w K mg base 4 "_law_model" spLModel []) (c_slInit : C8.Mak P w K mg base 2 "Slack" (He.ga K "Slack") (spSlInit K) []) (c_lReal : C8.Cal P w K mg base 2 "_law_real" spLReal [])
    (c_plInit : C8.Mak P w K mg base 3 "Plan" (He.ga K "Plan") (spPlInit K) []) (c_leftA : C8.Cal P w K mg base 8 "left_after" (spLeftA K) []) (c_lBlur : C8.Cal P w K mg base 1 "_law_blurred" spLBlur [])
    (c_sure : C8.Cal P w K mg base 9 "sure" (spSure K) [.int 0]) (c_does : C8.Cal P w K mg base 6 "does" (spDoes K) []) : Body P w K mg base ["_law_script", "_law_sizes", "_law_around", "_law_rest", "_law_border", "_law_extra", "_law_pairs", "_law_words", "_law_part_here", "_law_model_here", "_law_slack", "_law_deeds", "_law_k", "_law_standings", "_law_pool_here", "_law_plan", "_law_told", "_law_off", "_law_x"] "law" s_lLaw 9 (spLaw K) := by
  refine fun f cdv A outer s0 H vs Q E hr h => ?_
  · obtain ⟨a, ns, rfl, ha, l63, q⟩ := h
    have hu := hu_of hr
    refine ⟨_, (pss_cons (ps_set (i := 1) sc_lLaw.nd rfl (Or.inl rfl) (C8.pe_c c_lPool hr (by decide) rfl (pa_cons (L2.pv 0) (pa_cons pe_int pa_nil))))
      (pss_cons (ps_set (i := 2) sc_lLaw.nd rfl (Or.inl rfl) (pe_op op_add pe_int (C8.pe_c c_lDraw hr (by decide) rfl (pa_cons (L2.pv 1) (pa_cons pe_int pa_nil)))))
      (pss_cons (ps_set (i := 3) sc_lLaw.nd rfl (Or.inl rfl) (C8.pe_c c_lDraw hr (by decide) rfl (pa_cons (L2.pv 1) (pa_cons pe_int pa_nil))))
      (pss_cons (ps_set (i := 4) sc_lLaw.nd rfl (Or.inl rfl) (C8.pe_c c_lDraw hr (by decide) rfl (pa_cons (L2.pv 1) (pa_cons pe_int pa_nil))))
      (pss_cons (ps_set (i := 5) sc_lLaw.nd rfl (Or.inl rfl) (C8.pe_c c_lDraw hr (by decide) rfl (pa_cons (L2.pv 1) (pa_cons pe_int pa_nil))))
      (pss_cons (ps_set (i := 6) sc_lLaw.nd rfl (Or.inl rfl) (C8.pe_c c_lWorld hr (by decide) rfl (pa_cons (C8.pe_c c_lPool hr (by decide) rfl (pa_cons (L2.pv 0) (pa_cons pe_int pa_nil))) (pa_cons (L2.pv 2) (pa_cons pe_int pa_nil)))))
      (pss_cons (ps_set (i := 7) sc_lLaw.nd rfl (Or.inl rfl) (pe_callB cr_sortedS (by rfl) G.b_sorted (by decide +kernel) (pa_cons (pe_callTy (call_list_dK rfl) (by rfl) G.b_list (by decide +kernel) (pa_cons (L2.pv 6) pa_nil)) pa_nil)))
      (pss_cons (ps_set (i := 8) sc_lLaw.nd rfl (Or.inl rfl) (C8.pe_c c_lPart hr (by decide) rfl (pa_cons (L2.pv 6) (pa_cons (L2.pv 2) pa_nil))))
      (pss_cons (ps_set (i := 9) sc_lLaw.nd rfl (Or.inl rfl) (C8.pe_c c_lModel hr (by decide) rfl (pa_cons (L2.pv 6) (pa_cons (L2.pv 2) pa_nil))))
      (pss_cons (ps_set (i := 10) sc_lLaw.nd rfl (Or.inl rfl) (C8.pe_mk c_slInit hr (by decide) rfl (pa_cons (L2.pv 3) (pa_cons (L2.pv 4) pa_nil))))
      (pss_cons (ps_set (i := 11) sc_lLaw.nd rfl (Or.inl rfl) (pe_lst pa_nil))
      (pss_cons (ps_for PassesOwn.never rfl (pi_range2 rfl G.b_range (pa_cons pe_int (pa_cons (pe_callB (call_min2 rfl) (by rfl) G.b_min (by decide +kernel) (pa_cons pe_int (pa_cons (pe_callB (call_max2 rfl) (by rfl) G.b_max (by decide +kernel) (pa_cons (pe_callB call_len_seq (by rfl) G.b_len (by decide +kernel) (pa_cons (L2.pv 0) pa_nil)) (pa_cons (pe_op op_add pe_int (L2.pv 5)) pa_nil))) pa_nil))) pa_nil))) (pg_name (i := 12) sc_lLaw.nd rfl (Or.inl rfl)) (pss_cons (ps_set (i := 14) sc_lLaw.nd rfl (Or.inl rfl) (C8.pe_c c_lPool hr (by decide) rfl (pa_cons (L2.pv 0) (pa_cons (L2.pv 12) pa_nil))))
      (pss_one (ps_expr (pe_bm PySem.F.plainAttrs_list PySem.F.slot_list_append PySem.F.type_list_append mt_append (L2.pv 11) (pa_cons (pe_tup (pa_cons (pe_ix ix_list (L2.pv 7) (C8.pe_c c_lDraw hr (by decide) rfl (pa_cons (L2.pv 14) (pa_cons (pe_callB call_len_seq (by rfl) G.b_len (by decide +kernel) (pa_cons (L2.pv 7) pa_nil)) pa_nil))) (fun _ _ => rfl)) (pa_cons (C8.pe_c c_lDraw hr (by decide) rfl (pa_cons (L2.pv 14) (pa_cons (L2.pv 2) pa_nil))) pa_nil))) pa_nil))))))
      (pss_cons (ps_setLc (i := 13) (own := [("_law_x", 18)]) (g := (gName 18)) (tt := tYes) rfl sc_lLaw.nd rfl rfl (sw_true rfl rfl rfl (by decide +kernel)) (pi_range1 rfl G.b_range (pa_cons (pe_dget hu (L2.pv 9) pe_str (fun _ _ => rfl)) pa_nil)) (blkOk_by (N := ["_law_script", "_law_sizes", "_law_around", "_law_rest", "_law_border", "_law_extra", "_law_pairs", "_law_words", "_law_part_here", "_law_model_here", "_law_slack", "_law_deeds", "_law_k", "_law_standings", "_law_pool_here", "_law_plan", "_law_told", "_law_off", "_law_x"]) (sc := defScope s_lLaw) (by decide +kernel)) (fun _ _ _ _ _ => (pg_name (i := 18) sc_lLaw.nd rfl (Or.inl rfl))) (fun _ _ _ _ _ => pts_nil) (fun _ _ _ _ _ => (L2.pv 18)))
      (pss_cons (ps_for PassesOwn.never rfl (pi_range1 rfl G.b_range (pa_cons (pe_op op_add (pe_callB call_len_seq (by rfl) G.b_len (by decide +kernel) (pa_cons (L2.pv 11) pa_nil)) pe_int) pa_nil)) (pg_name (i := 12) sc_lLaw.nd rfl (Or.inl rfl)) (C8.pss_cut (ps_if (pt_cmpR op_gt (L2.pv 12) pe_int (nomark _)) (pss_one (ps_set (i := 13) sc_lLaw.nd rfl (Or.inl rfl) (C8.pe_c c_lReal hr (by decide) rfl (pa_cons (L2.pv 9) (pa_cons (L2.pv 13) (pa_cons (pe_ix ix_list (L2.pv 11) (pe_op op_sub (L2.pv 12) pe_int) (fun _ _ => rfl)) (pa_cons (L2.pv 3) (pa_cons (L2.pv 4) pa_nil)))))))) pss_nil)
      (C8.pss_cut (ps_if (PW.pt (pw_and (pt_cmpR op_gt (L2.pv 12) pe_int (nomark _)) (pw_and1 (pt_cmpR op_lt (L2.pv 12) (pe_callB call_len_seq (by rfl) G.b_len (by decide +kernel) (pa_cons (L2.pv 11) pa_nil)) (nomark _))))) (pss_one ps_continue) pss_nil)
      (pss_cons (ps_set (i := 15) sc_lLaw.nd rfl (Or.inl rfl) (C8.pe_mk c_plInit hr (by decide) rfl (pa_cons (L2.pv 2) (pa_cons (pe_slice sl_list (L2.pv 11) po_none (po_some (L2.pv 12))) pa_nil))))
      (pss_cons (ps_set (i := 16) sc_lLaw.nd rfl (Or.inl rfl) (C8.pe_c c_leftA hr (by decide) rfl (pa_cons (L2.pv 8) (pa_cons (L2.pv 10) (pa_cons (L2.pv 15) pa_nil)))))
      (pss_cons (ps_if (PW.pt (pw_or (pt_not (pt_val (pe_callB call_isi (by rfl) G.b_isinstance (by decide +kernel) (pa_cons (L2.pv 16) (pa_cons (pe_bltn (v := .ty "list") (by rfl) G.b_list (by decide +kernel) rfl) pa_nil))))) (pw_or1 (pt_cmpR (op_eqD hr.units) (L2.pv 16) (pe_lst pa_nil) (nomark _))))) (pss_one (ps_ret pe_bl)) pss_nil)
      (pss_cons (ps_set (i := 17) sc_lLaw.nd rfl (Or.inl rfl) (L2.pv 3))
      (C8.pss_cut (ps_if (pt_cmpR op_eq (L2.pv 12) pe_int (nomark _)) (pss_one (ps_set (i := 17) sc_lLaw.nd rfl (Or.inl rfl) pe_int)) pss_nil)
      (pss_cons (ps_if (pt_cmpR (op_neD hr.units) (C8.pe_c c_lBlur hr (by decide) rfl (pa_cons (L2.pv 16) (pa_cons (L2.pv 17) (pa_cons (pe_dget hu (L2.pv 9) pe_str (fun _ _ => rfl)) pa_nil)))) (L2.pv 13) (nomark _)) (pss_one (ps_ret pe_bl)) pss_nil)
      (pss_one (ps_if (PW.pt (pw_and (pt_val (C8.pe_c c_sure hr (by decide) rfl (pa_cons (L2.pv 8) (pa_cons (L2.pv 10) (pa_cons (L2.pv 15) pa_nil))))) (pw_and1 (pt_not (pt_val (C8.pe_c c_does hr (by decide) rfl (pa_cons (L2.pv 8) (pa_cons (L2.pv 15) pa_nil)))))))) (pss_one (ps_ret pe_bl)) pss_nil)))))))))))
      (pss_one (ps_ret pe_bl)))))))))))))))), ?_⟩
    walk_at "st"
    refine ⟨a, ns, 0, rfl, ha, Int.le_refl _, fun H1 z s1 nz hz => ?_⟩
    walk_at "st"
    refine ⟨z, 47, rfl, hz, by decide, by decide, fun H2 x s2 hz2 x0 x1 => ?_⟩
    have t2 := s1.over s2 nz
    walk_at "st"
    refine ⟨z, 5, rfl, hz2, by decide, by decide, fun H3 r s3 hz3 r0 r1 => ?_⟩
    have t3 := t2.over s3 nz
    walk_at "st"
    refine ⟨z, 5, rfl, hz3, by decide, by decide, fun H4 b s4 hz4 b0 b1 => ?_⟩
    have t4 := t3.over s4 nz
    walk_at "st"
    refine ⟨z, 8, rfl, hz4, by decide, by decide, fun H5 ex s5 hz5 ex0 ex1 => ?_⟩
    have t5 := t4.over s5 nz
    walk_at "st"
    refine ⟨a, ns, 1, rfl, sql_same t5 ha, by decide, fun H6 y s6 ny hy => ?_⟩
    have t6 := t5.trans s6
    generalize hN0 : 2 + x = N
    walk_at "st"
    refine ⟨y, N, rfl, hy, by omega, by omega, fun H7 d po so s7 wo => ?_⟩
    have t7 : Same H H7 := t5.trans (s6.over s7 ny)
    have hN : 0 < N := by omega
    have ok := wo.ok
    obtain ⟨kvs, hd, wv⟩ := id wo.ex
    walk_at "st"
    refine ⟨d, kvs, rfl, hd, fun q1 hq1 => ?_⟩
    rw [wv.keys]
    walk_at "st"
    refine ⟨q1, (wsOf po so).map (·.1), rfl, sq upd_same, by rw [List.length_map]; have := ws_len ok; omega, fun ys q2 perm srt hq2 => ?_⟩
    obtain rfl := sorted_words ok perm srt
    have s8 := (Same.new (o := .lst (((wsOf po so).map (·.1)).map V.str)) hq1).snew (o := .lst (((wsOf po so).map (·.1)).map V.str)) hq2
    have hw8 : upd (upd H7 q1 (.lst (((wsOf po so).map (·.1)).map V.str))) q2 (.lst (((wsOf po so).map (·.1)).map V.str)) q2 = some (.lst (((wsOf po so).map (·.1)).map V.str)) := upd_same
    generalize upd (upd H7 q1 (.lst (((wsOf po so).map (·.1)).map V.str))) q2 (.lst (((wsOf po so).map (·.1)).map V.str)) = H8 at s8 hw8 ⊢
    have t8 := t7.trans s8
    walk_at "st"
    refine ⟨d, N, po, so, rfl, wo.mono s8, fun H9 pa s9 hpa => ?_⟩
    obtain ⟨p, per⟩ := hpa.per
    have pp := per.pos
    have pN := per.le hN
    have wo9 := (wo.mono s8).mono s9
    walk_at "st"
    refine ⟨d, N, po, so, p, rfl, wo9, by omega, per, fun H10 m s10 hm => ?_⟩
    walk_at "st"
    intro sl sdx nsl nsdx nss
    refine ⟨sl, sdx, r, b, rfl, upd_same, r0, by omega, b0, by omega, fun H11 sx11 hsl => ⟨rfl, ?_⟩⟩
    have s11 : Same H10 H11 := Sx.made nsl nsdx sx11
    have t11 : Same H H11 := (t8.trans (s9.trans s10)).trans s11
    have hpa := hpa.mono (s10.trans s11)
    have hm := hm.mono s11
    have hws := (s9.trans (s10.trans s11)) _ _ hw8
    have ha11 := sql_same t11 ha
    clear hz2 hz3 hz4 hz5 hy wv hd wo wo9
    walk_at "st"
    refine ⟨g_small0, fun dl hdl => ?_⟩
    have t12 : Same H11 (upd H11 dl (.lst [])) := Same.new hdl
    walk_at "st"
    refine ⟨a, _, rfl, .inl (sql_same t12 ha11), ?_⟩
    rw [List.length_map]
    walk_at "st"
    refine ⟨_, _, rfl, ?_⟩
    walk_at "st"
    refine ⟨_, _, rfl, ?_⟩
    walk_at "st"
    generalize eU : (if (if 3 + ex > (ns.length : Int) then 3 + ex else (ns.length : Int)) < 63 then (if 3 + ex > (ns.length : Int) then 3 + ex else (ns.length : Int)) else 63) = U
    have hU : 3 ≤ U ∧ U ≤ 63 := by
      rw [← eU]
      split <;> (try split) <;> omega
    refine ⟨3, U, rfl, by omega, loopR (fun i σ H' => ∃ (o12 o14 : Option V) (xs : List V) (ds : List (Str × Int)), σ = [some (.ref a), some (.ref z), some (.int N), some (.int r), some (.int b), some (.int ex), some (.ref d), some (.ref q2), some (.ref pa), some (.ref m), some (.ref sl), some (.ref dl), o12, none, o14, none, none, none, none] ∧
      Same H11 H' ∧ H' dl = some (.lst xs) ∧ DV H' xs ds ∧ ds.length = i ∧ ∀ d ∈ ds, ((wsOf po so).lookup d.1).isSome = true ∧ 0 ≤ d.2 ∧ d.2 < N) ?_ ?_ ?_⟩
    · exact ⟨none, none, [], [], rfl, t12, upd_same, DV.nil, rfl, fun d h => by cases h⟩
    · rintro i σ H' hi ⟨o12, o14, xs, ds, rfl, s', hdl', dv, ld, hds⟩
      have hi : i < (U - 3).toNat := hi
      walk_at "st"
      refine ⟨a, ns, _, rfl, sql_same s' ha11, by omega, fun H12 p1 s12 np1 hp1 => ?_⟩
      have s13 := s'.trans s12
      walk_at "st"
      refine ⟨.inl ⟨rfl, _, sq (s12 _ _ hdl')⟩, ?_⟩
      walk_at "st"
      have wl := ws_len ok
      have wl0 : 0 < (wsOf po so).length := by
        rcases ok.shape with ⟨r, e⟩ | ⟨r, e⟩ | ⟨r1, r2, e⟩ <;> rw [e] <;> exact Nat.succ_pos _
      refine ⟨q2, _, rfl, .inl (sq (s13 _ _ hws)), ?_⟩
      rw [List.length_map, List.length_map]
      walk_at "st"
      refine ⟨p1, _, rfl, hp1, by omega, by omega, fun H14 wi s14 hp14 wi0 wi1 => ?_⟩
      have s15 : Same H' H14 := s12.over s14 np1
      have s16 := s'.trans s15
      obtain ⟨wr, hwr⟩ : ∃ wr, (wsOf po so)[wi.toNat]? = some wr := ⟨_, List.getElem?_eq_getElem (by omega)⟩
      have lkw := (look_at ok hwr).1
      walk_at "st"
      refine ⟨_, _, _, _, rfl, rfl, sq (s16 _ _ hws), (by rw [← Int.toNat_of_nonneg wi0]; exact atI_nat (v := .str wr.1) (by rw [List.getElem?_map, List.getElem?_map, hwr]; rfl)), ?_⟩
      walk_at "st"
      refine ⟨p1, N, rfl, hp14, hN, by omega, fun H17 tn s17 hp17 tn0 tn1 => ?_⟩
      have np' : H' p1 = none := np1
      have s18 : Same H' H17 := s15.over s17 np'
      walk_at "st"
      refine ⟨g_small2, fun t ht => ?_⟩
      have hdl17 := s18 _ _ hdl'
      have nlt := ne_of_none hdl17 ht
      walk_at "st"
      refine ⟨dl, xs, _, rfl, rfl, (upd_ne nlt).trans hdl17, small1000 (by rw [dv.len, ld]; omega), ?_⟩
      have dv17 := (dv.mono s18).mono (Same.new (o := .tup [.str wr.1, .int tn]) ht)
      refine ⟨_, _, xs ++ [.ref t], ds ++ [(wr.1, tn)], rfl, ((s'.trans s18).snew ht).sput hdl, upd_same, (dv17.snoc (p := (wr.1, tn)) upd_same).upd_lst ((upd_ne nlt).trans hdl17), by rw [List.length_append, ld]; rfl, fun dd hdd => ?_⟩
      rcases List.mem_append.mp hdd with h | h
      · exact hds dd h
      · rw [List.mem_singleton.mp h]
        exact ⟨by rw [lkw]; rfl, tn0, tn1⟩
    rintro σ H20 ⟨o12, o14, xs, ds, rfl, s20, hdl20, dv, ld, hds⟩
    have lds : ds.length ≤ 60 := by omega
    have hpa := hpa.mono s20
    have hm := hm.mono s20
    have hsl := hsl.mono s20
    have lxs := dv.len
    obtain ⟨mk, mtk, mtd, m1, m2, m3, m4, m5⟩ := id hm.ex
    have getS : ∀ {H' : Hp} {d : Addr} {kk : List (Key × V)} {z : Str} {v : V}, H' d = some (.dK kk) → valV kk (Sum.inr z : Key) = some v → DGet H' d (.str z) (some v) := fun {H' d kk z v} e e2 => by
      have := DGet.k (k := Sum.inr z) e
      rw [e2] at this
      exact this
    walk_at "st"
    refine ⟨m, .int p, rfl, getS m1 m3, ?_⟩
    walk_at "st"
    refine ⟨p, rfl, by omega, by omega, fun Dd hD => lcR (fun j H3 => Same H20 H3 ∧ H3 Dd = some (.lst (((List.range j).map fun k : Nat => (k : Int)).map V.int))) ⟨Same.new hD, upd_same⟩ ?_ ?_⟩
    · rintro j H3 hj ⟨s3, hdd⟩
      have z0 : (0 : Int) + (j : Int) = ((j : Nat) : Int) := by omega
      have hj : j < p.toNat := hj
      refine lct_n rfl ?_
      walk_at "st"
      rw [z0]
      refine ⟨_, hdd, small1000 (by rw [List.length_map, List.length_map, List.length_range]; omega), s3.sput hD, ?_⟩
      rw [List.range_succ, List.map_append, List.map_append]
      exact upd_same
    rintro H21 ⟨s21, hDd⟩
    walk_at "st"
    have hdl21 := s21 _ _ hdl20
    have dv21 := dv.mono s21
    have hpa := hpa.mono s21
    have hm := hm.mono s21
    have hsl := hsl.mono s21
    have cF : ∀ d ∈ ds, Com (FW N (wsOf po so) d.1) p := fun d hd' => by
      obtain ⟨rows, lk⟩ := Option.isSome_iff_exists.mp (hds d hd').1
      rw [FW_at lk]
      exact per.com _ (List.mem_map.mpr ⟨_, lookup_mem lk, rfl⟩)
    have real_rng : ∀ k v, Real p r b (FW N (wsOf po so)) (ds.take k) v → 0 ≤ v ∧ v < p := fun k v h => by
      cases e : ds.take k with
      | nil => rw [e] at h; exact h
      | cons d0 l =>
        rw [e] at h
        obtain ⟨u, _, zz, _, _, rfl⟩ := h
        exact (euc (u + zz) pp).2
    clear s20 hdl20 dv
    refine ⟨dl, xs, rfl, .inl (sq hdl21), ?_⟩
    walk_at "st"
    refine ⟨_, rfl, by omega, by omega, loopR (fun i σ H' => ∃ (o12 o15 o16 o17 : Option V) (sa : Addr) (ms : List Int), σ = [some (.ref a), some (.ref z), some (.int N), some (.int r), some (.int b), some (.int ex), some (.ref d), some (.ref q2), some (.ref pa), some (.ref m), some (.ref sl), some (.ref dl), o12, some (.ref sa), o14, o15, o16, o17, none] ∧
      Same H21 H' ∧ H' sa = some (.lst (ms.map V.int)) ∧ Asc ms (Real p r b (FW N (wsOf po so)) (ds.take (i - 1)))) ?_ ?_ ?_⟩
    · refine ⟨o12, none, none, none, Dd, _, rfl, fun _ _ e => e, hDd, ⟨asc_rg _, fun y => mem_rg (by omega)⟩⟩
    · rintro i σ H' hi ⟨o12, o15, o16, o17, sa, ms, rfl, s', hsa, asc⟩
      have hi : i ≤ ds.length := by
        have hi : i < ((xs.length : Int) + 1).toNat := hi
        omega
      have z0 : (0 : Int) + (i : Int) = ((i : Nat) : Int) := by omega
      have hms : ms.length ≤ 60 := by
        have := len_le_range (n := p.toNat) (asc.up.imp fun h => Int.ne_of_lt h) fun y hy => by
          have := real_rng _ y ((asc.mem y).mp hy)
          omega
        omega
      walk_at "st"
      rw [z0]
      refine ⟨fun σ H2 => ∃ (sb : Addr) (ns' : List Int), σ = [some (.ref a), some (.ref z), some (.int N), some (.int r), some (.int b), some (.int ex), some (.ref d), some (.ref q2), some (.ref pa), some (.ref m), some (.ref sl), some (.ref dl), some (.int (i : Nat)), some (.ref sb), o14, o15, o16, o17, none] ∧
        Same H21 H2 ∧ H2 sb = some (.lst (ns'.map V.int)) ∧ Asc ns' (Real p r b (FW N (wsOf po so)) (ds.take i)), ?_, ?_⟩
      · walk_at "st"
        refine iC (fun c => ?_) (fun c => ?_)
        · obtain ⟨j, rfl⟩ : ∃ j, i = j + 1 := ⟨i - 1, by omega⟩
          obtain ⟨dd, hdd⟩ : ∃ dd, ds[j]? = some dd := ⟨_, List.getElem?_eq_getElem (by omega)⟩
          obtain ⟨t, ht, hh⟩ := dv21.at2 hdd
          obtain ⟨rows, lk⟩ := Option.isSome_iff_exists.mp (hds dd (mem_of_at hdd)).1
          have ej : (((j + 1 : Nat) : Int)) - 1 = ((j : Nat) : Int) := by omega
          walk_at "st"
          refine ⟨_, _, _, _, rfl, rfl, sq (s' _ _ hdl21), (by rw [ej]; exact atI_nat ht), ?_⟩
          walk_at "st"
          refine ⟨m, sa, t, r, b, N, p, wsOf po so, ms, dd.1, dd.2, rows, rfl, hm.mono s', hsa, s' _ _ hh, lk, ok, by omega, per, r0, by omega, b0, by omega, hms, fun H2 sb ms2 s2 _ hsb asc2 => ?_⟩
          refine ⟨sb, ms2, rfl, s'.trans s2, hsb, asc2.congr fun v => ?_⟩
          rw [take_snoc hdd]
          refine Iff.trans ?_ (real_snoc pp r0 b0 (cF dd (mem_of_at hdd)) v).symm
          exact blur_congr (fun y => stepR_congr (fun u => asc.mem u) (dd.1, dd.2) y) v
        · have i0 : i = 0 := by omega
          subst i0
          exact ⟨sa, ms, rfl, s', hsa, asc⟩
      · rintro σ H2 ⟨sb, ns', rfl, s2, hsb, asc2⟩
        have next : ∃ (o12 o15' o16' o17' : Option V) (sa : Addr) (ms : List Int), ([some (.ref a), some (.ref z), some (.int N), some (.int r), some (.int b), some (.int ex), some (.ref d), some (.ref q2), some (.ref pa), some (.ref m), some (.ref sl), some (.ref dl), some (.int (i : Nat)), some (.ref sb), o14, o15, o16, o17, none] : L2.St) = [some (.ref a), some (.ref z), some (.int N), some (.int r), some (.int b), some (.int ex), some (.ref d), some (.ref q2), some (.ref pa), some (.ref m), some (.ref sl), some (.ref dl), o12, some (.ref sa), o14, o15', o16', o17', none] ∧
          Same H21 H2 ∧ H2 sa = some (.lst (ms.map V.int)) ∧ Asc ms (Real p r b (FW N (wsOf po so)) (ds.take (i + 1 - 1))) := ⟨_, _, _, _, sb, ns', rfl, s2, hsb, by rw [Nat.add_sub_cancel]; exact asc2⟩
        refine ⟨fun σ H' => σ = [some (.ref a), some (.ref z), some (.int N), some (.int r), some (.int b), some (.int ex), some (.ref d), some (.ref q2), some (.ref pa), some (.ref m), some (.ref sl), some (.ref dl), some (.int (i : Nat)), some (.ref sb), o14, o15, o16, o17, none] ∧ H' = H2, ?_, ?_⟩
        · walk_at "st"
          refine iC (fun c => ?_) (fun c => ?_)
          · walk_at "st"
            refine ⟨dl, xs, rfl, .inl (sq (s2 _ _ hdl21)), ?_⟩
            walk_at "st"
            refine iC (fun c2 => ?_) (fun c2 => ?_)
            · exact next
            · exact ⟨rfl, rfl⟩
          · exact ⟨rfl, rfl⟩
        · rintro σ H3 ⟨rfl, rfl⟩
          clear next
          have hdl3 := s2 _ _ hdl21
          have dv3 := dv21.mono s2
          walk_at "st"
          refine ⟨_, rfl, dl, xs, rfl, sq hdl3, fun c1 hc1 => ?_⟩
          rw [cut_take (by omega)]
          have s4 : Same H3 (upd H3 c1 (.lst (xs.take i))) := Same.new hc1
          have hc4 : upd H3 c1 (.lst (xs.take i)) c1 = some (.lst (xs.take i)) := upd_same
          generalize upd H3 c1 (.lst (xs.take i)) = H4 at s4 hc4 ⊢
          walk_at "st"
          intro pl pdx npl npdx npp
          have s5 : Same H4 (upd (upd H4 pdx (.own pl)) pl (.ins (He.ga K "Plan") pdx [])) := (Same.new npdx).snew (by rw [upd_ne npp.symm]; exact npl)
          have dv5 := ((dv3.take i).mono s4).mono s5
          have hdt : ∀ d ∈ ds.take i, ((wsOf po so).lookup d.1).isSome = true ∧ 0 ≤ d.2 ∧ d.2 < N := fun d h => hds d (List.mem_of_mem_take h)
          have ltk : (ds.take i).length ≤ 60 := by rw [List.length_take]; omega
          refine ⟨pl, N, c1, pdx, xs.take i, ds.take i, rfl, upd_same, s5 _ _ hc4, dv5, fun d h => ?_, by omega, ok.n2, ok.n360, fun H6 sx6 hpl => ⟨rfl, ?_⟩⟩
          · obtain ⟨rows, lk⟩ := Option.isSome_iff_exists.mp (hdt d h).1
            exact ok.word lk
          have emap : (ds.take i).map (fun d => (d.1, d.2 % N)) = ds.take i := by
            refine (List.map_congr_left fun d h => ?_).trans (List.map_id _)
            show (d.1, d.2 % N) = d
            rw [Int.emod_eq_of_lt (hdt d h).2.1 (hdt d h).2.2]
          rw [emap] at hpl
          have s6 : Same H3 H6 := s4.trans (Sx.made npl npdx sx6)
          have t6' : Same H21 H6 := s2.trans s6
          walk_at "st"
          refine ⟨pa, sl, pl, N, wsOf po so, r, b, ds.take i, p, rfl, hpa.mono t6', hsl.mono t6', hpl, per, hdt, ltk, by omega, r0, b0, by omega, fun H7 l ms2 s7 hl ascT => ?_⟩
          have t7' := t6'.trans s7
          have hsb7 := s7 _ _ (s6 _ _ hsb)
          walk_at "st"
          refine isi_ll hl ?_
          walk_at "st"
          refine ⟨g_small0, fun e1 he1 => ?_⟩
          have s8' : Same H7 (upd H7 e1 (.lst [])) := Same.new he1
          have he8 : upd H7 e1 (.lst []) e1 = some (.lst (([] : List Int).map V.int)) := upd_same
          generalize upd H7 e1 (.lst []) = H8' at s8' he8 ⊢
          refine ⟨_, _, ints_dp (s8' _ _ hl), ints_dp he8, shaped_ints _, shaped_ints _, ?_⟩
          rw [eqv_ints]
          have ne2 : ms2 ≠ [] := fun e => by
            obtain ⟨u, hu⟩ := Ts_ne pp (e := r + b) (by omega) (FW N (wsOf po so)) (ds.take i)
            have := (ascT.mem u).mpr hu
            rw [e] at this
            cases this
          walk_at "st"
          refine iDn ne2 ?_
          have t8' := t7'.trans s8'
          have hl8 := s8' _ _ hl
          have hsb8 := s8' _ _ hsb7
          walk_at "st"
          refine ⟨fun σ H' => σ = [some (.ref a), some (.ref z), some (.int N), some (.int r), some (.int b), some (.int ex), some (.ref d), some (.ref q2), some (.ref pa), some (.ref m), some (.ref sl), some (.ref dl), some (.int (i : Nat)), some (.ref sb), o14, some (.ref pl), some (.ref l), some (.int (if i = 0 then 0 else r)), none] ∧ H' = H8', ?_, ?_⟩
          · walk_at "st"
            rw [dec_I]
            refine iC (fun c => ?_) (fun c => ?_)
            · rw [if_pos (by omega)]
              exact ⟨rfl, rfl⟩
            · rw [if_neg (by omega)]
              exact ⟨rfl, rfl⟩
          rintro σ H9' ⟨rfl, rfl⟩
          have hoff : 0 ≤ (if i = 0 then 0 else r) ∧ (if i = 0 then 0 else r) ≤ 10 := by split <;> omega
          have tsr := Ts_rng pp (e := r + b) (FW N (wsOf po so)) (ds.take i)
          have lm2 : ms2.length ≤ 60 := by
            have := len_le_range (n := p.toNat) (ascT.up.imp fun h => Int.ne_of_lt h) fun y hy => by
              have := tsr y ((ascT.mem y).mp hy)
              omega
            omega
          obtain ⟨mk9, mtk9, mtd9, w1, w2, w3, w4, w5⟩ := (hm.mono t8').ex
          walk_at "st"
          refine ⟨m, .int p, rfl, getS w1 w3, ?_⟩
          walk_at "st"
          refine ⟨l, _, p, ms2, rfl, hl8, hoff.1, hoff.2, pp, by omega, lm2, fun H10' l3 ms3 s10' _ hl3 asc3 => ?_⟩
          have hsb10 := s10' _ _ hsb8
          have same : ms3 = ns' := by
            refine asc3.uniq (asc2.congr fun v => ?_)
            cases e : ds.take i with
            | nil =>
              have i0 : i = 0 := by
                have := congrArg List.length e
                rw [List.length_take] at this
                simp at this
                rcases this with h | h
                · exact h
                · have : ds.length = 0 := by rw [h]; rfl
                  omega
              rw [if_pos i0]
              refine Iff.trans ?_ (blur_zero pp (fun x hx => ?_) v).symm
              · have := ascT.mem v
                rw [e] at this
                exact this.symm
              · exact tsr x ((ascT.mem x).mp hx)
            | cons d0 l0 =>
              have i1 : i ≠ 0 := fun h => by rw [h] at e; cases e
              rw [if_neg i1]
              refine (blur_congr (fun x => ?_) v).symm
              have := ascT.mem x
              rw [e] at this
              exact this
          subst same
          walk_at "st"
          refine ⟨_, _, ints_dp hl3, ints_dp hsb10, shaped_ints _, shaped_ints _, ?_⟩
          rw [eqv_ints]
          walk_at "st"
          refine iN rfl ?_
          have t10' := t8'.trans s10'
          have hpl10 := hpl.mono ((s7.trans s8').trans s10')
          walk_at "st"
          refine ⟨pa, sl, pl, N, wsOf po so, r, b, ds.take i, p, rfl, hpa.mono t10', hsl.mono t10', hpl10, per, hdt, ltk, by omega, r0, b0, by omega, fun H11' cc s11' hcc => ?_⟩
          have fin : ∀ {H' : Hp}, Same H10' H' → ∃ (o12 o15' o16' o17' : Option V) (sa : Addr) (ms : List Int), ([some (.ref a), some (.ref z), some (.int N), some (.int r), some (.int b), some (.int ex), some (.ref d), some (.ref q2), some (.ref pa), some (.ref m), some (.ref sl), some (.ref dl), some (.int (i : Nat)), some (.ref sb), o14, some (.ref pl), some (.ref l), some (.int (if i = 0 then 0 else r)), none] : L2.St) = [some (.ref a), some (.ref z), some (.int N), some (.int r), some (.int b), some (.int ex), some (.ref d), some (.ref q2), some (.ref pa), some (.ref m), some (.ref sl), some (.ref dl), o12, some (.ref sa), o14, o15', o16', o17', none] ∧
            Same H21 H' ∧ H' sa = some (.lst (ms.map V.int)) ∧ Asc ms (Real p r b (FW N (wsOf po so)) (ds.take (i + 1 - 1))) := fun {H'} h => ⟨_, _, _, _, sb, ms3, rfl, t10'.trans h, h _ _ hsb10, by rw [Nat.add_sub_cancel]; exact asc2⟩
          cases cc with
          | false =>
            walk_at "st"
            exact fin s11'
          | true =>
            walk_at "st"
            refine ⟨pa, pl, N, wsOf po so, ds.take i, p, rfl, hpa.mono (t10'.trans s11'), hpl10.mono s11', fun d h => (hdt d h).1, ltk, by omega, per, hcc rfl, fun H12' s12' => ?_⟩
            walk_at "st"
            exact fin (s11'.trans s12')
    · rintro σ H' ⟨o12, o15, o16, o17, sa, ms, rfl, s', hsa, asc⟩
      walk_at "st"
      exact q _
end
end Jaw

/-! ## End -/
set_option Elab.async false
set_option linter.all false
set_option maxRecDepth 100000
set_option maxHeartbeats 4000000
namespace Jaw
open PySem PySem.Spec PyProof.Rows L2
theorem hf_item {K : PySem.W.Frag} (h : PySem.W.fnIn K (He.ma K (He.ga K "Part") "__getitem__") = true) (f : Addr) (m : Meth K (He.ga K "Part") "__getitem__" f) : PySem.W.fnIn K f = true := by
  have e : He.ma K (He.ga K "Part") "__getitem__" = f := by
    unfold He.ma
    rw [m.at_]
  rw [← e]; exact h
theorem facts {P : Program} {w : World} {K : PySem.W.Frag} {h : Heap} {mg : Str → Option Value} {f0 : Addr} (X : K.In h) (G : h.Ns mainGlobals mg) (hfa : mg ("law" : Str) = some (.ref f0)) (c : SaysJ fa fn pd ex K) :
    ∃ fd : FuncData, (∀ (s : Shared) (v : Value), BindsTo s fd ⟨[v], []⟩ [("_law_script", v)]) ∧ ∀ base : Heap, K.In base → base.Ns mainGlobals mg → FnOk P w K mg base CX0 10 f0 fd ["_law_script"] (spLaw K) := by
  have cb := c.b.2
  unfold ex at cb
  obtain ⟨x1, cb⟩ := He.ba cb
  obtain ⟨x2, cb⟩ := He.ba cb
  obtain ⟨x3, x4⟩ := He.ba cb
  have M : Mod0 K mg := {
      b_isinstance := He.free_ok X G (c.d.fact 40 (f := .free "isinstance") rfl)
      b_int := He.free_ok X G (c.d.fact 41 (f := .free "int") rfl)
      b_bool := He.free_ok X G (c.d.fact 42 (f := .free "bool") rfl)
      b_str := He.free_ok X G (c.d.fact 53 (f := .free "str") rfl)
      b_list := He.free_ok X G (c.d.fact 43 (f := .free "list") rfl)
      b_tuple := He.free_ok X G (c.d.fact 44 (f := .free "tuple") rfl)
      b_set := He.free_ok X G (c.d.fact 52 (f := .free "set") rfl)
      b_len := He.free_ok X G (c.d.fact 45 (f := .free "len") rfl)
      b_enumerate := He.free_ok X G (c.d.fact 46 (f := .free "enumerate") rfl)
      b_sorted := He.free_ok X G (c.d.fact 47 (f := .free "sorted") rfl)
      b_range := He.free_ok X G (c.d.fact 48 (f := .free "range") rfl)
      b_divmod := He.free_ok X G (c.d.fact 49 (f := .free "divmod") rfl)
      b_min := He.free_ok X G (c.d.fact 50 (f := .free "min") rfl)
      b_max := He.free_ok X G (c.d.fact 51 (f := .free "max") rfl)
      MOST_ROUND := He.int_ok X G (c.d.fact 54 (f := .int "MOST_ROUND" 360) rfl)
      MOST_ROWS := He.int_ok X G (c.d.fact 55 (f := .int "MOST_ROWS" 12) rfl)
      MOST_SLACK := He.int_ok X G (c.d.fact 56 (f := .int "MOST_SLACK" 60) rfl)
      MOST_DEEDS := He.int_ok X G (c.d.fact 57 (f := .int "MOST_DEEDS" 400) rfl)
      lcm := PySem.W.mg_of X G (He.eqO_ok x1)
      WORDS := PySem.W.mg_of X G (eq_of_beq x4)
      words := fun H => He.tupB_ok x2 H
      cT := He.cls_ok (c.d.fact 58 (f := .cls "Turning") rfl)
      cP := He.cls_ok (c.d.fact 63 (f := .cls "Part") rfl)
      cL := He.cls_ok (c.d.fact 68 (f := .cls "Plan") rfl)
      cB := He.cls_ok (c.d.fact 72 (f := .cls "Board") rfl)
      cS := He.cls_ok (c.d.fact 79 (f := .cls "Slack") rfl)
      nT := fun f hf => by
        simp only [List.mem_cons, List.not_mem_nil, or_false] at hf
        rcases hf with rfl | rfl | rfl
        · exact He.noat_ok (c.d.fact 60 (f := .noat "Turning" "around") rfl)
        · exact He.noat_ok (c.d.fact 61 (f := .noat "Turning" "rows") rfl)
        · exact He.noat_ok (c.d.fact 62 (f := .noat "Turning" "_period") rfl)
      nP := fun f hf => by
        simp only [List.mem_cons, List.not_mem_nil, or_false] at hf
        rcases hf with rfl | rfl | rfl
        · exact He.noat_ok (c.d.fact 65 (f := .noat "Part" "around") rfl)
        · exact He.noat_ok (c.d.fact 66 (f := .noat "Part" "_shown") rfl)
        · exact He.noat_ok (c.d.fact 67 (f := .noat "Part" "_turnings") rfl)
      nL := fun f hf => by
        simp only [List.mem_cons, List.not_mem_nil, or_false] at hf
        rcases hf with rfl | rfl
        · exact He.noat_ok (c.d.fact 70 (f := .noat "Plan" "around") rfl)
        · exact He.noat_ok (c.d.fact 71 (f := .noat "Plan" "deeds") rfl)
      nB := fun f hf => by
        simp only [List.mem_cons, List.not_mem_nil, or_false] at hf
        rcases hf with rfl | rfl | rfl | rfl | rfl
        · exact He.noat_ok (c.d.fact 74 (f := .noat "Board" "source") rfl)
        · exact He.noat_ok (c.d.fact 75 (f := .noat "Board" "span") rfl)
        · exact He.noat_ok (c.d.fact 76 (f := .noat "Board" "spots") rfl)
        · exact He.noat_ok (c.d.fact 77 (f := .noat "Board" "slots") rfl)
        · exact He.noat_ok (c.d.fact 78 (f := .noat "Board" "found") rfl)
      nS := fun f hf => by
        simp only [List.mem_cons, List.not_mem_nil, or_false] at hf
        rcases hf with rfl | rfl
        · exact He.noat_ok (c.d.fact 81 (f := .noat "Slack" "rest") rfl)
        · exact He.noat_ok (c.d.fact 82 (f := .noat "Slack" "border") rfl)
    }
  have F_isInt : Fd K mg "is_integer" s_isInt [] := by
    obtain ⟨fd, F⟩ := c.d.def_ 0 (d := d_isInt) rfl
    exact ⟨_, fd, F, He.glo_ok X G (c.d.fact 0 (f := .glo "is_integer") rfl)⟩
  have F_isRow : Fd K mg "is_row" s_isRow [] := by
    obtain ⟨fd, F⟩ := c.d.def_ 1 (d := d_isRow) rfl
    exact ⟨_, fd, F, He.glo_ok X G (c.d.fact 1 (f := .glo "is_row") rfl)⟩
  have F_isPlace : Fd K mg "is_place" s_isPlace [] := by
    obtain ⟨fd, F⟩ := c.d.def_ 2 (d := d_isPlace) rfl
    exact ⟨_, fd, F, He.glo_ok X G (c.d.fact 2 (f := .glo "is_place") rfl)⟩
  have F_chkRound : Fd K mg "check_round" s_chkRound [] := by
    obtain ⟨fd, F⟩ := c.d.def_ 3 (d := d_chkRound) rfl
    exact ⟨_, fd, F, He.glo_ok X G (c.d.fact 3 (f := .glo "check_round") rfl)⟩
  have F_isPair : Fd K mg "is_pair" s_isPair [] := by
    obtain ⟨fd, F⟩ := c.d.def_ 4 (d := d_isPair) rfl
    exact ⟨_, fd, F, He.glo_ok X G (c.d.fact 4 (f := .glo "is_pair") rfl)⟩
  have F_chkRows : Fd K mg "checked_rows" s_chkRows [] := by
    obtain ⟨fd, F⟩ := c.d.def_ 5 (d := d_chkRows) rfl
    exact ⟨_, fd, F, He.glo_ok X G (c.d.fact 5 (f := .glo "checked_rows") rfl)⟩
  have F_rowsT : Fd K mg "rows_turned" s_rowsT [] := by
    obtain ⟨fd, F⟩ := c.d.def_ 6 (d := d_rowsT) rfl
    exact ⟨_, fd, F, He.glo_ok X G (c.d.fact 6 (f := .glo "rows_turned") rfl)⟩
  have F_leastP : Fd K mg "least_period" s_leastP [] := by
    obtain ⟨fd, F⟩ := c.d.def_ 7 (d := d_leastP) rfl
    exact ⟨_, fd, F, He.glo_ok X G (c.d.fact 7 (f := .glo "least_period") rfl)⟩
  have F_tInit : Id K (He.ga K "Turning") "Turning.__init__" s_tInit [] := by
    obtain ⟨fd, F⟩ := c.d.def_ 8 (d := d_tInit) rfl
    exact ⟨_, fd, F, He.mkr_ok (c.d.fact 59 (f := .mkr "Turning") rfl)⟩
  have F_tPer : Pd K (He.ga K "Turning") "period" "Turning.period" s_tPer := by
    obtain ⟨hp, fd, F⟩ := c.prop 0 rfl
    exact ⟨_, _, fd, F, hp⟩
  have F_tRests : Md K (He.ga K "Turning") "rests" "Turning.rests" s_tRests := by
    obtain ⟨fd, F⟩ := c.d.def_ 9 (d := d_tRests) rfl
    exact ⟨_, fd, F, He.meth_ok (c.d.fact 83 (f := .meth "Turning" "rests") rfl)⟩
  have F_tLift : Md K (He.ga K "Turning") "lifted" "Turning.lifted" s_tLift := by
    obtain ⟨fd, F⟩ := c.d.def_ 10 (d := d_tLift) rfl
    exact ⟨_, fd, F, He.meth_ok (c.d.fact 84 (f := .meth "Turning" "lifted") rfl)⟩
  have F_tEven : Md K (He.ga K "Turning") "is_even" "Turning.is_even" s_tEven := by
    obtain ⟨fd, F⟩ := c.d.def_ 11 (d := d_tEven) rfl
    exact ⟨_, fd, F, He.meth_ok (c.d.fact 85 (f := .meth "Turning" "is_even") rfl)⟩
  have F_isWord : Fd K mg "is_word" s_isWord [] := by
    obtain ⟨fd, F⟩ := c.d.def_ 12 (d := d_isWord) rfl
    exact ⟨_, fd, F, He.glo_ok X G (c.d.fact 8 (f := .glo "is_word") rfl)⟩
  have F_chkEven : Fd K mg "check_even" s_chkEven [] := by
    obtain ⟨fd, F⟩ := c.d.def_ 13 (d := d_chkEven) rfl
    exact ⟨_, fd, F, He.glo_ok X G (c.d.fact 9 (f := .glo "check_even") rfl)⟩
  have F_pWords : Pd K (He.ga K "Part") "words" "Part.words" s_pWords := by
    obtain ⟨hp, fd, F⟩ := c.prop 1 rfl
    exact ⟨_, _, fd, F, hp⟩
  have F_pPer : Pd K (He.ga K "Part") "period" "Part.period" s_pPer := by
    obtain ⟨hp, fd, F⟩ := c.prop 2 rfl
    exact ⟨_, _, fd, F, hp⟩
  have F_pItem : Md K (He.ga K "Part") "__getitem__" "Part.__getitem__" s_pItem := by
    obtain ⟨fd, F⟩ := c.d.def_ 15 (d := d_pItem) rfl
    exact ⟨_, fd, F, He.meth_ok (c.d.fact 87 (f := .meth "Part" "__getitem__") rfl)⟩
  have F_pRests : Md K (He.ga K "Part") "rests" "Part.rests" s_pRests := by
    obtain ⟨fd, F⟩ := c.d.def_ 16 (d := d_pRests) rfl
    exact ⟨_, fd, F, He.meth_ok (c.d.fact 86 (f := .meth "Part" "rests") rfl)⟩
  have F_pInit : Id K (He.ga K "Part") "Part.__init__" s_pInit [.non, .non, .non] := by
    obtain ⟨fd, F⟩ := c.d.def_ 14 (d := d_pInit) rfl
    exact ⟨_, fd, F, He.mkr_ok (c.d.fact 64 (f := .mkr "Part") rfl)⟩
  have F_isDeed : Fd K mg "is_deed" s_isDeed [] := by
    obtain ⟨fd, F⟩ := c.d.def_ 17 (d := d_isDeed) rfl
    exact ⟨_, fd, F, He.glo_ok X G (c.d.fact 10 (f := .glo "is_deed") rfl)⟩
  have F_plInit : Id K (He.ga K "Plan") "Plan.__init__" s_plInit [] := by
    obtain ⟨fd, F⟩ := c.d.def_ 18 (d := d_plInit) rfl
    exact ⟨_, fd, F, He.mkr_ok (c.d.fact 69 (f := .mkr "Plan") rfl)⟩
  have F_chkPlan : Fd K mg "check_plan" s_chkPlan [] := by
    obtain ⟨fd, F⟩ := c.d.def_ 19 (d := d_chkPlan) rfl
    exact ⟨_, fd, F, He.glo_ok X G (c.d.fact 11 (f := .glo "check_plan") rfl)⟩
  have F_moved : Fd K mg "moved" s_moved [] := by
    obtain ⟨fd, F⟩ := c.d.def_ 20 (d := d_moved) rfl
    exact ⟨_, fd, F, He.glo_ok X G (c.d.fact 12 (f := .glo "moved") rfl)⟩
  have F_counts : Fd K mg "counts" s_counts [] := by
    obtain ⟨fd, F⟩ := c.d.def_ 21 (d := d_counts) rfl
    exact ⟨_, fd, F, He.glo_ok X G (c.d.fact 13 (f := .glo "counts") rfl)⟩
  have F_does : Fd K mg "does" s_does [] := by
    obtain ⟨fd, F⟩ := c.d.def_ 22 (d := d_does) rfl
    exact ⟨_, fd, F, He.glo_ok X G (c.d.fact 14 (f := .glo "does") rfl)⟩
  have F_bInit : Id K (He.ga K "Board") "Board.__init__" s_bInit [] := by
    obtain ⟨fd, F⟩ := c.d.def_ 23 (d := d_bInit) rfl
    exact ⟨_, fd, F, He.mkr_ok (c.d.fact 73 (f := .mkr "Board") rfl)⟩
  have F_bCarr : Md K (He.ga K "Board") "carried" "Board.carried" s_bCarr := by
    obtain ⟨fd, F⟩ := c.d.def_ 24 (d := d_bCarr) rfl
    exact ⟨_, fd, F, He.meth_ok (c.d.fact 88 (f := .meth "Board" "carried") rfl)⟩
  have F_leftB : Fd K mg "left_behind" s_leftB [] := by
    obtain ⟨fd, F⟩ := c.d.def_ 25 (d := d_leftB) rfl
    exact ⟨_, fd, F, He.glo_ok X G (c.d.fact 15 (f := .glo "left_behind") rfl)⟩
  have F_slInit : Id K (He.ga K "Slack") "Slack.__init__" s_slInit [] := by
    obtain ⟨fd, F⟩ := c.d.def_ 26 (d := d_slInit) rfl
    exact ⟨_, fd, F, He.mkr_ok (c.d.fact 80 (f := .mkr "Slack") rfl)⟩
  have F_covered : Fd K mg "covered" s_covered [] := by
    obtain ⟨fd, F⟩ := c.d.def_ 27 (d := d_covered) rfl
    exact ⟨_, fd, F, He.glo_ok X G (c.d.fact 16 (f := .glo "covered") rfl)⟩
  have F_chkRoom : Fd K mg "check_room" s_chkRoom [] := by
    obtain ⟨fd, F⟩ := c.d.def_ 28 (d := d_chkRoom) rfl
    exact ⟨_, fd, F, He.glo_ok X G (c.d.fact 17 (f := .glo "check_room") rfl)⟩
  have F_leftA : Fd K mg "left_after" s_leftA [] := by
    obtain ⟨fd, F⟩ := c.d.def_ 29 (d := d_leftA) rfl
    exact ⟨_, fd, F, He.glo_ok X G (c.d.fact 18 (f := .glo "left_after") rfl)⟩
  have F_sure : Fd K mg "sure" s_sure [.int 0] := by
    obtain ⟨fd, F⟩ := c.d.def_ 30 (d := d_sure) rfl
    exact ⟨_, fd, F, He.glo_ok X G (c.d.fact 19 (f := .glo "sure") rfl)⟩
  have F_lPool : Fd K mg "_law_pool" s_lPool [] := by
    obtain ⟨fd, F⟩ := c.d.def_ 31 (d := d_lPool) rfl
    exact ⟨_, fd, F, He.glo_ok X G (c.d.fact 20 (f := .glo "_law_pool") rfl)⟩
  have F_lDraw : Fd K mg "_law_draw" s_lDraw [] := by
    obtain ⟨fd, F⟩ := c.d.def_ 32 (d := d_lDraw) rfl
    exact ⟨_, fd, F, He.glo_ok X G (c.d.fact 21 (f := .glo "_law_draw") rfl)⟩
  have F_lLaps : Fd K mg "_law_laps" s_lLaps [] := by
    obtain ⟨fd, F⟩ := c.d.def_ 33 (d := d_lLaps) rfl
    exact ⟨_, fd, F, He.glo_ok X G (c.d.fact 22 (f := .glo "_law_laps") rfl)⟩
  have F_lRows : Fd K mg "_law_rows" s_lRows [] := by
    obtain ⟨fd, F⟩ := c.d.def_ 34 (d := d_lRows) rfl
    exact ⟨_, fd, F, He.glo_ok X G (c.d.fact 23 (f := .glo "_law_rows") rfl)⟩
  have F_lWorld : Fd K mg "_law_world" s_lWorld [] := by
    obtain ⟨fd, F⟩ := c.d.def_ 35 (d := d_lWorld) rfl
    exact ⟨_, fd, F, He.glo_ok X G (c.d.fact 24 (f := .glo "_law_world") rfl)⟩
  have F_lPart : Fd K mg "_law_part" s_lPart [] := by
    obtain ⟨fd, F⟩ := c.d.def_ 36 (d := d_lPart) rfl
    exact ⟨_, fd, F, He.glo_ok X G (c.d.fact 25 (f := .glo "_law_part") rfl)⟩
  have F_lTable : Fd K mg "_law_table" s_lTable [] := by
    obtain ⟨fd, F⟩ := c.d.def_ 37 (d := d_lTable) rfl
    exact ⟨_, fd, F, He.glo_ok X G (c.d.fact 26 (f := .glo "_law_table") rfl)⟩
  have F_lLift : Fd K mg "_law_lift" s_lLift [] := by
    obtain ⟨fd, F⟩ := c.d.def_ 38 (d := d_lLift) rfl
    exact ⟨_, fd, F, He.glo_ok X G (c.d.fact 27 (f := .glo "_law_lift") rfl)⟩
  have F_lKeeps : Fd K mg "_law_keeps" s_lKeeps [] := by
    obtain ⟨fd, F⟩ := c.d.def_ 39 (d := d_lKeeps) rfl
    exact ⟨_, fd, F, He.glo_ok X G (c.d.fact 28 (f := .glo "_law_keeps") rfl)⟩
  have F_lTables : Fd K mg "_law_tables" s_lTables [] := by
    obtain ⟨fd, F⟩ := c.d.def_ 40 (d := d_lTables) rfl
    exact ⟨_, fd, F, He.glo_ok X G (c.d.fact 29 (f := .glo "_law_tables") rfl)⟩
  have F_lSpan : Fd K mg "_law_span" s_lSpan [] := by
    obtain ⟨fd, F⟩ := c.d.def_ 41 (d := d_lSpan) rfl
    exact ⟨_, fd, F, He.glo_ok X G (c.d.fact 30 (f := .glo "_law_span") rfl)⟩
  have F_lModel : Fd K mg "_law_model" s_lModel [] := by
    obtain ⟨fd, F⟩ := c.d.def_ 42 (d := d_lModel) rfl
    exact ⟨_, fd, F, He.glo_ok X G (c.d.fact 31 (f := .glo "_law_model") rfl)⟩
  have F_lBlur : Fd K mg "_law_blurred" s_lBlur [] := by
    obtain ⟨fd, F⟩ := c.d.def_ 44 (d := d_lBlur) rfl
    exact ⟨_, fd, F, He.glo_ok X G (c.d.fact 33 (f := .glo "_law_blurred") rfl)⟩
  have F_lReal : Fd K mg "_law_real" s_lReal [] := by
    obtain ⟨fd, F⟩ := c.d.def_ 43 (d := d_lReal) rfl
    exact ⟨_, fd, F, He.glo_ok X G (c.d.fact 32 (f := .glo "_law_real") rfl)⟩
  obtain ⟨fd, F⟩ := c.d.def_ 45 (d := d_lLaw) rfl
  have e := hfa.symm.trans (He.glo_ok X G (c.d.fact 34 (f := .glo "law") rfl))
  cases e
  have b := FunD.bindsA (ps := ["_law_script"]) F fun kV doc pm an cdv ct us hl => bd_lLaw kV doc pm an cdv ct "law" us hl
  refine ⟨fd, fun s v => b s [v] rfl, fun base _ _ => ?_⟩
  have c_isInt := ok_isInt (P := P) (w := w) (base := base) F_isInt M
  have c_isRow := ok_isRow (P := P) (w := w) (base := base) F_isRow M
  have c_isPlace := ok_isPlace (P := P) (w := w) (base := base) F_isPlace M c_isInt
  have c_chkRound := ok_chkRound (P := P) (w := w) (base := base) F_chkRound M c_isInt
  have c_isPair := ok_isPair (P := P) (w := w) (base := base) F_isPair M c_isPlace
  have c_chkRows := ok_chkRows (P := P) (w := w) (base := base) F_chkRows M c_isRow c_isPair
  have c_rowsT := ok_rowsT (P := P) (w := w) (base := base) F_rowsT M
  have c_leastP := ok_leastP (P := P) (w := w) (base := base) F_leastP M c_rowsT
  have c_tInit := ok_tInit (P := P) (w := w) (base := base) F_tInit (He.glo_ok X G (c.d.fact 35 (f := .glo "Turning") rfl)) M c_chkRound c_chkRows c_leastP
  have c_tPer := ok_tPer (P := P) (w := w) (base := base) F_tPer M
  have c_tRests := ok_tRests (P := P) (w := w) (base := base) F_tRests M
  have c_tLift := ok_tLift (P := P) (w := w) (base := base) F_tLift M c_isInt
  have c_tEven := ok_tEven (P := P) (w := w) (base := base) F_tEven M
  have c_isWord := ok_isWord (P := P) (w := w) (base := base) F_isWord M
  have c_chkEven := ok_chkEven (P := P) (w := w) (base := base) F_chkEven M c_tEven
  have c_pWords := ok_pWords (P := P) (w := w) (base := base) F_pWords M
  have c_pPer := ok_pPer (P := P) (w := w) (base := base) F_pPer M c_tPer
  have c_pItem := ok_pItem (P := P) (w := w) (base := base) F_pItem (hf_item x3) M c_isWord
  have c_pRests := ok_pRests (P := P) (w := w) (base := base) F_pRests M c_pItem c_tRests c_pPer
  have c_pInit := ok_pInit (P := P) (w := w) (base := base) F_pInit (He.glo_ok X G (c.d.fact 36 (f := .glo "Part") rfl)) M c_chkEven
  have c_isDeed := ok_isDeed (P := P) (w := w) (base := base) F_isDeed M c_isWord c_isInt
  have c_plInit := ok_plInit (P := P) (w := w) (base := base) F_plInit (He.glo_ok X G (c.d.fact 37 (f := .glo "Plan") rfl)) M c_chkRound c_isRow c_isDeed
  have c_chkPlan := ok_chkPlan (P := P) (w := w) (base := base) F_chkPlan M c_pWords
  have c_moved := ok_moved (P := P) (w := w) (base := base) F_moved M c_pItem c_tLift
  have c_counts := ok_counts (P := P) (w := w) (base := base) F_counts M c_chkPlan c_pPer c_moved
  have c_does := ok_does (P := P) (w := w) (base := base) F_does M c_counts
  have c_bInit := ok_bInit (P := P) (w := w) (base := base) F_bInit (He.glo_ok X G (c.d.fact 38 (f := .glo "Board") rfl)) M c_pPer c_pWords c_pRests
  have c_bCarr := ok_bCarr (P := P) (w := w) (base := base) F_bCarr M c_pItem c_tLift
  have c_leftB := ok_leftB (P := P) (w := w) (base := base) F_leftB M c_bCarr
  have c_slInit := ok_slInit (P := P) (w := w) (base := base) F_slInit (He.glo_ok X G (c.d.fact 39 (f := .glo "Slack") rfl)) M c_isInt
  have c_covered := ok_covered (P := P) (w := w) (base := base) F_covered M
  have c_chkRoom := ok_chkRoom (P := P) (w := w) (base := base) F_chkRoom M c_isInt
  have c_leftA := ok_leftA (P := P) (w := w) (base := base) F_leftA M c_chkPlan c_bInit c_leftB
  have c_sure := ok_sure (P := P) (w := w) (base := base) F_sure M c_leftA c_covered c_chkRoom c_pPer
  have c_lPool := ok_lPool (P := P) (w := w) (base := base) F_lPool M
  have c_lDraw := ok_lDraw (P := P) (w := w) (base := base) F_lDraw M
  have c_lLaps := ok_lLaps (P := P) (w := w) (base := base) F_lLaps M c_lDraw
  have c_lRows := ok_lRows (P := P) (w := w) (base := base) F_lRows M c_lDraw
  have c_lWorld := ok_lWorld (P := P) (w := w) (base := base) F_lWorld M c_lDraw c_lLaps c_lRows
  have c_lPart := ok_lPart (P := P) (w := w) (base := base) F_lPart M c_tInit c_pInit
  have c_lTable := ok_lTable (P := P) (w := w) (base := base) F_lTable M
  have c_lLift := ok_lLift (P := P) (w := w) (base := base) F_lLift M
  have c_lKeeps := ok_lKeeps (P := P) (w := w) (base := base) F_lKeeps M c_lLift
  have c_lTables := ok_lTables (P := P) (w := w) (base := base) F_lTables M c_lTable
  have c_lSpan := ok_lSpan (P := P) (w := w) (base := base) F_lSpan M c_lKeeps
  have c_lModel := ok_lModel (P := P) (w := w) (base := base) F_lModel M c_lTables c_lSpan
  have c_lBlur := ok_lBlur (P := P) (w := w) (base := base) F_lBlur M
  have c_lReal := ok_lReal (P := P) (w := w) (base := base) F_lReal M c_lLift c_lBlur
  have hb := bo_lLaw (P := P) (w := w) (base := base) M c_lPool c_lDraw c_lWorld c_lPart c_lModel c_slInit c_lReal c_plInit c_leftA c_lBlur c_sure c_does
  refine FunD.ok F sc_lLaw (fun vs H Q E h => ?_) fun cdv A outer s H vs Q E hr hs => ?_
  · obtain ⟨_, _, rfl, _⟩ := h; rfl
  · obtain ⟨t, h1, h2⟩ := hb _ cdv A outer s H vs Q E hr hs
    exact ⟨t, h1.nox, h2⟩
end Jaw
open PySem PySem.W PySem.Calls PyProof.Rows
theorem PySem.Challenge.cw_jawturns_k79_whole_real_standings_holds : PySem.Challenge.rw_jawturns_k79_whole_real_standings.Holds := by
  w_on; o_law
  refine HeadRun.head_imp (r := OpenLaw.row PySem.Challenge.rw_jawturns_k79_whole_real_standings) (q := view (OpenLaw.row PySem.Challenge.rw_jawturns_k79_whole_real_standings).prog [0, 65]) (H := Jaw.hk) (ob := Jaw.ob) (M := 8000) (loose := Jaw.names) (d := HeadRun.topDef (OpenLaw.row PySem.Challenge.rw_jawturns_k79_whole_real_standings).prog 65) (kwd := [])
    Jaw.ob_eq Jaw.run (by kernel_rfl) (by kernel_rfl) (by kernel_rfl) (by rfl) (by first | assumption | decide +kernel) (by decide +kernel) ⟨rfl, rfl, rfl, rfl, rfl, by decide +kernel⟩ ?hw ?hc
  case hw => w_witness2
  case hc =>
    refine L2.walk_ofE (l := PySem.Challenge.rw_jawturns_k79_whole_real_standings) (n := 63) (k := 10) (x := "_law_script") (CX := L2.CX0) rfl (by decide) (by kernel_rfl) ⟨rfl, by decide, by decide⟩ ?F (fun _ _ _ _ z => z)
    intro w mg f0 h Y G hmg0
    obtain ⟨K, KX, c⟩ := Y
    have hmg : mg ("law" : PySem.Str) = some (.ref f0) := by
      have e : (HeadRun.topDef (OpenLaw.row PySem.Challenge.rw_jawturns_k79_whole_real_standings).prog 65).name = ("law" : PySem.Str) := by kernel_rfl
      rw [← e]
      exact hmg0
    obtain ⟨fd, hb, hF⟩ := Jaw.facts (P := (PySem.Challenge.rw_jawturns_k79_whole_real_standings).prog) (w := w) KX G hmg c
    exact ⟨K, fd, Jaw.spLaw K, KX, hb, fun H a ns hl _ hS => ⟨a, ns, rfl, hS, hl, fun _ => rfl⟩, hF⟩

