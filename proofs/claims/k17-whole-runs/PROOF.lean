import PyProof.Rows.All
import Wide.All
import OpenK.AllK
import Wide.FinOn
import KE.KStateDown
import HandS.ForMost
import HandS.Exc
import HandS.TryOnly
import HandS.ExcOwn
import HandS.WordsExc
import HandS.More
import HandS.Defaults
import HandS.Head0
import HandS.Head1
import HandS.Head2
import HandS.HeadEnd
import HandS.HeadHook1
import HandS.HeadHook2
import HandS.Star
import HandS.Property
import HandS.IsInst
import HandS.OwnEq
import HandS.Steps
import HandS.Walk
import HandS.Zip
import HandS.ExcInit
import HandS.GenList
import HandS.Flt
import HandS.Deep
import HandS.Style
import KE.KExcSuper
import KE.GoesEnum
import PySem.Challenge.RW_waterbyturns_k17_whole_runs_of_two_stand
import HandS.Words
import HandS.RaiseMore
set_option Elab.async false
set_option linter.all false
set_option maxRecDepth 100000
set_option maxHeartbeats 4000000
/-! K17A: the defs by places, the facts by names, the structure Txt. Printed by gen_base.py -/
namespace K17
open PySem PySem.Spec PyProof.Rows L2
/-! ### the text by places -/
abbrev prog : PySem.Program := PySem.Challenge.pw_waterbyturns_k17_whole_runs_of_two_stand
def top (i : Nat) : Stmt := prog.main.body.getD i (.Pass ⟨0, 0, 0, 0⟩)
/-- one def: where it stands, name, qualified name, statement -/
structure DefP where
  at_ : PySem.W.Frag → Addr
  name : Str
  qual : Str
  st : Stmt
abbrev DefP.params (d : DefP) : Arguments := defArgs d.st
abbrev DefP.body (d : DefP) : List Stmt := defBody d.st
abbrev DefP.scope (d : DefP) : Scope := defScope d.st
/-- a property's getter -/
def prA (K : PySem.W.Frag) (C : Str) (m : Str) : Addr := He.ma K (He.ga K C) m
def getA (K : PySem.W.Frag) (C : Str) (m : Str) : Addr := match PySem.W.recIn K (prA K C m) "property" with
  | some (.ref g :: _) => g
  | _ => 0
def fnP (K : PySem.W.Frag) (a : Addr) : He.FnW := match K.lookup a with
  | some ⟨_, _, .func fd, _⟩ => some (fd.name, fd.qualname, fd.params, fd.body, fd.scope, fd.globals, fd.closure, fd.builtins)
  | _ => none
def DefP.val (d : DefP) : He.FnW := some (d.name, d.qual, d.params, .stmts d.body, d.scope, mainGlobals, [], builtinsNs)
def DefP.ok (K : PySem.W.Frag) (d : DefP) : Bool := PySem.W.keepIn K (.ref (d.at_ K)) && (match K.lookup (d.at_ K) with
  | some ⟨_, _, .func fd, _⟩ => PySem.W.codeIn K fd.code d.qual && (He.dflB K fd.defaults [] && He.kwdB K fd.kwdefaults [])
  | _ => false)
/-- the def stands there, its function object fd -/
abbrev FnD (K : PySem.W.Frag) (d : DefP) (fd : FuncData) : Prop := FunD K d.name d.qual d.params d.body d.scope [] [] (d.at_ K) fd
theorem DefP.funD {K : PySem.W.Frag} {d : DefP} (e : fnP K (d.at_ K) = d.val) (c : d.ok K = true) : ∃ fd, FnD K d fd := by
  obtain ⟨kp, c2⟩ := He.ba c
  unfold fnP at e
  cases q : K.lookup (d.at_ K) with
  | none =>
    rw [q] at c2
    cases c2
  | some o =>
    obtain ⟨oc, od, dt, osl⟩ := o
    rw [q] at c2 e
    cases dt with
    | func fd =>
      obtain ⟨n1, n2, n3, n4, n5, n6, n7, n8, n9, n10, n11, n12, n13, n14, n15⟩ := fd
      have e2 : (some (n1, n2, n3, n4, n5, n6, n7, n15) : He.FnW) = some (d.name, d.qual, d.params, .stmts d.body, d.scope, mainGlobals, [], builtinsNs) := e
      simp only [Option.some.injEq, Prod.mk.injEq] at e2
      obtain ⟨h1, h2, h3, h4, h5, h6, h7, h8⟩ := e2
      have c3 : (PySem.W.codeIn K n13 d.qual && (He.dflB K n8 [] && He.kwdB K n9 [])) = true := c2
      obtain ⟨k1, k2⟩ := He.ba c3
      obtain ⟨k3, k4⟩ := He.ba k2
      subst h1 h2 h3 h4 h5 h6 h7 h8
      exact ⟨_, ⟨oc, od, n8, n9, n10, n11, n12, n13, n14, osl, rfl, q, k1, He.dflB_ok k3, He.kwdB_ok k4⟩, kp⟩
    | _ => cases c2
/-- the def keeps the promise sp, and how its arguments bind -/
structure OkD (P : Program) (w : World) (K : PySem.W.Frag) (mg : Str → Option Value) (base : Heap) (CX : CXT) (k : Nat) (d : DefP) (ps : List Str) (sp : Sp) : Prop where
  ex : ∃ fd, FnOk P w K mg base CX k (d.at_ K) fd ps sp ∧ Binds K fd ps []
  kp : PySem.W.keepIn K (.ref (d.at_ K)) = true

/-! ### the defs -/
abbrev s_isname : Stmt := top 11
def d_isname : DefP := ⟨fun K => He.ga K "is_name", "is_name", "is_name", s_isname⟩
abbrev s_chkname : Stmt := top 12
def d_chkname : DefP := ⟨fun K => He.ga K "check_name", "check_name", "check_name", s_chkname⟩
abbrev s_isint : Stmt := top 13
def d_isint : DefP := ⟨fun K => He.ga K "is_integer", "is_integer", "is_integer", s_isint⟩
abbrev s_chknum : Stmt := top 14
def d_chknum : DefP := ⟨fun K => He.ga K "check_number", "check_number", "check_number", s_chknum⟩
abbrev s_plotI : Stmt := inClass (top 19) 0
def d_plotI : DefP := ⟨fun K => He.ma K (He.ga K "Plot") "__init__", "__init__", "Plot.__init__", s_plotI⟩
abbrev s_within : Stmt := top 20
def d_within : DefP := ⟨fun K => He.ga K "within", "within", "within", s_within⟩
abbrev s_allows : Stmt := top 21
def d_allows : DefP := ⟨fun K => He.ga K "allows", "allows", "allows", s_allows⟩
abbrev s_inorder : Stmt := top 22
def d_inorder : DefP := ⟨fun K => He.ga K "in_order", "in_order", "in_order", s_inorder⟩
abbrev s_greatest : Stmt := top 23
def d_greatest : DefP := ⟨fun K => He.ga K "greatest_groups", "greatest_groups", "greatest_groups", s_greatest⟩
abbrev s_gatesI : Stmt := inClass (top 24) 0
def d_gatesI : DefP := ⟨fun K => He.ma K (He.ga K "Gates") "__init__", "__init__", "Gates.__init__", s_gatesI⟩
abbrev s_groundI : Stmt := inClass (top 25) 0
def d_groundI : DefP := ⟨fun K => He.ma K (He.ga K "Ground") "__init__", "__init__", "Ground.__init__", s_groundI⟩
abbrev s_capG : Stmt := inClass (top 25) 1
def d_capG : DefP := ⟨fun K => getA K "Ground" "capacity", "capacity", "Ground.capacity", s_capG⟩
abbrev s_placeof : Stmt := inClass (top 25) 7
def d_placeof : DefP := ⟨fun K => He.ma K (He.ga K "Ground") "place_of", "place_of", "Ground.place_of", s_placeof⟩
abbrev s_turns : Stmt := inClass (top 25) 8
def d_turns : DefP := ⟨fun K => He.ma K (He.ga K "Ground") "turns", "turns", "Ground.turns", s_turns⟩
abbrev s_turnof : Stmt := inClass (top 25) 9
def d_turnof : DefP := ⟨fun K => He.ma K (He.ga K "Ground") "turn_of", "turn_of", "Ground.turn_of", s_turnof⟩
abbrev s_standI : Stmt := inClass (top 28) 0
def d_standI : DefP := ⟨fun K => He.ma K (He.ga K "Standing") "__init__", "__init__", "Standing.__init__", s_standI⟩
abbrev s_standEq : Stmt := inClass (top 28) 1
def d_standEq : DefP := ⟨fun K => He.ma K (He.ga K "Standing") "__eq__", "__eq__", "Standing.__eq__", s_standEq⟩
abbrev s_standLe : Stmt := inClass (top 28) 2
def d_standLe : DefP := ⟨fun K => He.ma K (He.ga K "Standing") "__le__", "__le__", "Standing.__le__", s_standLe⟩
abbrev s_served : Stmt := top 29
def d_served : DefP := ⟨fun K => He.ga K "served", "served", "served", s_served⟩
abbrev s_dried : Stmt := top 30
def d_dried : DefP := ⟨fun K => He.ga K "dried_plot", "dried_plot", "dried_plot", s_dried⟩
abbrev s_weathered : Stmt := top 31
def d_weathered : DefP := ⟨fun K => He.ga K "weathered", "weathered", "weathered", s_weathered⟩
abbrev s_fieldI : Stmt := inClass (top 32) 0
def d_fieldI : DefP := ⟨fun K => He.ma K (He.ga K "Field") "__init__", "__init__", "Field.__init__", s_fieldI⟩
abbrev s_fits : Stmt := inClass (top 32) 3
def d_fits : DefP := ⟨fun K => He.ma K (He.ga K "Field") "fits", "fits", "Field.fits", s_fits⟩
abbrev s_watered : Stmt := inClass (top 32) 9
def d_watered : DefP := ⟨fun K => He.ma K (He.ga K "Field") "watered", "watered", "Field.watered", s_watered⟩
abbrev s_wholeday : Stmt := inClass (top 32) 10
def d_wholeday : DefP := ⟨fun K => He.ma K (He.ga K "Field") "whole_day", "whole_day", "Field.whole_day", s_wholeday⟩
abbrev s_run : Stmt := inClass (top 32) 14
def d_run : DefP := ⟨fun K => He.ma K (He.ga K "Field") "run", "run", "Field.run", s_run⟩
abbrev s_dayI : Stmt := inClass (top 36) 0
def d_dayI : DefP := ⟨fun K => He.ma K (He.ga K "Day") "__init__", "__init__", "Day.__init__", s_dayI⟩
abbrev s_weatherI : Stmt := inClass (top 37) 0
def d_weatherI : DefP := ⟨fun K => He.ma K (He.ga K "Weather") "__init__", "__init__", "Weather.__init__", s_weatherI⟩
abbrev s_weatherLen : Stmt := inClass (top 37) 2
def d_weatherLen : DefP := ⟨fun K => He.ma K (He.ga K "Weather") "__len__", "__len__", "Weather.__len__", s_weatherLen⟩
abbrev s_weatherGet : Stmt := inClass (top 37) 3
def d_weatherGet : DefP := ⟨fun K => He.ma K (He.ga K "Weather") "__getitem__", "__getitem__", "Weather.__getitem__", s_weatherGet⟩
abbrev s_lstart : Stmt := top 39
def d_lstart : DefP := ⟨fun K => He.ga K "_law_start", "_law_start", "_law_start", s_lstart⟩
abbrev s_ldraw : Stmt := top 40
def d_ldraw : DefP := ⟨fun K => He.ga K "_law_draw", "_law_draw", "_law_draw", s_ldraw⟩
abbrev s_lday : Stmt := top 41
def d_lday : DefP := ⟨fun K => He.ga K "_law_day", "_law_day", "_law_day", s_lday⟩
abbrev s_lnames : Stmt := top 42
def d_lnames : DefP := ⟨fun K => He.ga K "_law_names", "_law_names", "_law_names", s_lnames⟩
abbrev s_lground : Stmt := top 43
def d_lground : DefP := ⟨fun K => He.ga K "_law_ground", "_law_ground", "_law_ground", s_lground⟩
abbrev s_lweather : Stmt := top 44
def d_lweather : DefP := ⟨fun K => He.ga K "_law_weather", "_law_weather", "_law_weather", s_lweather⟩
abbrev s_lstanding : Stmt := top 45
def d_lstanding : DefP := ⟨fun K => He.ga K "_law_standing", "_law_standing", "_law_standing", s_lstanding⟩
abbrev s_lserved : Stmt := top 46
def d_lserved : DefP := ⟨fun K => He.ga K "_law_served", "_law_served", "_law_served", s_lserved⟩
abbrev s_ldayafter : Stmt := top 47
def d_ldayafter : DefP := ⟨fun K => He.ga K "_law_day_after", "_law_day_after", "_law_day_after", s_ldayafter⟩
abbrev s_lrun : Stmt := top 48
def d_lrun : DefP := ⟨fun K => He.ga K "_law_run", "_law_run", "_law_run", s_lrun⟩
abbrev s_lfuller : Stmt := top 49
def d_lfuller : DefP := ⟨fun K => He.ga K "_law_fuller", "_law_fuller", "_law_fuller", s_lfuller⟩
abbrev s_lchoices : Stmt := top 50
def d_lchoices : DefP := ⟨fun K => He.ga K "_law_choices", "_law_choices", "_law_choices", s_lchoices⟩
abbrev s_lwalk : Stmt := top 51
def d_lwalk : DefP := ⟨fun K => He.ga K "_law_walk", "_law_walk", "_law_walk", s_lwalk⟩
abbrev s_lrunholds : Stmt := top 52
def d_lrunholds : DefP := ⟨fun K => He.ga K "_law_run_holds", "_law_run_holds", "_law_run_holds", s_lrunholds⟩
abbrev s_law : Stmt := top 53
def d_law : DefP := ⟨fun K => He.ga K "law", "law", "law", s_law⟩
def fnl : List DefP := [d_isname, d_chkname, d_isint, d_chknum, d_plotI, d_within, d_allows, d_inorder, d_greatest, d_gatesI, d_groundI, d_capG, d_placeof, d_turns, d_turnof, d_standI, d_standEq, d_standLe, d_served, d_dried, d_weathered, d_fieldI, d_fits, d_watered, d_wholeday, d_run, d_dayI, d_weatherI, d_weatherLen, d_weatherGet, d_lstart, d_ldraw, d_lday, d_lnames, d_lground, d_lweather, d_lstanding, d_lserved, d_ldayafter, d_lrun, d_lfuller, d_lchoices, d_lwalk, d_lrunholds, d_law]
/-! ### the facts -/
def fal : List He.Fa := [.glo "is_name",
  .glo "check_name",
  .glo "is_integer",
  .glo "check_number",
  .glo "within",
  .glo "allows",
  .glo "in_order",
  .glo "greatest_groups",
  .meth "Ground" "place_of",
  .meth "Ground" "turns",
  .meth "Ground" "turn_of",
  .meth "Standing" "__eq__",
  .meth "Standing" "__le__",
  .glo "served",
  .glo "dried_plot",
  .glo "weathered",
  .meth "Field" "fits",
  .meth "Field" "watered",
  .meth "Field" "whole_day",
  .meth "Field" "run",
  .meth "Weather" "__len__",
  .meth "Weather" "__getitem__",
  .glo "_law_start",
  .glo "_law_draw",
  .glo "_law_day",
  .glo "_law_names",
  .glo "_law_ground",
  .glo "_law_weather",
  .glo "_law_standing",
  .glo "_law_served",
  .glo "_law_day_after",
  .glo "_law_run",
  .glo "_law_fuller",
  .glo "_law_choices",
  .glo "_law_walk",
  .glo "_law_run_holds",
  .glo "law",
  .glo "Plot",
  .cls "Plot",
  .mkr "Plot",
  .noat "Plot" "name",
  .noat "Plot" "hold",
  .noat "Plot" "drink",
  .glo "Gates",
  .cls "Gates",
  .mkr "Gates",
  .noat "Gates" "groups",
  .glo "Ground",
  .cls "Ground",
  .mkr "Ground",
  .noat "Ground" "plots",
  .noat "Ground" "names",
  .noat "Ground" "gates",
  .noat "Ground" "reserve",
  .glo "Standing",
  .cls "Standing",
  .mkr "Standing",
  .noat "Standing" "levels",
  .noat "Standing" "tank",
  .noat "Standing" "mood",
  .glo "Field",
  .cls "Field",
  .mkr "Field",
  .noat "Field" "ground",
  .noat "Field" "weather",
  .noat "Field" "amount",
  .noat "Field" "bottom",
  .noat "Field" "turn_list",
  .glo "Day",
  .cls "Day",
  .mkr "Day",
  .noat "Day" "dry",
  .noat "Day" "rain",
  .noat "Day" "fill",
  .noat "Day" "mood",
  .glo "Weather",
  .cls "Weather",
  .mkr "Weather",
  .noat "Weather" "width",
  .noat "Weather" "moods",
  .free "len",
  .free "isinstance",
  .free "str",
  .free "int",
  .free "bool",
  .free "tuple",
  .free "sorted",
  .free "range",
  .free "enumerate",
  .free "min",
  .free "max",
  .free "abs",
  .free "list",
  .free "zip",
  .free "super",
  .int "MOST_PLOTS" 4,
  .int "MOST_UNITS_ground" 8,
  .int "MOST_UNITS_weather" 8,
  .int "MOST_STANDINGS" 6000,
  .str "LETTERS" "abcdefghijklmnopqrstuvwxyz",
  .glo "PLACES",
  .glo "DriedOut"]
/-- what the walks lean on -/
structure Txt (K : PySem.W.Frag) (mg : Str → Option Value) : Prop where
  f_isname : ∃ fd, FnD K d_isname fd
  f_chkname : ∃ fd, FnD K d_chkname fd
  f_isint : ∃ fd, FnD K d_isint fd
  f_chknum : ∃ fd, FnD K d_chknum fd
  f_plotI : ∃ fd, FnD K d_plotI fd
  f_within : ∃ fd, FnD K d_within fd
  f_allows : ∃ fd, FnD K d_allows fd
  f_inorder : ∃ fd, FnD K d_inorder fd
  f_greatest : ∃ fd, FnD K d_greatest fd
  f_gatesI : ∃ fd, FnD K d_gatesI fd
  f_groundI : ∃ fd, FnD K d_groundI fd
  f_capG : ∃ fd, FnD K d_capG fd
  f_placeof : ∃ fd, FnD K d_placeof fd
  f_turns : ∃ fd, FnD K d_turns fd
  f_turnof : ∃ fd, FnD K d_turnof fd
  f_standI : ∃ fd, FnD K d_standI fd
  f_standEq : ∃ fd, FnD K d_standEq fd
  f_standLe : ∃ fd, FnD K d_standLe fd
  f_served : ∃ fd, FnD K d_served fd
  f_dried : ∃ fd, FnD K d_dried fd
  f_weathered : ∃ fd, FnD K d_weathered fd
  f_fieldI : ∃ fd, FnD K d_fieldI fd
  f_fits : ∃ fd, FnD K d_fits fd
  f_watered : ∃ fd, FnD K d_watered fd
  f_wholeday : ∃ fd, FnD K d_wholeday fd
  f_run : ∃ fd, FnD K d_run fd
  f_dayI : ∃ fd, FnD K d_dayI fd
  f_weatherI : ∃ fd, FnD K d_weatherI fd
  f_weatherLen : ∃ fd, FnD K d_weatherLen fd
  f_weatherGet : ∃ fd, FnD K d_weatherGet fd
  f_lstart : ∃ fd, FnD K d_lstart fd
  f_ldraw : ∃ fd, FnD K d_ldraw fd
  f_lday : ∃ fd, FnD K d_lday fd
  f_lnames : ∃ fd, FnD K d_lnames fd
  f_lground : ∃ fd, FnD K d_lground fd
  f_lweather : ∃ fd, FnD K d_lweather fd
  f_lstanding : ∃ fd, FnD K d_lstanding fd
  f_lserved : ∃ fd, FnD K d_lserved fd
  f_ldayafter : ∃ fd, FnD K d_ldayafter fd
  f_lrun : ∃ fd, FnD K d_lrun fd
  f_lfuller : ∃ fd, FnD K d_lfuller fd
  f_lchoices : ∃ fd, FnD K d_lchoices fd
  f_lwalk : ∃ fd, FnD K d_lwalk fd
  f_lrunholds : ∃ fd, FnD K d_lrunholds fd
  f_law : ∃ fd, FnD K d_law fd
  g_isname : mg "is_name" = some (.ref (He.ga K "is_name"))
  g_chkname : mg "check_name" = some (.ref (He.ga K "check_name"))
  g_isint : mg "is_integer" = some (.ref (He.ga K "is_integer"))
  g_chknum : mg "check_number" = some (.ref (He.ga K "check_number"))
  g_within : mg "within" = some (.ref (He.ga K "within"))
  g_allows : mg "allows" = some (.ref (He.ga K "allows"))
  g_inorder : mg "in_order" = some (.ref (He.ga K "in_order"))
  g_greatest : mg "greatest_groups" = some (.ref (He.ga K "greatest_groups"))
  m_placeof : Meth K (He.ga K "Ground") "place_of" (He.ma K (He.ga K "Ground") "place_of")
  m_turns : Meth K (He.ga K "Ground") "turns" (He.ma K (He.ga K "Ground") "turns")
  m_turnof : Meth K (He.ga K "Ground") "turn_of" (He.ma K (He.ga K "Ground") "turn_of")
  m_standEq : Meth K (He.ga K "Standing") "__eq__" (He.ma K (He.ga K "Standing") "__eq__")
  m_standLe : Meth K (He.ga K "Standing") "__le__" (He.ma K (He.ga K "Standing") "__le__")
  g_served : mg "served" = some (.ref (He.ga K "served"))
  g_dried : mg "dried_plot" = some (.ref (He.ga K "dried_plot"))
  g_weathered : mg "weathered" = some (.ref (He.ga K "weathered"))
  m_fits : Meth K (He.ga K "Field") "fits" (He.ma K (He.ga K "Field") "fits")
  m_watered : Meth K (He.ga K "Field") "watered" (He.ma K (He.ga K "Field") "watered")
  m_wholeday : Meth K (He.ga K "Field") "whole_day" (He.ma K (He.ga K "Field") "whole_day")
  m_run : Meth K (He.ga K "Field") "run" (He.ma K (He.ga K "Field") "run")
  m_weatherLen : Meth K (He.ga K "Weather") "__len__" (He.ma K (He.ga K "Weather") "__len__")
  m_weatherGet : Meth K (He.ga K "Weather") "__getitem__" (He.ma K (He.ga K "Weather") "__getitem__")
  g_lstart : mg "_law_start" = some (.ref (He.ga K "_law_start"))
  g_ldraw : mg "_law_draw" = some (.ref (He.ga K "_law_draw"))
  g_lday : mg "_law_day" = some (.ref (He.ga K "_law_day"))
  g_lnames : mg "_law_names" = some (.ref (He.ga K "_law_names"))
  g_lground : mg "_law_ground" = some (.ref (He.ga K "_law_ground"))
  g_lweather : mg "_law_weather" = some (.ref (He.ga K "_law_weather"))
  g_lstanding : mg "_law_standing" = some (.ref (He.ga K "_law_standing"))
  g_lserved : mg "_law_served" = some (.ref (He.ga K "_law_served"))
  g_ldayafter : mg "_law_day_after" = some (.ref (He.ga K "_law_day_after"))
  g_lrun : mg "_law_run" = some (.ref (He.ga K "_law_run"))
  g_lfuller : mg "_law_fuller" = some (.ref (He.ga K "_law_fuller"))
  g_lchoices : mg "_law_choices" = some (.ref (He.ga K "_law_choices"))
  g_lwalk : mg "_law_walk" = some (.ref (He.ga K "_law_walk"))
  g_lrunholds : mg "_law_run_holds" = some (.ref (He.ga K "_law_run_holds"))
  g_law : mg "law" = some (.ref (He.ga K "law"))
  gc_Plot : mg "Plot" = some (.ref (He.ga K "Plot"))
  c_Plot : Cls K (He.ga K "Plot")
  mk_Plot : Mk K (He.ga K "Plot") (He.ma K (He.ga K "Plot") "__init__")
  n_Plot_name : NoAttr K (He.ga K "Plot") "name"
  n_Plot_hold : NoAttr K (He.ga K "Plot") "hold"
  n_Plot_drink : NoAttr K (He.ga K "Plot") "drink"
  gc_Gates : mg "Gates" = some (.ref (He.ga K "Gates"))
  c_Gates : Cls K (He.ga K "Gates")
  mk_Gates : Mk K (He.ga K "Gates") (He.ma K (He.ga K "Gates") "__init__")
  n_Gates_groups : NoAttr K (He.ga K "Gates") "groups"
  gc_Ground : mg "Ground" = some (.ref (He.ga K "Ground"))
  c_Ground : Cls K (He.ga K "Ground")
  mk_Ground : Mk K (He.ga K "Ground") (He.ma K (He.ga K "Ground") "__init__")
  n_Ground_plots : NoAttr K (He.ga K "Ground") "plots"
  n_Ground_names : NoAttr K (He.ga K "Ground") "names"
  n_Ground_gates : NoAttr K (He.ga K "Ground") "gates"
  n_Ground_reserve : NoAttr K (He.ga K "Ground") "reserve"
  gc_Standing : mg "Standing" = some (.ref (He.ga K "Standing"))
  c_Standing : Cls K (He.ga K "Standing")
  mk_Standing : Mk K (He.ga K "Standing") (He.ma K (He.ga K "Standing") "__init__")
  n_Standing_levels : NoAttr K (He.ga K "Standing") "levels"
  n_Standing_tank : NoAttr K (He.ga K "Standing") "tank"
  n_Standing_mood : NoAttr K (He.ga K "Standing") "mood"
  gc_Field : mg "Field" = some (.ref (He.ga K "Field"))
  c_Field : Cls K (He.ga K "Field")
  mk_Field : Mk K (He.ga K "Field") (He.ma K (He.ga K "Field") "__init__")
  n_Field_ground : NoAttr K (He.ga K "Field") "ground"
  n_Field_weather : NoAttr K (He.ga K "Field") "weather"
  n_Field_amount : NoAttr K (He.ga K "Field") "amount"
  n_Field_bottom : NoAttr K (He.ga K "Field") "bottom"
  n_Field_turn_list : NoAttr K (He.ga K "Field") "turn_list"
  gc_Day : mg "Day" = some (.ref (He.ga K "Day"))
  c_Day : Cls K (He.ga K "Day")
  mk_Day : Mk K (He.ga K "Day") (He.ma K (He.ga K "Day") "__init__")
  n_Day_dry : NoAttr K (He.ga K "Day") "dry"
  n_Day_rain : NoAttr K (He.ga K "Day") "rain"
  n_Day_fill : NoAttr K (He.ga K "Day") "fill"
  n_Day_mood : NoAttr K (He.ga K "Day") "mood"
  gc_Weather : mg "Weather" = some (.ref (He.ga K "Weather"))
  c_Weather : Cls K (He.ga K "Weather")
  mk_Weather : Mk K (He.ga K "Weather") (He.ma K (He.ga K "Weather") "__init__")
  n_Weather_width : NoAttr K (He.ga K "Weather") "width"
  n_Weather_moods : NoAttr K (He.ga K "Weather") "moods"
  z_len : mg "len" = none
  z_isinstance : mg "isinstance" = none
  z_str : mg "str" = none
  z_int : mg "int" = none
  z_bool : mg "bool" = none
  z_tuple : mg "tuple" = none
  z_sorted : mg "sorted" = none
  z_range : mg "range" = none
  z_enumerate : mg "enumerate" = none
  z_min : mg "min" = none
  z_max : mg "max" = none
  z_abs : mg "abs" = none
  z_list : mg "list" = none
  z_zip : mg "zip" = none
  z_super : mg "super" = none
  i_MOST_PLOTS : ∃ t, mg "MOST_PLOTS" = some (.int 4 t)
  i_MOST_UNITS_ground : ∃ t, mg "MOST_UNITS_ground" = some (.int 8 t)
  i_MOST_UNITS_weather : ∃ t, mg "MOST_UNITS_weather" = some (.int 8 t)
  i_MOST_STANDINGS : ∃ t, mg "MOST_STANDINGS" = some (.int 6000 t)
  s_LETTERS : ∃ t, mg "LETTERS" = some (.str "abcdefghijklmnopqrstuvwxyz" t)
  gc_PLACES : mg "PLACES" = some (.ref (He.ga K "PLACES"))
  gc_DriedOut : mg "DriedOut" = some (.ref (He.ga K "DriedOut"))
  p_cap : PropOf K (He.ga K "Ground") "capacity" (prA K "Ground" "capacity") (getA K "Ground" "capacity")
  places : ∀ H : Hp, SqT K H (He.ga K "PLACES") [.int 1, .int 2, .int 4, .int 8]
  isS : PySem.W.kitOne K (.ref (He.ga K "Standing")) (.ref (He.ga K "Standing")) = some true
  isSs : PySem.W.kitOne K (.ref (He.ga K "Standing")) (.type "str") = some false
  iSc : PySem.W.findIn K (.ref (He.ga K "Standing")) "__class__" = some (some (.builtin "object.__class__"))
  iSn : PySem.W.specialIn K (.builtin "object.__class__") "__get__" = some (some (.builtin "getset_descriptor.__get__"))
  iSt : PySem.W.takesIn K (.builtin "object.__class__") = some true
  iSm : PySem.W.mroIn K (He.ga K "Standing") (.type "object") = some true
  fnGet : PySem.W.fnIn K (He.ma K (He.ga K "Weather") "__getitem__") = true
/-! ### how arguments bind -/
section
variable {K : PySem.W.Frag} {fd : FuncData}
theorem b_isname (F : FnD K d_isname fd) : Binds K fd ["text"] [] := FunD.bindsN F fun _ _ _ _ _ _ us hl => match us, hl with | [_], _ => rfl
theorem b_chkname (F : FnD K d_chkname fd) : Binds K fd ["text"] [] := FunD.bindsN F fun _ _ _ _ _ _ us hl => match us, hl with | [_], _ => rfl
theorem b_isint (F : FnD K d_isint fd) : Binds K fd ["value"] [] := FunD.bindsN F fun _ _ _ _ _ _ us hl => match us, hl with | [_], _ => rfl
theorem b_chknum (F : FnD K d_chknum fd) : Binds K fd ["what", "value", "low", "high"] [] := FunD.bindsN F fun _ _ _ _ _ _ us hl => match us, hl with | [_, _, _, _], _ => rfl
theorem b_plotI (F : FnD K d_plotI fd) : Binds K fd ["self", "name", "hold", "drink"] [] := FunD.bindsN F fun _ _ _ _ _ _ us hl => match us, hl with | [_, _, _, _], _ => rfl
theorem b_within (F : FnD K d_within fd) : Binds K fd ["inner", "outer"] [] := FunD.bindsN F fun _ _ _ _ _ _ us hl => match us, hl with | [_, _], _ => rfl
theorem b_allows (F : FnD K d_allows fd) : Binds K fd ["groups", "turn"] [] := FunD.bindsN F fun _ _ _ _ _ _ us hl => match us, hl with | [_, _], _ => rfl
theorem b_inorder (F : FnD K d_inorder fd) : Binds K fd ["group"] [] := FunD.bindsN F fun _ _ _ _ _ _ us hl => match us, hl with | [_], _ => rfl
theorem b_greatest (F : FnD K d_greatest fd) : Binds K fd ["groups"] [] := FunD.bindsN F fun _ _ _ _ _ _ us hl => match us, hl with | [_], _ => rfl
theorem b_groundI (F : FnD K d_groundI fd) : Binds K fd ["self", "plots", "gates", "tank"] [] := FunD.bindsN F fun _ _ _ _ _ _ us hl => match us, hl with | [_, _, _, _], _ => rfl
theorem b_capG (F : FnD K d_capG fd) : Binds K fd ["self"] [] := FunD.bindsN F fun _ _ _ _ _ _ us hl => match us, hl with | [_], _ => rfl
theorem b_placeof (F : FnD K d_placeof fd) : Binds K fd ["self", "name"] [] := FunD.bindsN F fun _ _ _ _ _ _ us hl => match us, hl with | [_, _], _ => rfl
theorem b_turns (F : FnD K d_turns fd) : Binds K fd ["self"] [] := FunD.bindsN F fun _ _ _ _ _ _ us hl => match us, hl with | [_], _ => rfl
theorem b_turnof (F : FnD K d_turnof fd) : Binds K fd ["self", "names"] [] := FunD.bindsN F fun _ _ _ _ _ _ us hl => match us, hl with | [_, _], _ => rfl
theorem b_standI (F : FnD K d_standI fd) : Binds K fd ["self", "levels", "tank", "mood"] [] := FunD.bindsN F fun _ _ _ _ _ _ us hl => match us, hl with | [_, _, _, _], _ => rfl
theorem b_standEq (F : FnD K d_standEq fd) : Binds K fd ["self", "other"] [] := FunD.bindsN F fun _ _ _ _ _ _ us hl => match us, hl with | [_, _], _ => rfl
theorem b_standLe (F : FnD K d_standLe fd) : Binds K fd ["self", "other"] [] := FunD.bindsN F fun _ _ _ _ _ _ us hl => match us, hl with | [_, _], _ => rfl
theorem b_served (F : FnD K d_served fd) : Binds K fd ["plots", "turn", "levels", "tank"] [] := FunD.bindsN F fun _ _ _ _ _ _ us hl => match us, hl with | [_, _, _, _], _ => rfl
theorem b_dried (F : FnD K d_dried fd) : Binds K fd ["plots", "levels", "day"] [] := FunD.bindsN F fun _ _ _ _ _ _ us hl => match us, hl with | [_, _, _], _ => rfl
theorem b_weathered (F : FnD K d_weathered fd) : Binds K fd ["plots", "size", "levels", "tank", "day"] [] := FunD.bindsN F fun _ _ _ _ _ _ us hl => match us, hl with | [_, _, _, _, _], _ => rfl
theorem b_fieldI (F : FnD K d_fieldI fd) : Binds K fd ["self", "ground", "weather"] [] := FunD.bindsN F fun _ _ _ _ _ _ us hl => match us, hl with | [_, _, _], _ => rfl
theorem b_fits (F : FnD K d_fits fd) : Binds K fd ["self", "standing"] [] := FunD.bindsN F fun _ _ _ _ _ _ us hl => match us, hl with | [_, _], _ => rfl
theorem b_watered (F : FnD K d_watered fd) : Binds K fd ["self", "standing", "turn"] [] := FunD.bindsN F fun _ _ _ _ _ _ us hl => match us, hl with | [_, _, _], _ => rfl
theorem b_wholeday (F : FnD K d_wholeday fd) : Binds K fd ["self", "standing", "turn", "day", "at"] [] := FunD.bindsN F fun _ _ _ _ _ _ us hl => match us, hl with | [_, _, _, _, _], _ => rfl
theorem b_dayI (F : FnD K d_dayI fd) : Binds K fd ["self", "dry", "rain", "fill", "mood"] [] := FunD.bindsN F fun _ _ _ _ _ _ us hl => match us, hl with | [_, _, _, _, _], _ => rfl
theorem b_weatherLen (F : FnD K d_weatherLen fd) : Binds K fd ["self"] [] := FunD.bindsN F fun _ _ _ _ _ _ us hl => match us, hl with | [_], _ => rfl
theorem b_weatherGet (F : FnD K d_weatherGet fd) : Binds K fd ["self", "at"] [] := FunD.bindsN F fun _ _ _ _ _ _ us hl => match us, hl with | [_, _], _ => rfl
theorem b_lstart (F : FnD K d_lstart fd) : Binds K fd ["_law_script"] [] := FunD.bindsN F fun _ _ _ _ _ _ us hl => match us, hl with | [_], _ => rfl
theorem b_ldraw (F : FnD K d_ldraw fd) : Binds K fd ["_law_script", "_law_state", "_law_limit"] [] := FunD.bindsN F fun _ _ _ _ _ _ us hl => match us, hl with | [_, _, _], _ => rfl
theorem b_lday (F : FnD K d_lday fd) : Binds K fd ["_law_script", "_law_state", "_law_many", "_law_most", "_law_moods"] [] := FunD.bindsN F fun _ _ _ _ _ _ us hl => match us, hl with | [_, _, _, _, _], _ => rfl
theorem b_lnames (F : FnD K d_lnames fd) : Binds K fd ["_law_script", "_law_state", "_law_many"] [] := FunD.bindsN F fun _ _ _ _ _ _ us hl => match us, hl with | [_, _, _], _ => rfl
theorem b_lground (F : FnD K d_lground fd) : Binds K fd ["_law_script", "_law_state", "_law_most_plots", "_law_most_hold", "_law_most_tank"] [] := FunD.bindsN F fun _ _ _ _ _ _ us hl => match us, hl with | [_, _, _, _, _], _ => rfl
theorem b_lweather (F : FnD K d_lweather fd) : Binds K fd ["_law_script", "_law_state", "_law_many", "_law_most_moods", "_law_most_days", "_law_most"] [] := FunD.bindsN F fun _ _ _ _ _ _ us hl => match us, hl with | [_, _, _, _, _, _], _ => rfl
theorem b_lstanding (F : FnD K d_lstanding fd) : Binds K fd ["_law_script", "_law_state", "_law_field"] [] := FunD.bindsN F fun _ _ _ _ _ _ us hl => match us, hl with | [_, _, _], _ => rfl
theorem b_lserved (F : FnD K d_lserved fd) : Binds K fd ["_law_plots", "_law_turn", "_law_levels", "_law_tank"] [] := FunD.bindsN F fun _ _ _ _ _ _ us hl => match us, hl with | [_, _, _, _], _ => rfl
theorem b_ldayafter (F : FnD K d_ldayafter fd) : Binds K fd ["_law_ground_here", "_law_size", "_law_standing_here", "_law_turn", "_law_day_here"] [] := FunD.bindsN F fun _ _ _ _ _ _ us hl => match us, hl with | [_, _, _, _, _], _ => rfl
theorem b_lrun (F : FnD K d_lrun fd) : Binds K fd ["_law_field", "_law_standing_here", "_law_turns", "_law_days", "_law_rows"] [] := FunD.bindsN F fun _ _ _ _ _ _ us hl => match us, hl with | [_, _, _, _, _], _ => rfl
theorem b_lfuller (F : FnD K d_lfuller fd) : Binds K fd ["_law_script", "_law_state", "_law_field", "_law_start_here"] [] := FunD.bindsN F fun _ _ _ _ _ _ us hl => match us, hl with | [_, _, _, _], _ => rfl
theorem b_lchoices (F : FnD K d_lchoices fd) : Binds K fd ["_law_script", "_law_state", "_law_field", "_law_mood"] [] := FunD.bindsN F fun _ _ _ _ _ _ us hl => match us, hl with | [_, _, _, _], _ => rfl
theorem b_lwalk (F : FnD K d_lwalk fd) : Binds K fd ["_law_field", "_law_now", "_law_turns", "_law_days"] [] := FunD.bindsN F fun _ _ _ _ _ _ us hl => match us, hl with | [_, _, _, _], _ => rfl
theorem b_lrunholds (F : FnD K d_lrunholds fd) : Binds K fd ["_law_field", "_law_begin", "_law_turns", "_law_days", "_law_due", "_law_end"] [] := FunD.bindsN F fun _ _ _ _ _ _ us hl => match us, hl with | [_, _, _, _, _, _], _ => rfl
theorem b_law (F : FnD K d_law fd) : Binds K fd ["_law_script"] [] := FunD.bindsN F fun _ _ _ _ _ _ us hl => match us, hl with | [_], _ => rfl
end
end K17


set_option maxHeartbeats 0
/-! K17Z1: the head's facts, their Hook -/
namespace K17
open PySem PySem.Spec PyProof.Rows L2
abbrev sDr : Stmt := inClass (top 8) 0
abbrev CD (K : PySem.W.Frag) : Addr := He.ga K "DriedOut"
abbrev ID (K : PySem.W.Frag) : Addr := He.ma K (He.ga K "DriedOut") "__init__"
def ccOf (K : PySem.W.Frag) : Addr := match K.lookup (ID K) with
  | some ⟨_, _, .func fd, _⟩ => (match fd.closure with
    | [(_, c)] => c
    | _ => 0)
  | _ => 0
def cdOf (K : PySem.W.Frag) : Addr := match K.lookup (ID K) with
  | some ⟨_, _, .func fd, _⟩ => (match fd.code with
    | .ref a => a
    | _ => 0)
  | _ => 0
def fnQ (K : PySem.W.Frag) : He.FnW := match K.lookup (ID K) with
  | some ⟨_, _, .func fd, _⟩ => some (fd.name, fd.qualname, fd.params, fd.body, fd.scope, fd.globals, [], fd.builtins)
  | _ => none
def fnQval : He.FnW := some (("__init__" : Str), ("DriedOut.__init__" : Str), defArgs sDr, FuncBody.stmts (defBody sDr), defScope sDr, mainGlobals, [], builtinsNs)
def fnQB (K : PySem.W.Frag) : Bool := match K.lookup (ID K) with
  | some ⟨_, _, .func fd, _⟩ => decide (fd.closure = [(("__class__" : Str), ccOf K)]) && (decide (fd.defaults = .none) && (decide (fd.kwdefaults = .none) && decide (fd.code = .ref (cdOf K))))
  | _ => false
def fileB (K : PySem.W.Frag) : Bool := match K.lookup (cdOf K) with
  | some ⟨_, _, .fields vs, _⟩ => (match vs[2]? with
    | some (Value.str file _) => ((prog.main.file : Str) == file)
    | _ => false)
  | _ => false
def cellB (K : PySem.W.Frag) : Bool := match K.lookup (ccOf K) with
  | some ⟨_, _, .cell (some v), _⟩ => decide (v = .ref (CD K))
  | _ => false
def clsB (K : PySem.W.Frag) (C : Addr) : Bool := match K.lookup C with
  | some ⟨.type t, _, .cls cd, sl⟩ => (match cd.mro, sl.toList with
    | .ref C' :: bm, [_, _, _, _, some (.builtin n), _] => decide (t = "type") && (decide (C' = C) && (decide (n = "ValueError.__new__") && (!cd.hasDel && (cd.hasDict && PySem.HandSPX.refsVE bm))))
    | _, _ => false)
  | _ => false
theorem clsB_ok {K : PySem.W.Frag} {C : Addr} (q : clsB K C = true) : ∃ nm qn N bs bm sn sub ab col dd k0 k1 k2 k3 k5, K.lookup C = some (excClassObj nm qn C N bs bm true sn sub ab col dd k0 k1 k2 k3 k5 "ValueError.__new__") ∧ PySem.HandSPX.refsVE bm = true := by
  unfold clsB at q
  split at q
  · rename_i t dd cd sl ho
    split at q
    · rename_i C' bm k0 k1 k2 k3 n k5 hm hs
      obtain ⟨q1, q⟩ := He.ba q
      obtain ⟨q2, q⟩ := He.ba q
      obtain ⟨q3, q⟩ := He.ba q
      obtain ⟨q4, q⟩ := He.ba q
      obtain ⟨q5, q6⟩ := He.ba q
      have e1 := of_decide_eq_true q1
      have e2 := of_decide_eq_true q2
      have e3 := of_decide_eq_true q3
      subst e1 e2 e3
      obtain ⟨nm, bs, mro, ns, qn, hd, sn, sub, ab, col, del⟩ := cd
      dsimp only at hm q4 q5
      have hdel : del = false := by simpa using q4
      subst hm hdel q5
      have hsl : sl = #[k0, k1, k2, k3, some (.builtin "ValueError.__new__"), k5] := by
        obtain ⟨l⟩ := sl
        simp only at hs
        rw [hs]
      subst hsl
      exact ⟨nm, qn, ns, bs, bm, sn, sub, ab, col, dd, k0, k1, k2, k3, k5, ho, q6⟩
    · cases q
  · cases q
def recB (K : PySem.W.Frag) (p g : Addr) : Bool := match PySem.W.recIn K p "property" with
  | some (.ref g' :: _) => decide (g' = g)
  | _ => false
theorem recB_ok {K : PySem.W.Frag} {p g : Addr} (h : recB K p g = true) : ∃ rest, PySem.W.recIn K p "property" = some (.ref g :: rest) := by
  unfold recB at h
  split at h
  · rename_i g' r e
    have e2 := of_decide_eq_true h
    subst e2
    exact ⟨r, e⟩
  · cases h
/-- further facts -/
inductive Ex where
  | prop | propG | propT | propR | places | isS | isSs | iSc | iSn | iSt | iSm | fnGet
  | cls | sa | ga | gg | noP | noD | iC | tC | kC | exC | vE | tyC | hdC | te | sup | mroC | opq | fnB | code | file | cell | nostop
def Ex.ok (K : PySem.W.Frag) : Ex → Bool
  | .prop => He.eqO (PySem.W.findIn K (.ref (He.ga K "Ground")) "capacity") (some (some (.ref (prA K "Ground" "capacity"))))
  | .propG => He.eqO (PySem.W.specialIn K (.ref (prA K "Ground" "capacity")) "__get__") (some (some (.builtin "property.__get__")))
  | .propT => decide (PySem.W.takesIn K (.ref (prA K "Ground" "capacity")) = some true)
  | .propR => recB K (prA K "Ground" "capacity") (getA K "Ground" "capacity")
  | .places => He.tupB K "PLACES" [.int 1, .int 2, .int 4, .int 8]
  | .isS => decide (PySem.W.kitOne K (.ref (He.ga K "Standing")) (.ref (He.ga K "Standing")) = some true)
  | .isSs => decide (PySem.W.kitOne K (.ref (He.ga K "Standing")) (.type "str") = some false)
  | .iSc => He.eqO (PySem.W.findIn K (.ref (He.ga K "Standing")) "__class__") (some (some (.builtin "object.__class__")))
  | .iSn => He.eqO (PySem.W.specialIn K (.builtin "object.__class__") "__get__") (some (some (.builtin "getset_descriptor.__get__")))
  | .iSt => decide (PySem.W.takesIn K (.builtin "object.__class__") = some true)
  | .iSm => decide (PySem.W.mroIn K (He.ga K "Standing") (.type "object") = some true)
  | .fnGet => PySem.W.fnIn K (He.ma K (He.ga K "Weather") "__getitem__")
  | .cls => clsB K (CD K)
  | .sa => He.eqO (PySem.W.findIn K (.ref (CD K)) "__setattr__") (some (some (.builtin "object.__setattr__")))
  | .ga => He.eqO (PySem.W.findIn K (.ref (CD K)) "__getattribute__") (some (some (.builtin "BaseException.__getattribute__")))
  | .gg => He.eqO (PySem.W.findIn K (.ref (CD K)) "__getattr__") (some none)
  | .noP => He.eqO (PySem.W.findIn K (.ref (CD K)) "plot") (some none)
  | .noD => He.eqO (PySem.W.findIn K (.ref (CD K)) "day") (some none)
  | .iC => He.eqO (PySem.W.findIn K (.ref (CD K)) "__init__") (some (some (.ref (ID K))))
  | .tC => decide (PySem.W.typeIn K (.ref (ID K)) = some (.type "function"))
  | .kC => PySem.W.keepIn K (.ref (CD K))
  | .exC => decide (PySem.W.subIn K (.ref (CD K)) (.type "BaseException") = some true)
  | .vE => decide (PySem.W.subIn K (.ref (CD K)) (.type "ValueError") = some true)
  | .tyC => decide (PySem.W.typeIn K (.ref (CD K)) = some (.type "type"))
  | .hdC => PySem.W.hasDictIn K (CD K)
  | .te => decide (PySem.W.exmOne K (.ref (CD K)) (.ref (CD K)) = some true)
  | .sup => He.eqO (PySem.W.ks_superIn K (CD K) (CD K) "__init__") (some (some (.builtin "ValueError.__init__")))
  | .mroC => decide (PySem.W.mroIn K (CD K) (.ref (CD K)) = some true)
  | .opq => He.eqO (PySem.W.nsIn K cStatics "thirdparty.any") (some none)
  | .fnB => fnQB K
  | .code => PySem.W.codeIn K (.ref (cdOf K)) "DriedOut.__init__"
  | .file => fileB K
  | .cell => cellB K
  | .nostop => decide (PySem.W.subIn K (.ref (CD K)) (.type "StopIteration") = some false)
def exl : List Ex := [.prop, .propG, .propT, .propR, .places, .isS, .isSs, .iSc, .iSn, .iSt, .iSm, .fnGet, .cls, .sa, .ga, .gg, .noP, .noD, .iC, .tC, .kC, .exC, .vE, .tyC, .hdC, .te, .sup, .mroC, .opq, .fnB, .code, .file, .cell, .nostop]
/-! ### the Hook -/
def asP (g : Addr → Option Obj) : Nat → List Addr
  | 0 => [mainGlobals, cStatics]
  | n + 1 => He.growD g (asP g n)
abbrev AlP : Type := Bool × List He.FnW
def obsP (K : PySem.W.Frag) : AlP := ((fal.all fun f => f.ok K) && ((fnl.all fun d => d.ok K) && exl.all fun e => e.ok K), fnQ K :: fnl.map fun d => fnP K (d.at_ K))
def valP : AlP := (true, fnQval :: fnl.map DefP.val)
def Says (K : PySem.W.Frag) : Prop := obsP K = valP
def obsPG (n : Nat) (g : Addr → Option Obj) : AlP := obsP (He.frG g (asP g n))
def hookP (n : Nat) : PySem.W.Hook where
  α := AlP
  obs := fun s => obsPG n s.heap.get?
  val := fun _ => valP
  says := fun _ h => ∃ K : PySem.W.Frag, K.In h ∧ Says K
  of := fun _ _ e => ⟨_, He.frG_in, e⟩
  keeps := fun _ _ _ ⟨K, hK, c⟩ k => ⟨K, PySem.W.Frag.In.keeps hK k, c⟩
theorem obsPG_eq {n : Nat} {g : Addr → Option Obj} {s : Shared} (h : ∀ a, g a = s.heap.get? a) : obsPG n g = (hookP n).obs s := by
  have e : g = s.heap.get? := funext h
  rw [e] <;> rfl
section
variable {K : PySem.W.Frag}
theorem Says.all (c : Says K) : (fal.all fun f => f.ok K) = true ∧ (fnl.all fun d => d.ok K) = true ∧ (exl.all fun e => e.ok K) = true := by
  obtain ⟨c1, c2⟩ := He.ba (show ((fal.all fun f => f.ok K) && ((fnl.all fun d => d.ok K) && exl.all fun e => e.ok K)) = true from congrArg (fun z : AlP => z.1) c)
  obtain ⟨c2, c3⟩ := He.ba c2
  exact ⟨c1, c2, c3⟩
theorem Says.fact (c : Says K) (i : Nat) {f : He.Fa} (h : fal[i]? = some f := by rfl) : f.ok K = true := List.all_eq_true.mp c.all.1 f (List.mem_of_getElem? h)
theorem Says.ex (c : Says K) (i : Nat) {e : Ex} (h : exl[i]? = some e := by rfl) : e.ok K = true := List.all_eq_true.mp c.all.2.2 e (List.mem_of_getElem? h)
theorem Says.fns (c : Says K) : fnQ K = fnQval ∧ fnl.map (fun d => fnP K (d.at_ K)) = fnl.map DefP.val := by
  have e : fnQ K :: fnl.map (fun d => fnP K (d.at_ K)) = fnQval :: fnl.map DefP.val := congrArg (fun z : AlP => z.2) c
  exact ⟨(List.cons.inj e).1, (List.cons.inj e).2⟩
theorem Says.def_ (c : Says K) (i : Nat) {d : DefP} (h : fnl[i]? = some d := by rfl) : ∃ fd, FnD K d fd := by
  have e2 : (fnl.map fun d => fnP K (d.at_ K))[i]? = (fnl.map DefP.val)[i]? := by rw [c.fns.2]
  rw [List.getElem?_map, List.getElem?_map, h] at e2
  exact DefP.funD (Option.some.inj e2) (List.all_eq_true.mp c.all.2.1 d (List.mem_of_getElem? h))
end
end K17


set_option maxHeartbeats 0
/-! K17END: the run, the law -/
namespace K17
open PySem PySem.Spec PyProof.Rows L2
abbrev RR0 : PySem.W.OpenRow := PySem.W.OpenLaw.row PySem.Challenge.rw_waterbyturns_k17_whole_runs_of_two_stand
abbrev hk : PySem.W.Hook := hookP 5
def ob (s : PySem.W.SharedT) : AlP := obsPG 5 (HandSHeadRun.getT s)
theorem ob_eq (s : PySem.W.SharedT) : ob s = hk.obs s.abs := obsPG_eq (HandSHeadRun.getT_eq s)
def loose : List PySem.Str := (["_wall", "WaterError", "BadName", "BadNumber", "BadTurn", "BadStanding", "TooMany", "DriedOut", "LETTERS", "is_name", "check_name", "is_integer", "check_number", "MOST_PLOTS", "MOST_UNITS_ground", "PLACES", "Plot", "within", "allows", "in_order", "greatest_groups", "Gates", "Ground"] : List PySem.Str) ++ (["MOST_STANDINGS", "Standing", "served", "dried_plot", "weathered", "Field", "MOST_UNITS_weather", "at_least", "Day", "Weather", "_law_start", "_law_draw", "_law_day", "_law_names", "_law_ground", "_law_weather", "_law_standing", "_law_served", "_law_day_after", "_law_run", "_law_fuller", "_law_choices", "_law_walk", "_law_run_holds"] : List PySem.Str)
theorem run (w : World) : HandSHeadRun.RunEq RR0 (PySem.W.view RR0.prog [53]) hk ob 20000 loose w := by
  intro os
  kernel_rfl
end K17


set_option maxHeartbeats 4000000
/-! K17B: promises by position, short rules -/
namespace K17
open PySem PySem.Spec PyProof.Rows L2
/-- the def keeps the promise sp -/
structure Ok (P : Program) (w : World) (K : PySem.W.Frag) (mg : Str → Option Value) (base : Heap) (CX : CXT) (k : Nat) (d : DefP) (sp : Sp) : Prop where
  run : FnR P w K mg base CX k (d.at_ K) sp
  kp : PySem.W.keepIn K (.ref (d.at_ K)) = true
section
variable {P : Program} {w : World} {K : PySem.W.Frag} {mg : Str → Option Value} {base : Heap} {CX : CXT} {k : Nat} {d : DefP} {sp : Sp}
theorem mkOkX {N ps : List Str} (F : ∃ fd, FnD K d fd) (hb : ∀ {fd}, FnD K d fd → Binds K fd ps []) (S : FnScope N ps d.scope) (len : ∀ vs H Q E, sp vs H Q E → vs.length = ps.length)
    (hbody : ∀ (cdv : Value) (A : Around) (outer : List Env) (s : Shared) (H : Hp) (vs : List V) (Q : VK) (E : XK), Room k (A.deeper (envOfC d.qual d.scope s.heap.objs.size (d.at_ K) cdv)) → sp vs H Q E →
      ∃ t, PSs (cxOf CX P w K mg base N d.qual d.scope (d.at_ K) cdv A outer s H E) d.body t ∧ t { nx := fun _ H' => Q .non H', rt := Q } (start N vs) H) : Ok P w K mg base CX (k + 1) d sp := by
  obtain ⟨fd, F⟩ := F
  have G : FnOk P w K mg base CX (k + 1) (d.at_ K) fd ps sp := F.ok S len hbody
  refine ⟨(G.raw (hb F) .nil).imp fun vs H Q E h => ?_, F.kp⟩
  rw [List.append_nil]
  exact h
theorem mkOk {N ps : List Str} (F : ∃ fd, FnD K d fd) (hb : ∀ {fd}, FnD K d fd → Binds K fd ps []) (S : FnScope N ps d.scope) (len : ∀ vs H Q E, sp vs H Q E → vs.length = ps.length)
    (hbody : ∀ (cdv : Value) (A : Around) (outer : List Env) (s : Shared) (H : Hp) (vs : List V) (Q : VK) (E : XK), Room k (A.deeper (envOfC d.qual d.scope s.heap.objs.size (d.at_ K) cdv)) → sp vs H Q E →
      ∃ t, PSs (cxOf CX0 P w K mg base N d.qual d.scope (d.at_ K) cdv A outer s H E).nox d.body t ∧ t { nx := fun _ H' => Q .non H', rt := Q } (start N vs) H) : Ok P w K mg base CX0 (k + 1) d sp :=
  mkOkX F hb S len fun cdv A outer s H vs Q E hr h => by
    obtain ⟨t, a, b⟩ := hbody cdv A outer s H vs Q E hr h
    exact ⟨t, a.nox, b⟩
theorem Ok.mono {j : Nat} (G : Ok P w K mg base CX j d sp) (h : j ≤ k) : Ok P w K mg base CX k d sp := ⟨G.run.mono h, G.kp⟩
end
/-! ### calls -/
section
variable {X : Cx} {CX : CXT} {k : Nat} {d : DefP} {sp : Sp} {E : XK} {x m : Str} {C : Addr} {p pos apos : Pos} {e o : Expr} {es : List Expr} {ta : TE} {t : TA}
def tCallR (sp : Sp) (E : XK) (t : TA) : TE := fun σ H Q => t σ H fun vs H1 => sp vs H1 Q E
/-- f(e, ..) -/
theorem pe_f (G : Ok X.prog X.w X.K X.mg X.base CX k d sp) (hm : X.mg x = some (.ref (d.at_ X.K))) (hr : Room k X.A) (hx : Passes CX X E) (ha : PA X (e :: es) t) (hg : Gl X x := by rfl)
    (hdb : (x == ("__debug__" : Str)) = false := by decide) (he : starEach (e :: es) X.env = (false, eval e X.env) :: starEach es X.env := by rfl) (hpl : (backTo pos (starEach es X.env)).any (·.1) = false := by rfl) :
    PE X (.Call (.Name x p) (e :: es) [] pos) (tCallR sp E t) := by
  refine ⟨fun pins s σ H Q I h => ?_⟩
  refine wpAny_Call_Name_kw (ld_glob I hg hm ?_ hdb)
  refine PySem.W.callWith_K (h₀ := X.base) I.ok.mod.kin G.kp (thn (ha.run pos pins s σ H _ I h) fun us s1 ⟨vs, H1, I1, r, q⟩ => ⟨I1.kIn, ?_⟩) he hpl
  exact wpAny_call (run_fnR G.run hr hx I1 r q)
/-- o.m(e, ..) -/
theorem pe_m {pl : Sem Bool} (he : PE X o ta) (c : Cls X.K C) (hm : Meth X.K C m (d.at_ X.K)) (G : Ok X.prog X.w X.K X.mg X.base CX k d sp) (hr : Room k X.A) (hx : Passes CX X E) (ha : PA X (e :: es) t)
    (hst : starEach (e :: es) X.env = (false, eval e X.env) :: starEach es X.env := by rfl) (hpl : (backTo pos (starEach es X.env)).any (·.1) = false := by rfl)
    (ht : eval (.Call (.Attribute o m apos) (e :: es) [] pos) X.env = (do
      let ov ← eval o X.env
      standAt apos.atName
      let (f, first) ← holding [ov] (getMethod ov m pl)
      callWith pos f first (backTo pos (starEach (e :: es) X.env)) (backToKw pos (keywordEach [] X.env))) := by rfl) :
    PE X (.Call (.Attribute o m apos) (e :: es) [] pos) (tMethR C m sp E ta t) := pe_methR he c hm G.run hr hx ha hst hpl ht
/-- o.m() -/
theorem pe_m0 {pl : Sem Bool} (he : PE X o ta) (c : Cls X.K C) (hm : Meth X.K C m (d.at_ X.K)) (G : Ok X.prog X.w X.K X.mg X.base CX k d sp) (hr : Room k X.A) (hx : Passes CX X E)
    (ht : eval (.Call (.Attribute o m apos) [] [] pos) X.env = (do
      let ov ← eval o X.env
      standAt apos.atName
      let (f, first) ← holding [ov] (getMethod ov m pl)
      callWith pos f first (backTo pos (starEach [] X.env)) (backToKw pos (keywordEach [] X.env))) := by rfl) :
    PE X (.Call (.Attribute o m apos) [] [] pos) (tMethR C m sp E ta tNil) := by
  refine ⟨fun pins s σ H Q I h => ?_⟩
  refine PySem.W.methodCall_KW (pl := pl) (thn (he.run pins s σ H _ I h) fun u s1 ⟨x, H1, I1, rx, a, dx, fs, ex, ea, l, q⟩ => ?_) ht
  subst ex
  obtain rfl : u = Value.ref a := rx
  refine getmeth_ok I1 ea c hm l ?_
  exact PySem.W.callWith_K0 (first := [.ref a]) I1.kIn hm.kp (wpAny_call (run_fnR (us := [.ref a]) (vs := [.ref a]) G.run hr hx I1 (.cons rfl .nil) q))
/-- C(e, ..) -/
theorem pe_mk (M : Mk X.K C (d.at_ X.K)) (G : Ok X.prog X.w X.K X.mg X.base CX k d sp) (hm : X.mg x = some (.ref C)) (hr : Room (k + 1) X.A) (hx : Passes CX X E) (ha : PA X (e :: es) t) (hg : Gl X x := by rfl) (hdb : (x == ("__debug__" : Str)) = false := by decide)
    (he : starEach (e :: es) X.env = (false, eval e X.env) :: starEach es X.env := by rfl) (hpl : (backTo pos (starEach es X.env)).any (·.1) = false := by rfl) : PE X (.Call (.Name x p) (e :: es) [] pos) (StX.tMakeR C sp E t) :=
  StX.pe_makeR M G.run hr hg hm hx ha hdb he hpl
/-- f(e, ..), a built-in, a built-in class -/
theorem pe_b {id : String} {r : List V → Hp → VK → Prop} (hc : CallR X (.builtin id) r) (hm : X.mg x = none) (ha : PA X (e :: es) t) (hv : bootBuiltins x = some (.builtin id) := by decide +kernel) (hg : Gl X x := by rfl) (hn : x ≠ "__name__" := by decide) (hdb : (x == ("__debug__" : Str)) = false := by decide)
    (he : starEach (e :: es) X.env = (false, eval e X.env) :: starEach es X.env := by rfl) (hpl : (backTo pos (starEach es X.env)).any (·.1) = false := by rfl) : PE X (.Call (.Name x p) (e :: es) [] pos) (tCB r t) := pe_callB hc hg hm hv ha hn hdb he hpl
theorem pe_ty {T : String} {r : List V → Hp → VK → Prop} (hc : CallR X (.type T) r) (hm : X.mg x = none) (ha : PA X (e :: es) t) (hv : bootBuiltins x = some (.type T) := by decide +kernel) (hg : Gl X x := by rfl) (hn : x ≠ "__name__" := by decide) (hdb : (x == ("__debug__" : Str)) = false := by decide)
    (he : starEach (e :: es) X.env = (false, eval e X.env) :: starEach es X.env := by rfl) (hpl : (backTo pos (starEach es X.env)).any (·.1) = false := by rfl) : PE X (.Call (.Name x p) (e :: es) [] pos) (tCB r t) := pe_callTy hc hg hm hv ha hn hdb he hpl
end
end K17


set_option maxHeartbeats 4000000
/-! K17C: enumerate of a tuple -/
namespace PySem
open Sem (wp)
set_option maxHeartbeats 4000000 in
/-- enumerate(v), whatever iter(v) does -/
theorem meets_enumerate_new1 (v : Value) :
    Meets (Builtin.«enumerate.__new__» ⟨[.type "enumerate", v], []⟩) (fun _ R s => ∃ (it : Addr) (h1 : Heap), (∀ (prog : Program) (w : World) (A : Around) (E : Value → Shared → Prop) (Q : Value → Shared → Prop), Q (.ref it) { s with heap := h1 } → wpAny (model prog w) A (pyIter v) Q E s) ∧
      R (.ok (.ret (.ref h1.objs.size))) { s with heap := h1.push { cls := .type "enumerate", data := .fields #[.none, .bool false, .ref it, rawInt 0, .none, .none] } }) :=
  .of_wp fun prog w A R s h => by
    obtain ⟨hp, g, d, tk, os⟩ := s
    obtain ⟨it, h1, h1q, h⟩ := h
    have hsub := sub_enumerate
    have q1 : ∀ {A' : Around} {E : Value → Shared → Prop} {Q : Value → Shared → Prop}, Q (.ref it) ⟨h1, g, d, tk, os⟩ → wpAny (model prog w) A' (pyIter v) Q E ⟨hp, g, d, tk, os⟩ := fun {A' E Q} q => h1q prog w A' E Q q
    wp_walk using q1
    refine wpAny_stack_any fun st => wpAny_pure ?_
    split
    · rename_i c _ _ _ _ _
      cases (c == Value.type "enumerate")
      · wp_walk using q1
        exact ⟨_, rfl, h⟩
      · wp_walk using q1
        exact ⟨_, rfl, h⟩
    · wp_walk using q1
      exact ⟨_, rfl, h⟩
section
variable {prog : Program} {w : World} {A : Around} {E : Value → Shared → Prop} {s : Shared}
theorem call_enum_any {v : Value} {it : Addr} {h1 : Heap} {Q : Value → Shared → Prop} (q1 : ∀ (prog : Program) (w : World) (A : Around) (E : Value → Shared → Prop) (Q : Value → Shared → Prop), Q (.ref it) { s with heap := h1 } → wpAny (model prog w) A (pyIter v) Q E s)
    (h : IsEnum (h1.push { cls := .type "enumerate", data := .fields #[.none, .bool false, .ref it, rawInt 0, .none, .none] }) h1.objs.size it 0 .none →
      Q (.ref h1.objs.size) { s with heap := h1.push { cls := .type "enumerate", data := .fields #[.none, .bool false, .ref it, rawInt 0, .none, .none] } }) :
    wpAny (model prog w) A (call (.type "enumerate") [v]) Q E s := by
  have he : IsEnum (h1.push { cls := .type "enumerate", data := .fields #[.none, .bool false, .ref it, rawInt 0, .none, .none] }) h1.objs.size it 0 .none := Heap.get?_push_size h1 rfl
  exact callType_new F.called_enumerate (by decide) (F.typeCall_enumerate_1 _) (F.newCall_enumerate_1 _) (fun obj => F.args_object_init_2 obj _) F.entry_enumerate_new
    (meets_enumerate_new1 v) ⟨it, h1, q1, ⟨_, he, rfl⟩, h he⟩
end

section
variable {prog : Program} {w : World} {A : Around} {E : Value → Shared → Prop} {s : Shared}
/-- enumerate's next, whatever next of the inner iterator does: it gives x, leaving h1 (R), the enumerate's record as it was -/
theorem enum_next_gen {e it : Addr} {c : Int} {old : Value} {R : Value → Heap → Prop} {Q : Value → Shared → Prop} (he : IsEnum s.heap e it c old)
    (hd : ∀ (Q' : Value → Shared → Prop), (∀ x h1 tk, R x h1 → IsEnum h1 e it c old → Q' x { s with heap := h1, toks := tk }) → wpAny (model prog w) A (Builtin.SmallTypes.nextOf (.ref it)) Q' E s)
    (hQ : ∀ x h1 h' tk, R x h1 → IsEnumOut h' e it (c + 1) x h1.objs.size → h'.get? h1.objs.size = some { cls := .type "tuple", data := .seq #[.int c tk, x] } → h'.objs.size = h1.objs.size + 1 →
      (∀ b o, b ≠ e → h1.get? b = some o → h'.get? b = some o) → Q (.ref h1.objs.size) { s with heap := h', toks := tk + 1 }) :
    wpAny (model prog w) A (Builtin.«enumerate.__next__» ⟨[.ref e], []⟩) (fun fin s' => ∃ v, fin = .done (.ret v) ∧ Q v s') E s := by
  obtain ⟨hp, g, d, tk₀, os⟩ := s
  show wpAny _ _ (field (.ref e) 2 >>= _) _ _ _
  refine wpAny_bind (wpAny_field he rfl (x := .ref it) rfl ?_)
  refine wpAny_bind (hd _ fun x h₁ tk hR he₁ => ?_)
  show wpAny _ _ (field (.ref e) 3 >>= _) _ _ ⟨h₁, g, d, tk, os⟩
  refine wpAny_bind (wpAny_field he₁ rfl (x := rawInt c) rfl ?_)
  show wpAny _ _ (field (.ref e) 4 >>= _) _ _ ⟨h₁, g, d, tk, os⟩
  refine wpAny_bind (wpAny_field he₁ rfl (x := .none) rfl ?_)
  show wpAny _ _ (mkInt c >>= _) _ _ ⟨h₁, g, d, tk, os⟩
  refine wpAny_bind (wpAny_mkInt ?_)
  show wpAny _ _ (setField (.ref e) 3 (rawInt (c + 1)) >>= _) _ _ ⟨h₁, g, d, tk + 1, os⟩
  refine wpAny_bind (wpAny_setField_rec he₁ (by simp) fun h₂ he₂ hs₂ => ?_)
  replace hs₂ : Heap.SameBut e h₁ h₂ := hs₂
  replace he₂ : IsEnum h₂ e it (c + 1) old := he₂
  show wpAny _ _ (setField (.ref e) 4 .none >>= _) _ _ ⟨h₂, g, d, tk + 1, os⟩
  refine wpAny_bind (wpAny_setField_rec he₂ (by simp) fun h₃ he₃ hs₃ => ?_)
  replace hs₃ : Heap.SameBut e h₂ h₃ := hs₃
  replace he₃ : IsEnum h₃ e it (c + 1) old := he₃
  show wpAny _ _ (newTuple [.int c tk, x] >>= _) _ _ ⟨h₃, g, d, tk + 1, os⟩
  refine wpAny_bind (wpAny_newTuple ?_)
  have he₄ : IsEnum (h₃.push { cls := .type "tuple", data := .seq #[.int c tk, x] }) e it (c + 1) old := Heap.get?_push_of_some _ he₃
  generalize hh₄ : h₃.push { cls := .type "tuple", data := .seq #[.int c tk, x] } = h₄ at he₄
  have hsz : h₃.objs.size = h₁.objs.size := by rw [hs₃.1, hs₂.1]
  have hel : e < h₁.objs.size := Heap.lt_size he₁
  have ht₄ : h₄.get? h₁.objs.size = some { cls := .type "tuple", data := .seq #[.int c tk, x] } := by rw [← hh₄, ← hsz]; exact Heap.get?_push_size _ rfl
  have hz₄ : h₄.objs.size = h₁.objs.size + 1 := by rw [← hh₄, Heap.size_push, hsz]
  have hk₄ : ∀ b o, b ≠ e → h₁.get? b = some o → h₄.get? b = some o := fun b o hbe hb => by
    rw [← hh₄]; exact Heap.get?_push_of_some _ (hs₃.extBut b o hbe (hs₂.extBut b o hbe hb))
  show wpAny _ _ (Builtin.SmallTypes.ownedTupleIsFree (.ref e) >>= _) _ _ ⟨h₄, g, d, tk + 1, os⟩
  rw [hsz]
  clear hh₄ he₃ hs₃ he₂ hs₂ hsz h₃ h₂
  refine wpAny_bind ?_
  · unfold Builtin.SmallTypes.ownedTupleIsFree
    refine wpAny_bind (wpAny_field he₄ rfl (x := .none) rfl (wpAny_pure ?_))
    simp only [if_true]
    refine wpAny_bind (wpAny_rule ?_)
    refine wpAny_bind (wpAny_field he₄ rfl (x := old) rfl ?_)
    refine wpAny_bind (wpAny_setField_rec he₄ (by simp) fun h₅ he₅ hs₅ => ?_)
    replace hs₅ : Heap.SameBut e h₄ h₅ := hs₅
    replace he₅ : IsEnum h₅ e it (c + 1) x := he₅
    show wpAny _ _ (Builtin.SmallTypes.ownedTupleHandOut (.ref e) (.ref h₁.objs.size) >>= _) _ _ ⟨h₅, g, d, tk + 1, os⟩
    refine wpAny_bind ?_
    · unfold Builtin.SmallTypes.ownedTupleHandOut
      refine wpAny_bind (wpAny_setField_rec he₅ (by simp) fun h₆ he₆ hs₆ => ?_)
      replace hs₆ : Heap.SameBut e h₅ h₆ := hs₆
      replace he₆ : IsEnumOut h₆ e it (c + 1) x h₁.objs.size := he₆
      refine wpAny_setField_rec he₆ (by simp) fun h₇ he₇ hs₇ => ?_
      replace hs₇ : Heap.SameBut e h₆ h₇ := hs₇
      replace he₇ : IsEnumOut h₇ e it (c + 1) x h₁.objs.size := he₇
      refine wpAny_bind (wpAny_letGo (wpAny_pure ⟨_, rfl, hQ x h₁ h₇ tk hR he₇ ?_ ?_ ?_⟩))
      · exact hs₇.extBut _ _ (Nat.ne_of_gt hel) (hs₆.extBut _ _ (Nat.ne_of_gt hel) (hs₅.extBut _ _ (Nat.ne_of_gt hel) ht₄))
      · rw [hs₇.1, hs₆.1, hs₅.1, hz₄]
      · exact fun b o hbe hb => hs₇.extBut b o hbe (hs₆.extBut b o hbe (hs₅.extBut b o hbe (hk₄ b o hbe hb)))
theorem pyNext_enum_gen {e it : Addr} {c : Int} {old : Value} {R : Value → Heap → Prop} {Q : Option Value → Shared → Prop} (he : IsEnum s.heap e it c old)
    (hd : ∀ (E' : Value → Shared → Prop) (Q' : Value → Shared → Prop), (∀ x h1 tk, R x h1 → IsEnum h1 e it c old → Q' x { s with heap := h1, toks := tk }) → wpAny (model prog w) A.in1 (Builtin.SmallTypes.nextOf (.ref it)) Q' E' s)
    (hQ : ∀ x h1 h' tk, R x h1 → IsEnumOut h' e it (c + 1) x h1.objs.size → h'.get? h1.objs.size = some { cls := .type "tuple", data := .seq #[.int c tk, x] } → h'.objs.size = h1.objs.size + 1 →
      (∀ b o, b ≠ e → h1.get? b = some o → h'.get? b = some o) → Q (some (.ref h1.objs.size)) { s with heap := h', toks := tk + 1 }) :
    wpAny (model prog w) A (pyNext (.ref e)) Q E s := by
  have hT : s.TypeIs (.ref e) "enumerate" := ⟨_, he, rfl⟩
  unfold pyNext
  exact wpAny_bind (wpAny_attempt (wpAny_callSpecial?_slot (name := Str.ofString "__next__") hT F.slot_enumerate_next
    (wpAny_call_entry F.slot_enumerate_next hT F.entry_enumerate_next
      (enum_next_gen he (fun Q' q => hd _ Q' q) fun x h1 h' tk a b c d k => wpAny_pure (hQ x h1 h' tk a b c d k)) (F.args_enumerate_next_1 _))))
theorem pyNext_enum_stop {e it : Addr} {c : Int} {old : Value} {R : Heap → Prop} {Q : Option Value → Shared → Prop} (he : IsEnum s.heap e it c old)
    (hd : ∀ (Q' : Value → Shared → Prop) (E' : Value → Shared → Prop), (∀ x h', R h' → (∃ o, h'.get? x = some o ∧ o.cls = .type "StopIteration") → E' (.ref x) { s with heap := h' }) → wpAny (model prog w) A.in1 (Builtin.SmallTypes.nextOf (.ref it)) Q' E' s)
    (hQ : ∀ h', R h' → Q none { s with heap := h' }) : wpAny (model prog w) A (pyNext (.ref e)) Q E s := by
  have hT : s.TypeIs (.ref e) "enumerate" := ⟨_, he, rfl⟩
  unfold pyNext
  refine wpAny_bind (wpAny_attempt (wpAny_callSpecial?_slot (name := Str.ofString "__next__") hT F.slot_enumerate_next
    (wpAny_call_entry F.slot_enumerate_next hT F.entry_enumerate_next ?_ (F.args_enumerate_next_1 _))))
  show wpAny _ _ (field (.ref e) 2 >>= _) _ _ _
  refine wpAny_bind (wpAny_field he rfl (x := .ref it) rfl ?_)
  refine wpAny_bind (hd _ _ fun x h' he' hx' => ?_)
  obtain ⟨o, ho, hc⟩ := hx'
  refine wpAny_bind (wpAny_isInstance (T := "StopIteration") (b := true) ⟨o, ho, hc⟩ isSubtype_stop ?_)
  exact wpAny_pure (hQ _ he')
end
end PySem
namespace L2
open PySem PySem.Spec PyProof.Rows
/-- the tuple at a, each item in a new pair -/
def IteT (K : PySem.W.Frag) (a : Addr) : It :=
  ⟨fun i H => ∃ (xs : List V) (x : V), SqT K H a xs ∧ xs[i]? = some x, fun i H v H' => ∃ T x, v = .ref T ∧ H T = none ∧ H' = upd H T (.tup [.int (i : Nat), x]) ∧ ∀ xs, SqT K H a xs → xs[i]? = some x, fun i H => ∃ xs : List V, SqT K H a xs ∧ xs.length ≤ i⟩
theorem turn_enumT {P : Program} {w : World} {K : PySem.W.Frag} {elts : List Expr} {kk : Nat} {tpos : Pos} (a e it : Addr) :
    Turn P w K (.Tuple elts kk tpos) (IteT K a) [e, it] e (fun i h => (∃ old, IsEnum h e it ((i : Nat) : Int) old) ∧ h.IsTupleIter it a i ∧ e ≠ it ∧ a ≠ it ∧ a ≠ e) where
  mem := by simp
  obj := fun i h st b hb => by
    obtain ⟨⟨old, he⟩, ⟨o, ho, hc, hd⟩, _⟩ := st
    have e' : b = e ∨ b = it := by simpa using hb
    rcases e' with z | z
    · rw [z]; exact ⟨_, he, fun v q => nomatch q⟩
    · rw [z]; exact ⟨o, ho, fun v q => by rw [hd] at q; cases q⟩
  keep := fun i h h' st k => let ⟨⟨old, he⟩, hi, hne⟩ := st; ⟨⟨old, k e (by simp) _ he⟩, hi.at fun o q => k it (by simp) o q, hne⟩
  item := by
    intro X hP hw hK hc i pins s σ H E I hf st hg
    subst hP hw hK
    obtain ⟨⟨old, he⟩, hit, hne, hai, hae⟩ := st
    obtain ⟨xs, x, hq, hx⟩ := hg
    obtain ⟨its, rv, p, hz⟩ := I.tuple hq
    obtain ⟨u, hu, ru⟩ := rv.get hx
    have hel : e < s.heap.objs.size := Heap.lt_size he
    have hil : it < s.heap.objs.size := by obtain ⟨_, q, _⟩ := hit; exact Heap.lt_size q
    have hilt : i < its.toArray.size := by
      have := (List.getElem?_eq_some_iff.mp hu).1
      simpa using this
    refine wpAny_pyNext_enum_itemC (Draws.tuple (A := X.A.in1) (show X.A.in1.handled = none from I.ok.hd hc) it a hai its.toArray) he ⟨hit, p⟩ hilt hne (by simp [hne, Ne.symm hae]) fun x' h' tk hx' ho hst' hT hsz hk => ?_
    have ex : x' = u := by
      have hx2 : its[i]? = some x' := by simpa using hx'
      rw [hu] at hx2
      exact (Option.some.inj hx2).symm
    subst ex
    refine ⟨_, rfl, wpAny_letOwnedTupleGo_enum (s := { s with heap := h', toks := tk + 1 }) ho fun h'' he' sb => ?_⟩
    have hT2 : h''.get? s.heap.objs.size = some { cls := .type "tuple", data := .seq #[.int i tk, x'] } := (sb.2 _ (Nat.ne_of_gt hel)).trans hT
    have new : ObjOk X.prog X.w (upd H s.heap.objs.size (.tup [.int (i : Nat), x])) h'' s.heap.objs.size (.tup [.int (i : Nat), x]) :=
      ⟨by show 2 ≤ sizeLine; decide, [.int i tk, x'], .cons ⟨_, rfl⟩ (.cons ru .nil), ⟨_, hT2, rfl, _, rfl⟩⟩
    have I1 : Inv X pins σ (upd H s.heap.objs.size (.tup [.int (i : Nat), x])) { s with heap := h'', toks := tk + 1 } :=
      I.turnedNew (ch := [e, it]) (fun b ob hb q => (sb.2 b (fun z => hb (by simp [z]))).trans (hk b ob (fun z => hb (by simp [z])) (fun z => hb (by simp [z])) q)) hf (Nat.le_refl _) new
    refine ⟨.ref s.heap.objs.size, _, I1, rfl, ⟨_, x, rfl, I.hok.fresh (Nat.le_refl _), rfl, fun ys hy => by rw [I.tuple_inj hy hq]; exact hx⟩, ⟨⟨x', ?_⟩, hst'.1.at fun o q => (sb.2 it (Ne.symm hne)).trans q, hne, hai, hae⟩, fun b hb => ?_⟩
    · have e1 : ((i + 1 : Nat) : Int) = (i : Int) + 1 := by omega
      rw [e1]; exact he'
    · have hb' : b < s.heap.objs.size := by
        have e' : b = e ∨ b = it := by simpa using hb
        rcases e' with z | z
        · rw [z]; exact hel
        · rw [z]; exact hil
      rw [upd_ne (Nat.ne_of_lt hb')]
      exact (hf b hb).1
  done := by
    intro X hP hw hK hc i pins s σ H E I hf st hg
    subst hP hw hK
    obtain ⟨⟨old, he⟩, hit, hne, hai, hae⟩ := st
    obtain ⟨xs, hq, hx⟩ := hg
    obtain ⟨its, rv, p, hz⟩ := I.tuple hq
    have l1 := rv.length
    exact pyNext_enum_stop (R := fun h' => Heap.ExtBut it s.heap h') he (fun Q' E' q => wpAny_nextOf_tuple_end (show X.A.in1.handled = none from I.ok.hd hc) hit p (by simp; omega) fun h' x a b => q x h' a b) fun h' eb => ⟨rfl, I.turnedL (t' := s.toks) (ch := [e, it]) (fun b o hb q => eb b o (fun z => hb (by simp [z])) q) hf⟩
  self := fun A i s Q E st h => let ⟨⟨_, he⟩, _⟩ := st; wpAny_pyIter_enum he h
def iEnumT (K : PySem.W.Frag) (ta : TA) : TI := fun σ H R => ta σ H fun vs H1 => ∃ a xs, vs = [.ref a] ∧ SqT K H1 a xs ∧ R (IteT K a) H1
theorem pi_enumT {X : Cx} {e : Expr} {ta : TA} {p pos tpos : Pos} {elts : List Expr} {kk : Nat} (hm : X.mg "enumerate" = none) (ha : PA X [e] ta) (hg : Gl X "enumerate" := by rfl) (hs : starEach [e] X.env = [(false, eval e X.env)] := by rfl) :
    PI X (.Tuple elts kk tpos) (.Call (.Name "enumerate" p) [e] [] pos) (iEnumT X.K ta) := by
  refine ⟨fun pins s σ H R I h => ?_⟩
  refine Call_ (ld_blt I hg hm boot_enumerate (PyProof.Rows.callWith_type1 (thn (ha.run pos pins s σ H _ I h) fun us s1 ⟨vs, H1, I1, r1, q1⟩ => ?_) hs rfl))
  obtain ⟨a, xs, ex, hq, q⟩ := q1
  subst ex
  cases r1 with
  | cons r rr =>
    cases rr
    cases r
    obtain ⟨its, rv, p', hz⟩ := I1.tuple hq
    refine call_enum_any (it := s1.heap.objs.size) (h1 := s1.heap.push { cls := .type "tuple_iterator", data := .fields #[.ref a, .int 0 0] }) (fun prog w A E Q q => wpAny_pyIter_tuple p' q) fun he => wpAny_pyIter_enum he ?_
    have hz1 : (s1.heap.push { cls := .type "tuple_iterator", data := .fields #[.ref a, .int 0 0] }).objs.size = s1.heap.objs.size + 1 := Heap.size_push ..
    rw [hz1] at he ⊢
    have la : a < s1.heap.objs.size := p'.lt
    have I2 := I1.kept (t' := s1.toks) (h' := (s1.heap.push { cls := .type "tuple_iterator", data := .fields #[.ref a, .int 0 0] }).push { cls := .type "enumerate", data := .fields #[.none, .bool false, .ref s1.heap.objs.size, rawInt 0, .none, .none] })
      fun b o q => Heap.get?_push_of_some _ (Heap.get?_push_of_some _ q)
    refine ⟨s1.heap.objs.size + 1, [s1.heap.objs.size + 1, s1.heap.objs.size], _, _, H1, rfl, I2, turn_enumT a (s1.heap.objs.size + 1) s1.heap.objs.size, ⟨⟨.none, he⟩, ⟨_, Heap.get?_push_of_some _ (Heap.get?_push_size _ rfl), rfl, rfl⟩, Nat.succ_ne_self _, Nat.ne_of_lt la, Nat.ne_of_lt (Nat.lt_succ_of_lt la)⟩, fun b hb => ?_, q⟩
    have e' : b = s1.heap.objs.size + 1 ∨ b = s1.heap.objs.size := by simpa using hb
    have hle : s1.heap.objs.size ≤ b := by
      rcases e' with z | z
      · rw [z]; exact Nat.le_add_right _ _
      · rw [z]; exact Nat.le_refl _
    exact I1.fpOk hle (I1.hok.fresh hle)
theorem walk_enumT {K : PySem.W.Frag} {a : Addr} {xs : List V} : Walk (IteT K a) xs.length (fun H => SqT K H a xs) (YPair (fun i => some (.int (i : Nat))) (fun i => xs[i]?)) := by
  refine ⟨fun i _ hi q => ⟨xs, xs[i], q, by simp [hi]⟩, fun _ q => ⟨xs, q, Nat.le_refl _⟩, fun i H v H' _ q y => ?_⟩
  obtain ⟨T, x, h1, h2, h3, h4⟩ := y
  exact ⟨T, .int (i : Nat), x, h1, h2, h3, rfl, h4 xs q⟩
end L2


set_option maxHeartbeats 4000000
/-! K17D: own __len__, __getitem__, __le__, a property; small heaps -/
namespace K17
open PySem PySem.Spec PyProof.Rows L2
section
variable {X : Cx} {CX : CXT} {k : Nat} {d : DefP} {sp : Sp} {E : XK} {C : Addr} {pins : List (Addr × Obj)} {σ : L2.St} {H : Hp} {s : Shared} {Q : VK}
theorem run_at {A : Around} {us : List Value} {vs : List V} (G : Ok X.prog X.w X.K X.mg X.base CX k d sp) (hr : Room k A) (hfr : A.frames = X.A.frames) (hx : Passes CX X E) (I : Inv X pins σ H s) (r : Vals vs us) (h : sp vs H Q E) :
    wpAny (model X.prog X.w) A (call (.ref (d.at_ X.K)) us) (EP X pins σ Q) X.xe s := by
  have e0 : Env0 X.prog X.w X.K X.mg X.base A X.stack s H := by
    have e := I.env0
    exact ⟨by rw [hfr]; exact e.frames, e.mod, e.bs, e.bsz, e.funs, e.frf, e.hok, e.bare⟩
  refine wpAny_call (codeAny_mono (G.run A X.stack s H us vs Q E hr e0 r h) fun r s' hq => ?_)
  cases r with
  | error e => exact hx pins σ H s e s' I hq
  | ok fl =>
    cases fl with
    | ret u => exact I.after hq
    | next => exact False.elim hq
    | brk => exact False.elim hq
    | cont => exact False.elim hq
/-- len(o), o an instance with an own __len__ -/
def rLenO (C : Addr) (sp : Sp) (E : XK) : List V → Hp → VK → Prop := fun xs H Q => ∃ a dx fs, xs = [.ref a] ∧ H a = some (.ins C dx fs) ∧ sp [.ref a] H (fun v H' => ∃ n : Int, v = .int n ∧ (0 ≤ n ∧ n < 2 ^ 63) ∧ Q (.int n) H') E
theorem call_lenO (hm : Meth X.K C "__len__" (d.at_ X.K)) (G : Ok X.prog X.w X.K X.mg X.base CX k d sp) (hr : Room (k + 1) X.A) (hx : Passes CX X E) : CallR X (.builtin "len") (rLenO C sp E) := by
  intro pins s σ H xs us Q I r h
  obtain ⟨a, dx, fs, rfl, ea, q⟩ := h
  obtain ⟨u, rfl, ru⟩ := vals1 r
  obtain rfl : u = Value.ref a := ru
  obtain ⟨mA, O, _⟩ := ins_get I.hok ea
  obtain ⟨od, J, _⟩ := O.look
  obtain ⟨m, hF⟩ := I.fr
  refine PySem.W.len_K hF I.ok.mod.kin J hm.at_ hm.fn (thn (run_at (vs := [.ref a]) G hr.in1 rfl hx I (.cons rfl .nil) q) fun v s' hv => ?_)
  obtain ⟨x, H', I', rx, n, ex, hn, q'⟩ := hv
  subst ex
  obtain ⟨t, rfl⟩ := rx
  exact ⟨hn, .int n, H', I'.tok _, ⟨_, rfl⟩, q'⟩
/-- o[i], o an instance with an own __getitem__ -/
def tGetO (C : Addr) (sp : Sp) (E : XK) (ta tb : TE) : TE := fun σ H Q => ta σ H fun x H1 => tb σ H1 fun y H2 => ∃ a dx fs, x = .ref a ∧ H2 a = some (.ins C dx fs) ∧ sp [.ref a, y] H2 Q E
theorem pe_getO {a b : Expr} {ta tb : TE} {pos : Pos} (ha : PE X a ta) (hb : PE X b tb) (hm : Meth X.K C "__getitem__" (d.at_ X.K)) (hfn : PySem.W.fnIn X.K (d.at_ X.K) = true) (G : Ok X.prog X.w X.K X.mg X.base CX k d sp) (hr : Room (k + 1) X.A) (hx : Passes CX X E)
    (hsl : ∀ x i, subscripted b true (.ref x) i = runValue (.builtin "lifetime.subscript" ⟨[.ref x, i], []⟩) := by intro _ _; with_unfolding_all rfl) : PE X (.Subscript a b pos) (tGetO C sp E ta tb) := by
  refine ⟨fun pins s σ H Q I h => ?_⟩
  refine Subscript_ (thn (ha.run pins s σ H _ I h) fun v s1 ⟨x, H1, I1, r1, q1⟩ => thn (hb.run pins s1 σ H1 _ I1 q1) fun u s2 ⟨y, H2, I2, r2, q2⟩ => ?_)
  obtain ⟨c, dx, fs, rfl, ea, q⟩ := q2
  obtain rfl : v = Value.ref c := r1
  obtain ⟨mA, O, _⟩ := ins_get I2.hok ea
  obtain ⟨od, J, _⟩ := O.look
  obtain ⟨m, hF⟩ := I2.fr
  exact PySem.W.sub_K hF I2.ok.mod.kin J hm.at_ hfn hm.fn (run_at (vs := [.ref c, y]) G hr.in1 rfl hx I2 (.cons rfl (.cons r2 .nil)) q) (hsl _ _)
/-- a <= b by an own __le__ that answers True or False -/
def rLeO (C : Addr) (sp : Sp) (E : XK) : R2 := fun x y H Q => ∃ a b dx dy fs gs, x = .ref a ∧ y = .ref b ∧ H a = some (.ins C dx fs) ∧ H b = some (.ins C dy gs) ∧ sp [.ref a, .ref b] H (fun v H' => ∃ c, v = .bl c ∧ Q (.bl c) H') E
theorem op_leO (hm : Meth X.K C "__le__" (d.at_ X.K)) (G : Ok X.prog X.w X.K X.mg X.base CX k d sp) (hr : Room k X.A) (hx : Passes CX X E) : OpR X (compareOp .LtE) (rLeO C sp E) := by
  intro pins s σ H x y v u Q I rx ry h
  obtain ⟨a, b, dx, dy, fs, gs, rfl, rfl, ha, hb, q⟩ := h
  obtain rfl : v = Value.ref a := rx
  obtain rfl : u = Value.ref b := ry
  obtain ⟨mA, J, _⟩ := ins_get I.hok ha
  obtain ⟨mB, J', _⟩ := ins_get I.hok hb
  obtain ⟨od, J, _⟩ := J.look
  obtain ⟨od', J', _⟩ := J'.look
  obtain ⟨m, hF⟩ := I.fr
  show wpAny (model X.prog X.w) X.A (richCompare .LtE (.ref a) (.ref b)) (EP X pins σ Q) X.xe s
  refine PySem.W.cmp_K (op := .LtE) (tb := .ref C) hr.units0 hF I.ok.mod.kin J J'.type (by simp [PySem.W.notFirst]) hm.at_ hm.fn (thn (run_at (vs := [.ref a, .ref b]) G hr rfl hx I (.cons rfl (.cons rfl .nil)) q) fun w s' hv => ?_)
  obtain ⟨z, H', I', rz, c, ez, q'⟩ := hv
  subst ez
  obtain rfl : w = Value.bool c := rz
  exact ⟨.bl c, H', I', rfl, q'⟩
/-- o.f, a property -/
theorem pe_pr {p : Addr} {f : Str} {e : Expr} {ta : TE} {pos : Pos} (he : PE X e ta) (c : Cls X.K C) (hp : PropOf X.K C f p (d.at_ X.K)) (G : ∃ fd, FnOk X.prog X.w X.K X.mg X.base CX k (d.at_ X.K) fd ["self"] sp ∧ Binds X.K fd ["self"] []) (hr : Room (k + 1) X.A) (hx : Passes CX X.nox E)
    (hab : attributeBase e f X.env (eval e X.env) = eval e X.env := by rfl) : PE X (.Attribute e f pos) (tProp C sp [] E ta) := by
  obtain ⟨fd, F, b⟩ := G
  exact pe_prop he c hp F hr b .nil hx hab
end
end K17


/-! K17M: the mathematics: plots, days, standings, the walk; plain Lean -/
namespace K17
variable {N : Type} [DecidableEq N]
structure PlotD (N : Type) where
  name : N
  hold : Int
  drink : Int
structure DayD where
  dry : List Int
  rain : List Int
  fill : Int
  mood : Int
structure StD where
  levels : List Int
  tank : Int
  mood : Int
  deriving DecidableEq
structure FieldD (N : Type) where
  plots : List (PlotD N)
  groups : List (List N)
  cap : Int
  moods : List (List DayD)
def FieldD.names (F : FieldD N) : List N := F.plots.map (·.name)
/-! ### all in two lists -/
def All2 {α β : Type} (R : α → β → Prop) (as : List α) (bs : List β) : Prop := as.length = bs.length ∧ ∀ (i : Nat) a b, as[i]? = some a → bs[i]? = some b → R a b
theorem All2.nil {α β : Type} {R : α → β → Prop} : All2 R [] [] := ⟨rfl, fun _ _ _ h => by simp at h⟩
theorem All2.snoc {α β : Type} {R : α → β → Prop} {as : List α} {bs : List β} {a : α} {b : β} (h : All2 R as bs) (r : R a b) : All2 R (as ++ [a]) (bs ++ [b]) := by
  obtain ⟨hl, h⟩ := h
  refine ⟨by simp [hl], fun i x y hx hy => ?_⟩
  by_cases hi : i < as.length
  · rw [List.getElem?_append_left hi] at hx
    rw [List.getElem?_append_left (by omega)] at hy
    exact h i x y hx hy
  · rw [List.getElem?_append_right (by omega)] at hx
    rw [List.getElem?_append_right (by omega)] at hy
    have e : i - as.length = 0 := by
      cases q : i - as.length with
      | zero => rfl
      | succ n => rw [q] at hx; simp at hx
    rw [e] at hx
    rw [show i - bs.length = 0 by omega] at hy
    simp at hx hy
    rw [← hx, ← hy]
    exact r
theorem All2.imp {α β : Type} {R S : α → β → Prop} {as : List α} {bs : List β} (h : All2 R as bs) (f : ∀ a b, R a b → S a b) : All2 S as bs := ⟨h.1, fun i a b ha hb => f a b (h.2 i a b ha hb)⟩
theorem All2.get {α β : Type} {R : α → β → Prop} {as : List α} {bs : List β} {i : Nat} {b : β} (h : All2 R as bs) (hb : bs[i]? = some b) : ∃ a, as[i]? = some a ∧ R a b := by
  have hi : i < bs.length := (List.getElem?_eq_some_iff.mp hb).1
  have hi' : i < as.length := by rw [h.1]; exact hi
  exact ⟨as[i], List.getElem?_eq_getElem hi', h.2 i _ b (List.getElem?_eq_getElem hi') hb⟩
theorem All2.get' {α β : Type} {R : α → β → Prop} {as : List α} {bs : List β} {i : Nat} {a : α} (h : All2 R as bs) (ha : as[i]? = some a) : ∃ b, bs[i]? = some b ∧ R a b := by
  have hi : i < as.length := (List.getElem?_eq_some_iff.mp ha).1
  have hi' : i < bs.length := by rw [← h.1]; exact hi
  exact ⟨bs[i], List.getElem?_eq_getElem hi', h.2 i a _ ha (List.getElem?_eq_getElem hi')⟩
/-! ### lists by places -/
def iv (l : List Int) (i : Nat) : Int := l.getD i 0
theorem iv_get {l : List Int} {i : Nat} (h : i < l.length) : l[i]? = some (iv l i) := by
  unfold iv
  rw [List.getD_eq_getElem?_getD, List.getElem?_eq_getElem h]
  rfl
theorem iv_of {l : List Int} {i : Nat} {x : Int} (h : l[i]? = some x) : iv l i = x := by
  unfold iv
  rw [List.getD_eq_getElem?_getD, h]
  rfl
/-- the first n values of f -/
def tab {α : Type} (f : Nat → α) (n : Nat) : List α := (List.range n).map f
theorem tab_len {α : Type} (f : Nat → α) (n : Nat) : (tab f n).length = n := by simp [tab]
theorem tab_zero {α : Type} (f : Nat → α) : tab f 0 = [] := rfl
theorem tab_succ {α : Type} (f : Nat → α) (n : Nat) : tab f (n + 1) = tab f n ++ [f n] := by simp [tab, List.range_succ]
theorem tab_get {α : Type} {f : Nat → α} {n i : Nat} (h : i < n) : (tab f n)[i]? = some (f i) := by simp [tab, List.getElem?_range h]
theorem tab_iv {f : Nat → Int} {n i : Nat} (h : i < n) : iv (tab f n) i = f i := iv_of (tab_get h)
/-! ### one day -/
variable (F : FieldD N)
/-- the i-th plot -/
def FieldD.plot? (F : FieldD N) (i : Nat) : Option (PlotD N) := F.plots[i]?
def holdAt (ps : List (PlotD N)) (i : Nat) : Int := match ps[i]? with
  | some p => p.hold
  | none => 0
def gv (p : PlotD N) (turn : List N) (l t : Int) : Int := if p.name ∈ turn then min (min p.drink (p.hold - l)) t else 0
def gvAt (ps : List (PlotD N)) (turn : List N) (ls : List Int) (i : Nat) (t : Int) : Int := match ps[i]? with
  | some p => gv p turn (iv ls i) t
  | none => 0
/-- what is left in the tank ahead of plot i -/
def svT (ps : List (PlotD N)) (turn : List N) (ls : List Int) (t : Int) : Nat → Int
  | 0 => t
  | i + 1 => svT ps turn ls t i - gvAt ps turn ls i (svT ps turn ls t i)
/-- plot i's level behind the water -/
def svF (ps : List (PlotD N)) (turn : List N) (ls : List Int) (t : Int) (i : Nat) : Int := iv ls i + gvAt ps turn ls i (svT ps turn ls t i)
/-- the first plot that the day dries out -/
def dryAt (lv : Nat → Int) (dry : List Int) (n : Nat) : Option Nat := (List.range n).find? fun i => decide (lv i < iv dry i)
theorem dryAt_none {lv : Nat → Int} {dry : List Int} {n : Nat} : dryAt lv dry n = none ↔ ∀ i, i < n → iv dry i ≤ lv i := by
  unfold dryAt
  rw [List.find?_eq_none]
  constructor
  · intro h i hi
    have := h i (List.mem_range.mpr hi)
    simp at this
    exact this
  · intro h i hi
    have := h i (List.mem_range.mp hi)
    simp
    exact this
theorem dryAt_some {lv : Nat → Int} {dry : List Int} {n i : Nat} (hi : i < n) (h : lv i < iv dry i) (hb : ∀ j, j < i → iv dry j ≤ lv j) : dryAt lv dry n = some i := by
  unfold dryAt
  rw [List.find?_range_eq_some]
  refine ⟨by simpa using h, by simpa using hi, fun j hj => ?_⟩
  have := hb j hj
  simp
  exact this
/-- a day: the plot that dries out, or the standing behind it -/
def stepD (s : StD) (turn : List N) (d : DayD) : Sum N StD :=
  match dryAt (svF F.plots turn s.levels s.tank) d.dry F.plots.length with
  | some i => match F.plots[i]? with
    | some p => .inl p.name
    | none => .inr s
  | none => .inr ⟨tab (fun i => min (svF F.plots turn s.levels s.tank i - iv d.dry i + iv d.rain i) (holdAt F.plots i)) F.plots.length,
      min (svT F.plots turn s.levels s.tank F.plots.length + d.fill) F.cap, d.mood⟩
/-- the day at place k of the standing's mood -/
def dayAt (s : StD) (k : Nat) : Option DayD := (F.moods[s.mood.toNat]?).bind fun ds => ds[k]?
/-- the walk: the standings behind the days, and the plot that dries out with its day -/
def walk : StD → List (List N) → List Nat → Nat → List StD × Option (N × Nat)
  | s, t :: ts, d :: ds, k => match dayAt F s d with
    | none => ([], none)
    | some day => match stepD F s t day with
      | .inl nm => ([], some (nm, k))
      | .inr s' => (s' :: (walk s' ts ds (k + 1)).1, (walk s' ts ds (k + 1)).2)
  | _, _, _, _ => ([], none)
/-! ### what fits -/
structure DayOk (n m : Nat) (d : DayD) : Prop where
  dl : d.dry.length = n
  rl : d.rain.length = n
  d0 : ∀ x ∈ d.dry, 0 ≤ x ∧ x ≤ 8
  r0 : ∀ x ∈ d.rain, 0 ≤ x ∧ x ≤ 8
  f0 : 0 ≤ d.fill
  f8 : d.fill ≤ 8
  m0 : 0 ≤ d.mood
  mm : d.mood < (m : Int)
structure FieldOk : Prop where
  n1 : 1 ≤ F.plots.length
  n4 : F.plots.length ≤ 4
  pl : ∀ p ∈ F.plots, 1 ≤ p.hold ∧ p.hold ≤ 8 ∧ 1 ≤ p.drink ∧ p.drink ≤ 8
  nd : (F.plots.map (·.name)).Nodup
  gr : ∀ g ∈ F.groups, ∀ x ∈ g, x ∈ F.plots.map (·.name)
  c0 : 0 ≤ F.cap
  c8 : F.cap ≤ 8
  m1 : 1 ≤ F.moods.length
  m4 : F.moods.length ≤ 4
  d1 : ∀ ds ∈ F.moods, 1 ≤ ds.length ∧ ds.length ≤ 6
  dok : ∀ ds ∈ F.moods, ∀ d ∈ ds, DayOk F.plots.length F.moods.length d
structure StOk (s : StD) : Prop where
  ln : s.levels.length = F.plots.length
  lv : ∀ i, i < F.plots.length → 0 ≤ iv s.levels i ∧ iv s.levels i ≤ holdAt F.plots i
  t0 : 0 ≤ s.tank
  tc : s.tank ≤ F.cap
  m0 : 0 ≤ s.mood
  mm : s.mood < (F.moods.length : Int)
variable {F}
theorem FieldOk.hold {i : Nat} (h : FieldOk F) (hi : i < F.plots.length) : 1 ≤ holdAt F.plots i ∧ holdAt F.plots i ≤ 8 := by
  unfold holdAt
  rw [List.getElem?_eq_getElem hi]
  have := h.pl _ (List.getElem_mem hi)
  exact ⟨this.1, this.2.1⟩
theorem gvAt_some {ps : List (PlotD N)} {turn : List N} {ls : List Int} {i : Nat} {t : Int} {p : PlotD N} (h : ps[i]? = some p) : gvAt ps turn ls i t = gv p turn (iv ls i) t := by
  unfold gvAt
  rw [h]
theorem gvAt_none {ps : List (PlotD N)} {turn : List N} {ls : List Int} {i : Nat} {t : Int} (h : ps[i]? = none) : gvAt ps turn ls i t = 0 := by
  unfold gvAt
  rw [h]
theorem holdAt_some {ps : List (PlotD N)} {i : Nat} {p : PlotD N} (h : ps[i]? = some p) : holdAt ps i = p.hold := by
  unfold holdAt
  rw [h]
/-- the water stays in bounds -/
theorem gv_bounds {p : PlotD N} {turn : List N} {l t : Int} (hd : 1 ≤ p.drink) (hl : l ≤ p.hold) (ht : 0 ≤ t) : 0 ≤ gv p turn l t ∧ gv p turn l t ≤ t ∧ l + gv p turn l t ≤ p.hold := by
  unfold gv
  by_cases c : p.name ∈ turn
  · rw [if_pos c]
    omega
  · rw [if_neg c]
    omega
theorem sv_bounds (h : FieldOk F) {s : StD} (hs : StOk F s) (turn : List N) : ∀ i, i ≤ F.plots.length → 0 ≤ svT F.plots turn s.levels s.tank i ∧ svT F.plots turn s.levels s.tank i ≤ s.tank
  | 0, _ => ⟨hs.t0, Int.le_refl _⟩
  | i + 1, hi => by
    have ih := sv_bounds h hs turn i (by omega)
    have hi' : i < F.plots.length := by omega
    have e := List.getElem?_eq_getElem hi'
    show 0 ≤ svT F.plots turn s.levels s.tank i - gvAt F.plots turn s.levels i _ ∧ svT F.plots turn s.levels s.tank i - gvAt F.plots turn s.levels i _ ≤ s.tank
    rw [gvAt_some e]
    have hb := hs.lv i hi'
    rw [holdAt_some e] at hb
    have := gv_bounds (turn := turn) (h.pl _ (List.getElem_mem hi')).2.2.1 hb.2 ih.1
    omega
theorem svF_bounds (h : FieldOk F) {s : StD} (hs : StOk F s) (turn : List N) {i : Nat} (hi : i < F.plots.length) : 0 ≤ svF F.plots turn s.levels s.tank i ∧ svF F.plots turn s.levels s.tank i ≤ holdAt F.plots i := by
  have ih := sv_bounds h hs turn i (by omega)
  have e := List.getElem?_eq_getElem hi
  unfold svF
  rw [gvAt_some e, holdAt_some e]
  have hb := hs.lv i hi
  rw [holdAt_some e] at hb
  have := gv_bounds (turn := turn) (h.pl _ (List.getElem_mem hi)).2.2.1 hb.2 ih.1
  omega
theorem iv_mem {l : List Int} {i : Nat} (h : i < l.length) : iv l i ∈ l := List.mem_of_getElem? (iv_get h)
theorem stepD_ok (h : FieldOk F) {s s' : StD} (hs : StOk F s) {turn : List N} {d : DayD} (hd : DayOk F.plots.length F.moods.length d) (e : stepD F s turn d = .inr s') : StOk F s' := by
  unfold stepD at e
  cases q : dryAt (svF F.plots turn s.levels s.tank) d.dry F.plots.length with
  | some i =>
    rw [q] at e
    dsimp only at e
    have hi : i < F.plots.length := by
      unfold dryAt at q
      exact List.mem_range.mp (List.mem_of_find?_eq_some q)
    rw [List.getElem?_eq_getElem hi] at e
    cases e
  | none =>
    rw [q] at e
    have e2 := Sum.inr.inj e
    subst e2
    have hq := dryAt_none.mp q
    have hT := sv_bounds h hs turn F.plots.length (Nat.le_refl _)
    refine ⟨tab_len _ _, fun i hi => ?_, ?_, ?_, hd.m0, hd.mm⟩
    · show 0 ≤ iv (tab _ _) i ∧ iv (tab _ _) i ≤ _
      rw [tab_iv hi]
      have h1 := hq i hi
      have h2 := h.hold hi
      have h3 := (hd.r0 _ (iv_mem (i := i) (by rw [hd.rl]; exact hi))).1
      omega
    · show 0 ≤ min _ _
      have := hd.f0
      have := h.c0
      omega
    · show min _ _ ≤ F.cap
      omega
theorem stepD_inl (h : FieldOk F) {s : StD} {turn : List N} {d : DayD} {i : Nat} {p : PlotD N} (hi : F.plots[i]? = some p) (hl : svF F.plots turn s.levels s.tank i < iv d.dry i) (hb : ∀ j, j < i → iv d.dry j ≤ svF F.plots turn s.levels s.tank j) : stepD F s turn d = .inl p.name := by
  unfold stepD
  rw [dryAt_some (List.getElem?_eq_some_iff.mp hi).1 hl hb]
  show (match F.plots[i]? with | some p => Sum.inl p.name | none => .inr s) = _
  rw [hi]
theorem stepD_inr {s : StD} {turn : List N} {d : DayD} (hb : ∀ j, j < F.plots.length → iv d.dry j ≤ svF F.plots turn s.levels s.tank j) : stepD F s turn d = .inr ⟨tab (fun i => min (svF F.plots turn s.levels s.tank i - iv d.dry i + iv d.rain i) (holdAt F.plots i)) F.plots.length,
      min (svT F.plots turn s.levels s.tank F.plots.length + d.fill) F.cap, d.mood⟩ := by
  unfold stepD
  rw [dryAt_none.mpr hb]
theorem dayAt_some (h : FieldOk F) {s : StD} (hs : StOk F s) {k : Nat} {ds : List DayD} {d : DayD} (hm : F.moods[s.mood.toNat]? = some ds) (hd : ds[k]? = some d) : dayAt F s k = some d := by
  unfold dayAt
  rw [hm]
  exact hd
theorem mood_at (h : FieldOk F) {s : StD} (hs : StOk F s) : ∃ ds, F.moods[s.mood.toNat]? = some ds ∧ ds ∈ F.moods := by
  have hm : s.mood.toNat < F.moods.length := by
    have := hs.mm
    have := hs.m0
    omega
  exact ⟨_, List.getElem?_eq_getElem hm, List.getElem_mem hm⟩
theorem dayAt_ok (h : FieldOk F) {s : StD} {k : Nat} {d : DayD} (e : dayAt F s k = some d) : DayOk F.plots.length F.moods.length d := by
  unfold dayAt at e
  cases q : F.moods[s.mood.toNat]? with
  | none => rw [q] at e; cases e
  | some ds =>
    rw [q] at e
    exact h.dok ds (List.mem_of_getElem? q) d (List.mem_of_getElem? e)
/-! ### fuller is never worse -/
structure LeS (s t : StD) : Prop where
  mood : s.mood = t.mood
  ln : s.levels.length = t.levels.length
  lv : ∀ i, iv s.levels i ≤ iv t.levels i
  tank : s.tank ≤ t.tank
theorem sv_mono {s t : StD} (hl : ∀ i, iv s.levels i ≤ iv t.levels i) (ht : s.tank ≤ t.tank) (ps : List (PlotD N)) (turn : List N) : ∀ i, svT ps turn s.levels s.tank i ≤ svT ps turn t.levels t.tank i
  | 0 => ht
  | i + 1 => by
    have ih := sv_mono hl ht ps turn i
    show svT ps turn s.levels s.tank i - gvAt ps turn s.levels i _ ≤ svT ps turn t.levels t.tank i - gvAt ps turn t.levels i _
    cases e : ps[i]? with
    | none =>
      rw [gvAt_none e, gvAt_none e]
      omega
    | some p =>
      rw [gvAt_some e, gvAt_some e]
      have := hl i
      unfold gv
      by_cases c : p.name ∈ turn
      · rw [if_pos c, if_pos c]
        omega
      · rw [if_neg c, if_neg c]
        omega
theorem svF_mono {s t : StD} (hl : ∀ i, iv s.levels i ≤ iv t.levels i) (ht : s.tank ≤ t.tank) (ps : List (PlotD N)) (turn : List N) (i : Nat) : svF ps turn s.levels s.tank i ≤ svF ps turn t.levels t.tank i := by
  have ih := sv_mono hl ht ps turn i
  unfold svF
  have := hl i
  cases e : ps[i]? with
  | none =>
    rw [gvAt_none e, gvAt_none e]
    omega
  | some p =>
    rw [gvAt_some e, gvAt_some e]
    unfold gv
    by_cases c : p.name ∈ turn
    · rw [if_pos c, if_pos c]
      omega
    · rw [if_neg c, if_neg c]
      omega
theorem iv_out {l : List Int} {i : Nat} (h : l.length ≤ i) : iv l i = 0 := by
  unfold iv
  rw [List.getD_eq_getElem?_getD, List.getElem?_eq_none h]
  rfl
theorem stepD_mono {s t s' : StD} (le : LeS s t) {turn : List N} {d : DayD} (e : stepD F s turn d = .inr s') : ∃ t', stepD F t turn d = .inr t' ∧ LeS s' t' := by
  unfold stepD at e
  cases q : dryAt (svF F.plots turn s.levels s.tank) d.dry F.plots.length with
  | some i =>
    rw [q] at e
    dsimp only at e
    have hi : i < F.plots.length := by
      unfold dryAt at q
      exact List.mem_range.mp (List.mem_of_find?_eq_some q)
    rw [List.getElem?_eq_getElem hi] at e
    cases e
  | none =>
    rw [q] at e
    have e2 := Sum.inr.inj e
    subst e2
    have hq := dryAt_none.mp q
    have hm := svF_mono le.lv le.tank F.plots turn
    have hT := sv_mono le.lv le.tank F.plots turn F.plots.length
    refine ⟨_, stepD_inr fun j hj => Int.le_trans (hq j hj) (hm j), rfl, by rw [tab_len, tab_len], fun i => ?_, ?_⟩
    · by_cases hi : i < F.plots.length
      · rw [tab_iv hi, tab_iv hi]
        have := hm i
        omega
      · rw [iv_out (by rw [tab_len]; omega), iv_out (by rw [tab_len]; omega)]
        exact Int.le_refl _
    · show min _ _ ≤ min _ _
      omega
theorem dayAt_mood {s t : StD} (h : s.mood = t.mood) (k : Nat) : dayAt F s k = dayAt F t k := by
  unfold dayAt
  rw [h]
/-- as long as the lesser one lives the fuller one lives, and stays as full -/
theorem walk_mono : ∀ (ts : List (List N)) (ds : List Nat) (s t : StD) (k : Nat), LeS s t →
    (walk F s ts ds k).1.length ≤ (walk F t ts ds k).1.length ∧ ((walk F s ts ds k).2 = none → (walk F t ts ds k).2 = none) ∧
      ∀ (i : Nat) a b, (walk F s ts ds k).1[i]? = some a → (walk F t ts ds k).1[i]? = some b → LeS a b
  | [], _, s, t, k, _ => by
    unfold walk
    exact ⟨Nat.le_refl _, fun _ => rfl, fun i a b h => by simp at h⟩
  | _ :: _, [], s, t, k, _ => by
    unfold walk
    exact ⟨Nat.le_refl _, fun _ => rfl, fun i a b h => by simp at h⟩
  | tu :: ts, d :: ds, s, t, k, le => by
    unfold walk
    rw [← dayAt_mood (F := F) le.mood d]
    cases q : dayAt F s d with
    | none => exact ⟨Nat.le_refl _, fun _ => rfl, fun i a b h => by simp at h⟩
    | some day =>
      dsimp only
      cases e : stepD F s tu day with
      | inl nm => exact ⟨Nat.zero_le _, fun h => (by cases h), fun i a b h => (by simp at h)⟩
      | inr s' =>
        obtain ⟨t', et, le'⟩ := stepD_mono le e
        rw [et]
        obtain ⟨h1, h2, h3⟩ := walk_mono ts ds s' t' (k + 1) le'
        refine ⟨by simpa using h1, h2, fun i a b ha hb => ?_⟩
        cases i with
        | zero =>
          simp at ha hb
          rw [← ha, ← hb]
          exact le'
        | succ i =>
          simp at ha hb
          exact h3 i a b ha hb
/-! ### the shorter lists -/
theorem walk_more (e : List N) : ∀ (ts : List (List N)) (ds : List Nat) (s : StD) (k : Nat), ts.length = ds.length → walk F s (ts ++ [e]) ds k = walk F s ts ds k
  | [], [], s, k, _ => by
    show walk F s [e] [] k = _
    unfold walk
    rfl
  | [], _ :: _, s, k, h => by simp at h
  | _ :: _, [], s, k, h => by simp at h
  | tu :: ts, d :: ds, s, k, h => by
    show walk F s (tu :: (ts ++ [e])) (d :: ds) k = _
    unfold walk
    cases q : dayAt F s d with
    | none => rfl
    | some day =>
      dsimp only
      cases e' : stepD F s tu day with
      | inl nm => rfl
      | inr s' =>
        dsimp only
        rw [walk_more e ts ds s' (k + 1) (by simpa using h)]
theorem walk_take : ∀ (ts : List (List N)) (ds : List Nat) (s : StD) (k m : Nat), m ≤ (walk F s ts ds k).1.length → walk F s ts (ds.take m) k = ((walk F s ts ds k).1.take m, none)
  | [], ds, s, k, m, _ => by
    unfold walk
    simp
  | tu :: ts, [], s, k, m, _ => by
    rw [List.take_nil]
    unfold walk
    simp
  | tu :: ts, d :: ds, s, k, 0, _ => by
    show walk F s (tu :: ts) [] k = _
    rw [List.take_zero]
    unfold walk
    rfl
  | tu :: ts, d :: ds, s, k, m + 1, h => by
    show walk F s (tu :: ts) (d :: ds.take m) k = _
    unfold walk at h ⊢
    cases q : dayAt F s d with
    | none =>
      rw [q] at h
      simp at h
    | some day =>
      rw [q] at h
      dsimp only at h ⊢
      cases e' : stepD F s tu day with
      | inl nm =>
        rw [e'] at h
        simp at h
      | inr s' =>
        rw [e'] at h
        dsimp only at h ⊢
        rw [walk_take ts ds s' (k + 1) m (by simpa using h)]
        simp
/-- the walk's turn: from place i on -/
theorem walk_turn {s0 s s' : StD} {ts : List (List N)} {ds : List Nat} {i : Nat} {pre : List StD} {tu : List N} {d : Nat} {day : DayD} (hw : walk F s0 ts ds 0 = (pre ++ (walk F s (ts.drop i) (ds.drop i) i).1, (walk F s (ts.drop i) (ds.drop i) i).2))
    (ht : ts[i]? = some tu) (hd : ds[i]? = some d) (hday : dayAt F s d = some day) (e : stepD F s tu day = .inr s') :
    walk F s0 ts ds 0 = ((pre ++ [s']) ++ (walk F s' (ts.drop (i + 1)) (ds.drop (i + 1)) (i + 1)).1, (walk F s' (ts.drop (i + 1)) (ds.drop (i + 1)) (i + 1)).2) := by
  obtain ⟨h1, h1'⟩ := List.getElem?_eq_some_iff.mp ht
  obtain ⟨h2, h2'⟩ := List.getElem?_eq_some_iff.mp hd
  rw [List.drop_eq_getElem_cons h1, List.drop_eq_getElem_cons h2, h1', h2'] at hw
  rw [hw]
  conv => lhs; unfold walk
  rw [hday]
  dsimp only
  rw [e]
  simp
theorem walk_dries {s0 s : StD} {ts : List (List N)} {ds : List Nat} {i : Nat} {pre : List StD} {tu : List N} {d : Nat} {day : DayD} {nm : N} (hw : walk F s0 ts ds 0 = (pre ++ (walk F s (ts.drop i) (ds.drop i) i).1, (walk F s (ts.drop i) (ds.drop i) i).2))
    (ht : ts[i]? = some tu) (hd : ds[i]? = some d) (hday : dayAt F s d = some day) (e : stepD F s tu day = .inl nm) : walk F s0 ts ds 0 = (pre, some (nm, i)) := by
  obtain ⟨h1, h1'⟩ := List.getElem?_eq_some_iff.mp ht
  obtain ⟨h2, h2'⟩ := List.getElem?_eq_some_iff.mp hd
  rw [List.drop_eq_getElem_cons h1, List.drop_eq_getElem_cons h2, h1', h2'] at hw
  rw [hw]
  conv => lhs; unfold walk
  rw [hday]
  dsimp only
  rw [e]
  simp
theorem walk_end {s0 s : StD} {ts : List (List N)} {ds : List Nat} {i : Nat} {pre : List StD} (hw : walk F s0 ts ds 0 = (pre ++ (walk F s (ts.drop i) (ds.drop i) i).1, (walk F s (ts.drop i) (ds.drop i) i).2))
    (h : ts.length ≤ i ∨ ds.length ≤ i) : walk F s0 ts ds 0 = (pre, none) := by
  rw [hw]
  have e : walk F s (ts.drop i) (ds.drop i) i = ([], none) := by
    rcases h with h | h
    · rw [List.drop_eq_nil_of_le h]
      unfold walk
      rfl
    · rw [List.drop_eq_nil_of_le h]
      cases ts.drop i <;> (unfold walk; rfl)
  rw [e]
  simp
/-! ### allowed turns -/
def allowsF (groups : List (List N)) (turn : List N) : Bool := turn.isEmpty || groups.any fun g => turn.all fun x => decide (x ∈ g)
theorem filter_sub {t l : List N} (h : t.Sublist l) : l.Nodup → l.filter (fun x => decide (x ∈ t)) = t := by
  induction h with
  | slnil => intro _; rfl
  | @cons l1 l2 a h ih =>
    intro nd
    obtain ⟨h1, h2⟩ := List.nodup_cons.mp nd
    have : ¬ a ∈ l1 := fun m => h1 (h.subset m)
    rw [List.filter_cons_of_neg (by simpa using this)]
    exact ih h2
  | @cons_cons l1 l2 a h ih =>
    intro nd
    obtain ⟨h1, h2⟩ := List.nodup_cons.mp nd
    rw [List.filter_cons_of_pos (by simp)]
    have e : l2.filter (fun x => decide (x ∈ a :: l1)) = l2.filter (fun x => decide (x ∈ l1)) := by
      refine List.filter_congr fun x hx => ?_
      have : x ≠ a := fun q => h1 (q ▸ hx)
      simp [this]
    rw [e, ih h2]
end K17


set_option maxHeartbeats 4000000
/-! K17W1: words -/
namespace K17
open PySem PySem.Spec PyProof.Rows L2
section
variable {P : Program} {w : World} {K : PySem.W.Frag} {mg : Str → Option Value} {base : Heap}
def spIsInt : Sp := fun vs H Q _ => ∃ i : Int, vs = [.int i] ∧ Q (.bl true) H
theorem ok_isint (T : Txt K mg) : Ok P w K mg base CX0 1 d_isint spIsInt := by
  refine mkOk (N := ["value"]) (ps := ["value"]) T.f_isint b_isint ⟨rfl, rfl, rfl, by decide +kernel, rfl, by decide +kernel, by decide +kernel⟩ (fun vs H Q E h => ?_) (fun cdv A outer s H vs Q E hr h => ?_)
  · obtain ⟨i, rfl, _⟩ := h
    rfl
  · obtain ⟨i, rfl, k⟩ := h
    refine ⟨_, pss_one (ps_ret (pe_and (pe_b call_isi T.z_isinstance (pa_cons (pv 0) (pa_cons (pe_bltn (v := .ty "int") (by rfl) T.z_int (by decide +kernel) rfl) pa_nil)))
      (pe_one (pe_not (pe_b call_isi T.z_isinstance (pa_cons (pv 0) (pa_cons (pe_bltn (v := .ty "bool") (by rfl) T.z_bool (by decide +kernel) rfl) pa_nil))))))), ?_⟩
    refine ⟨_, rfl, _, _, _, _, true, rfl, .ty _, .base (.int i), kit_ty (by decide +kernel), true, rfl, iteT ?_⟩
    exact ⟨_, rfl, _, _, _, _, false, rfl, .ty _, .base (.int i), kit_ty (by decide +kernel), false, rfl, k⟩
def spChk : Sp := fun vs H Q _ => ∃ (z : V) (i lo hi : Int), vs = [z, .int i, .int lo, .int hi] ∧ lo ≤ i ∧ i ≤ hi ∧ Q (.int i) H
theorem ok_chknum (T : Txt K mg) : Ok P w K mg base CX0 2 d_chknum spChk := by
  refine mkOk (N := ["what", "value", "low", "high"]) (ps := ["what", "value", "low", "high"]) T.f_chknum b_chknum ⟨rfl, rfl, rfl, by decide +kernel, rfl, by decide +kernel, by decide +kernel⟩ (fun vs H Q E h => ?_) (fun cdv A outer s H vs Q E hr h => ?_)
  · obtain ⟨z, i, lo, hi, rfl, _⟩ := h
    rfl
  · obtain ⟨z, i, lo, hi, rfl, h1, h2, k⟩ := h
    refine ⟨_, pss_cons (ps_if (PW.pt (pw_or (pt_not (pt_val (pe_f (ok_isint T) T.g_isint hr pass0 (pa_cons (pv 1) pa_nil)))) (pw_or (pt_cmpR op_lt (pv 1) (pv 2) (nomark _)) (pw_or1 (pt_cmpR op_gt (pv 1) (pv 3) (nomark _))))))
      (pss_one ps_never) pss_nil) (pss_one (ps_ret (pv 1))), ?_⟩
    refine ⟨_, rfl, i, rfl, true, rfl, iteF ⟨_, rfl, _, rfl, i, lo, rfl, rfl, _, rfl, ?_⟩⟩
    rw [decide_eq_false (by omega)]
    refine iteF ⟨_, rfl, _, rfl, i, hi, rfl, rfl, _, rfl, ?_⟩
    rw [decide_eq_false (by omega)]
    exact iteF ⟨_, rfl, k⟩
end
end K17


set_option maxHeartbeats 4000000
/-! K17E: what stands in the heap: plots, days, weathers, gates, grounds, fields, standings; what stays -/
namespace K17
open PySem PySem.Spec PyProof.Rows L2
/-! ### what stays: all but the objects of ls; of these the lists stay lists -/
structure But (ls : List Addr) (H H' : Hp) : Prop where
  keep : ∀ a o, a ∉ ls → H a = some o → H' a = some o
  lsts : ∀ a, a ∈ ls → (∃ xs, H a = some (.lst xs)) ∧ ∃ ys, H' a = some (.lst ys)
/-- nothing that stands is changed -/
abbrev Ext (H H' : Hp) : Prop := But [] H H'
theorem But.trans {ls : List Addr} {H H1 H2 : Hp} (a : But ls H H1) (b : But ls H1 H2) : But ls H H2 :=
  ⟨fun c o n q => b.keep c o n (a.keep c o n q), fun c h => ⟨(a.lsts c h).1, (b.lsts c h).2⟩⟩
theorem Ext.refl (H : Hp) : Ext H H := ⟨fun _ _ _ q => q, fun _ h => nomatch h⟩
theorem Ext.upd {H : Hp} {a : Addr} {o : HO} (h : H a = none) : Ext H (upd H a o) := ⟨fun c u _ q => by rw [upd_ne (ne_of_none q h)]; exact q, fun _ h => nomatch h⟩
theorem Ext.of {H H' : Hp} (k : ∀ a o, H a = some o → H' a = some o) : Ext H H' := ⟨fun a o _ q => k a o q, fun _ h => nomatch h⟩
theorem Ext.get {H H' : Hp} (x : Ext H H') {a : Addr} {o : HO} (h : H a = some o) : H' a = some o := x.keep a o (fun m => nomatch m) h
theorem But.ext {ls : List Addr} {H H1 H2 : Hp} (a : But ls H H1) (b : Ext H1 H2) : But ls H H2 :=
  ⟨fun c o n q => b.get (a.keep c o n q), fun c h => ⟨(a.lsts c h).1, (a.lsts c h).2.imp fun _ q => b.get q⟩⟩
theorem Ext.but {ls : List Addr} {H H1 H2 : Hp} (a : Ext H H1) (b : But ls H1 H2) (hl : ∀ c, c ∈ ls → ∃ xs, H c = some (.lst xs)) : But ls H H2 :=
  ⟨fun c o n q => b.keep c o n (a.get q), fun c h => ⟨hl c h, (b.lsts c h).2⟩⟩
theorem But.refl {ls : List Addr} {H : Hp} (hl : ∀ c, c ∈ ls → ∃ xs, H c = some (.lst xs)) : But ls H H := (Ext.refl H).but ⟨fun _ _ _ q => q, fun c h => ⟨hl c h, hl c h⟩⟩ hl
/-- what is no list stays -/
def Mor (H H' : Hp) : Prop := ∀ a o, (∀ xs, o ≠ .lst xs) → H a = some o → H' a = some o
theorem But.mor {ls : List Addr} {H H' : Hp} (b : But ls H H') : Mor H H' := fun a o n q => by
  by_cases h : a ∈ ls
  · obtain ⟨⟨xs, e⟩, _⟩ := b.lsts a h
    rw [q] at e
    cases e
    exact absurd rfl (n xs)
  · exact b.keep a o h q
theorem Mor.refl (H : Hp) : Mor H H := fun _ _ _ q => q
theorem Mor.trans {H H1 H2 : Hp} (a : Mor H H1) (b : Mor H1 H2) : Mor H H2 := fun c o n q => b c o n (a c o n q)
theorem Mor.new {H : Hp} {a : Addr} {o : HO} (h : H a = none) : Mor H (upd H a o) := (Ext.upd h).mor
theorem Mor.lst {H : Hp} {a : Addr} {xs ys : List V} (h : H a = some (.lst xs)) : Mor H (upd H a (.lst ys)) := fun c u n q => by
  rw [upd_ne]
  · exact q
  · intro e
    subst e
    rw [q] at h
    cases h
    exact n _ rfl
theorem But.upd {a : Addr} {H : Hp} {xs ys : List V} (h : H a = some (.lst xs)) : But [a] H (upd H a (.lst ys)) :=
  ⟨fun c o n q => by rw [upd_ne (by simpa using n)]; exact q, fun c m => by
    have e : c = a := by simpa using m
    subst e
    exact ⟨⟨_, h⟩, _, upd_same⟩⟩
theorem Mor.ext {H H' : Hp} (x : Ext H H') : Mor H H' := x.mor
/-- what a def makes of self alone -/
theorem Ext.self {H H' : Hp} {x dx : Addr} {C : Addr} {fs : List (Str × V)} (hx : H x = none) (hd : H dx = none) (k : ∀ a o, a ≠ x → (L2.upd (L2.upd H dx (.own x)) x (.ins C dx fs)) a = some o → H' a = some o) : Ext H H' := Ext.of fun a o q => by
  have n1 : a ≠ x := ne_of_none q hx
  have n2 : a ≠ dx := ne_of_none q hd
  exact k a o n1 (by rw [upd_ne n1, upd_ne n2]; exact q)
section
variable {K : PySem.W.Frag} {H H' : Hp}
theorem sqT_mor (m : Mor H H') {a : Addr} {xs : List V} (h : SqT K H a xs) : SqT K H' a xs := by
  rcases h with (h | ⟨o, h⟩) | h
  · exact .inl (.inl (m _ _ (fun _ e => nomatch e) h))
  · exact .inl (.inr ⟨o, m _ _ (fun _ e => nomatch e) h⟩)
  · exact .inr h
theorem sqL_ext (m : Ext H H') {a : Addr} {xs : List V} (h : SqL K H a xs) : SqL K H' a xs := by
  rcases h with (h | ⟨o, h⟩) | h
  · exact .inl (.inl (m.get h))
  · exact .inl (.inr ⟨o, m.get h⟩)
  · exact .inr h
/-- the list a is frozen, or of the text -/
def Frz (K : PySem.W.Frag) (H : Hp) (a : Addr) (xs : List V) : Prop := (∃ o, H a = some (.frz o (.lst xs))) ∨ ∃ (o : Obj) (its : Array Value) (n : Nat), K.lookup a = some o ∧ o.cls = .type "list" ∧ o.dict = none ∧ o.data = .seq its n ∧ its.size ≤ sizeLine ∧ Vals xs its.toList
theorem Frz.sq {a : Addr} {xs : List V} (h : Frz K H a xs) : SqL K H a xs := by
  rcases h with ⟨o, h⟩ | h
  · exact .inl (.inr ⟨o, h⟩)
  · exact .inr h
theorem Frz.mor (m : Mor H H') {a : Addr} {xs : List V} (h : Frz K H a xs) : Frz K H' a xs := by
  rcases h with ⟨o, h⟩ | h
  · exact .inl ⟨o, m _ _ (fun _ e => nomatch e) h⟩
  · exact .inr h
theorem ins_mor (m : Mor H H') {a C dx : Addr} {fs : List (Str × V)} (h : H a = some (.ins C dx fs)) : H' a = some (.ins C dx fs) := m _ _ (fun _ e => nomatch e) h
end
/-! ### the things -/
abbrev Pl := PlotD Str
abbrev Fi := FieldD Str
abbrev PN (ps : List Pl) : List Str := ps.map (fun q : Pl => q.name)
abbrev CPlot (K : PySem.W.Frag) := He.ga K "Plot"
abbrev CGates (K : PySem.W.Frag) := He.ga K "Gates"
abbrev CGround (K : PySem.W.Frag) := He.ga K "Ground"
abbrev CStand (K : PySem.W.Frag) := He.ga K "Standing"
abbrev CField (K : PySem.W.Frag) := He.ga K "Field"
abbrev CDay (K : PySem.W.Frag) := He.ga K "Day"
abbrev CWeather (K : PySem.W.Frag) := He.ga K "Weather"
section
variable (K : PySem.W.Frag)
abbrev plotF (p : Pl) : List (Str × V) := [("name", .str p.name), ("hold", .int p.hold), ("drink", .int p.drink)]
def PlotAt (H : Hp) (a : Addr) (p : Pl) : Prop := ∃ dx, H a = some (.ins (CPlot K) dx (plotF p))
def PlotsAt (H : Hp) (a : Addr) (ps : List Pl) : Prop := ∃ as : List Addr, SqT K H a (as.map V.ref) ∧ All2 (PlotAt K H) as ps
abbrev dayF (td tr : Addr) (d : DayD) : List (Str × V) := [("dry", .ref td), ("rain", .ref tr), ("fill", .int d.fill), ("mood", .int d.mood)]
def DayAt (H : Hp) (a : Addr) (d : DayD) : Prop := ∃ dx td tr, H a = some (.ins (CDay K) dx (dayF td tr d)) ∧ SqT K H td (d.dry.map V.int) ∧ SqT K H tr (d.rain.map V.int)
def MoodAt (H : Hp) (m : Addr) (ds : List DayD) : Prop := ∃ xs : List Addr, SqT K H m (xs.map V.ref) ∧ All2 (DayAt K H) xs ds
def WeatherAt (H : Hp) (a : Addr) (n : Nat) (moods : List (List DayD)) : Prop := ∃ dx tm, ∃ ms : List Addr, H a = some (.ins (CWeather K) dx [("width", .int n), ("moods", .ref tm)]) ∧ SqT K H tm (ms.map V.ref) ∧ All2 (MoodAt K H) ms moods
abbrev NamesT (H : Hp) (a : Addr) (l : List Str) : Prop := SqT K H a (l.map V.str)
def GroupsAt (H : Hp) (a : Addr) (gs : List (List Str)) : Prop := ∃ ms : List Addr, SqT K H a (ms.map V.ref) ∧ All2 (NamesT K H) ms gs
def GatesAt (H : Hp) (a : Addr) (gs : List (List Str)) : Prop := ∃ dx tg, H a = some (.ins (CGates K) dx [("groups", .ref tg)]) ∧ GroupsAt K H tg gs
abbrev groundF (tp tn g : Addr) (cap : Int) : List (Str × V) := [("plots", .ref tp), ("names", .ref tn), ("gates", .ref g), ("reserve", .int cap)]
def GroundAt (H : Hp) (a : Addr) (ps : List Pl) (gs : List (List Str)) (cap : Int) : Prop := ∃ dx tp tn g, H a = some (.ins (CGround K) dx (groundF tp tn g cap)) ∧ PlotsAt K H tp ps ∧ NamesT K H tn (PN ps) ∧ GatesAt K H g gs
abbrev standF (tl : Addr) (s : StD) : List (Str × V) := [("levels", .ref tl), ("tank", .int s.tank), ("mood", .int s.mood)]
def StandAt (H : Hp) (a : Addr) (s : StD) : Prop := ∃ dx tl, H a = some (.ins (CStand K) dx (standF tl s)) ∧ SqT K H tl (s.levels.map V.int)
abbrev fieldF (gr we tt : Addr) (am cap : Int) : List (Str × V) := [("ground", .ref gr), ("weather", .ref we), ("amount", .int am), ("bottom", .int cap), ("turn_list", .ref tt)]
def FieldAt (H : Hp) (a : Addr) (F : Fi) : Prop := ∃ dx gr we tt am, H a = some (.ins (CField K) dx (fieldF gr we tt am F.cap)) ∧ GroundAt K H gr F.plots F.groups F.cap ∧ WeatherAt K H we F.plots.length F.moods
/-- the law's state of draws -/
def StAt (H : Hp) (a : Addr) : Prop := ∃ x b c d : Int, H a = some (.lst [.int x, .int b, .int c, .int d])
end
section
variable {K : PySem.W.Frag} {H H' : Hp} (m : Mor H H')
include m
theorem PlotAt.mor {a : Addr} {p : Pl} (h : PlotAt K H a p) : PlotAt K H' a p := h.imp fun _ q => ins_mor m q
theorem PlotsAt.mor {a : Addr} {ps : List Pl} (h : PlotsAt K H a ps) : PlotsAt K H' a ps := let ⟨as, h1, h2⟩ := h; ⟨as, sqT_mor m h1, h2.imp fun _ _ q => q.mor m⟩
theorem DayAt.mor {a : Addr} {d : DayD} (h : DayAt K H a d) : DayAt K H' a d := let ⟨dx, td, tr, h1, h2, h3⟩ := h; ⟨dx, td, tr, ins_mor m h1, sqT_mor m h2, sqT_mor m h3⟩
theorem MoodAt.mor {a : Addr} {ds : List DayD} (h : MoodAt K H a ds) : MoodAt K H' a ds := let ⟨xs, h1, h2⟩ := h; ⟨xs, sqT_mor m h1, h2.imp fun _ _ q => q.mor m⟩
theorem WeatherAt.mor {a : Addr} {n : Nat} {ms : List (List DayD)} (h : WeatherAt K H a n ms) : WeatherAt K H' a n ms := let ⟨dx, tm, xs, h1, h2, h3⟩ := h; ⟨dx, tm, xs, ins_mor m h1, sqT_mor m h2, h3.imp fun _ _ q => q.mor m⟩
theorem GroupsAt.mor {a : Addr} {gs : List (List Str)} (h : GroupsAt K H a gs) : GroupsAt K H' a gs := let ⟨ms, h1, h2⟩ := h; ⟨ms, sqT_mor m h1, h2.imp fun _ _ q => sqT_mor m q⟩
theorem GatesAt.mor {a : Addr} {gs : List (List Str)} (h : GatesAt K H a gs) : GatesAt K H' a gs := let ⟨dx, tg, h1, h2⟩ := h; ⟨dx, tg, ins_mor m h1, h2.mor m⟩
theorem GroundAt.mor {a : Addr} {ps : List Pl} {gs : List (List Str)} {c : Int} (h : GroundAt K H a ps gs c) : GroundAt K H' a ps gs c := let ⟨dx, tp, tn, g, h1, h2, h3, h4⟩ := h; ⟨dx, tp, tn, g, ins_mor m h1, h2.mor m, sqT_mor m h3, h4.mor m⟩
theorem StandAt.mor {a : Addr} {s : StD} (h : StandAt K H a s) : StandAt K H' a s := let ⟨dx, tl, h1, h2⟩ := h; ⟨dx, tl, ins_mor m h1, sqT_mor m h2⟩
theorem FieldAt.mor {a : Addr} {F : Fi} (h : FieldAt K H a F) : FieldAt K H' a F := let ⟨dx, gr, we, tt, am, h1, h2, h3⟩ := h; ⟨dx, gr, we, tt, am, ins_mor m h1, h2.mor m, h3.mor m⟩
end
/-! ### lists of values -/
theorem map_get {α : Type} {f : α → V} {xs : List α} {i : Nat} {v : V} (h : (xs.map f)[i]? = some v) : ∃ a, xs[i]? = some a ∧ v = f a := by
  rw [List.getElem?_map] at h
  cases q : xs[i]? with
  | none => rw [q] at h; cases h
  | some a => rw [q] at h; exact ⟨a, rfl, (Option.some.inj h).symm⟩
theorem get_map {α : Type} {f : α → V} {xs : List α} {i : Nat} {a : α} (h : xs[i]? = some a) : (xs.map f)[i]? = some (f a) := by rw [List.getElem?_map, h]; rfl
theorem flat_str (l : List Str) : (l.map V.str).all flatV = true := by
  rw [List.all_eq_true]
  intro x hx
  obtain ⟨a, _, rfl⟩ := List.mem_map.mp hx
  rfl
theorem inV_str (x : Str) (l : List Str) : inV (.str x) (l.map V.str) = decide (x ∈ l) := by
  induction l with
  | nil => rfl
  | cons y l ih =>
    show (eqV _ _ || inV (.str x) (l.map V.str)) = _
    rw [ih]
    have e : ∀ a b : Str, eqV (.str a) (.str b) = decide (a = b) := fun a b => by
      by_cases h : a = b
      · subst h; simp [eqV]
      · simp [eqV, h]
    by_cases h : x = y
    · subst h
      simp [e]
    · have h' : y ≠ x := fun q => h q.symm
      simp [e, h, h']
theorem atI_get {xs : List V} {i : Nat} {v : V} (h : xs[i]? = some v) : atI xs (i : Int) = some v := by
  rw [atI_nat]
  exact h
end K17


set_option maxHeartbeats 4000000
/-! K17W2: names, plots -/
namespace K17
open PySem PySem.Spec PyProof.Rows L2
structure NameOk (x : Str) : Prop where
  l1 : 1 ≤ x.cps.size
  l8 : x.cps.size ≤ 8
  az : ∀ c, c ∈ x.cps.toList → 97 ≤ c ∧ c ≤ 122
theorem letters_mem {c : Nat} (h : 97 ≤ c ∧ c ≤ 122) : c ∈ ("abcdefghijklmnopqrstuvwxyz" : Str).cps.toList := by
  have e : ("abcdefghijklmnopqrstuvwxyz" : Str).cps.toList = (List.range 26).map (97 + ·) := by decide +kernel
  rw [e]
  exact List.mem_map.mpr ⟨c - 97, List.mem_range.mpr (by omega), by omega⟩
theorem NameOk.get {x : Str} (h : NameOk x) {i : Nat} {c : Nat} (e : x.cps[i]? = some c) : 97 ≤ c ∧ c ≤ 122 := h.az c (by
  have : x.cps.toList[i]? = some c := by simpa using e
  exact List.mem_of_getElem? this)
theorem few {n : Nat} (h : Nat.blt n 1000 = true) : n < 1000 := Nat.lt_of_lt_of_le (Nat.le_of_ble_eq_true h) (Nat.le_refl _)
theorem sl8 {n : Nat} (h : n ≤ 1000) : n ≤ sizeLine := Nat.le_trans h (by decide)
section
variable {P : Program} {w : World} {K : PySem.W.Frag} {mg : Str → Option Value} {base : Heap}
def spIsName : Sp := fun vs H Q _ => ∃ x : Str, vs = [.str x] ∧ NameOk x ∧ Q (.bl true) H
theorem ok_isname (T : Txt K mg) : Ok P w K mg base CX0 1 d_isname spIsName := by
  have nd : (["text", "letter"] : List Str).Nodup := by decide +kernel
  refine mkOk (N := ["text", "letter"]) (ps := ["text"]) T.f_isname b_isname ⟨rfl, rfl, rfl, by decide +kernel, rfl, by decide +kernel, by decide +kernel⟩ (fun vs H Q E h => ?_) (fun cdv A outer s H vs Q E hr h => ?_)
  · obtain ⟨x, rfl, _⟩ := h
    rfl
  · obtain ⟨x, rfl, hn, k⟩ := h
    obtain ⟨t, hL⟩ := T.s_LETTERS
    refine ⟨_, pss_cons (ps_if (PW.pt (pw_or (pt_not (pt_val (pe_b call_isi T.z_isinstance (pa_cons (pv 0) (pa_cons (pe_bltn (v := .ty "str") (by rfl) T.z_str (by decide +kernel) rfl) pa_nil)))))
      (pw_or (pt_cmpR op_lt (pe_b call_len_str T.z_len (pa_cons (pv 0) pa_nil)) pe_int (nomark _)) (pw_or1 (pt_cmpR op_gt (pe_b call_len_str T.z_len (pa_cons (pv 0) pa_nil)) pe_int (nomark _))))))
      (pss_one ps_never) pss_nil)
      (pss_cons (ps_for PassesOwn.never rfl (pi_str (pv 0)) (pg_name (i := 1) nd rfl (Or.inl rfl)) (pss_one (ps_if (pt_cmpR op_notIn_sign (pv 1) (pe_glob (v := .str "abcdefghijklmnopqrstuvwxyz") rfl hL ⟨_, rfl⟩) rfl) (pss_one ps_never) pss_nil)))
      (pss_one (ps_ret pe_bl))), ?_⟩
    refine ⟨_, rfl, _, _, _, _, true, rfl, .ty _, .base (.str x), kit_ty (by decide +kernel), true, rfl, iteF ?_⟩
    refine ⟨_, rfl, x, rfl, sl8 (by show x.cps.size ≤ 1000; have := hn.l8; omega), _, _, rfl, rfl, _, rfl, ?_⟩
    have l1 := hn.l1
    have l8 := hn.l8
    rw [decide_eq_false (by show ¬ ((x.cps.size : Nat) : Int) < 1; omega)]
    refine iteF ⟨_, rfl, x, rfl, sl8 (by show x.cps.size ≤ 1000; omega), _, _, rfl, rfl, _, rfl, ?_⟩
    rw [decide_eq_false (by show ¬ ((x.cps.size : Nat) : Int) > 8; omega)]
    refine iteF ⟨_, rfl, x, rfl, for_it walk_str (fun _ σ H' => (∃ v, σ = [some (.str x), v]) ∧ H' = H) ⟨⟨_, rfl⟩, rfl⟩ (fun _ _ _ _ _ => trivial) (fun i y σ H1 H2 hi p yy => ?_) (fun σ H' p => ?_)⟩
    · obtain ⟨⟨v, rfl⟩, rfl⟩ := p
      obtain ⟨rfl, c, hc, rfl⟩ := yy
      refine ⟨_, rfl, c, _, rfl, rfl, _, rfl, ?_⟩
      rw [decide_eq_true (letters_mem (hn.get hc))]
      exact iteF ⟨⟨_, rfl⟩, rfl⟩
    · obtain ⟨⟨v, rfl⟩, rfl⟩ := p
      exact k
def spChkName : Sp := fun vs H Q _ => ∃ x : Str, vs = [.str x] ∧ NameOk x ∧ Q (.str x) H
theorem ok_chkname (T : Txt K mg) : Ok P w K mg base CX0 2 d_chkname spChkName := by
  refine mkOk (N := ["text"]) (ps := ["text"]) T.f_chkname b_chkname ⟨rfl, rfl, rfl, by decide +kernel, rfl, by decide +kernel, by decide +kernel⟩ (fun vs H Q E h => ?_) (fun cdv A outer s H vs Q E hr h => ?_)
  · obtain ⟨x, rfl, _⟩ := h
    rfl
  · obtain ⟨x, rfl, hn, k⟩ := h
    refine ⟨_, pss_cons (ps_if (pt_not (pt_val (pe_f (ok_isname T) T.g_isname hr pass0 (pa_cons (pv 0) pa_nil)))) (pss_one ps_never) pss_nil) (pss_one (ps_ret (pv 0))), ?_⟩
    exact ⟨_, rfl, x, rfl, hn, true, rfl, iteF ⟨_, rfl, k⟩⟩
/-- Plot -/
structure PlotOk (p : Pl) : Prop where
  nm : NameOk p.name
  h1 : 1 ≤ p.hold
  h8 : p.hold ≤ 8
  d1 : 1 ≤ p.drink
  d8 : p.drink ≤ 8
def spPlotI : Sp := fun vs H Q _ => ∃ (x dx : Addr) (p : Pl), vs = [.ref x, .str p.name, .int p.hold, .int p.drink] ∧ H x = some (.ins (CPlot K) dx []) ∧ PlotOk p ∧ Q .non (upd H x (.ins (CPlot K) dx (plotF p)))
theorem ok_plotI (T : Txt K mg) : Ok P w K mg base CX0 3 d_plotI (spPlotI (K := K)) := by
  refine mkOk (N := ["self", "name", "hold", "drink"]) (ps := ["self", "name", "hold", "drink"]) T.f_plotI b_plotI ⟨rfl, rfl, rfl, by decide +kernel, rfl, by decide +kernel, by decide +kernel⟩ (fun vs H Q E h => ?_) (fun cdv A outer s H vs Q E hr h => ?_)
  · obtain ⟨x, dx, p, rfl, _⟩ := h
    rfl
  · obtain ⟨x, dx, p, rfl, hx, po, k⟩ := h
    obtain ⟨t, hM⟩ := T.i_MOST_UNITS_ground
    refine ⟨_, pss_cons (ps_fld (pv 0) (pe_f (ok_chkname T) T.g_chkname hr pass0 (pa_cons (pv 1) pa_nil)) rfl)
      (pss_cons (ps_fld (pv 0) (pe_f (ok_chknum T) T.g_chknum hr pass0 (pa_cons pe_str (pa_cons (pv 2) (pa_cons pe_int (pa_cons (pe_glob (v := .int 8) rfl hM ⟨_, rfl⟩) pa_nil))))) rfl)
      (pss_one (ps_fld (pv 0) (pe_f (ok_chknum T) T.g_chknum hr pass0 (pa_cons pe_str (pa_cons (pv 3) (pa_cons pe_int (pa_cons (pe_glob (v := .int 8) rfl hM ⟨_, rfl⟩) pa_nil))))) rfl))), ?_⟩
    refine ⟨_, rfl, _, rfl, po.nm, _, rfl, x, _, dx, _, rfl, hx, T.c_Plot, T.n_Plot_name, few (by kernel_rfl), ?_⟩
    refine ⟨_, rfl, _, p.hold, 1, 8, rfl, po.h1, po.h8, _, rfl, x, _, dx, _, rfl, upd_same, T.c_Plot, T.n_Plot_hold, few (by kernel_rfl), ?_⟩
    refine ⟨_, rfl, _, p.drink, 1, 8, rfl, po.d1, po.d8, _, rfl, x, _, dx, _, rfl, upd_same, T.c_Plot, T.n_Plot_drink, few (by kernel_rfl), ?_⟩
    rw [upd_upd, upd_upd]
    exact k
end
end K17


set_option maxHeartbeats 4000000
/-! K17F: data, joined names; small words of heaps -/
namespace K17
open PySem PySem.Spec PyProof.Rows L2
/-! ### rules within a comprehension: the text's facts named -/
section
variable {X : Cx} {e : Expr} {ta : TE} {f : Str} {pos : Pos}
theorem pe_fldK (K : PySem.W.Frag) (he : PE X e ta) (hb : attributeBase e f X.env (eval e X.env) = eval e X.env) (hK : X.K = K := by rfl) : PE X (.Attribute e f pos) (tFld K ta f) := by
  subst hK
  exact pe_fld he hb
theorem call_len_seqK (K : PySem.W.Frag) (hK : X.K = K := by rfl) : CallR X (.builtin "len") (fun xs H Q => ∃ p ys, xs = [.ref p] ∧ (SqL K H p ys ∨ SqT K H p ys) ∧ Q (.int ys.length) H) := by
  subst hK
  exact call_len_seq
theorem call_tuple_ofK (K : PySem.W.Frag) (hK : X.K = K := by rfl) : CallR X (.type "tuple") (fun xs H Q => ∃ p ys, xs = [.ref p] ∧ ((SqL K H p ys ∧ ∀ l, H l = none → Q (.ref l) (upd H l (.tup ys))) ∨ (SqT K H p ys ∧ Q (.ref p) H))) := by
  subst hK
  exact call_tuple_of
end
/-! ### fields -/
section
variable {v0 v1 v2 v3 v4 : V}
theorem lk_Plot_name : ([("name", v0), ("hold", v1), ("drink", v2)] : List (Str × V)).lookup ("name" : Str) = some v0 := by kernel_rfl
theorem lk_Plot_hold : ([("name", v0), ("hold", v1), ("drink", v2)] : List (Str × V)).lookup ("hold" : Str) = some v1 := by kernel_rfl
theorem lk_Plot_drink : ([("name", v0), ("hold", v1), ("drink", v2)] : List (Str × V)).lookup ("drink" : Str) = some v2 := by kernel_rfl
theorem lk_Day_dry : ([("dry", v0), ("rain", v1), ("fill", v2), ("mood", v3)] : List (Str × V)).lookup ("dry" : Str) = some v0 := by kernel_rfl
theorem lk_Day_rain : ([("dry", v0), ("rain", v1), ("fill", v2), ("mood", v3)] : List (Str × V)).lookup ("rain" : Str) = some v1 := by kernel_rfl
theorem lk_Day_fill : ([("dry", v0), ("rain", v1), ("fill", v2), ("mood", v3)] : List (Str × V)).lookup ("fill" : Str) = some v2 := by kernel_rfl
theorem lk_Day_mood : ([("dry", v0), ("rain", v1), ("fill", v2), ("mood", v3)] : List (Str × V)).lookup ("mood" : Str) = some v3 := by kernel_rfl
theorem lk_Weather_width : ([("width", v0), ("moods", v1)] : List (Str × V)).lookup ("width" : Str) = some v0 := by kernel_rfl
theorem lk_Weather_moods : ([("width", v0), ("moods", v1)] : List (Str × V)).lookup ("moods" : Str) = some v1 := by kernel_rfl
theorem lk_Gates_groups : ([("groups", v0)] : List (Str × V)).lookup ("groups" : Str) = some v0 := by kernel_rfl
theorem lk_Ground_plots : ([("plots", v0), ("names", v1), ("gates", v2), ("reserve", v3)] : List (Str × V)).lookup ("plots" : Str) = some v0 := by kernel_rfl
theorem lk_Ground_names : ([("plots", v0), ("names", v1), ("gates", v2), ("reserve", v3)] : List (Str × V)).lookup ("names" : Str) = some v1 := by kernel_rfl
theorem lk_Ground_gates : ([("plots", v0), ("names", v1), ("gates", v2), ("reserve", v3)] : List (Str × V)).lookup ("gates" : Str) = some v2 := by kernel_rfl
theorem lk_Ground_reserve : ([("plots", v0), ("names", v1), ("gates", v2), ("reserve", v3)] : List (Str × V)).lookup ("reserve" : Str) = some v3 := by kernel_rfl
theorem lk_Stand_levels : ([("levels", v0), ("tank", v1), ("mood", v2)] : List (Str × V)).lookup ("levels" : Str) = some v0 := by kernel_rfl
theorem lk_Stand_tank : ([("levels", v0), ("tank", v1), ("mood", v2)] : List (Str × V)).lookup ("tank" : Str) = some v1 := by kernel_rfl
theorem lk_Stand_mood : ([("levels", v0), ("tank", v1), ("mood", v2)] : List (Str × V)).lookup ("mood" : Str) = some v2 := by kernel_rfl
theorem lk_Field_ground : ([("ground", v0), ("weather", v1), ("amount", v2), ("bottom", v3), ("turn_list", v4)] : List (Str × V)).lookup ("ground" : Str) = some v0 := by kernel_rfl
theorem lk_Field_weather : ([("ground", v0), ("weather", v1), ("amount", v2), ("bottom", v3), ("turn_list", v4)] : List (Str × V)).lookup ("weather" : Str) = some v1 := by kernel_rfl
theorem lk_Field_amount : ([("ground", v0), ("weather", v1), ("amount", v2), ("bottom", v3), ("turn_list", v4)] : List (Str × V)).lookup ("amount" : Str) = some v2 := by kernel_rfl
theorem lk_Field_bottom : ([("ground", v0), ("weather", v1), ("amount", v2), ("bottom", v3), ("turn_list", v4)] : List (Str × V)).lookup ("bottom" : Str) = some v3 := by kernel_rfl
theorem lk_Field_turn_list : ([("ground", v0), ("weather", v1), ("amount", v2), ("bottom", v3), ("turn_list", v4)] : List (Str × V)).lookup ("turn_list" : Str) = some v4 := by kernel_rfl
end
/-! ### data of small depth -/
def Sh (n : Nat) (d : PyData) : Prop := d.canLay0 = true ∧ d.depth ≤ n
theorem Sh.ok {n : Nat} {d : PyData} (h : Sh n d) (hn : n ≤ 64) : SeqAt.shaped d = true := by
  show (d.canLay0 && decide (d.depth ≤ 64)) = true
  rw [h.1, decide_eq_true (Nat.le_trans h.2 hn)]
  rfl
theorem sh_int (i : Int) : Sh 0 (.int i) := ⟨by simp [PyData.canLay0], by simp [PyData.depth]⟩
theorem sh_non : Sh 0 .none := ⟨by simp [PyData.canLay0], by simp [PyData.depth]⟩
theorem NameOk.strOk {x : Str} (h : NameOk x) : PyData.strOk x = true := by
  show x.cps.all (· < 0x110000) = true
  rw [Array.all_eq_true]
  intro i hi
  have := h.az x.cps[i] (by simp)
  simp
  omega
theorem sh_str {x : Str} (h : NameOk x) : Sh 0 (.str x) := ⟨by simp only [PyData.canLay0]; exact h.strOk, by simp [PyData.depth]⟩
theorem sh_all {n : Nat} : ∀ {ds : List PyData}, (∀ d ∈ ds, Sh n d) → PyData.canLayAll0 ds = true ∧ PyData.depthAll ds ≤ n
  | [], _ => ⟨by simp [PyData.canLayAll0], by simp [PyData.depthAll]⟩
  | d :: ds, h => by
    have h1 := h d (List.mem_cons_self ..)
    have h2 := sh_all fun e he => h e (List.mem_cons_of_mem _ he)
    refine ⟨by simp only [PyData.canLayAll0, h1.1, h2.1, Bool.and_self], ?_⟩
    simp only [PyData.depthAll]
    have := h1.2
    have := h2.2
    omega
theorem sh_list {n : Nat} {ds : List PyData} (h : ∀ d ∈ ds, Sh n d) : Sh (n + 1) (.list ds) := ⟨by simp only [PyData.canLay0]; exact (sh_all h).1, by simp only [PyData.depth]; have := (sh_all h).2; omega⟩
theorem sh_tup {n : Nat} {ds : List PyData} (h : ∀ d ∈ ds, Sh n d) : Sh (n + 1) (.tuple ds) := ⟨by simp only [PyData.canLay0]; exact (sh_all h).1, by simp only [PyData.depth]; have := (sh_all h).2; omega⟩
theorem sh_ints (l : List Int) : Sh 1 (.tuple (l.map .int)) := sh_tup fun d hd => by
  obtain ⟨i, _, rfl⟩ := List.mem_map.mp hd
  exact sh_int i
theorem sh_names {l : List Str} (h : ∀ x ∈ l, NameOk x) : Sh 1 (.tuple (l.map .str)) := sh_tup fun d hd => by
  obtain ⟨i, hi, rfl⟩ := List.mem_map.mp hd
  exact sh_str (h i hi)
theorem Sh.mono {n m : Nat} {d : PyData} (h : Sh n d) (hn : n ≤ m) : Sh m d := ⟨h.1, Nat.le_trans h.2 hn⟩
section
variable {K : PySem.W.Frag} {H : Hp}
theorem dpAll_map {α : Type} {f : α → V} {g : α → PyData} (h : ∀ a, Dp K H (f a) (g a)) : ∀ xs : List α, DpAll K H (xs.map f) (xs.map g)
  | [] => .nil
  | a :: xs => .cons (h a) (dpAll_map h xs)
theorem dpAll_all2 {α : Type} {R : Addr → α → Prop} {g : α → PyData} (h : ∀ a x, R a x → Dp K H (.ref a) (g x)) : ∀ {as : List Addr} {xs : List α}, All2 R as xs → DpAll K H (as.map V.ref) (xs.map g)
  | [], [], _ => .nil
  | [], _ :: _, h => by have := h.1; simp at this
  | _ :: _, [], h => by have := h.1; simp at this
  | a :: as, x :: xs, r => .cons (h a x (r.2 0 a x rfl rfl)) (dpAll_all2 h ⟨by have := r.1; simpa using this, fun i b c hb hc => r.2 (i + 1) b c hb hc⟩)
theorem dp_ints {a : Addr} {l : List Int} (h : SqT K H a (l.map V.int)) : Dp K H (.ref a) (.tuple (l.map .int)) := .tup h (dpAll_map (fun i => .int i) l)
theorem dp_intsL {a : Addr} {l : List Int} (h : SqL K H a (l.map V.int)) : Dp K H (.ref a) (.list (l.map .int)) := .lst h (dpAll_map (fun i => .int i) l)
theorem dp_names {a : Addr} {l : List Str} (h : NamesT K H a l) : Dp K H (.ref a) (.tuple (l.map .str)) := .tup h (dpAll_map (fun i => .str i) l)
theorem dp_groupsL {a : Addr} {as : List Addr} {gs : List (List Str)} (h : SqL K H a (as.map V.ref)) (r : All2 (NamesT K H) as gs) : Dp K H (.ref a) (.list (gs.map fun g => .tuple (g.map .str))) := .lst h (dpAll_all2 (fun _ _ q => dp_names q) r)
end
theorem eqvAll_ints : ∀ l m : List Int, PyData.eqvAll (l.map .int) (m.map .int) = decide (l = m)
  | [], [] => by simp [PyData.eqvAll]
  | [], _ :: _ => by simp [PyData.eqvAll]
  | _ :: _, [] => by simp [PyData.eqvAll]
  | a :: l, b :: m => by
    simp only [List.map_cons, PyData.eqvAll, PyData.eqv, eqvAll_ints l m]
    by_cases h : a = b
    · simp [h]
    · simp [h]
theorem u65 {k : Nat} {A : Around} (r : Room k A) : A.units + 65 < cLine := by have := r.un; omega
/-! ### heaps -/
theorem Ext.trans {H H1 H2 : Hp} (a : Ext H H1) (b : Ext H1 H2) : Ext H H2 := But.trans a b
/-- what stands behind is written at an address that was free -/
theorem Ext.put {H H1 : Hp} {a : Addr} {o : HO} (x : Ext H H1) (h : H a = none) : Ext H (L2.upd H1 a o) := Ext.of fun c u q => by
  rw [upd_ne (ne_of_none q h)]
  exact x.get q
theorem Ext.none {H H1 : Hp} {a : Addr} (x : Ext H H1) (h : H1 a = none) : H a = none := by
  cases q : H a with
  | none => rfl
  | some o =>
    rw [x.get q] at h
    cases h
/-- what is neither a list nor an instance stays -/
def Tu (H H' : Hp) : Prop := ∀ a o, (∀ xs, o ≠ .lst xs) → (∀ C dx fs, o ≠ .ins C dx fs) → H a = some o → H' a = some o
theorem Mor.tu {H H' : Hp} (m : Mor H H') : Tu H H' := fun a o n _ q => m a o n q
theorem Tu.trans {H H1 H2 : Hp} (a : Tu H H1) (b : Tu H1 H2) : Tu H H2 := fun c o n n2 q => b c o n n2 (a c o n n2 q)
theorem Tu.ins {H : Hp} {x C dx : Addr} {fs : List (Str × V)} {o : HO} (h : H x = some (.ins C dx fs)) : Tu H (L2.upd H x o) := fun a u _ n q => by
  rw [upd_ne (ne_of q h (n C dx fs))]
  exact q
section
variable {K : PySem.W.Frag} {H H' : Hp}
theorem sqT_tu (m : Tu H H') {a : Addr} {xs : List V} (h : SqT K H a xs) : SqT K H' a xs := by
  rcases h with (h | ⟨o, h⟩) | h
  · exact .inl (.inl (m _ _ (fun _ e => nomatch e) (fun _ _ _ e => nomatch e) h))
  · exact .inl (.inr ⟨o, m _ _ (fun _ e => nomatch e) (fun _ _ _ e => nomatch e) h⟩)
  · exact .inr h
theorem GroupsAt.tu (m : Tu H H') {a : Addr} {gs : List (List Str)} (h : GroupsAt K H a gs) : GroupsAt K H' a gs := let ⟨ms, h1, h2⟩ := h; ⟨ms, sqT_tu m h1, h2.imp fun _ _ q => sqT_tu m q⟩
end
/-! ### joined names -/
theorem tl_join_len : ∀ (ps : List Str) (B : Nat), (∀ p ∈ ps, p.length ≤ B) → (Txt.join " " ps).length ≤ ps.length * (B + 1) := by
  intro ps B h
  rw [TL.join_eq, TL.len_tl, TL.tl_join]
  have hS : TL.tl (" " : Str) = [32] := by decide +kernel
  rw [hS]
  have : ∀ qs : List (List Nat), (∀ q ∈ qs, q.length ≤ B) → (TL.joinL [32] qs).length ≤ qs.length * (B + 1) := by
    intro qs
    induction qs with
    | nil => intro _; simp [TL.joinL]
    | cons q qs ih =>
      intro hq
      have h1 := hq q (List.mem_cons_self ..)
      have h2 := ih fun z hz => hq z (List.mem_cons_of_mem _ hz)
      cases qs with
      | nil =>
        show q.length ≤ _
        simp only [List.length_cons, List.length_nil]
        omega
      | cons r rs =>
        show (q ++ ([32] ++ TL.joinL [32] (r :: rs))).length ≤ _
        simp only [List.length_append, List.length_cons, List.length_nil, Nat.add_mul] at h2 ⊢
        omega
  have h3 := this (ps.map TL.tl) (fun q hq => by
    obtain ⟨p, hp, rfl⟩ := List.mem_map.mp hq
    rw [← TL.len_tl]
    exact h p hp)
  simpa using h3
theorem split_names {ys : List Str} (hne : ys ≠ []) (h : ∀ y ∈ ys, NameOk y) : Txt.split (Txt.join " " ys) " " = ys := by
  refine TL.split_join (s := 32) (S := []) (by decide +kernel) (by decide +kernel) hne fun p hp hm => ?_
  have := (h p hp).az 32 hm
  omega
theorem NameOk.len {x : Str} (h : NameOk x) : x.length ≤ 8 := h.l8
theorem sum_len {ys : List Str} (h : ∀ y ∈ ys, NameOk y) : (ys.map (·.length)).sum ≤ ys.length * 8 := by
  induction ys with
  | nil => simp
  | cons y ys ih =>
    have h1 := (h y (List.mem_cons_self ..)).len
    have h2 := ih fun z hz => h z (List.mem_cons_of_mem _ hz)
    simp only [List.map_cons, List.sum_cons, List.length_cons, Nat.add_mul]
    omega
end K17


set_option maxHeartbeats 4000000
/-! K17W3: within, allows, in_order, greatest_groups -/
namespace K17
open PySem PySem.Spec PyProof.Rows L2
theorem decide_notin {x : Str} {l : List Str} : (!inV (.str x) (l.map V.str)) = !decide (x ∈ l) := by rw [inV_str]
section
variable {P : Program} {w : World} {K : PySem.W.Frag} {mg : Str → Option Value} {base : Heap}
def spWithin : Sp := fun vs H Q _ => ∃ (a b : Addr) (l g : List Str), vs = [.ref a, .ref b] ∧ NamesT K H a l ∧ NamesT K H b g ∧ Q (.bl (l.all fun x => decide (x ∈ g))) H
theorem ok_within (T : Txt K mg) : Ok P w K mg base CX0 1 d_within (spWithin (K := K)) := by
  have nd : (["inner", "outer", "name"] : List Str).Nodup := by decide +kernel
  refine mkOk (N := ["inner", "outer", "name"]) (ps := ["inner", "outer"]) T.f_within b_within ⟨rfl, rfl, rfl, nd, rfl, by decide +kernel, by decide +kernel⟩ (fun vs H Q E h => ?_) (fun cdv A outer s H vs Q E hr h => ?_)
  · obtain ⟨a, b, l, g, rfl, _⟩ := h
    rfl
  · obtain ⟨a, b, l, g, rfl, ha, hb, k⟩ := h
    refine ⟨_, pss_cons (ps_for PassesOwn.never rfl (pi_tup (pv 0)) (pg_name (i := 2) nd rfl (Or.inl rfl)) (pss_one (ps_if (pt_cmpR op_notIn_seq (pv 2) (pv 1) rfl) (pss_one (ps_ret pe_bl)) pss_nil))) (pss_one (ps_ret pe_bl)), ?_⟩
    refine ⟨_, rfl, a, rfl, ⟨_, ha⟩, for_tup (xs := l.map V.str) (fun i σ H' => (∃ v, σ = [some (.ref a), some (.ref b), v]) ∧ H' = H ∧ ∀ j y, j < i → l[j]? = some y → y ∈ g) ⟨⟨_, rfl⟩, rfl, fun j y h => by omega⟩ (fun i σ H' hi p => ?_) (fun i x σ H' hx p => ?_) (fun σ H' p => ?_)⟩
    · obtain ⟨_, rfl, _⟩ := p
      exact ha
    · obtain ⟨⟨v, rfl⟩, rfl, p⟩ := p
      obtain ⟨y, hy, rfl⟩ := map_get hx
      refine ⟨_, rfl, _, rfl, b, _, rfl, .inr hb, rfl, flat_str g, _, rfl, ?_⟩
      rw [if_pos rfl, inV_str]
      by_cases c : y ∈ g
      · rw [decide_eq_true c]
        refine iteF ⟨⟨_, rfl⟩, rfl, fun j z hj hz => ?_⟩
        by_cases e : j = i
        · subst e
          rw [hy] at hz
          cases hz
          exact c
        · exact p j z (by omega) hz
      · rw [decide_eq_false c]
        refine iteT ?_
        have e : (l.all fun x => decide (x ∈ g)) = false := by
          rw [List.all_eq_false]
          exact ⟨y, List.mem_of_getElem? hy, by simpa using c⟩
        rw [e] at k
        exact k
    · obtain ⟨⟨v, rfl⟩, rfl, p⟩ := p
      have e : (l.all fun x => decide (x ∈ g)) = true := by
        rw [List.all_eq_true]
        intro x hx
        obtain ⟨j, hj, e⟩ := List.getElem_of_mem hx
        exact decide_eq_true (p j x (by simpa using hj) (by rw [List.getElem?_eq_getElem hj, e]))
      rw [e] at k
      exact k
def spAllows : Sp := fun vs H Q _ => ∃ (a b : Addr) (gs : List (List Str)) (l : List Str), vs = [.ref a, .ref b] ∧ GroupsAt K H a gs ∧ NamesT K H b l ∧ Q (.bl (allowsF gs l)) H
theorem ok_allows (T : Txt K mg) : Ok P w K mg base CX0 2 d_allows (spAllows (K := K)) := by
  have nd : (["groups", "turn", "group"] : List Str).Nodup := by decide +kernel
  refine mkOk (N := ["groups", "turn", "group"]) (ps := ["groups", "turn"]) T.f_allows b_allows ⟨rfl, rfl, rfl, nd, rfl, by decide +kernel, by decide +kernel⟩ (fun vs H Q E h => ?_) (fun cdv A outer s H vs Q E hr h => ?_)
  · obtain ⟨a, b, l, g, rfl, _⟩ := h
    rfl
  · obtain ⟨a, b, gs, l, rfl, ⟨ms, ha, hms⟩, hb, k⟩ := h
    refine ⟨_, pss_cons (ps_if (pt_cmpR op_eq (pe_b call_len_seq T.z_len (pa_cons (pv 1) pa_nil)) pe_int (nomark _)) (pss_one (ps_ret pe_bl)) pss_nil)
      (pss_cons (ps_for PassesOwn.never rfl (pi_tup (pv 0)) (pg_name (i := 2) nd rfl (Or.inl rfl)) (pss_one (ps_if (pt_val (pe_f (ok_within T) T.g_within hr pass0 (pa_cons (pv 1) (pa_cons (pv 2) pa_nil)))) (pss_one (ps_ret pe_bl)) pss_nil)))
      (pss_one (ps_ret pe_bl))), ?_⟩
    refine ⟨_, rfl, b, _, rfl, .inr hb, rfl, _, rfl, ?_⟩
    by_cases hl : l = []
    · subst hl
      rw [decide_eq_true (by rfl)]
      exact iteT k
    · have hl' : l.isEmpty = false := by cases l with | nil => exact absurd rfl hl | cons _ _ => rfl
      rw [decide_eq_false (by
        intro e
        have e2 : ((l.map V.str).length : Int) = 0 := by injection e
        apply hl
        apply List.eq_nil_of_length_eq_zero
        simpa using e2)]
      refine iteF ⟨_, rfl, a, rfl, ⟨_, ha⟩, for_tup (xs := ms.map V.ref) (fun i σ H' => (∃ v, σ = [some (.ref a), some (.ref b), v]) ∧ H' = H ∧ ∀ j g, j < i → gs[j]? = some g → (l.all fun x => decide (x ∈ g)) = false) ⟨⟨_, rfl⟩, rfl, fun j y h => by omega⟩ (fun i σ H' hi p => ?_) (fun i x σ H' hx p => ?_) (fun σ H' p => ?_)⟩
      · obtain ⟨_, rfl, _⟩ := p
        exact ha
      · obtain ⟨⟨v, rfl⟩, rfl, p⟩ := p
        obtain ⟨m, hm, rfl⟩ := map_get hx
        obtain ⟨g, hg, hn⟩ := hms.get' hm
        refine ⟨_, rfl, _, rfl, b, m, l, g, rfl, hb, hn, _, rfl, ?_⟩
        cases c : (l.all fun x => decide (x ∈ g)) with
        | false =>
          refine iteF ⟨⟨_, rfl⟩, rfl, fun j z hj hz => ?_⟩
          by_cases e : j = i
          · subst e
            rw [hg] at hz
            cases hz
            exact c
          · exact p j z (by omega) hz
        | true =>
          refine iteT ?_
          have e : allowsF gs l = true := by
            unfold allowsF
            rw [hl', Bool.false_or, List.any_eq_true]
            exact ⟨g, List.mem_of_getElem? hg, c⟩
          rw [e] at k
          exact k
      · obtain ⟨⟨v, rfl⟩, rfl, p⟩ := p
        have e : allowsF gs l = false := by
          unfold allowsF
          rw [hl', Bool.false_or, List.any_eq_false]
          intro g hg
          obtain ⟨j, hj, e⟩ := List.getElem_of_mem hg
          have := p j g (by have := hms.1; simp; omega) (by rw [List.getElem?_eq_getElem hj, e])
          rw [this]
          exact Bool.false_ne_true
        rw [e] at k
        exact k
def spInOrder : Sp := fun vs H Q _ => ∃ (a : Addr) (l : List Str), vs = [.ref a] ∧ SqL K H a (l.map V.str) ∧ l.length ≤ 8 ∧ (∀ x ∈ l, NameOk x) ∧ ∀ (ys : List Str) H', ys.Perm l → Ext H H' → Q (.str (Txt.join " " ys)) H'
theorem ok_inorder (T : Txt K mg) : Ok P w K mg base CX0 1 d_inorder (spInOrder (K := K)) := by
  have nd : (["group", "name"] : List Str).Nodup := by decide +kernel
  refine mkOk (N := ["group", "name"]) (ps := ["group"]) T.f_inorder b_inorder ⟨rfl, rfl, rfl, nd, rfl, by decide +kernel, by decide +kernel⟩ (fun vs H Q E h => ?_) (fun cdv A outer s H vs Q E hr h => ?_)
  · obtain ⟨a, l, rfl, _⟩ := h
    rfl
  · obtain ⟨a, l, rfl, ha, h8, hn, k⟩ := h
    refine ⟨_, pss_one (ps_ret (pe_join pe_str (pe_b cr_sortedS T.z_sorted (pa_cons (pe_lc (own := [("name", 1)]) (g := gName 1) (tt := tYes) rfl nd (pi_list (pv 0)) (blkOk_by (N := ["group", "name"]) (sc := defScope s_inorder) (by decide +kernel)) (fun _ _ _ _ _ => pg_name (i := 1) nd rfl (Or.inl rfl)) (fun _ _ _ _ _ => pts_nil)
      (fun _ _ _ _ _ => pe_ty SkE.call_str_str T.z_str (pa_cons (pv 1) pa_nil))) pa_nil)))), ?_⟩
    refine ⟨⟨_, rfl⟩, _, rfl, a, rfl, ⟨_, ha⟩, fun D hD => lc_list (xs := l.map V.str) (fun i H' => Ext H H' ∧ H' D = some (.lst ((l.take i).map V.str))) ⟨(Ext.refl H).put hD, upd_same⟩ (fun i H' hi p => sqL_ext p.1 ha) (fun i x H' hx p => ?_) (fun H' p => ?_)⟩
    · obtain ⟨y, hy, rfl⟩ := map_get hx
      have hi : i < l.length := (List.getElem?_eq_some_iff.mp hy).1
      refine ⟨rfl, _, rfl, y, rfl, _, p.2, Nat.lt_of_lt_of_le (show _ < 1000 by rw [List.length_map, List.length_take]; omega) (by decide), p.1.put hD, ?_⟩
      rw [upd_same, show l.take (i + 1) = l.take i ++ [y] by rw [List.take_succ, hy]; rfl, List.map_append]
      rfl
    · obtain ⟨x1, x2⟩ := p
      rw [List.length_map, List.take_length] at x2
      refine ⟨D, l, rfl, SqL.of x2, by omega, fun ys p hp _ hp0 => ⟨" ", p, ys, rfl, rfl, .inl (SqL.of upd_same), ?_, k ys _ hp (x1.put (x1.none hp0))⟩⟩
      have h1 := sum_len fun y hy => hn y (hp.mem_iff.mp hy)
      have h2 := hp.length_eq
      have h3 : (" " : Str).length = 1 := by decide +kernel
      rw [h3]
      omega
end
end K17


set_option maxHeartbeats 4000000
/-! K17W4: greatest_groups -/
namespace K17
open PySem PySem.Spec PyProof.Rows L2
/-- a joined text of names out of NS -/
def TextOk (NS : List Str) (t : Str) : Prop := ∃ ys : List Str, t = Txt.join " " ys ∧ (∀ y ∈ ys, y ∈ NS) ∧ ys.length ≤ 8
section
variable {P : Program} {w : World} {K : PySem.W.Frag} {mg : Str → Option Value} {base : Heap}
/-- the rows that stand in the list l so far -/
def Rows (K : PySem.W.Frag) (NS : List Str) (H : Hp) (l : Addr) (n : Nat) : Prop := ∃ (as : List Addr) (gs : List (List Str)), H l = some (.lst (as.map V.ref)) ∧ All2 (NamesT K H) as gs ∧ (∀ g ∈ gs, ∀ x ∈ g, x ∈ NS) ∧ as.length ≤ n
theorem Rows.mor {NS : List Str} {H H' : Hp} {l : Addr} {n : Nat} (h : Rows K NS H l n) (m : Mor H H') (e : H' l = H l) : Rows K NS H' l n := by
  obtain ⟨as, gs, h1, h2, h3, h4⟩ := h
  exact ⟨as, gs, by rw [e]; exact h1, h2.imp fun _ _ q => sqT_mor m q, h3, h4⟩
def spGreatest (K : PySem.W.Frag) : Sp := fun vs H Q _ => ∃ (a : Addr) (ms : List Addr) (NS : List Str), vs = [.ref a] ∧ SqT K H a (ms.map V.ref) ∧ ms.length ≤ 8 ∧ (∀ m ∈ ms, ∃ l : List Str, SqL K H m (l.map V.str) ∧ l.length ≤ 8 ∧ ∀ x ∈ l, x ∈ NS) ∧ (∀ x ∈ NS, NameOk x) ∧
  ∀ (t : Addr) gs H', Ext H H' → GroupsAt K H' t gs → (∀ g ∈ gs, ∀ x ∈ g, x ∈ NS) → Q (.ref t) H'
theorem ok_greatest (T : Txt K mg) : Ok P w K mg base CX0 2 d_greatest (spGreatest K) := by
  have nd : (["groups", "found", "text", "names", "kept", "wider", "group", "other"] : List Str).Nodup := by decide +kernel
  refine mkOk (N := ["groups", "found", "text", "names", "kept", "wider", "group", "other"]) (ps := ["groups"]) T.f_greatest b_greatest ⟨rfl, rfl, rfl, nd, rfl, by decide +kernel, by decide +kernel⟩ (fun vs H Q E h => ?_) (fun cdv A outer s H vs Q E hr h => ?_)
  · obtain ⟨a, ms, NS, rfl, _⟩ := h
    rfl
  · obtain ⟨a, ms, NS, rfl, ha, hm8, hms, hNS, k⟩ := h
    refine ⟨_, pss_cons (ps_set (i := 1) nd rfl (Or.inl rfl) (pe_lst pa_nil))
      (pss_cons (ps_for PassesOwn.never rfl (pi_list (pe_b cr_sortedS T.z_sorted (pa_cons (pe_lc (own := [("group", 6)]) (g := gName 6) (tt := tYes) rfl nd (pi_tup (pv 0)) (blkOk_by (N := ["groups", "found", "text", "names", "kept", "wider", "group", "other"]) (sc := defScope s_greatest) (by decide +kernel))
            (fun _ _ _ _ _ => pg_name (i := 6) nd rfl (Or.inl rfl)) (fun _ _ _ _ _ => pts_nil) (fun _ _ _ _ _ => pe_ty SkE.call_str_str T.z_str (pa_cons (pe_f (ok_inorder T) T.g_inorder hr pass0 (pa_cons (pv 6) pa_nil)) pa_nil))) pa_nil))) (pg_name (i := 2) nd rfl (Or.inl rfl))
          (pss_cons (ps_set (i := 3) nd rfl (Or.inr rfl) (pe_ty call_tuple_of T.z_tuple (pa_cons (pe_split (pv 2) pe_str) pa_nil)))
          (pss_one (ps_if (PW.pt (pw_and (pt_cmpR op_ne (pv 2) pe_str (nomark _)) (pw_and1 (pt_cmpR (op_notInD (u65 hr)) (pv 3) (pv 1) rfl)))) (pss_one (ps_expr (pe_bm PySem.F.plainAttrs_list PySem.F.slot_list_append PySem.F.type_list_append mt_append (pv 1) (pa_cons (pv 3) pa_nil)))) pss_nil))))
      (pss_cons (ps_set (i := 4) nd rfl (Or.inl rfl) (pe_lst pa_nil))
      (pss_cons (ps_for PassesOwn.never rfl (pi_list (pv 1)) (pg_name (i := 3) nd rfl (Or.inr rfl))
          (pss_cons (ps_setLc (i := 5) (own := [("other", 7)]) (g := gName 7) rfl nd rfl rfl (sw_true rfl rfl rfl (by decide +kernel)) (pi_list (pv 1)) (blkOk_by (N := ["groups", "found", "text", "names", "kept", "wider", "group", "other"]) (sc := defScope s_greatest) (by decide +kernel))
            (fun _ _ _ _ _ => pg_name (i := 7) nd rfl (Or.inl rfl)) (fun _ _ _ _ _ => pts_one (PW.pt (pw_and (pt_cmpR (r := rNeD K) (op_neD (by exact hr.units)) (pv 7) (pv 3) (nomark _)) (pw_and1 (pt_val (pe_f (ok_within T) T.g_within hr pass0 (pa_cons (pv 3) (pa_cons (pv 7) pa_nil)))))))) (fun _ _ _ _ _ => pv 7))
          (pss_one (ps_if (pt_cmpR op_eq (pe_b call_len_seq T.z_len (pa_cons (pv 5) pa_nil)) pe_int (nomark _)) (pss_one (ps_expr (pe_bm PySem.F.plainAttrs_list PySem.F.slot_list_append PySem.F.type_list_append mt_append (pv 4) (pa_cons (pv 3) pa_nil)))) pss_nil))))
      (pss_one (ps_ret (pe_ty call_tuple_of T.z_tuple (pa_cons (pv 4) pa_nil))))))), ?_⟩
    refine ⟨Nat.zero_le _, fun L hL => ?_⟩
    have e1 : Ext H (upd H L (.lst [])) := Ext.upd hL
    refine ⟨_, rfl, a, rfl, ⟨_, sqT_mor e1.mor ha⟩, fun D hD => lc_tup (K := K) (a := a) (xs := ms.map V.ref) (fun i H' => Ext H H' ∧ H' L = some (.lst []) ∧ ∃ ts : List Str, H' D = some (.lst (ts.map V.str)) ∧ ts.length = i ∧ ∀ t ∈ ts, TextOk NS t) ?_ (fun i H' hi p => sqT_mor p.1.mor ha) (fun i x H' hx p => ?_) (fun H' p => ?_)⟩
    · have n1 : L ≠ D := by
        intro e
        subst e
        rw [upd_same] at hD
        cases hD
      exact ⟨e1.put (e1.none hD), by rw [upd_ne n1, upd_same], [], upd_same, rfl, fun _ h => nomatch h⟩
    · obtain ⟨x1, hLn, ts, hD2, htl, hts⟩ := p
      obtain ⟨m, hm, rfl⟩ := map_get hx
      obtain ⟨l, hl, hl8, hlN⟩ := hms m (List.mem_of_getElem? hm)
      have hi : i < ms.length := (List.getElem?_eq_some_iff.mp hm).1
      refine ⟨rfl, _, rfl, m, l, rfl, sqL_ext x1 hl, hl8, fun x hx => hNS x (hlN x hx), fun ys H2 hp x2 => ⟨_, rfl, _, x2.get hD2, Nat.lt_of_lt_of_le (show _ < 1000 by rw [List.length_map]; omega) (by decide), ?_⟩⟩
      have hDn : H D = none := e1.none hD
      have nLD : L ≠ D := by
        intro e
        subst e
        rw [upd_same] at hD
        cases hD
      refine ⟨(x1.trans x2).put hDn, by rw [upd_ne nLD]; exact x2.get hLn, ts ++ [Txt.join " " ys], by rw [upd_same, List.map_append]; rfl, by simp [htl], fun t ht => ?_⟩
      rcases List.mem_append.mp ht with h | h
      · exact hts t h
      · have e : t = Txt.join " " ys := by simpa using h
        exact ⟨ys, e, fun y hy => hlN y (hp.mem_iff.mp hy), by rw [hp.length_eq]; exact hl8⟩
    · obtain ⟨x1, hLn, ts, hD2, htl, hts⟩ := p
      have htl : ts.length ≤ 8 := by rw [htl, List.length_map]; exact hm8
      refine ⟨D, ts, rfl, SqL.of hD2, by omega, fun ts' R hperm hsort hR => ?_⟩
      have hts' : ∀ t ∈ ts', TextOk NS t := fun t h => hts t (hperm.mem_iff.mp h)
      have htl' : ts'.length ≤ 8 := by rw [hperm.length_eq]; exact htl
      have nLR : L ≠ R := ne_of_none hLn hR
      have hLH : H L = none := hL
      have hRH : H R = none := x1.none hR
      have x2 := x1.put (o := .lst (ts'.map V.str)) hRH
      refine ⟨R, rfl, ⟨_, SqL.of upd_same⟩, for_list (xs := ts'.map V.str) (fun i σ H' => (∃ v2 v3 : Option V, σ = [some (.ref a), some (.ref L), v2, v3, none, none, none, none]) ∧ Ext H H' ∧ H' R = some (.lst (ts'.map V.str)) ∧ Rows K NS H' L i)
        ⟨⟨_, _, rfl⟩, x2, upd_same, [], [], by rw [upd_ne nLR]; exact hLn, .nil, fun g hg => absurd hg (by simp), Nat.le_refl _⟩ (fun i σ H' hi p => SqL.of p.2.2.1) (fun i x σ H' hx p => ?_) (fun σ H' p => ?_)⟩
      · obtain ⟨⟨v2, v3, rfl⟩, x3, hR3, rows⟩ := p
        obtain ⟨t, ht, rfl⟩ := map_get hx
        have hi : i < ts'.length := (List.getElem?_eq_some_iff.mp ht).1
        obtain ⟨ys, rfl, hys, hy8⟩ := hts' t (List.mem_of_getElem? ht)
        have hyN : ∀ y ∈ ys, NameOk y := fun y hy => hNS y (hys y hy)
        have hlen := tl_join_len ys 8 fun y hy => (hyN y hy).len
        refine ⟨_, rfl, ⟨_, rfl⟩, _, _, rfl, rfl, by decide +kernel, Nat.le_trans (show _ ≤ 1000 by omega) (by decide), fun p hp => ⟨p, _, rfl, .inl ⟨SqL.of upd_same, fun q hq => ?_⟩⟩⟩
        have hpH : H p = none := x3.none hp
        have x4 := x3.put (o := .lst ((Txt.split (Txt.join " " ys) " ").map V.str)) hpH
        have hqH : H q = none := x4.none hq
        have x5 := x4.put (o := .tup ((Txt.split (Txt.join " " ys) " ").map V.str)) hqH
        have m5 : Mor H' (upd (upd H' p (.lst ((Txt.split (Txt.join " " ys) " ").map V.str))) q (.tup ((Txt.split (Txt.join " " ys) " ").map V.str))) := (Mor.new hp).trans (Mor.new hq)
        have nRp : R ≠ p := ne_of_none hR3 hp
        have nRq : R ≠ q := ne_of_none (by rw [upd_ne nRp]; exact hR3) hq
        obtain ⟨as, gs, hL3, hag, hgs, hal⟩ := rows
        have nLp : L ≠ p := ne_of_none hL3 hp
        have nLq : L ≠ q := ne_of_none (by rw [upd_ne nLp]; exact hL3) hq
        have hR5 : (upd (upd H' p (.lst ((Txt.split (Txt.join " " ys) " ").map V.str))) q (.tup ((Txt.split (Txt.join " " ys) " ").map V.str))) R = some (.lst (ts'.map V.str)) := by rw [upd_ne nRq, upd_ne nRp]; exact hR3
        have hL5 : (upd (upd H' p (.lst ((Txt.split (Txt.join " " ys) " ").map V.str))) q (.tup ((Txt.split (Txt.join " " ys) " ").map V.str))) L = some (.lst (as.map V.ref)) := by rw [upd_ne nLq, upd_ne nLp]; exact hL3
        have hag5 := hag.imp fun a b q => sqT_mor m5 q
        have rows5 : Rows K NS (upd (upd H' p (.lst ((Txt.split (Txt.join " " ys) " ").map V.str))) q (.tup ((Txt.split (Txt.join " " ys) " ").map V.str))) L (i + 1) := ⟨as, gs, hL5, hag5, hgs, by omega⟩
        have hq5 : (upd (upd H' p (.lst ((Txt.split (Txt.join " " ys) " ").map V.str))) q (.tup ((Txt.split (Txt.join " " ys) " ").map V.str))) q = some (.tup ((Txt.split (Txt.join " " ys) " ").map V.str)) := upd_same
        revert x5 m5 hR5 hL5 hag5 rows5 hq5
        generalize (upd (upd H' p (.lst ((Txt.split (Txt.join " " ys) " ").map V.str))) q (.tup ((Txt.split (Txt.join " " ys) " ").map V.str))) = H5
        intro x5 m5 hR5 hL5 hag5 rows5 hq5
        refine ⟨_, rfl, rfl, _, rfl, ?_⟩
        by_cases hne : ys = []
        · subst hne
          rw [decide_eq_true (by decide +kernel)]
          exact iteF ⟨⟨_, _, rfl⟩, x5, hR5, rows5⟩
        · cases decide (V.str (Txt.join " " ys) = V.str "")
          case true => exact iteF ⟨⟨_, _, rfl⟩, x5, hR5, rows5⟩
          refine iteT ?_
          rw [split_names hne hyN] at hq5
          have hgN : ∀ g ∈ gs, ∀ x ∈ g, NameOk x := fun g hg x hx => hNS x (hgs g hg x hx)
          refine ⟨_, rfl, _, rfl, _, _, dp_names (SqT.of hq5), dp_groupsL (SqL.of hL5) hag5, (sh_names hyN).ok (by omega), (sh_list (n := 1) fun d hd => ?_).ok (by omega), _, rfl, ite2 (fun _ => ?_) (fun _ => ⟨⟨_, _, rfl⟩, x5, hR5, rows5⟩)⟩
          · obtain ⟨g, hg, rfl⟩ := List.mem_map.mp hd
            exact sh_names (hgN g hg)
          · refine ⟨_, rfl, .inl ⟨rfl, _, SqL.of hL5⟩, _, rfl, L, _, _, rfl, rfl, hL5, Nat.lt_of_lt_of_le (show _ < 1000 by rw [List.length_map]; omega) (by decide), ?_⟩
            have mL := Mor.lst (ys := (as.map V.ref) ++ [.ref q]) hL5
            exact ⟨⟨_, _, rfl⟩, x5.put hLH, by rw [upd_ne nLR.symm]; exact hR5, as ++ [q], gs ++ [ys], by rw [upd_same, List.map_append]; rfl, (hag5.imp fun a b q => sqT_mor mL q).snoc (sqT_mor mL (SqT.of hq5)), fun g hg => by
              rcases List.mem_append.mp hg with h | h
              · exact hgs g h
              · have e : g = ys := by simpa using h
                rw [e]
                exact hys, by simp; omega⟩
      · obtain ⟨⟨v2, v3, rfl⟩, x3, hR3, as, gs, hL3, hag, hgs, hal⟩ := p
        rw [List.length_map] at hal
        have hgN : ∀ g ∈ gs, ∀ x ∈ g, NameOk x := fun g hg x hx => hNS x (hgs g hg x hx)
        refine ⟨Nat.zero_le _, fun M hM => ?_⟩
        have hMH : H M = none := x3.none hM
        have nLM : L ≠ M := ne_of_none hL3 hM
        have x4 := x3.put (o := .lst []) hMH
        refine ⟨_, rfl, L, rfl, ⟨as.map V.ref, SqL.of (by rw [upd_ne nLM]; exact hL3)⟩, for_list (xs := as.map V.ref) (fun i σ H1 => (∃ v2 v3 v5 : Option V, σ = [some (.ref a), some (.ref L), v2, v3, some (.ref M), v5, none, none]) ∧ Ext H H1 ∧ H1 L = some (.lst (as.map V.ref)) ∧ All2 (NamesT K H1) as gs ∧ Rows K NS H1 M i)
          ⟨⟨_, _, _, rfl⟩, x4, by rw [upd_ne nLM]; exact hL3, hag.imp fun _ _ q => sqT_mor (Mor.new hM) q, [], [], upd_same, .nil, fun g hg => absurd hg (by simp), Nat.le_refl _⟩ (fun i σ H1 hi p => SqL.of p.2.2.1) (fun i x σ H1 hx p => ?_) (fun σ H1 p => ?_)⟩
        · obtain ⟨⟨v2, v3, v5, rfl⟩, x5, hL5, hag5, rows⟩ := p
          obtain ⟨m, hm, rfl⟩ := map_get hx
          have hi : i < as.length := (List.getElem?_eq_some_iff.mp hm).1
          obtain ⟨g, hg, hn⟩ := hag5.get' hm
          refine ⟨_, rfl, L, rfl, ⟨_, SqL.of hL5⟩, fun D hD => lc_list (K := K) (a := L) (xs := as.map V.ref) (fun j H2 => Ext H1 H2 ∧ ∃ ws : List V, H2 D = some (.lst ws) ∧ ws.length ≤ j) ⟨Ext.upd hD, [], upd_same, Nat.le_refl _⟩ (fun j H2 hj q => sqL_ext q.1 (SqL.of hL5)) (fun j y H2 hy q => ?_) (fun H2 q => ?_)⟩
          · obtain ⟨x6, ws, hD6, hws⟩ := q
            obtain ⟨m2, hm2, rfl⟩ := map_get hy
            have hj : j < as.length := (List.getElem?_eq_some_iff.mp hm2).1
            obtain ⟨g2, hg2, hn2⟩ := hag5.get' hm2
            have hn' := sqT_mor x6.mor hn
            have hn2' := sqT_mor x6.mor hn2
            have kept : Ext H1 H2 ∧ ∃ ws : List V, H2 D = some (.lst ws) ∧ ws.length ≤ j + 1 := ⟨x6, ws, hD6, by omega⟩
            refine ⟨rfl, _, rfl, _, rfl, _, _, dp_names hn2', dp_names hn', (sh_names (hgN g2 (List.mem_of_getElem? hg2))).ok (by omega), (sh_names (hgN g (List.mem_of_getElem? hg))).ok (by omega), _, rfl, ite2 (fun _ => ?_) (fun _ => iteF kept)⟩
            refine ⟨_, rfl, _, rfl, m, m2, g, g2, rfl, hn', hn2', _, rfl, ite2 (fun _ => ?_) (fun _ => kept)⟩
            exact ⟨_, rfl, ws, hD6, Nat.lt_of_lt_of_le (show _ < 1000 by omega) (by decide), x6.put hD, ws ++ [.ref m2], upd_same, by simp; omega⟩
          · obtain ⟨x6, ws, hD6, hws⟩ := q
            have hL6 := x6.get hL5
            obtain ⟨ks, hs, hM6, hk, hkN, hkl⟩ := rows
            have hM6 := x6.get hM6
            have rows6 : Rows K NS H2 M (i + 1) := ⟨ks, hs, hM6, hk.imp fun _ _ q => sqT_mor x6.mor q, hkN, by omega⟩
            have hag6 := hag5.imp fun _ _ q => sqT_mor x6.mor q
            refine ⟨_, rfl, D, ws, rfl, .inl (SqL.of hD6), rfl, _, rfl, ite2 (fun _ => ?_) (fun _ => ⟨⟨_, _, _, rfl⟩, x5.trans x6, hL6, hag6, rows6⟩)⟩
            refine ⟨_, rfl, .inl ⟨rfl, _, SqL.of hM6⟩, _, rfl, M, _, _, rfl, rfl, hM6, Nat.lt_of_lt_of_le (show _ < 1000 by rw [List.length_map]; omega) (by decide), ?_⟩
            have mM := Mor.lst (ys := (ks.map V.ref) ++ [.ref m]) hM6
            refine ⟨⟨_, _, _, rfl⟩, (x5.trans x6).put hMH, by rw [upd_ne nLM]; exact hL6, hag6.imp fun _ _ q => sqT_mor mM q, ks ++ [m], hs ++ [g], by rw [upd_same, List.map_append]; rfl, (hk.imp fun _ _ q => sqT_mor mM (sqT_mor x6.mor q)).snoc (sqT_mor mM (sqT_mor x6.mor hn)), fun z hz => ?_, by simp; omega⟩
            rcases List.mem_append.mp hz with h | h
            · exact hkN z h
            · have e : z = g := by simpa using h
              rw [e]
              exact hgs g (List.mem_of_getElem? hg)
        · obtain ⟨⟨v2, v3, v5, rfl⟩, x5, hL5, hag5, ks, hs, hM5, hk, hkN, hkl⟩ := p
          refine ⟨_, rfl, M, _, rfl, .inl ⟨SqL.of hM5, fun t ht => ?_⟩⟩
          exact k t hs _ (x5.put (x5.none ht)) ⟨ks, SqT.of upd_same, hk.imp fun _ _ q => sqT_mor (Mor.new ht) q⟩ hkN
end
end K17


set_option maxHeartbeats 4000000
/-! K17W5: Gates -/
namespace K17
open PySem PySem.Spec PyProof.Rows L2
theorem cutV_take {xs : List V} {i : Nat} (h : i ≤ xs.length) : cutV xs none (some (i : Int)) = xs.take i := by
  unfold cutV
  have h1 : HT.sIx xs.length 0 none = 0 := rfl
  have h2 : HT.sIx xs.length xs.length (some (i : Int)) = i := by
    simp only [HT.sIx]
    split <;> (try split) <;> (try split) <;> omega
  rw [h1, h2]
  simp
/-- def f(self, *v) -/
def spStar (sp : Sp) : Sp := fun vs H Q E => ∃ (ws : List V) (rest : List V), vs = ws ++ rest ∧ ws.length = 1 ∧ rest.length ≤ sizeLine ∧ ∀ p, H p = none → sp (ws ++ [V.ref p]) (upd H p (.tup rest)) Q E
section
variable {P : Program} {w : World} {K : PySem.W.Frag} {mg : Str → Option Value} {base : Heap}
theorem mkStar {k : Nat} {d : DefP} {sp : Sp} {N : List Str} {p1 pv : Str} (F : ∃ fd, FnD K d fd) (S : FnScope N [p1, pv] d.scope)
    (h0 : ∀ kV doc pm an cdv ct a, bindArgs (PySem.W.fnOf d.name d.qual d.params d.body d.scope .none kV doc pm an cdv ct) ⟨[a], []⟩ = (newTuple [] >>= fun t => pure [(p1, a), (pv, t)]))
    (h1 : ∀ kV doc pm an cdv ct a r rs, bindArgs (PySem.W.fnOf d.name d.qual d.params d.body d.scope .none kV doc pm an cdv ct) ⟨a :: r :: rs, []⟩ = (newTuple (r :: rs) >>= fun t => pure [(p1, a), (pv, t)]))
    (hbody : ∀ (cdv : Value) (A : Around) (outer : List Env) (s : Shared) (H : Hp) (vs : List V) (Q : VK) (E : XK), Room k (A.deeper (envOfC d.qual d.scope s.heap.objs.size (d.at_ K) cdv)) → sp vs H Q E →
      ∃ t, PSs (cxOf CX0 P w K mg base N d.qual d.scope (d.at_ K) cdv A outer s H E).nox d.body t ∧ t { nx := fun _ H' => Q .non H', rt := Q } (start N vs) H) : Ok P w K mg base CX0 (k + 1) d (spStar sp) := by
  obtain ⟨fd, F⟩ := F
  obtain ⟨oc, od, dV, kV, doc, pm, an, cdv, ct, osl, rfl, lk, hcd, hD, _⟩ := F.ex
  obtain ⟨_, rfl⟩ | ⟨hD, _⟩ := hD
  case inr => exact absurd rfl hD
  refine ⟨StX.fn_star (N := N) (ps := [p1]) (pv := pv) (sp := sp) lk hcd S StX.cxUp_none (StX.bind_star1 (B := fun us => bindArgs (PySem.W.fnOf d.name d.qual d.params d.body d.scope .none kV doc pm an cdv ct) ⟨us, []⟩) (h0 _ _ _ _ _ _) (h1 _ _ _ _ _ _)) fun A outer s H vs Q E hr hsp => ?_, F.kp⟩
  obtain ⟨t, a, b⟩ := hbody cdv A outer s H vs Q E hr hsp
  exact ⟨t, a.nox, b⟩
def spGatesB (K : PySem.W.Frag) : Sp := fun vs H Q _ => ∃ (x dx p : Addr) (ms : List Addr) (NS : List Str), vs = [.ref x, .ref p] ∧ H x = some (.ins (CGates K) dx []) ∧ SqT K H p (ms.map V.ref) ∧ ms.length ≤ 8 ∧
  (∀ m ∈ ms, ∃ l : List Str, SqL K H m (l.map V.str) ∧ l.length ≤ 8 ∧ l.Nodup ∧ ∀ x ∈ l, x ∈ NS) ∧ (∀ x ∈ NS, NameOk x) ∧
  ∀ (tg : Addr) gs H', (∀ a o, a ≠ x → H a = some o → H' a = some o) → H' x = some (.ins (CGates K) dx [("groups", .ref tg)]) → GroupsAt K H' tg gs → (∀ g ∈ gs, ∀ x ∈ g, x ∈ NS) → Q .non H'
theorem ok_gatesI (T : Txt K mg) : Ok P w K mg base CX0 3 d_gatesI (spStar (spGatesB K)) := by
  have nd : (["self", "groups", "group", "name", "at"] : List Str).Nodup := by decide +kernel
  refine mkStar (N := ["self", "groups", "group", "name", "at"]) (p1 := "self") (pv := "groups") T.f_gatesI ⟨rfl, rfl, rfl, nd, rfl, by decide +kernel, by decide +kernel⟩ (fun _ _ _ _ _ _ _ => rfl) (fun _ _ _ _ _ _ _ _ _ => rfl) (fun cdv A outer s H vs Q E hr h => ?_)
  obtain ⟨x, dx, p, ms, NS, rfl, hx, hp, hm8, hms, hNS, k⟩ := h
  refine ⟨_, pss_cons (ps_for PassesOwn.never rfl (pi_tup (pv 1)) (pg_name (i := 2) nd rfl (Or.inl rfl))
      (pss_cons (ps_for PassesOwn.never rfl (pi_list (pv 2)) (pg_name (i := 3) nd rfl (Or.inl rfl)) (pss_one (ps_expr (pe_f (ok_chkname T) T.g_chkname hr pass0 (pa_cons (pv 3) pa_nil)))))
      (pss_one (ps_for PassesOwn.never rfl (pi_enum rfl T.z_enumerate (pa_cons (pv 2) pa_nil)) (pg_tup rfl (pgs_cons (pg_name (i := 4) nd rfl (Or.inl rfl)) (pgs_cons (pg_name (i := 3) nd rfl (Or.inl rfl)) pgs_nil)))
        (pss_one (ps_if (pt_cmpR op_in_seq (pv 3) (pe_slice sl_list (pv 2) po_none (po_some (pv 4))) rfl) (pss_one ps_never) pss_nil))))))
    (pss_one (ps_fld (pv 0) (pe_f (ok_greatest T) T.g_greatest hr pass0 (pa_cons (pv 1) pa_nil)) rfl)), ?_⟩
  refine ⟨_, rfl, p, rfl, ⟨_, hp⟩, for_tup (xs := ms.map V.ref) (fun i σ H' => (∃ v2 v3 v4 : Option V, σ = [some (.ref x), some (.ref p), v2, v3, v4]) ∧ Ext H H') ⟨⟨_, _, _, rfl⟩, Ext.refl H⟩ (fun i σ H' hi q => sqT_mor q.2.mor hp) (fun i y σ H' hy q => ?_) (fun σ H' q => ?_)⟩
  · obtain ⟨⟨v2, v3, v4, rfl⟩, x1⟩ := q
    obtain ⟨m, hm, rfl⟩ := map_get hy
    obtain ⟨l, hl, hl8, hnd, hlN⟩ := hms m (List.mem_of_getElem? hm)
    refine ⟨_, rfl, m, rfl, ⟨_, sqL_ext x1 hl⟩, for_list (xs := l.map V.str) (fun j σ H2 => (∃ v3 : Option V, σ = [some (.ref x), some (.ref p), some (.ref m), v3, v4]) ∧ Ext H H2) ⟨⟨_, rfl⟩, x1⟩ (fun j σ H2 hj q => sqL_ext q.2 hl) (fun j z σ H2 hz q => ?_) (fun σ H2 q => ?_)⟩
    · obtain ⟨⟨v3, rfl⟩, x2⟩ := q
      obtain ⟨c, hc, rfl⟩ := map_get hz
      exact ⟨_, rfl, c, rfl, hNS c (hlN c (List.mem_of_getElem? hc)), ⟨_, rfl⟩, x2⟩
    · obtain ⟨⟨v3, rfl⟩, x2⟩ := q
      refine ⟨_, rfl, m, l.map V.str, rfl, sqL_ext x2 hl, for_it walk_enum (fun j σ H2 => (∃ v3 v4 : Option V, σ = [some (.ref x), some (.ref p), some (.ref m), v3, v4]) ∧ Ext H H2) ⟨⟨_, _, rfl⟩, x2⟩ (fun j σ H2 hj q => sqL_ext q.2 hl) (fun j z σ H2 H3 hj q yy => ?_) (fun σ H2 q => ?_)⟩
      · obtain ⟨⟨v3, v4, rfl⟩, x2⟩ := q
        obtain ⟨t, a, b, rfl, ht, rfl, ea, eb⟩ := yy
        obtain rfl := Option.some.inj ea
        obtain ⟨c, hc, rfl⟩ := map_get eb
        have x3 := x2.put (o := .tup [.int (j : Nat), .str c]) (x2.none ht)
        refine ⟨t, _, rfl, SqT.of upd_same, rfl, _, _, rfl, _, _, rfl, rfl, _, rfl, _, rfl, _, rfl, _, rfl, m, l.map V.str, rfl, sqL_ext x3 hl, fun u hu => ⟨u, _, rfl, .inl (SqL.of upd_same), rfl, ?_, _, rfl, ?_⟩⟩
        · rw [cutV_take (by omega), ← List.map_take]
          exact flat_str _
        · rw [cutV_take (by omega), ← List.map_take, if_neg Bool.false_ne_true, inV_str, decide_eq_false]
          · exact iteF ⟨⟨_, _, rfl⟩, x3.put (x3.none hu)⟩
          · intro hmem
            obtain ⟨i', hi', e⟩ := List.getElem_of_mem hmem
            have hi2 : i' < j := by
              rw [List.length_take] at hi'
              omega
            rw [List.getElem_take] at e
            obtain ⟨hj2, e2⟩ := List.getElem?_eq_some_iff.mp hc
            exact (List.pairwise_iff_getElem.mp hnd) i' j (by omega) hj2 hi2 (e.trans e2.symm)
      · obtain ⟨⟨v3, v4, rfl⟩, x2⟩ := q
        exact ⟨⟨_, _, _, rfl⟩, x2⟩
  · obtain ⟨⟨v2, v3, v4, rfl⟩, x1⟩ := q
    refine ⟨_, rfl, p, ms, NS, rfl, sqT_mor x1.mor hp, hm8, fun m hm => ?_, hNS, fun t gs H2 x2 hg hgN => ⟨_, rfl, x, _, dx, _, rfl, x2.get (x1.get hx), T.c_Gates, T.n_Gates_groups, few (by kernel_rfl), ?_⟩⟩
    · obtain ⟨l, hl, hl8, hnd, hlN⟩ := hms m hm
      exact ⟨l, sqL_ext x1 hl, hl8, hlN⟩
    · refine k t gs _ (fun a o n q => ?_) upd_same (hg.tu (Tu.ins (x2.get (x1.get hx)))) hgN
      rw [upd_ne n]
      exact x2.get (x1.get q)
end
end K17


set_option maxHeartbeats 4000000
/-! K17W6: Ground -/
namespace K17
open PySem PySem.Spec PyProof.Rows L2
theorem all2_names {K : PySem.W.Frag} {H : Hp} {as : List Addr} {ps : List Pl} (h : All2 (PlotAt K H) as ps) {i : Nat} {a : Addr} (e : as[i]? = some a) : ∃ p, ps[i]? = some p ∧ ∃ dx, H a = some (.ins (CPlot K) dx (plotF p)) := h.get' e
theorem get_map' {α β : Type} {f : α → β} {xs : List α} {i : Nat} {a : α} (h : xs[i]? = some a) : (xs.map f)[i]? = some (f a) := by rw [List.getElem?_map, h]; rfl
theorem take_succ_map {α β : Type} {f : α → β} {l : List α} {i : Nat} {a : α} (h : l[i]? = some a) : (l.take (i + 1)).map f = (l.take i).map f ++ [f a] := by
  rw [List.take_succ, h]
  simp
theorem nodup_take {l : List Str} (nd : l.Nodup) {j : Nat} {c : Str} (hc : l[j]? = some c) : c ∉ l.take j := by
  intro hmem
  obtain ⟨i', hi', e⟩ := List.getElem_of_mem hmem
  have hi2 : i' < j := by
    rw [List.length_take] at hi'
    omega
  rw [List.getElem_take] at e
  obtain ⟨hj2, e2⟩ := List.getElem?_eq_some_iff.mp hc
  exact (List.pairwise_iff_getElem.mp nd) i' j (by omega) hj2 hi2 (e.trans e2.symm)
section
variable {P : Program} {w : World} {K : PySem.W.Frag} {mg : Str → Option Value} {base : Heap}
/-- Ground(plots, gates, tank) -/
def spGroundI (K : PySem.W.Frag) : Sp := fun vs H Q _ => ∃ (x dx p g : Addr) (as : List Addr) (ps : List Pl) (gs : List (List Str)) (cap : Int), vs = [.ref x, .ref p, .ref g, .int cap] ∧ H x = some (.ins (CGround K) dx []) ∧
  (SqL K H p (as.map V.ref) ∨ SqT K H p (as.map V.ref)) ∧ All2 (PlotAt K H) as ps ∧ 1 ≤ ps.length ∧ ps.length ≤ 4 ∧ (PN ps).Nodup ∧ GatesAt K H g gs ∧ (∀ r ∈ gs, ∀ z ∈ r, z ∈ PN ps) ∧ 0 ≤ cap ∧ cap ≤ 8 ∧
  ∀ (tp tn : Addr) H', (∀ a o, a ≠ x → H a = some o → H' a = some o) → H' x = some (.ins (CGround K) dx (groundF tp tn g cap)) → SqT K H' tp (as.map V.ref) → NamesT K H' tn (PN ps) → Q .non H'
theorem ok_groundI (T : Txt K mg) : Ok P w K mg base CX0 3 d_groundI (spGroundI K) := by
  have nd : (["self", "plots", "gates", "tank", "names", "at", "name", "group", "plot"] : List Str).Nodup := by decide +kernel
  refine mkOk (N := ["self", "plots", "gates", "tank", "names", "at", "name", "group", "plot"]) (ps := ["self", "plots", "gates", "tank"]) T.f_groundI b_groundI ⟨rfl, rfl, rfl, nd, rfl, by decide +kernel, by decide +kernel⟩ (fun vs H Q E h => ?_) (fun cdv A outer s H vs Q E hr h => ?_)
  · obtain ⟨x, dx, p, g, as, ps, gs, cap, rfl, _⟩ := h
    rfl
  · obtain ⟨x, dx, p, g, as, ps, gs, cap, rfl, hx, hp, hap, h1, h4, hnd, hg, hgs, c0, c8, k⟩ := h
    obtain ⟨tu, hU⟩ := T.i_MOST_UNITS_ground
    obtain ⟨tp, hP⟩ := T.i_MOST_PLOTS
    have hal : as.length = ps.length := hap.1
    rcases hp with hp | hp
    · refine ⟨_, pss_cons (ps_expr (pe_f (ok_chknum T) T.g_chknum hr pass0 (pa_cons pe_str (pa_cons (pe_b call_len_seq T.z_len (pa_cons (pv 1) pa_nil)) (pa_cons pe_int (pa_cons (pe_glob (v := .int 4) rfl hP ⟨_, rfl⟩) pa_nil))))))
        (pss_cons (ps_set (i := 4) nd rfl (Or.inl rfl) (pe_ty call_tuple_of T.z_tuple (pa_cons (pe_lc (own := [("plot", 8)]) (g := gName 8) (tt := tYes) rfl nd (pi_list (pv 1)) (blkOk_by (N := ["self", "plots", "gates", "tank", "names", "at", "name", "group", "plot"]) (sc := defScope s_groundI) (by decide +kernel))
            (fun _ _ _ _ _ => pg_name (i := 8) nd rfl (Or.inl rfl)) (fun _ _ _ _ _ => pts_nil) (fun _ _ _ _ _ => pe_fldK K (pv 8) rfl)) pa_nil)))
        (pss_cons (ps_for PassesOwn.never rfl (pi_enumT T.z_enumerate (pa_cons (pv 4) pa_nil)) (pg_tup rfl (pgs_cons (pg_name (i := 5) nd rfl (Or.inl rfl)) (pgs_cons (pg_name (i := 6) nd rfl (Or.inl rfl)) pgs_nil)))
          (pss_one (ps_if (pt_cmpR op_in_seq (pv 6) (pe_slice sl_tup (pv 4) po_none (po_some (pv 5))) rfl) (pss_one ps_never) pss_nil)))
        (pss_cons (ps_for PassesOwn.never rfl (pi_tup (pe_fld (pv 2) rfl)) (pg_name (i := 7) nd rfl (Or.inl rfl))
          (pss_one (ps_for PassesOwn.never rfl (pi_tup (pv 7)) (pg_name (i := 6) nd rfl (Or.inl rfl)) (pss_one (ps_if (pt_cmpR op_notIn_seq (pv 6) (pv 4) rfl) (pss_one ps_never) pss_nil)))))
        (pss_cons (ps_fld (pv 0) (pe_ty call_tuple_of T.z_tuple (pa_cons (pv 1) pa_nil)) rfl)
        (pss_cons (ps_fld (pv 0) (pv 4) rfl)
        (pss_cons (ps_fld (pv 0) (pv 2) rfl)
        (pss_one (ps_fld (pv 0) (pe_f (ok_chknum T) T.g_chknum hr pass0 (pa_cons pe_str (pa_cons (pv 3) (pa_cons pe_int (pa_cons (pe_glob (v := .int 8) rfl hU ⟨_, rfl⟩) pa_nil))))) rfl)))))))), ?_⟩
      refine ⟨_, rfl, p, _, rfl, .inl hp, _, (ps.length : Int), 1, 4, by rw [List.length_map, hal], by omega, by omega, _, rfl, p, rfl, ⟨_, hp⟩, fun D hD => lc_list (K := K) (a := p) (xs := as.map V.ref) (fun i H' => Ext H H' ∧ H' D = some (.lst (((PN ps).take i).map V.str))) ⟨Ext.upd hD, upd_same⟩ (fun i H' hi q => sqL_ext q.1 hp) (fun i y H' hy q => ?_) (fun H' q => ?_)⟩
      · obtain ⟨x1, hD1⟩ := q
        obtain ⟨a, ha, rfl⟩ := map_get hy
        obtain ⟨pl, hpl, pdx, hpa⟩ := all2_names hap ha
        have hi : i < ps.length := (List.getElem?_eq_some_iff.mp hpl).1
        refine ⟨rfl, _, rfl, a, _, pdx, _, _, rfl, x1.get hpa, T.c_Plot, T.n_Plot_name, lk_Plot_name, _, hD1, Nat.lt_of_lt_of_le (show _ < 1000 by rw [List.length_map, List.length_take, List.length_map]; omega) (by decide), x1.put hD, ?_⟩
        rw [upd_same, take_succ_map (get_map' hpl)]
      · obtain ⟨x1, hD1⟩ := q
        rw [List.length_map, List.take_of_length_le (by rw [List.length_map]; omega)] at hD1
        refine ⟨D, _, rfl, .inl ⟨SqL.of hD1, fun t ht => ?_⟩⟩
        have x2 := x1.put (o := .tup ((PN ps).map V.str)) (x1.none ht)
        have htn : NamesT K (upd H' t (.tup ((PN ps).map V.str))) t (PN ps) := SqT.of upd_same
        revert x2 htn
        generalize (upd H' t (.tup ((PN ps).map V.str))) = H2
        intro x2 htn
        refine ⟨_, rfl, t, _, rfl, htn, for_it (walk_enumT (xs := (PN ps).map V.str)) (fun i σ H' => (∃ v5 v6 : Option V, σ = [some (.ref x), some (.ref p), some (.ref g), some (.int cap), some (.ref t), v5, v6, none, none]) ∧ Ext H H' ∧ NamesT K H' t (PN ps)) ⟨⟨_, _, rfl⟩, x2, htn⟩ (fun i σ H' hi q => q.2.2) (fun i y σ H3 H4 hi q yy => ?_) (fun σ H3 q => ?_)⟩
        · obtain ⟨⟨v5, v6, rfl⟩, x3, ht3⟩ := q
          obtain ⟨u, a, b, rfl, hu, rfl, ea, eb⟩ := yy
          obtain rfl := Option.some.inj ea
          obtain ⟨c, hc, rfl⟩ := map_get eb
          have x4 := x3.put (o := .tup [.int (i : Nat), .str c]) (x3.none hu)
          have ht4 := sqT_mor (Mor.new (o := .tup [.int (i : Nat), .str c]) hu) ht3
          have hlt : i < (PN ps).length := (List.getElem?_eq_some_iff.mp hc).1
          refine ⟨u, _, rfl, SqT.of upd_same, rfl, _, _, rfl, _, _, rfl, rfl, _, rfl, _, rfl, _, rfl, _, rfl, t, _, rfl, ht4, ?_, fun z hz => ⟨z, _, rfl, .inr (SqT.of upd_same), rfl, ?_, _, rfl, ?_⟩⟩
          · intro hw
            have h2 := hw.2
            rw [HT.sIx_nat, List.length_map] at h2
            omega
          · rw [cutV_take (by rw [List.length_map]; omega), ← List.map_take]
            exact flat_str _
          · rw [cutV_take (by rw [List.length_map]; omega), ← List.map_take, if_neg Bool.false_ne_true, inV_str, decide_eq_false (nodup_take hnd hc)]
            exact iteF ⟨⟨_, _, rfl⟩, x4.put (x4.none hz), sqT_mor (Mor.new hz) ht4⟩
        · obtain ⟨⟨v5, v6, rfl⟩, x3, ht3⟩ := q
          obtain ⟨gdx, tg, hgi, ms, hms, hmg⟩ := hg
          refine ⟨_, rfl, g, _, gdx, _, _, rfl, x3.get hgi, T.c_Gates, T.n_Gates_groups, lk_Gates_groups, tg, rfl, ⟨_, sqT_mor x3.mor hms⟩, for_tup (xs := ms.map V.ref) (fun i σ H' => (∃ v5 v6 v7 : Option V, σ = [some (.ref x), some (.ref p), some (.ref g), some (.int cap), some (.ref t), v5, v6, v7, none]) ∧ H' = H3) ⟨⟨_, _, _, rfl⟩, rfl⟩ (fun i σ H' hi q => by rw [q.2]; exact sqT_mor x3.mor hms) (fun i y σ H' hy q => ?_) (fun σ H' q => ?_)⟩
          · obtain ⟨⟨v5, v6, v7, rfl⟩, rfl⟩ := q
            obtain ⟨m, hm, rfl⟩ := map_get hy
            obtain ⟨r, hr', hmr⟩ := hmg.get' hm
            have hmr3 := sqT_mor x3.mor hmr
            refine ⟨_, rfl, m, rfl, ⟨_, hmr3⟩, for_tup (xs := r.map V.str) (fun i σ H5 => (∃ v6 : Option V, σ = [some (.ref x), some (.ref p), some (.ref g), some (.int cap), some (.ref t), v5, v6, some (.ref m), none]) ∧ H5 = H') ⟨⟨_, rfl⟩, rfl⟩ (fun i σ H5 hi q => by rw [q.2]; exact hmr3) (fun j y σ H' hy q => ?_) (fun σ H' q => ?_)⟩
            · obtain ⟨⟨v6, rfl⟩, rfl⟩ := q
              obtain ⟨z, hz, rfl⟩ := map_get hy
              refine ⟨_, rfl, _, rfl, t, _, rfl, .inr ht3, rfl, flat_str _, _, rfl, ?_⟩
              rw [if_pos rfl, inV_str, decide_eq_true (hgs r (List.mem_of_getElem? hr') z (List.mem_of_getElem? hz))]
              exact iteF ⟨⟨_, rfl⟩, rfl⟩
            · obtain ⟨⟨v6, rfl⟩, rfl⟩ := q
              exact ⟨⟨_, _, _, rfl⟩, rfl⟩
          · obtain ⟨⟨v5, v6, v7, rfl⟩, rfl⟩ := q
            have x5 := x3
            refine ⟨_, rfl, p, _, rfl, .inl ⟨sqL_ext x5 hp, fun tp htp => ?_⟩⟩
            have x6 := x5.put (o := .tup (as.map V.ref)) (x5.none htp)
            have htp6 : SqT K (upd H' tp (.tup (as.map V.ref))) tp (as.map V.ref) := SqT.of upd_same
            have htn6 := sqT_mor (Mor.new (o := .tup (as.map V.ref)) htp) ht3
            revert x6 htp6 htn6
            generalize (upd H' tp (.tup (as.map V.ref))) = H6
            intro x6 htp6 htn6
            refine ⟨_, rfl, x, _, dx, _, rfl, x6.get hx, T.c_Ground, T.n_Ground_plots, few (by kernel_rfl), ?_⟩
            refine ⟨_, rfl, _, rfl, x, _, dx, _, rfl, upd_same, T.c_Ground, T.n_Ground_names, few (by kernel_rfl), ?_⟩
            refine ⟨_, rfl, _, rfl, x, _, dx, _, rfl, upd_same, T.c_Ground, T.n_Ground_gates, few (by kernel_rfl), ?_⟩
            refine ⟨_, rfl, _, cap, 0, 8, rfl, c0, c8, _, rfl, x, _, dx, _, rfl, upd_same, T.c_Ground, T.n_Ground_reserve, few (by kernel_rfl), ?_⟩
            rw [upd_upd, upd_upd, upd_upd]
            have mi := Tu.ins (o := .ins (CGround K) dx (groundF tp t g cap)) (x6.get hx)
            exact k tp t _ (fun a o n q => by rw [upd_ne n]; exact x6.get q) upd_same (sqT_tu mi htp6) (sqT_tu mi htn6)
    · refine ⟨_, pss_cons (ps_expr (pe_f (ok_chknum T) T.g_chknum hr pass0 (pa_cons pe_str (pa_cons (pe_b call_len_seq T.z_len (pa_cons (pv 1) pa_nil)) (pa_cons pe_int (pa_cons (pe_glob (v := .int 4) rfl hP ⟨_, rfl⟩) pa_nil))))))
        (pss_cons (ps_set (i := 4) nd rfl (Or.inl rfl) (pe_ty call_tuple_of T.z_tuple (pa_cons (pe_lc (own := [("plot", 8)]) (g := gName 8) (tt := tYes) rfl nd (pi_tup (pv 1)) (blkOk_by (N := ["self", "plots", "gates", "tank", "names", "at", "name", "group", "plot"]) (sc := defScope s_groundI) (by decide +kernel))
            (fun _ _ _ _ _ => pg_name (i := 8) nd rfl (Or.inl rfl)) (fun _ _ _ _ _ => pts_nil) (fun _ _ _ _ _ => pe_fldK K (pv 8) rfl)) pa_nil)))
        (pss_cons (ps_for PassesOwn.never rfl (pi_enumT T.z_enumerate (pa_cons (pv 4) pa_nil)) (pg_tup rfl (pgs_cons (pg_name (i := 5) nd rfl (Or.inl rfl)) (pgs_cons (pg_name (i := 6) nd rfl (Or.inl rfl)) pgs_nil)))
          (pss_one (ps_if (pt_cmpR op_in_seq (pv 6) (pe_slice sl_tup (pv 4) po_none (po_some (pv 5))) rfl) (pss_one ps_never) pss_nil)))
        (pss_cons (ps_for PassesOwn.never rfl (pi_tup (pe_fld (pv 2) rfl)) (pg_name (i := 7) nd rfl (Or.inl rfl))
          (pss_one (ps_for PassesOwn.never rfl (pi_tup (pv 7)) (pg_name (i := 6) nd rfl (Or.inl rfl)) (pss_one (ps_if (pt_cmpR op_notIn_seq (pv 6) (pv 4) rfl) (pss_one ps_never) pss_nil)))))
        (pss_cons (ps_fld (pv 0) (pe_ty call_tuple_of T.z_tuple (pa_cons (pv 1) pa_nil)) rfl)
        (pss_cons (ps_fld (pv 0) (pv 4) rfl)
        (pss_cons (ps_fld (pv 0) (pv 2) rfl)
        (pss_one (ps_fld (pv 0) (pe_f (ok_chknum T) T.g_chknum hr pass0 (pa_cons pe_str (pa_cons (pv 3) (pa_cons pe_int (pa_cons (pe_glob (v := .int 8) rfl hU ⟨_, rfl⟩) pa_nil))))) rfl)))))))), ?_⟩
      refine ⟨_, rfl, p, _, rfl, .inr hp, _, (ps.length : Int), 1, 4, by rw [List.length_map, hal], by omega, by omega, _, rfl, p, rfl, ⟨_, hp⟩, fun D hD => lc_tup (K := K) (a := p) (xs := as.map V.ref) (fun i H' => Ext H H' ∧ H' D = some (.lst (((PN ps).take i).map V.str))) ⟨Ext.upd hD, upd_same⟩ (fun i H' hi q => sqT_mor q.1.mor hp) (fun i y H' hy q => ?_) (fun H' q => ?_)⟩
      · obtain ⟨x1, hD1⟩ := q
        obtain ⟨a, ha, rfl⟩ := map_get hy
        obtain ⟨pl, hpl, pdx, hpa⟩ := all2_names hap ha
        have hi : i < ps.length := (List.getElem?_eq_some_iff.mp hpl).1
        refine ⟨rfl, _, rfl, a, _, pdx, _, _, rfl, x1.get hpa, T.c_Plot, T.n_Plot_name, lk_Plot_name, _, hD1, Nat.lt_of_lt_of_le (show _ < 1000 by rw [List.length_map, List.length_take, List.length_map]; omega) (by decide), x1.put hD, ?_⟩
        rw [upd_same, take_succ_map (get_map' hpl)]
      · obtain ⟨x1, hD1⟩ := q
        rw [List.length_map, List.take_of_length_le (by rw [List.length_map]; omega)] at hD1
        refine ⟨D, _, rfl, .inl ⟨SqL.of hD1, fun t ht => ?_⟩⟩
        have x2 := x1.put (o := .tup ((PN ps).map V.str)) (x1.none ht)
        have htn : NamesT K (upd H' t (.tup ((PN ps).map V.str))) t (PN ps) := SqT.of upd_same
        revert x2 htn
        generalize (upd H' t (.tup ((PN ps).map V.str))) = H2
        intro x2 htn
        refine ⟨_, rfl, t, _, rfl, htn, for_it (walk_enumT (xs := (PN ps).map V.str)) (fun i σ H' => (∃ v5 v6 : Option V, σ = [some (.ref x), some (.ref p), some (.ref g), some (.int cap), some (.ref t), v5, v6, none, none]) ∧ Ext H H' ∧ NamesT K H' t (PN ps)) ⟨⟨_, _, rfl⟩, x2, htn⟩ (fun i σ H' hi q => q.2.2) (fun i y σ H3 H4 hi q yy => ?_) (fun σ H3 q => ?_)⟩
        · obtain ⟨⟨v5, v6, rfl⟩, x3, ht3⟩ := q
          obtain ⟨u, a, b, rfl, hu, rfl, ea, eb⟩ := yy
          obtain rfl := Option.some.inj ea
          obtain ⟨c, hc, rfl⟩ := map_get eb
          have x4 := x3.put (o := .tup [.int (i : Nat), .str c]) (x3.none hu)
          have ht4 := sqT_mor (Mor.new (o := .tup [.int (i : Nat), .str c]) hu) ht3
          have hlt : i < (PN ps).length := (List.getElem?_eq_some_iff.mp hc).1
          refine ⟨u, _, rfl, SqT.of upd_same, rfl, _, _, rfl, _, _, rfl, rfl, _, rfl, _, rfl, _, rfl, _, rfl, t, _, rfl, ht4, ?_, fun z hz => ⟨z, _, rfl, .inr (SqT.of upd_same), rfl, ?_, _, rfl, ?_⟩⟩
          · intro hw
            have h2 := hw.2
            rw [HT.sIx_nat, List.length_map] at h2
            omega
          · rw [cutV_take (by rw [List.length_map]; omega), ← List.map_take]
            exact flat_str _
          · rw [cutV_take (by rw [List.length_map]; omega), ← List.map_take, if_neg Bool.false_ne_true, inV_str, decide_eq_false (nodup_take hnd hc)]
            exact iteF ⟨⟨_, _, rfl⟩, x4.put (x4.none hz), sqT_mor (Mor.new hz) ht4⟩
        · obtain ⟨⟨v5, v6, rfl⟩, x3, ht3⟩ := q
          obtain ⟨gdx, tg, hgi, ms, hms, hmg⟩ := hg
          refine ⟨_, rfl, g, _, gdx, _, _, rfl, x3.get hgi, T.c_Gates, T.n_Gates_groups, lk_Gates_groups, tg, rfl, ⟨_, sqT_mor x3.mor hms⟩, for_tup (xs := ms.map V.ref) (fun i σ H' => (∃ v5 v6 v7 : Option V, σ = [some (.ref x), some (.ref p), some (.ref g), some (.int cap), some (.ref t), v5, v6, v7, none]) ∧ H' = H3) ⟨⟨_, _, _, rfl⟩, rfl⟩ (fun i σ H' hi q => by rw [q.2]; exact sqT_mor x3.mor hms) (fun i y σ H' hy q => ?_) (fun σ H' q => ?_)⟩
          · obtain ⟨⟨v5, v6, v7, rfl⟩, rfl⟩ := q
            obtain ⟨m, hm, rfl⟩ := map_get hy
            obtain ⟨r, hr', hmr⟩ := hmg.get' hm
            have hmr3 := sqT_mor x3.mor hmr
            refine ⟨_, rfl, m, rfl, ⟨_, hmr3⟩, for_tup (xs := r.map V.str) (fun i σ H5 => (∃ v6 : Option V, σ = [some (.ref x), some (.ref p), some (.ref g), some (.int cap), some (.ref t), v5, v6, some (.ref m), none]) ∧ H5 = H') ⟨⟨_, rfl⟩, rfl⟩ (fun i σ H5 hi q => by rw [q.2]; exact hmr3) (fun j y σ H' hy q => ?_) (fun σ H' q => ?_)⟩
            · obtain ⟨⟨v6, rfl⟩, rfl⟩ := q
              obtain ⟨z, hz, rfl⟩ := map_get hy
              refine ⟨_, rfl, _, rfl, t, _, rfl, .inr ht3, rfl, flat_str _, _, rfl, ?_⟩
              rw [if_pos rfl, inV_str, decide_eq_true (hgs r (List.mem_of_getElem? hr') z (List.mem_of_getElem? hz))]
              exact iteF ⟨⟨_, rfl⟩, rfl⟩
            · obtain ⟨⟨v6, rfl⟩, rfl⟩ := q
              exact ⟨⟨_, _, _, rfl⟩, rfl⟩
          · obtain ⟨⟨v5, v6, v7, rfl⟩, rfl⟩ := q
            have x5 := x3
            refine ⟨_, rfl, p, _, rfl, .inr ⟨sqT_mor x5.mor hp, ?_⟩⟩
            have htp6 : SqT K H' p (as.map V.ref) := sqT_mor x5.mor hp
            have x6 := x5
            have htn6 := ht3
            refine ⟨_, rfl, x, _, dx, _, rfl, x6.get hx, T.c_Ground, T.n_Ground_plots, few (by kernel_rfl), ?_⟩
            refine ⟨_, rfl, _, rfl, x, _, dx, _, rfl, upd_same, T.c_Ground, T.n_Ground_names, few (by kernel_rfl), ?_⟩
            refine ⟨_, rfl, _, rfl, x, _, dx, _, rfl, upd_same, T.c_Ground, T.n_Ground_gates, few (by kernel_rfl), ?_⟩
            refine ⟨_, rfl, _, cap, 0, 8, rfl, c0, c8, _, rfl, x, _, dx, _, rfl, upd_same, T.c_Ground, T.n_Ground_reserve, few (by kernel_rfl), ?_⟩
            rw [upd_upd, upd_upd, upd_upd]
            have mi := Tu.ins (o := .ins (CGround K) dx (groundF p t g cap)) (x6.get hx)
            exact k p t _ (fun a o n q => by rw [upd_ne n]; exact x6.get q) upd_same (sqT_tu mi htp6) (sqT_tu mi htn6)
end
end K17


set_option maxHeartbeats 4000000
/-! K17W7: capacity, place_of, turns, turn_of -/
namespace K17
open PySem PySem.Spec PyProof.Rows L2
section
variable {P : Program} {w : World} {K : PySem.W.Frag} {mg : Str → Option Value} {base : Heap}
def spCap (K : PySem.W.Frag) : Sp := fun vs H Q _ => ∃ (x : Addr) (ps : List Pl) (gs : List (List Str)) (cap : Int), vs = [.ref x] ∧ GroundAt K H x ps gs cap ∧ Q (.int cap) H
theorem ok_capG (T : Txt K mg) : ∃ fd, FnOk P w K mg base CX0 1 (d_capG.at_ K) fd ["self"] (spCap K) ∧ Binds K fd ["self"] [] := by
  obtain ⟨fd, F⟩ := T.f_capG
  refine ⟨fd, F.ok (N := ["self"]) ⟨rfl, rfl, rfl, by decide +kernel, rfl, by decide +kernel, by decide +kernel⟩ (fun vs H Q E h => ?_) (fun cdv A outer s H vs Q E hr h => ?_), b_capG F⟩
  · obtain ⟨x, ps, gs, cap, rfl, _⟩ := h
    rfl
  · obtain ⟨x, ps, gs, cap, rfl, ⟨dx, tp, tn, g, hx, _⟩, k⟩ := h
    refine ⟨_, pss_one (ps_ret (pe_fld (pv 0) rfl)), ?_⟩
    exact ⟨_, rfl, x, _, dx, _, _, rfl, hx, T.c_Ground, T.n_Ground_reserve, lk_Ground_reserve, k⟩
def spPlaceOf (K : PySem.W.Frag) : Sp := fun vs H Q _ => ∃ (x : Addr) (z : Str) (ps : List Pl) (gs : List (List Str)) (cap : Int), vs = [.ref x, .str z] ∧ GroundAt K H x ps gs cap ∧ z ∈ PN ps ∧ ∀ (i : Int) H', Ext H H' → Q (.int i) H'
theorem ok_placeof (T : Txt K mg) : Ok P w K mg base CX0 1 d_placeof (spPlaceOf K) := by
  have nd : (["self", "name", "at", "known"] : List Str).Nodup := by decide +kernel
  refine mkOk (N := ["self", "name", "at", "known"]) (ps := ["self", "name"]) T.f_placeof b_placeof ⟨rfl, rfl, rfl, nd, rfl, by decide +kernel, by decide +kernel⟩ (fun vs H Q E h => ?_) (fun cdv A outer s H vs Q E hr h => ?_)
  · obtain ⟨x, z, ps, gs, cap, rfl, _⟩ := h
    rfl
  · obtain ⟨x, z, ps, gs, cap, rfl, ⟨dx, tp, tn, g, hx, _, hn, _⟩, hz, k⟩ := h
    refine ⟨_, pss_cons (ps_for PassesOwn.never rfl (pi_enumT T.z_enumerate (pa_cons (pe_fld (pv 0) rfl) pa_nil)) (pg_tup rfl (pgs_cons (pg_name (i := 2) nd rfl (Or.inl rfl)) (pgs_cons (pg_name (i := 3) nd rfl (Or.inl rfl)) pgs_nil)))
      (pss_one (ps_if (pt_cmpR op_eq (pv 3) (pv 1) (nomark _)) (pss_one (ps_ret (pv 2))) pss_nil))) (pss_one ps_never), ?_⟩
    refine ⟨_, rfl, x, _, dx, _, _, rfl, hx, T.c_Ground, T.n_Ground_names, lk_Ground_names, tn, _, rfl, hn, for_it (walk_enumT (xs := (PN ps).map V.str)) (fun i σ H' => (∃ v2 v3 : Option V, σ = [some (.ref x), some (.str z), v2, v3]) ∧ Ext H H' ∧ ∀ j y, j < i → (PN ps)[j]? = some y → y ≠ z) ⟨⟨_, _, rfl⟩, Ext.refl H, fun j y h => by omega⟩
      (fun i σ H' hi q => sqT_mor q.2.1.mor hn) (fun i y σ H3 H4 hi q yy => ?_) (fun σ H3 q => ?_)⟩
    · obtain ⟨⟨v2, v3, rfl⟩, x3, hno⟩ := q
      obtain ⟨u, a, b, rfl, hu, rfl, ea, eb⟩ := yy
      obtain rfl := Option.some.inj ea
      obtain ⟨c, hc, rfl⟩ := map_get eb
      have x4 := x3.put (o := .tup [.int (i : Nat), .str c]) (x3.none hu)
      refine ⟨u, _, rfl, SqT.of upd_same, rfl, _, _, rfl, _, _, rfl, rfl, _, rfl, _, rfl, rfl, _, rfl, ite2 (fun _ => ⟨_, rfl, k _ _ x4⟩) (fun hne => ⟨⟨_, _, rfl⟩, x4, fun j y hj hy => ?_⟩)⟩
      by_cases e : j = i
      · subst e
        rw [hc] at hy
        cases hy
        intro e
        subst e
        exact hne (decide_eq_true rfl)
      · exact hno j y (by omega) hy
    · obtain ⟨⟨v2, v3, rfl⟩, x3, hno⟩ := q
      obtain ⟨j, hj, e⟩ := List.getElem_of_mem hz
      exact absurd e (hno j _ (by rw [List.length_map]; exact hj) (List.getElem?_eq_getElem hj))
/-- turn_of: the turn in the plots' order (an allowed one, in the order already) -/
def spTurnOf (K : PySem.W.Frag) : Sp := fun vs H Q _ => ∃ (x b : Addr) (ps : List Pl) (gs : List (List Str)) (cap : Int) (tu : List Str), vs = [.ref x, .ref b] ∧ GroundAt K H x ps gs cap ∧ NamesT K H b tu ∧ (PN ps).Nodup ∧ ps.length ≤ 4 ∧ tu.Sublist (PN ps) ∧ allowsF gs tu = true ∧
  ∀ t H', Ext H H' → NamesT K H' t tu → Q (.ref t) H'
theorem ok_turnof (T : Txt K mg) : Ok P w K mg base CX0 3 d_turnof (spTurnOf K) := by
  have nd : (["self", "names", "name", "turn"] : List Str).Nodup := by decide +kernel
  refine mkOk (N := ["self", "names", "name", "turn"]) (ps := ["self", "names"]) T.f_turnof b_turnof ⟨rfl, rfl, rfl, nd, rfl, by decide +kernel, by decide +kernel⟩ (fun vs H Q E h => ?_) (fun cdv A outer s H vs Q E hr h => ?_)
  · obtain ⟨x, b, ps, gs, cap, tu, rfl, _⟩ := h
    rfl
  · obtain ⟨x, b, ps, gs, cap, tu, rfl, hg, hb, hnd, h4, hsub, hal, k⟩ := h
    have hg' := hg
    obtain ⟨dx, tp, tn, g, hx, _, hn, gdx, tg, hgi, hgr⟩ := hg'
    refine ⟨_, pss_cons (ps_for PassesOwn.never rfl (pi_tup (pv 1)) (pg_name (i := 2) nd rfl (Or.inl rfl)) (pss_one (ps_expr (pe_m (d := d_placeof) (pv 0) T.c_Ground T.m_placeof (ok_placeof T) (hr.mono (by decide)) pass0 (pa_cons (pv 2) pa_nil)))))
      (pss_cons (ps_set (i := 3) nd rfl (Or.inl rfl) (pe_ty call_tuple_of T.z_tuple (pa_cons (pe_lc (own := [("name", 2)]) (g := gName 2) rfl nd (pi_tup (pe_fld (pv 0) rfl)) (blkOk_by (N := ["self", "names", "name", "turn"]) (sc := defScope s_turnof) (by decide +kernel))
            (fun _ _ _ _ _ => pg_name (i := 2) nd rfl (Or.inl rfl)) (fun _ _ _ _ _ => pts_one (pt_cmpR (r := rIn K false) op_in_seq (pv 2) (pv 1) rfl)) (fun _ _ _ _ _ => pv 2)) pa_nil)))
      (pss_cons (ps_if (PW.pt (pw_or (pt_cmpR op_ne (pe_b call_len_seq T.z_len (pa_cons (pv 3) pa_nil)) (pe_b call_len_seq T.z_len (pa_cons (pv 1) pa_nil)) (nomark _)) (pw_or1 (pt_not (pt_val (pe_f (ok_allows T) T.g_allows hr pass0 (pa_cons (pe_fld (pe_fld (pv 0) rfl) rfl) (pa_cons (pv 3) pa_nil))))))))
        (pss_one ps_never) pss_nil)
      (pss_one (ps_ret (pv 3))))), ?_⟩
    refine ⟨_, rfl, b, rfl, ⟨_, hb⟩, for_tup (xs := tu.map V.str) (fun i σ H' => (∃ v2 : Option V, σ = [some (.ref x), some (.ref b), v2, none]) ∧ Ext H H') ⟨⟨_, rfl⟩, Ext.refl H⟩ (fun i σ H' hi q => sqT_mor q.2.mor hb) (fun i y σ H' hy q => ?_) (fun σ H' q => ?_)⟩
    · obtain ⟨⟨v2, rfl⟩, x1⟩ := q
      obtain ⟨z, hz, rfl⟩ := map_get hy
      exact ⟨_, rfl, x, dx, _, rfl, x1.get hx, by kernel_rfl, _, rfl, x, z, ps, gs, cap, rfl, hg.mor x1.mor, hsub.subset (List.mem_of_getElem? hz), fun i H2 x2 => ⟨⟨_, rfl⟩, x1.trans x2⟩⟩
    · obtain ⟨⟨v2, rfl⟩, x1⟩ := q
      have hn1 := sqT_mor x1.mor hn
      refine ⟨_, rfl, x, _, dx, _, _, rfl, x1.get hx, T.c_Ground, T.n_Ground_names, lk_Ground_names, tn, rfl, ⟨_, hn1⟩, fun D hD => lc_tup (K := K) (a := tn) (xs := (PN ps).map V.str) (fun i H' => Ext H H' ∧ H' D = some (.lst ((((PN ps).take i).filter fun z => decide (z ∈ tu)).map V.str))) ⟨x1.put (x1.none hD), upd_same⟩ (fun i H' hi q => sqT_mor q.1.mor hn) (fun i y H2 hy q => ?_) (fun H2 q => ?_)⟩
      · obtain ⟨x2, hD2⟩ := q
        obtain ⟨z, hz, rfl⟩ := map_get hy
        have hi : i < (PN ps).length := (List.getElem?_eq_some_iff.mp hz).1
        have ht : (PN ps).take (i + 1) = (PN ps).take i ++ [z] := by rw [List.take_succ, hz]; rfl
        refine ⟨rfl, _, rfl, _, rfl, b, _, rfl, .inr (sqT_mor x2.mor hb), rfl, flat_str tu, _, rfl, ?_⟩
        rw [if_neg Bool.false_ne_true, inV_str, ht, List.filter_append]
        by_cases c : z ∈ tu
        · rw [decide_eq_true c]
          refine iteT ⟨_, rfl, _, hD2, Nat.lt_of_lt_of_le (show _ < 1000 by
            rw [List.length_map]
            have := List.length_filter_le (fun z => decide (z ∈ tu)) ((PN ps).take i)
            rw [List.length_take, List.length_map] at this
            omega) (by decide), x2.put (x1.none hD), ?_⟩
          rw [upd_same, List.filter_cons_of_pos (by simpa using c), List.map_append]
          rfl
        · rw [decide_eq_false c]
          refine iteF ⟨x2, ?_⟩
          rw [List.filter_cons_of_neg (by simpa using c)]
          simpa using hD2
      · obtain ⟨x2, hD2⟩ := q
        rw [List.length_map, List.take_length, filter_sub hsub hnd] at hD2
        refine ⟨D, _, rfl, .inl ⟨SqL.of hD2, fun t ht => ?_⟩⟩
        have x3 := x2.put (o := .tup (tu.map V.str)) (x2.none ht)
        have ht3 : NamesT K (upd H2 t (.tup (tu.map V.str))) t tu := SqT.of upd_same
        refine ⟨_, rfl, t, _, rfl, .inr ht3, _, rfl, b, _, rfl, .inr (sqT_mor x3.mor hb), rfl, _, rfl, ?_⟩
        rw [decide_eq_true (by rfl)]
        refine iteF ⟨_, rfl, x, _, dx, _, _, rfl, x3.get hx, T.c_Ground, T.n_Ground_gates, lk_Ground_gates, g, _, gdx, _, _, rfl, x3.get hgi, T.c_Gates, T.n_Gates_groups, lk_Gates_groups, _, rfl, tg, t, gs, tu, rfl, hgr.mor x3.mor, ht3, _, rfl, ?_⟩
        rw [hal]
        exact iteF ⟨_, rfl, k t _ x3 ht3⟩
end
end K17


set_option maxHeartbeats 4000000
/-! K17W8: turns -/
namespace K17
open PySem PySem.Spec PyProof.Rows L2
theorem places_at {n : Nat} (h1 : 1 ≤ n) (h4 : n ≤ 4) : ∃ p : Int, 1 ≤ p ∧ p ≤ 8 ∧ atI [V.int 1, V.int 2, V.int 4, V.int 8] ((n : Int) - 1) = some (V.int p) := by
  have e : n = 1 ∨ n = 2 ∨ n = 3 ∨ n = 4 := by omega
  rcases e with e | e | e | e
  · subst e; exact ⟨1, by omega, by omega, by decide⟩
  · subst e; exact ⟨2, by omega, by omega, by decide⟩
  · subst e; exact ⟨4, by omega, by omega, by decide⟩
  · subst e; exact ⟨8, by omega, by omega, by decide⟩
section
variable {P : Program} {w : World} {K : PySem.W.Frag} {mg : Str → Option Value} {base : Heap}
def TurnOk (ps : List Pl) (gs : List (List Str)) (tu : List Str) : Prop := tu.Sublist (PN ps) ∧ allowsF gs tu = true
def spTurns (K : PySem.W.Frag) : Sp := fun vs H Q _ => ∃ (x : Addr) (ps : List Pl) (gs : List (List Str)) (cap : Int), vs = [.ref x] ∧ GroundAt K H x ps gs cap ∧ 1 ≤ ps.length ∧ ps.length ≤ 4 ∧
  ∀ (L : Addr) (ts : List Addr) (tus : List (List Str)) H', Ext H H' → H L = none → H' L = some (.lst (ts.map V.ref)) → All2 (NamesT K H') ts tus → 1 ≤ tus.length → tus.length ≤ 16 → (∀ tu ∈ tus, TurnOk ps gs tu) → Q (.ref L) H'
theorem ok_turns (T : Txt K mg) : Ok P w K mg base CX0 3 d_turns (spTurns K) := by
  have nd : (["self", "found", "number", "turn", "at", "name"] : List Str).Nodup := by decide +kernel
  refine mkOk (N := ["self", "found", "number", "turn", "at", "name"]) (ps := ["self"]) T.f_turns b_turns ⟨rfl, rfl, rfl, nd, rfl, by decide +kernel, by decide +kernel⟩ (fun vs H Q E h => ?_) (fun cdv A outer s H vs Q E hr h => ?_)
  · obtain ⟨x, ps, gs, cap, rfl, _⟩ := h
    rfl
  · obtain ⟨x, ps, gs, cap, rfl, hg, h1, h4, k⟩ := h
    have hg' := hg
    obtain ⟨dx, tp, tn, g, hx, _, hn, gdx, tg, hgi, hgr⟩ := hg'
    have hnl : ((PN ps).map V.str).length = ps.length := by rw [List.length_map, List.length_map]
    obtain ⟨p, p1, p8, hat⟩ := places_at h1 h4
    refine ⟨_, pss_cons (ps_set (i := 1) nd rfl (Or.inl rfl) (pe_lst pa_nil))
      (pss_cons (ps_for PassesOwn.never rfl (pi_range1 rfl T.z_range (pa_cons (pe_op op_mul pe_int (pe_ix ix_tup (pe_glob (v := .ref (He.ga K "PLACES")) rfl T.gc_PLACES rfl) (pe_op op_sub (pe_b call_len_seq T.z_len (pa_cons (pe_fld (pv 0) rfl) pa_nil)) pe_int) (fun _ _ => rfl))) pa_nil)) (pg_name (i := 2) nd rfl (Or.inr rfl))
        (pss_cons (ps_set (i := 3) nd rfl (Or.inl rfl) (pe_ty call_tuple_of T.z_tuple (pa_cons (pe_lc (own := [("at", 4), ("name", 5)]) (g := gTup K 2 (gCons (gName 4) (gCons (gName 5) gNil))) rfl nd (pi_enumT T.z_enumerate (pa_cons (pe_fld (pv 0) rfl) pa_nil)) (blkOk_by (N := ["self", "found", "number", "turn", "at", "name"]) (sc := defScope s_turns) (by decide +kernel))
            (fun _ _ _ _ _ => pg_tup rfl (pgs_cons (pg_name (i := 4) nd rfl (Or.inl rfl)) (pgs_cons (pg_name (i := 5) nd rfl (Or.inl rfl)) pgs_nil)))
            (fun _ _ _ _ _ => pts_one (pt_cmpR op_eq (pe_op op_mod (pe_op op_fdiv (pv 2) (pe_ix (r := rIxT K) ix_tup (pe_glob (v := .ref (He.ga K "PLACES")) rfl T.gc_PLACES rfl) (pv 4) (fun _ _ => rfl))) pe_int) pe_int (nomark _))) (fun _ _ _ _ _ => pv 5)) pa_nil)))
        (pss_one (ps_if (pt_val (pe_f (ok_allows T) T.g_allows hr pass0 (pa_cons (pe_fld (pe_fld (pv 0) rfl) rfl) (pa_cons (pv 3) pa_nil)))) (pss_one (ps_expr (pe_bm PySem.F.plainAttrs_list PySem.F.slot_list_append PySem.F.type_list_append mt_append (pv 1) (pa_cons (pv 3) pa_nil)))) pss_nil))))
      (pss_one (ps_ret (pv 1)))), ?_⟩
    refine ⟨Nat.zero_le _, fun L hL => ?_⟩
    have x0 : Ext H (upd H L (.lst [])) := Ext.upd hL
    refine ⟨_, rfl, x, _, dx, _, _, rfl, x0.get hx, T.c_Ground, T.n_Ground_names, lk_Ground_names, tn, _, rfl, .inr (sqT_mor x0.mor hn), _, _, rfl, rfl, _, _, _, _, rfl, rfl, T.places _, by rw [hnl]; exact hat, _, _, rfl, rfl, .inl ⟨by decide, by decide⟩, _, rfl, by omega, by omega,
      for_range (lo := 0) (n := (2 * p).toNat) (fun i σ H' => (∃ v2 v3 : Option V, σ = [some (.ref x), some (.ref L), v2, v3, none, none]) ∧ Ext H H' ∧ ∃ (ts : List Addr) (tus : List (List Str)), H' L = some (.lst (ts.map V.ref)) ∧ All2 (NamesT K H') ts tus ∧ tus.length ≤ i ∧ (1 ≤ i → 1 ≤ tus.length) ∧ ∀ tu ∈ tus, TurnOk ps gs tu)
        ⟨⟨_, _, rfl⟩, x0, [], [], upd_same, .nil, Nat.le_refl _, fun h => absurd h (by omega), fun tu h => absurd h (by simp)⟩ (fun i σ H' hi q => ?_) (fun σ H' q => ?_)⟩
    · obtain ⟨⟨v2, v3, rfl⟩, x1, ts, tus, hL1, hts, htl, ht1, htk⟩ := q
      have hn1 := sqT_mor x1.mor hn
      refine ⟨_, rfl, x, _, dx, _, _, rfl, x1.get hx, T.c_Ground, T.n_Ground_names, lk_Ground_names, tn, _, rfl, hn1, fun D hD => lc_it (walk_enumT (xs := (PN ps).map V.str)) (fun j H2 => Ext H' H2 ∧ ∃ acc : List Str, H2 D = some (.lst (acc.map V.str)) ∧ acc.Sublist ((PN ps).take j) ∧ (i = 0 → acc = [])) ⟨Ext.upd hD, [], upd_same, List.nil_sublist _, fun _ => rfl⟩ (fun j H2 hj q => sqT_mor q.1.mor hn1) (fun j y H2 H3 hj q yy => ?_) (fun H2 q => ?_)⟩
      · obtain ⟨x2, acc, hD2, hac, hz⟩ := q
        obtain ⟨u, a, b, rfl, hu, rfl, ea, eb⟩ := yy
        obtain rfl := Option.some.inj ea
        obtain ⟨c, hc, rfl⟩ := map_get eb
        have hj' : j < ps.length := by have := (List.getElem?_eq_some_iff.mp hc).1; rw [List.length_map] at this; exact this
        have x3 := x2.put (o := .tup [.int (j : Nat), .str c]) (x2.none hu)
        have hD3 : (upd H2 u (.tup [.int (j : Nat), .str c])) D = some (.lst (acc.map V.str)) := by rw [upd_ne (ne_of_none hD2 hu)]; exact hD2
        have ht : (PN ps).take (j + 1) = (PN ps).take j ++ [c] := by rw [List.take_succ, hc]; rfl
        obtain ⟨pj, pj1, pj8, hatj⟩ := places_at (n := j + 1) (by omega) (by omega)
        have hatj' : atI [V.int 1, V.int 2, V.int 4, V.int 8] ((j : Nat) : Int) = some (V.int pj) := by
          rw [show ((j : Nat) : Int) = ((j + 1 : Nat) : Int) - 1 by omega]
          exact hatj
        refine ⟨u, _, rfl, SqT.of upd_same, rfl, _, _, rfl, _, _, rfl, rfl, rfl, _, rfl, _, rfl, _, _, _, _, rfl, rfl, T.places _, hatj', _, _, rfl, rfl, ⟨by omega, by omega⟩, _, _, rfl, rfl, (by show (0 : Int) < 2; decide), rfl, _, rfl, ite2 (fun hb => ?_) (fun _ => ?_)⟩
        · refine ⟨_, rfl, _, hD3, ?_, x3.put hD, acc ++ [c], by rw [upd_same, List.map_append]; rfl, by rw [ht]; exact hac.append (List.Sublist.refl _), fun h0 => ?_⟩
          · have := hac.length_le
            rw [List.length_take, List.length_map] at this
            exact Nat.lt_of_lt_of_le (show _ < 1000 by rw [List.length_map]; omega) (by decide)
          · exfalso
            subst h0
            have := of_decide_eq_true hb
            have e2 : ((0 : Int) + ((0 : Nat) : Int)) / pj % 2 = 1 := by injection this
            simp at e2
        · exact ⟨x3, acc, hD3, by rw [ht]; exact hac.trans (List.sublist_append_left _ _), hz⟩
      · obtain ⟨x2, acc, hD2, hac, hz⟩ := q
        refine ⟨D, _, rfl, .inl ⟨SqL.of hD2, fun t ht => ?_⟩⟩
        have x3 := x2.put (o := .tup (acc.map V.str)) (x2.none ht)
        have ht3 : NamesT K (upd H2 t (.tup (acc.map V.str))) t acc := SqT.of upd_same
        have hL3 := x3.get hL1
        have hts3 := hts.imp fun _ _ q => sqT_mor x3.mor q
        revert x3 ht3 hL3 hts3
        generalize (upd H2 t (.tup (acc.map V.str))) = H5
        intro x3 ht3 hL3 hts3
        have xx := x1.trans x3
        refine ⟨_, rfl, x, _, dx, _, _, rfl, xx.get hx, T.c_Ground, T.n_Ground_gates, lk_Ground_gates, g, _, gdx, _, _, rfl, xx.get hgi, T.c_Gates, T.n_Gates_groups, lk_Gates_groups, _, rfl, tg, t, gs, acc, rfl, hgr.mor xx.mor, ht3, _, rfl, ?_⟩
        cases hal : allowsF gs acc with
        | true =>
          refine iteT ⟨_, rfl, .inl ⟨rfl, _, SqL.of hL3⟩, _, rfl, L, _, _, rfl, rfl, hL3, ?_, ?_⟩
          · have := hts.1
            exact Nat.lt_of_lt_of_le (show _ < 1000 by rw [List.length_map]; omega) (by decide)
          · have mL := Mor.lst (ys := (ts.map V.ref) ++ [.ref t]) hL3
            refine ⟨⟨_, _, rfl⟩, xx.put hL, ts ++ [t], tus ++ [acc], by rw [upd_same, List.map_append]; rfl, (hts3.imp fun _ _ q => sqT_mor mL q).snoc (sqT_mor mL ht3), by simp; omega, fun _ => by simp, fun tu htu => ?_⟩
            rcases List.mem_append.mp htu with h | h
            · exact htk tu h
            · have e : tu = acc := by simpa using h
              rw [e]
              exact ⟨hac.trans (List.take_sublist _ _), hal⟩
        | false =>
          refine iteF ⟨⟨_, _, rfl⟩, xx, ts, tus, hL3, hts3, by omega, fun hi1 => ?_, htk⟩
          by_cases h0 : i = 0
          · have := hz h0
            subst this
            cases hal
          · exact ht1 (by omega)
    · obtain ⟨⟨v2, v3, rfl⟩, x1, ts, tus, hL1, hts, htl, ht1, htk⟩ := q
      exact ⟨_, rfl, k L ts tus _ x1 hL hL1 hts (ht1 (by omega)) (by omega) htk⟩
end
end K17


set_option maxHeartbeats 4000000
/-! K17W9: Standing -/
namespace K17
open PySem PySem.Spec PyProof.Rows L2
section
variable {P : Program} {w : World} {K : PySem.W.Frag} {mg : Str → Option Value} {base : Heap}
/-- the standing's own bounds -/
structure StRaw (s : StD) : Prop where
  l1 : 1 ≤ s.levels.length
  l4 : s.levels.length ≤ 4
  lv : ∀ x ∈ s.levels, 0 ≤ x ∧ x ≤ 8
  t0 : 0 ≤ s.tank
  t8 : s.tank ≤ 8
  m0 : 0 ≤ s.mood
  m3 : s.mood ≤ 3
def spStandI (K : PySem.W.Frag) : Sp := fun vs H Q _ => ∃ (x dx l : Addr) (s : StD), vs = [.ref x, .ref l, .int s.tank, .int s.mood] ∧ H x = some (.ins (CStand K) dx []) ∧ SqL K H l (s.levels.map V.int) ∧ StRaw s ∧
  ∀ (tl : Addr) H', (∀ a o, a ≠ x → H a = some o → H' a = some o) → H' x = some (.ins (CStand K) dx (standF tl s)) → SqT K H' tl (s.levels.map V.int) → Q .non H'
theorem ok_standI (T : Txt K mg) : Ok P w K mg base CX0 3 d_standI (spStandI K) := by
  have nd : (["self", "levels", "tank", "mood", "level"] : List Str).Nodup := by decide +kernel
  refine mkOk (N := ["self", "levels", "tank", "mood", "level"]) (ps := ["self", "levels", "tank", "mood"]) T.f_standI b_standI ⟨rfl, rfl, rfl, nd, rfl, by decide +kernel, by decide +kernel⟩ (fun vs H Q E h => ?_) (fun cdv A outer s0 H vs Q E hr h => ?_)
  · obtain ⟨x, dx, l, s, rfl, _⟩ := h
    rfl
  · obtain ⟨x, dx, l, s, rfl, hx, hl, so, k⟩ := h
    refine ⟨_, pss_cons (ps_expr (pe_f (ok_chknum T) T.g_chknum hr pass0 (pa_cons pe_str (pa_cons (pe_b call_len_seq T.z_len (pa_cons (pv 1) pa_nil)) (pa_cons pe_int (pa_cons pe_int pa_nil))))))
      (pss_cons (ps_for PassesOwn.never rfl (pi_list (pv 1)) (pg_name (i := 4) nd rfl (Or.inl rfl)) (pss_one (ps_expr (pe_f (ok_chknum T) T.g_chknum hr pass0 (pa_cons pe_str (pa_cons (pv 4) (pa_cons pe_int (pa_cons pe_int pa_nil))))))))
      (pss_cons (ps_fld (pv 0) (pe_ty call_tuple_of T.z_tuple (pa_cons (pv 1) pa_nil)) rfl)
      (pss_cons (ps_fld (pv 0) (pe_f (ok_chknum T) T.g_chknum hr pass0 (pa_cons pe_str (pa_cons (pv 2) (pa_cons pe_int (pa_cons pe_int pa_nil))))) rfl)
      (pss_one (ps_fld (pv 0) (pe_f (ok_chknum T) T.g_chknum hr pass0 (pa_cons pe_str (pa_cons (pv 3) (pa_cons pe_int (pa_cons pe_int pa_nil))))) rfl))))), ?_⟩
    have l1 := so.l1
    have l4 := so.l4
    refine ⟨_, rfl, l, _, rfl, .inl hl, _, (s.levels.length : Int), 1, 4, by rw [List.length_map], by omega, by omega, _, rfl, l, rfl, ⟨_, hl⟩, for_list (xs := s.levels.map V.int) (fun i σ H' => (∃ v4 : Option V, σ = [some (.ref x), some (.ref l), some (.int s.tank), some (.int s.mood), v4]) ∧ H' = H) ⟨⟨_, rfl⟩, rfl⟩ (fun i σ H' hi q => by rw [q.2]; exact hl) (fun i y σ H' hy q => ?_) (fun σ H' q => ?_)⟩
    · obtain ⟨⟨v4, rfl⟩, rfl⟩ := q
      obtain ⟨z, hz, rfl⟩ := map_get hy
      have := so.lv z (List.mem_of_getElem? hz)
      exact ⟨_, rfl, _, z, 0, 8, rfl, this.1, this.2, ⟨_, rfl⟩, rfl⟩
    · obtain ⟨⟨v4, rfl⟩, rfl⟩ := q
      refine ⟨_, rfl, l, _, rfl, .inl ⟨hl, fun t ht => ?_⟩⟩
      have x1 := Ext.upd (o := .tup (s.levels.map V.int)) ht
      have ht1 : SqT K (upd H' t (.tup (s.levels.map V.int))) t (s.levels.map V.int) := SqT.of upd_same
      refine ⟨_, rfl, x, _, dx, _, rfl, x1.get hx, T.c_Standing, T.n_Standing_levels, few (by kernel_rfl), ?_⟩
      refine ⟨_, rfl, _, s.tank, 0, 8, rfl, so.t0, so.t8, _, rfl, x, _, dx, _, rfl, upd_same, T.c_Standing, T.n_Standing_tank, few (by kernel_rfl), ?_⟩
      refine ⟨_, rfl, _, s.mood, 0, 3, rfl, so.m0, so.m3, _, rfl, x, _, dx, _, rfl, upd_same, T.c_Standing, T.n_Standing_mood, few (by kernel_rfl), ?_⟩
      rw [upd_upd, upd_upd]
      exact k t _ (fun a o n q => by rw [upd_ne n]; exact x1.get q) upd_same (sqT_tu (Tu.ins (o := .ins (CStand K) dx (standF t s)) (x1.get hx)) ht1)
/-- == of two equal standings -/
def EqS (K : PySem.W.Frag) : Addr → Addr → Hp → Prop := fun a b H => ∃ s, StandAt K H a s ∧ StandAt K H b s
theorem ok_standEq (T : Txt K mg) : ∃ fd, FnOk P w K mg base CX0 1 (d_standEq.at_ K) fd ["self", "other"] (spEq (EqS K)) ∧ Binds K fd ["self", "other"] [] := by
  obtain ⟨fd, F⟩ := T.f_standEq
  refine ⟨fd, F.ok (N := ["self", "other"]) ⟨rfl, rfl, rfl, by decide +kernel, rfl, by decide +kernel, by decide +kernel⟩ (fun vs H Q E h => ?_) (fun cdv A outer s0 H vs Q E hr h => ?_), b_standEq F⟩
  · obtain ⟨a, b, rfl, _⟩ := h
    rfl
  · obtain ⟨a, b, rfl, ⟨s, ⟨da, ta, ha, hta⟩, ⟨db, tb, hb, htb⟩⟩, k⟩ := h
    refine ⟨_, pss_cons (ps_if (pt_not (pt_val (pe_b call_isi T.z_isinstance (pa_cons (pv 1) (pa_cons (pe_glob (v := .ref (CStand K)) rfl T.gc_Standing rfl) pa_nil))))) (pss_one ps_never) pss_nil)
      (pss_one (ps_ret (pe_and (pe_cmpR (op_eqD hr.units) (pe_fld (pv 0) rfl) (pe_fld (pv 1) rfl) (nomark _)) (pe_and (pe_cmpR op_eq (pe_fld (pv 0) rfl) (pe_fld (pv 1) rfl) (nomark _)) (pe_one (pe_cmpR op_eq (pe_fld (pv 0) rfl) (pe_fld (pv 1) rfl) (nomark _))))))), ?_⟩
    refine ⟨_, rfl, _, _, _, _, true, rfl, .own _, .base (.ins hb T.c_Standing T.iSc T.iSn T.iSt T.iSm), T.isS, true, rfl, iteF ?_⟩
    refine ⟨_, rfl, a, _, da, _, _, rfl, ha, T.c_Standing, T.n_Standing_levels, lk_Stand_levels, _, rfl, b, _, db, _, _, rfl, hb, T.c_Standing, T.n_Standing_levels, lk_Stand_levels, _, _, dp_ints hta, dp_ints htb, (sh_ints _).ok (by omega), (sh_ints _).ok (by omega), ?_⟩
    refine ⟨_, rfl, ?_⟩
    have e1 : PyData.eqv (.tuple (s.levels.map .int)) (.tuple (s.levels.map .int)) = true := by
      simp only [PyData.eqv, eqvAll_ints, decide_true]
    rw [e1]
    refine iteT ⟨_, rfl, a, _, da, _, _, rfl, ha, T.c_Standing, T.n_Standing_tank, lk_Stand_tank, _, rfl, b, _, db, _, _, rfl, hb, T.c_Standing, T.n_Standing_tank, lk_Stand_tank, rfl, _, rfl, ?_⟩
    rw [decide_eq_true rfl]
    refine iteT ⟨_, rfl, a, _, da, _, _, rfl, ha, T.c_Standing, T.n_Standing_mood, lk_Stand_mood, _, rfl, b, _, db, _, _, rfl, hb, T.c_Standing, T.n_Standing_mood, lk_Stand_mood, rfl, ?_⟩
    rw [decide_eq_true rfl]
    exact k H fun _ _ h => h
/-- <= of two standings, the second as full -/
def spStandLe (K : PySem.W.Frag) : Sp := fun vs H Q _ => ∃ (a b : Addr) (s t : StD), vs = [.ref a, .ref b] ∧ StandAt K H a s ∧ StandAt K H b t ∧ LeS s t ∧ ∀ H', Ext H H' → Q (.bl true) H'
theorem ok_standLe (T : Txt K mg) : Ok P w K mg base CX0 1 d_standLe (spStandLe K) := by
  have nd : (["self", "other", "at", "level"] : List Str).Nodup := by decide +kernel
  refine mkOk (N := ["self", "other", "at", "level"]) (ps := ["self", "other"]) T.f_standLe b_standLe ⟨rfl, rfl, rfl, nd, rfl, by decide +kernel, by decide +kernel⟩ (fun vs H Q E h => ?_) (fun cdv A outer s0 H vs Q E hr h => ?_)
  · obtain ⟨a, b, s, t, rfl, _⟩ := h
    rfl
  · obtain ⟨a, b, s, t, rfl, ⟨da, ta, ha, hta⟩, ⟨db, tb, hb, htb⟩, le, k⟩ := h
    refine ⟨_, pss_cons (ps_if (pt_not (pt_val (pe_b call_isi T.z_isinstance (pa_cons (pv 1) (pa_cons (pe_glob (v := .ref (CStand K)) rfl T.gc_Standing rfl) pa_nil))))) (pss_one ps_never) pss_nil)
      (pss_cons (ps_if (PW.pt (pw_or (pt_cmpR op_ne (pe_fld (pv 0) rfl) (pe_fld (pv 1) rfl) (nomark _)) (pw_or1 (pt_cmpR op_ne (pe_b call_len_seq T.z_len (pa_cons (pe_fld (pv 0) rfl) pa_nil)) (pe_b call_len_seq T.z_len (pa_cons (pe_fld (pv 1) rfl) pa_nil)) (nomark _))))) (pss_one ps_never) pss_nil)
      (pss_cons (ps_for PassesOwn.never rfl (pi_enumT T.z_enumerate (pa_cons (pe_fld (pv 0) rfl) pa_nil)) (pg_tup rfl (pgs_cons (pg_name (i := 2) nd rfl (Or.inl rfl)) (pgs_cons (pg_name (i := 3) nd rfl (Or.inl rfl)) pgs_nil)))
        (pss_one (ps_if (pt_cmpR op_gt (pv 3) (pe_ix ix_tup (pe_fld (pv 1) rfl) (pv 2) (fun _ _ => rfl)) (nomark _)) (pss_one ps_never) pss_nil)))
      (pss_one (ps_ret (pe_cmpR op_le (pe_fld (pv 0) rfl) (pe_fld (pv 1) rfl) (nomark _)))))), ?_⟩
    refine ⟨_, rfl, _, _, _, _, true, rfl, .own _, .base (.ins hb T.c_Standing T.iSc T.iSn T.iSt T.iSm), T.isS, true, rfl, iteF ?_⟩
    refine ⟨_, rfl, a, _, da, _, _, rfl, ha, T.c_Standing, T.n_Standing_mood, lk_Stand_mood, _, rfl, b, _, db, _, _, rfl, hb, T.c_Standing, T.n_Standing_mood, lk_Stand_mood, rfl, _, rfl, ?_⟩
    rw [decide_eq_true (congrArg V.int le.mood)]
    refine iteF ⟨_, rfl, a, _, da, _, _, rfl, ha, T.c_Standing, T.n_Standing_levels, lk_Stand_levels, ta, _, rfl, .inr hta, _, rfl, b, _, db, _, _, rfl, hb, T.c_Standing, T.n_Standing_levels, lk_Stand_levels, tb, _, rfl, .inr htb, rfl, _, rfl, ?_⟩
    rw [decide_eq_true (by rw [List.length_map, List.length_map, le.ln])]
    refine iteF ⟨_, rfl, a, _, da, _, _, rfl, ha, T.c_Standing, T.n_Standing_levels, lk_Stand_levels, ta, _, rfl, hta, for_it (walk_enumT (xs := s.levels.map V.int)) (fun i σ H' => (∃ v2 v3 : Option V, σ = [some (.ref a), some (.ref b), v2, v3]) ∧ Ext H H') ⟨⟨_, _, rfl⟩, Ext.refl H⟩ (fun i σ H' hi q => sqT_mor q.2.mor hta) (fun i y σ H3 H4 hi q yy => ?_) (fun σ H3 q => ?_)⟩
    · obtain ⟨⟨v2, v3, rfl⟩, x3⟩ := q
      obtain ⟨u, p, r, rfl, hu, rfl, ea, eb⟩ := yy
      obtain rfl := Option.some.inj ea
      obtain ⟨c, hc, rfl⟩ := map_get eb
      have x4 := x3.put (o := .tup [.int (i : Nat), .int c]) (x3.none hu)
      have hi' : i < t.levels.length := by rw [← le.ln]; exact (List.getElem?_eq_some_iff.mp hc).1
      have hle := le.lv i
      rw [iv_of hc] at hle
      refine ⟨u, _, rfl, SqT.of upd_same, rfl, _, _, rfl, _, _, rfl, rfl, _, rfl, _, rfl, b, _, db, _, _, rfl, x4.get hb, T.c_Standing, T.n_Standing_levels, lk_Stand_levels, _, rfl, tb, _, _, _, rfl, rfl, sqT_mor x4.mor htb, atI_get (get_map (iv_get hi')), _, _, rfl, rfl, _, rfl, ?_⟩
      rw [decide_eq_false (by omega)]
      exact iteF ⟨⟨_, _, rfl⟩, x4⟩
    · obtain ⟨⟨v2, v3, rfl⟩, x3⟩ := q
      refine ⟨_, rfl, a, _, da, _, _, rfl, x3.get ha, T.c_Standing, T.n_Standing_tank, lk_Stand_tank, _, rfl, b, _, db, _, _, rfl, x3.get hb, T.c_Standing, T.n_Standing_tank, lk_Stand_tank, _, _, rfl, rfl, ?_⟩
      show Q (.bl (decide (s.tank ≤ t.tank))) _
      rw [decide_eq_true le.tank]
      exact k _ x3
end
end K17


set_option maxHeartbeats 4000000
/-! K17G: min, max, int of ints; served, twice -/
namespace K17
open PySem PySem.Spec PyProof.Rows L2
section
variable {X : Cx}
theorem call_min3I (hc : X.calm = true) : CallR X (.builtin "min") (fun xs H Q => ∃ i j k : Int, xs = [.int i, .int j, .int k] ∧ Q (.int (min (min i j) k)) H) := by
  intro pins s σ H xs us Q I r h
  obtain ⟨i, j, k, rfl, q⟩ := h
  refine call_min3Nu hc pins s σ H _ us Q I r ⟨_, _, _, .int (min (min i j) k), rfl, ?_, q⟩
  have h2 : ∀ a b : Int, nuMin2 (.int a) (.int b) = some (.int (min a b)) := fun a b => by
    show some (if decide (b < a) = true then V.int b else V.int a) = _
    by_cases h : b < a
    · rw [decide_eq_true h, if_pos rfl, Int.min_eq_right (by omega)]
    · rw [decide_eq_false h, if_neg Bool.false_ne_true, Int.min_eq_left (by omega)]
  show (nuMin2 (.int i) (.int j)).bind _ = _
  rw [h2]
  exact h2 _ _
theorem call_min2I (hc : X.calm = true) : CallR X (.builtin "min") (fun xs H Q => ∃ i j : Int, xs = [.int i, .int j] ∧ Q (.int (min i j)) H) := by
  intro pins s σ H xs us Q I r h
  obtain ⟨i, j, rfl, q⟩ := h
  refine call_min2 hc pins s σ H _ us Q I r ⟨_, _, rfl, ?_⟩
  by_cases h : j < i
  · rw [if_pos h]
    rw [Int.min_eq_right (by omega)] at q
    exact q
  · rw [if_neg h]
    rw [Int.min_eq_left (by omega)] at q
    exact q
theorem call_max2I (hc : X.calm = true) : CallR X (.builtin "max") (fun xs H Q => ∃ i j : Int, xs = [.int i, .int j] ∧ Q (.int (max i j)) H) := by
  intro pins s σ H xs us Q I r h
  obtain ⟨i, j, rfl, q⟩ := h
  refine call_max2 hc pins s σ H _ us Q I r ⟨_, _, rfl, ?_⟩
  by_cases h : j > i
  · rw [if_pos h]
    rw [Int.max_eq_right (by omega)] at q
    exact q
  · rw [if_neg h]
    rw [Int.max_eq_left (by omega)] at q
    exact q
theorem call_intI : CallR X (.type "int") (fun xs H Q => ∃ i : Int, xs = [.int i] ∧ Q (.int i) H) := by
  intro pins s σ H xs us Q I r h
  exact call_int1 pins s σ H xs us Q I r (.inl h)
theorem ip_mul : PIp X .Mult (fun x y H Q => ∃ i j, x = .int i ∧ y = .int j ∧ CMul i j ∧ Q (.int (i * j)) H) := by
  intro pins s σ H x y v u Q I r1 r2 h
  obtain ⟨i, j, e1, e2, hc, q⟩ := h
  subst e1; subst e2
  obtain ⟨t, rfl⟩ := r1
  obtain ⟨t', rfl⟩ := r2
  exact imul_int ⟨.int _, H, I.tok _, ⟨_, rfl⟩, q⟩ hc.ok
end
/-- what both water loops promise -/
def spServed (K : PySem.W.Frag) : Sp := fun vs H Q _ => ∃ (tp tu tl : Addr) (ps : List Pl) (turn : List Str) (ls : List Int) (t : Int), vs = [.ref tp, .ref tu, .ref tl, .int t] ∧ PlotsAt K H tp ps ∧ NamesT K H tu turn ∧ SqT K H tl (ls.map V.int) ∧ ls.length = ps.length ∧ ps.length ≤ 4 ∧
  ∀ p L H', Ext H H' → SqT K H' p [.ref L, .int (svT ps turn ls t ps.length)] → H' L = some (.lst ((tab (svF ps turn ls t) ps.length).map V.int)) → Q (.ref p) H'
section
variable {P : Program} {w : World} {K : PySem.W.Frag} {mg : Str → Option Value} {base : Heap}
theorem ok_served (T : Txt K mg) : Ok P w K mg base CX0 1 d_served (spServed K) := by
  have nd : (["plots", "turn", "levels", "tank", "left", "filled", "at", "plot", "given"] : List Str).Nodup := by decide +kernel
  refine mkOk (N := ["plots", "turn", "levels", "tank", "left", "filled", "at", "plot", "given"]) (ps := ["plots", "turn", "levels", "tank"]) T.f_served b_served ⟨rfl, rfl, rfl, nd, rfl, by decide +kernel, by decide +kernel⟩ (fun vs H Q E h => ?_) (fun cdv A outer s0 H vs Q E hr h => ?_)
  · obtain ⟨tp, tu, tl, ps, turn, ls, t, rfl, _⟩ := h
    rfl
  · obtain ⟨tp, tu, tl, ps, turn, ls, t, rfl, ⟨as, hp, hap⟩, hu, hl, hll, h4, k⟩ := h
    have hal : as.length = ps.length := hap.1
    refine ⟨_, pss_cons (ps_set (i := 4) nd rfl (Or.inl rfl) (pv 3))
      (pss_cons (ps_set (i := 5) nd rfl (Or.inl rfl) (pe_lst pa_nil))
      (pss_cons (ps_for PassesOwn.never rfl (pi_enumT T.z_enumerate (pa_cons (pv 0) pa_nil)) (pg_tup rfl (pgs_cons (pg_name (i := 6) nd rfl (Or.inl rfl)) (pgs_cons (pg_name (i := 7) nd rfl (Or.inl rfl)) pgs_nil)))
        (pss_cons (ps_set (i := 8) nd rfl (Or.inl rfl) pe_int)
        (pss_cons (ps_if (pt_cmpR op_in_seq (pe_fld (pv 7) rfl) (pv 1) rfl) (pss_one (ps_set (i := 8) nd rfl (Or.inl rfl) (pe_b (call_min3I rfl) T.z_min (pa_cons (pe_ty call_intI T.z_int (pa_cons (pe_fld (pv 7) rfl) pa_nil)) (pa_cons (pe_ty call_intI T.z_int (pa_cons (pe_op op_sub (pe_fld (pv 7) rfl) (pe_ix ix_tup (pv 2) (pv 6) (fun _ _ => rfl))) pa_nil)) (pa_cons (pe_ty call_intI T.z_int (pa_cons (pv 4) pa_nil)) pa_nil)))))) pss_nil)
        (pss_cons (ps_expr (pe_bm PySem.F.plainAttrs_list PySem.F.slot_list_append PySem.F.type_list_append mt_append (pv 5) (pa_cons (pe_op op_add (pe_ix ix_tup (pv 2) (pv 6) (fun _ _ => rfl)) (pv 8)) pa_nil)))
        (pss_one (ps_aug (i := 4) nd rfl (Or.inl rfl) (pv 8) ip_sub))))))
      (pss_one (ps_ret (pe_tup (pa_cons (pv 5) (pa_cons (pv 4) pa_nil))))))), ?_⟩
    refine ⟨_, rfl, Nat.zero_le _, fun L hL => ?_⟩
    have x0 : Ext H (upd H L (.lst [])) := Ext.upd hL
    have hLH : H L = none := hL
    refine ⟨_, rfl, tp, _, rfl, sqT_mor x0.mor hp, for_it (walk_enumT (xs := as.map V.ref)) (fun i σ H' => (∃ (lf : Int) (v6 v7 v8 : Option V), σ = [some (.ref tp), some (.ref tu), some (.ref tl), some (.int t), some (.int lf), some (.ref L), v6, v7, v8] ∧ lf = svT ps turn ls t i) ∧ Ext H H' ∧ ∃ fl : List Int, H' L = some (.lst (fl.map V.int)) ∧ fl = tab (svF ps turn ls t) i)
      ⟨⟨t, _, _, _, rfl, rfl⟩, x0, [], upd_same, rfl⟩ (fun i σ H' hi q => sqT_mor q.2.1.mor hp) (fun i y σ H3 H4 hi q yy => ?_) (fun σ H3 q => ?_)⟩
    · obtain ⟨⟨lf, v6, v7, v8, rfl, hlf⟩, x3, fl, hL3, hfl⟩ := q
      obtain ⟨u, p, r, rfl, hu2, rfl, ea, eb⟩ := yy
      obtain rfl := Option.some.inj ea
      obtain ⟨a, ha, rfl⟩ := map_get eb
      obtain ⟨pl, hpl, pdx, hpa⟩ := hap.get' ha
      have hi' : i < ps.length := (List.getElem?_eq_some_iff.mp hpl).1
      have x4 := x3.put (o := .tup [.int (i : Nat), .ref a]) (x3.none hu2)
      have hpa4 := x4.get hpa
      have hu4 := sqT_mor x4.mor hu
      have hl4 := sqT_mor x4.mor hl
      have hL4 : (upd H3 u (.tup [.int (i : Nat), .ref a])) L = some (.lst (fl.map V.int)) := by rw [upd_ne (ne_of_none hL3 hu2)]; exact hL3
      have hT4 : SqT K (upd H3 u (.tup [.int (i : Nat), .ref a])) u [.int (i : Nat), .ref a] := SqT.of upd_same
      revert x4 hpa4 hu4 hl4 hL4 hT4
      generalize (upd H3 u (.tup [.int (i : Nat), .ref a])) = H4
      intro x4 hpa4 hu4 hl4 hL4 hT4
      have hat : atI (ls.map V.int) ((i : Nat) : Int) = some (.int (iv ls i)) := atI_get (get_map (iv_get (by omega)))
      have hfll : fl.length = i := by rw [hfl, tab_len]
      have hsz : (fl.map V.int).length < sizeLine := Nat.lt_of_lt_of_le (show _ < 1000 by rw [List.length_map]; omega) (by decide)
      have hgv : gvAt ps turn ls i (svT ps turn ls t i) = gv pl turn (iv ls i) lf := by rw [gvAt_some hpl, hlf]
      refine ⟨u, _, rfl, hT4, rfl, _, _, rfl, _, _, rfl, rfl, _, rfl, a, _, pdx, _, _, rfl, hpa4, T.c_Plot, T.n_Plot_name, lk_Plot_name, _, rfl, tu, _, rfl, .inr hu4, rfl, flat_str turn, _, rfl, ?_⟩
      rw [if_neg Bool.false_ne_true, inV_str]
      by_cases c : pl.name ∈ turn
      · have hg : gv pl turn (iv ls i) lf = min (min pl.drink (pl.hold - iv ls i)) lf := by unfold gv; rw [if_pos c]
        rw [decide_eq_true c]
        refine iteT ⟨_, rfl, a, _, pdx, _, _, rfl, hpa4, T.c_Plot, T.n_Plot_drink, lk_Plot_drink, _, rfl, _, rfl, a, _, pdx, _, _, rfl, hpa4, T.c_Plot, T.n_Plot_hold, lk_Plot_hold, _, rfl, _, rfl, tl, _, _, _, rfl, rfl, hl4, hat, _, _, rfl, rfl, _, rfl, _, rfl, _, rfl, _, _, _, rfl, ?_⟩
        refine ⟨_, rfl, .inl ⟨rfl, _, SqL.of hL4⟩, _, rfl, _, rfl, tl, _, _, _, rfl, rfl, hl4, hat, _, rfl, _, _, rfl, rfl, L, _, _, rfl, rfl, hL4, hsz, _, rfl, _, rfl, _, _, rfl, rfl, ?_⟩
        refine ⟨⟨_, _, _, _, rfl, ?_⟩, x4.put hLH, fl ++ [iv ls i + min (min pl.drink (pl.hold - iv ls i)) lf], by rw [upd_same, List.map_append]; rfl, ?_⟩
        · show _ = svT ps turn ls t i - gvAt ps turn ls i (svT ps turn ls t i)
          rw [hgv, hg, hlf]
        · rw [tab_succ, ← hfl]
          show _ = fl ++ [iv ls i + gvAt ps turn ls i (svT ps turn ls t i)]
          rw [hgv, hg]
      · have hg : gv pl turn (iv ls i) lf = 0 := by unfold gv; rw [if_neg c]
        rw [decide_eq_false c]
        refine iteF ?_
        refine ⟨_, rfl, .inl ⟨rfl, _, SqL.of hL4⟩, _, rfl, _, rfl, tl, _, _, _, rfl, rfl, hl4, hat, _, rfl, _, _, rfl, rfl, L, _, _, rfl, rfl, hL4, hsz, _, rfl, _, rfl, _, _, rfl, rfl, ?_⟩
        refine ⟨⟨_, _, _, _, rfl, ?_⟩, x4.put hLH, fl ++ [iv ls i + 0], by rw [upd_same, List.map_append]; rfl, ?_⟩
        · show _ = svT ps turn ls t i - gvAt ps turn ls i (svT ps turn ls t i)
          rw [hgv, hg, hlf]
        · rw [tab_succ, ← hfl]
          show _ = fl ++ [iv ls i + gvAt ps turn ls i (svT ps turn ls t i)]
          rw [hgv, hg]
    · obtain ⟨⟨lf, v6, v7, v8, rfl, hlf⟩, x3, fl, hL3, hfl⟩ := q
      rw [List.length_map, hal] at hlf hfl
      refine ⟨_, rfl, _, rfl, by show 2 ≤ sizeLine; decide, fun p hp => ?_⟩
      refine k p L _ (x3.put (x3.none hp)) ?_ ?_
      · rw [← hlf]
        exact SqT.of upd_same
      · rw [upd_ne (ne_of_none hL3 hp), hL3, hfl]
theorem ok_lserved (T : Txt K mg) : Ok P w K mg base CX0 1 d_lserved (spServed K) := by
  have nd : (["_law_plots", "_law_turn", "_law_levels", "_law_tank", "_law_filled", "_law_at", "_law_plot", "_law_given"] : List Str).Nodup := by decide +kernel
  refine mkOk (N := ["_law_plots", "_law_turn", "_law_levels", "_law_tank", "_law_filled", "_law_at", "_law_plot", "_law_given"]) (ps := ["_law_plots", "_law_turn", "_law_levels", "_law_tank"]) T.f_lserved b_lserved ⟨rfl, rfl, rfl, nd, rfl, by decide +kernel, by decide +kernel⟩ (fun vs H Q E h => ?_) (fun cdv A outer s0 H vs Q E hr h => ?_)
  · obtain ⟨tp, tu, tl, ps, turn, ls, t, rfl, _⟩ := h
    rfl
  · obtain ⟨tp, tu, tl, ps, turn, ls, t, rfl, ⟨as, hp, hap⟩, hu, hl, hll, h4, k⟩ := h
    have hal : as.length = ps.length := hap.1
    refine ⟨_, pss_cons (ps_set (i := 4) nd rfl (Or.inl rfl) (pe_lst pa_nil))
      (pss_cons (ps_for PassesOwn.never rfl (pi_enumT T.z_enumerate (pa_cons (pv 0) pa_nil)) (pg_tup rfl (pgs_cons (pg_name (i := 5) nd rfl (Or.inl rfl)) (pgs_cons (pg_name (i := 6) nd rfl (Or.inl rfl)) pgs_nil)))
        (pss_cons (ps_set (i := 7) nd rfl (Or.inl rfl) pe_int)
        (pss_cons (ps_if (pt_cmpR op_in_seq (pe_fld (pv 6) rfl) (pv 1) rfl) (pss_one (ps_set (i := 7) nd rfl (Or.inl rfl) (pe_b (call_min3I rfl) T.z_min (pa_cons (pe_ty call_intI T.z_int (pa_cons (pe_fld (pv 6) rfl) pa_nil)) (pa_cons (pe_ty call_intI T.z_int (pa_cons (pe_op op_sub (pe_fld (pv 6) rfl) (pe_ix ix_tup (pv 2) (pv 5) (fun _ _ => rfl))) pa_nil)) (pa_cons (pe_ty call_intI T.z_int (pa_cons (pv 3) pa_nil)) pa_nil)))))) pss_nil)
        (pss_cons (ps_expr (pe_bm PySem.F.plainAttrs_list PySem.F.slot_list_append PySem.F.type_list_append mt_append (pv 4) (pa_cons (pe_op op_add (pe_ix ix_tup (pv 2) (pv 5) (fun _ _ => rfl)) (pv 7)) pa_nil)))
        (pss_one (ps_set (i := 3) nd rfl (Or.inl rfl) (pe_op op_sub (pv 3) (pv 7))))))))
      (pss_one (ps_ret (pe_tup (pa_cons (pv 4) (pa_cons (pv 3) pa_nil)))))), ?_⟩
    refine ⟨Nat.zero_le _, fun L hL => ?_⟩
    have x0 : Ext H (upd H L (.lst [])) := Ext.upd hL
    have hLH : H L = none := hL
    refine ⟨_, rfl, tp, _, rfl, sqT_mor x0.mor hp, for_it (walk_enumT (xs := as.map V.ref)) (fun i σ H' => (∃ (lf : Int) (v6 v7 v8 : Option V), σ = [some (.ref tp), some (.ref tu), some (.ref tl), some (.int lf), some (.ref L), v6, v7, v8] ∧ lf = svT ps turn ls t i) ∧ Ext H H' ∧ ∃ fl : List Int, H' L = some (.lst (fl.map V.int)) ∧ fl = tab (svF ps turn ls t) i)
      ⟨⟨t, _, _, _, rfl, rfl⟩, x0, [], upd_same, rfl⟩ (fun i σ H' hi q => sqT_mor q.2.1.mor hp) (fun i y σ H3 H4 hi q yy => ?_) (fun σ H3 q => ?_)⟩
    · obtain ⟨⟨lf, v6, v7, v8, rfl, hlf⟩, x3, fl, hL3, hfl⟩ := q
      obtain ⟨u, p, r, rfl, hu2, rfl, ea, eb⟩ := yy
      obtain rfl := Option.some.inj ea
      obtain ⟨a, ha, rfl⟩ := map_get eb
      obtain ⟨pl, hpl, pdx, hpa⟩ := hap.get' ha
      have hi' : i < ps.length := (List.getElem?_eq_some_iff.mp hpl).1
      have x4 := x3.put (o := .tup [.int (i : Nat), .ref a]) (x3.none hu2)
      have hpa4 := x4.get hpa
      have hu4 := sqT_mor x4.mor hu
      have hl4 := sqT_mor x4.mor hl
      have hL4 : (upd H3 u (.tup [.int (i : Nat), .ref a])) L = some (.lst (fl.map V.int)) := by rw [upd_ne (ne_of_none hL3 hu2)]; exact hL3
      have hT4 : SqT K (upd H3 u (.tup [.int (i : Nat), .ref a])) u [.int (i : Nat), .ref a] := SqT.of upd_same
      revert x4 hpa4 hu4 hl4 hL4 hT4
      generalize (upd H3 u (.tup [.int (i : Nat), .ref a])) = H4
      intro x4 hpa4 hu4 hl4 hL4 hT4
      have hat : atI (ls.map V.int) ((i : Nat) : Int) = some (.int (iv ls i)) := atI_get (get_map (iv_get (by omega)))
      have hfll : fl.length = i := by rw [hfl, tab_len]
      have hsz : (fl.map V.int).length < sizeLine := Nat.lt_of_lt_of_le (show _ < 1000 by rw [List.length_map]; omega) (by decide)
      have hgv : gvAt ps turn ls i (svT ps turn ls t i) = gv pl turn (iv ls i) lf := by rw [gvAt_some hpl, hlf]
      refine ⟨u, _, rfl, hT4, rfl, _, _, rfl, _, _, rfl, rfl, _, rfl, a, _, pdx, _, _, rfl, hpa4, T.c_Plot, T.n_Plot_name, lk_Plot_name, _, rfl, tu, _, rfl, .inr hu4, rfl, flat_str turn, _, rfl, ?_⟩
      rw [if_neg Bool.false_ne_true, inV_str]
      by_cases c : pl.name ∈ turn
      · have hg : gv pl turn (iv ls i) lf = min (min pl.drink (pl.hold - iv ls i)) lf := by unfold gv; rw [if_pos c]
        rw [decide_eq_true c]
        refine iteT ⟨_, rfl, a, _, pdx, _, _, rfl, hpa4, T.c_Plot, T.n_Plot_drink, lk_Plot_drink, _, rfl, _, rfl, a, _, pdx, _, _, rfl, hpa4, T.c_Plot, T.n_Plot_hold, lk_Plot_hold, _, rfl, _, rfl, tl, _, _, _, rfl, rfl, hl4, hat, _, _, rfl, rfl, _, rfl, _, rfl, _, rfl, _, _, _, rfl, ?_⟩
        refine ⟨_, rfl, .inl ⟨rfl, _, SqL.of hL4⟩, _, rfl, _, rfl, tl, _, _, _, rfl, rfl, hl4, hat, _, rfl, _, _, rfl, rfl, L, _, _, rfl, rfl, hL4, hsz, _, rfl, _, rfl, _, _, rfl, rfl, ?_⟩
        refine ⟨⟨_, _, _, _, rfl, ?_⟩, x4.put hLH, fl ++ [iv ls i + min (min pl.drink (pl.hold - iv ls i)) lf], by rw [upd_same, List.map_append]; rfl, ?_⟩
        · show _ = svT ps turn ls t i - gvAt ps turn ls i (svT ps turn ls t i)
          rw [hgv, hg, hlf]
        · rw [tab_succ, ← hfl]
          show _ = fl ++ [iv ls i + gvAt ps turn ls i (svT ps turn ls t i)]
          rw [hgv, hg]
      · have hg : gv pl turn (iv ls i) lf = 0 := by unfold gv; rw [if_neg c]
        rw [decide_eq_false c]
        refine iteF ?_
        refine ⟨_, rfl, .inl ⟨rfl, _, SqL.of hL4⟩, _, rfl, _, rfl, tl, _, _, _, rfl, rfl, hl4, hat, _, rfl, _, _, rfl, rfl, L, _, _, rfl, rfl, hL4, hsz, _, rfl, _, rfl, _, _, rfl, rfl, ?_⟩
        refine ⟨⟨_, _, _, _, rfl, ?_⟩, x4.put hLH, fl ++ [iv ls i + 0], by rw [upd_same, List.map_append]; rfl, ?_⟩
        · show _ = svT ps turn ls t i - gvAt ps turn ls i (svT ps turn ls t i)
          rw [hgv, hg, hlf]
        · rw [tab_succ, ← hfl]
          show _ = fl ++ [iv ls i + gvAt ps turn ls i (svT ps turn ls t i)]
          rw [hgv, hg]
    · obtain ⟨⟨lf, v6, v7, v8, rfl, hlf⟩, x3, fl, hL3, hfl⟩ := q
      rw [List.length_map, hal] at hlf hfl
      refine ⟨_, rfl, _, rfl, by show 2 ≤ sizeLine; decide, fun p hp => ?_⟩
      refine k p L _ (x3.put (x3.none hp)) ?_ ?_
      · rw [← hlf]
        exact SqT.of upd_same
      · rw [upd_ne (ne_of_none hL3 hp), hL3, hfl]
end
end K17


set_option maxHeartbeats 4000000
/-! K17W10: dried_plot, weathered -/
namespace K17
open PySem PySem.Spec PyProof.Rows L2
section
variable {P : Program} {w : World} {K : PySem.W.Frag} {mg : Str → Option Value} {base : Heap}
def spDried (K : PySem.W.Frag) : Sp := fun vs H Q _ => ∃ (tp tl d : Addr) (ps : List Pl) (lv : List Int) (day : DayD), vs = [.ref tp, .ref tl, .ref d] ∧ PlotsAt K H tp ps ∧ SqT K H tl (lv.map V.int) ∧ lv.length = ps.length ∧ DayAt K H d day ∧ day.dry.length = ps.length ∧
  ∀ H', Ext H H' → (∀ i p, ps[i]? = some p → iv lv i < iv day.dry i → (∀ j, j < i → iv day.dry j ≤ iv lv j) → Q (.str p.name) H') ∧ ((∀ j, j < ps.length → iv day.dry j ≤ iv lv j) → Q .non H')
theorem ok_dried (T : Txt K mg) : Ok P w K mg base CX0 1 d_dried (spDried K) := by
  have nd : (["plots", "levels", "day", "at", "plot"] : List Str).Nodup := by decide +kernel
  refine mkOk (N := ["plots", "levels", "day", "at", "plot"]) (ps := ["plots", "levels", "day"]) T.f_dried b_dried ⟨rfl, rfl, rfl, nd, rfl, by decide +kernel, by decide +kernel⟩ (fun vs H Q E h => ?_) (fun cdv A outer s0 H vs Q E hr h => ?_)
  · obtain ⟨tp, tl, d, ps, lv, day, rfl, _⟩ := h
    rfl
  · obtain ⟨tp, tl, d, ps, lv, day, rfl, ⟨as, hp, hap⟩, hl, hll, ⟨dd, td, tr, hd, htd, htr⟩, hdl, k⟩ := h
    have hal : as.length = ps.length := hap.1
    refine ⟨_, pss_cons (ps_for PassesOwn.never rfl (pi_enumT T.z_enumerate (pa_cons (pv 0) pa_nil)) (pg_tup rfl (pgs_cons (pg_name (i := 3) nd rfl (Or.inl rfl)) (pgs_cons (pg_name (i := 4) nd rfl (Or.inl rfl)) pgs_nil)))
        (pss_one (ps_if (pt_cmpR op_lt (pe_ix ix_tup (pv 1) (pv 3) (fun _ _ => rfl)) (pe_ix ix_tup (pe_fld (pv 2) rfl) (pv 3) (fun _ _ => rfl)) (nomark _)) (pss_one (ps_ret (pe_fld (pv 4) rfl))) pss_nil)))
      (pss_one (ps_ret pe_non)), ?_⟩
    refine ⟨_, rfl, tp, _, rfl, hp, for_it (walk_enumT (xs := as.map V.ref)) (fun i σ H' => (∃ (v3 v4 : Option V), σ = [some (.ref tp), some (.ref tl), some (.ref d), v3, v4]) ∧ Ext H H' ∧ ∀ j, j < i → iv day.dry j ≤ iv lv j)
      ⟨⟨_, _, rfl⟩, Ext.refl H, fun j h => by omega⟩ (fun i σ H' hi q => sqT_mor q.2.1.mor hp) (fun i y σ H3 H4 hi q yy => ?_) (fun σ H3 q => ?_)⟩
    · obtain ⟨⟨v3, v4, rfl⟩, x3, hno⟩ := q
      obtain ⟨u, p, r, rfl, hu2, rfl, ea, eb⟩ := yy
      obtain rfl := Option.some.inj ea
      obtain ⟨a, ha, rfl⟩ := map_get eb
      obtain ⟨pl, hpl, pdx, hpa⟩ := hap.get' ha
      have hi' : i < ps.length := (List.getElem?_eq_some_iff.mp hpl).1
      have x4 := x3.put (o := .tup [.int (i : Nat), .ref a]) (x3.none hu2)
      have hat : atI (lv.map V.int) ((i : Nat) : Int) = some (.int (iv lv i)) := atI_get (get_map (iv_get (by omega)))
      have hat2 : atI (day.dry.map V.int) ((i : Nat) : Int) = some (.int (iv day.dry i)) := atI_get (get_map (iv_get (by omega)))
      refine ⟨u, _, rfl, SqT.of upd_same, rfl, _, _, rfl, _, _, rfl, rfl, _, rfl, _, rfl, tl, _, _, _, rfl, rfl, sqT_mor x4.mor hl, hat, _, rfl, d, _, dd, _, _, rfl, x4.get hd, T.c_Day, T.n_Day_dry, lk_Day_dry, _, rfl, td, _, _, _, rfl, rfl, sqT_mor x4.mor htd, hat2, _, _, rfl, rfl, _, rfl, ite2 (fun hb => ?_) (fun hb => ?_)⟩
      · refine ⟨_, rfl, a, _, pdx, _, _, rfl, x4.get hpa, T.c_Plot, T.n_Plot_name, lk_Plot_name, ?_⟩
        exact (k _ x4).1 i pl hpl (of_decide_eq_true hb) hno
      · refine ⟨⟨_, _, rfl⟩, x4, fun j hj => ?_⟩
        by_cases e : j = i
        · subst e
          have : ¬ iv lv j < iv day.dry j := fun h => hb (decide_eq_true h)
          omega
        · exact hno j (by omega)
    · obtain ⟨⟨v3, v4, rfl⟩, x3, hno⟩ := q
      exact (k _ x3).2 fun j hj => hno j (by rw [List.length_map, hal]; exact hj)
def spWeathered (K : PySem.W.Frag) : Sp := fun vs H Q _ => ∃ (tp tl d : Addr) (ps : List Pl) (lv : List Int) (day : DayD) (size tank : Int), vs = [.ref tp, .int size, .ref tl, .int tank, .ref d] ∧ PlotsAt K H tp ps ∧ SqT K H tl (lv.map V.int) ∧ lv.length = ps.length ∧ ps.length ≤ 4 ∧ DayAt K H d day ∧ day.dry.length = ps.length ∧ day.rain.length = ps.length ∧
  ∀ (p L : Addr) (sp : Int) H', Ext H H' → SqT K H' p [.ref L, .int (min (tank + day.fill) size), .int sp] → H' L = some (.lst ((tab (fun i => min (iv lv i - iv day.dry i + iv day.rain i) (holdAt ps i)) ps.length).map V.int)) → Q (.ref p) H'
theorem ok_weathered (T : Txt K mg) : Ok P w K mg base CX0 1 d_weathered (spWeathered K) := by
  have nd : (["plots", "size", "levels", "tank", "day", "spilled", "rained", "at", "plot", "level"] : List Str).Nodup := by decide +kernel
  refine mkOk (N := ["plots", "size", "levels", "tank", "day", "spilled", "rained", "at", "plot", "level"]) (ps := ["plots", "size", "levels", "tank", "day"]) T.f_weathered b_weathered ⟨rfl, rfl, rfl, nd, rfl, by decide +kernel, by decide +kernel⟩ (fun vs H Q E h => ?_) (fun cdv A outer s0 H vs Q E hr h => ?_)
  · obtain ⟨tp, tl, d, ps, lv, day, size, tank, rfl, _⟩ := h
    rfl
  · obtain ⟨tp, tl, d, ps, lv, day, size, tank, rfl, ⟨as, hp, hap⟩, hl, hll, h4, ⟨dd, td, tr, hd, htd, htr⟩, hdl, hrl, k⟩ := h
    have hal : as.length = ps.length := hap.1
    refine ⟨_, pss_cons (ps_set (i := 5) nd rfl (Or.inl rfl) pe_int) (pss_cons (ps_set (i := 6) nd rfl (Or.inl rfl) (pe_lst pa_nil))
      (pss_cons (ps_for PassesOwn.never rfl (pi_enumT T.z_enumerate (pa_cons (pv 0) pa_nil)) (pg_tup rfl (pgs_cons (pg_name (i := 7) nd rfl (Or.inl rfl)) (pgs_cons (pg_name (i := 8) nd rfl (Or.inl rfl)) pgs_nil)))
        (pss_cons (ps_set (i := 9) nd rfl (Or.inl rfl) (pe_op op_add (pe_op op_sub (pe_ix ix_tup (pv 2) (pv 7) (fun _ _ => rfl)) (pe_ix ix_tup (pe_fld (pv 4) rfl) (pv 7) (fun _ _ => rfl))) (pe_ix ix_tup (pe_fld (pv 4) rfl) (pv 7) (fun _ _ => rfl))))
        (pss_cons (ps_expr (pe_bm PySem.F.plainAttrs_list PySem.F.slot_list_append PySem.F.type_list_append mt_append (pv 6) (pa_cons (pe_b (call_min2I rfl) T.z_min (pa_cons (pe_ty call_intI T.z_int (pa_cons (pv 9) pa_nil)) (pa_cons (pe_ty call_intI T.z_int (pa_cons (pe_fld (pv 8) rfl) pa_nil)) pa_nil))) pa_nil)))
        (pss_one (ps_aug (i := 5) nd rfl (Or.inl rfl) (pe_b (call_max2I rfl) T.z_max (pa_cons pe_int (pa_cons (pe_ty call_intI T.z_int (pa_cons (pe_op op_sub (pv 9) (pe_fld (pv 8) rfl)) pa_nil)) pa_nil))) ip_add)))))
      (pss_cons (ps_aug (i := 5) nd rfl (Or.inl rfl) (pe_b (call_max2I rfl) T.z_max (pa_cons pe_int (pa_cons (pe_ty call_intI T.z_int (pa_cons (pe_op op_sub (pe_op op_add (pv 3) (pe_fld (pv 4) rfl)) (pv 1)) pa_nil)) pa_nil))) ip_add)
      (pss_one (ps_ret (pe_tup (pa_cons (pv 6) (pa_cons (pe_b (call_min2I rfl) T.z_min (pa_cons (pe_ty call_intI T.z_int (pa_cons (pe_op op_add (pv 3) (pe_fld (pv 4) rfl)) pa_nil)) (pa_cons (pe_ty call_intI T.z_int (pa_cons (pv 1) pa_nil)) pa_nil))) (pa_cons (pv 5) pa_nil))))))))), ?_⟩
    refine ⟨Nat.zero_le _, fun L hL => ?_⟩
    have x0 : Ext H (upd H L (.lst [])) := Ext.upd hL
    have hLH : H L = none := hL
    refine ⟨_, rfl, tp, _, rfl, sqT_mor x0.mor hp, for_it (walk_enumT (xs := as.map V.ref)) (fun i σ H' => (∃ (sp : Int) (v7 v8 v9 : Option V), σ = [some (.ref tp), some (.int size), some (.ref tl), some (.int tank), some (.ref d), some (.int sp), some (.ref L), v7, v8, v9]) ∧ Ext H H' ∧ H' L = some (.lst ((tab (fun i => min (iv lv i - iv day.dry i + iv day.rain i) (holdAt ps i)) i).map V.int)))
      ⟨⟨0, _, _, _, rfl⟩, x0, upd_same⟩ (fun i σ H' hi q => sqT_mor q.2.1.mor hp) (fun i y σ H3 H4 hi q yy => ?_) (fun σ H3 q => ?_)⟩
    · obtain ⟨⟨sp, v7, v8, v9, rfl⟩, x3, hL3⟩ := q
      obtain ⟨u, p, r, rfl, hu2, rfl, ea, eb⟩ := yy
      obtain rfl := Option.some.inj ea
      obtain ⟨a, ha, rfl⟩ := map_get eb
      obtain ⟨pl, hpl, pdx, hpa⟩ := hap.get' ha
      have hi' : i < ps.length := (List.getElem?_eq_some_iff.mp hpl).1
      have x4 := x3.put (o := .tup [.int (i : Nat), .ref a]) (x3.none hu2)
      have hpa4 := x4.get hpa
      have hl4 := sqT_mor x4.mor hl
      have hd4 := x4.get hd
      have htd4 := sqT_mor x4.mor htd
      have htr4 := sqT_mor x4.mor htr
      have hL4 : (upd H3 u (.tup [.int (i : Nat), .ref a])) L = some (.lst ((tab (fun i => min (iv lv i - iv day.dry i + iv day.rain i) (holdAt ps i)) i).map V.int)) := by rw [upd_ne (ne_of_none hL3 hu2)]; exact hL3
      have hT4 : SqT K (upd H3 u (.tup [.int (i : Nat), .ref a])) u [.int (i : Nat), .ref a] := SqT.of upd_same
      revert x4 hpa4 hl4 hd4 htd4 htr4 hL4 hT4
      generalize (upd H3 u (.tup [.int (i : Nat), .ref a])) = H4
      intro x4 hpa4 hl4 hd4 htd4 htr4 hL4 hT4
      have hat : atI (lv.map V.int) ((i : Nat) : Int) = some (.int (iv lv i)) := atI_get (get_map (iv_get (by omega)))
      have hat2 : atI (day.dry.map V.int) ((i : Nat) : Int) = some (.int (iv day.dry i)) := atI_get (get_map (iv_get (by omega)))
      have hat3 : atI (day.rain.map V.int) ((i : Nat) : Int) = some (.int (iv day.rain i)) := atI_get (get_map (iv_get (by omega)))
      refine ⟨u, _, rfl, hT4, rfl, _, _, rfl, _, _, rfl, rfl, _, rfl, _, rfl, tl, _, _, _, rfl, rfl, hl4, hat, _, rfl, d, _, dd, _, _, rfl, hd4, T.c_Day, T.n_Day_dry, lk_Day_dry, _, rfl, td, _, _, _, rfl, rfl, htd4, hat2, _, _, rfl, rfl,
        _, rfl, d, _, dd, _, _, rfl, hd4, T.c_Day, T.n_Day_rain, lk_Day_rain, _, rfl, tr, _, _, _, rfl, rfl, htr4, hat3, _, _, rfl, rfl, ?_⟩
      refine ⟨_, rfl, .inl ⟨rfl, _, SqL.of hL4⟩, _, rfl, _, rfl, _, rfl, a, _, pdx, _, _, rfl, hpa4, T.c_Plot, T.n_Plot_hold, lk_Plot_hold, _, rfl, _, _, rfl, L, _, _, rfl, rfl, hL4, Nat.lt_of_lt_of_le (show _ < 1000 by rw [List.length_map, tab_len]; omega) (by decide), ?_⟩
      refine ⟨_, rfl, _, rfl, _, rfl, a, _, pdx, _, _, rfl, (upd_ne (ne_of hpa4 hL4 (by intro z; cases z))).trans hpa4, T.c_Plot, T.n_Plot_hold, lk_Plot_hold, _, _, rfl, rfl, _, rfl, _, _, rfl, _, _, rfl, rfl, ?_⟩
      · refine ⟨⟨_, _, _, _, rfl⟩, x4.put hLH, ?_⟩
        rw [upd_same, tab_succ, List.map_append, holdAt_some hpl]
        rfl
    · obtain ⟨⟨sp, v7, v8, v9, rfl⟩, x3, hL3⟩ := q
      rw [List.length_map, hal] at hL3
      have hd3 := x3.get hd
      refine ⟨_, rfl, _, rfl, _, rfl, d, _, dd, _, _, rfl, hd3, T.c_Day, T.n_Day_fill, lk_Day_fill, _, _, rfl, rfl, _, rfl, _, _, rfl, rfl, _, rfl, _, _, rfl, _, _, rfl, rfl, ?_⟩
      refine ⟨_, rfl, _, rfl, _, rfl, d, _, dd, _, _, rfl, hd3, T.c_Day, T.n_Day_fill, lk_Day_fill, _, _, rfl, rfl, _, rfl, _, rfl, _, rfl, _, _, rfl, _, rfl, by show 3 ≤ sizeLine; decide, fun p hp => ?_⟩
      refine k p L _ _ (x3.put (x3.none hp)) (SqT.of upd_same) ?_
      rw [upd_ne (ne_of_none hL3 hp), hL3]
end
end K17


set_option maxHeartbeats 4000000
/-! K17W11: Day, Weather -/
namespace K17
open PySem PySem.Spec PyProof.Rows L2
section
variable {P : Program} {w : World} {K : PySem.W.Frag} {mg : Str → Option Value} {base : Heap}
structure DayRaw (d : DayD) : Prop where
  l1 : 1 ≤ d.dry.length
  l4 : d.dry.length ≤ 4
  rl : d.rain.length = d.dry.length
  d0 : ∀ x ∈ d.dry, 0 ≤ x ∧ x ≤ 8
  r0 : ∀ x ∈ d.rain, 0 ≤ x ∧ x ≤ 8
  f0 : 0 ≤ d.fill
  f8 : d.fill ≤ 8
  m0 : 0 ≤ d.mood
  m3 : d.mood ≤ 3
def spDayI (K : PySem.W.Frag) : Sp := fun vs H Q _ => ∃ (x dx ld lr : Addr) (d : DayD), vs = [.ref x, .ref ld, .ref lr, .int d.fill, .int d.mood] ∧ H x = some (.ins (CDay K) dx []) ∧ SqL K H ld (d.dry.map V.int) ∧ SqL K H lr (d.rain.map V.int) ∧ DayRaw d ∧
  ∀ (td tr : Addr) H', (∀ a o, a ≠ x → H a = some o → H' a = some o) → H' x = some (.ins (CDay K) dx (dayF td tr d)) → SqT K H' td (d.dry.map V.int) → SqT K H' tr (d.rain.map V.int) → Q .non H'
theorem ok_dayI (T : Txt K mg) : Ok P w K mg base CX0 3 d_dayI (spDayI K) := by
  have nd : (["self", "dry", "rain", "fill", "mood", "value"] : List Str).Nodup := by decide +kernel
  refine mkOk (N := ["self", "dry", "rain", "fill", "mood", "value"]) (ps := ["self", "dry", "rain", "fill", "mood"]) T.f_dayI b_dayI ⟨rfl, rfl, rfl, nd, rfl, by decide +kernel, by decide +kernel⟩ (fun vs H Q E h => ?_) (fun cdv A outer s0 H vs Q E hr h => ?_)
  · obtain ⟨x, dx, ld, lr, d, rfl, _⟩ := h
    rfl
  · obtain ⟨x, dx, ld, lr, d, rfl, hx, hld, hlr, so, k⟩ := h
    obtain ⟨tU, hU⟩ := T.i_MOST_UNITS_weather
    refine ⟨_, pss_cons (ps_expr (pe_f (ok_chknum T) T.g_chknum hr pass0 (pa_cons pe_str (pa_cons (pe_b call_len_seq T.z_len (pa_cons (pv 1) pa_nil)) (pa_cons pe_int (pa_cons pe_int pa_nil))))))
      (pss_cons (ps_for PassesOwn.never rfl (pi_list (pv 1)) (pg_name (i := 5) nd rfl (Or.inl rfl)) (pss_one (ps_expr (pe_f (ok_chknum T) T.g_chknum hr pass0 (pa_cons pe_str (pa_cons (pv 5) (pa_cons pe_int (pa_cons (pe_glob (v := .int 8) rfl hU ⟨_, rfl⟩) pa_nil))))))))
      (pss_cons (ps_expr (pe_f (ok_chknum T) T.g_chknum hr pass0 (pa_cons pe_str (pa_cons (pe_b call_len_seq T.z_len (pa_cons (pv 2) pa_nil)) (pa_cons (pe_b call_len_seq T.z_len (pa_cons (pv 1) pa_nil)) (pa_cons (pe_b call_len_seq T.z_len (pa_cons (pv 1) pa_nil)) pa_nil))))))
      (pss_cons (ps_for PassesOwn.never rfl (pi_list (pv 2)) (pg_name (i := 5) nd rfl (Or.inl rfl)) (pss_one (ps_expr (pe_f (ok_chknum T) T.g_chknum hr pass0 (pa_cons pe_str (pa_cons (pv 5) (pa_cons pe_int (pa_cons (pe_glob (v := .int 8) rfl hU ⟨_, rfl⟩) pa_nil))))))))
      (pss_cons (ps_fld (pv 0) (pe_ty call_tuple_of T.z_tuple (pa_cons (pv 1) pa_nil)) rfl)
      (pss_cons (ps_fld (pv 0) (pe_ty call_tuple_of T.z_tuple (pa_cons (pv 2) pa_nil)) rfl)
      (pss_cons (ps_fld (pv 0) (pe_f (ok_chknum T) T.g_chknum hr pass0 (pa_cons pe_str (pa_cons (pv 3) (pa_cons pe_int (pa_cons (pe_glob (v := .int 8) rfl hU ⟨_, rfl⟩) pa_nil))))) rfl)
      (pss_one (ps_fld (pv 0) (pe_f (ok_chknum T) T.g_chknum hr pass0 (pa_cons pe_str (pa_cons (pv 4) (pa_cons pe_int (pa_cons pe_int pa_nil))))) rfl)))))))), ?_⟩
    have l1 := so.l1
    have l4 := so.l4
    have rl := so.rl
    refine ⟨_, rfl, ld, _, rfl, .inl hld, _, (d.dry.length : Int), 1, 4, by rw [List.length_map], by omega, by omega, _, rfl, ld, rfl, ⟨_, hld⟩, for_list (xs := d.dry.map V.int) (fun i σ H' => (∃ v5 : Option V, σ = [some (.ref x), some (.ref ld), some (.ref lr), some (.int d.fill), some (.int d.mood), v5]) ∧ H' = H) ⟨⟨_, rfl⟩, rfl⟩ (fun i σ H' hi q => by rw [q.2]; exact hld) (fun i y σ H' hy q => ?_) (fun σ H' q => ?_)⟩
    · obtain ⟨⟨v5, rfl⟩, rfl⟩ := q
      obtain ⟨z, hz, rfl⟩ := map_get hy
      have := so.d0 z (List.mem_of_getElem? hz)
      exact ⟨_, rfl, _, z, 0, 8, rfl, this.1, this.2, ⟨_, rfl⟩, rfl⟩
    · obtain ⟨⟨v5, rfl⟩, rfl⟩ := q
      refine ⟨_, rfl, lr, _, rfl, .inl hlr, _, rfl, ld, _, rfl, .inl hld, _, rfl, ld, _, rfl, .inl hld, _, (d.dry.length : Int), d.dry.length, d.dry.length, by rw [List.length_map, List.length_map, rl], by omega, by omega, _, rfl, lr, rfl, ⟨_, hlr⟩, for_list (xs := d.rain.map V.int) (fun i σ H5 => (∃ v5 : Option V, σ = [some (.ref x), some (.ref ld), some (.ref lr), some (.int d.fill), some (.int d.mood), v5]) ∧ H5 = H') ⟨⟨_, rfl⟩, rfl⟩ (fun i σ H5 hi q => by rw [q.2]; exact hlr) (fun i y σ H5 hy q => ?_) (fun σ H5 q => ?_)⟩
      · obtain ⟨⟨v5, rfl⟩, rfl⟩ := q
        obtain ⟨z, hz, rfl⟩ := map_get hy
        have := so.r0 z (List.mem_of_getElem? hz)
        exact ⟨_, rfl, _, z, 0, 8, rfl, this.1, this.2, ⟨_, rfl⟩, rfl⟩
      · obtain ⟨⟨v5, rfl⟩, rfl⟩ := q
        refine ⟨_, rfl, ld, _, rfl, .inl ⟨hld, fun t ht => ?_⟩⟩
        have x1 := Ext.upd (o := .tup (d.dry.map V.int)) ht
        have ht1 : SqT K (upd H5 t (.tup (d.dry.map V.int))) t (d.dry.map V.int) := SqT.of upd_same
        refine ⟨_, rfl, x, _, dx, _, rfl, x1.get hx, T.c_Day, T.n_Day_dry, few (by kernel_rfl), ?_⟩
        have hlr2 : SqL K (upd (upd H5 t (.tup (d.dry.map V.int))) x (.ins (CDay K) dx (putF "dry" (.ref t) []))) lr (d.rain.map V.int) := by
          rcases sqL_ext x1 hlr with (q | ⟨o, q⟩) | q
          · exact .inl (.inl ((upd_ne (ne_of q (x1.get hx) (by intro z; cases z))).trans q))
          · exact .inl (.inr ⟨o, (upd_ne (ne_of q (x1.get hx) (by intro z; cases z))).trans q⟩)
          · exact .inr q
        refine ⟨_, rfl, lr, _, rfl, .inl ⟨hlr2, fun u hu => ?_⟩⟩
        have hux : u ≠ x := (ne_of_none upd_same hu).symm
        have hut : u ≠ t := by
          intro e
          subst e
          rw [upd_ne (ne_of_none (show (upd H5 u (.tup (d.dry.map V.int))) x = _ from x1.get hx) (by
            rw [upd_ne hux] at hu
            exact hu)).symm, upd_same] at hu
          cases hu
        refine ⟨_, rfl, x, _, dx, _, rfl, (upd_ne hux.symm).trans upd_same, T.c_Day, T.n_Day_rain, few (by kernel_rfl), ?_⟩
        refine ⟨_, rfl, _, d.fill, 0, 8, rfl, so.f0, so.f8, _, rfl, x, _, dx, _, rfl, upd_same, T.c_Day, T.n_Day_fill, few (by kernel_rfl), ?_⟩
        refine ⟨_, rfl, _, d.mood, 0, 3, rfl, so.m0, so.m3, _, rfl, x, _, dx, _, rfl, upd_same, T.c_Day, T.n_Day_mood, few (by kernel_rfl), ?_⟩
        rw [upd_upd, upd_upd]
        have hxt : x ≠ t := ne_of_none hx ht
        have hu5 : H5 u = none := by
          rw [upd_ne hux, upd_ne hut] at hu
          exact hu
        refine k t u _ (fun a o n q => ?_) upd_same (SqT.of ?_) (SqT.of ?_)
        · rw [upd_ne n, upd_ne (ne_of_none q hu5), upd_ne n]
          exact x1.get q
        · rw [upd_ne hxt.symm, upd_ne hut.symm, upd_ne hxt.symm, upd_same]
        · rw [upd_ne hux, upd_same]
/-- len(weather), weather[at] -/
def spWLen (K : PySem.W.Frag) : Sp := fun vs H Q _ => ∃ (x : Addr) (n : Nat) (moods : List (List DayD)), vs = [.ref x] ∧ WeatherAt K H x n moods ∧ Q (.int moods.length) H
theorem ok_wlen (T : Txt K mg) : Ok P w K mg base CX0 1 d_weatherLen (spWLen K) := by
  refine mkOk (N := ["self"]) (ps := ["self"]) T.f_weatherLen b_weatherLen ⟨rfl, rfl, rfl, by decide +kernel, rfl, by decide +kernel, by decide +kernel⟩ (fun vs H Q E h => ?_) (fun cdv A outer s0 H vs Q E hr h => ?_)
  · obtain ⟨x, n, moods, rfl, _⟩ := h
    rfl
  · obtain ⟨x, n, moods, rfl, ⟨dx, tm, ms, hx, hm, hms⟩, k⟩ := h
    refine ⟨_, pss_one (ps_ret (pe_b call_len_seq T.z_len (pa_cons (pe_fld (pv 0) rfl) pa_nil))), ?_⟩
    refine ⟨_, rfl, x, _, dx, _, _, rfl, hx, T.c_Weather, T.n_Weather_moods, lk_Weather_moods, tm, _, rfl, .inr hm, ?_⟩
    rw [List.length_map, hms.1]
    exact k
def spWGet (K : PySem.W.Frag) : Sp := fun vs H Q _ => ∃ (x : Addr) (i n : Nat) (moods : List (List DayD)) (ds : List DayD), vs = [.ref x, .int i] ∧ WeatherAt K H x n moods ∧ moods[i]? = some ds ∧ ∀ m, MoodAt K H m ds → Q (.ref m) H
theorem ok_wget (T : Txt K mg) : Ok P w K mg base CX0 3 d_weatherGet (spWGet K) := by
  refine mkOk (N := ["self", "at"]) (ps := ["self", "at"]) T.f_weatherGet b_weatherGet ⟨rfl, rfl, rfl, by decide +kernel, rfl, by decide +kernel, by decide +kernel⟩ (fun vs H Q E h => ?_) (fun cdv A outer s0 H vs Q E hr h => ?_)
  · obtain ⟨x, i, n, moods, ds, rfl, _⟩ := h
    rfl
  · obtain ⟨x, i, n, moods, ds, rfl, ⟨dx, tm, ms, hx, hm, hms⟩, hi, k⟩ := h
    obtain ⟨m, hmi, hmd⟩ := hms.get hi
    have hi' : i < ms.length := (List.getElem?_eq_some_iff.mp hmi).1
    refine ⟨_, pss_cons (ps_expr (pe_f (ok_chknum T) T.g_chknum hr pass0 (pa_cons pe_str (pa_cons (pv 1) (pa_cons pe_int (pa_cons (pe_op op_sub (pe_b call_len_seq T.z_len (pa_cons (pe_fld (pv 0) rfl) pa_nil)) pe_int) pa_nil))))))
      (pss_one (ps_ret (pe_ix ix_tup (pe_fld (pv 0) rfl) (pv 1) (fun _ _ => rfl)))), ?_⟩
    refine ⟨_, rfl, _, rfl, x, _, dx, _, _, rfl, hx, T.c_Weather, T.n_Weather_moods, lk_Weather_moods, tm, _, rfl, .inr hm, _, _, rfl, rfl, _, (i : Int), 0, (ms.length : Int) - 1, by rw [List.length_map], by omega, by omega, ?_⟩
    exact ⟨_, rfl, x, _, dx, _, _, rfl, hx, T.c_Weather, T.n_Weather_moods, lk_Weather_moods, _, rfl, tm, _, _, _, rfl, rfl, hm, atI_get (get_map hmi), k m hmd⟩
end
end K17


set_option maxHeartbeats 4000000
/-! K17W12: Weather(*moods) -/
namespace K17
open PySem PySem.Spec PyProof.Rows L2
section
variable {P : Program} {w : World} {K : PySem.W.Frag} {mg : Str → Option Value} {base : Heap}
/-- a list of days that stands as a list, as a tuple; the days told of the heap H -/
def MoodL (K : PySem.W.Frag) (H : Hp) (m : Addr) (ds : List DayD) : Prop := ∃ xs : List Addr, SqL K H m (xs.map V.ref) ∧ All2 (DayAt K H) xs ds
def MoodT (K : PySem.W.Frag) (H H' : Hp) (m : Addr) (ds : List DayD) : Prop := ∃ xs : List Addr, SqT K H' m (xs.map V.ref) ∧ All2 (DayAt K H) xs ds
theorem MoodT.at {K : PySem.W.Frag} {H H' : Hp} (m : Mor H H') {a : Addr} {ds : List DayD} (h : MoodT K H H' a ds) : MoodAt K H' a ds := let ⟨xs, h1, h2⟩ := h; ⟨xs, h1, h2.imp fun _ _ q => q.mor m⟩
def spWeatherB (K : PySem.W.Frag) : Sp := fun vs H Q _ => ∃ (x dx p : Addr) (ms : List Addr) (n : Nat) (moods : List (List DayD)), vs = [.ref x, .ref p] ∧ H x = some (.ins (CWeather K) dx []) ∧ SqT K H p (ms.map V.ref) ∧ All2 (MoodL K H) ms moods ∧
  1 ≤ n ∧ n ≤ 4 ∧ 1 ≤ moods.length ∧ moods.length ≤ 4 ∧ (∀ ds ∈ moods, 1 ≤ ds.length ∧ ds.length ≤ 6 ∧ ∀ d ∈ ds, DayOk n moods.length d) ∧
  ∀ (tm : Addr) (ms' : List Addr) H', (∀ a o, a ≠ x → H a = some o → H' a = some o) → H' x = some (.ins (CWeather K) dx [("width", .int n), ("moods", .ref tm)]) → SqT K H' tm (ms'.map V.ref) → All2 (MoodT K H H') ms' moods → Q .non H'
theorem ok_weatherI (T : Txt K mg) : Ok P w K mg base CX0 3 d_weatherI (spStar (spWeatherB K)) := by
  have nd : (["self", "moods", "days", "day"] : List Str).Nodup := by decide +kernel
  refine mkStar (N := ["self", "moods", "days", "day"]) (p1 := "self") (pv := "moods") T.f_weatherI ⟨rfl, rfl, rfl, nd, rfl, by decide +kernel, by decide +kernel⟩ (fun _ _ _ _ _ _ _ => rfl) (fun _ _ _ _ _ _ _ _ _ => rfl) (fun cdv A outer s H vs Q E hr h => ?_)
  obtain ⟨x, dx, p, ms, n, moods, rfl, hx, hp, hms, n1, n4, m1, m4, hok, k⟩ := h
  have hml : ms.length = moods.length := hms.1
  have xp : ∀ a o, H a = some o → (∀ C d fs, o ≠ .ins C d fs) → a ≠ x := fun a o q hn => ne_of q hx (hn _ _ _)
  -- what stands besides x
  have sqL' : ∀ {H' : Hp} (kx : ∀ a o, a ≠ x → H a = some o → H' a = some o) {a : Addr} {zs : List V}, SqL K H a zs → SqL K H' a zs := fun {H'} kx {a zs} q => by
    rcases q with (q | ⟨o, q⟩) | q
    · exact .inl (.inl (kx _ _ (xp _ _ q (fun _ _ _ e => nomatch e)) q))
    · exact .inl (.inr ⟨o, kx _ _ (xp _ _ q (fun _ _ _ e => nomatch e)) q⟩)
    · exact .inr q
  have sqT' : ∀ {H' : Hp} (kx : ∀ a o, a ≠ x → H a = some o → H' a = some o) {a : Addr} {zs : List V}, SqT K H a zs → SqT K H' a zs := fun {H'} kx {a zs} q => by
    rcases q with (q | ⟨o, q⟩) | q
    · exact .inl (.inl (kx _ _ (xp _ _ q (fun _ _ _ e => nomatch e)) q))
    · exact .inl (.inr ⟨o, kx _ _ (xp _ _ q (fun _ _ _ e => nomatch e)) q⟩)
    · exact .inr q
  refine ⟨_, pss_cons (ps_expr (pe_f (ok_chknum T) T.g_chknum hr pass0 (pa_cons pe_str (pa_cons (pe_b call_len_seq T.z_len (pa_cons (pv 1) pa_nil)) (pa_cons pe_int (pa_cons pe_int pa_nil))))))
    (pss_cons (ps_fld (pv 0) pe_int rfl)
    (pss_cons (ps_for PassesOwn.never rfl (pi_tup (pv 1)) (pg_name (i := 2) nd rfl (Or.inl rfl))
      (pss_cons (ps_expr (pe_f (ok_chknum T) T.g_chknum hr pass0 (pa_cons pe_str (pa_cons (pe_b call_len_seq T.z_len (pa_cons (pv 2) pa_nil)) (pa_cons pe_int (pa_cons pe_int pa_nil))))))
      (pss_one (ps_for PassesOwn.never rfl (pi_list (pv 2)) (pg_name (i := 3) nd rfl (Or.inl rfl))
        (pss_cons (ps_if (pt_cmpR op_eq (pe_fld (pv 0) rfl) pe_int (nomark _)) (pss_one (ps_fld (pv 0) (pe_b call_len_seq T.z_len (pa_cons (pe_fld (pv 3) rfl) pa_nil)) rfl)) pss_nil)
        (pss_cons (ps_expr (pe_f (ok_chknum T) T.g_chknum hr pass0 (pa_cons pe_str (pa_cons (pe_b call_len_seq T.z_len (pa_cons (pe_fld (pv 3) rfl) pa_nil)) (pa_cons (pe_fld (pv 0) rfl) (pa_cons (pe_fld (pv 0) rfl) pa_nil))))))
        (pss_one (ps_expr (pe_f (ok_chknum T) T.g_chknum hr pass0 (pa_cons pe_str (pa_cons (pe_fld (pv 3) rfl) (pa_cons pe_int (pa_cons (pe_op op_sub (pe_b call_len_seq T.z_len (pa_cons (pv 1) pa_nil)) pe_int) pa_nil)))))))))))))
    (pss_one (ps_fld (pv 0) (pe_ty call_tuple_of T.z_tuple (pa_cons (pe_lc (own := [("days", 2)]) (g := gName 2) (tt := tYes) rfl nd (pi_tup (pv 1)) (blkOk_by (N := ["self", "moods", "days", "day"]) (sc := defScope s_weatherI) (by decide +kernel))
            (fun _ _ _ _ _ => pg_name (i := 2) nd rfl (Or.inl rfl)) (fun _ _ _ _ _ => pts_nil) (fun _ _ _ _ _ => pe_ty (call_tuple_ofK K) T.z_tuple (pa_cons (pv 2) pa_nil))) pa_nil)) rfl)))), ?_⟩
  refine ⟨_, rfl, p, _, rfl, .inr hp, _, (moods.length : Int), 1, 4, by rw [List.length_map, hml], by omega, by omega, ?_⟩
  refine ⟨_, rfl, x, _, dx, _, rfl, hx, T.c_Weather, T.n_Weather_width, few (by kernel_rfl), ?_⟩
  have kx0 : ∀ (wd : Int) a o, a ≠ x → H a = some o → (upd H x (.ins (CWeather K) dx [("width", .int wd)])) a = some o := fun wd a o n q => by rw [upd_ne n]; exact q
  refine ⟨_, rfl, p, rfl, ⟨_, sqT' (kx0 0) hp⟩, for_tup (xs := ms.map V.ref) (fun i σ H' => (∃ v2 v3 : Option V, σ = [some (.ref x), some (.ref p), v2, v3]) ∧ ∃ wd : Int, H' = upd H x (.ins (CWeather K) dx [("width", .int wd)]) ∧ (wd = 0 ∨ wd = n) ∧ (1 ≤ i → wd = n)) ⟨⟨_, _, rfl⟩, 0, rfl, .inl rfl, fun h => absurd h (by omega)⟩
    (fun i σ H' hi q => by obtain ⟨_, wd, rfl, _⟩ := q; exact sqT' (kx0 wd) hp) (fun i y σ H' hy q => ?_) (fun σ H' q => ?_)⟩
  · obtain ⟨⟨v2, v3, rfl⟩, wd, rfl, hwd, _⟩ := q
    obtain ⟨m, hm, rfl⟩ := map_get hy
    obtain ⟨ds, hds, xs, hxs, hxd⟩ := hms.get' hm
    obtain ⟨d1, d6, hdok⟩ := hok ds (List.mem_of_getElem? hds)
    have hxl : xs.length = ds.length := hxd.1
    refine ⟨_, rfl, m, _, rfl, .inl (sqL' (kx0 wd) hxs), _, (ds.length : Int), 1, 6, by rw [List.length_map, hxl], by omega, by omega, ?_⟩
    refine ⟨_, rfl, m, rfl, ⟨_, sqL' (kx0 wd) hxs⟩, for_list (xs := xs.map V.ref) (fun j σ H' => (∃ v3 : Option V, σ = [some (.ref x), some (.ref p), some (.ref m), v3]) ∧ ∃ wd : Int, H' = upd H x (.ins (CWeather K) dx [("width", .int wd)]) ∧ (wd = 0 ∨ wd = n) ∧ (1 ≤ j → wd = n)) ⟨⟨_, rfl⟩, wd, rfl, hwd, fun h => absurd h (by omega)⟩
      (fun j σ H' hj q => by obtain ⟨_, wd, rfl, _⟩ := q; exact sqL' (kx0 wd) hxs) (fun j y σ H' hy q => ?_) (fun σ H' q => ?_)⟩
    · obtain ⟨⟨v3, rfl⟩, wd, rfl, hwd, _⟩ := q
      obtain ⟨a, ha, rfl⟩ := map_get hy
      obtain ⟨d, hd, ddx, td, tr, hda, htd, htr⟩ := hxd.get' ha
      have dok := hdok d (List.mem_of_getElem? hd)
      have hax : a ≠ x := ne_of hda hx (by intro z; injection z with _ _ h; cases h)
      have hdl : (d.dry.map V.int).length = n := by rw [List.length_map]; exact dok.dl
      have rest : ∀ wd' : Int, wd' = n → ∀ (H' : Hp), H' = upd H x (.ins (CWeather K) dx [("width", .int wd')]) → H' a = some (.ins (CDay K) ddx (dayF td tr d)) ∧ SqT K H' td (d.dry.map V.int) ∧ H' x = some (.ins (CWeather K) dx [("width", .int wd')]) ∧ SqT K H' p (ms.map V.ref) := fun wd' hw H' e => by
        subst e
        exact ⟨kx0 wd' _ _ hax hda, sqT' (kx0 wd') htd, upd_same, sqT' (kx0 wd') hp⟩
      refine ⟨_, rfl, x, _, dx, _, _, rfl, upd_same, T.c_Weather, T.n_Weather_width, (show ([("width", V.int wd)] : List (Str × V)).lookup ("width" : Str) = some (.int wd) by kernel_rfl), rfl, _, rfl, ?_⟩
      rcases hwd with e0 | en
      · subst e0
        rw [decide_eq_true rfl]
        refine iteT ⟨_, rfl, a, _, ddx, _, _, rfl, kx0 0 _ _ hax hda, T.c_Day, T.n_Day_dry, lk_Day_dry, td, _, rfl, .inr (sqT' (kx0 0) htd), _, rfl, x, _, dx, _, rfl, upd_same, T.c_Weather, T.n_Weather_width, few (by kernel_rfl), ?_⟩
        rw [upd_upd, hdl]
        obtain ⟨r1, r2, r3, r4⟩ := rest n rfl _ rfl
        refine ⟨_, rfl, a, _, ddx, _, _, rfl, r1, T.c_Day, T.n_Day_dry, lk_Day_dry, td, _, rfl, .inr r2, _, rfl, x, _, dx, _, _, rfl, r3, T.c_Weather, T.n_Weather_width, (show ([("width", V.int n)] : List (Str × V)).lookup ("width" : Str) = some (.int n) by kernel_rfl), _, rfl, x, _, dx, _, _, rfl, r3, T.c_Weather, T.n_Weather_width, (show ([("width", V.int n)] : List (Str × V)).lookup ("width" : Str) = some (.int n) by kernel_rfl),
          _, (n : Int), n, n, by rw [hdl], by omega, by omega, ?_⟩
        refine ⟨_, rfl, a, _, ddx, _, _, rfl, r1, T.c_Day, T.n_Day_mood, lk_Day_mood, _, rfl, p, _, rfl, .inr r4, _, _, rfl, rfl, _, d.mood, 0, (moods.length : Int) - 1, by rw [List.length_map, hml], dok.m0, by have := dok.mm; omega, ?_⟩
        exact ⟨⟨_, rfl⟩, n, rfl, .inr rfl, fun _ => rfl⟩
      · subst en
        rw [decide_eq_false (by intro e; injection e; omega)]
        obtain ⟨r1, r2, r3, r4⟩ := rest n rfl _ rfl
        refine iteF ⟨_, rfl, a, _, ddx, _, _, rfl, r1, T.c_Day, T.n_Day_dry, lk_Day_dry, td, _, rfl, .inr r2, _, rfl, x, _, dx, _, _, rfl, r3, T.c_Weather, T.n_Weather_width, (show ([("width", V.int n)] : List (Str × V)).lookup ("width" : Str) = some (.int n) by kernel_rfl), _, rfl, x, _, dx, _, _, rfl, r3, T.c_Weather, T.n_Weather_width, (show ([("width", V.int n)] : List (Str × V)).lookup ("width" : Str) = some (.int n) by kernel_rfl),
          _, (n : Int), n, n, by rw [hdl], by omega, by omega, ?_⟩
        refine ⟨_, rfl, a, _, ddx, _, _, rfl, r1, T.c_Day, T.n_Day_mood, lk_Day_mood, _, rfl, p, _, rfl, .inr r4, _, _, rfl, rfl, _, d.mood, 0, (moods.length : Int) - 1, by rw [List.length_map, hml], dok.m0, by have := dok.mm; omega, ?_⟩
        exact ⟨⟨_, rfl⟩, n, rfl, .inr rfl, fun _ => rfl⟩
    · obtain ⟨⟨v3, rfl⟩, wd, rfl, hwd, hw1⟩ := q
      exact ⟨⟨_, _, rfl⟩, wd, rfl, hwd, fun _ => hw1 (by rw [List.length_map]; omega)⟩
  · obtain ⟨⟨v2, v3, rfl⟩, wd, rfl, hwd, hw1⟩ := q
    have hwn := hw1 (by rw [List.length_map]; omega)
    subst hwn
    have hxx : (upd H x (.ins (CWeather K) dx [("width", .int (n : Int))])) x = some (.ins (CWeather K) dx [("width", .int (n : Int))]) := upd_same
    refine ⟨_, rfl, p, rfl, ⟨_, sqT' (kx0 n) hp⟩, fun D hD => lc_tup (K := K) (a := p) (xs := ms.map V.ref) (fun i H' => Ext (upd H x (.ins (CWeather K) dx [("width", .int (n : Int))])) H' ∧ ∃ ws : List Addr, H' D = some (.lst (ws.map V.ref)) ∧ All2 (MoodT K H H') ws (moods.take i)) ⟨Ext.upd hD, [], upd_same, .nil⟩
      (fun i H' hi q => sqT_mor q.1.mor (sqT' (kx0 n) hp)) (fun i y H' hy q => ?_) (fun H' q => ?_)⟩
    · obtain ⟨x1, ws, hD1, hws⟩ := q
      obtain ⟨m, hm, rfl⟩ := map_get hy
      obtain ⟨ds, hds, xs, hxs, hxd⟩ := hms.get' hm
      have hi' : i < moods.length := (List.getElem?_eq_some_iff.mp hds).1
      refine ⟨rfl, _, rfl, m, _, rfl, .inl ⟨sqL_ext x1 (sqL' (kx0 n) hxs), fun t ht => ?_⟩⟩
      have x2 := x1.put (o := .tup (xs.map V.ref)) (x1.none ht)
      have ht2 : SqT K (upd H' t (.tup (xs.map V.ref))) t (xs.map V.ref) := SqT.of upd_same
      have hD2 : (upd H' t (.tup (xs.map V.ref))) D = some (.lst (ws.map V.ref)) := by rw [upd_ne (ne_of_none hD1 ht)]; exact hD1
      have m2 := Mor.new (o := .tup (xs.map V.ref)) ht
      have hwl : ws.length = i := by rw [hws.1, List.length_take]; omega
      refine ⟨_, hD2, Nat.lt_of_lt_of_le (show _ < 1000 by rw [List.length_map]; omega) (by decide), x2.put hD, ws ++ [t], by rw [upd_same, List.map_append]; rfl, ?_⟩
      have mD := Mor.lst (ys := ws.map V.ref ++ [.ref t]) hD2
      rw [show moods.take (i + 1) = moods.take i ++ [ds] by rw [List.take_succ, hds]; rfl]
      exact All2.snoc (hws.imp fun a b q => let ⟨xs, h1, h2⟩ := q; ⟨xs, sqT_mor mD (sqT_mor m2 h1), h2⟩) ⟨xs, sqT_mor mD ht2, hxd⟩
    · obtain ⟨x1, ws, hD1, hws⟩ := q
      rw [List.length_map, hml, List.take_length] at hws
      refine ⟨D, _, rfl, .inl ⟨SqL.of hD1, fun t ht => ?_⟩⟩
      have x2 := x1.put (o := .tup (ws.map V.ref)) (x1.none ht)
      have ht2 : SqT K (upd H' t (.tup (ws.map V.ref))) t (ws.map V.ref) := SqT.of upd_same
      have m2 := Mor.new (o := .tup (ws.map V.ref)) ht
      refine ⟨_, rfl, x, _, dx, _, rfl, x2.get hxx, T.c_Weather, T.n_Weather_moods, few (by kernel_rfl), ?_⟩
      have mi := Tu.ins (o := .ins (CWeather K) dx [("width", .int (n : Int)), ("moods", .ref t)]) (x2.get hxx)
      exact k t ws _ (fun a o n q => by rw [upd_ne n]; exact x2.get (by rw [upd_ne n]; exact q)) upd_same (sqT_tu mi ht2) (hws.imp fun a b q => let ⟨xs, h1, h2⟩ := q; ⟨xs, sqT_tu mi (sqT_mor m2 h1), h2⟩)
end
end K17


set_option maxHeartbeats 4000000
/-! K17W13: Field -/
namespace K17
open PySem PySem.Spec PyProof.Rows L2
/-- all but x stays -/
def Kx (x : Addr) (H H' : Hp) : Prop := ∀ a o, a ≠ x → H a = some o → H' a = some o
theorem Kx.trans {x : Addr} {H H1 H2 : Hp} (a : Kx x H H1) (b : Kx x H1 H2) : Kx x H H2 := fun c o n q => b c o n (a c o n q)
theorem Ext.kx {x : Addr} {H H' : Hp} (e : Ext H H') : Kx x H H' := fun a o _ q => e.get q
theorem Kx.upd {x : Addr} {H : Hp} {o : HO} : Kx x H (L2.upd H x o) := fun a u n q => by rw [upd_ne n]; exact q
section
variable {K : PySem.W.Frag} {H H' : Hp} {x C dx : Addr} (hx : H x = some (.ins C dx [])) (hk : Kx x H H')
include hx hk
theorem ins_kx {a C' d' : Addr} {f : Str × V} {fs : List (Str × V)} (h : H a = some (.ins C' d' (f :: fs))) : H' a = some (.ins C' d' (f :: fs)) := hk _ _ (ne_of h hx (by intro z; injection z with _ _ h; cases h)) h
theorem sqT_kx {a : Addr} {xs : List V} (h : SqT K H a xs) : SqT K H' a xs := by
  rcases h with (q | ⟨o, q⟩) | q
  · exact .inl (.inl (hk _ _ (ne_of q hx (by intro z; cases z)) q))
  · exact .inl (.inr ⟨o, hk _ _ (ne_of q hx (by intro z; cases z)) q⟩)
  · exact .inr q
theorem GroundAt.kx {a : Addr} {ps : List Pl} {gs : List (List Str)} {c : Int} (h : GroundAt K H a ps gs c) : GroundAt K H' a ps gs c := by
  obtain ⟨d, tp, tn, g, h1, ⟨as, h2, h3⟩, h4, ⟨gd, tg, h5, ms, h6, h7⟩⟩ := h
  exact ⟨d, tp, tn, g, ins_kx hx hk h1, ⟨as, sqT_kx hx hk h2, h3.imp fun _ _ q => q.imp fun _ q => ins_kx hx hk q⟩, sqT_kx hx hk h4, gd, tg, ins_kx hx hk h5, ms, sqT_kx hx hk h6, h7.imp fun _ _ q => sqT_kx hx hk q⟩
end
section
variable {P : Program} {w : World} {K : PySem.W.Frag} {mg : Str → Option Value} {base : Heap}
/-- the law's fields are small -/
structure Small (F : Fi) : Prop where
  n3 : F.plots.length ≤ 3
  h4 : ∀ p ∈ F.plots, p.hold ≤ 4
  c4 : F.cap ≤ 4
  m3 : F.moods.length ≤ 3
theorem pow5 {i : Nat} (h : i ≤ 3) : (5 : Int) ^ i ≤ 125 := by
  have e : i = 0 ∨ i = 1 ∨ i = 2 ∨ i = 3 := by omega
  rcases e with e | e | e | e <;> (subst e; decide)
def spFieldI (K : PySem.W.Frag) : Sp := fun vs H Q _ => ∃ (x dx g we : Addr) (F : Fi), vs = [.ref x, .ref g, .ref we] ∧ H x = some (.ins (CField K) dx []) ∧ GroundAt K H g F.plots F.groups F.cap ∧ WeatherAt K H we F.plots.length F.moods ∧ FieldOk F ∧ Small F ∧
  ∀ (gr tt : Addr) (am : Int) H', (∀ a o, a ≠ x → H a = some o → H' a = some o) → H' x = some (.ins (CField K) dx (fieldF gr we tt am F.cap)) → GroundAt K H' gr F.plots F.groups F.cap → Q .non H'
theorem ok_fieldI (T : Txt K mg) : Ok P w K mg base CX0 5 d_fieldI (spFieldI K) := by
  have nd : (["self", "ground", "weather", "amount", "plot"] : List Str).Nodup := by decide +kernel
  refine mkOk (N := ["self", "ground", "weather", "amount", "plot"]) (ps := ["self", "ground", "weather"]) T.f_fieldI b_fieldI ⟨rfl, rfl, rfl, nd, rfl, by decide +kernel, by decide +kernel⟩ (fun vs H Q E h => ?_) (fun cdv A outer s0 H vs Q E hr h => ?_)
  · obtain ⟨x, dx, g, we, F, rfl, _⟩ := h
    rfl
  · obtain ⟨x, dx, g, we, F, rfl, hx, hg, hw, fo, sm, k⟩ := h
    obtain ⟨tM, hM⟩ := T.i_MOST_STANDINGS
    have hg' := hg
    obtain ⟨gdx, tp, tn, gg, hgi, ⟨as, htp, hap⟩, htn, hgg⟩ := hg'
    obtain ⟨wdx, tm, ms, hwi, htm, hms⟩ := hw
    have hal : as.length = F.plots.length := hap.1
    have hml : ms.length = F.moods.length := hms.1
    have n1 := fo.n1
    have n4 := fo.n4
    have m1 := fo.m1
    have n3 := sm.n3
    have m3 := sm.m3
    have c4 := sm.c4
    have c0 := fo.c0
    refine ⟨_, pss_cons (ps_expr (pe_f (ok_chknum T) T.g_chknum (hr.mono (by decide)) pass0 (pa_cons pe_str (pa_cons (pe_fld (pv 2) rfl) (pa_cons (pe_b call_len_seq T.z_len (pa_cons (pe_fld (pv 1) rfl) pa_nil)) (pa_cons (pe_b call_len_seq T.z_len (pa_cons (pe_fld (pv 1) rfl) pa_nil)) pa_nil))))))
      (pss_cons (ps_set (i := 3) nd rfl (Or.inl rfl) (pe_op op_mul (pe_op op_add (pe_pr (d := d_capG) (pv 1) T.c_Ground T.p_cap (ok_capG T) (hr.mono (by decide)) pass0) pe_int) (pe_b call_len_seq T.z_len (pa_cons (pe_fld (pv 2) rfl) pa_nil))))
      (pss_cons (ps_for PassesOwn.never rfl (pi_tup (pe_fld (pv 1) rfl)) (pg_name (i := 4) nd rfl (Or.inl rfl)) (pss_one (ps_aug (i := 3) nd rfl (Or.inl rfl) (pe_op op_add (pe_fld (pv 4) rfl) pe_int) ip_mul)))
      (pss_cons (ps_if (pt_cmpR op_gt (pv 3) (pe_glob (v := .int 6000) rfl hM ⟨_, rfl⟩) (nomark _)) (pss_one ps_never) pss_nil)
      (pss_cons (ps_fld (pv 0) (pe_mk (d := d_groundI) T.mk_Ground (ok_groundI T) T.gc_Ground hr pass0 (pa_cons (pe_fld (pv 1) rfl) (pa_cons (pe_fld (pv 1) rfl) (pa_cons (pe_pr (d := d_capG) (pv 1) T.c_Ground T.p_cap (ok_capG T) (hr.mono (by decide)) pass0) pa_nil)))) rfl)
      (pss_cons (ps_fld (pv 0) (pv 2) rfl)
      (pss_cons (ps_fld (pv 0) (pv 3) rfl)
      (pss_cons (ps_fld (pv 0) (pe_pr (d := d_capG) (pv 1) T.c_Ground T.p_cap (ok_capG T) (hr.mono (by decide)) pass0) rfl)
      (pss_one (ps_fld (pv 0) (pe_ty call_tuple_of T.z_tuple (pa_cons (pe_m0 (d := d_turns) (pv 1) T.c_Ground T.m_turns (ok_turns T) (hr.mono (by decide)) pass0) pa_nil)) rfl))))))))), ?_⟩
    refine ⟨_, rfl, we, _, wdx, _, _, rfl, hwi, T.c_Weather, T.n_Weather_width, lk_Weather_width, _, rfl, g, _, gdx, _, _, rfl, hgi, T.c_Ground, T.n_Ground_plots, lk_Ground_plots, tp, _, rfl, .inr htp, _, rfl, g, _, gdx, _, _, rfl, hgi, T.c_Ground, T.n_Ground_plots, lk_Ground_plots, tp, _, rfl, .inr htp,
      _, (F.plots.length : Int), F.plots.length, F.plots.length, by rw [List.length_map, hal], by omega, by omega, ?_⟩
    refine ⟨_, rfl, g, gdx, _, rfl, hgi, g, F.plots, F.groups, F.cap, rfl, hg, _, _, rfl, rfl, _, rfl, we, _, wdx, _, _, rfl, hwi, T.c_Weather, T.n_Weather_moods, lk_Weather_moods, tm, _, rfl, .inr htm, _, _, rfl, rfl, .inl ⟨by omega, by omega⟩, ?_⟩
    refine ⟨_, rfl, g, _, gdx, _, _, rfl, hgi, T.c_Ground, T.n_Ground_plots, lk_Ground_plots, tp, rfl, ⟨_, htp⟩, for_tup (xs := as.map V.ref) (fun i σ H' => (∃ (am : Int) (v4 : Option V), σ = [some (.ref x), some (.ref g), some (.ref we), some (.int am), v4] ∧ 0 ≤ am ∧ am ≤ 15 * 5 ^ i) ∧ H' = H) ⟨⟨_, _, rfl, ?_, ?_⟩, rfl⟩ (fun i σ H' hi q => by rw [q.2]; exact htp) (fun i y σ H' hy q => ?_) (fun σ H' q => ?_)⟩
    · rw [List.length_map, hml]
      exact Int.mul_nonneg (by omega) (by omega)
    · rw [List.length_map, hml]
      have := Int.mul_le_mul (show F.cap + 1 ≤ 5 by omega) (show (F.moods.length : Int) ≤ 3 by omega) (by omega) (by decide)
      simpa using this
    · obtain ⟨⟨am, v4, rfl, a0, a1⟩, rfl⟩ := q
      obtain ⟨a, ha, rfl⟩ := map_get hy
      obtain ⟨pl, hpl, pdx, hpa⟩ := hap.get' ha
      have hi' : i < F.plots.length := (List.getElem?_eq_some_iff.mp hpl).1
      have hp := fo.pl pl (List.mem_of_getElem? hpl)
      have hp4 := sm.h4 pl (List.mem_of_getElem? hpl)
      have h5 := pow5 (show i ≤ 3 by omega)
      refine ⟨_, rfl, _, rfl, a, _, pdx, _, _, rfl, hpa, T.c_Plot, T.n_Plot_hold, lk_Plot_hold, _, _, rfl, rfl, _, _, rfl, rfl, .inl ⟨by omega, by omega⟩, ⟨_, _, rfl, Int.mul_nonneg a0 (by omega), ?_⟩, rfl⟩
      have := Int.mul_le_mul a1 (show pl.hold + 1 ≤ 5 by omega) (by omega) (Int.mul_nonneg (by decide) (Int.pow_nonneg (by decide)))
      rw [Int.pow_succ, ← Int.mul_assoc]
      exact this
    · obtain ⟨⟨am, v4, rfl, a0, a1⟩, rfl⟩ := q
      have h5 := pow5 (show (as.map V.ref).length ≤ 3 by rw [List.length_map]; omega)
      refine ⟨_, rfl, _, _, rfl, rfl, _, rfl, ?_⟩
      rw [decide_eq_false (by omega)]
      refine iteF ⟨_, rfl, g, _, gdx, _, _, rfl, hgi, T.c_Ground, T.n_Ground_plots, lk_Ground_plots, _, rfl, g, _, gdx, _, _, rfl, hgi, T.c_Ground, T.n_Ground_gates, lk_Ground_gates, _, rfl, g, gdx, _, rfl, hgi, g, F.plots, F.groups, F.cap, rfl, hg, fun y dy hy hdy hne => ?_⟩
      have xm : Ext H' (upd (upd H' dy (.own y)) y (.ins (CGround K) dy [])) := (Ext.upd hdy).put hy
      refine ⟨y, dy, tp, gg, as, F.plots, F.groups, F.cap, rfl, upd_same, .inr (sqT_mor xm.mor htp), hap.imp fun _ _ q => q.mor xm.mor, n1, n4, fo.nd, hgg.mor xm.mor, fo.gr, c0, fo.c8, fun tp2 tn2 H2 hk hy2 htp2 htn2 => ⟨rfl, ?_⟩⟩
      have x2 : Ext H' H2 := Ext.self hy hdy hk
      have hgr2 : GroundAt K H2 y F.plots F.groups F.cap := ⟨dy, tp2, tn2, gg, hy2, ⟨as, htp2, hap.imp fun _ _ q => q.mor x2.mor⟩, htn2, hgg.mor x2.mor⟩
      have hx2 := x2.get hx
      have hg2 := hg.mor x2.mor
      refine ⟨_, rfl, x, _, dx, _, rfl, hx2, T.c_Field, T.n_Field_ground, few (by kernel_rfl), ?_⟩
      refine ⟨_, rfl, _, rfl, x, _, dx, _, rfl, upd_same, T.c_Field, T.n_Field_weather, few (by kernel_rfl), ?_⟩
      refine ⟨_, rfl, _, rfl, x, _, dx, _, rfl, upd_same, T.c_Field, T.n_Field_amount, few (by kernel_rfl), ?_⟩
      rw [upd_upd, upd_upd]
      have hg3 := GroundAt.kx hx2 (Kx.upd (o := .ins (CField K) dx [("ground", .ref y), ("weather", .ref we), ("amount", .int am)])) hg2
      have hgi3 := ins_kx hx2 (Kx.upd (o := .ins (CField K) dx [("ground", .ref y), ("weather", .ref we), ("amount", .int am)])) (x2.get hgi)
      refine ⟨_, rfl, g, gdx, _, rfl, hgi3, g, F.plots, F.groups, F.cap, rfl, hg3, _, rfl, x, _, dx, _, rfl, upd_same, T.c_Field, T.n_Field_bottom, few (by kernel_rfl), ?_⟩
      rw [upd_upd]
      have k4 : Kx x H2 (upd H2 x (.ins (CField K) dx [("ground", .ref y), ("weather", .ref we), ("amount", .int am), ("bottom", .int F.cap)])) := Kx.upd
      have hg4 := GroundAt.kx hx2 k4 hg2
      have hgi4 := ins_kx hx2 k4 (x2.get hgi)
      refine ⟨_, rfl, g, gdx, _, rfl, hgi4, by kernel_rfl, g, F.plots, F.groups, F.cap, rfl, hg4, n1, n4, fun L ts tus H5 x5 _ hL _ _ _ _ => ?_⟩
      refine ⟨L, _, rfl, .inl ⟨SqL.of hL, fun t ht => ?_⟩⟩
      have x6 := x5.put (o := .tup (ts.map V.ref)) (x5.none ht)
      refine ⟨_, rfl, x, _, dx, _, rfl, x6.get upd_same, T.c_Field, T.n_Field_turn_list, few (by kernel_rfl), ?_⟩
      have kx : Kx x H2 (upd (upd H5 t (.tup (ts.map V.ref))) x (.ins (CField K) dx (fieldF y we t am F.cap))) := (k4.trans x6.kx).trans Kx.upd
      exact k y t am _ (fun a o n q => kx a o n (x2.get q)) upd_same (GroundAt.kx hx2 kx hgr2)
def spFits (K : PySem.W.Frag) : Sp := fun vs H Q _ => ∃ (x a : Addr) (F : Fi) (s : StD), vs = [.ref x, .ref a] ∧ FieldAt K H x F ∧ StandAt K H a s ∧ StOk F s ∧ ∀ H', Ext H H' → Q (.bl true) H'
theorem ok_fits (T : Txt K mg) : Ok P w K mg base CX0 1 d_fits (spFits K) := by
  have nd : (["self", "standing", "plots", "at", "plot"] : List Str).Nodup := by decide +kernel
  refine mkOk (N := ["self", "standing", "plots", "at", "plot"]) (ps := ["self", "standing"]) T.f_fits b_fits ⟨rfl, rfl, rfl, nd, rfl, by decide +kernel, by decide +kernel⟩ (fun vs H Q E h => ?_) (fun cdv A outer s0 H vs Q E hr h => ?_)
  · obtain ⟨x, a, F, s, rfl, _⟩ := h
    rfl
  · obtain ⟨x, a, F, s, rfl, ⟨fdx, gr, we, tt, am, hf, ⟨gdx, tp, tn, gg, hgi, ⟨as, htp, hap⟩, htn, hgg⟩, ⟨wdx, tm, ms, hwi, htm, hms⟩⟩, ⟨sdx, tl, hs, htl⟩, so, k⟩ := h
    have hal : as.length = F.plots.length := hap.1
    have hml : ms.length = F.moods.length := hms.1
    refine ⟨_, pss_cons (ps_set (i := 2) nd rfl (Or.inl rfl) (pe_fld (pe_fld (pv 0) rfl) rfl))
      (pss_cons (ps_if (PW.pt (pw_or (pt_cmpR op_ne (pe_b call_len_seq T.z_len (pa_cons (pe_fld (pv 1) rfl) pa_nil)) (pe_b call_len_seq T.z_len (pa_cons (pv 2) pa_nil)) (nomark _)) (pw_or1 (pt_cmpR op_gt (pe_fld (pv 1) rfl) (pe_fld (pv 0) rfl) (nomark _))))) (pss_one ps_never) pss_nil)
      (pss_cons (ps_for PassesOwn.never rfl (pi_enumT T.z_enumerate (pa_cons (pv 2) pa_nil)) (pg_tup rfl (pgs_cons (pg_name (i := 3) nd rfl (Or.inl rfl)) (pgs_cons (pg_name (i := 4) nd rfl (Or.inl rfl)) pgs_nil)))
        (pss_one (ps_if (pt_cmpR op_gt (pe_ix ix_tup (pe_fld (pv 1) rfl) (pv 3) (fun _ _ => rfl)) (pe_fld (pv 4) rfl) (nomark _)) (pss_one ps_never) pss_nil)))
      (pss_one (ps_ret (pe_cmpR op_lt (pe_fld (pv 1) rfl) (pe_b call_len_seq T.z_len (pa_cons (pe_fld (pe_fld (pv 0) rfl) rfl) pa_nil)) (nomark _)))))), ?_⟩
    refine ⟨_, rfl, x, _, fdx, _, _, rfl, hf, T.c_Field, T.n_Field_ground, lk_Field_ground, gr, _, gdx, _, _, rfl, hgi, T.c_Ground, T.n_Ground_plots, lk_Ground_plots, ?_⟩
    refine ⟨_, rfl, a, _, sdx, _, _, rfl, hs, T.c_Standing, T.n_Standing_levels, lk_Stand_levels, tl, _, rfl, .inr htl, _, rfl, tp, _, rfl, .inr htp, rfl, _, rfl, ?_⟩
    rw [decide_eq_true (by rw [List.length_map, List.length_map, hal, so.ln])]
    refine iteF ⟨_, rfl, a, _, sdx, _, _, rfl, hs, T.c_Standing, T.n_Standing_tank, lk_Stand_tank, _, rfl, x, _, fdx, _, _, rfl, hf, T.c_Field, T.n_Field_bottom, lk_Field_bottom, _, _, rfl, rfl, _, rfl, ?_⟩
    have htc := so.tc
    rw [decide_eq_false (by omega)]
    refine iteF ⟨_, rfl, tp, _, rfl, htp, for_it (walk_enumT (xs := as.map V.ref)) (fun i σ H' => (∃ v3 v4 : Option V, σ = [some (.ref x), some (.ref a), some (.ref tp), v3, v4]) ∧ Ext H H') ⟨⟨_, _, rfl⟩, Ext.refl H⟩ (fun i σ H' hi q => sqT_mor q.2.mor htp) (fun i y σ H3 H4 hi q yy => ?_) (fun σ H3 q => ?_)⟩
    · obtain ⟨⟨v3, v4, rfl⟩, x3⟩ := q
      obtain ⟨u, p, r, rfl, hu, rfl, ea, eb⟩ := yy
      obtain rfl := Option.some.inj ea
      obtain ⟨c, hc, rfl⟩ := map_get eb
      obtain ⟨pl, hpl, pdx, hpa⟩ := hap.get' hc
      have hi' : i < F.plots.length := (List.getElem?_eq_some_iff.mp hpl).1
      have x4 := x3.put (o := .tup [.int (i : Nat), .ref c]) (x3.none hu)
      have hl := so.lv i hi'
      rw [holdAt_some hpl] at hl
      have hln := so.ln
      refine ⟨u, _, rfl, SqT.of upd_same, rfl, _, _, rfl, _, _, rfl, rfl, _, rfl, a, _, sdx, _, _, rfl, x4.get hs, T.c_Standing, T.n_Standing_levels, lk_Stand_levels, _, rfl, tl, _, _, _, rfl, rfl, sqT_mor x4.mor htl, atI_get (get_map (iv_get (by omega))), _, rfl, c, _, pdx, _, _, rfl, x4.get hpa, T.c_Plot, T.n_Plot_hold, lk_Plot_hold, _, _, rfl, rfl, _, rfl, ?_⟩
      rw [decide_eq_false (by omega)]
      exact iteF ⟨⟨_, _, rfl⟩, x4⟩
    · obtain ⟨⟨v3, v4, rfl⟩, x3⟩ := q
      refine ⟨_, rfl, a, _, sdx, _, _, rfl, x3.get hs, T.c_Standing, T.n_Standing_mood, lk_Stand_mood, _, rfl, x, _, fdx, _, _, rfl, x3.get hf, T.c_Field, T.n_Field_weather, lk_Field_weather, we, _, wdx, _, _, rfl, x3.get hwi, T.c_Weather, T.n_Weather_moods, lk_Weather_moods, tm, _, rfl, .inr (sqT_mor x3.mor htm), _, _, rfl, rfl, ?_⟩
      show Q (.bl (decide (s.mood < ((ms.map V.ref).length : Int)))) _
      rw [decide_eq_true (by rw [List.length_map, hml]; exact so.mm)]
      exact k _ x3
end
end K17


set_option maxHeartbeats 4000000
/-! K17W14: watered -/
namespace K17
open PySem PySem.Spec PyProof.Rows L2
/-- the standing behind the water -/
def wetS (F : Fi) (s : StD) (turn : List Str) : StD := ⟨tab (svF F.plots turn s.levels s.tank) F.plots.length, svT F.plots turn s.levels s.tank F.plots.length, s.mood⟩
theorem StOk.raw {F : Fi} {s : StD} (fo : FieldOk F) (so : StOk F s) : StRaw s := by
  have ln := so.ln
  refine ⟨by rw [ln]; exact fo.n1, by rw [ln]; exact fo.n4, fun x hx => ?_, so.t0, by have := so.tc; have := fo.c8; omega, so.m0, by have := so.mm; have := fo.m4; omega⟩
  obtain ⟨i, hi, e⟩ := List.getElem_of_mem hx
  have h1 := so.lv i (by omega)
  have h2 := fo.hold (i := i) (by omega)
  rw [iv_of (List.getElem?_eq_getElem hi), e] at h1
  omega
theorem wet_ok {F : Fi} {s : StD} (fo : FieldOk F) (so : StOk F s) (turn : List Str) : StOk F (wetS F s turn) := by
  have hT := sv_bounds fo so turn F.plots.length (Nat.le_refl _)
  refine ⟨tab_len _ _, fun i hi => ?_, hT.1, by have := so.tc; show svT F.plots turn s.levels s.tank F.plots.length ≤ _; omega, so.m0, so.mm⟩
  show 0 ≤ iv (tab _ _) i ∧ iv (tab _ _) i ≤ _
  rw [tab_iv hi]
  exact svF_bounds fo so turn hi
section
variable {P : Program} {w : World} {K : PySem.W.Frag} {mg : Str → Option Value} {base : Heap}
def spWatered (K : PySem.W.Frag) : Sp := fun vs H Q _ => ∃ (x a b : Addr) (F : Fi) (s : StD) (turn : List Str), vs = [.ref x, .ref a, .ref b] ∧ FieldAt K H x F ∧ FieldOk F ∧ StandAt K H a s ∧ StOk F s ∧ NamesT K H b turn ∧ TurnOk F.plots F.groups turn ∧
  ∀ r H', Ext H H' → StandAt K H' r (wetS F s turn) → Q (.ref r) H'
theorem ok_watered (T : Txt K mg) : Ok P w K mg base CX0 5 d_watered (spWatered K) := by
  have nd : (["self", "standing", "turn", "names", "levels", "tank"] : List Str).Nodup := by decide +kernel
  refine mkOk (N := ["self", "standing", "turn", "names", "levels", "tank"]) (ps := ["self", "standing", "turn"]) T.f_watered b_watered ⟨rfl, rfl, rfl, nd, rfl, by decide +kernel, by decide +kernel⟩ (fun vs H Q E h => ?_) (fun cdv A outer s0 H vs Q E hr h => ?_)
  · obtain ⟨x, a, b, F, s, turn, rfl, _⟩ := h
    rfl
  · obtain ⟨x, a, b, F, s, turn, rfl, hF, fo, hs, so, hb, tk, k⟩ := h
    have hF' := hF
    obtain ⟨fdx, gr, we, tt, am, hf, hg, hw⟩ := hF'
    have hg' := hg
    obtain ⟨gdx, tp, tn, gg, hgi, htp, htn, hgg⟩ := hg'
    have hs' := hs
    obtain ⟨sdx, tl, hsi, htl⟩ := hs'
    refine ⟨_, pss_cons (ps_if (pt_not (pt_val (pe_m (d := d_fits) (pv 0) T.c_Field T.m_fits (ok_fits T) (hr.mono (by decide)) pass0 (pa_cons (pv 1) pa_nil)))) (pss_one ps_never) pss_nil)
      (pss_cons (ps_set (i := 3) nd rfl (Or.inl rfl) (pe_m (d := d_turnof) (pe_fld (pv 0) rfl) T.c_Ground T.m_turnof (ok_turnof T) (hr.mono (by decide)) pass0 (pa_cons (pv 2) pa_nil)))
      (pss_cons (ps_asg (pe_f (ok_served T) T.g_served (hr.mono (by decide)) pass0 (pa_cons (pe_fld (pe_fld (pv 0) rfl) rfl) (pa_cons (pv 3) (pa_cons (pe_fld (pv 1) rfl) (pa_cons (pe_fld (pv 1) rfl) pa_nil))))) (pg_tup rfl (pgs_cons (pg_name (i := 4) nd rfl (Or.inl rfl)) (pgs_cons (pg_name (i := 5) nd rfl (Or.inl rfl)) pgs_nil))))
      (pss_one (ps_ret (pe_mk (d := d_standI) T.mk_Standing (ok_standI T) T.gc_Standing hr pass0 (pa_cons (pv 4) (pa_cons (pv 5) (pa_cons (pe_fld (pv 1) rfl) pa_nil)))))))), ?_⟩
    refine ⟨_, rfl, x, fdx, _, rfl, hf, by kernel_rfl, _, rfl, x, a, F, s, rfl, hF, hs, so, fun H1 x1 => ⟨true, rfl, iteF ?_⟩⟩
    refine ⟨_, rfl, x, _, fdx, _, _, rfl, x1.get hf, T.c_Field, T.n_Field_ground, lk_Field_ground, gr, gdx, _, rfl, x1.get hgi, by kernel_rfl, _, rfl, gr, b, F.plots, F.groups, F.cap, turn, rfl, hg.mor x1.mor, sqT_mor x1.mor hb, fo.nd, fo.n4, tk.1, tk.2, fun t H2 x2 ht => ?_⟩
    have x12 := x1.trans x2
    refine ⟨_, rfl, x, _, fdx, _, _, rfl, x12.get hf, T.c_Field, T.n_Field_ground, lk_Field_ground, gr, _, gdx, _, _, rfl, x12.get hgi, T.c_Ground, T.n_Ground_plots, lk_Ground_plots, _, rfl, _, rfl, a, _, sdx, _, _, rfl, x12.get hsi, T.c_Standing, T.n_Standing_levels, lk_Stand_levels, _, rfl, a, _, sdx, _, _, rfl, x12.get hsi, T.c_Standing, T.n_Standing_tank, lk_Stand_tank,
      tp, t, tl, F.plots, turn, s.levels, s.tank, rfl, htp.mor x12.mor, ht, sqT_mor x12.mor htl, so.ln, fo.n4, fun p L H3 x3 hp hL => ?_⟩
    have x13 := x12.trans x3
    refine ⟨p, _, rfl, hp, rfl, _, _, rfl, _, _, rfl, rfl, ?_⟩
    refine ⟨_, rfl, _, rfl, _, rfl, a, _, sdx, _, _, rfl, x13.get hsi, T.c_Standing, T.n_Standing_mood, lk_Stand_mood, fun y dy hy hdy hne => ?_⟩
    have xm : Ext H3 (upd (upd H3 dy (.own y)) y (.ins (CStand K) dy [])) := (Ext.upd hdy).put hy
    refine ⟨y, dy, L, wetS F s turn, rfl, upd_same, SqL.of (xm.get hL), (wet_ok fo so turn).raw fo, fun tl2 H4 hk hy4 ht4 => ⟨rfl, ?_⟩⟩
    have x4 : Ext H3 H4 := Ext.self hy hdy hk
    exact k y _ (x13.trans x4) ⟨dy, tl2, hy4, ht4⟩
end
end K17


set_option maxHeartbeats 4000000
/-! K17X: DriedOut: made by super().__init__ and two fields; raised, read -/
namespace PySem
namespace DrX
open PySem.W PySem.Calls PyProof.Rows PySem.HandSPX
abbrev s_dr : Stmt := L2.inClass (K17.top 8) 0
abbrev drF (cc : Addr) (doc pm cdv ct : Value) (an : Option Addr) : FuncData := fnX "__init__" "DriedOut.__init__" (L2.defArgs s_dr) (L2.defBody s_dr) (L2.defScope s_dr) [("__class__", cc)] .none .none doc pm an cdv ct
/-- what the written part says of DriedOut, at C, and of its __init__, at fI -/
structure DrTxt (P : Program) (K : Frag) (mg : Str → Option Value) (C fI : Addr) : Prop where
  gC : mg "DriedOut" = some (.ref C)
  cls : ∃ nm q N bs bm sn sub ab col dd k0 k1 k2 k3 k5, K.lookup C = some (excClassObj nm q C N bs bm true sn sub ab col dd k0 k1 k2 k3 k5 "ValueError.__new__") ∧ refsVE bm = true
  sa : findIn K (.ref C) "__setattr__" = some (some (.builtin "object.__setattr__"))
  ga : findIn K (.ref C) "__getattribute__" = some (some (.builtin "BaseException.__getattribute__"))
  gg : findIn K (.ref C) "__getattr__" = some none
  noP : findIn K (.ref C) "plot" = some none
  noD : findIn K (.ref C) "day" = some none
  iC : findIn K (.ref C) "__init__" = some (some (.ref fI))
  tC : typeIn K (.ref fI) = some (.type "function")
  kC : keepIn K (.ref C) = true
  exC : subIn K (.ref C) (.type "BaseException") = some true
  vE : subIn K (.ref C) (.type "ValueError") = some true
  tyC : typeIn K (.ref C) = some (.type "type")
  hdC : hasDictIn K C = true
  te : exmOne K (.ref C) (.ref C) = some true
  sup : ks_superIn K C C "__init__" = some (some (.builtin "ValueError.__init__"))
  mroC : mroIn K C (.ref C) = some true
  opq : nsIn K cStatics "thirdparty.any" = some none
  su : mg "super" = none
  top : (P.main.scope.names.lookup ("super" : Str)).isSome = false
  fn : ∃ (oc : Value) (od : Option Addr) (cc cda : Addr) (doc pm ct : Value) (an : Option Addr) (osl : Array (Option Value)) (ccl : Value) (cdd : Option Addr) (vs : Array Value) (ccs : Array (Option Value)) (file : Str) (tf : Tok) (cl : Value) (cld : Option Addr) (csl : Array (Option Value)),
    K.lookup fI = some ⟨oc, od, .func (drF cc doc pm (.ref cda) ct an), osl⟩ ∧ codeIn K (.ref cda) "DriedOut.__init__" = true ∧ K.lookup cda = some ⟨ccl, cdd, .fields vs, ccs⟩ ∧ vs[2]? = some (.str file tf) ∧ ((P.main.file : Str) == file) = true ∧
    K.lookup cc = some ⟨cl, cld, .cell (some (.ref C)), csl⟩
theorem two_size (v u : Value) : [v, u].length ≤ sizeLine := by
  rw [sizeLine_eq]
  exact (by decide : 2 ≤ 16777216)
section
variable {prog : Program} {w : World} {A : Around} {E : Value → Shared → Prop} {h : Heap} {g : Array GenState} {d : Drawn} {t : Nat} {os : OsState}
variable {nm q : Str} {C N : Addr} {bs bm : List Value} {hdct : Bool} {sn : List Str} {sub : List Value} {ab : Bool} {col : Option Bool} {dd : Option Addr} {k0 k1 k2 k3 k5 : Option Value}
/-- the bound ValueError.__init__, called -/
theorem call_mw {u e t0 : Addr} {rest : List Value} {Q : Value → Shared → Prop}
    (hC : h.get? C = some (excClassObj nm q C N bs bm hdct sn sub ab col dd k0 k1 k2 k3 k5 "ValueError.__new__")) (he : h.get? e = some (excO C t0)) (hu : h.get? u = some (kxs_mw "ValueError.__init__" e)) (hrest : rest.length ≤ sizeLine)
    (hq : ∀ h' t1, (∀ b o, b ≠ e → h.get? b = some o → h'.get? b = some o) → h'.get? e = some (excO C t1) → Q .none ⟨h', g, d, t, os⟩) :
    wpAny (model prog w) A (call (.ref u) rest) Q E ⟨h, g, d, t, os⟩ := by
  refine wpAny_call (codeAny_of_tree ?_)
  show wpAny _ A.in1 (callAny (.ref u) ⟨rest, []⟩) _ _ _
  simp only [callAny]
  refine wpAny_bind (wpAny_load hu ?_)
  simp only [kxs_mw, show (Value.type "method-wrapper" == Value.type "method" || Value.type "method-wrapper" == Value.type "builtin_function_or_method" || Value.type "method-wrapper" == Value.type "method-wrapper") = true by decide, if_true]
  refine W.KFB.if_so (by decide) ?_
  refine wpAny_bind (check_bound_init F.excBase_ValueError.toExcCallFacts hC he rfl ?_)
  refine wpAny_bind (wpAny_pure (wpAny_pure ?_))
  refine ⟨Code.quiet_builtin _ (by decide +kernel), codeAny_builtin F.excBase_ValueError.initEntry ?_⟩
  rw [Around.under_plainId F.excBase_ValueError.init.plain _]
  wp_walk
  refine hq _ h.objs.size (fun b o hb ho => ?_) ?_
  · rw [Heap.get?_update_other _ _ (Ne.symm hb)]
    exact Heap.get?_push_of_some _ ho
  · rw [Heap.get?_update_self _ (Heap.get?_push_of_some _ he) rfl]
    rfl
end
/-- what __init__ leaves of a fresh exception at x -/
structure InitEnd (h h' : Heap) (x C dx t1 : Addr) (v u : Value) : Prop where
  keep : ∀ b o, b ≠ x → h.get? b = some o → h'.get? b = some o
  obj : h'.get? x = some { cls := .ref C, dict := some dx, data := .fields #[.ref t1, .none, .none, .none, .bool false, .none] }
  dbig : h.objs.size ≤ dx
  dne : dx ≠ x
  ns : h'.Ns1 dx (fun y => if y = "day" then some u else if y = "plot" then some v else none)
/-- a made DriedOut -/
structure OwnMade (h h' : Heap) (e C d : Addr) (v u : Value) : Prop where
  keep : ∀ b o, h.get? b = some o → h'.get? b = some o
  new : h.objs.size ≤ e
  obj : ∃ oe vs, h'.get? e = some oe ∧ oe.cls = .ref C ∧ oe.dict = some d ∧ oe.data = .fields vs ∧ vs[1]? = some .none
  dbig : h.objs.size ≤ d
  dne : d ≠ e
  ns : h'.Ns1 d (fun y => if y = "day" then some u else if y = "plot" then some v else none)
section
variable {prog : Program} {w : World} {A : Around} {E : Value → Shared → Prop} {R : Result → Shared → Prop} {s : Shared} {K : Frag} {mg : Str → Option Value} {C fI : Addr}
theorem LowK.kept_but {K : Frag} {h h' : Heap} {x : Addr} (X : K.In h) (hx : K.lookup x = none) (k : ∀ b o, b ≠ x → h.get? b = some o → h'.get? b = some o) : K.In h' := fun a o e =>
  k a o (fun z => by rw [z, hx] at e; cases e) (X a o e)
theorem ldX {M : Model} {s : Shared} {env : Env} {m : Str → Option Value} {x : Str} {pos : Pos} {v : Value} {Q : Value → Shared → Prop} {A : Around} {E : Value → Shared → Prop} (hn : s.heap.Ns env.locals m) (hv : m x = some v) (h : Q v s)
    (hk : env.scope.kind = .function := by rfl) (hl : env.kindOf x = some .local := by rfl) (hd : (x == ("__debug__" : Str)) = false := by decide) :
    wpAny M A (eval (.Name x pos) env) Q E s := wpAny_Name (wpAny_loadName_local hk hl hn hv h) hd
theorem dr_init (T : DrTxt prog K mg C fI) {x t0 : Addr} {v u : Value} (X : K.In s.heap) (hlim : s.heap.NoLimit) (hG : s.heap.Ns mainGlobals mg) (hB : ∃ mb, s.heap.Ns builtinsNs mb ∧ ∀ x : Str, x ≠ "__name__" → mb x = bootBuiltins x)
    (hx : s.heap.get? x = some (excO C t0)) (hnx : K.lookup x = none) (hroom : A.depth < recursionLimit)
    (hq : ∀ h' tk dx t1, InitEnd s.heap h' x C dx t1 v u → R (.ok (.ret .none)) { s with heap := h', toks := tk }) :
    codeAny (model prog w) A (.call (.ref fI) ⟨[.ref x, v, u], []⟩) R s := by
  obtain ⟨oc, od, cc, cda, doc, pm, ct, an, osl, ccl, cdd, vs, ccs, file, tf, cl, cld, csl, ho, hcd, hcda, hvs, hfile, hcc⟩ := T.fn
  obtain ⟨nm, q, N, bs, bm, sn, sub, ab, col, dd, k0, k1, k2, k3, k5, hC, hbm⟩ := T.cls
  have hcl : clsIn K C = some { name := nm, bases := bs, mro := .ref C :: bm, ns := N, qualname := q, hasDict := true, slotNames := sn, subclasses := sub, abstract := ab, collection := col, hasDel := false } := by unfold clsIn; rw [hC] <;> rfl
  obtain ⟨mb, hb1, hb2⟩ := hB
  obtain ⟨hh, g, d, t, os⟩ := s
  refine ks_codeAny_call_defAt (fd := drF cc doc pm (.ref cda) ct an) (body := L2.defBody s_dr) (binds := [("self", .ref x), ("plot", v), ("day", u)]) hroom (X _ _ ho) rfl hlim (codeRec_of X hcd) rfl (BindsTo.of_eq (by rfl)) (show ∀ x ∈ (L2.defScope s_dr).names, x.2 ≠ .cell by decide +kernel) (by
    intro y hy
    simp only [List.mem_cons, List.not_mem_nil, or_false] at hy
    rcases hy with rfl | rfl | rfl <;> rfl) (fun h₁ hn k => ?_)
  have X₁ : K.In h₁ := X.keeps k
  have hx₁ := k _ _ hx
  have xL : x ≠ hh.objs.size := Nat.ne_of_lt (Heap.lt_size hx)
  refine ks_wpAt_execs_cons (ks_wpAt_Expr_any (ks_wpAt_MethodCall ?_))
  refine ks_wpAt_super_base (fd := drF cc doc pm (.ref cda) ct an) (f := fI) (cc := cda) (vs := vs) (file := file) (tf := tf) rfl rfl (by decide) rfl (X₁ _ _ ho) rfl rfl rfl (X₁ _ _ hcda) rfl hvs hfile T.top ?_
  refine ks_loadName_global rfl rfl (loadGlobal_builtin (hG.keeps k) T.su (hb1.keeps k) ((hb2 _ (by decide)).trans (by decide +kernel : bootBuiltins "super" = some (.type "super"))) ⟨rfl, ?_⟩)
  refine wpAny_loadName_free rfl rfl rfl ⟨_, X₁ _ _ hcc, rfl⟩ ?_
  refine wpAny_loadName_local rfl rfl hn (v := .ref x) (by first | rfl | with_unfolding_all rfl | kernel_rfl) ?_
  have hD₁ := X₁ _ _ hC
  refine ks_wpAny_isType_cls hD₁ rfl ⟨rfl, ?_⟩
  refine ks_wpAny_call_super hD₁ rfl hx₁ rfl (fun c e => nomatch e) (looks_mroIn X₁ T.mroC) (fun h₂ e₂ k₂ => ?_)
  have X₂ : K.In h₂ := X₁.keeps k₂
  have hx₂ := k₂ _ _ hx₁
  have hn₂ := hn.at fun o q => k₂ _ _ q
  have I₂ : InstAt h₂ x (excO C t0) C none := ⟨hx₂, rfl, rfl, trivial⟩
  have hxC : x ≠ C := fun e => by
    rw [e, hC] at hnx
    cases hnx
  have hal : alongIn K "__init__" (((Value.ref C :: bm).dropWhile (· != .ref C)).drop 1) = some (some (.builtin "ValueError.__init__")) := by
    have z := T.sup
    unfold ks_superIn at z
    rw [hcl] at z
    exact z
  refine kxs_getMethod kxs_ValueError (h := h₂) e₂ (looks_opaque X₂ T.opq) (l₀ := .ref C :: bm) ((looks_clsIn X₂ hcl).andThen .now) rfl X₂ hal (I₂.type.andThen (looks_subIn X₂ T.vE)) hxC (by decide) ?_
  have k₃ : ∀ b o, h₂.get? b = some o → (h₂.push (kxs_mw "ValueError.__init__" x)).get? b = some o := fun b o e => Heap.get?_push_of_some _ e
  refine kxs_callWith (i := "ValueError.__init__") (x := x) rfl (evalArgs_plain ?_)
  show wpAny _ _ (spliced ((false, eval _ _) :: backTo _ [])) _ _ _
  refine Calls.spliced_cons (Calls.Constant_str (Calls.spliced_nil ⟨Heap.get?_push_size _ rfl, ?_⟩))
  refine call_mw (k₃ _ _ (X₂ _ _ hC)) (k₃ _ _ hx₂) (Heap.get?_push_size _ rfl) (by show 1 ≤ sizeLine; rw [sizeLine_eq]; decide) (fun h₄ t1 k₄ hx₄ => ?_)
  have kk : ∀ b o, b ≠ x → h₁.get? b = some o → h₄.get? b = some o := fun b o hb e => k₄ b o hb (k₃ _ _ (k₂ _ _ e))
  have X₄ : K.In h₄ := LowK.kept_but X₁ hnx kk
  have hn₄ := hn.at fun o q => kk _ _ xL.symm q
  refine wpAt_of_wpAny ?_
  refine wpAny_execs_cons (plainObj_wpAny_Assign_Attribute ?_)
  refine ldX (v := v) hn₄ (by first | rfl | with_unfolding_all rfl | kernel_rfl) (ldX (v := .ref x) hn₄ (by first | rfl | with_unfolding_all rfl | kernel_rfl) ?_)
  refine set_plain X₄ (ox := excO C t1) (od := none) ⟨hx₄, rfl, rfl, trivial⟩ T.sa ?_
  refine exc_osa X₄ hx₄ hcl (show refsVE (.ref C :: bm) = true from hbm) rfl T.noP (fun h₅ tk₅ dx k₅ dn dne hx₅ hn₅ => ?_)
  replace dn : h₄.objs.size ≤ dx := dn
  have X₅ : K.In h₅ := LowK.kept_but X₄ hnx k₅
  have hL₅ := hn₄.at fun o q => k₅ _ _ xL.symm q
  refine wpAny_execs_cons (plainObj_wpAny_Assign_Attribute ?_)
  refine ldX (v := u) hL₅ (by first | rfl | with_unfolding_all rfl | kernel_rfl) (ldX (v := .ref x) hL₅ (by first | rfl | with_unfolding_all rfl | kernel_rfl) ?_)
  obtain ⟨oD, hoD⟩ : ∃ o, h₅.get? dx = some o := by
    obtain ⟨o, _, _, e', _⟩ := hn₅
    exact ⟨o, e'⟩
  refine set_plain X₅ (ox := { cls := .ref C, dict := some dx, data := .fields #[.ref t1, .none, .none, .none, .bool false, .none] }) (od := some oD) ⟨hx₅, rfl, rfl, hoD⟩ T.sa ?_
  have hw : Within (fun y => if y = ("plot" : Str) then some v else none) ["plot"] := fun y hy => by
    by_cases e : y = ("plot" : Str)
    · rw [e]
      exact List.mem_cons_self ..
    · have hy' : (if y = ("plot" : Str) then some v else none) ≠ none := hy
      rw [if_neg e] at hy'
      exact absurd rfl hy'
  refine PySem.OEX.osa_old X₅ hx₅ hn₅ hw (by decide) hcl (show refsVE (.ref C :: bm) = true from hbm) rfl T.noD (fun h₆ tk₆ k₆ hn₆ => ?_)
  refine wpAny_execs_nil (hq h₆ tk₆ dx t1 ⟨fun b o hb e => ?_, ?_, ?_, dne, hn₆⟩)
  · have e5 := k₅ b o hb (kk b o hb (k b o e))
    have hbd : b ≠ dx := by
      have l1 : b < h₄.objs.size := Heap.lt_size (kk b o hb (k b o e))
      exact Nat.ne_of_lt (Nat.lt_of_lt_of_le l1 dn)
    exact k₆ b o hbd e5
  · exact k₆ x _ dne.symm hx₅
  · have l1 : hh.objs.size < h₄.objs.size := hn₄.lt
    show hh.objs.size ≤ dx
    omega
theorem dr_made (T : DrTxt prog K mg C fI) {v u : Value} (X : K.In s.heap) (hlim : s.heap.NoLimit) (hG : s.heap.Ns mainGlobals mg) (hB : ∃ mb, s.heap.Ns builtinsNs mb ∧ ∀ x : Str, x ≠ "__name__" → mb x = bootBuiltins x) (hroom : A.depth + 1 < recursionLimit)
    (hq : ∀ h' tk e d, OwnMade s.heap h' e C d v u → R (.ok (.ret (.ref e))) { s with heap := h', toks := tk }) :
    codeAny (model prog w) A (.call (.ref C) ⟨[v, u], []⟩) R s := by
  obtain ⟨nm, q, N, bs, bm, sn, sub, ab, col, dd, k0, k1, k2, k3, k5, hC, hbm⟩ := T.cls
  obtain ⟨hp, g, dr, tk, os⟩ := s
  have k : ∀ b o, hp.get? b = some o → ((hp.push (kdv_tup [v, u])).push (excO C hp.objs.size)).get? b = some o := fun b o e => Heap.get?_push_of_some _ (Heap.get?_push_of_some _ e)
  have hget : ((hp.push (kdv_tup [v, u])).push (excO C hp.objs.size)).get? (hp.objs.size + 1) = some (excO C hp.objs.size) := by heap_get
  have hnx : K.lookup (hp.objs.size + 1) = none := by
    cases e : K.lookup (hp.objs.size + 1) with
    | none => rfl
    | some o =>
      have z : hp.get? (hp.objs.size + 1) = some o := X _ _ e
      exact absurd (Nat.lt_of_succ_lt (Heap.lt_size z)) (Nat.lt_irrefl _)
  obtain ⟨mb, hb1, hb2⟩ := hB
  refine call_own F.excBase_ValueError (fun X => refsVE_contains X bm hbm) (X _ _ hC) (looks_findIn X T.iC) (fun self => bind_fn X self T.tC) (two_size v u) ?_
  refine dr_init (s := ⟨(hp.push (kdv_tup [v, u])).push (excO C hp.objs.size), g, dr, tk, os⟩) T (X.keeps k) (hlim.keeps k) (hG.keeps k) ⟨mb, hb1.keeps k, hb2⟩ hget hnx ?_ fun h' tk' dx t1 ⟨k', hx, dn, dne, hns⟩ => ?_
  · show A.depth + 1 < recursionLimit
    exact hroom
  · have old : ∀ b o, hp.get? b = some o → h'.get? b = some o := fun b o e => k' b o (Nat.ne_of_lt (Nat.lt_succ_of_lt (Heap.lt_size e))) (k b o e)
    have z : hp.objs.size + 1 + 1 ≤ dx := by
      first
        | (simpa only [Heap.size_push] using dn)
        | exact dn
        | (have q := dn; rw [Heap.size_push, Heap.size_push] at q; exact q)
    exact ⟨rfl, hq h' tk' (hp.objs.size + 1) dx ⟨old, Nat.le_succ _, ⟨_, _, hx, rfl, rfl, rfl, rfl⟩, Nat.le_trans (Nat.le_trans (Nat.le_succ _) (Nat.le_succ _)) z, dne, hns⟩⟩
end
end DrX
end PySem
namespace K17
open PySem PySem.Spec PyProof.Rows L2
abbrev drFs (v u : V) : List (Str × V) := [(("day" : Str), u), (("plot" : Str), v)]
theorem relO_dr {v u : V} {v' u' : Value} (r : RelV v v') (r2 : RelV u u') (f : Str) : RelO ((drFs v u).lookup f) (if f = "day" then some u' else if f = "plot" then some v' else none) :=
  relO_put (fs := [(("plot" : Str), v)]) r2 (fun g => relO_put (fs := []) (mA := fun _ => none) r (fun _ => True.intro) g) f
section
variable {X : Cx} {C fI : Addr}
/-- DriedOut(e, e') -/
def tMkDr (C : Addr) (ta : TA) : L2.St → Hp → XK → Prop := fun σ H Q => ta σ H fun vs H1 => ∃ v u, vs = [v, u] ∧ ∀ d, H1 d = none → Q (.ref C) (some d) (upd H1 d (.xd (drFs v u)))
theorem pmk_dr {a : Expr} {es : List Expr} {ta : TA} {p pos : Pos} {k : Nat} (T : PySem.DrX.DrTxt X.prog X.K X.mg C fI) (hr : Room k X.A) (ha : PA X (a :: es) ta) (hg : Gl X "DriedOut" := by rfl)
    (he : starEach (a :: es) X.env = (false, eval a X.env) :: starEach es X.env := by rfl) (hpl : (backTo pos (starEach es X.env)).any (·.1) = false := by rfl) :
    PMk X (.Call (.Name "DriedOut" p) (a :: es) [] pos) (tMkDr C ta) := by
  intro pins s σ H Q I h
  refine wpAny_Call_Name_kw (ld_glob I hg T.gC ?_)
  refine PySem.W.callWith_K (h₀ := X.base) I.ok.mod.kin T.kC (thn (ha.run pos pins s σ H _ I h) fun us s1 hh => ?_) he hpl
  obtain ⟨vs, H1, I1, r1, v, u, ev, q1⟩ := hh
  subst ev
  refine ⟨I1.kIn, ?_⟩
  cases r1 with
  | cons rv rn =>
    rename_i v' us'
    cases rn with
    | cons ru rn =>
    rename_i u' us2
    cases rn
    show wpAny _ _ (call (.ref C) [v', u']) _ _ _
    have hlim := I1.nolimit
    have hG := I1.mod.glob.keeps I1.bk
    obtain ⟨mb, hb1, hb2⟩ := I1.mod.blt
    have hB : ∃ mb, s1.heap.Ns builtinsNs mb ∧ ∀ x : Str, x ≠ "__name__" → mb x = bootBuiltins x := ⟨mb, hb1.keeps I1.bk, hb2⟩
    obtain ⟨hp, g, dr, tk, os⟩ := s1
    refine wpAny_call (PySem.DrX.dr_made T I1.kIn hlim hG hB (by have := hr.dp; omega) fun h' tk' e d M => ?_)
    show MkP X pins σ Q (.ref e) ⟨h', g, dr, tk', os⟩
    obtain ⟨oe, fv, hoe, hc, hd, hdat, h1⟩ := M.obj
    have hns := M.ns
    obtain ⟨G', g1, g2⟩ := restrict h' fun b => decide (b ≠ e)
    have gk : ∀ b, b ≠ e → G'.get? b = h'.get? b := fun b hb => g1 b (decide_eq_true hb)
    have ge : G'.get? e = none := g2 e (by simp)
    have old : ∀ b o, hp.get? b = some o → G'.get? b = some o := fun b o q => (gk b (Nat.ne_of_lt (Nat.lt_of_lt_of_le (Heap.lt_size q) M.new))).trans (M.keep b o q)
    have ob : ObjOk X.prog X.w (upd H1 d (.xd (drFs v u))) G' d (.xd (drFs v u)) :=
      ⟨_, hns.at (fun o q => (gk d M.dne).trans q), fun f => relO_dr rv ru f⟩
    have J : Inv X pins σ (upd H1 d (.xd (drFs v u))) ⟨G', g, dr, tk', os⟩ := I1.laid (t' := tk') old M.dbig ob
    refine ⟨e, oe, fv, ⟨G', g, dr, tk', os⟩, _, .ref C, some d, rfl, J, fun b o q => ?_, ge, hoe, ⟨hc, hd⟩, hdat, h1, ?_, rfl, I1.bare, raises_own T.exC T.tyC, q1 d (I1.hok.fresh M.dbig)⟩
    · by_cases hb : b = e
      · have q' : G'.get? b = some o := q
        rw [hb, ge] at q'; cases q'
      · exact (gk b hb).symm.trans q
    · rw [upd_ne (Ne.symm M.dne)]
      exact I1.hok.fresh M.new
/-- e.f, e the exception that the suite holds -/
def tByDr (f : Str) (C : Addr) (a : Addr) (cls : Value) (d : Option Addr) (te : TE) : TE := fun σ H Q => te σ H fun x H1 => x = .ref a ∧ cls = .ref C ∧ ∃ (dd : Addr) (v u y : V), d = some dd ∧ H1 dd = some (.xd (drFs v u)) ∧ (drFs v u).lookup f = some y ∧ Q y H1
theorem pe_byDr {a : Addr} {oe : Obj} {cls : Value} {d : Option Addr} {pn : List (Addr × Obj)} {e : Expr} {te : TE} {pos : Pos} {f : Str} (T : PySem.DrX.DrTxt X.prog X.K X.mg C fI) (hno : PySem.W.findIn X.K (.ref C) f = some none) (hz : Zc cls d oe) (hf : ∃ vs, oe.data = .fields vs) (he : PE (X.suite a ((a, oe) :: pn)) e te)
    (hb : attributeBase e f X.env (eval e X.env) = eval e X.env := by rfl) :
    PE (X.suite a ((a, oe) :: pn)) (.Attribute e f pos) (tByDr f C a cls d te) := by
  refine ⟨fun pins s σ H Q I h => ?_⟩
  refine attr_of hb (thn (he.run pins s σ H _ I h) fun u s1 hh => ?_)
  obtain ⟨x, H1, I1, rx, ex, ec, dd, v, u2, y, ed, ea, hl, q⟩ := hh
  subst ex
  obtain rfl : u = Value.ref a := rx
  subst ec
  subst ed
  obtain ⟨ha, _⟩ := I1.pin (a, oe) (List.mem_append_left _ List.mem_cons_self)
  obtain ⟨vs, hd⟩ := hf
  have hx : ObjOk X.prog X.w H1 s1.heap dd (.xd (drFs v u2)) := I1.hok dd _ ea
  obtain ⟨mA, hns, hr⟩ := hx
  obtain ⟨od, ho, hlk⟩ := lookIn_ns hns
  obtain ⟨uu, hu, ru⟩ := RelO.some_of (v := y) (o := mA f) (by rw [← hl]; exact hr f)
  have J : PySem.W.InstAt s1.heap a oe C (some od) := ⟨ha, hz.1, by unfold PySem.W.notCls; rw [hd] <;> rfl, by rw [hz.2]; exact ho⟩
  exact HandSPX.exc_get I1.kIn J T.ga T.gg T.exC (PySem.W.findObj_own T.hdC hno rfl (by rw [hlk, hu])) (handed_of ru) ⟨y, H1, I1.tok _, ru, q⟩
end
end K17


set_option maxHeartbeats 4000000
/-! K17W15: whole_day -/
namespace K17
open PySem PySem.Spec PyProof.Rows L2
abbrev CDr (K : PySem.W.Frag) := He.ga K "DriedOut"
abbrev IDr (K : PySem.W.Frag) := He.ma K (He.ga K "DriedOut") "__init__"
theorem tab_congr {α : Type} {f g : Nat → α} {n : Nat} (h : ∀ i, i < n → f i = g i) : tab f n = tab g n := by
  unfold tab
  refine List.map_congr_left fun i hi => h i (List.mem_range.mp hi)
section
variable {P : Program} {w : World} {K : PySem.W.Frag} {mg : Str → Option Value} {base : Heap}
def spWholeDay (K : PySem.W.Frag) : Sp := fun vs H Q E => ∃ (x a b : Addr) (k : Nat) (at_ : Int) (F : Fi) (s : StD) (turn : List Str) (day : DayD), vs = [.ref x, .ref a, .ref b, .int k, .int at_] ∧ FieldAt K H x F ∧ FieldOk F ∧ StandAt K H a s ∧ StOk F s ∧ NamesT K H b turn ∧ TurnOk F.plots F.groups turn ∧ dayAt F s k = some day ∧
  (∀ nm, stepD F s turn day = .inl nm → ∀ d H', Ext H H' → H d = none → H' d = some (.xd (drFs (.str nm) (.int at_))) → E (.ref (CDr K)) (some d) H') ∧
  (∀ s', stepD F s turn day = .inr s' → ∀ r t (sp : Int) H', Ext H H' → SqT K H' t [.ref r, .int sp] → StandAt K H' r s' → Q (.ref t) H')
theorem ok_wholeday (T : Txt K mg) (D : PySem.DrX.DrTxt P K mg (CDr K) (IDr K)) : Ok P w K mg base (L2.CX P w) 6 d_wholeday (spWholeDay K) := by
  have nd : (["self", "standing", "turn", "day", "at", "wet", "days", "plots", "dried", "levels", "tank", "spilled"] : List Str).Nodup := by decide +kernel
  refine mkOkX (N := ["self", "standing", "turn", "day", "at", "wet", "days", "plots", "dried", "levels", "tank", "spilled"]) (ps := ["self", "standing", "turn", "day", "at"]) T.f_wholeday b_wholeday ⟨rfl, rfl, rfl, nd, rfl, by decide +kernel, by decide +kernel⟩ (fun vs H Q E h => ?_) (fun cdv A outer s0 H vs Q E hr h => ?_)
  · obtain ⟨x, a, b, k, at_, F, s, turn, day, rfl, _⟩ := h
    rfl
  · obtain ⟨x, a, b, k, at_, F, s, turn, day, rfl, hF, fo, hs, so, hb, tk, hday, kE, kQ⟩ := h
    have hF' := hF
    obtain ⟨fdx, gr, we, tt, am, hf, hg, hw⟩ := hF'
    have hg' := hg
    obtain ⟨gdx, tp, tn, gg, hgi, htp, htn, hgg⟩ := hg'
    have hw' := hw
    obtain ⟨wdx, tm, ms, hwi, htm, hms⟩ := hw'
    have hs' := hs
    obtain ⟨sdx, tl, hsi, htl⟩ := hs'
    refine ⟨_, pss_cons (ps_set (i := 5) nd rfl (Or.inl rfl) (pe_m (d := d_watered) (pv 0) T.c_Field T.m_watered (ok_watered T) hr pass0 (pa_cons (pv 1) (pa_cons (pv 2) pa_nil))))
      (pss_cons (ps_set (i := 6) nd rfl (Or.inl rfl) (pe_ix ix_tup (pe_fld (pe_fld (pv 0) rfl) rfl) (pe_fld (pv 1) rfl) (fun _ _ => rfl)))
      (pss_cons (ps_expr (pe_f (ok_chknum T) T.g_chknum (hr.mono (by decide)) pass0 (pa_cons pe_str (pa_cons (pv 3) (pa_cons pe_int (pa_cons (pe_op op_sub (pe_b call_len_seq T.z_len (pa_cons (pv 6) pa_nil)) pe_int) pa_nil))))))
      (pss_cons (ps_set (i := 7) nd rfl (Or.inl rfl) (pe_fld (pe_fld (pv 0) rfl) rfl))
      (pss_cons (ps_set (i := 8) nd rfl (Or.inl rfl) (pe_f (ok_dried T) T.g_dried (hr.mono (by decide)) pass0 (pa_cons (pv 7) (pa_cons (pe_fld (pv 5) rfl) (pa_cons (pe_ix ix_tup (pv 6) (pv 3) (fun _ _ => rfl)) pa_nil)))))
      (pss_cons (ps_if (pt_cmpR op_notN (pv 8) pe_non (nomark _)) (pss_one (ps_raise rfl (takes_of rfl rfl rfl rfl) (pmk_dr D hr (pa_cons (pv 8) (pa_cons (pv 4) pa_nil))))) pss_nil)
      (pss_cons (ps_asg (pe_f (ok_weathered T) T.g_weathered (hr.mono (by decide)) pass0 (pa_cons (pv 7) (pa_cons (pe_fld (pv 0) rfl) (pa_cons (pe_fld (pv 5) rfl) (pa_cons (pe_fld (pv 5) rfl) (pa_cons (pe_ix ix_tup (pv 6) (pv 3) (fun _ _ => rfl)) pa_nil))))))
          (pg_tup rfl (pgs_cons (pg_name (i := 9) nd rfl (Or.inl rfl)) (pgs_cons (pg_name (i := 10) nd rfl (Or.inl rfl)) (pgs_cons (pg_name (i := 11) nd rfl (Or.inl rfl)) pgs_nil)))))
      (pss_one (ps_ret (pe_tup (pa_cons (pe_mk (d := d_standI) T.mk_Standing (ok_standI T) T.gc_Standing (hr.mono (by decide)) pass0 (pa_cons (pv 9) (pa_cons (pv 10) (pa_cons (pe_fld (pe_ix ix_tup (pv 6) (pv 3) (fun _ _ => rfl)) rfl) pa_nil)))) (pa_cons (pv 11) pa_nil))))))))))), ?_⟩
    refine ⟨_, rfl, x, fdx, _, rfl, hf, by kernel_rfl, _, rfl, _, rfl, x, a, b, F, s, turn, rfl, hF, fo, hs, so, hb, tk, fun wt H1 x1 hwt => ?_⟩
    obtain ⟨wsdx, wtl, hwsi, hwtl⟩ := hwt
    obtain ⟨ds, hds, hdsm⟩ := mood_at fo so
    have hdk : ds[k]? = some day := by
      unfold dayAt at hday
      rw [hds] at hday
      exact hday
    have dok := dayAt_ok fo hday
    obtain ⟨m, hm, xs, hmx, hxd⟩ := hms.get hds
    obtain ⟨da, hda, hdaD⟩ := hxd.get hdk
    have hda0 := hdaD
    obtain ⟨ddx, td, tr, hdi, htd, htr⟩ := hdaD
    have hmoodI : atI (ms.map V.ref) s.mood = some (.ref m) := by
      have e : s.mood = ((s.mood.toNat : Nat) : Int) := by have := so.m0; omega
      rw [e]
      exact atI_get (get_map hm)
    have hkl : k < xs.length := (List.getElem?_eq_some_iff.mp hda).1
    refine ⟨_, rfl, x, _, fdx, _, _, rfl, x1.get hf, T.c_Field, T.n_Field_weather, lk_Field_weather, we, _, wdx, _, _, rfl, x1.get hwi, T.c_Weather, T.n_Weather_moods, lk_Weather_moods, _, rfl, a, _, sdx, _, _, rfl, x1.get hsi, T.c_Standing, T.n_Standing_mood, lk_Stand_mood, tm, _, _, _, rfl, rfl, sqT_mor x1.mor htm, hmoodI, ?_⟩
    have hmx1 := sqT_mor x1.mor hmx
    refine ⟨_, rfl, _, rfl, m, _, rfl, .inr hmx1, _, _, rfl, rfl, _, (k : Int), 0, (xs.length : Int) - 1, by rw [List.length_map], by omega, by omega, ?_⟩
    refine ⟨_, rfl, x, _, fdx, _, _, rfl, x1.get hf, T.c_Field, T.n_Field_ground, lk_Field_ground, gr, _, gdx, _, _, rfl, x1.get hgi, T.c_Ground, T.n_Ground_plots, lk_Ground_plots, ?_⟩
    have hatk : atI (xs.map V.ref) ((k : Nat) : Int) = some (.ref da) := atI_get (get_map hda)
    refine ⟨_, rfl, _, rfl, wt, _, wsdx, _, _, rfl, hwsi, T.c_Standing, T.n_Standing_levels, lk_Stand_levels, _, rfl, _, rfl, m, _, _, _, rfl, rfl, hmx1, hatk, tp, wtl, da, F.plots, (wetS F s turn).levels, day, rfl, htp.mor x1.mor, hwtl, tab_len _ _, hda0.mor x1.mor, dok.dl, fun H2 x2 => ⟨fun i p hp hlt hbf => ?_, fun hall => ?_⟩⟩
    · have x12 := x1.trans x2
      have hi : i < F.plots.length := (List.getElem?_eq_some_iff.mp hp).1
      have hst : stepD F s turn day = .inl p.name := stepD_inl fo hp (by
        have e := tab_iv (f := svF F.plots turn s.levels s.tank) hi
        show svF F.plots turn s.levels s.tank i < _
        rw [← e]
        exact hlt) (fun j hj => by
        have e := tab_iv (f := svF F.plots turn s.levels s.tank) (show j < F.plots.length by omega)
        show _ ≤ svF F.plots turn s.levels s.tank j
        rw [← e]
        exact hbf j hj)
      refine ⟨_, rfl, rfl, _, rfl, ?_⟩
      rw [decide_eq_false (by intro z; cases z)]
      refine iteT ⟨_, rfl, _, rfl, _, _, rfl, fun d hd => ?_⟩
      exact kE _ hst d _ (x12.put (x12.none hd)) (x12.none hd) upd_same
    · have x12 := x1.trans x2
      have hst : stepD F s turn day = .inr _ := stepD_inr fun j hj => by
        have e := tab_iv (f := svF F.plots turn s.levels s.tank) hj
        show _ ≤ svF F.plots turn s.levels s.tank j
        rw [← e]
        exact hall j hj
      have hst2 := stepD_ok fo so dok hst
      have hmx2 := sqT_mor x2.mor hmx1
      refine ⟨_, rfl, rfl, _, rfl, ?_⟩
      rw [decide_eq_true rfl]
      refine iteF ⟨_, rfl, _, rfl, x, _, fdx, _, _, rfl, x12.get hf, T.c_Field, T.n_Field_bottom, lk_Field_bottom, _, rfl, wt, _, wsdx, _, _, rfl, x2.get hwsi, T.c_Standing, T.n_Standing_levels, lk_Stand_levels, _, rfl, wt, _, wsdx, _, _, rfl, x2.get hwsi, T.c_Standing, T.n_Standing_tank, lk_Stand_tank, _, rfl, _, rfl, m, _, _, _, rfl, rfl, hmx2, hatk,
        tp, wtl, da, F.plots, (wetS F s turn).levels, day, F.cap, (wetS F s turn).tank, rfl, htp.mor x12.mor, sqT_mor x2.mor hwtl, tab_len _ _, fo.n4, hda0.mor x12.mor, dok.dl, dok.rl, fun p L sp H3 x3 hp hL => ?_⟩
      have x13 := x12.trans x3
      have hmx3 := sqT_mor x3.mor hmx2
      refine ⟨p, _, rfl, hp, rfl, _, _, rfl, _, _, rfl, _, _, rfl, rfl, ?_⟩
      refine ⟨_, rfl, _, rfl, _, rfl, _, rfl, m, _, _, _, rfl, rfl, hmx3, hatk, da, _, ddx, _, _, rfl, x13.get hdi, T.c_Day, T.n_Day_mood, lk_Day_mood, fun y dy hy hdy hne => ?_⟩
      have xm : Ext H3 (upd (upd H3 dy (.own y)) y (.ins (CStand K) dy [])) := (Ext.upd hdy).put hy
      have hcg : tab (fun i => min (iv (wetS F s turn).levels i - iv day.dry i + iv day.rain i) (holdAt F.plots i)) F.plots.length = tab (fun i => min (svF F.plots turn s.levels s.tank i - iv day.dry i + iv day.rain i) (holdAt F.plots i)) F.plots.length :=
        tab_congr fun i hi => by
          show min (iv (tab (svF F.plots turn s.levels s.tank) F.plots.length) i - _ + _) _ = _
          rw [tab_iv hi]
      rw [hcg] at hL
      refine ⟨y, dy, L, _, rfl, upd_same, SqL.of (xm.get hL), hst2.raw fo, fun tl2 H4 hk hy4 ht4 => ⟨rfl, ?_⟩⟩
      have x4 : Ext H3 H4 := Ext.self hy hdy hk
      refine ⟨_, rfl, by show 2 ≤ sizeLine; decide, fun q hq => ?_⟩
      have x5 := x4.put (o := .tup [.ref y, .int sp]) (x4.none hq)
      exact kQ _ hst y q sp _ (x13.trans x5) (SqT.of upd_same) (StandAt.mor (Mor.new hq) ⟨dy, tl2, hy4, ht4⟩)
end
end K17


set_option maxHeartbeats 4000000
/-! K17L1: the law's start, draw, day -/
namespace K17
open PySem PySem.Spec PyProof.Rows L2
section
variable {P : Program} {w : World} {K : PySem.W.Frag} {mg : Str → Option Value} {base : Heap}
theorem st_upd {H : Hp} {st : Addr} {a b c d a' b' c' d' : V} (h : H st = some (.lst [a, b, c, d])) : But [st] H (upd H st (.lst [a', b', c', d'])) := But.upd h
def spLStart (K : PySem.W.Frag) : Sp := fun vs H Q _ => ∃ (sc : Addr) (ns : List Int), vs = [.ref sc] ∧ SqL K H sc (ns.map V.int) ∧ ∀ st, H st = none → (∀ x b c d : Int, Q (.ref st) (upd H st (.lst [.int x, .int b, .int c, .int d])))
theorem ok_lstart (T : Txt K mg) : Ok P w K mg base CX0 1 d_lstart (spLStart K) := by
  have nd : (["_law_script", "_law_first"] : List Str).Nodup := by decide +kernel
  refine mkOk (N := ["_law_script", "_law_first"]) (ps := ["_law_script"]) T.f_lstart b_lstart ⟨rfl, rfl, rfl, nd, rfl, by decide +kernel, by decide +kernel⟩ (fun vs H Q E h => ?_) (fun cdv A outer s0 H vs Q E hr h => ?_)
  · obtain ⟨sc, ns, rfl, _⟩ := h
    rfl
  · obtain ⟨sc, ns, rfl, hsc, k⟩ := h
    refine ⟨_, pss_cons (ps_set (i := 1) nd rfl (Or.inl rfl) pe_int)
      (pss_cons (ps_if (pt_cmpR op_gt (pe_b call_len_seq T.z_len (pa_cons (pv 0) pa_nil)) pe_int (nomark _)) (pss_one (ps_set (i := 1) nd rfl (Or.inl rfl) (pe_ix ix_list (pv 0) pe_int (fun _ _ => rfl)))) pss_nil)
      (pss_one (ps_ret (pe_lst (pa_cons (pe_b call_abs T.z_abs (pa_cons (pe_ty call_intI T.z_int (pa_cons (pv 1) pa_nil)) pa_nil))
        (pa_cons (pe_ty call_int1 T.z_int (pa_cons (pe_cmpR op_ge (pe_b call_abs T.z_abs (pa_cons (pe_ty call_intI T.z_int (pa_cons (pv 1) pa_nil)) pa_nil)) (pe_op op_pow pe_int pe_int) (nomark _)) pa_nil)) (pa_cons pe_int (pa_cons pe_int pa_nil)))))))), ?_⟩
    refine ⟨_, rfl, sc, _, rfl, .inl hsc, _, _, rfl, rfl, _, rfl, ?_⟩
    cases ns with
    | nil =>
      rw [decide_eq_false (by decide)]
      refine iteF ⟨_, rfl, _, rfl, _, rfl, _, rfl, _, rfl, _, rfl, _, _, rfl, rfl, ⟨by decide, by decide, by decide⟩, _, _, rfl, rfl, .inr ⟨_, rfl, by show 4 ≤ sizeLine; decide, fun st hst => ?_⟩⟩
      exact k st hst _ _ _ _
    | cons n ns =>
      rw [decide_eq_true (by simp only [List.map_cons, List.length_cons]; omega)]
      refine iteT ⟨_, rfl, sc, _, _, _, rfl, rfl, hsc, atI_nat (j := 0) (v := V.int n) rfl, ?_⟩
      refine ⟨_, rfl, _, rfl, _, rfl, _, rfl, _, rfl, _, rfl, _, _, rfl, rfl, ⟨by decide, by decide, by decide⟩, _, _, rfl, rfl, .inr ⟨_, rfl, by show 4 ≤ sizeLine; decide, fun st hst => ?_⟩⟩
      exact k st hst _ _ _ _
def spLDraw (K : PySem.W.Frag) : Sp := fun vs H Q _ => ∃ (sc st : Addr) (ns : List Int) (lim : Int), vs = [.ref sc, .ref st, .int lim] ∧ Frz K H sc (ns.map V.int) ∧ StAt H st ∧ 0 < lim ∧ lim < 1073741824 ∧
  ∀ (n : Int) H', 0 ≤ n → n < lim → But [st] H H' → StAt H' st → Q (.int n) H'
theorem ok_ldraw (T : Txt K mg) : Ok P w K mg base CX0 1 d_ldraw (spLDraw K) := by
  have nd : (["_law_script", "_law_state", "_law_limit", "_law_number", "_law_cell", "_law_mixed"] : List Str).Nodup := by decide +kernel
  refine mkOk (N := ["_law_script", "_law_state", "_law_limit", "_law_number", "_law_cell", "_law_mixed"]) (ps := ["_law_script", "_law_state", "_law_limit"]) T.f_ldraw b_ldraw ⟨rfl, rfl, rfl, nd, rfl, by decide +kernel, by decide +kernel⟩ (fun vs H Q E h => ?_) (fun cdv A outer s0 H vs Q E hr h => ?_)
  · obtain ⟨sc, st, ns, lim, rfl, _⟩ := h
    rfl
  · obtain ⟨sc, st, ns, lim, rfl, hsc, ⟨x, b, c, d, hst⟩, l0, l1, k⟩ := h
    refine ⟨_, pss_cons (ps_asg (pe_op op_add (pe_ix ix_list (pv 1) pe_int (fun _ _ => rfl)) pe_int) (pg_sub (pv 1) pe_int set_list))
      (pss_cons (ps_if (PW.pt (pw_and (pt_cmpR op_eq (pe_ix ix_list (pv 1) pe_int (fun _ _ => rfl)) pe_int (nomark _)) (pw_and1 (pt_cmpR op_gt (pe_ix ix_list (pv 1) pe_int (fun _ _ => rfl)) pe_int (nomark _)))))
        (pss_cons (ps_set (i := 3) nd rfl (Or.inl rfl) (pe_op op_mod (pe_ty call_intI T.z_int (pa_cons (pe_ix ix_list (pv 1) pe_int (fun _ _ => rfl)) pa_nil)) (pv 2)))
        (pss_cons (ps_asg (pe_op op_fdiv (pe_ix ix_list (pv 1) pe_int (fun _ _ => rfl)) (pv 2)) (pg_sub (pv 1) pe_int set_list))
        (pss_one (ps_ret (pv 3))))) pss_nil)
      (pss_cons (ps_asg pe_int (pg_sub (pv 1) pe_int set_list))
      (pss_cons (ps_set (i := 4) nd rfl (Or.inl rfl) pe_int)
      (pss_cons (ps_if (pt_cmpR op_gt (pe_b call_len_seq T.z_len (pa_cons (pv 0) pa_nil)) pe_int (nomark _)) (pss_one (ps_set (i := 4) nd rfl (Or.inl rfl) (pe_ix ix_list (pv 0) (pe_op op_mod (pe_ty call_intI T.z_int (pa_cons (pe_ix ix_list (pv 1) pe_int (fun _ _ => rfl)) pa_nil)) (pe_b call_len_seq T.z_len (pa_cons (pv 0) pa_nil))) (fun _ _ => rfl)))) pss_nil)
      (pss_cons (ps_asg (pe_op op_add (pe_ix ix_list (pv 1) pe_int (fun _ _ => rfl)) pe_int) (pg_sub (pv 1) pe_int set_list))
      (pss_cons (ps_set (i := 5) nd rfl (Or.inl rfl) (pe_op op_mul (pe_op op_mod (pe_ty call_intI T.z_int (pa_cons (pe_ix ix_list (pv 1) pe_int (fun _ _ => rfl)) pa_nil)) pe_int) pe_int))
      (pss_cons (ps_set (i := 5) nd rfl (Or.inl rfl) (pe_op op_add (pe_op op_add (pe_op op_add (pv 5) (pe_op op_mod (pe_ty call_intI T.z_int (pa_cons (pv 4) pa_nil)) pe_int)) (pe_op op_mul pe_int (pe_ix ix_list (pv 1) pe_int (fun _ _ => rfl)))) pe_int))
      (pss_cons (ps_asg (pe_op op_mod (pe_ty call_intI T.z_int (pa_cons (pv 5) pa_nil)) pe_int) (pg_sub (pv 1) pe_int set_list))
      (pss_cons (ps_set (i := 5) nd rfl (Or.inl rfl) (pe_op op_mod (pe_ty call_intI T.z_int (pa_cons (pe_op op_add (pe_op op_mul (pe_ix ix_list (pv 1) pe_int (fun _ _ => rfl)) pe_int) (pe_ix ix_list (pv 1) pe_int (fun _ _ => rfl))) pa_nil)) pe_int))
      (pss_one (ps_ret (pe_op op_mod (pe_ty call_intI T.z_int (pa_cons (pe_op op_fdiv (pv 5) pe_int) pa_nil)) (pv 2))))))))))))), ?_⟩
    refine ⟨_, rfl, st, _, _, _, rfl, rfl, SqL.of hst, by rfl, _, _, rfl, rfl, _, rfl, st, _, _, _, rfl, rfl, hst, by rfl, ?_⟩
    have b1 : But [st] H (upd H st (.lst [.int x, .int b, .int c, .int (d + 1)])) := st_upd hst
    refine ⟨_, rfl, st, _, _, _, rfl, rfl, SqL.of upd_same, by rfl, rfl, _, rfl, ?_⟩
    have hscL : ∀ {H' : Hp}, But [st] H H' → SqL K H' sc (ns.map V.int) := fun bb => (hsc.mor bb.mor).sq
    refine ite2 (fun _ => ⟨_, rfl, st, _, _, _, rfl, rfl, SqL.of upd_same, by rfl, _, _, rfl, rfl, _, rfl, ite2 (fun _ => ?_) (fun _ => ?_)⟩) (fun _ => ?_)
    · refine ⟨_, rfl, st, _, _, _, rfl, rfl, SqL.of upd_same, by rfl, _, rfl, _, rfl, _, _, rfl, rfl, l0, ?_⟩
      refine ⟨_, rfl, st, _, _, _, rfl, rfl, SqL.of upd_same, by rfl, _, rfl, _, _, rfl, rfl, ⟨l0, l1⟩, _, rfl, st, _, _, _, rfl, rfl, upd_same, by rfl, ?_⟩
      rw [upd_upd]
      exact ⟨_, rfl, k _ _ (Int.emod_nonneg _ (by omega)) (Int.emod_lt_of_pos _ l0) (st_upd hst) ⟨_, _, _, _, upd_same⟩⟩
    · refine ⟨_, rfl, st, _, _, _, rfl, rfl, upd_same, by rfl, ?_⟩
      rw [upd_upd]
      have b2 : But [st] H (upd H st (.lst [.int x, .int 0, .int c, .int (d + 1)])) := st_upd hst
      refine ⟨_, rfl, sc, _, rfl, .inl (hscL b2), _, _, rfl, rfl, _, rfl, ?_⟩
      cases hns : ns with
      | nil =>
        rw [decide_eq_false (by decide)]
        refine iteF ?_
        refine ⟨_, rfl, st, _, _, _, rfl, rfl, SqL.of upd_same, by rfl, _, _, rfl, rfl, _, rfl, st, _, _, _, rfl, rfl, upd_same, by rfl, ?_⟩
        rw [upd_upd]
        refine ⟨_, rfl, st, _, _, _, rfl, rfl, SqL.of upd_same, by rfl, _, rfl, _, _, rfl, rfl, (by show (0 : Int) < 2147483647; decide), _, _, rfl, rfl, .inr ⟨by decide, by decide⟩, ?_⟩
        refine ⟨_, rfl, _, rfl, _, rfl, _, _, rfl, rfl, (by show (0 : Int) < 2147483629; decide), _, _, rfl, rfl, _, rfl, st, _, _, _, rfl, rfl, SqL.of upd_same, by rfl, _, _, rfl, rfl, .inl ⟨by decide, by decide⟩, _, _, rfl, rfl, _, _, rfl, rfl, ?_⟩
        refine ⟨_, rfl, _, rfl, _, _, rfl, rfl, (by show (0 : Int) < 2147483647; decide), _, rfl, st, _, _, _, rfl, rfl, upd_same, by rfl, ?_⟩
        rw [upd_upd]
        refine ⟨_, rfl, st, _, _, _, rfl, rfl, SqL.of upd_same, by rfl, _, _, rfl, rfl, .inr ⟨by decide, by decide⟩, _, rfl, st, _, _, _, rfl, rfl, SqL.of upd_same, by rfl, _, _, rfl, rfl, _, rfl, _, _, rfl, rfl, (by show (0 : Int) < 2147483629; decide), ?_⟩
        refine ⟨_, rfl, _, _, rfl, rfl, ⟨by decide, by decide⟩, _, rfl, _, rfl, _, _, rfl, rfl, l0, ?_⟩
        exact k _ _ (Int.emod_nonneg _ (by omega)) (Int.emod_lt_of_pos _ l0) (st_upd hst) ⟨_, _, _, _, upd_same⟩
      | cons n0 ns0 =>
        rw [decide_eq_true (by simp only [List.map_cons, List.length_cons]; omega)]
        have hpos : (0 : Int) < (((n0 :: ns0).map V.int).length : Int) := by simp only [List.map_cons, List.length_cons]; omega
        have h0 := Int.emod_nonneg c (show (((n0 :: ns0).map V.int).length : Int) ≠ 0 by omega)
        have h1 := Int.emod_lt_of_pos c hpos
        obtain ⟨j, hj⟩ : ∃ j : Nat, c % (((n0 :: ns0).map V.int).length : Int) = (j : Int) := ⟨_, (Int.toNat_of_nonneg h0).symm⟩
        have hjl : j < (n0 :: ns0).length := by
          rw [hj] at h1
          rw [List.length_map] at h1
          omega
        have hat : atI ((n0 :: ns0).map V.int) (c % (((n0 :: ns0).map V.int).length : Int)) = some (V.int ((n0 :: ns0)[j])) := by
          rw [hj]
          exact atI_nat (get_map (List.getElem?_eq_getElem hjl))
        subst hns
        refine iteT ⟨_, rfl, _, rfl, st, _, _, _, rfl, rfl, SqL.of upd_same, by rfl, _, rfl, _, rfl, sc, _, rfl, .inl (hscL b2), _, _, rfl, rfl, hpos, sc, _, _, _, rfl, rfl, hscL b2, hat, ?_⟩
        refine ⟨_, rfl, st, _, _, _, rfl, rfl, SqL.of upd_same, by rfl, _, _, rfl, rfl, _, rfl, st, _, _, _, rfl, rfl, upd_same, by rfl, ?_⟩
        rw [upd_upd]
        refine ⟨_, rfl, st, _, _, _, rfl, rfl, SqL.of upd_same, by rfl, _, rfl, _, _, rfl, rfl, (by show (0 : Int) < 2147483647; decide), _, _, rfl, rfl, .inr ⟨by decide, by decide⟩, ?_⟩
        refine ⟨_, rfl, _, rfl, _, rfl, _, _, rfl, rfl, (by show (0 : Int) < 2147483629; decide), _, _, rfl, rfl, _, rfl, st, _, _, _, rfl, rfl, SqL.of upd_same, by rfl, _, _, rfl, rfl, .inl ⟨by decide, by decide⟩, _, _, rfl, rfl, _, _, rfl, rfl, ?_⟩
        refine ⟨_, rfl, _, rfl, _, _, rfl, rfl, (by show (0 : Int) < 2147483647; decide), _, rfl, st, _, _, _, rfl, rfl, upd_same, by rfl, ?_⟩
        rw [upd_upd]
        refine ⟨_, rfl, st, _, _, _, rfl, rfl, SqL.of upd_same, by rfl, _, _, rfl, rfl, .inr ⟨by decide, by decide⟩, _, rfl, st, _, _, _, rfl, rfl, SqL.of upd_same, by rfl, _, _, rfl, rfl, _, rfl, _, _, rfl, rfl, (by show (0 : Int) < 2147483629; decide), ?_⟩
        refine ⟨_, rfl, _, _, rfl, rfl, ⟨by decide, by decide⟩, _, rfl, _, rfl, _, _, rfl, rfl, l0, ?_⟩
        exact k _ _ (Int.emod_nonneg _ (by omega)) (Int.emod_lt_of_pos _ l0) (st_upd hst) ⟨_, _, _, _, upd_same⟩
    · refine ⟨_, rfl, st, _, _, _, rfl, rfl, upd_same, by rfl, ?_⟩
      rw [upd_upd]
      have b2 : But [st] H (upd H st (.lst [.int x, .int 0, .int c, .int (d + 1)])) := st_upd hst
      refine ⟨_, rfl, sc, _, rfl, .inl (hscL b2), _, _, rfl, rfl, _, rfl, ?_⟩
      cases hns : ns with
      | nil =>
        rw [decide_eq_false (by decide)]
        refine iteF ?_
        refine ⟨_, rfl, st, _, _, _, rfl, rfl, SqL.of upd_same, by rfl, _, _, rfl, rfl, _, rfl, st, _, _, _, rfl, rfl, upd_same, by rfl, ?_⟩
        rw [upd_upd]
        refine ⟨_, rfl, st, _, _, _, rfl, rfl, SqL.of upd_same, by rfl, _, rfl, _, _, rfl, rfl, (by show (0 : Int) < 2147483647; decide), _, _, rfl, rfl, .inr ⟨by decide, by decide⟩, ?_⟩
        refine ⟨_, rfl, _, rfl, _, rfl, _, _, rfl, rfl, (by show (0 : Int) < 2147483629; decide), _, _, rfl, rfl, _, rfl, st, _, _, _, rfl, rfl, SqL.of upd_same, by rfl, _, _, rfl, rfl, .inl ⟨by decide, by decide⟩, _, _, rfl, rfl, _, _, rfl, rfl, ?_⟩
        refine ⟨_, rfl, _, rfl, _, _, rfl, rfl, (by show (0 : Int) < 2147483647; decide), _, rfl, st, _, _, _, rfl, rfl, upd_same, by rfl, ?_⟩
        rw [upd_upd]
        refine ⟨_, rfl, st, _, _, _, rfl, rfl, SqL.of upd_same, by rfl, _, _, rfl, rfl, .inr ⟨by decide, by decide⟩, _, rfl, st, _, _, _, rfl, rfl, SqL.of upd_same, by rfl, _, _, rfl, rfl, _, rfl, _, _, rfl, rfl, (by show (0 : Int) < 2147483629; decide), ?_⟩
        refine ⟨_, rfl, _, _, rfl, rfl, ⟨by decide, by decide⟩, _, rfl, _, rfl, _, _, rfl, rfl, l0, ?_⟩
        exact k _ _ (Int.emod_nonneg _ (by omega)) (Int.emod_lt_of_pos _ l0) (st_upd hst) ⟨_, _, _, _, upd_same⟩
      | cons n0 ns0 =>
        rw [decide_eq_true (by simp only [List.map_cons, List.length_cons]; omega)]
        have hpos : (0 : Int) < (((n0 :: ns0).map V.int).length : Int) := by simp only [List.map_cons, List.length_cons]; omega
        have h0 := Int.emod_nonneg c (show (((n0 :: ns0).map V.int).length : Int) ≠ 0 by omega)
        have h1 := Int.emod_lt_of_pos c hpos
        obtain ⟨j, hj⟩ : ∃ j : Nat, c % (((n0 :: ns0).map V.int).length : Int) = (j : Int) := ⟨_, (Int.toNat_of_nonneg h0).symm⟩
        have hjl : j < (n0 :: ns0).length := by
          rw [hj] at h1
          rw [List.length_map] at h1
          omega
        have hat : atI ((n0 :: ns0).map V.int) (c % (((n0 :: ns0).map V.int).length : Int)) = some (V.int ((n0 :: ns0)[j])) := by
          rw [hj]
          exact atI_nat (get_map (List.getElem?_eq_getElem hjl))
        subst hns
        refine iteT ⟨_, rfl, _, rfl, st, _, _, _, rfl, rfl, SqL.of upd_same, by rfl, _, rfl, _, rfl, sc, _, rfl, .inl (hscL b2), _, _, rfl, rfl, hpos, sc, _, _, _, rfl, rfl, hscL b2, hat, ?_⟩
        refine ⟨_, rfl, st, _, _, _, rfl, rfl, SqL.of upd_same, by rfl, _, _, rfl, rfl, _, rfl, st, _, _, _, rfl, rfl, upd_same, by rfl, ?_⟩
        rw [upd_upd]
        refine ⟨_, rfl, st, _, _, _, rfl, rfl, SqL.of upd_same, by rfl, _, rfl, _, _, rfl, rfl, (by show (0 : Int) < 2147483647; decide), _, _, rfl, rfl, .inr ⟨by decide, by decide⟩, ?_⟩
        refine ⟨_, rfl, _, rfl, _, rfl, _, _, rfl, rfl, (by show (0 : Int) < 2147483629; decide), _, _, rfl, rfl, _, rfl, st, _, _, _, rfl, rfl, SqL.of upd_same, by rfl, _, _, rfl, rfl, .inl ⟨by decide, by decide⟩, _, _, rfl, rfl, _, _, rfl, rfl, ?_⟩
        refine ⟨_, rfl, _, rfl, _, _, rfl, rfl, (by show (0 : Int) < 2147483647; decide), _, rfl, st, _, _, _, rfl, rfl, upd_same, by rfl, ?_⟩
        rw [upd_upd]
        refine ⟨_, rfl, st, _, _, _, rfl, rfl, SqL.of upd_same, by rfl, _, _, rfl, rfl, .inr ⟨by decide, by decide⟩, _, rfl, st, _, _, _, rfl, rfl, SqL.of upd_same, by rfl, _, _, rfl, rfl, _, rfl, _, _, rfl, rfl, (by show (0 : Int) < 2147483629; decide), ?_⟩
        refine ⟨_, rfl, _, _, rfl, rfl, ⟨by decide, by decide⟩, _, rfl, _, rfl, _, _, rfl, rfl, l0, ?_⟩
        exact k _ _ (Int.emod_nonneg _ (by omega)) (Int.emod_lt_of_pos _ l0) (st_upd hst) ⟨_, _, _, _, upd_same⟩
end
end K17


set_option maxHeartbeats 4000000
/-! K17L2: the law's day -/
namespace K17
open PySem PySem.Spec PyProof.Rows L2
theorem But.put {ls : List Addr} {H H1 : Hp} {a : Addr} {o : HO} (x : But ls H H1) (h : H a = none) : But ls H (L2.upd H1 a o) := by
  refine ⟨fun c u n q => ?_, fun c m => ?_⟩
  · rw [upd_ne (ne_of_none q h)]
    exact x.keep c u n q
  · obtain ⟨⟨xs, e⟩, ys, e2⟩ := x.lsts c m
    refine ⟨⟨xs, e⟩, ys, ?_⟩
    rw [upd_ne (ne_of_none e h)]
    exact e2
theorem But.none {ls : List Addr} {H H1 : Hp} {a : Addr} (x : But ls H H1) (h : H1 a = none) : H a = none := by
  cases q : H a with
  | none => rfl
  | some o =>
    by_cases m : a ∈ ls
    · obtain ⟨_, ys, e⟩ := x.lsts a m
      rw [e] at h
      cases h
    · rw [x.keep a o m q] at h
      cases h
theorem StAt.ne {H : Hp} {st a : Addr} (h : StAt H st) (n : H a = none) : a ≠ st := fun e => by
  obtain ⟨x, b, c, d, q⟩ := h
  rw [← e, n] at q
  cases q
theorem StAt.put {H : Hp} {st a : Addr} {o : HO} (h : StAt H st) (n : H a = none) : StAt (upd H a o) st := by
  have ne := h.ne n
  obtain ⟨x, b, c, d, q⟩ := h
  exact ⟨x, b, c, d, by rw [upd_ne (Ne.symm ne)]; exact q⟩
theorem StAt.putL {H : Hp} {st a : Addr} {o : HO} (h : StAt H st) (n : a ≠ st) : StAt (upd H a o) st := by
  obtain ⟨x, b, c, d, q⟩ := h
  exact ⟨x, b, c, d, by rw [upd_ne (Ne.symm n)]; exact q⟩
theorem StAt.ext {H H' : Hp} {st : Addr} (h : StAt H st) (x : Ext H H') : StAt H' st := by
  obtain ⟨a, b, c, d, q⟩ := h
  exact ⟨a, b, c, d, x.get q⟩
theorem StAt.lst {H : Hp} {st : Addr} (h : StAt H st) : ∃ xs, H st = some (.lst xs) := by
  obtain ⟨a, b, c, d, q⟩ := h
  exact ⟨_, q⟩
theorem But.of {H : Hp} {st : Addr} (h : StAt H st) : But [st] H H := But.refl fun c m => by
  have e : c = st := by simpa using m
  rw [e]
  exact h.lst
theorem But.get {st : Addr} {H H' : Hp} (x : But [st] H H') {a : Addr} {o : HO} (n : a ≠ st) (h : H a = some o) : H' a = some o := x.keep a o (by simpa using n) h
section
variable {P : Program} {w : World} {K : PySem.W.Frag} {mg : Str → Option Value} {base : Heap}
def spLDay (K : PySem.W.Frag) : Sp := fun vs H Q _ => ∃ (sc st : Addr) (ns : List Int) (many moods : Nat) (most : Int), vs = [.ref sc, .ref st, .int many, .int most, .int moods] ∧ Frz K H sc (ns.map V.int) ∧ StAt H st ∧ 1 ≤ many ∧ many ≤ 4 ∧ 0 ≤ most ∧ most ≤ 6 ∧ 1 ≤ moods ∧ moods ≤ 4 ∧
  ∀ (a : Addr) (d : DayD) H', But [st] H H' → StAt H' st → DayAt K H' a d → DayOk many moods d → Q (.ref a) H'
theorem ok_lday (T : Txt K mg) : Ok P w K mg base CX0 5 d_lday (spLDay K) := by
  have nd : (["_law_script", "_law_state", "_law_many", "_law_most", "_law_moods", "_law_dry", "_law_rain", "_law_k"] : List Str).Nodup := by decide +kernel
  refine mkOk (N := ["_law_script", "_law_state", "_law_many", "_law_most", "_law_moods", "_law_dry", "_law_rain", "_law_k"]) (ps := ["_law_script", "_law_state", "_law_many", "_law_most", "_law_moods"]) T.f_lday b_lday ⟨rfl, rfl, rfl, nd, rfl, by decide +kernel, by decide +kernel⟩ (fun vs H Q E h => ?_) (fun cdv A outer s0 H vs Q E hr h => ?_)
  · obtain ⟨sc, st, ns, many, moods, most, rfl, _⟩ := h
    rfl
  · obtain ⟨sc, st, ns, many, moods, most, rfl, hsc, hst, h1, h4, m0, m6, d1, d4, k⟩ := h
    refine ⟨_, pss_cons (ps_setLc (i := 5) (own := [("_law_k", 7)]) (g := gName 7) (tt := tYes) rfl nd rfl rfl (sw_true rfl rfl rfl (by decide +kernel)) (pi_range1 rfl T.z_range (pa_cons (pv 2) pa_nil)) (blkOk_by (N := ["_law_script", "_law_state", "_law_many", "_law_most", "_law_moods", "_law_dry", "_law_rain", "_law_k"]) (sc := defScope s_lday) (by decide +kernel))
        (fun _ _ _ _ _ => pg_name (i := 7) nd rfl (Or.inl rfl)) (fun _ _ _ _ _ => pts_nil) (fun _ _ _ _ _ => pe_f (ok_ldraw T) T.g_ldraw (hr.mono (by decide)) pass0 (pa_cons (pv 0) (pa_cons (pv 1) (pa_cons (pe_op op_add (pv 3) pe_int) pa_nil)))))
      (pss_cons (ps_setLc (i := 6) (own := [("_law_k", 7)]) (g := gName 7) (tt := tYes) rfl nd rfl rfl (sw_true rfl rfl rfl (by decide +kernel)) (pi_range1 rfl T.z_range (pa_cons (pv 2) pa_nil)) (blkOk_by (N := ["_law_script", "_law_state", "_law_many", "_law_most", "_law_moods", "_law_dry", "_law_rain", "_law_k"]) (sc := defScope s_lday) (by decide +kernel))
        (fun _ _ _ _ _ => pg_name (i := 7) nd rfl (Or.inl rfl)) (fun _ _ _ _ _ => pts_nil) (fun _ _ _ _ _ => pe_op op_mul (pe_ty call_intI T.z_int (pa_cons (pe_f (ok_ldraw T) T.g_ldraw (hr.mono (by decide)) pass0 (pa_cons (pv 0) (pa_cons (pv 1) (pa_cons pe_int pa_nil)))) pa_nil)) (pe_f (ok_ldraw T) T.g_ldraw (hr.mono (by decide)) pass0 (pa_cons (pv 0) (pa_cons (pv 1) (pa_cons (pe_op op_add (pv 3) pe_int) pa_nil))))))
      (pss_one (ps_ret (pe_mk (d := d_dayI) T.mk_Day (ok_dayI T) T.gc_Day hr pass0 (pa_cons (pv 5) (pa_cons (pv 6) (pa_cons (pe_f (ok_ldraw T) T.g_ldraw (hr.mono (by decide)) pass0 (pa_cons (pv 0) (pa_cons (pv 1) (pa_cons (pe_op op_add (pv 3) pe_int) pa_nil))))
        (pa_cons (pe_f (ok_ldraw T) T.g_ldraw (hr.mono (by decide)) pass0 (pa_cons (pv 0) (pa_cons (pv 1) (pa_cons (pv 4) pa_nil)))) pa_nil)))))))), ?_⟩
    refine ⟨_, rfl, _, rfl, by omega, by omega, fun D hD => lc_range (lo := 0) (n := (many : Int).toNat) (fun i H' => But [st] H H' ∧ StAt H' st ∧ ∃ acc : List Int, H' D = some (.lst (acc.map V.int)) ∧ acc.length = i ∧ ∀ x ∈ acc, 0 ≤ x ∧ x ≤ 8) ⟨(But.of hst).put hD, hst.put hD, [], upd_same, rfl, fun x h => absurd h (by simp)⟩ (fun i H' hi q => ?_) (fun H' q => ?_)⟩
    · obtain ⟨bb, hs, acc, hDa, hal, hac⟩ := q
      have nDs := hst.ne hD
      refine ⟨rfl, _, rfl, _, rfl, _, rfl, _, _, rfl, rfl, sc, st, ns, _, rfl, hsc.mor bb.mor, hs, by omega, by omega, fun n H2 n0 n1 b2 hs2 => ⟨_, b2.get nDs hDa, Nat.lt_of_lt_of_le (show _ < 1000 by rw [List.length_map]; omega) (by decide), ?_⟩⟩
      refine ⟨(bb.trans b2).put hD, hs2.putL nDs, acc ++ [n], by rw [upd_same, List.map_append]; rfl, by simp [hal], fun x hx => ?_⟩
      rcases List.mem_append.mp hx with h | h
      · exact hac x h
      · have e : x = n := by simpa using h
        omega
    · obtain ⟨bb, hs, dry, hDa, hal, hac⟩ := q
      have nDs := hst.ne hD
      refine ⟨_, rfl, _, rfl, by omega, by omega, fun D2 hD2 => lc_range (lo := 0) (n := (many : Int).toNat) (fun i H2 => But [st] H' H2 ∧ StAt H2 st ∧ ∃ acc : List Int, H2 D2 = some (.lst (acc.map V.int)) ∧ acc.length = i ∧ ∀ x ∈ acc, 0 ≤ x ∧ x ≤ 8) ⟨(But.of hs).put hD2, hs.put hD2, [], upd_same, rfl, fun x h => absurd h (by simp)⟩ (fun i H2 hi q => ?_) (fun H2 q => ?_)⟩
      · obtain ⟨bb2, hs2, acc, hDa2, hal2, hac2⟩ := q
        have nDs2 := hs.ne hD2
        refine ⟨rfl, _, rfl, _, rfl, sc, st, ns, 2, rfl, (hsc.mor bb.mor).mor bb2.mor, hs2, by omega, by omega, fun n H3 n0 n1 b3 hs3 => ⟨_, rfl, _, rfl, _, rfl, _, rfl, _, _, rfl, rfl, sc, st, ns, _, rfl, ((hsc.mor bb.mor).mor bb2.mor).mor b3.mor, hs3, by omega, by omega, fun n' H4 n0' n1' b4 hs4 => ?_⟩⟩
        refine ⟨_, _, rfl, rfl, .inl ⟨by omega, by omega⟩, _, b4.get nDs2 (b3.get nDs2 hDa2), Nat.lt_of_lt_of_le (show _ < 1000 by rw [List.length_map]; omega) (by decide), ?_⟩
        refine ⟨((bb2.trans b3).trans b4).put hD2, hs4.putL nDs2, acc ++ [n * n'], by rw [upd_same, List.map_append]; rfl, by simp [hal2], fun x hx => ?_⟩
        rcases List.mem_append.mp hx with h | h
        · exact hac2 x h
        · have e : x = n * n' := by simpa using h
          have e01 : n = 0 ∨ n = 1 := by omega
          rcases e01 with e0 | e0 <;> subst e0 <;> simp at e <;> omega
      · obtain ⟨bb2, hs2, rain, hDa2, hal2, hac2⟩ := q
        have nDs2 := hs.ne hD2
        refine ⟨_, rfl, _, rfl, _, rfl, _, rfl, _, rfl, _, _, rfl, rfl, sc, st, ns, _, rfl, (hsc.mor bb.mor).mor bb2.mor, hs2, by omega, by omega, fun fill H3 f0 f1 b3 hs3 => ?_⟩
        refine ⟨_, rfl, _, rfl, _, rfl, sc, st, ns, _, rfl, ((hsc.mor bb.mor).mor bb2.mor).mor b3.mor, hs3, by omega, by omega, fun mood H4 g0 g1 b4 hs4 => ?_⟩
        intro y dy hy hdy hne
        have xm : Ext H4 (upd (upd H4 dy (.own y)) y (.ins (CDay K) dy [])) := (Ext.upd hdy).put hy
        have hDry4 : H4 D = some (.lst (dry.map V.int)) := b4.get nDs (b3.get nDs (bb2.get nDs hDa))
        have hRain4 : H4 D2 = some (.lst (rain.map V.int)) := b4.get nDs2 (b3.get nDs2 hDa2)
        have ok : DayOk many moods ⟨dry, rain, fill, mood⟩ := ⟨by show dry.length = many; omega, by show rain.length = many; omega, hac, hac2, f0, by show fill ≤ 8; omega, g0, g1⟩
        refine ⟨y, dy, D, D2, ⟨dry, rain, fill, mood⟩, rfl, upd_same, SqL.of (xm.get hDry4), SqL.of (xm.get hRain4), ⟨by show 1 ≤ dry.length; omega, by show dry.length ≤ 4; omega, by show rain.length = dry.length; omega, hac, hac2, f0, by show fill ≤ 8; omega, g0, by show mood ≤ 3; omega⟩, fun td tr H5 hk hy5 htd htr => ⟨rfl, ?_⟩⟩
        have x5 : Ext H4 H5 := Ext.self hy hdy hk
        exact k y _ H5 ((((bb.trans bb2).trans b3).trans b4).ext x5) (hs4.ext x5) ⟨dy, td, tr, hy5, htd, htr⟩ ok
end
end K17


set_option maxHeartbeats 4000000
/-! K17L3: the law's names -/
namespace K17
open PySem PySem.Spec PyProof.Rows L2
abbrev abc : Str := "abcdefghijklmnopqrstuvwxyz"
theorem abc_at {i : Nat} (h : i < 26) : abc.cps[i]? = some (97 + i) := by
  have e : ∀ j : Fin 26, abc.cps[j.val]? = some (97 + j.val) := by decide +kernel
  exact e ⟨i, h⟩
theorem abc_len : abc.length = 26 := by decide +kernel
/-- a name in the making: its signs, the last of them; n: how many stand ahead -/
def NameB (x : Str) (c n : Nat) : Prop := ∃ pre : List Nat, x.cps.toList = pre ++ [97 + c] ∧ pre.length = n ∧ ∀ a ∈ pre, 97 ≤ a ∧ a ≤ 122
theorem NameB.ok {x : Str} {c n : Nat} (h : NameB x c n) (hc : c < 26) (hn : n ≤ 7) : NameOk x := by
  obtain ⟨pre, e, hl, ha⟩ := h
  have hs : x.cps.size = n + 1 := by
    have := congrArg List.length e
    simp at this
    omega
  refine ⟨by omega, by omega, fun a m => ?_⟩
  rw [e] at m
  rcases List.mem_append.mp m with m | m
  · exact ha a m
  · have e2 : a = 97 + c := by simpa using m
    omega
theorem NameB.add {x : Str} {c n a : Nat} (h : NameB x c n) (ha : a < 26) : NameB (⟨#[97 + a]⟩ ++ x) c (n + 1) := by
  obtain ⟨pre, e, hl, hp⟩ := h
  refine ⟨(97 + a) :: pre, ?_, by simp [hl], fun b m => ?_⟩
  · have := TL.tl_append (⟨#[97 + a]⟩ : Str) x
    show TL.tl (⟨#[97 + a]⟩ ++ x) = _
    rw [this]
    show [97 + a] ++ x.cps.toList = _
    rw [e]
    rfl
  · rcases List.mem_cons.mp m with m | m
    · omega
    · exact hp b m
theorem NameB.len {x : Str} {c n : Nat} (h : NameB x c n) : x.length = n + 1 := by
  obtain ⟨pre, e, hl, hp⟩ := h
  have := congrArg List.length e
  simp at this
  show x.cps.size = _
  omega
theorem NameB.last {x y : Str} {c d n m : Nat} (h : NameB x c n) (h' : NameB y d m) (e : x = y) : c = d := by
  subst e
  obtain ⟨pre, e, _, _⟩ := h
  obtain ⟨pre', e', _, _⟩ := h'
  rw [e] at e'
  have h2 := congrArg List.getLast? e'
  simp at h2
  exact h2
section
variable {P : Program} {w : World} {K : PySem.W.Frag} {mg : Str → Option Value} {base : Heap}
def spLNames (K : PySem.W.Frag) : Sp := fun vs H Q _ => ∃ (sc st : Addr) (ns : List Int) (many : Nat), vs = [.ref sc, .ref st, .int many] ∧ Frz K H sc (ns.map V.int) ∧ StAt H st ∧ many ≤ 4 ∧
  ∀ (L : Addr) (xs : List Str) H', But [st] H H' → StAt H' st → H L = none → H' L = some (.lst (xs.map V.str)) → xs.length = many → (∀ x ∈ xs, NameOk x) → xs.Nodup → Q (.ref L) H'
theorem ok_lnames (T : Txt K mg) : Ok P w K mg base CX0 2 d_lnames (spLNames K) := by
  have nd : (["_law_script", "_law_state", "_law_many", "_law_letters", "_law_shift", "_law_names_here", "_law_k", "_law_name", "_law_j"] : List Str).Nodup := by decide +kernel
  refine mkOk (N := ["_law_script", "_law_state", "_law_many", "_law_letters", "_law_shift", "_law_names_here", "_law_k", "_law_name", "_law_j"]) (ps := ["_law_script", "_law_state", "_law_many"]) T.f_lnames b_lnames ⟨rfl, rfl, rfl, nd, rfl, by decide +kernel, by decide +kernel⟩ (fun vs H Q E h => ?_) (fun cdv A outer s0 H vs Q E hr h => ?_)
  · obtain ⟨sc, st, ns, many, rfl, _⟩ := h
    rfl
  · obtain ⟨sc, st, ns, many, rfl, hsc, hst, h4, k⟩ := h
    refine ⟨_, pss_cons (ps_set (i := 3) nd rfl (Or.inl rfl) pe_str)
      (pss_cons (ps_set (i := 4) nd rfl (Or.inl rfl) (pe_f (ok_ldraw T) T.g_ldraw hr pass0 (pa_cons (pv 0) (pa_cons (pv 1) (pa_cons pe_int pa_nil)))))
      (pss_cons (ps_set (i := 5) nd rfl (Or.inl rfl) (pe_lst pa_nil))
      (pss_cons (ps_for PassesOwn.never rfl (pi_range1 rfl T.z_range (pa_cons (pv 2) pa_nil)) (pg_name (i := 6) nd rfl (Or.inl rfl))
        (pss_cons (ps_set (i := 7) nd rfl (Or.inl rfl) (pe_item_str (pv 3) (pe_op op_mod (pe_ty call_intI T.z_int (pa_cons (pe_op op_add (pv 4) (pe_op op_mul pe_int (pv 6))) pa_nil)) pe_int) (fun _ _ => rfl)))
        (pss_cons (ps_for PassesOwn.never rfl (pi_range1 rfl T.z_range (pa_cons (pe_f (ok_ldraw T) T.g_ldraw hr pass0 (pa_cons (pv 0) (pa_cons (pv 1) (pa_cons pe_int pa_nil)))) pa_nil)) (pg_name (i := 8) nd rfl (Or.inl rfl))
          (pss_one (ps_set (i := 7) nd rfl (Or.inl rfl) (pe_op op_add_str (pe_item_str (pv 3) (pe_f (ok_ldraw T) T.g_ldraw hr pass0 (pa_cons (pv 0) (pa_cons (pv 1) (pa_cons pe_int pa_nil)))) (fun _ _ => rfl)) (pv 7)))))
        (pss_one (ps_expr (pe_bm PySem.F.plainAttrs_list PySem.F.slot_list_append PySem.F.type_list_append mt_append (pv 5) (pa_cons (pv 7) pa_nil)))))))
      (pss_one (ps_ret (pv 5)))))), ?_⟩
    refine ⟨_, rfl, _, rfl, sc, st, ns, 26, rfl, hsc, hst, by omega, by omega, fun sh H1 s0' s1 b1 hs1 => ?_⟩
    refine ⟨Nat.zero_le _, fun L hL => ?_⟩
    have hLH : H L = none := b1.none hL
    have nLs := hst.ne hLH
    refine ⟨_, rfl, _, rfl, by omega, by omega, for_range (lo := 0) (n := (many : Int).toNat) (fun i σ H' => (∃ v6 v7 v8 : Option V, σ = [some (.ref sc), some (.ref st), some (.int many), some (.str abc), some (.int sh), some (.ref L), v6, v7, v8]) ∧ But [st] H H' ∧ StAt H' st ∧
        ∃ xs : List Str, H' L = some (.lst (xs.map V.str)) ∧ xs.length = i ∧ ∀ (j : Nat) x, xs[j]? = some x → ∃ n, n ≤ 3 ∧ NameB x ((sh + 7 * j) % 26).toNat n)
      ⟨⟨_, _, _, rfl⟩, b1.put hLH, hs1.put hL, [], upd_same, rfl, fun j x h => by simp at h⟩ (fun i σ H' hi q => ?_) (fun σ H' q => ?_)⟩
    · obtain ⟨⟨v6, v7, v8, rfl⟩, bb, hs, xs, hLx, hxl, hxs⟩ := q
      have e0 : (0 : Int) + (i : Int) = (i : Int) := by omega
      have m0 : 0 ≤ (sh + 7 * (i : Int)) % 26 := Int.emod_nonneg _ (by omega)
      have m1 : (sh + 7 * (i : Int)) % 26 < 26 := Int.emod_lt_of_pos _ (by omega)
      have hlen : (abc.length : Int) = 26 := by rw [abc_len]; rfl
      refine ⟨_, rfl, _, rfl, _, rfl, _, _, rfl, rfl, .inl ⟨by decide, by decide⟩, _, _, rfl, rfl, _, rfl, _, _, rfl, rfl, (by show (0 : Int) < 26; decide), abc, _, 97 + ((sh + 7 * (i : Int)) % 26).toNat, rfl, rfl, by rw [e0]; exact m0, by rw [e0]; omega, by rw [e0, hlen]; exact m1, by rw [e0]; exact abc_at (by omega), ?_⟩
      refine ⟨_, rfl, _, rfl, sc, st, ns, 4, rfl, hsc.mor bb.mor, hs, by omega, by omega, fun cnt H2 c0 c1 b2 hs2 => ⟨_, rfl, by omega, by omega, for_range (lo := 0) (n := cnt.toNat) (fun j σ H3 => (∃ (nm : Str) (v8 : Option V), σ = [some (.ref sc), some (.ref st), some (.int many), some (.str abc), some (.int sh), some (.ref L), some (.int ((0 : Int) + (i : Int))), some (.str nm), v8] ∧ NameB nm ((sh + 7 * (i : Int)) % 26).toNat j) ∧ But [st] H' H3 ∧ StAt H3 st)
        ⟨⟨_, _, rfl, [], rfl, rfl, fun a h => absurd h (by simp)⟩, b2, hs2⟩ (fun j σ H3 hj q => ?_) (fun σ H3 q => ?_)⟩⟩
      · obtain ⟨⟨nm, v8, rfl, hnm⟩, b3, hs3⟩ := q
        refine ⟨_, rfl, _, rfl, _, rfl, sc, st, ns, 26, rfl, (hsc.mor bb.mor).mor b3.mor, hs3, by omega, by omega, fun r H4 r0 r1 b4 hs4 => ?_⟩
        refine ⟨abc, _, 97 + r.toNat, rfl, rfl, r0, by omega, by rw [hlen]; exact r1, abc_at (by omega), _, rfl, _, _, rfl, rfl, ?_, ?_⟩
        · rw [hnm.len]
          exact Nat.le_trans (show 1 + (j + 1) ≤ 1000 by omega) (by decide)
        · exact ⟨⟨_, _, rfl, hnm.add (by omega)⟩, b3.trans b4, hs4⟩
      · obtain ⟨⟨nm, v8, rfl, hnm⟩, b3, hs3⟩ := q
        have hL3 := b3.get nLs hLx
        refine ⟨_, rfl, .inl ⟨rfl, _, SqL.of hL3⟩, _, rfl, L, _, _, rfl, rfl, hL3, Nat.lt_of_lt_of_le (show _ < 1000 by rw [List.length_map]; omega) (by decide), ?_⟩
        refine ⟨⟨_, _, _, rfl⟩, (bb.trans b3).put hLH, hs3.putL nLs, xs ++ [nm], by rw [upd_same, List.map_append]; rfl, by simp [hxl], fun j x hx => ?_⟩
        by_cases hj : j < xs.length
        · rw [List.getElem?_append_left hj] at hx
          exact hxs j x hx
        · have hj2 : j < (xs ++ [nm]).length := (List.getElem?_eq_some_iff.mp hx).1
          have ej : j = i := by simp at hj2; omega
          rw [List.getElem?_append_right (by omega), show j - xs.length = 0 by omega] at hx
          have ex : nm = x := by simpa using hx
          subst ex
          rw [ej]
          exact ⟨_, by omega, hnm⟩
    · obtain ⟨⟨v6, v7, v8, rfl⟩, bb, hs, xs, hLx, hxl, hxs⟩ := q
      have hxl' : xs.length = many := by omega
      refine ⟨_, rfl, k L xs H' bb hs hLH hLx hxl' (fun x hx => ?_) ?_⟩
      · obtain ⟨j, hj, e⟩ := List.getElem_of_mem hx
        obtain ⟨n, hn, hb⟩ := hxs j x (by rw [List.getElem?_eq_getElem hj, e])
        exact hb.ok (by have := Int.emod_lt_of_pos (sh + 7 * (j : Int)) (show (0 : Int) < 26 by omega); have := Int.emod_nonneg (sh + 7 * (j : Int)) (show (26 : Int) ≠ 0 by omega); omega) (by omega)
      · show xs.Pairwise (· ≠ ·)
        rw [List.pairwise_iff_getElem]
        intro i j hi hj hij e
        obtain ⟨n, hn, hb⟩ := hxs i _ (List.getElem?_eq_getElem hi)
        obtain ⟨m, hm, hb'⟩ := hxs j _ (List.getElem?_eq_getElem hj)
        have := hb.last hb' e
        have a1 := Int.emod_nonneg (sh + 7 * (i : Int)) (show (26 : Int) ≠ 0 by omega)
        have a2 := Int.emod_nonneg (sh + 7 * (j : Int)) (show (26 : Int) ≠ 0 by omega)
        omega
end
end K17


set_option maxHeartbeats 4000000
/-! K17L4: the law's ground -/
namespace K17
open PySem PySem.Spec PyProof.Rows L2
theorem atI_neg1 {xs : List V} {v : V} (h : xs.getLast? = some v) : atI xs (-1) = some v := by
  obtain ⟨ys, e⟩ := List.getLast?_eq_some_iff.mp h
  rw [e]
  exact atI_last ys v
theorem Ext.self3 {H H' : Hp} {x dx p C : Addr} {fs : List (Str × V)} {o : HO} (hx : H x = Option.none) (hd : H dx = Option.none) (hp : H p = Option.none) (k : ∀ a u, a ≠ x → (L2.upd (L2.upd (L2.upd H dx (.own x)) x (.ins C dx fs)) p o) a = some u → H' a = some u) : Ext H H' := Ext.of fun a u q => by
  have n1 : a ≠ x := ne_of_none q hx
  have n2 : a ≠ dx := ne_of_none q hd
  have n3 : a ≠ p := ne_of_none q hp
  exact k a u n1 (by rw [upd_ne n3, upd_ne n1, upd_ne n2]; exact q)
section
variable {P : Program} {w : World} {K : PySem.W.Frag} {mg : Str → Option Value} {base : Heap}
/-- the law's plots -/
structure LPlot (p : Pl) : Prop where
  nm : NameOk p.name
  h1 : 1 ≤ p.hold
  h4 : p.hold ≤ 4
  d1 : 1 ≤ p.drink
  d3 : p.drink ≤ 3
theorem LPlot.ok {p : Pl} (h : LPlot p) : PlotOk p := ⟨h.nm, h.h1, by have := h.h4; omega, h.d1, by have := h.d3; omega⟩
structure LGround (ps : List Pl) (gs : List (List Str)) (cap : Int) : Prop where
  n1 : 1 ≤ ps.length
  n3 : ps.length ≤ 3
  pl : ∀ p ∈ ps, LPlot p
  nd : (PN ps).Nodup
  gr : ∀ g ∈ gs, ∀ x ∈ g, x ∈ PN ps
  c0 : 0 ≤ cap
  c4 : cap ≤ 4
def spLGround (K : PySem.W.Frag) : Sp := fun vs H Q _ => ∃ (sc st : Addr) (ns : List Int), vs = [.ref sc, .ref st, .int 3, .int 4, .int 4] ∧ Frz K H sc (ns.map V.int) ∧ StAt H st ∧
  ∀ (g : Addr) (ps : List Pl) (gs : List (List Str)) (cap : Int) H', But [st] H H' → StAt H' st → GroundAt K H' g ps gs cap → LGround ps gs cap → Q (.ref g) H'
theorem ok_lground (T : Txt K mg) : Ok P w K mg base CX0 5 d_lground (spLGround K) := by
  have nd : (["_law_script", "_law_state", "_law_most_plots", "_law_most_hold", "_law_most_tank", "_law_many", "_law_names_here", "_law_plots", "_law_name", "_law_hold", "_law_groups", "_law_k", "_law_gates"] : List Str).Nodup := by decide +kernel
  refine mkOk (N := ["_law_script", "_law_state", "_law_most_plots", "_law_most_hold", "_law_most_tank", "_law_many", "_law_names_here", "_law_plots", "_law_name", "_law_hold", "_law_groups", "_law_k", "_law_gates"]) (ps := ["_law_script", "_law_state", "_law_most_plots", "_law_most_hold", "_law_most_tank"]) T.f_lground b_lground ⟨rfl, rfl, rfl, nd, rfl, by decide +kernel, by decide +kernel⟩ (fun vs H Q E h => ?_) (fun cdv A outer s0 H vs Q E hr h => ?_)
  · obtain ⟨sc, st, ns, rfl, _⟩ := h
    rfl
  · obtain ⟨sc, st, ns, rfl, hsc, hst, k⟩ := h
    refine ⟨_, pss_cons (ps_set (i := 5) nd rfl (Or.inl rfl) (pe_op op_add pe_int (pe_f (ok_ldraw T) T.g_ldraw (hr.mono (by decide)) pass0 (pa_cons (pv 0) (pa_cons (pv 1) (pa_cons (pv 2) pa_nil))))))
      (pss_cons (ps_set (i := 6) nd rfl (Or.inl rfl) (pe_f (ok_lnames T) T.g_lnames (hr.mono (by decide)) pass0 (pa_cons (pv 0) (pa_cons (pv 1) (pa_cons (pv 5) pa_nil)))))
      (pss_cons (ps_set (i := 7) nd rfl (Or.inl rfl) (pe_lst pa_nil))
      (pss_cons (ps_for PassesOwn.never rfl (pi_list (pv 6)) (pg_name (i := 8) nd rfl (Or.inl rfl))
        (pss_cons (ps_set (i := 9) nd rfl (Or.inl rfl) (pe_op op_add pe_int (pe_f (ok_ldraw T) T.g_ldraw (hr.mono (by decide)) pass0 (pa_cons (pv 0) (pa_cons (pv 1) (pa_cons (pv 3) pa_nil))))))
        (pss_one (ps_expr (pe_bm PySem.F.plainAttrs_list PySem.F.slot_list_append PySem.F.type_list_append mt_append (pv 7) (pa_cons (pe_mk (d := d_plotI) T.mk_Plot (ok_plotI T) T.gc_Plot hr pass0 (pa_cons (pv 8) (pa_cons (pv 9) (pa_cons (pe_op op_add pe_int (pe_f (ok_ldraw T) T.g_ldraw (hr.mono (by decide)) pass0 (pa_cons (pv 0) (pa_cons (pv 1) (pa_cons pe_int pa_nil))))) pa_nil)))) pa_nil))))))
      (pss_cons (ps_set (i := 10) nd rfl (Or.inl rfl) (pe_lst pa_nil))
      (pss_cons (ps_for PassesOwn.never rfl (pi_range1 rfl T.z_range (pa_cons (pe_op op_add pe_int (pe_f (ok_ldraw T) T.g_ldraw (hr.mono (by decide)) pass0 (pa_cons (pv 0) (pa_cons (pv 1) (pa_cons pe_int pa_nil))))) pa_nil)) (pg_name (i := 11) nd rfl (Or.inl rfl))
        (pss_one (ps_expr (pe_bm PySem.F.plainAttrs_list PySem.F.slot_list_append PySem.F.type_list_append mt_append (pv 10) (pa_cons (pe_lc (own := [("_law_name", 8)]) (g := gName 8) rfl nd (pi_list (pv 6)) (blkOk_by (N := ["_law_script", "_law_state", "_law_most_plots", "_law_most_hold", "_law_most_tank", "_law_many", "_law_names_here", "_law_plots", "_law_name", "_law_hold", "_law_groups", "_law_k", "_law_gates"]) (sc := defScope s_lground) (by decide +kernel))
            (fun _ _ _ _ _ => pg_name (i := 8) nd rfl (Or.inl rfl)) (fun _ _ _ _ _ => pts_one (pt_cmpR op_lt (pe_f (ok_ldraw T) T.g_ldraw (hr.mono (by decide)) pass0 (pa_cons (pv 0) (pa_cons (pv 1) (pa_cons pe_int pa_nil)))) pe_int (nomark _))) (fun _ _ _ _ _ => pv 8)) pa_nil)))))
      (pss_cons (ps_set (i := 12) nd rfl (Or.inl rfl) (pe_mk (d := d_gatesI) T.mk_Gates (ok_gatesI T) T.gc_Gates hr pass0 (pa_cons (pe_ix ix_list (pv 10) pe_int (fun _ _ => rfl)) (pa_cons (pe_ix ix_list (pv 10) (pe_un un_neg pe_int) (fun _ _ => rfl)) (pa_cons (pe_ix ix_list (pv 10) (pe_op op_fdiv (pe_b call_len_seq T.z_len (pa_cons (pv 10) pa_nil)) pe_int) (fun _ _ => rfl)) pa_nil)))))
      (pss_one (ps_ret (pe_mk (d := d_groundI) T.mk_Ground (ok_groundI T) T.gc_Ground hr pass0 (pa_cons (pv 7) (pa_cons (pv 12) (pa_cons (pe_f (ok_ldraw T) T.g_ldraw (hr.mono (by decide)) pass0 (pa_cons (pv 0) (pa_cons (pv 1) (pa_cons (pe_op op_add (pv 4) pe_int) pa_nil)))) pa_nil)))))))))))), ?_⟩
    refine ⟨_, rfl, _, rfl, _, rfl, sc, st, ns, 3, rfl, hsc, hst, by omega, by omega, fun n H1 n0 n1 b1 hs1 => ?_⟩
    obtain ⟨many, hmany⟩ : ∃ many : Nat, 1 + n = (many : Int) := ⟨(1 + n).toNat, by omega⟩
    refine ⟨_, _, rfl, rfl, ?_⟩
    refine ⟨_, rfl, _, rfl, _, rfl, sc, st, ns, many, by show [V.ref sc, V.ref st, V.int (1 + n)] = _; rw [hmany], hsc.mor b1.mor, hs1, by omega, fun L xs H2 b2 hs2 hL1 hL2 hxl hxo hxn => ?_⟩
    have b12 := b1.trans b2
    have hLH : H L = none := b1.none hL1
    have nLs := hst.ne hLH
    refine ⟨Nat.zero_le _, fun M hM => ?_⟩
    have hMH : H M = none := b12.none hM
    have nMs := hst.ne hMH
    have nLM : L ≠ M := ne_of_none hL2 hM
    refine ⟨_, rfl, L, rfl, ⟨_, SqL.of (by rw [upd_ne nLM]; exact hL2)⟩, for_list (xs := xs.map V.str) (fun i σ H' => (∃ v8 v9 : Option V, σ = [some (.ref sc), some (.ref st), some (.int 3), some (.int 4), some (.int 4), some (.int (1 + n)), some (.ref L), some (.ref M), v8, v9, none, none, none]) ∧ But [st] H H' ∧ StAt H' st ∧ H' L = some (.lst (xs.map V.str)) ∧
        ∃ (as : List Addr) (ps : List Pl), H' M = some (.lst (as.map V.ref)) ∧ All2 (PlotAt K H') as ps ∧ PN ps = xs.take i ∧ ∀ p ∈ ps, LPlot p)
      ⟨⟨_, _, rfl⟩, b12.put hMH, hs2.put hM, by rw [upd_ne nLM]; exact hL2, [], [], upd_same, .nil, rfl, fun p h => absurd h (by simp)⟩ (fun i σ H' hi q => SqL.of q.2.2.2.1) (fun i y σ H3 hy q => ?_) (fun σ H3 q => ?_)⟩
    · obtain ⟨⟨v8, v9, rfl⟩, b3, hs3, hL3, as, ps, hM3, hap, hpn, hpl⟩ := q
      obtain ⟨x, hx, rfl⟩ := map_get hy
      have hxi : i < xs.length := (List.getElem?_eq_some_iff.mp hx).1
      have hal : as.length = i := by
        have e1 := hap.1
        have e2 := congrArg List.length hpn
        rw [List.length_map, List.length_take] at e2
        omega
      refine ⟨_, rfl, _, rfl, _, rfl, sc, st, ns, 4, rfl, hsc.mor b3.mor, hs3, by omega, by omega, fun hd H4 h0 h1 b4 hs4 => ?_⟩
      refine ⟨_, _, rfl, rfl, ?_⟩
      have hM4 := b4.get nMs hM3
      refine ⟨_, rfl, .inl ⟨rfl, _, SqL.of hM4⟩, _, rfl, _, rfl, _, rfl, _, rfl, sc, st, ns, 3, rfl, (hsc.mor b3.mor).mor b4.mor, hs4, by omega, by omega, fun dr H5 d0 d1 b5 hs5 => ?_⟩
      have hM5 := b5.get nMs hM4
      have b345 := (b3.trans b4).trans b5
      refine ⟨_, _, rfl, rfl, fun y dy hy hdy hne => ?_⟩
      have po : LPlot ⟨x, 1 + hd, 1 + dr⟩ := ⟨hxo x (List.mem_of_getElem? hx), by show 1 ≤ 1 + hd; omega, by show 1 + hd ≤ 4; omega, by show 1 ≤ 1 + dr; omega, by show 1 + dr ≤ 3; omega⟩
      refine ⟨y, dy, ⟨x, 1 + hd, 1 + dr⟩, rfl, upd_same, po.ok, rfl, ?_⟩
      rw [upd_upd]
      have xm : Ext H5 (upd (upd H5 dy (.own y)) y (.ins (CPlot K) dy (plotF ⟨x, 1 + hd, 1 + dr⟩))) := (Ext.upd hdy).put hy
      have hy6 : (upd (upd H5 dy (.own y)) y (.ins (CPlot K) dy (plotF ⟨x, 1 + hd, 1 + dr⟩))) y = some (.ins (CPlot K) dy (plotF ⟨x, 1 + hd, 1 + dr⟩)) := upd_same
      have hM6 := xm.get hM5
      have b6 := b345.ext xm
      refine ⟨M, _, _, rfl, rfl, hM6, Nat.lt_of_lt_of_le (show _ < 1000 by rw [List.length_map]; omega) (by decide), ?_⟩
      have mM := Mor.lst (ys := as.map V.ref ++ [.ref y]) hM6
      have m36 := (b4.trans b5).mor.trans xm.mor
      refine ⟨⟨_, _, rfl⟩, b6.put hMH, (hs5.ext xm).putL nMs, by rw [upd_ne nLM]; exact xm.get (b5.get nLs (b4.get nLs hL3)), as ++ [y], ps ++ [⟨x, 1 + hd, 1 + dr⟩], by rw [upd_same, List.map_append]; rfl, (hap.imp fun _ _ q => (q.mor m36).mor mM).snoc (PlotAt.mor mM ⟨dy, hy6⟩), ?_, fun p hp => ?_⟩
      · show (ps ++ [_]).map _ = _
        rw [List.map_append, List.take_succ, hx]
        show PN ps ++ [x] = _
        rw [hpn]
        rfl
      · rcases List.mem_append.mp hp with h | h
        · exact hpl p h
        · have e : p = ⟨x, 1 + hd, 1 + dr⟩ := by simpa using h
          rw [e]
          exact po
    · obtain ⟨⟨v8, v9, rfl⟩, b3, hs3, hL3, as, ps, hM3, hap, hpn, hpl⟩ := q
      rw [List.length_map, List.take_length] at hpn
      have hpsl : ps.length = many := by
        have e := congrArg List.length hpn
        rw [List.length_map] at e
        omega
      have hal : as.length = ps.length := hap.1
      refine ⟨Nat.zero_le _, fun G hG => ?_⟩
      have hGH : H G = none := b3.none hG
      have nGs := hst.ne hGH
      have nMG : M ≠ G := ne_of_none hM3 hG
      have nLG : L ≠ G := ne_of_none hL3 hG
      refine ⟨_, rfl, _, rfl, sc, st, ns, 3, rfl, hsc.mor (b3.put (a := G) (o := .lst []) hGH).mor, hs3.put hG, by omega, by omega, fun c H4 c0 c1 b4 hs4 => ?_⟩
      have hG4 : H4 G = some (.lst []) := b4.get nGs upd_same
      have hM4 : H4 M = some (.lst (as.map V.ref)) := b4.get nMs (by rw [upd_ne nMG]; exact hM3)
      have hL4 : H4 L = some (.lst (xs.map V.str)) := b4.get nLs (by rw [upd_ne nLG]; exact hL3)
      have hap4 : All2 (PlotAt K H4) as ps := hap.imp fun _ _ q => (q.mor (Mor.new hG)).mor b4.mor
      have bb4 : But [st] H H4 := (b3.put (o := .lst []) hGH).trans b4
      refine ⟨_, _, rfl, rfl, _, rfl, by omega, by omega, for_range (lo := 0) (n := (1 + c).toNat) (fun i σ H' => (∃ v8 v9 v11 : Option V, σ = [some (.ref sc), some (.ref st), some (.int 3), some (.int 4), some (.int 4), some (.int (1 + n)), some (.ref L), some (.ref M), v8, v9, some (.ref G), v11, none]) ∧ But [st] H H' ∧ StAt H' st ∧ H' L = some (.lst (xs.map V.str)) ∧ H' M = some (.lst (as.map V.ref)) ∧ All2 (PlotAt K H') as ps ∧
          ∃ gl : List Addr, H' G = some (.lst (gl.map V.ref)) ∧ gl.length = i ∧ ∀ m ∈ gl, m ≠ G ∧ m ≠ st ∧ ∃ l : List Str, H' m = some (.lst (l.map V.str)) ∧ l.Sublist xs)
        ⟨⟨_, _, _, rfl⟩, bb4, hs4, hL4, hM4, hap4, [], hG4, rfl, fun m h => absurd h (by simp)⟩ (fun i σ H5 hi q => ?_) (fun σ H5 q => ?_)⟩
      · obtain ⟨⟨v8, v9, v11, rfl⟩, b5, hs5, hL5, hM5, hap5, gl, hG5, hgl, hgm⟩ := q
        refine ⟨_, rfl, .inl ⟨rfl, _, SqL.of hG5⟩, _, rfl, L, rfl, ⟨_, SqL.of hL5⟩, fun D hD => lc_list (K := K) (a := L) (xs := xs.map V.str) (fun j H' => But [st] H5 H' ∧ StAt H' st ∧ ∃ l : List Str, H' D = some (.lst (l.map V.str)) ∧ l.Sublist (xs.take j)) ⟨(But.of hs5).put hD, hs5.put hD, [], upd_same, List.nil_sublist _⟩
          (fun j H' hj q => SqL.of (q.1.get nLs hL5)) (fun j y H6 hy q => ?_) (fun H6 q => ?_)⟩
        · obtain ⟨b6, hs6, l, hD6, hl6⟩ := q
          obtain ⟨x, hx, rfl⟩ := map_get hy
          have nDs := hs5.ne hD
          have ht : xs.take (j + 1) = xs.take j ++ [x] := by rw [List.take_succ, hx]; rfl
          refine ⟨rfl, _, rfl, _, rfl, sc, st, ns, 3, rfl, (hsc.mor b5.mor).mor b6.mor, hs6, by omega, by omega, fun r H7 r0 r1 b7 hs7 => ?_⟩
          have hD7 := b7.get nDs hD6
          refine ⟨_, _, rfl, rfl, _, rfl, ite2 (fun _ => ⟨_, rfl, _, hD7, ?_, (b6.trans b7).put hD, hs7.putL nDs, l ++ [x], by rw [upd_same, List.map_append]; rfl, by rw [ht]; exact hl6.append (List.Sublist.refl _)⟩) (fun _ => ⟨b6.trans b7, hs7, l, hD7, by rw [ht]; exact hl6.trans (List.sublist_append_left _ _)⟩)⟩
          have := hl6.length_le
          rw [List.length_take] at this
          exact Nat.lt_of_lt_of_le (show _ < 1000 by rw [List.length_map]; omega) (by decide)
        · obtain ⟨b6, hs6, l, hD6, hl6⟩ := q
          rw [List.length_map, List.take_length] at hl6
          have nDs := hs5.ne hD
          have hG6 := b6.get nGs hG5
          have nDG : D ≠ G := (ne_of_none hG5 hD).symm
          have mG := Mor.lst (ys := gl.map V.ref ++ [.ref D]) hG6
          refine ⟨G, _, _, rfl, rfl, hG6, Nat.lt_of_lt_of_le (show _ < 1000 by rw [List.length_map]; omega) (by decide), ?_⟩
          refine ⟨⟨_, _, _, rfl⟩, (b5.trans b6).put hGH, hs6.putL nGs, by rw [upd_ne nLG]; exact b6.get nLs hL5, by rw [upd_ne nMG]; exact b6.get nMs hM5, hap5.imp fun _ _ q => (q.mor b6.mor).mor mG, gl ++ [D], by rw [upd_same, List.map_append]; rfl, by simp [hgl], fun m hm => ?_⟩
          rcases List.mem_append.mp hm with h | h
          · obtain ⟨n1, n2, l', h1, h2⟩ := hgm m h
            exact ⟨n1, n2, l', by rw [upd_ne n1]; exact b6.get n2 h1, h2⟩
          · have e : m = D := by simpa using h
            rw [e]
            exact ⟨nDG, nDs, l, by rw [upd_ne nDG]; exact hD6, hl6⟩
      · obtain ⟨⟨v8, v9, v11, rfl⟩, b5, hs5, hL5, hM5, hap5, gl, hG5, hgl, hgm⟩ := q
        have hgl0 : 1 ≤ gl.length := by omega
        obtain ⟨e0, g0⟩ : ∃ e, gl[0]? = some e := ⟨_, List.getElem?_eq_getElem (by omega)⟩
        obtain ⟨e1, g1⟩ : ∃ e, gl.getLast? = some e := ⟨_, List.getLast?_eq_some_getLast (by intro e; rw [e] at hgl0; simp at hgl0)⟩
        obtain ⟨e2, g2⟩ : ∃ e, gl[gl.length / 2]? = some e := ⟨_, List.getElem?_eq_getElem (by omega)⟩
        have a0 : atI (gl.map V.ref) 0 = some (.ref e0) := atI_nat (j := 0) (get_map g0)
        have a1 : atI (gl.map V.ref) (-1) = some (.ref e1) := atI_neg1 (by rw [List.getLast?_map, g1]; rfl)
        have a2 : atI (gl.map V.ref) (((gl.map V.ref).length : Int) / 2) = some (.ref e2) := by
          rw [List.length_map, show ((gl.length : Int) / 2) = ((gl.length / 2 : Nat) : Int) by omega]
          exact atI_nat (get_map g2)
        have mem0 := List.mem_of_getElem? g0
        have mem1 : e1 ∈ gl := List.mem_of_getLast? g1
        have mem2 := List.mem_of_getElem? g2
        refine ⟨_, rfl, G, _, _, _, rfl, rfl, SqL.of hG5, a0, _, rfl, _, rfl, G, _, _, _, rfl, rfl, SqL.of hG5, a1, _, rfl, _, rfl, G, _, rfl, .inl (SqL.of hG5), _, _, rfl, rfl, ⟨by decide, by decide⟩, G, _, _, _, rfl, rfl, SqL.of hG5, a2, ?_⟩
        intro y dy hy hdy hne
        refine ⟨[.ref y], [.ref e0, .ref e1, .ref e2], rfl, rfl, by show 3 ≤ sizeLine; decide, fun p hp => ?_⟩
        have hpy : p ≠ y := (ne_of_none upd_same hp).symm
        have hp2 : (upd H5 dy (.own y)) p = none := by rw [upd_ne hpy] at hp; exact hp
        have hpd : p ≠ dy := (ne_of_none upd_same hp2).symm
        have hp5 : H5 p = none := by rw [upd_ne hpd] at hp2; exact hp2
        have xm : Ext H5 (upd (upd (upd H5 dy (.own y)) y (.ins (CGates K) dy [])) p (.tup [.ref e0, .ref e1, .ref e2])) := ((Ext.upd hdy).put hy).put hp5
        refine ⟨y, dy, p, [e0, e1, e2], xs, rfl, (upd_ne hpy.symm).trans upd_same, SqT.of upd_same, by show 3 ≤ 8; decide, fun m hm => ?_, hxo, fun tg gs H6 hk hy6 hgr hgn => ⟨rfl, ?_⟩⟩
        · have hmg : m ∈ gl := by
            simp only [List.mem_cons, List.not_mem_nil, or_false] at hm
            rcases hm with rfl | rfl | rfl
            · exact mem0
            · exact mem1
            · exact mem2
          obtain ⟨_, _, l, h1, h2⟩ := hgm m hmg
          exact ⟨l, SqL.of (xm.get h1), by have := h2.length_le; omega, h2.nodup hxn, fun x hx => h2.subset hx⟩
        have x6 : Ext H5 H6 := Ext.self3 hy hdy hp5 hk
        have hM6 := x6.get hM5
        have hs6 := hs5.ext x6
        have hgates : GatesAt K H6 y gs := ⟨dy, tg, hy6, hgr⟩
        refine ⟨_, rfl, _, rfl, _, rfl, _, rfl, _, rfl, _, _, rfl, rfl, sc, st, ns, _, rfl, (hsc.mor b5.mor).mor x6.mor, hs6, by omega, by omega, fun cap H7 p0 p1 b7 hs7 => ?_⟩
        intro z dz hz hdz hnz
        have hM7 := b7.get nMs hM6
        have x8 : Ext H7 (upd (upd H7 dz (.own z)) z (.ins (CGround K) dz [])) := (Ext.upd hdz).put hz
        have m57 : Mor H5 H7 := x6.mor.trans b7.mor
        have hap7 : All2 (PlotAt K H7) as ps := hap5.imp fun _ _ q => q.mor m57
        have hpnd : (PN ps).Nodup := by rw [hpn]; exact hxn
        have hgs : ∀ g ∈ gs, ∀ q ∈ g, q ∈ PN ps := by rw [hpn]; exact hgn
        refine ⟨z, dz, M, y, as, ps, gs, cap, rfl, upd_same, .inl (SqL.of (x8.get hM7)), hap7.imp fun _ _ q => q.mor x8.mor, by omega, by omega, hpnd, (hgates.mor b7.mor).mor x8.mor, hgs, p0, by omega, fun tp tn H9 hk9 hz9 htp htn => ⟨rfl, ?_⟩⟩
        have x9 : Ext H7 H9 := Ext.self hz hdz hk9
        refine k z ps gs cap H9 (((b5.ext x6).trans b7).ext x9) (hs7.ext x9) ⟨dz, tp, tn, y, hz9, ⟨as, htp, hap7.imp fun _ _ q => q.mor x9.mor⟩, htn, (hgates.mor b7.mor).mor x9.mor⟩ ⟨by omega, by omega, hpl, hpnd, hgs, p0, by omega⟩
end
end K17


set_option maxHeartbeats 4000000
/-! K17L5: the law's weather, standing, fuller standing -/
namespace K17
open PySem PySem.Spec PyProof.Rows L2
section
variable {P : Program} {w : World} {K : PySem.W.Frag} {mg : Str → Option Value} {base : Heap}
theorem Ext.upd2 {H : Hp} {x dx C : Addr} (hx : H x = Option.none) (hd : H dx = Option.none) : Ext H (L2.upd (L2.upd H dx (.own x)) x (.ins C dx [])) := (Ext.upd hd).put hx
/-- the weather is made -/
theorem mk_weather {ms : List Addr} {n : Nat} {moods : List (List DayD)} {H : Hp} {Q : VK} {E : XK} (hms : All2 (MoodL K H) ms moods) (n1 : 1 ≤ n) (n4 : n ≤ 4) (m1 : 1 ≤ moods.length) (m4 : moods.length ≤ 4)
    (hok : ∀ ds ∈ moods, 1 ≤ ds.length ∧ ds.length ≤ 6 ∧ ∀ d ∈ ds, DayOk n moods.length d) (k : ∀ we H', Ext H H' → WeatherAt K H' we n moods → Q (.ref we) H') :
    ∀ x dx, H x = none → H dx = none → dx ≠ x → spStar (spWeatherB K) (V.ref x :: ms.map V.ref) (upd (upd H dx (.own x)) x (.ins (CWeather K) dx [])) (fun v H2 => v = .non ∧ Q (.ref x) H2) E := by
  intro x dx hx hdx hne
  refine ⟨[.ref x], ms.map V.ref, rfl, rfl, ?_, fun p hp => ?_⟩
  · have := hms.1
    rw [List.length_map]
    exact Nat.le_trans (show ms.length ≤ 1000 by omega) (by decide)
  have hpx : p ≠ x := (ne_of_none upd_same hp).symm
  have hp2 : (upd H dx (.own x)) p = none := by rw [upd_ne hpx] at hp; exact hp
  have hpd : p ≠ dx := (ne_of_none upd_same hp2).symm
  have hpH : H p = none := by rw [upd_ne hpd] at hp2; exact hp2
  have xm : Ext H (upd (upd (upd H dx (.own x)) x (.ins (CWeather K) dx [])) p (.tup (ms.map V.ref))) := (Ext.upd2 hx hdx).put hpH
  refine ⟨x, dx, p, ms, n, moods, rfl, (upd_ne hpx.symm).trans upd_same, SqT.of upd_same, hms.imp fun a b q => let ⟨xs, h1, h2⟩ := q; ⟨xs, sqL_ext xm h1, h2.imp fun _ _ q => q.mor xm.mor⟩, n1, n4, m1, m4, hok, fun tm ms' H' hk hx' htm hms' => ⟨rfl, ?_⟩⟩
  have x' : Ext H H' := Ext.self3 hx hdx hpH hk
  refine k x H' x' ⟨dx, tm, ms', hx', htm, hms'.imp fun a b q => ?_⟩
  obtain ⟨xs, h1, h2⟩ := q
  refine ⟨xs, h1, ⟨h2.1, fun i a d ha hd => ?_⟩⟩
  obtain ⟨d1, td, tr, q1, q2, q3⟩ := h2.2 i a d ha hd
  have hxm : (upd (upd (upd H dx (.own x)) x (.ins (CWeather K) dx [])) p (.tup (ms.map V.ref))) x = some (.ins (CWeather K) dx []) := (upd_ne hpx.symm).trans upd_same
  exact ⟨d1, td, tr, ins_kx hxm hk q1, sqT_kx hxm hk q2, sqT_kx hxm hk q3⟩
structure LWeather (n : Nat) (moods : List (List DayD)) : Prop where
  m1 : 1 ≤ moods.length
  m3 : moods.length ≤ 3
  dok : ∀ ds ∈ moods, 1 ≤ ds.length ∧ ds.length ≤ 6 ∧ ∀ d ∈ ds, DayOk n moods.length d
def spLWeather (K : PySem.W.Frag) : Sp := fun vs H Q _ => ∃ (sc st : Addr) (ns : List Int) (many : Nat), vs = [.ref sc, .ref st, .int many, .int 3, .int 3, .int 2] ∧ Frz K H sc (ns.map V.int) ∧ StAt H st ∧ 1 ≤ many ∧ many ≤ 4 ∧
  ∀ (we : Addr) (moods : List (List DayD)) H', But [st] H H' → StAt H' st → WeatherAt K H' we many moods → LWeather many moods → Q (.ref we) H'
theorem ok_lweather (T : Txt K mg) : Ok P w K mg base CX0 6 d_lweather (spLWeather K) := by
  have nd : (["_law_script", "_law_state", "_law_many", "_law_most_moods", "_law_most_days", "_law_most", "_law_moods", "_law_rows", "_law_mood", "_law_count", "_law_k"] : List Str).Nodup := by decide +kernel
  refine mkOk (N := ["_law_script", "_law_state", "_law_many", "_law_most_moods", "_law_most_days", "_law_most", "_law_moods", "_law_rows", "_law_mood", "_law_count", "_law_k"]) (ps := ["_law_script", "_law_state", "_law_many", "_law_most_moods", "_law_most_days", "_law_most"]) T.f_lweather b_lweather ⟨rfl, rfl, rfl, nd, rfl, by decide +kernel, by decide +kernel⟩ (fun vs H Q E h => ?_) (fun cdv A outer s0 H vs Q E hr h => ?_)
  · obtain ⟨sc, st, ns, many, rfl, _⟩ := h
    rfl
  · obtain ⟨sc, st, ns, many, rfl, hsc, hst, h1, h4, k⟩ := h
    refine ⟨_, pss_cons (ps_set (i := 6) nd rfl (Or.inr rfl) (pe_op op_add pe_int (pe_f (ok_ldraw T) T.g_ldraw (hr.mono (by decide)) pass0 (pa_cons (pv 0) (pa_cons (pv 1) (pa_cons (pv 3) pa_nil))))))
      (pss_cons (ps_set (i := 7) nd rfl (Or.inl rfl) (pe_lst pa_nil))
      (pss_cons (ps_for PassesOwn.never rfl (pi_range1 rfl T.z_range (pa_cons (pv 6) pa_nil)) (pg_name (i := 8) nd rfl (Or.inl rfl))
        (pss_cons (ps_set (i := 9) nd rfl (Or.inl rfl) (pe_op op_add pe_int (pe_f (ok_ldraw T) T.g_ldraw (hr.mono (by decide)) pass0 (pa_cons (pv 0) (pa_cons (pv 1) (pa_cons (pv 4) pa_nil))))))
        (pss_one (ps_expr (pe_bm PySem.F.plainAttrs_list PySem.F.slot_list_append PySem.F.type_list_append mt_append (pv 7) (pa_cons (pe_lc (own := [("_law_k", 10)]) (g := gName 10) (tt := tYes) rfl nd (pi_range1 rfl T.z_range (pa_cons (pv 9) pa_nil)) (blkOk_by (N := ["_law_script", "_law_state", "_law_many", "_law_most_moods", "_law_most_days", "_law_most", "_law_moods", "_law_rows", "_law_mood", "_law_count", "_law_k"]) (sc := defScope s_lweather) (by decide +kernel))
            (fun _ _ _ _ _ => pg_name (i := 10) nd rfl (Or.inl rfl)) (fun _ _ _ _ _ => pts_nil) (fun _ _ _ _ _ => pe_f (ok_lday T) T.g_lday hr pass0 (pa_cons (pv 0) (pa_cons (pv 1) (pa_cons (pv 2) (pa_cons (pv 5) (pa_cons (pv 6) pa_nil))))))) pa_nil))))))
      (pss_cons (ps_if (pt_cmpR op_eq (pv 6) pe_int (nomark _)) (pss_one (ps_ret (pe_mk (d := d_weatherI) T.mk_Weather (ok_weatherI T) T.gc_Weather (hr.mono (by decide)) pass0 (pa_cons (pe_ix ix_list (pv 7) pe_int (fun _ _ => rfl)) pa_nil)))) pss_nil)
      (pss_cons (ps_if (pt_cmpR op_eq (pv 6) pe_int (nomark _)) (pss_one (ps_ret (pe_mk (d := d_weatherI) T.mk_Weather (ok_weatherI T) T.gc_Weather (hr.mono (by decide)) pass0 (pa_cons (pe_ix ix_list (pv 7) pe_int (fun _ _ => rfl)) (pa_cons (pe_ix ix_list (pv 7) pe_int (fun _ _ => rfl)) pa_nil))))) pss_nil)
      (pss_one (ps_ret (pe_mk (d := d_weatherI) T.mk_Weather (ok_weatherI T) T.gc_Weather (hr.mono (by decide)) pass0 (pa_cons (pe_ix ix_list (pv 7) pe_int (fun _ _ => rfl)) (pa_cons (pe_ix ix_list (pv 7) pe_int (fun _ _ => rfl)) (pa_cons (pe_ix ix_list (pv 7) pe_int (fun _ _ => rfl)) pa_nil)))))))))), ?_⟩
    refine ⟨_, rfl, _, rfl, _, rfl, sc, st, ns, 3, rfl, hsc, hst, by omega, by omega, fun n H1 n0 n1 b1 hs1 => ?_⟩
    obtain ⟨mo, hmo⟩ : ∃ mo : Nat, 1 + n = (mo : Int) := ⟨(1 + n).toNat, by omega⟩
    refine ⟨_, _, rfl, rfl, Nat.zero_le _, fun R hR => ?_⟩
    have hRH : H R = none := b1.none hR
    have nRs := hst.ne hRH
    refine ⟨_, rfl, _, rfl, by omega, by omega, for_range (lo := 0) (n := (1 + n).toNat) (fun i σ H' => (∃ v8 v9 : Option V, σ = [some (.ref sc), some (.ref st), some (.int many), some (.int 3), some (.int 3), some (.int 2), some (.int (1 + n)), some (.ref R), v8, v9, none]) ∧ But [st] H H' ∧ StAt H' st ∧
        ∃ (ml : List Addr) (dd : List (List DayD)), H' R = some (.lst (ml.map V.ref)) ∧ ml.length = i ∧ All2 (fun m ds => m ≠ R ∧ m ≠ st ∧ ∃ xs : List Addr, H' m = some (.lst (xs.map V.ref)) ∧ All2 (DayAt K H') xs ds) ml dd ∧ ∀ ds ∈ dd, 1 ≤ ds.length ∧ ds.length ≤ 6 ∧ ∀ d ∈ ds, DayOk many mo d)
      ⟨⟨_, _, rfl⟩, b1.put hRH, hs1.put hR, [], [], upd_same, rfl, .nil, fun ds h => absurd h (by simp)⟩ (fun i σ H2 hi q => ?_) (fun σ H2 q => ?_)⟩
    · obtain ⟨⟨v8, v9, rfl⟩, b2, hs2, ml, dd, hR2, hml, hmd, hdd⟩ := q
      refine ⟨_, rfl, _, rfl, _, rfl, sc, st, ns, 3, rfl, hsc.mor b2.mor, hs2, by omega, by omega, fun c H3 c0 c1 b3 hs3 => ?_⟩
      have hR3 := b3.get nRs hR2
      refine ⟨_, _, rfl, rfl, _, rfl, .inl ⟨rfl, _, SqL.of hR3⟩, _, rfl, _, rfl, by omega, by omega, fun D hD => lc_range (lo := 0) (n := (1 + c).toNat) (fun j H' => But [st] H3 H' ∧ StAt H' st ∧ ∃ (xs : List Addr) (ds : List DayD), H' D = some (.lst (xs.map V.ref)) ∧ xs.length = j ∧ All2 (DayAt K H') xs ds ∧ ∀ d ∈ ds, DayOk many mo d)
        ⟨(But.of hs3).put hD, hs3.put hD, [], [], upd_same, rfl, .nil, fun d h => absurd h (by simp)⟩ (fun j H4 hj q => ?_) (fun H4 q => ?_)⟩
      · obtain ⟨b4, hs4, xs, ds, hD4, hxl, hxd, hdo⟩ := q
        have nDs := hs3.ne hD
        refine ⟨rfl, _, rfl, _, rfl, _, rfl, _, rfl, _, rfl, sc, st, ns, many, mo, 2, by show [V.ref sc, V.ref st, V.int many, V.int 2, V.int (1 + n)] = _; rw [hmo], (hsc.mor (b2.trans b3).mor).mor b4.mor, hs4, h1, h4, by omega, by omega, by omega, by omega, fun a d H5 b5 hs5 hda hdo2 => ?_⟩
        have hD5 := b5.get nDs hD4
        have mD := Mor.lst (ys := xs.map V.ref ++ [.ref a]) hD5
        refine ⟨_, hD5, Nat.lt_of_lt_of_le (show _ < 1000 by rw [List.length_map]; omega) (by decide), (b4.trans b5).put hD, hs5.putL nDs, xs ++ [a], ds ++ [d], by rw [upd_same, List.map_append]; rfl, by simp [hxl], (hxd.imp fun _ _ q => (q.mor b5.mor).mor mD).snoc (hda.mor mD), fun e he => ?_⟩
        rcases List.mem_append.mp he with h | h
        · exact hdo e h
        · have e2 : e = d := by simpa using h
          rw [e2]
          exact hdo2
      · obtain ⟨b4, hs4, xs, ds, hD4, hxl, hxd, hdo⟩ := q
        have nDs := hs3.ne hD
        have hR4 := b4.get nRs hR3
        have nDR : D ≠ R := (ne_of_none hR3 hD).symm
        have mR := Mor.lst (ys := ml.map V.ref ++ [.ref D]) hR4
        refine ⟨R, _, _, rfl, rfl, hR4, Nat.lt_of_lt_of_le (show _ < 1000 by rw [List.length_map]; omega) (by decide), ?_⟩
        refine ⟨⟨_, _, rfl⟩, ((b2.trans b3).trans b4).put hRH, hs4.putL nRs, ml ++ [D], dd ++ [ds], by rw [upd_same, List.map_append]; rfl, by simp [hml], All2.snoc (hmd.imp fun m ds q => ?_) ⟨nDR, nDs, xs, by rw [upd_ne nDR]; exact hD4, hxd.imp fun _ _ q => q.mor mR⟩, fun e he => ?_⟩
        · obtain ⟨q1, q2, zs, q3, q4⟩ := q
          exact ⟨q1, q2, zs, by rw [upd_ne q1]; exact b4.get q2 (b3.get q2 q3), q4.imp fun _ _ q => ((q.mor b3.mor).mor b4.mor).mor mR⟩
        · rcases List.mem_append.mp he with h | h
          · exact hdd e h
          · have e2 : e = ds := by simpa using h
            have := hxd.1
            rw [e2]
            exact ⟨by omega, by omega, hdo⟩
    · obtain ⟨⟨v8, v9, rfl⟩, b2, hs2, ml, dd, hR2, hml, hmd, hdd⟩ := q
      have hdl : dd.length = mo := by have := hmd.1; omega
      have hms : All2 (MoodL K H2) ml dd := hmd.imp fun m ds q => let ⟨_, _, zs, q3, q4⟩ := q; ⟨zs, SqL.of q3, q4⟩
      have hdd' : ∀ ds ∈ dd, 1 ≤ ds.length ∧ ds.length ≤ 6 ∧ ∀ d ∈ ds, DayOk many dd.length d := by rw [hdl]; exact hdd
      have fin := fun (E : XK) => mk_weather (K := K) (Q := Q) (E := E) hms h1 h4 (by omega) (by omega) hdd' fun we H' x' hw => k we dd H' (b2.ext x') (hs2.ext x') hw ⟨by omega, by omega, hdd'⟩
      have en : n = 0 ∨ n = 1 ∨ n = 2 := by omega
      rcases en with e | e | e
      · subst e
        obtain ⟨m0, rfl⟩ : ∃ m0, ml = [m0] := List.length_eq_one_iff.mp (by omega)
        refine ⟨_, rfl, rfl, _, rfl, iteT ?_⟩
        exact ⟨_, rfl, R, _, _, _, rfl, rfl, SqL.of hR2, atI_nat (j := 0) (v := V.ref m0) rfl, fin _⟩
      · subst e
        obtain ⟨m0, m1, rfl⟩ : ∃ m0 m1, ml = [m0, m1] := by
          match ml, hml with
          | [a, b], _ => exact ⟨a, b, rfl⟩
        refine ⟨_, rfl, rfl, _, rfl, iteF ?_⟩
        refine ⟨_, rfl, rfl, _, rfl, iteT ?_⟩
        exact ⟨_, rfl, R, _, _, _, rfl, rfl, SqL.of hR2, atI_nat (j := 0) (v := V.ref m0) rfl, _, rfl, R, _, _, _, rfl, rfl, SqL.of hR2, atI_nat (j := 1) (v := V.ref m1) rfl, fin _⟩
      · subst e
        obtain ⟨m0, m1, m2, rfl⟩ : ∃ m0 m1 m2, ml = [m0, m1, m2] := by
          match ml, hml with
          | [a, b, c], _ => exact ⟨a, b, c, rfl⟩
        refine ⟨_, rfl, rfl, _, rfl, iteF ?_⟩
        refine ⟨_, rfl, rfl, _, rfl, iteF ?_⟩
        exact ⟨_, rfl, R, _, _, _, rfl, rfl, SqL.of hR2, atI_nat (j := 0) (v := V.ref m0) rfl, _, rfl, R, _, _, _, rfl, rfl, SqL.of hR2, atI_nat (j := 1) (v := V.ref m1) rfl, _, rfl, R, _, _, _, rfl, rfl, SqL.of hR2, atI_nat (j := 2) (v := V.ref m2) rfl, fin _⟩
end
end K17


set_option maxHeartbeats 4000000
/-! K17L6: the law's standings -/
namespace K17
open PySem PySem.Spec PyProof.Rows L2
section
variable {P : Program} {w : World} {K : PySem.W.Frag} {mg : Str → Option Value} {base : Heap}
/-- a standing is made -/
theorem mk_stand {s : StD} {L : Addr} {H : Hp} {Q : VK} {E : XK} (hL : SqL K H L (s.levels.map V.int)) (so : StRaw s) (k : ∀ r H', Ext H H' → StandAt K H' r s → Q (.ref r) H') :
    ∀ x dx, H x = none → H dx = none → dx ≠ x → spStandI K (V.ref x :: [.ref L, .int s.tank, .int s.mood]) (upd (upd H dx (.own x)) x (.ins (CStand K) dx [])) (fun v H2 => v = .non ∧ Q (.ref x) H2) E := by
  intro x dx hx hdx hne
  have xm : Ext H (upd (upd H dx (.own x)) x (.ins (CStand K) dx [])) := Ext.upd2 hx hdx
  exact ⟨x, dx, L, s, rfl, upd_same, sqL_ext xm hL, so, fun tl H' hk hx' ht => ⟨rfl, k x H' (Ext.self hx hdx hk) ⟨dx, tl, hx', ht⟩⟩⟩
def spLStanding (K : PySem.W.Frag) : Sp := fun vs H Q _ => ∃ (sc st x : Addr) (ns : List Int) (F : Fi), vs = [.ref sc, .ref st, .ref x] ∧ Frz K H sc (ns.map V.int) ∧ StAt H st ∧ FieldAt K H x F ∧ FieldOk F ∧
  ∀ (a : Addr) (s : StD) H', But [st] H H' → StAt H' st → StandAt K H' a s → StOk F s → Q (.ref a) H'
theorem ok_lstanding (T : Txt K mg) : Ok P w K mg base CX0 5 d_lstanding (spLStanding K) := by
  have nd : (["_law_script", "_law_state", "_law_field", "_law_levels", "_law_tank", "_law_plot"] : List Str).Nodup := by decide +kernel
  refine mkOk (N := ["_law_script", "_law_state", "_law_field", "_law_levels", "_law_tank", "_law_plot"]) (ps := ["_law_script", "_law_state", "_law_field"]) T.f_lstanding b_lstanding ⟨rfl, rfl, rfl, nd, rfl, by decide +kernel, by decide +kernel⟩ (fun vs H Q E h => ?_) (fun cdv A outer s0 H vs Q E hr h => ?_)
  · obtain ⟨sc, st, x, ns, F, rfl, _⟩ := h
    rfl
  · obtain ⟨sc, st, x, ns, F, rfl, hsc, hst, ⟨fdx, gr, we, tt, am, hf, hg, hw⟩, fo, k⟩ := h
    have hg' := hg
    obtain ⟨gdx, tp, tn, gg, hgi, ⟨as, htp, hap⟩, htn, hgg⟩ := hg'
    have hw' := hw
    obtain ⟨wdx, tm, ms, hwi, htm, hms⟩ := hw'
    have hal : as.length = F.plots.length := hap.1
    have n4 := fo.n4
    refine ⟨_, pss_cons (ps_setLc (i := 3) (own := [("_law_plot", 5)]) (g := gName 5) (tt := tYes) rfl nd rfl rfl (sw_true rfl rfl rfl (by decide +kernel)) (pi_tup (pe_fld (pe_fld (pv 2) rfl) rfl)) (blkOk_by (N := ["_law_script", "_law_state", "_law_field", "_law_levels", "_law_tank", "_law_plot"]) (sc := defScope s_lstanding) (by decide +kernel))
        (fun _ _ _ _ _ => pg_name (i := 5) nd rfl (Or.inl rfl)) (fun _ _ _ _ _ => pts_nil) (fun _ _ _ _ _ => pe_f (ok_ldraw T) T.g_ldraw (hr.mono (by decide)) pass0 (pa_cons (pv 0) (pa_cons (pv 1) (pa_cons (pe_op op_add (pe_fldK K (pv 5) rfl) pe_int) pa_nil)))))
      (pss_cons (ps_set (i := 4) nd rfl (Or.inl rfl) (pe_f (ok_ldraw T) T.g_ldraw (hr.mono (by decide)) pass0 (pa_cons (pv 0) (pa_cons (pv 1) (pa_cons (pe_op op_add (pe_pr (d := d_capG) (pe_fld (pv 2) rfl) T.c_Ground T.p_cap (ok_capG T) (hr.mono (by decide)) pass0) pe_int) pa_nil)))))
      (pss_one (ps_ret (pe_mk (d := d_standI) T.mk_Standing (ok_standI T) T.gc_Standing hr pass0 (pa_cons (pv 3) (pa_cons (pv 4) (pa_cons (pe_f (ok_ldraw T) T.g_ldraw (hr.mono (by decide)) pass0 (pa_cons (pv 0) (pa_cons (pv 1) (pa_cons (pe_b (call_lenO (d := d_weatherLen) T.m_weatherLen (ok_wlen T) (hr.mono (by decide)) pass0) T.z_len (pa_cons (pe_fld (pv 2) rfl) pa_nil)) pa_nil)))) pa_nil))))))), ?_⟩
    refine ⟨_, rfl, x, _, fdx, _, _, rfl, hf, T.c_Field, T.n_Field_ground, lk_Field_ground, gr, _, gdx, _, _, rfl, hgi, T.c_Ground, T.n_Ground_plots, lk_Ground_plots, tp, rfl, ⟨_, htp⟩, fun D hD => lc_tup (K := K) (a := tp) (xs := as.map V.ref) (fun i H' => But [st] H H' ∧ StAt H' st ∧ ∃ acc : List Int, H' D = some (.lst (acc.map V.int)) ∧ acc.length = i ∧ ∀ j, j < i → 0 ≤ iv acc j ∧ iv acc j ≤ holdAt F.plots j)
      ⟨(But.of hst).put hD, hst.put hD, [], upd_same, rfl, fun j h => by omega⟩ (fun i H' hi q => sqT_mor q.1.mor htp) (fun i y H' hy q => ?_) (fun H' q => ?_)⟩
    · obtain ⟨bb, hs, acc, hDa, hal2, hac⟩ := q
      obtain ⟨a, ha, rfl⟩ := map_get hy
      obtain ⟨pl, hpl, pdx, hpa⟩ := hap.get' ha
      have nDs := hst.ne hD
      have hpb := fo.pl pl (List.mem_of_getElem? hpl)
      have hi' : i < F.plots.length := (List.getElem?_eq_some_iff.mp hpl).1
      refine ⟨rfl, _, rfl, _, rfl, _, rfl, a, _, pdx, _, _, rfl, ins_mor bb.mor hpa, T.c_Plot, T.n_Plot_hold, lk_Plot_hold, _, _, rfl, rfl, sc, st, ns, _, rfl, hsc.mor bb.mor, hs, by omega, by omega, fun n H2 n0 n1 b2 hs2 => ⟨_, b2.get nDs hDa, Nat.lt_of_lt_of_le (show _ < 1000 by rw [List.length_map]; omega) (by decide), ?_⟩⟩
      refine ⟨(bb.trans b2).put hD, hs2.putL nDs, acc ++ [n], by rw [upd_same, List.map_append]; rfl, by simp [hal2], fun j hj => ?_⟩
      by_cases e : j < acc.length
      · have e2 : iv (acc ++ [n]) j = iv acc j := iv_of (by rw [List.getElem?_append_left e]; exact iv_get e)
        rw [e2]
        exact hac j (by omega)
      · have ej : j = i := by omega
        subst ej
        have e2 : iv (acc ++ [n]) j = n := iv_of (by rw [List.getElem?_append_right (by omega), show j - acc.length = 0 by omega]; rfl)
        rw [e2, holdAt_some hpl]
        omega
    · obtain ⟨bb, hs, acc, hDa, hal2, hac⟩ := q
      have nDs := hst.ne hD
      rw [List.length_map] at hal2 hac
      have m1 := bb.mor
      have c0 := fo.c0
      have c8 := fo.c8
      refine ⟨_, rfl, _, rfl, _, rfl, x, _, fdx, _, _, rfl, ins_mor m1 hf, T.c_Field, T.n_Field_ground, lk_Field_ground, gr, gdx, _, rfl, ins_mor m1 hgi, gr, F.plots, F.groups, F.cap, rfl, hg.mor m1, _, _, rfl, rfl, sc, st, ns, _, rfl, hsc.mor m1, hs, by omega, by omega, fun tk H2 t0 t1 b2 hs2 => ?_⟩
      have m2 := m1.trans b2.mor
      have hm1 := fo.m1
      have hm4 := fo.m4
      refine ⟨_, rfl, _, rfl, _, rfl, _, rfl, _, rfl, x, _, fdx, _, _, rfl, ins_mor m2 hf, T.c_Field, T.n_Field_weather, lk_Field_weather, we, wdx, _, rfl, ins_mor m2 hwi, we, F.plots.length, F.moods, rfl, hw.mor m2, _, rfl, ⟨by omega, by omega⟩, sc, st, ns, _, rfl, hsc.mor m2, hs2, by omega, by omega, fun mo H3 o0 o1 b3 hs3 => ?_⟩
      have so : StOk F ⟨acc, tk, mo⟩ := ⟨by show acc.length = _; omega, fun i hi => hac i (by omega), t0, by show tk ≤ _; omega, o0, o1⟩
      exact mk_stand (K := K) (s := ⟨acc, tk, mo⟩) (SqL.of (b3.get nDs (b2.get nDs hDa))) (so.raw fo) fun r H' x' hr' => k r _ H' (((bb.trans b2).trans b3).ext x') (hs3.ext x') hr' so
def spLFuller (K : PySem.W.Frag) : Sp := fun vs H Q _ => ∃ (sc st x b : Addr) (ns : List Int) (F : Fi) (s : StD), vs = [.ref sc, .ref st, .ref x, .ref b] ∧ Frz K H sc (ns.map V.int) ∧ StAt H st ∧ FieldAt K H x F ∧ FieldOk F ∧ StandAt K H b s ∧ StOk F s ∧
  ∀ (a : Addr) (t : StD) H', But [st] H H' → StAt H' st → StandAt K H' a t → StOk F t → LeS s t → Q (.ref a) H'
theorem ok_lfuller (T : Txt K mg) : Ok P w K mg base CX0 5 d_lfuller (spLFuller K) := by
  have nd : (["_law_script", "_law_state", "_law_field", "_law_start_here", "_law_levels", "_law_at", "_law_plot", "_law_more", "_law_tank"] : List Str).Nodup := by decide +kernel
  refine mkOk (N := ["_law_script", "_law_state", "_law_field", "_law_start_here", "_law_levels", "_law_at", "_law_plot", "_law_more", "_law_tank"]) (ps := ["_law_script", "_law_state", "_law_field", "_law_start_here"]) T.f_lfuller b_lfuller ⟨rfl, rfl, rfl, nd, rfl, by decide +kernel, by decide +kernel⟩ (fun vs H Q E h => ?_) (fun cdv A outer s0 H vs Q E hr h => ?_)
  · obtain ⟨sc, st, x, b, ns, F, s, rfl, _⟩ := h
    rfl
  · obtain ⟨sc, st, x, b, ns, F, s, rfl, hsc, hst, ⟨fdx, gr, we, tt, am, hf, hg, hw⟩, fo, ⟨sdx, tl, hsi, htl⟩, so, k⟩ := h
    have hg' := hg
    obtain ⟨gdx, tp, tn, gg, hgi, ⟨as, htp, hap⟩, htn, hgg⟩ := hg'
    have hal : as.length = F.plots.length := hap.1
    have n4 := fo.n4
    have sln := so.ln
    refine ⟨_, pss_cons (ps_set (i := 4) nd rfl (Or.inl rfl) (pe_lst pa_nil))
      (pss_cons (ps_for PassesOwn.never rfl (pi_enumT T.z_enumerate (pa_cons (pe_fld (pe_fld (pv 2) rfl) rfl) pa_nil)) (pg_tup rfl (pgs_cons (pg_name (i := 5) nd rfl (Or.inl rfl)) (pgs_cons (pg_name (i := 6) nd rfl (Or.inl rfl)) pgs_nil)))
        (pss_cons (ps_set (i := 7) nd rfl (Or.inl rfl) (pe_op op_add (pe_ix ix_tup (pe_fld (pv 3) rfl) (pv 5) (fun _ _ => rfl)) (pe_f (ok_ldraw T) T.g_ldraw (hr.mono (by decide)) pass0 (pa_cons (pv 0) (pa_cons (pv 1) (pa_cons pe_int pa_nil))))))
        (pss_one (ps_expr (pe_bm PySem.F.plainAttrs_list PySem.F.slot_list_append PySem.F.type_list_append mt_append (pv 4) (pa_cons (pe_b (call_min2I rfl) T.z_min (pa_cons (pe_ty call_intI T.z_int (pa_cons (pe_fld (pv 6) rfl) pa_nil)) (pa_cons (pe_ty call_intI T.z_int (pa_cons (pv 7) pa_nil)) pa_nil))) pa_nil))))))
      (pss_cons (ps_set (i := 8) nd rfl (Or.inl rfl) (pe_op op_add (pe_fld (pv 3) rfl) (pe_f (ok_ldraw T) T.g_ldraw (hr.mono (by decide)) pass0 (pa_cons (pv 0) (pa_cons (pv 1) (pa_cons pe_int pa_nil))))))
      (pss_one (ps_ret (pe_mk (d := d_standI) T.mk_Standing (ok_standI T) T.gc_Standing hr pass0 (pa_cons (pv 4) (pa_cons (pe_b (call_min2I rfl) T.z_min (pa_cons (pe_ty call_intI T.z_int (pa_cons (pe_pr (d := d_capG) (pe_fld (pv 2) rfl) T.c_Ground T.p_cap (ok_capG T) (hr.mono (by decide)) pass0) pa_nil)) (pa_cons (pe_ty call_intI T.z_int (pa_cons (pv 8) pa_nil)) pa_nil))) (pa_cons (pe_fld (pv 3) rfl) pa_nil)))))))), ?_⟩
    refine ⟨Nat.zero_le _, fun L hL => ?_⟩
    have x0 : Ext H (upd H L (.lst [])) := Ext.upd hL
    have nLs := hst.ne hL
    refine ⟨_, rfl, x, _, fdx, _, _, rfl, x0.get hf, T.c_Field, T.n_Field_ground, lk_Field_ground, gr, _, gdx, _, _, rfl, x0.get hgi, T.c_Ground, T.n_Ground_plots, lk_Ground_plots, tp, _, rfl, sqT_mor x0.mor htp, for_it (walk_enumT (xs := as.map V.ref)) (fun i σ H' => (∃ v5 v6 v7 : Option V, σ = [some (.ref sc), some (.ref st), some (.ref x), some (.ref b), some (.ref L), v5, v6, v7, none]) ∧ But [st] H H' ∧ StAt H' st ∧ ∃ acc : List Int, H' L = some (.lst (acc.map V.int)) ∧ acc.length = i ∧ ∀ j, j < i → iv s.levels j ≤ iv acc j ∧ iv acc j ≤ holdAt F.plots j)
      ⟨⟨_, _, _, rfl⟩, (But.of hst).put hL, hst.put hL, [], upd_same, rfl, fun j h => by omega⟩ (fun i σ H' hi q => sqT_mor q.2.1.mor htp) (fun i y σ H3 H4 hi q yy => ?_) (fun σ H3 q => ?_)⟩
    · obtain ⟨⟨v5, v6, v7, rfl⟩, b3, hs3, acc, hL3, hac, hacc⟩ := q
      obtain ⟨u, p, r, rfl, hu, rfl, ea, eb⟩ := yy
      obtain rfl := Option.some.inj ea
      obtain ⟨a, ha, rfl⟩ := map_get eb
      obtain ⟨pl, hpl, pdx, hpa⟩ := hap.get' ha
      have hi' : i < F.plots.length := (List.getElem?_eq_some_iff.mp hpl).1
      have b4 := b3.put (o := .tup [.int (i : Nat), .ref a]) (b3.none hu)
      have hs4 := hs3.put (o := .tup [.int (i : Nat), .ref a]) hu
      have hL4 : (upd H3 u (.tup [.int (i : Nat), .ref a])) L = some (.lst (acc.map V.int)) := by rw [upd_ne (ne_of_none hL3 hu)]; exact hL3
      have hlv := so.lv i hi'
      rw [holdAt_some hpl] at hlv
      refine ⟨u, _, rfl, SqT.of upd_same, rfl, _, _, rfl, _, _, rfl, rfl, _, rfl, b, _, sdx, _, _, rfl, ins_mor b4.mor hsi, T.c_Standing, T.n_Standing_levels, lk_Stand_levels, _, rfl, tl, _, _, _, rfl, rfl, sqT_mor b4.mor htl, atI_get (get_map (iv_get (by omega))), _, rfl, _, rfl, sc, st, ns, 3, rfl, hsc.mor b4.mor, hs4, by omega, by omega, fun n H5 n0 n1 b5 hs5 => ?_⟩
      have hL5 := b5.get nLs hL4
      refine ⟨_, _, rfl, rfl, _, rfl, .inl ⟨rfl, _, SqL.of hL5⟩, _, rfl, a, _, pdx, _, _, rfl, ins_mor b5.mor (ins_mor b4.mor hpa), T.c_Plot, T.n_Plot_hold, lk_Plot_hold, _, rfl, _, rfl, _, rfl, _, _, rfl, L, _, _, rfl, rfl, hL5, Nat.lt_of_lt_of_le (show _ < 1000 by rw [List.length_map]; omega) (by decide), ?_⟩
      refine ⟨⟨_, _, _, rfl⟩, (b4.trans b5).put hL, hs5.putL nLs, acc ++ [min pl.hold (iv s.levels i + n)], by rw [upd_same, List.map_append]; rfl, by simp [hac], fun j hj => ?_⟩
      by_cases e : j < acc.length
      · have e2 : iv (acc ++ [min pl.hold (iv s.levels i + n)]) j = iv acc j := iv_of (by rw [List.getElem?_append_left e]; exact iv_get e)
        rw [e2]
        exact hacc j (by omega)
      · have ej : j = i := by omega
        subst ej
        have e2 : iv (acc ++ [min pl.hold (iv s.levels j + n)]) j = min pl.hold (iv s.levels j + n) := iv_of (by rw [List.getElem?_append_right (by omega), show j - acc.length = 0 by omega]; rfl)
        rw [e2, holdAt_some hpl]
        omega
    · obtain ⟨⟨v5, v6, v7, rfl⟩, b3, hs3, acc, hL3, hac, hacc⟩ := q
      rw [List.length_map, hal] at hac hacc
      refine ⟨_, rfl, b, _, sdx, _, _, rfl, ins_mor b3.mor hsi, T.c_Standing, T.n_Standing_tank, lk_Stand_tank, _, rfl, _, rfl, sc, st, ns, 3, rfl, hsc.mor b3.mor, hs3, by omega, by omega, fun n H5 n0 n1 b5 hs5 => ?_⟩
      have m5 := b3.mor.trans b5.mor
      have t0 := so.t0
      have tc := so.tc
      have lvo : ∀ i, i < F.plots.length → 0 ≤ iv s.levels i := fun i hi => (so.lv i hi).1
      have so2 : StOk F ⟨acc, min F.cap (s.tank + n), s.mood⟩ := ⟨hac, fun i hi => ⟨Int.le_trans (lvo i hi) (hacc i hi).1, (hacc i hi).2⟩, by show 0 ≤ min _ _; omega, by show min _ _ ≤ _; omega, so.m0, so.mm⟩
      have le : LeS s ⟨acc, min F.cap (s.tank + n), s.mood⟩ := ⟨rfl, by show _ = acc.length; omega, fun i => by
        show iv s.levels i ≤ iv acc i
        by_cases hi : i < F.plots.length
        · exact (hacc i hi).1
        · rw [iv_out (by omega), iv_out (by omega)]
          exact Int.le_refl _, by show _ ≤ min _ _; omega⟩
      refine ⟨_, _, rfl, rfl, _, rfl, _, rfl, x, _, fdx, _, _, rfl, ins_mor m5 hf, T.c_Field, T.n_Field_ground, lk_Field_ground, gr, gdx, _, rfl, ins_mor m5 hgi, gr, F.plots, F.groups, F.cap, rfl, hg.mor m5, _, rfl, _, rfl, _, rfl, _, _, rfl, _, rfl, b, _, sdx, _, _, rfl, ins_mor m5 hsi, T.c_Standing, T.n_Standing_mood, lk_Stand_mood, ?_⟩
      exact mk_stand (K := K) (s := ⟨acc, min F.cap (s.tank + n), s.mood⟩) (SqL.of (b5.get nLs hL3)) (so2.raw fo) fun r H' x' hr' => k r _ H' ((b3.trans b5).ext x') (hs5.ext x') hr' so2 le
end
end K17


set_option maxHeartbeats 4000000
/-! K17L7: the law's choices, a day after, the walk -/
namespace K17
open PySem PySem.Spec PyProof.Rows L2
/-- the days may be taken one behind another, from mood m to mood m' -/
def chain (F : Fi) (m : Int) : List Nat → Int → Prop
  | [], m' => m' = m
  | k :: ks, m' => ∃ ds d, F.moods[m.toNat]? = some ds ∧ ds[k]? = some d ∧ chain F d.mood ks m'
theorem chain_snoc {F : Fi} {ds : List DayD} {d : DayD} {k : Nat} : ∀ {ks : List Nat} {m m' : Int}, chain F m ks m' → F.moods[m'.toNat]? = some ds → ds[k]? = some d → chain F m (ks ++ [k]) d.mood
  | [], m, m', h, h1, h2 => by
    have e : m' = m := h
    subst e
    exact ⟨ds, d, h1, h2, rfl⟩
  | j :: ks, m, m', h, h1, h2 => by
    obtain ⟨ds', d', q1, q2, q3⟩ := h
    exact ⟨ds', d', q1, q2, chain_snoc q3 h1 h2⟩
section
variable {P : Program} {w : World} {K : PySem.W.Frag} {mg : Str → Option Value} {base : Heap}
abbrev intsN (ks : List Nat) : List V := ks.map fun k : Nat => V.int k
def spLChoices (K : PySem.W.Frag) : Sp := fun vs H Q _ => ∃ (sc st x : Addr) (ns : List Int) (F : Fi) (mood : Int), vs = [.ref sc, .ref st, .ref x, .int mood] ∧ Frz K H sc (ns.map V.int) ∧ StAt H st ∧ FieldAt K H x F ∧ FieldOk F ∧ 0 ≤ mood ∧ mood < F.moods.length ∧
  ∀ (t TU DA : Addr) (tt : List Addr) (tus : List (List Str)) (ks : List Nat) (m' : Int) H', But [st] H H' → StAt H' st → SqT K H' t [.ref TU, .ref DA] → H TU = none → H DA = none → H' TU = some (.lst (tt.map V.ref)) → H' DA = some (.lst (intsN ks)) → TU ≠ DA → All2 (NamesT K H') tt tus → tus.length = ks.length → ks.length ≤ 30 →
    (∀ tu ∈ tus, TurnOk F.plots F.groups tu) → chain F mood ks m' → Q (.ref t) H'
theorem ok_lchoices (T : Txt K mg) : Ok P w K mg base CX0 5 d_lchoices (spLChoices K) := by
  have nd : (["_law_script", "_law_state", "_law_field", "_law_mood", "_law_allowed", "_law_turns", "_law_days", "_law_k"] : List Str).Nodup := by decide +kernel
  refine mkOk (N := ["_law_script", "_law_state", "_law_field", "_law_mood", "_law_allowed", "_law_turns", "_law_days", "_law_k"]) (ps := ["_law_script", "_law_state", "_law_field", "_law_mood"]) T.f_lchoices b_lchoices ⟨rfl, rfl, rfl, nd, rfl, by decide +kernel, by decide +kernel⟩ (fun vs H Q E h => ?_) (fun cdv A outer s0 H vs Q E hr h => ?_)
  · obtain ⟨sc, st, x, ns, F, mood, rfl, _⟩ := h
    rfl
  · obtain ⟨sc, st, x, ns, F, mood, rfl, hsc, hst, ⟨fdx, gr, we, tt0, am, hf, hg, hw⟩, fo, mo0, mo1, k⟩ := h
    have hg' := hg
    obtain ⟨gdx, tp, tn, gg, hgi, htp, htn, hgg⟩ := hg'
    refine ⟨_, pss_cons (ps_set (i := 4) nd rfl (Or.inl rfl) (pe_m0 (d := d_turns) (pe_fld (pv 2) rfl) T.c_Ground T.m_turns (ok_turns T) (hr.mono (by decide)) pass0))
      (pss_cons (ps_set (i := 5) nd rfl (Or.inl rfl) (pe_lst pa_nil))
      (pss_cons (ps_set (i := 6) nd rfl (Or.inl rfl) (pe_lst pa_nil))
      (pss_cons (ps_for PassesOwn.never rfl (pi_range1 rfl T.z_range (pa_cons (pe_f (ok_ldraw T) T.g_ldraw (hr.mono (by decide)) pass0 (pa_cons (pv 0) (pa_cons (pv 1) (pa_cons pe_int pa_nil)))) pa_nil)) (pg_name (i := 7) nd rfl (Or.inl rfl))
        (pss_cons (ps_expr (pe_bm PySem.F.plainAttrs_list PySem.F.slot_list_append PySem.F.type_list_append mt_append (pv 5) (pa_cons (pe_ix ix_list (pv 4) (pe_f (ok_ldraw T) T.g_ldraw (hr.mono (by decide)) pass0 (pa_cons (pv 0) (pa_cons (pv 1) (pa_cons (pe_b call_len_seq T.z_len (pa_cons (pv 4) pa_nil)) pa_nil)))) (fun _ _ => rfl)) pa_nil)))
        (pss_cons (ps_expr (pe_bm PySem.F.plainAttrs_list PySem.F.slot_list_append PySem.F.type_list_append mt_append (pv 6) (pa_cons (pe_f (ok_ldraw T) T.g_ldraw (hr.mono (by decide)) pass0 (pa_cons (pv 0) (pa_cons (pv 1) (pa_cons (pe_b call_len_seq T.z_len (pa_cons (pe_getO (d := d_weatherGet) (pe_fld (pv 2) rfl) (pv 3) T.m_weatherGet T.fnGet (ok_wget T) hr pass0) pa_nil)) pa_nil)))) pa_nil)))
        (pss_one (ps_set (i := 3) nd rfl (Or.inl rfl) (pe_fld (pe_ix ix_tup (pe_getO (d := d_weatherGet) (pe_fld (pv 2) rfl) (pv 3) T.m_weatherGet T.fnGet (ok_wget T) hr pass0) (pe_ix ix_list (pv 6) (pe_un un_neg pe_int) (fun _ _ => rfl)) (fun _ _ => rfl)) rfl))))))
      (pss_one (ps_ret (pe_tup (pa_cons (pv 5) (pa_cons (pv 6) pa_nil)))))))), ?_⟩
    refine ⟨_, rfl, x, _, fdx, _, _, rfl, hf, T.c_Field, T.n_Field_ground, lk_Field_ground, gr, gdx, _, rfl, hgi, by kernel_rfl, gr, F.plots, F.groups, F.cap, rfl, hg, fo.n1, fo.n4, fun AL ats atus H1 x1 hALn hAL hat a1 a16 hatk => ?_⟩
    refine ⟨Nat.zero_le _, fun TU hTU => ⟨Nat.zero_le _, fun DA hDA => ?_⟩⟩
    have nTD : TU ≠ DA := (ne_of_none upd_same hDA)
    have hDA1 : H1 DA = none := by rw [upd_ne nTD.symm] at hDA; exact hDA
    have hTUH := x1.none hTU
    have hDAH := x1.none hDA1
    have nTs := hst.ne hTUH
    have nDs := hst.ne hDAH
    have nAs := hst.ne hALn
    have nAT : AL ≠ TU := ne_of_none hAL hTU
    have nAD : AL ≠ DA := ne_of_none hAL hDA1
    have hs1 := (hst.ext x1)
    have x3 : Ext H (upd (upd H1 TU (.lst [])) DA (.lst [])) := (x1.put hTUH).put hDAH
    have hs3 : StAt (upd (upd H1 TU (.lst [])) DA (.lst [])) st := (hs1.put hTU).put hDA
    have m13 : Mor H1 (upd (upd H1 TU (.lst [])) DA (.lst [])) := (Mor.new hTU).trans (Mor.new hDA)
    refine ⟨_, rfl, _, rfl, sc, st, ns, 31, rfl, hsc.mor x3.mor, hs3, by omega, by omega, fun cnt H4 c0 c1 b4 hs4 => ?_⟩
    have bb4 : But [st] H H4 := ⟨fun a o n q => b4.keep a o n (x3.get q), fun c m => ⟨by
      have e : c = st := by simpa using m
      rw [e]
      exact hst.lst, (b4.lsts c m).2⟩⟩
    refine ⟨_, rfl, by omega, by omega, for_range (lo := 0) (n := cnt.toNat) (fun i σ H' => (∃ (m : Int) (v7 : Option V), σ = [some (.ref sc), some (.ref st), some (.ref x), some (.int m), some (.ref AL), some (.ref TU), some (.ref DA), v7] ∧ 0 ≤ m ∧ m < F.moods.length ∧
          ∃ (tt : List Addr) (tus : List (List Str)) (ks : List Nat), H' TU = some (.lst (tt.map V.ref)) ∧ H' DA = some (.lst (intsN ks)) ∧ All2 (NamesT K H') tt tus ∧ tus.length = i ∧ ks.length = i ∧ (∀ tu ∈ tus, TurnOk F.plots F.groups tu) ∧ chain F mood ks m) ∧ But [st] H H' ∧ StAt H' st ∧ H' AL = some (.lst (ats.map V.ref)) ∧ All2 (NamesT K H') ats atus)
      ⟨⟨mood, _, rfl, mo0, mo1, [], [], [], b4.get nTs (by rw [upd_ne nTD, upd_same]; rfl), b4.get nDs upd_same, .nil, rfl, rfl, fun tu h => absurd h (by simp), rfl⟩, bb4, hs4, b4.get nAs (by rw [upd_ne nAD, upd_ne nAT]; exact hAL), hat.imp fun _ _ q => sqT_mor b4.mor (sqT_mor m13 q)⟩ (fun i σ H5 hi q => ?_) (fun σ H5 q => ?_)⟩
    · obtain ⟨⟨m, v7, rfl, m0, m1, tt, tus, ks, hT5, hD5, htt, htl, hkl, htk, hch⟩, b5, hs5, hA5, hat5⟩ := q
      have hal := hat5.1
      have htl2 := htt.1
      have hALpos : (0 : Int) < ((ats.map V.ref).length : Int) := by rw [List.length_map]; omega
      refine ⟨_, rfl, .inl ⟨rfl, _, SqL.of hT5⟩, _, rfl, _, rfl, _, rfl, _, rfl, AL, _, rfl, .inl (SqL.of hA5), sc, st, ns, _, rfl, hsc.mor b5.mor, hs5, hALpos, by rw [List.length_map]; omega, fun r H6 r0 r1 b6 hs6 => ?_⟩
      obtain ⟨rn, rfl⟩ : ∃ rn : Nat, r = rn := ⟨r.toNat, by omega⟩
      rw [List.length_map] at r1
      have hrl : rn < ats.length := by omega
      have ga : ats[rn]? = some ats[rn] := List.getElem?_eq_getElem hrl
      obtain ⟨tu, htu, hnt⟩ := hat5.get' ga
      have hT6 := b6.get nTs hT5
      refine ⟨AL, _, _, _, rfl, rfl, SqL.of (b6.get nAs hA5), atI_nat (get_map ga), TU, _, _, rfl, rfl, hT6, Nat.lt_of_lt_of_le (show _ < 1000 by rw [List.length_map]; omega) (by decide), ?_⟩
      have mT := Mor.lst (ys := tt.map V.ref ++ [.ref ats[rn]]) hT6
      have b7 : But [st] H (upd H6 TU (.lst (tt.map V.ref ++ [.ref ats[rn]]))) := (b5.trans b6).put hTUH
      have m57 : Mor H5 (upd H6 TU (.lst (tt.map V.ref ++ [.ref ats[rn]]))) := b6.mor.trans mT
      have hs7 := hs6.putL (o := .lst (tt.map V.ref ++ [.ref ats[rn]])) nTs
      have hD7 : (upd H6 TU (.lst (tt.map V.ref ++ [.ref ats[rn]]))) DA = some (.lst (intsN ks)) := by rw [upd_ne nTD.symm]; exact b6.get nDs hD5
      have hT7 : (upd H6 TU (.lst (tt.map V.ref ++ [.ref ats[rn]]))) TU = some (.lst ((tt ++ [ats[rn]]).map V.ref)) := by rw [upd_same, List.map_append]; rfl
      have hA7 : (upd H6 TU (.lst (tt.map V.ref ++ [.ref ats[rn]]))) AL = some (.lst (ats.map V.ref)) := by rw [upd_ne nAT]; exact b6.get nAs hA5
      revert mT b7 m57 hs7 hD7 hT7 hA7
      generalize (upd H6 TU (.lst (tt.map V.ref ++ [.ref ats[rn]]))) = H7
      intro mT b7 m57 hs7 hD7 hT7 hA7
      obtain ⟨mn, rfl⟩ : ∃ mn : Nat, m = mn := ⟨m.toNat, by omega⟩
      have hmn : mn < F.moods.length := by omega
      have gm : F.moods[mn]? = some F.moods[mn] := List.getElem?_eq_getElem hmn
      have hdsm := fo.d1 _ (List.getElem_mem hmn)
      have hw7 : WeatherAt K H7 we F.plots.length F.moods := hw.mor b7.mor
      have hw7' := hw7
      obtain ⟨wdx, tm, ms, hwi, htm, hms⟩ := hw7'
      refine ⟨_, rfl, .inl ⟨rfl, _, SqL.of hD7⟩, _, rfl, _, rfl, _, rfl, x, _, fdx, _, _, rfl, ins_mor b7.mor hf, T.c_Field, T.n_Field_weather, lk_Field_weather, _, rfl, we, wdx, _, rfl, hwi, we, mn, F.plots.length, F.moods, _, rfl, hw7, gm, fun mm hmm => ?_⟩
      obtain ⟨xs, hxs, hxd⟩ := hmm
      have hxl : xs.length = F.moods[mn].length := hxd.1
      refine ⟨mm, _, rfl, .inr hxs, sc, st, ns, _, rfl, hsc.mor b7.mor, hs7, by rw [List.length_map]; omega, by rw [List.length_map]; omega, fun dk H8 d0 d1 b8 hs8 => ?_⟩
      obtain ⟨dn, rfl⟩ : ∃ dn : Nat, dk = dn := ⟨dk.toNat, by omega⟩
      rw [List.length_map] at d1
      have hdn : dn < F.moods[mn].length := by omega
      have gd : F.moods[mn][dn]? = some F.moods[mn][dn] := List.getElem?_eq_getElem hdn
      have dok := fo.dok _ (List.getElem_mem hmn) _ (List.getElem_mem hdn)
      have hD8 := b8.get nDs hD7
      refine ⟨DA, _, _, rfl, rfl, hD8, Nat.lt_of_lt_of_le (show _ < 1000 by rw [List.length_map]; omega) (by decide), ?_⟩
      have mD := Mor.lst (ys := intsN ks ++ [.int dn]) hD8
      have b9 : But [st] H (upd H8 DA (.lst (intsN ks ++ [.int dn]))) := (b7.trans b8).put hDAH
      have m79 : Mor H7 (upd H8 DA (.lst (intsN ks ++ [.int dn]))) := b8.mor.trans mD
      have hs9 := hs8.putL (o := .lst (intsN ks ++ [.int dn])) nDs
      have hD9 : (upd H8 DA (.lst (intsN ks ++ [.int dn]))) DA = some (.lst (intsN (ks ++ [dn]))) := by
        rw [upd_same]
        unfold intsN
        rw [List.map_append]
        rfl
      have hT9 : (upd H8 DA (.lst (intsN ks ++ [.int dn]))) TU = some (.lst ((tt ++ [ats[rn]]).map V.ref)) := by rw [upd_ne nTD]; exact b8.get nTs hT7
      have hA9 : (upd H8 DA (.lst (intsN ks ++ [.int dn]))) AL = some (.lst (ats.map V.ref)) := by rw [upd_ne nAD]; exact b8.get nAs hA7
      revert mD b9 m79 hs9 hD9 hT9 hA9
      generalize (upd H8 DA (.lst (intsN ks ++ [.int dn]))) = H9
      intro mD b9 m79 hs9 hD9 hT9 hA9
      have hw9 := hw7.mor m79
      have hw9' := hw9
      obtain ⟨wdx9, tm9, ms9, hwi9, htm9, hms9⟩ := hw9'
      refine ⟨_, rfl, x, _, fdx, _, _, rfl, ins_mor b9.mor hf, T.c_Field, T.n_Field_weather, lk_Field_weather, _, rfl, we, wdx9, _, rfl, hwi9, we, mn, F.plots.length, F.moods, _, rfl, hw9, gm, fun mm9 hmm9 => ?_⟩
      obtain ⟨xs9, hxs9, hxd9⟩ := hmm9
      obtain ⟨da, hda, ddx, td, tr, hdi, htd, htr⟩ := hxd9.get gd
      have hlast : atI (intsN (ks ++ [dn])) (-1) = some (.int dn) := by
        unfold intsN
        rw [List.map_append]
        exact atI_last _ _
      refine ⟨_, rfl, _, rfl, DA, _, _, _, rfl, rfl, SqL.of hD9, hlast, mm9, _, _, _, rfl, rfl, hxs9, atI_get (get_map hda), da, _, ddx, _, _, rfl, hdi, T.c_Day, T.n_Day_mood, lk_Day_mood, ?_⟩
      refine ⟨⟨F.moods[mn][dn].mood, _, rfl, dok.m0, dok.mm, tt ++ [ats[rn]], tus ++ [tu], ks ++ [dn], hT9, hD9, (htt.imp fun _ _ q => sqT_mor m79 (sqT_mor m57 q)).snoc (sqT_mor m79 (sqT_mor m57 hnt)), by simp [htl], by simp [hkl], fun z hz => ?_, chain_snoc hch gm gd⟩, b9, hs9, hA9, hat5.imp fun _ _ q => sqT_mor m79 (sqT_mor m57 q)⟩
      rcases List.mem_append.mp hz with h | h
      · exact htk z h
      · have e : z = tu := by simpa using h
        rw [e]
        exact hatk tu (List.mem_of_getElem? htu)
    · obtain ⟨⟨m, v7, rfl, m0, m1, tt, tus, ks, hT5, hD5, htt, htl, hkl, htk, hch⟩, b5, hs5, hA5, hat5⟩ := q
      refine ⟨_, rfl, _, rfl, by show 2 ≤ sizeLine; decide, fun p hp => ?_⟩
      exact k p TU DA tt tus ks m _ (b5.put (b5.none hp)) (hs5.put hp) (SqT.of upd_same) hTUH hDAH (by rw [upd_ne (ne_of_none hT5 hp)]; exact hT5) (by rw [upd_ne (ne_of_none hD5 hp)]; exact hD5) nTD (htt.imp fun _ _ q => sqT_mor (Mor.new hp) q) (by omega) (by omega) htk hch
end
end K17


set_option maxHeartbeats 4000000
/-! K17L8: a day after, the walk -/
namespace K17
open PySem PySem.Spec PyProof.Rows L2
section
variable {P : Program} {w : World} {K : PySem.W.Frag} {mg : Str → Option Value} {base : Heap}
def spLDayAfter (K : PySem.W.Frag) : Sp := fun vs H Q _ => ∃ (g a b d : Addr) (F : Fi) (s : StD) (turn : List Str) (day : DayD), vs = [.ref g, .int F.cap, .ref a, .ref b, .ref d] ∧ GroundAt K H g F.plots F.groups F.cap ∧ FieldOk F ∧ StandAt K H a s ∧ StOk F s ∧ NamesT K H b turn ∧ DayAt K H d day ∧ DayOk F.plots.length F.moods.length day ∧
  (∀ nm, stepD F s turn day = .inl nm → ∀ t H', Ext H H' → SqT K H' t [.str nm, .int 0] → Q (.ref t) H') ∧
  (∀ s', stepD F s turn day = .inr s' → ∀ r t (p : Int) H', Ext H H' → SqT K H' t [.ref r, .int p] → StandAt K H' r s' → Q (.ref t) H')
theorem ok_ldayafter (T : Txt K mg) : Ok P w K mg base CX0 5 d_ldayafter (spLDayAfter K) := by
  have nd : (["_law_ground_here", "_law_size", "_law_standing_here", "_law_turn", "_law_day_here", "_law_levels", "_law_tank", "_law_poured", "_law_after", "_law_at", "_law_plot", "_law_level"] : List Str).Nodup := by decide +kernel
  refine mkOk (N := ["_law_ground_here", "_law_size", "_law_standing_here", "_law_turn", "_law_day_here", "_law_levels", "_law_tank", "_law_poured", "_law_after", "_law_at", "_law_plot", "_law_level"]) (ps := ["_law_ground_here", "_law_size", "_law_standing_here", "_law_turn", "_law_day_here"]) T.f_ldayafter b_ldayafter ⟨rfl, rfl, rfl, nd, rfl, by decide +kernel, by decide +kernel⟩ (fun vs H Q E h => ?_) (fun cdv A outer s0 H vs Q E hr h => ?_)
  · obtain ⟨g, a, b, d, F, s, turn, day, rfl, _⟩ := h
    rfl
  · obtain ⟨g, a, b, d, F, s, turn, day, rfl, ⟨gdx, tp, tn, gg, hgi, htp0, htn, hgg⟩, fo, ⟨sdx, tl, hsi, htl⟩, so, hb, ⟨ddx, td, tr, hdi, htd, htr⟩, dok, kE, kQ⟩ := h
    have htp0' := htp0
    obtain ⟨as, htp, hap⟩ := htp0'
    have hal : as.length = F.plots.length := hap.1
    have n4 := fo.n4
    refine ⟨_, pss_cons (ps_asg (pe_f (ok_lserved T) T.g_lserved (hr.mono (by decide)) pass0 (pa_cons (pe_fld (pv 0) rfl) (pa_cons (pv 3) (pa_cons (pe_fld (pv 2) rfl) (pa_cons (pe_fld (pv 2) rfl) pa_nil))))) (pg_tup rfl (pgs_cons (pg_name (i := 5) nd rfl (Or.inl rfl)) (pgs_cons (pg_name (i := 6) nd rfl (Or.inl rfl)) pgs_nil))))
      (pss_cons (ps_set (i := 7) nd rfl (Or.inl rfl) (pe_b (call_max2I rfl) T.z_max (pa_cons pe_int (pa_cons (pe_ty call_intI T.z_int (pa_cons (pe_op op_sub (pe_op op_add (pv 6) (pe_fld (pv 4) rfl)) (pv 1)) pa_nil)) pa_nil))))
      (pss_cons (ps_set (i := 8) nd rfl (Or.inl rfl) (pe_lst pa_nil))
      (pss_cons (ps_for PassesOwn.never rfl (pi_enumT T.z_enumerate (pa_cons (pe_fld (pv 0) rfl) pa_nil)) (pg_tup rfl (pgs_cons (pg_name (i := 9) nd rfl (Or.inl rfl)) (pgs_cons (pg_name (i := 10) nd rfl (Or.inl rfl)) pgs_nil)))
        (pss_cons (ps_set (i := 11) nd rfl (Or.inl rfl) (pe_op op_sub (pe_ix ix_list (pv 5) (pv 9) (fun _ _ => rfl)) (pe_ix ix_tup (pe_fld (pv 4) rfl) (pv 9) (fun _ _ => rfl))))
        (pss_cons (ps_if (pt_cmpR op_lt (pv 11) pe_int (nomark _)) (pss_one (ps_ret (pe_tup (pa_cons (pe_fld (pv 10) rfl) (pa_cons pe_int pa_nil))))) pss_nil)
        (pss_cons (ps_set (i := 7) nd rfl (Or.inl rfl) (pe_op op_add (pv 7) (pe_b (call_max2I rfl) T.z_max (pa_cons pe_int (pa_cons (pe_ty call_intI T.z_int (pa_cons (pe_op op_sub (pe_op op_add (pv 11) (pe_ix ix_tup (pe_fld (pv 4) rfl) (pv 9) (fun _ _ => rfl))) (pe_fld (pv 10) rfl)) pa_nil)) pa_nil)))))
        (pss_one (ps_expr (pe_bm PySem.F.plainAttrs_list PySem.F.slot_list_append PySem.F.type_list_append mt_append (pv 8) (pa_cons (pe_b (call_min2I rfl) T.z_min (pa_cons (pe_ty call_intI T.z_int (pa_cons (pe_fld (pv 10) rfl) pa_nil)) (pa_cons (pe_ty call_intI T.z_int (pa_cons (pe_op op_add (pv 11) (pe_ix ix_tup (pe_fld (pv 4) rfl) (pv 9) (fun _ _ => rfl))) pa_nil)) pa_nil))) pa_nil))))))))
      (pss_one (ps_ret (pe_tup (pa_cons (pe_mk (d := d_standI) T.mk_Standing (ok_standI T) T.gc_Standing hr pass0 (pa_cons (pv 8) (pa_cons (pe_b (call_min2I rfl) T.z_min (pa_cons (pe_ty call_intI T.z_int (pa_cons (pv 1) pa_nil)) (pa_cons (pe_ty call_intI T.z_int (pa_cons (pe_op op_add (pv 6) (pe_fld (pv 4) rfl)) pa_nil)) pa_nil))) (pa_cons (pe_fld (pv 4) rfl) pa_nil)))) (pa_cons (pv 7) pa_nil)))))))), ?_⟩
    refine ⟨_, rfl, g, _, gdx, _, _, rfl, hgi, T.c_Ground, T.n_Ground_plots, lk_Ground_plots, _, rfl, _, rfl, a, _, sdx, _, _, rfl, hsi, T.c_Standing, T.n_Standing_levels, lk_Stand_levels, _, rfl, a, _, sdx, _, _, rfl, hsi, T.c_Standing, T.n_Standing_tank, lk_Stand_tank,
      tp, b, tl, F.plots, turn, s.levels, s.tank, rfl, htp0, hb, htl, so.ln, n4, fun p L H1 x1 hp hL => ?_⟩
    have hd1 := x1.get hdi
    refine ⟨p, _, rfl, hp, rfl, _, _, rfl, _, _, rfl, rfl, ?_⟩
    refine ⟨_, rfl, _, rfl, d, _, ddx, _, _, rfl, hd1, T.c_Day, T.n_Day_fill, lk_Day_fill, _, _, rfl, rfl, _, rfl, _, _, rfl, rfl, _, rfl, _, _, rfl, ?_⟩
    refine ⟨Nat.zero_le _, fun R hR => ?_⟩
    have hRH := x1.none hR
    have x2 : Ext H (upd H1 R (.lst [])) := x1.put hRH
    have hL2 : (upd H1 R (.lst [])) L = some (.lst ((tab (svF F.plots turn s.levels s.tank) F.plots.length).map V.int)) := by rw [upd_ne (ne_of_none hL hR)]; exact hL
    have nLR : L ≠ R := ne_of_none hL hR
    refine ⟨_, rfl, g, _, gdx, _, _, rfl, x2.get hgi, T.c_Ground, T.n_Ground_plots, lk_Ground_plots, tp, _, rfl, sqT_mor x2.mor htp, for_it (walk_enumT (xs := as.map V.ref)) (fun i σ H' => (∃ (po : Int) (v9 v10 v11 : Option V), σ = [some (.ref g), some (.int F.cap), some (.ref a), some (.ref b), some (.ref d), some (.ref L), some (.int (svT F.plots turn s.levels s.tank F.plots.length)), some (.int po), some (.ref R), v9, v10, v11]) ∧ Ext H H' ∧ H' L = some (.lst ((tab (svF F.plots turn s.levels s.tank) F.plots.length).map V.int)) ∧
        H' R = some (.lst ((tab (fun i => min (svF F.plots turn s.levels s.tank i - iv day.dry i + iv day.rain i) (holdAt F.plots i)) i).map V.int)) ∧ ∀ j, j < i → iv day.dry j ≤ svF F.plots turn s.levels s.tank j)
      ⟨⟨_, _, _, _, rfl⟩, x2, hL2, upd_same, fun j h => by omega⟩ (fun i σ H' hi q => sqT_mor q.2.1.mor htp) (fun i y σ H3 H4 hi q yy => ?_) (fun σ H3 q => ?_)⟩
    · obtain ⟨⟨po, v9, v10, v11, rfl⟩, x3, hL3, hR3, hno⟩ := q
      obtain ⟨u, pp, r, rfl, hu, rfl, ea, eb⟩ := yy
      obtain rfl := Option.some.inj ea
      obtain ⟨c, hc, rfl⟩ := map_get eb
      obtain ⟨pl, hpl, pdx, hpa⟩ := hap.get' hc
      have hi' : i < F.plots.length := (List.getElem?_eq_some_iff.mp hpl).1
      have x4 := x3.put (o := .tup [.int (i : Nat), .ref c]) (x3.none hu)
      have hL4 : (upd H3 u (.tup [.int (i : Nat), .ref c])) L = some (.lst ((tab (svF F.plots turn s.levels s.tank) F.plots.length).map V.int)) := by rw [upd_ne (ne_of_none hL3 hu)]; exact hL3
      have hR4 : (upd H3 u (.tup [.int (i : Nat), .ref c])) R = some (.lst ((tab (fun i => min (svF F.plots turn s.levels s.tank i - iv day.dry i + iv day.rain i) (holdAt F.plots i)) i).map V.int)) := by rw [upd_ne (ne_of_none hR3 hu)]; exact hR3
      have hT4 : SqT K (upd H3 u (.tup [.int (i : Nat), .ref c])) u [.int (i : Nat), .ref c] := SqT.of upd_same
      revert x4 hL4 hR4 hT4
      generalize (upd H3 u (.tup [.int (i : Nat), .ref c])) = H4
      intro x4 hL4 hR4 hT4
      have hat : atI ((tab (svF F.plots turn s.levels s.tank) F.plots.length).map V.int) ((i : Nat) : Int) = some (.int (svF F.plots turn s.levels s.tank i)) := atI_get (get_map (tab_get hi'))
      have hat2 : atI (day.dry.map V.int) ((i : Nat) : Int) = some (.int (iv day.dry i)) := atI_get (get_map (iv_get (by rw [dok.dl]; omega)))
      have hat3 : atI (day.rain.map V.int) ((i : Nat) : Int) = some (.int (iv day.rain i)) := atI_get (get_map (iv_get (by rw [dok.rl]; omega)))
      have hd4 := x4.get hdi
      refine ⟨u, _, rfl, hT4, rfl, _, _, rfl, _, _, rfl, rfl, _, rfl, _, rfl, L, _, _, _, rfl, rfl, SqL.of hL4, hat, _, rfl, d, _, ddx, _, _, rfl, hd4, T.c_Day, T.n_Day_dry, lk_Day_dry, _, rfl, td, _, _, _, rfl, rfl, sqT_mor x4.mor htd, hat2, _, _, rfl, rfl, ?_⟩
      refine ⟨_, rfl, _, _, rfl, rfl, _, rfl, ite2 (fun hlt => ?_) (fun hge => ?_)⟩
      · have hlt' : svF F.plots turn s.levels s.tank i - iv day.dry i < 0 := of_decide_eq_true hlt
        refine ⟨_, rfl, c, _, pdx, _, _, rfl, x4.get hpa, T.c_Plot, T.n_Plot_name, lk_Plot_name, by show 2 ≤ sizeLine; decide, fun q hq => ?_⟩
        exact kE pl.name (stepD_inl fo hpl (by omega) hno) q _ (x4.put (x4.none hq)) (SqT.of upd_same)
      · have hge' : ¬ svF F.plots turn s.levels s.tank i - iv day.dry i < 0 := fun h => hge (decide_eq_true h)
        refine ⟨_, rfl, _, rfl, _, rfl, d, _, ddx, _, _, rfl, hd4, T.c_Day, T.n_Day_rain, lk_Day_rain, _, rfl, tr, _, _, _, rfl, rfl, sqT_mor x4.mor htr, hat3, _, _, rfl, rfl, _, rfl, c, _, pdx, _, _, rfl, x4.get hpa, T.c_Plot, T.n_Plot_hold, lk_Plot_hold, _, _, rfl, rfl, _, rfl, _, _, rfl, _, _, rfl, rfl, ?_⟩
        refine ⟨_, rfl, .inl ⟨rfl, _, SqL.of hR4⟩, _, rfl, c, _, pdx, _, _, rfl, x4.get hpa, T.c_Plot, T.n_Plot_hold, lk_Plot_hold, _, rfl, _, rfl, _, rfl, d, _, ddx, _, _, rfl, hd4, T.c_Day, T.n_Day_rain, lk_Day_rain, _, rfl, tr, _, _, _, rfl, rfl, sqT_mor x4.mor htr, hat3, _, _, rfl, rfl, _, rfl, _, _, rfl, R, _, _, rfl, rfl, hR4, Nat.lt_of_lt_of_le (show _ < 1000 by rw [List.length_map, tab_len]; omega) (by decide), ?_⟩
        refine ⟨⟨_, _, _, _, rfl⟩, x4.put hRH, by rw [upd_ne nLR]; exact hL4, ?_, fun j hj => ?_⟩
        · rw [upd_same, tab_succ, List.map_append, holdAt_some hpl, Int.min_comm]
          rfl
        · by_cases e : j = i
          · subst e
            omega
          · exact hno j (by omega)
    · obtain ⟨⟨po, v9, v10, v11, rfl⟩, x3, hL3, hR3, hno⟩ := q
      rw [List.length_map, hal] at hR3 hno
      have hst : stepD F s turn day = .inr _ := stepD_inr hno
      have hst2 := stepD_ok fo so dok hst
      have hd3 := x3.get hdi
      refine ⟨_, rfl, _, rfl, _, rfl, _, rfl, _, rfl, d, _, ddx, _, _, rfl, hd3, T.c_Day, T.n_Day_fill, lk_Day_fill, _, _, rfl, rfl, _, rfl, _, _, rfl, _, rfl, d, _, ddx, _, _, rfl, hd3, T.c_Day, T.n_Day_mood, lk_Day_mood, ?_⟩
      have hmin : min F.cap (svT F.plots turn s.levels s.tank F.plots.length + day.fill) = min (svT F.plots turn s.levels s.tank F.plots.length + day.fill) F.cap := Int.min_comm _ _
      intro y dy hy hdy hne
      have xm : Ext H3 (upd (upd H3 dy (.own y)) y (.ins (CStand K) dy [])) := Ext.upd2 hy hdy
      refine ⟨y, dy, R, ⟨tab (fun i => min (svF F.plots turn s.levels s.tank i - iv day.dry i + iv day.rain i) (holdAt F.plots i)) F.plots.length, min F.cap (svT F.plots turn s.levels s.tank F.plots.length + day.fill), day.mood⟩, rfl, upd_same, SqL.of (xm.get hR3), by rw [hmin]; exact hst2.raw fo, fun tl2 H' hk hy' ht => ⟨rfl, ?_⟩⟩
      have x' : Ext H3 H' := Ext.self hy hdy hk
      have hr' : StandAt K H' y ⟨tab (fun i => min (svF F.plots turn s.levels s.tank i - iv day.dry i + iv day.rain i) (holdAt F.plots i)) F.plots.length, min F.cap (svT F.plots turn s.levels s.tank F.plots.length + day.fill), day.mood⟩ := ⟨dy, tl2, hy', ht⟩
      rw [hmin] at hr'
      refine ⟨_, rfl, by show 2 ≤ sizeLine; decide, fun q hq => ?_⟩
      exact kQ _ hst y q po _ ((x3.trans x').put ((x3.trans x').none hq)) (SqT.of upd_same) (hr'.mor (Mor.new hq))
/-- what the walk's second part says -/
def EndV (K : PySem.W.Frag) (H : Hp) (v : V) : Option (Str × Nat) → Prop
  | none => v = .non
  | some (nm, k) => ∃ q, v = .ref q ∧ SqT K H q [.str nm, .int k]
theorem EndV.mor {K : PySem.W.Frag} {H H' : Hp} (m : Mor H H') {v : V} : ∀ {e : Option (Str × Nat)}, EndV K H v e → EndV K H' v e
  | none, h => h
  | some (nm, k), h => by
    obtain ⟨q, h1, h2⟩ := h
    exact ⟨q, h1, sqT_mor m h2⟩
def spLWalk (K : PySem.W.Frag) : Sp := fun vs H Q _ => ∃ (x a TU DA : Addr) (F : Fi) (s : StD) (tt : List Addr) (tus : List (List Str)) (ks : List Nat) (m' : Int), vs = [.ref x, .ref a, .ref TU, .ref DA] ∧ FieldAt K H x F ∧ FieldOk F ∧ StandAt K H a s ∧ StOk F s ∧ H TU = some (.lst (tt.map V.ref)) ∧ All2 (NamesT K H) tt tus ∧ H DA = some (.lst (intsN ks)) ∧
  tus.length = ks.length ∧ ks.length ≤ 30 ∧ chain F s.mood ks m' ∧
  ∀ (t R : Addr) (v : V) (rs : List Addr) H', Ext H H' → H R = none → SqT K H' t [.ref R, v] → H' R = some (.lst (rs.map V.ref)) → All2 (StandAt K H') rs (walk F s tus ks 0).1 → EndV K H' v (walk F s tus ks 0).2 → Q (.ref t) H'
theorem ok_lwalk (T : Txt K mg) : Ok P w K mg base CX0 6 d_lwalk (spLWalk K) := by
  have nd : (["_law_field", "_law_now", "_law_turns", "_law_days", "_law_rows", "_law_at", "_law_place", "_law_day_here", "_law_after"] : List Str).Nodup := by decide +kernel
  refine mkOk (N := ["_law_field", "_law_now", "_law_turns", "_law_days", "_law_rows", "_law_at", "_law_place", "_law_day_here", "_law_after"]) (ps := ["_law_field", "_law_now", "_law_turns", "_law_days"]) T.f_lwalk b_lwalk ⟨rfl, rfl, rfl, nd, rfl, by decide +kernel, by decide +kernel⟩ (fun vs H Q E h => ?_) (fun cdv A outer s0 H vs Q E hr h => ?_)
  · obtain ⟨x, a, TU, DA, F, s, tt, tus, ks, m', rfl, _⟩ := h
    rfl
  · obtain ⟨x, a, TU, DA, F, s, tt, tus, ks, m', rfl, ⟨fdx, gr, we, tt0, am, hf, hg, hw⟩, fo, hs, so, hTU, htt, hDA, htl, h30, hch, k⟩ := h
    have hg' := hg
    obtain ⟨gdx, tp, tn, gg, hgi, htp, htn, hgg⟩ := hg'
    refine ⟨_, pss_cons (ps_set (i := 4) nd rfl (Or.inl rfl) (pe_lst pa_nil))
      (pss_cons (ps_for PassesOwn.never rfl (pi_enum rfl T.z_enumerate (pa_cons (pv 3) pa_nil)) (pg_tup rfl (pgs_cons (pg_name (i := 5) nd rfl (Or.inl rfl)) (pgs_cons (pg_name (i := 6) nd rfl (Or.inl rfl)) pgs_nil)))
        (pss_cons (ps_set (i := 7) nd rfl (Or.inl rfl) (pe_ix ix_tup (pe_getO (d := d_weatherGet) (pe_fld (pv 0) rfl) (pe_fld (pv 1) rfl) T.m_weatherGet T.fnGet (ok_wget T) (hr.mono (by decide)) pass0) (pv 6) (fun _ _ => rfl)))
        (pss_cons (ps_set (i := 8) nd rfl (Or.inl rfl) (pe_f (ok_ldayafter T) T.g_ldayafter hr pass0 (pa_cons (pe_fld (pv 0) rfl) (pa_cons (pe_pr (d := d_capG) (pe_fld (pv 0) rfl) T.c_Ground T.p_cap (ok_capG T) (hr.mono (by decide)) pass0) (pa_cons (pv 1) (pa_cons (pe_ix ix_list (pv 2) (pv 5) (fun _ _ => rfl)) (pa_cons (pv 7) pa_nil)))))))
        (pss_cons (ps_if (pt_val (pe_b call_isi T.z_isinstance (pa_cons (pe_ix ix_tup (pv 8) pe_int (fun _ _ => rfl)) (pa_cons (pe_bltn (v := .ty "str") (by rfl) T.z_str (by decide +kernel) rfl) pa_nil)))) (pss_one (ps_ret (pe_tup (pa_cons (pv 4) (pa_cons (pe_tup (pa_cons (pe_ix ix_tup (pv 8) pe_int (fun _ _ => rfl)) (pa_cons (pv 5) pa_nil))) pa_nil))))) pss_nil)
        (pss_cons (ps_set (i := 1) nd rfl (Or.inl rfl) (pe_ix ix_tup (pv 8) pe_int (fun _ _ => rfl)))
        (pss_one (ps_expr (pe_bm PySem.F.plainAttrs_list PySem.F.slot_list_append PySem.F.type_list_append mt_append (pv 4) (pa_cons (pv 1) pa_nil)))))))))
      (pss_one (ps_ret (pe_tup (pa_cons (pv 4) (pa_cons pe_non pa_nil)))))), ?_⟩
    refine ⟨Nat.zero_le _, fun R hR => ?_⟩
    have x0 : Ext H (upd H R (.lst [])) := Ext.upd hR
    refine ⟨_, rfl, DA, _, rfl, SqL.of (x0.get hDA), for_it (walk_enum (xs := intsN ks)) (fun i σ H' => ∃ (aa : Addr) (cur : StD) (pre : List StD) (rs : List Addr), (∃ v5 v6 v7 v8 : Option V, σ = [some (.ref x), some (.ref aa), some (.ref TU), some (.ref DA), some (.ref R), v5, v6, v7, v8]) ∧ Ext H H' ∧ StandAt K H' aa cur ∧ StOk F cur ∧ chain F cur.mood (ks.drop i) m' ∧
        H' R = some (.lst (rs.map V.ref)) ∧ rs.length = i ∧ All2 (StandAt K H') rs pre ∧ walk F s tus ks 0 = (pre ++ (walk F cur (tus.drop i) (ks.drop i) i).1, (walk F cur (tus.drop i) (ks.drop i) i).2))
      ⟨a, s, [], [], ⟨_, _, _, _, rfl⟩, x0, hs.mor x0.mor, so, hch, upd_same, rfl, .nil, rfl⟩ (fun i σ H' hi q => by obtain ⟨_, _, _, _, _, q, _⟩ := q; exact SqL.of (q.get hDA)) (fun i y σ H3 H4 hi q yy => ?_) (fun σ H3 q => ?_)⟩
    · obtain ⟨aa, cur, pre, rs, ⟨v5, v6, v7, v8, rfl⟩, x3, hcur, cok, hch, hR3, hrl, hpre, hwk⟩ := q
      obtain ⟨u, pp, r, rfl, hu, rfl, ea, eb⟩ := yy
      obtain rfl := Option.some.inj ea
      obtain ⟨kd, hk, rfl⟩ := map_get eb
      have hik : i < ks.length := (List.getElem?_eq_some_iff.mp hk).1
      have htl2 := htt.1
      have x4 := x3.put (o := .tup [.int (i : Nat), .int kd]) (x3.none hu)
      have hR4 : (upd H3 u (.tup [.int (i : Nat), .int kd])) R = some (.lst (rs.map V.ref)) := by rw [upd_ne (ne_of_none hR3 hu)]; exact hR3
      have hT4 : SqT K (upd H3 u (.tup [.int (i : Nat), .int kd])) u [.int (i : Nat), .int kd] := SqT.of upd_same
      have m34 := Mor.new (o := .tup [.int (i : Nat), .int kd]) hu
      revert x4 hR4 hT4 m34
      generalize (upd H3 u (.tup [.int (i : Nat), .int kd])) = H4
      intro x4 hR4 hT4 m34
      have hcur4 := hcur.mor m34
      have hcur4' := hcur4
      obtain ⟨cdx, ctl, hci, hctl⟩ := hcur4'
      have hpre4 := hpre.imp fun _ _ q => q.mor m34
      rw [List.drop_eq_getElem_cons hik] at hch
      obtain ⟨ds, d, hds, hd, hch'⟩ := hch
      have ek : ks[i] = kd := (List.getElem?_eq_some_iff.mp hk).2
      rw [ek] at hd
      have hday : dayAt F cur kd = some d := by unfold dayAt; rw [hds]; exact hd
      have dok := dayAt_ok fo hday
      obtain ⟨mn, hmn⟩ : ∃ mn : Nat, cur.mood = (mn : Int) := ⟨cur.mood.toNat, by have := cok.m0; omega⟩
      have hds' : F.moods[mn]? = some ds := by rw [hmn] at hds; exact hds
      have hw4 := hw.mor x4.mor
      have hw4' := hw4
      obtain ⟨wdx, tm, ms, hwi, htm, hms⟩ := hw4'
      refine ⟨u, _, rfl, hT4, rfl, _, _, rfl, _, _, rfl, rfl, _, rfl, x, _, fdx, _, _, rfl, x4.get hf, T.c_Field, T.n_Field_weather, lk_Field_weather, _, rfl, aa, _, cdx, _, _, rfl, hci, T.c_Standing, T.n_Standing_mood, lk_Stand_mood, we, wdx, _, rfl, hwi, we, mn, F.plots.length, F.moods, ds, by rw [hmn], hw4, hds', fun mm hmm => ?_⟩
      obtain ⟨xs, hxs, hxd⟩ := hmm
      obtain ⟨da, hda, hdaD⟩ := hxd.get hd
      refine ⟨_, rfl, mm, _, _, _, rfl, rfl, hxs, atI_get (get_map hda), ?_⟩
      have hit : i < tus.length := by omega
      have gt : tus[i]? = some tus[i] := List.getElem?_eq_getElem hit
      obtain ⟨ta, hta, hnt⟩ := htt.get gt
      have hTU4 := x4.get hTU
      refine ⟨_, rfl, x, _, fdx, _, _, rfl, x4.get hf, T.c_Field, T.n_Field_ground, lk_Field_ground, _, rfl, x, _, fdx, _, _, rfl, x4.get hf, T.c_Field, T.n_Field_ground, lk_Field_ground, gr, gdx, _, rfl, x4.get hgi, gr, F.plots, F.groups, F.cap, rfl, hg.mor x4.mor, _, rfl, _, rfl, _, rfl, TU, _, _, _, rfl, rfl, SqL.of hTU4, atI_get (get_map hta), _, rfl,
        gr, aa, ta, da, F, cur, tus[i], d, rfl, hg.mor x4.mor, fo, hcur4, cok, sqT_mor x4.mor hnt, hdaD, dok, fun nm hst t H5 x5 ht5 => ?_, fun s' hst r t po H5 x5 ht5 hr5 => ?_⟩
      · have hR5 := x5.get hR4
        have z := walk_dries hwk gt hk hday hst
        refine ⟨_, rfl, t, _, _, _, rfl, rfl, ht5, atI_nat (j := 0) (v := V.str nm) rfl, _, _, _, _, true, rfl, .ty _, .base (.str nm), kit_ty (by decide +kernel), true, rfl, iteT ?_⟩
        refine ⟨_, rfl, _, rfl, t, _, _, _, rfl, rfl, ht5, atI_nat (j := 0) (v := V.str nm) rfl, _, rfl, by show 2 ≤ sizeLine; decide, fun q hq => ⟨by show 2 ≤ sizeLine; decide, fun q2 hq2 => ?_⟩⟩
        have x45 := x4.trans x5
        have x6 := x45.put (o := .tup [.str nm, .int (i : Nat)]) (x45.none hq)
        have m56 := Mor.new (o := .tup [.str nm, .int (i : Nat)]) hq
        have m67 := Mor.new (o := .tup [.ref R, .ref q]) hq2
        have hRq : R ≠ q := ne_of_none hR5 hq
        have hR6 : (upd H5 q (.tup [.str nm, .int (i : Nat)])) R = some (.lst (rs.map V.ref)) := by rw [upd_ne hRq]; exact hR5
        refine k q2 R (.ref q) rs _ (x6.put (x6.none hq2)) hR (SqT.of upd_same) (by rw [upd_ne (ne_of_none hR6 hq2)]; exact hR6) ?_ ?_
        · rw [z]
          exact hpre4.imp fun _ _ q => ((q.mor x5.mor).mor m56).mor m67
        · rw [z]
          exact ⟨q, rfl, sqT_mor m67 (SqT.of upd_same)⟩
      · have hR5 := x5.get hR4
        have z := walk_turn hwk gt hk hday hst
        have hr5' := hr5
        obtain ⟨rdx, rtl, hri, hrtl⟩ := hr5'
        refine ⟨_, rfl, t, _, _, _, rfl, rfl, ht5, atI_nat (j := 0) (v := V.ref r) rfl, _, _, _, _, false, rfl, .ty _, .base (.ins hri T.c_Standing T.iSc T.iSn T.iSt T.iSm), T.isSs, false, rfl, iteF ?_⟩
        refine ⟨_, rfl, t, _, _, _, rfl, rfl, ht5, atI_nat (j := 0) (v := V.ref r) rfl, ?_⟩
        refine ⟨_, rfl, .inl ⟨rfl, _, SqL.of hR5⟩, _, rfl, R, _, _, rfl, rfl, hR5, Nat.lt_of_lt_of_le (show _ < 1000 by rw [List.length_map]; omega) (by decide), ?_⟩
        have mR := Mor.lst (ys := rs.map V.ref ++ [.ref r]) hR5
        have x45 := x4.trans x5
        have hmood : s'.mood = d.mood := by
          unfold stepD at hst
          cases q : dryAt (svF F.plots tus[i] cur.levels cur.tank) d.dry F.plots.length with
          | some j =>
            rw [q] at hst
            dsimp only at hst
            have hj : j < F.plots.length := by
              unfold dryAt at q
              exact List.mem_range.mp (List.mem_of_find?_eq_some q)
            rw [List.getElem?_eq_getElem hj] at hst
            cases hst
          | none =>
            rw [q] at hst
            have e := Sum.inr.inj hst
            rw [← e]
        refine ⟨r, s', pre ++ [s'], rs ++ [r], ⟨_, _, _, _, rfl⟩, x45.put hR, hr5.mor mR, stepD_ok fo cok dok hst, by rw [hmood]; exact hch', by rw [upd_same, List.map_append]; rfl, by simp [hrl], (hpre4.imp fun _ _ q => (q.mor x5.mor).mor mR).snoc (hr5.mor mR), z⟩
    · obtain ⟨aa, cur, pre, rs, ⟨v5, v6, v7, v8, rfl⟩, x3, hcur, cok, hch, hR3, hrl, hpre, hwk⟩ := q
      have z := walk_end hwk (.inr (by unfold intsN; rw [List.length_map]; exact Nat.le_refl _))
      refine ⟨_, rfl, by show 2 ≤ sizeLine; decide, fun q2 hq2 => ?_⟩
      have m34 := Mor.new (o := .tup [.ref R, .non]) hq2
      refine k q2 R .non rs _ (x3.put (x3.none hq2)) hR (SqT.of upd_same) (by rw [upd_ne (ne_of_none hR3 hq2)]; exact hR3) ?_ ?_
      · rw [z]
        exact hpre.imp fun _ _ q => q.mor m34
      · rw [z]
        rfl
end
end K17


set_option maxHeartbeats 4000000
/-! K17H1: a heap cut at an address; what a resumed frame leaves to its consumer -/
namespace K17
open PySem PySem.Spec PyProof.Rows L2
/-- the objects below n -/
def cutH (h : Heap) (n : Nat) : Heap := { h with objs := h.objs.extract 0 n }
theorem cutH_get {h : Heap} {n a : Nat} (l : a < n) : (cutH h n).get? a = h.get? a := by
  unfold cutH Heap.get?
  dsimp only
  have e : (h.objs.extract 0 n)[a]? = h.objs[a]? := by
    rw [Array.getElem?_extract]
    by_cases q : a < h.objs.size
    · rw [if_pos (by omega)]
      simp
    · rw [if_neg (by omega)]
      rw [Array.getElem?_eq_none (by omega)]
  rw [e]
theorem cutH_none {h : Heap} {n a : Nat} (l : n ≤ a) : (cutH h n).get? a = none := by
  unfold cutH Heap.get?
  dsimp only
  have e : (h.objs.extract 0 n)[a]? = none := by
    rw [Array.getElem?_extract, if_neg (by omega)]
  rw [e]
theorem cutH_some {h : Heap} {n a : Nat} {o : Obj} (e : (cutH h n).get? a = some o) : a < n ∧ h.get? a = some o := by
  by_cases l : a < n
  · rw [cutH_get l] at e
    exact ⟨l, e⟩
  · rw [cutH_none (by omega)] at e
    cases e
theorem cutH_size {h : Heap} {n : Nat} (l : n ≤ h.objs.size) : (cutH h n).objs.size = n := by
  show (h.objs.extract 0 n).size = n
  rw [Array.size_extract]
  omega
theorem cutH_lt {h : Heap} {n : Nat} {a : Addr} {o : Obj} (e : (cutH h n).get? a = some o) : a < n := (cutH_some e).1
/-- the addresses from n on that stand -/
def young (h : Heap) (n : Nat) : List Addr := (List.range h.objs.size).filter fun b => decide (n ≤ b)
theorem young_ge {h : Heap} {n : Nat} {b : Addr} (m : b ∈ young h n) : n ≤ b := of_decide_eq_true (List.mem_filter.mp m).2
theorem young_not {h : Heap} {n : Nat} {b : Addr} {o : Obj} (m : b ∉ young h n) (e : h.get? b = some o) : b < n := by
  have l : b < h.objs.size := Heap.lt_size e
  rcases Nat.lt_or_ge b n with q | q
  · exact q
  · exact absurd (List.mem_filter.mpr ⟨List.mem_range.mpr l, decide_eq_true q⟩) m
section
variable {X : Cx} {pins : List (Addr × Obj)} {σ : L2.St} {H H' : Hp} {s s' : Shared} {n : Nat}
/-- what stands below n of the consumer: all that it leans on -/
structure BelowN (X : Cx) (pins : List (Addr × Obj)) (n : Nat) : Prop where
  loc : X.env.locals < n
  cells : ∀ x c, X.env.cells.lookup x = some c → c < n
  pins : ∀ p ∈ X.pn ++ pins, p.1 < n
theorem Inv.belowN (I : Inv X pins σ H s) : BelowN X pins s.heap.objs.size :=
  ⟨I.lt, fun x c e => let ⟨_, _, ho, _⟩ := I.cell x c e; Heap.lt_size ho, fun p hp => Heap.lt_size (I.pin p hp).1⟩
theorem BelowN.young (b : BelowN X pins n) (I : Inv X pins σ H s) : ∀ c ∈ young s.heap n, (c ∈ X.ex ∨ X.s_0.heap.objs.size ≤ c) ∧ c ≠ X.env.locals ∧ (∀ x d, X.env.cells.lookup x = some d → d ≠ c) ∧ ∀ p ∈ X.pn ++ pins, p.1 ≠ c := fun c m => by
  have g := young_ge m
  refine ⟨.inr (Nat.le_trans I.ok.above (Nat.le_trans (Nat.le_of_lt b.loc) g)), ?_, fun x d e => ?_, fun p hp => ?_⟩
  · exact Nat.ne_of_gt (Nat.lt_of_lt_of_le b.loc g)
  · exact Nat.ne_of_lt (Nat.lt_of_lt_of_le (b.cells x d e) g)
  · exact Nat.ne_of_lt (Nat.lt_of_lt_of_le (b.pins p hp) g)
/-- the consumer behind a run that is told by what stood below n -/
theorem Inv.backN (b : BelowN X pins n) (I : Inv X pins σ H s) (u : Un (frs X.stack) [] H H' (cutH s.heap n) s'.heap) (ho : s'.os = s.os) (hok : HOk X.prog X.w H' s'.heap) (hg : AllBare s'.gens) : Inv X pins σ H' s' := by
  have low : ∀ c o, s.heap.get? c = some o → c ∉ K17.young s.heap n → (cutH s.heap n).get? c = some o := fun c o e m => by
    rw [cutH_get (young_not m e)]
    exact e
  refine I.call' (ch := K17.young s.heap n) ho ⟨fun c o e z hf hx => u.keep c o (low c o e hx) z hf (by simp), fun c o e z hf hx => u.slot c o (low c o e hx) z hf (by simp), fun c o e z hx => u.free c o (low c o e hx) z (by simp), fun c o e hx => u.there c o (low c o e hx) (by simp), u.tups, u.frzs, u.tbls⟩ hok hg (b.young I)
/-- an exception that left the run -/
theorem XE.of_callN {W : WX} {E : XK} (b : BelowN X pins n) (I : Inv X pins σ H s) (hW : ∀ cls d H', E cls d H' → W cls d σ H') {u : Value} (c : L2.CX X.prog X.w X.stack H { s with heap := cutH s.heap n } E u s') : XE X W u s' := by
  obtain ⟨a, B, H', cls, d, rfl, fl, hok, ub, na, os, ag, hE⟩ := c
  obtain ⟨G, g1, g2⟩ := restrict s'.heap fun b => (B.get? b).isSome || decide (b ∈ frs X.stack)
  have st : B.StaysIn s'.heap := fl.1
  have low : ∀ c o, s.heap.get? c = some o → c ∉ K17.young s.heap n → (cutH s.heap n).get? c = some o := fun c o e m => by
    rw [cutH_get (young_not m e)]
    exact e
  have gB : ∀ b o, B.get? b = some o → G.get? b = some o := fun b o e => by
    rw [g1 b (by simp [e])]
    exact st b o e
  have gF : ∀ b, b ∈ frs X.stack → G.get? b = s'.heap.get? b := fun b hb => g1 b (by simp [hb])
  have og : ∀ b o, G.get? b = some o → s'.heap.get? b = some o ∧ ((B.get? b).isSome = true ∨ b ∈ frs X.stack) := fun b o e => by
    cases q : ((B.get? b).isSome || decide (b ∈ frs X.stack)) with
    | false => rw [g2 b q] at e; cases e
    | true =>
      rw [g1 b q] at e
      exact ⟨e, by simpa [Bool.or_eq_true] using q⟩
  refine ⟨a, B, { s with heap := G, gens := s'.gens, drawn := s'.drawn, toks := s'.toks }, pins, σ, H', cls, d, rfl, ?_, fun b o e hb => ?_, Heap.UpToSlots.of_keeps fun b o e => (og b o e).1, .inr (.inl fl), na, os, ag, hW _ _ _ hE⟩
  · refine I.call (ch := K17.young s.heap n) ⟨fun b o e n hb hx => gB b o (ub.keep b o (low b o e hx) n hb), fun b o e n hb hx => ?_, fun b o e n hx => ub.free b o (low b o e hx) n, fun b o e hx => ?_, ub.tups, ub.frzs, ub.tbls⟩ (hok.kept gB) ag (b.young I)
    · obtain ⟨sl, q⟩ := ub.slot b o (low b o e hx) hb
      exact ⟨sl, by rw [gF b hb]; exact q⟩
    · by_cases hb : b ∈ frs X.stack
      · obtain ⟨sl, q⟩ := ub.slot b o (low b o e hx) hb
        exact ⟨_, by rw [gF b hb]; exact q⟩
      · obtain ⟨o', q⟩ := ub.there b o (low b o e hx) hb
        exact ⟨o', gB b o' q⟩
  · obtain ⟨e', h⟩ := og b o e
    rcases h with h | h
    · obtain ⟨o', q⟩ := Option.isSome_iff_exists.mp h
      have z := st b o' q
      rw [e'] at z; cases z
      exact q
    · exact absurd h hb
end
end K17


set_option maxHeartbeats 4000000
/-! K17H2: the context of Field.run's frame, built anew at each wake -/
namespace K17
open PySem PySem.Spec PyProof.Rows L2
abbrev NG : List Str := ["self", "standing", "turns", "days", "at", "turn", "day"]
abbrev envG (K : PySem.W.Frag) (L : Addr) (cd : Value) : Env := envOfC d_run.qual d_run.scope L (d_run.at_ K) cd
def genCx (X : Cx) (cd : Value) (L : Addr) (s : Shared) (H : Hp) (E : XK) (pn : List (Addr × Obj)) : Cx where
  prog := X.prog
  w := X.w
  K := X.K
  mg := X.mg
  base := X.base
  A := X.A.in1.deeper (envG X.K L cd)
  N := NG
  s_0 := { s with heap := cutH s.heap L }
  H_0 := H
  env := envG X.K L cd
  outer := X.stack
  stack := envG X.K L cd :: X.stack
  ex := []
  fn := fun _ => true
  calm := true
  pn := pn
  xe := fun e s' => wpAny (model X.prog X.w) (X.A.in1.deeper (envG X.K L cd)) (leaving (envG X.K L cd) e) (fun _ s'' => L2.CX X.prog X.w X.stack H { s with heap := cutH s.heap L } E e s'' ∧ ∀ p ∈ pn, s''.heap.get? p.1 = some p.2) (fun _ _ => False) s'
/-- the frame's slots -/
def LocG (K : PySem.W.Frag) (L : Addr) (cd : Value) (σ : L2.St) (h : Heap) : Prop :=
  ∃ m, h.Ns L m ∧ ∀ (i : Nat) (x : Str) (v : V), NG[i]? = some x → σ[i]? = some (some v) → Vis d_run.scope x → ∃ u, RelV v u ∧ Look (envG K L cd) h m x u
theorem cellsG {K : PySem.W.Frag} {L : Addr} {cd : Value} : (envG K L cd).cells = [] := rfl
theorem kindG : ∀ y ∈ d_run.scope.names, y.2 ≠ .cell ∧ y.2 ≠ .free := by decide +kernel
theorem kindG' {K : PySem.W.Frag} {L : Addr} {cd : Value} {x : Str} : ¬ ((envG K L cd).kindOf x = some .cell ∨ (envG K L cd).kindOf x = some .free) := fun h => by
  have h' : d_run.scope.names.lookup x = some .cell ∨ d_run.scope.names.lookup x = some .free := h
  rcases h' with e | e
  · exact (kindG _ (PySem.mem_of_lookup e)).1 rfl
  · exact (kindG _ (PySem.mem_of_lookup e)).2 rfl
section
variable {X : Cx} {pins pinsG pn : List (Addr × Obj)} {σ σG : L2.St} {H : Hp} {s : Shared} {cd : Value} {L : Addr} {E : XK}
theorem stk_lt (b : BelowN X pins L) (I : Inv X pins σ H s) : ∀ c ∈ frs X.stack, c < L := fun c m => by
  rcases List.mem_cons.mp (I.stkSub c m) with e | m
  · rw [e]; exact b.loc
  · obtain ⟨_, o, ho, _⟩ := I.ok.funs.mem m
    exact Nat.lt_of_lt_of_le (Heap.lt_size ho) (Nat.le_trans I.ok.above (Nat.le_of_lt b.loc))
theorem funs_cut {h base : Heap} {n : Nat} : ∀ {l : List Env}, (∀ c ∈ frs l, c < n) → h.FunFrames base l → (cutH h n).FunFrames base l
  | [], _, _ => trivial
  | env :: r, hb, hl => by
    obtain ⟨hk, ⟨L, o, hf, hn, ho, hd⟩, hr⟩ := hl
    refine ⟨hk, ⟨L, o, hf, hn, ?_, hd⟩, funs_cut (fun c m => hb c ?_) hr⟩
    · rw [cutH_get (hb L (by unfold frs; rw [List.filterMap_cons, hf]; exact List.mem_cons_self))]
      exact ho
    · unfold frs
      rw [List.filterMap_cons, hf]
      exact List.mem_cons_of_mem _ m
theorem inv_gen (hc : X.calm = true) (b : BelowN X pins L) (hL : L ≤ s.heap.objs.size) (I : Inv X pins σ H s) (hloc : LocG X.K L cd σG s.heap) (hln : σG.length = 7) (hf : H L = none)
    (hp : ∀ p ∈ pn ++ pinsG, s.heap.get? p.1 = some p.2 ∧ H p.1 = none ∧ p.1 ≠ L ∧ p.1 ∉ frs X.stack ∧ ∀ v, p.2.data ≠ .cell v) : Inv (genCx X cd L s H E pn) pinsG σG H s := by
  have bL : X.base.objs.size ≤ L := Nat.le_trans I.ok.bsz (Nat.le_trans I.ok.above (Nat.le_of_lt b.loc))
  have fr : (X.A.in1.deeper (envG X.K L cd)).frames = some (envG X.K L cd :: X.stack) := Around.frames_deeper (show X.A.in1.frames = some X.stack from I.ok.frames)
  refine ⟨⟨I.ok.mod, rfl, rfl, rfl, ?_, fun x y c h => ?_, fun x h => absurd h kindG', fun x c _ h => ?_, fun _ => I.ok.hd hc, fr, .inr ⟨rfl, rfl⟩, fun c m => absurd (show c ∈ ([] : List Addr) from m) (by simp), fun c o e => ⟨?_, (I.bs c o e).2⟩, ?_, fun c o e m => absurd (show c ∈ ([] : List Addr) from m) (by simp), fun c m => absurd (show c ∈ ([] : List Addr) from m) (by simp), funs_cut (stk_lt b I) I.stack, fun c m => I.stkFree c m⟩,
    rfl, I.bare, Un.kept fun c o e => (cutH_some e).2, hloc, fun x c h => ?_, hf, fun x c h => ?_, hp, I.hok, hln⟩
  · show (cutH s.heap L).objs.size ≤ L
    rw [cutH_size hL]
    exact Nat.le_refl _
  · exact absurd (show ([] : List (Str × Addr)).lookup x = some c from h) (by simp)
  · exact absurd (show ([] : List (Str × Addr)).lookup x = some c from h) (by simp)
  · show (cutH s.heap L).get? c = some o
    rw [cutH_get (Nat.lt_of_lt_of_le (Heap.lt_size e) bL)]
    exact I.bk c o e
  · show X.base.objs.size ≤ (cutH s.heap L).objs.size
    rw [cutH_size hL]
    exact bL
  · exact absurd (show ([] : List (Str × Addr)).lookup x = some c from h) (by simp)
  · exact absurd (show ([] : List (Str × Addr)).lookup x = some c from h) (by simp)
theorem takes_gen : Takes (genCx X cd L s H E pn) (fun cls d _ H' => E cls d H') := fun u s' x =>
  XE.leaveG (X := genCx X cd L s H E pn) (W := fun cls d _ H' => E cls d H') (E := E) rfl rfl rfl (fun _ _ _ _ h => h) x
theorem owns_gen : PassesOwn (model X.prog X.w) (genCx X cd L s H E pn).A (genCx X cd L s H E pn).env (genCx X cd L s H E pn).xe :=
  passes_of (X := genCx X cd L s H E pn) (K := fun e s'' => L2.CX X.prog X.w X.stack H { s with heap := cutH s.heap L } E e s'' ∧ ∀ p ∈ pn, s''.heap.get? p.1 = some p.2) (E₁ := fun _ _ => False) rfl
/-- back to the consumer, the frame as it stands -/
theorem gen_back (b : BelowN X pins L) (I : Inv X pins σ H s) {H' : Hp} {s' : Shared} (J : Inv (genCx X cd L s H E pn) pinsG σG H' s') : Inv X pins σ H' s' ∧ LocG X.K L cd σG s'.heap ∧ H' L = none :=
  ⟨Inv.backN b I J.base J.os J.hok J.bare, J.loc, J.free⟩
end
end K17


set_option maxHeartbeats 4000000
/-! K17H3: zip's next while its pair is still held -/
namespace PySem
open Sem (wp)
section
variable {prog : Program} {w : World} {A : Around} {E : Value → Shared → Prop} {s : Shared}
theorem wpAny_loadIfAlive {M : Model} {a : Addr} {Q : Option Obj → Shared → Prop} (h : Q (s.heap.get? a) s) : wpAny M A (loadIfAlive a) Q E s := fun Γ p hΓ => by
  show wp M Γ (.loadIfAlive a .pure) _ _ p s
  rw [Sem.wp_loadIfAlive]
  exact h
abbrev IsZipF (h : Heap) (z TI TO : Addr) (f0 f1 : Value) : Prop :=
  h.get? z = some { cls := .type "zip", dict := none, data := .fields #[f0, f1, .bool false, .ref TI, .ref TO], slots := #[] }
/-- the pair is held: no owned tuple is free -/
theorem zip_notFree {z TI TO T : Addr} {f1 : Value} {oT : Obj} {Q : Bool → Shared → Prop} (hz : IsZipF s.heap z TI TO (rawInt T) f1) (hT : s.heap.get? T = some oT)
    (hQ : ∀ h₁ f1', IsZipF h₁ z TI TO (rawInt T) f1' → Heap.SameBut z s.heap h₁ → Q false { s with heap := h₁ }) : wpAny (model prog w) A (Builtin.SmallTypes.ownedTupleIsFree (.ref z)) Q E s := by
  unfold Builtin.SmallTypes.ownedTupleIsFree
  refine wpAny_bind (wpAny_field hz rfl (x := rawInt T) rfl ?_)
  show wpAny _ _ (loadIfAlive (Int.toNat (T : Nat)) >>= _) _ _ _
  refine wpAny_bind (wpAny_loadIfAlive ?_)
  rw [Int.toNat_natCast, hT, if_neg (by simp)]
  refine wpAny_bind (wpAny_field hz rfl (x := f1) rfl ?_)
  dsimp only
  split
  · refine wpAny_bind (wpAny_setField_rec hz (by simp) fun h₁ hz₁ hs₁ => ?_)
    exact wpAny_pure (hQ h₁ (.bool true) hz₁ hs₁)
  · exact wpAny_pure (hQ s.heap f1 hz ⟨rfl, fun _ _ => rfl⟩)
theorem zip_kept_item {z TI TO i1 i2 l1 l2 T : Addr} {k1 k2 : Nat} {xs ys : Array Value} {x y f1 : Value} {oT : Obj} {Q : Value → Shared → Prop} (D : ZipApart z TI TO i1 i2 l1 l2)
    (hz : IsZipF s.heap z TI TO (rawInt T) f1) (hT : s.heap.get? T = some oT) (hTI : IsPair s.heap TI (.ref i1) (.ref i2))
    (h1 : s.heap.IsListIter i1 l1 k1) (h2 : s.heap.IsListIter i2 l2 k2) (hl1 : s.heap.IsList l1 xs) (hl2 : s.heap.IsList l2 ys) (hx : xs[k1]? = some x) (hy : ys[k2]? = some y)
    (hQ : ∀ h', (∃ f1', IsZipF h' z TI TO (rawInt T) f1') → h'.IsListIter i1 l1 (k1 + 1) → h'.IsListIter i2 l2 (k2 + 1) → IsPair h' s.heap.objs.size x y → h'.objs.size = s.heap.objs.size + 1 →
      (∀ c o, c ≠ z → c ≠ i1 → c ≠ i2 → s.heap.get? c = some o → h'.get? c = some o) → Q (.ref s.heap.objs.size) { s with heap := h' }) :
    wpAny (model prog w) A (Builtin.«zip.__next__» ⟨[.ref z], []⟩) (fun fin s' => ∃ v, fin = .done (.ret v) ∧ Q v s') E s := by
  show wpAny _ _ (field (.ref z) 2 >>= _) _ _ _
  refine wpAny_bind (wpAny_field hz rfl (x := .bool false) rfl ?_)
  show wpAny _ _ (field (.ref z) 3 >>= _) _ _ _
  refine wpAny_bind (wpAny_field hz rfl (x := .ref TI) rfl ?_)
  refine wpAny_bind (wpAny_seqItems hTI rfl ?_)
  show wpAny _ _ (Builtin.SmallTypes.ownedTupleIsFree (.ref z) >>= _) _ _ _
  refine wpAny_bind (zip_notFree hz hT fun h₁ f1' hz₁ hs₁ => ?_)
  simp only [Bool.false_eq_true, if_false]
  rw [← Array.forIn_toList]
  refine wpAny_bind ?_
  simp only [List.forIn_cons, List.forIn_nil]
  refine wpAny_bind (wpAny_bind (wpAny_holding ?_))
  show wpAny _ _ (Builtin.SmallTypes.nextOf (.ref i1) >>= _) _ _ _
  refine wpAny_bind (wpAny_nextOf_list_item (h1.extBut hs₁.extBut D.i1z) (hl1.extBut hs₁.extBut D.l1z) hx fun h₂ h1₂ hs₂ => wpAny_pure ?_)
  refine wpAny_pure ?_
  refine wpAny_bind (wpAny_bind (wpAny_holding ?_))
  show wpAny _ _ (Builtin.SmallTypes.nextOf (.ref i2) >>= _) _ _ _
  refine wpAny_bind (wpAny_nextOf_list_item ((h2.extBut hs₁.extBut D.i2z).extBut hs₂.extBut D.i12.symm)
    ((hl2.extBut hs₁.extBut D.l2z).extBut hs₂.extBut D.l2i1) hy fun h₃ h2₃ hs₃ => wpAny_pure ?_)
  refine wpAny_pure (wpAny_pure ?_)
  show wpAny _ _ (newTuple [x, y] >>= _) _ _ _
  refine wpAny_bind (wpAny_newTuple ?_)
  have hsz : h₃.objs.size = s.heap.objs.size := by rw [hs₃.1, hs₂.1, hs₁.1]
  have hk₃ : ∀ c o, c ≠ z → c ≠ i1 → c ≠ i2 → s.heap.get? c = some o → h₃.get? c = some o := fun c o c1 c3 c4 e =>
    hs₃.extBut _ _ c4 (hs₂.extBut _ _ c3 (hs₁.extBut _ _ c1 e))
  have hz₃ : IsZipF h₃ z TI TO (rawInt T) f1' := hs₃.extBut _ _ D.i2z.symm (hs₂.extBut _ _ D.i1z.symm hz₁)
  have h1₃ : h₃.IsListIter i1 l1 (k1 + 1) := h1₂.extBut hs₃.extBut D.i12
  refine wpAny_pure ⟨_, rfl, ?_⟩
  show Q (.ref h₃.objs.size) _
  have hT₄ : IsPair (h₃.push { cls := .type "tuple", data := .seq #[x, y] }) h₃.objs.size x y := Heap.get?_push_size _ rfl
  have hq := hQ (h₃.push { cls := .type "tuple", data := .seq #[x, y] }) ⟨_, Heap.get?_push_of_some _ hz₃⟩ (h1₃.at fun o e => Heap.get?_push_of_some _ e) (h2₃.at fun o e => Heap.get?_push_of_some _ e)
    (by rw [hsz] at hT₄; exact hT₄) (by rw [Heap.size_push, hsz]) fun c o c1 c2 c3 e => Heap.get?_push_of_some _ (hk₃ c o c1 c2 c3 e)
  rw [hsz]
  exact hq
theorem zip_kept_end {z TI TO i1 i2 l1 l2 T : Addr} {k1 k2 : Nat} {xs ys : Array Value} {f1 : Value} {oT : Obj} {Q : Fin → Shared → Prop} (hh : A.handled = none) (D : ZipApart z TI TO i1 i2 l1 l2)
    (hz : IsZipF s.heap z TI TO (rawInt T) f1) (hT : s.heap.get? T = some oT) (hTI : IsPair s.heap TI (.ref i1) (.ref i2))
    (h1 : s.heap.IsListIter i1 l1 k1) (h2 : s.heap.IsListIter i2 l2 k2) (hl1 : s.heap.IsList l1 xs) (hl2 : s.heap.IsList l2 ys) (hend : xs[k1]? = none ∨ ys[k2]? = none)
    (hE : ∀ h' e, (∀ c o, c ≠ z → c ≠ i1 → c ≠ i2 → s.heap.get? c = some o → h'.get? c = some o) → (∃ o, h'.get? e = some o ∧ o.cls = .type "StopIteration") → E (.ref e) { s with heap := h' }) :
    wpAny (model prog w) A (Builtin.«zip.__next__» ⟨[.ref z], []⟩) Q E s := by
  show wpAny _ _ (field (.ref z) 2 >>= _) _ _ _
  refine wpAny_bind (wpAny_field hz rfl (x := .bool false) rfl ?_)
  show wpAny _ _ (field (.ref z) 3 >>= _) _ _ _
  refine wpAny_bind (wpAny_field hz rfl (x := .ref TI) rfl ?_)
  refine wpAny_bind (wpAny_seqItems hTI rfl ?_)
  show wpAny _ _ (Builtin.SmallTypes.ownedTupleIsFree (.ref z) >>= _) _ _ _
  refine wpAny_bind (zip_notFree hz hT fun h₁ f1' hz₁ hs₁ => ?_)
  simp only [Bool.false_eq_true, if_false]
  rw [← Array.forIn_toList]
  refine wpAny_bind ?_
  simp only [List.forIn_cons, List.forIn_nil]
  refine wpAny_bind (wpAny_bind (wpAny_holding ?_))
  show wpAny _ _ (Builtin.SmallTypes.nextOf (.ref i1) >>= _) _ _ _
  cases hx : xs[k1]? with
  | none =>
    refine wpAny_bind (wpAny_nextOf_list_end hh (h1.extBut hs₁.extBut D.i1z) (hl1.extBut hs₁.extBut D.l1z) hx fun h₂ e hs₂ he => ?_)
    exact hE h₂ e (fun c o c1 c3 _ x => hs₂ _ _ c3 (hs₁.extBut _ _ c1 x)) he
  | some x =>
    have hy : ys[k2]? = none := by rcases hend with h | h; rw [hx] at h; cases h; exact h
    refine wpAny_bind (wpAny_nextOf_list_item (h1.extBut hs₁.extBut D.i1z) (hl1.extBut hs₁.extBut D.l1z) hx fun h₂ h1₂ hs₂ => wpAny_pure ?_)
    refine wpAny_pure ?_
    refine wpAny_bind (wpAny_bind (wpAny_holding ?_))
    show wpAny _ _ (Builtin.SmallTypes.nextOf (.ref i2) >>= _) _ _ _
    refine wpAny_bind (wpAny_nextOf_list_end hh ((h2.extBut hs₁.extBut D.i2z).extBut hs₂.extBut D.i12.symm)
      ((hl2.extBut hs₁.extBut D.l2z).extBut hs₂.extBut D.l2i1) hy fun h₃ e hs₃ he => ?_)
    exact hE h₃ e (fun c o c1 c3 c4 x => hs₃ _ _ c4 (hs₂.extBut _ _ c3 (hs₁.extBut _ _ c1 x))) he
/-- where a zip of two lists stands, its last pair held or none given -/
structure ZipSt (h : Heap) (z TI TO i1 i2 l1 l2 : Addr) (k : Nat) (P : Addr → Prop) : Prop where
  apart : ZipApart z TI TO i1 i2 l1 l2
  zip : IsZip h z TI TO .none ∨ ∃ (T : Addr) (f1 : Value) (oT : Obj), IsZipF h z TI TO (rawInt T) f1 ∧ h.get? T = some oT ∧ oT.cls = .type "tuple" ∧ T ≠ z ∧ T ≠ TO ∧ T ≠ i1 ∧ T ≠ i2 ∧ P T
  own : IsPair h TI (.ref i1) (.ref i2)
  out : ∃ a b, IsPair h TO a b
  one : h.IsListIter i1 l1 k
  two : h.IsListIter i2 l2 k
theorem nextOf_zip {z TI TO i1 i2 l1 l2 : Addr} {k : Nat} {xs ys : Array Value} {x y : Value} {P : Addr → Prop} {Q : Value → Shared → Prop} (st : ZipSt s.heap z TI TO i1 i2 l1 l2 k P)
    (hl1 : s.heap.IsList l1 xs) (hl2 : s.heap.IsList l2 ys) (hx : xs[k]? = some x) (hy : ys[k]? = some y)
    (hQ : ∀ h', ZipSt h' z TI TO i1 i2 l1 l2 (k + 1) (fun T => P T ∨ T = s.heap.objs.size) → IsPair h' s.heap.objs.size x y → h'.objs.size = s.heap.objs.size + 1 →
      (∀ c o, c ≠ z → c ≠ TO → c ≠ i1 → c ≠ i2 → s.heap.get? c = some o → h'.get? c = some o) → Q (.ref s.heap.objs.size) { s with heap := h' }) :
    wpAny (model prog w) A (Builtin.SmallTypes.nextOf (.ref z)) Q E s := by
  obtain ⟨D, hz, hTI, ⟨a, b, hTO⟩, h1, h2⟩ := st
  have hT : s.TypeIs (.ref z) "zip" := by
    rcases hz with hz | ⟨T, f1, oT, hz, _⟩
    · exact ⟨_, hz, rfl⟩
    · exact ⟨_, hz, rfl⟩
  have lt : ∀ {c o}, s.heap.get? c = some o → s.heap.objs.size ≠ c := fun e => Nat.ne_of_gt (Heap.lt_size e)
  have lz : s.heap.objs.size ≠ z := by obtain ⟨o, e, _⟩ := hT; exact lt e
  have l1' : s.heap.objs.size ≠ i1 := by obtain ⟨o, e, _⟩ := h1; exact lt e
  have l2' : s.heap.objs.size ≠ i2 := by obtain ⟨o, e, _⟩ := h2; exact lt e
  unfold Builtin.SmallTypes.nextOf
  refine wpAny_bind (wpAny_callSpecial?_slot (name := Str.ofString "__next__") hT F.slot_zip_next (wpAny_call_entry F.slot_zip_next hT F.entry_zip_next ?_ (F.args_zip_next_1 _)))
  rcases hz with hz | ⟨T, f1, oT, hz, hoT, ct, t1, t2, t3, t4, tP⟩
  · refine zip_next_item D hz hTI hTO h1 h2 hl1 hl2 hx hy fun h' a1 a2 a3 a4 a5 a6 a7 => wpAny_pure (hQ h' ⟨D, .inr ⟨_, _, _, a1, a5, rfl, lz, lt hTO, l1', l2', .inr rfl⟩, a7 _ _ D.TIz D.TITO D.TIi1 D.TIi2 hTI, ⟨_, _, a2⟩, a3, a4⟩ a5 a6 a7)
  · refine zip_kept_item D hz hoT hTI h1 h2 hl1 hl2 hx hy fun h' a1 a3 a4 a5 a6 a7 => wpAny_pure (hQ h' ⟨D, ?_, a7 _ _ D.TIz D.TIi1 D.TIi2 hTI, ⟨_, _, a7 _ _ D.TOz D.TOi1 D.TOi2 hTO⟩, a3, a4⟩ a5 a6 fun c o c1 _ c2 c3 e => a7 c o c1 c2 c3 e)
    obtain ⟨f1', a1⟩ := a1
    exact .inr ⟨T, f1', oT, a1, a7 _ _ t1 t3 t4 hoT, ct, t1, t2, t3, t4, .inl tP⟩
theorem nextOf_zip_end {z TI TO i1 i2 l1 l2 : Addr} {k : Nat} {xs ys : Array Value} {P : Addr → Prop} {Q : Value → Shared → Prop} (hh : A.handled = none) (st : ZipSt s.heap z TI TO i1 i2 l1 l2 k P)
    (hl1 : s.heap.IsList l1 xs) (hl2 : s.heap.IsList l2 ys) (hend : xs[k]? = none ∨ ys[k]? = none)
    (hE : ∀ h' e, (∀ c o, c ≠ z → c ≠ TO → c ≠ i1 → c ≠ i2 → s.heap.get? c = some o → h'.get? c = some o) → (∃ o, h'.get? e = some o ∧ o.cls = .type "StopIteration") → E (.ref e) { s with heap := h' }) :
    wpAny (model prog w) A (Builtin.SmallTypes.nextOf (.ref z)) Q E s := by
  obtain ⟨D, hz, hTI, ⟨a, b, hTO⟩, h1, h2⟩ := st
  have hT : s.TypeIs (.ref z) "zip" := by
    rcases hz with hz | ⟨T, f1, oT, hz, _⟩
    · exact ⟨_, hz, rfl⟩
    · exact ⟨_, hz, rfl⟩
  unfold Builtin.SmallTypes.nextOf
  refine wpAny_bind (wpAny_callSpecial?_slot (name := Str.ofString "__next__") hT F.slot_zip_next (wpAny_call_entry F.slot_zip_next hT F.entry_zip_next ?_ (F.args_zip_next_1 _)))
  rcases hz with hz | ⟨T, f1, oT, hz, hoT, ct, t1, t2, t3, t4, tP⟩
  · exact zip_next_end hh D hz hTI hTO h1 h2 hl1 hl2 hend fun h' e hk he => hE h' e hk he
  · exact zip_kept_end hh D hz hoT hTI h1 h2 hl1 hl2 hend fun h' e hk he => hE h' e (fun c o c1 _ c2 c3 e => hk c o c1 c2 c3 e) he
end
end PySem


set_option maxHeartbeats 4000000
/-! K17H4: a for loop of a generator's frame -/
namespace K17
open PySem PySem.Spec PyProof.Rows L2 GenW
abbrev escH (env : Env) (x : Value) : Sem PySem.Fin := (do noteFrame x env; theTreesLotGoes x : Sem Unit).wrap (fun _ => .raise x) .raise id id
section
variable {prog : Program} {w : World} {A : Around} {R : GenEnd} {Y : Protocol} {n : Nat} {s₀ : Shared} {fs : List Frame} {s : Shared} {env : Env} {c : Code}
  {K : Flow → Sem PySem.Fin} {J : Value → Sem PySem.Fin} {gd : Bool → Bool} {lv : List Value → List Value}
theorem seg_bindE {α : Type} {m : Sem α} {f : α → Sem PySem.Fin} {JJ : Value → Sem PySem.Fin}
    (h : wpAny (model prog w) (A.over c fs) m (fun a s' => Seg (model prog w) A R Y n s₀ c ((f a).wrap .pure JJ id id) fs s') (fun x s' => Seg (model prog w) A R Y n s₀ c (JJ x) fs s') s) :
    Seg (model prog w) A R Y n s₀ c ((m >>= f).wrap .pure JJ id id) fs s := by
  rw [Sem.bind_eq_wrap', Sem.wrap_wrap]
  exact seg_wrap h
theorem seg_bindW {α β : Type} {m : Sem α} {f : α → Sem β} {K : β → Sem PySem.Fin} {J : Value → Sem PySem.Fin} {gd : Bool → Bool} {lv : List Value → List Value}
    (h : wpAny (model prog w) (A.over c fs) m (fun a s' => Seg (model prog w) A R Y n s₀ c ((f a).wrap K J gd lv) fs s') (fun x s' => Seg (model prog w) A R Y n s₀ c (J x) fs s') s) :
    Seg (model prog w) A R Y n s₀ c ((m >>= f).wrap K J gd lv) fs s := by
  rw [Sem.bind_eq_wrap', Sem.wrap_wrap]
  exact seg_wrap h
theorem seg_forLoop {tg : Expr} {it : Value} {body : List Stmt}
    (h : wpAny (model prog w) (A.over (.forLoop tg it body [] env) fs) (pyNext it) (fun o s' => match o with
        | none => Seg (model prog w) A R Y n s₀ (.block [] env) (leafOf (.ok .next)) fs s'
        | some v => wpAny (model prog w) (A.over (.forLoop tg it body [] env) fs) (letOwnedTupleGo tg it v >>= fun _ => assign tg env v) (fun _ s'' =>
            Seg (model prog w) A R Y n s₀ (.forLoop tg it body [] env) ((execs body env).wrap (fun f => match f with
              | .next | .cont => .pure (.again (.forLoop tg it body [] env))
              | .brk => .pure (.done .next)
              | .ret v => .pure (.done (.ret v))) (escH env) id id) fs s'') (fun x s'' => Seg (model prog w) A R Y n s₀ (.forLoop tg it body [] env) (escH env x) fs s'') s')
      (fun x s' => Seg (model prog w) A R Y n s₀ (.forLoop tg it body [] env) (escH env x) fs s') s) :
    Seg (model prog w) A R Y n s₀ (.forLoop tg it body [] env) ((model prog w).den (.forLoop tg it body [] env)) fs s := by
  show Seg _ A R Y n s₀ _ ((forTurn tg it body [] env).onRaise (fun x => do noteFrame x env; theTreesLotGoes x)) fs s
  unfold forTurn
  rw [Sem.onRaise_eq_wrap]
  rw [Sem.wrap_congr (H' := escH env) (hK := fun _ => rfl) (hH := fun e => by first | exact Sem.bind_eq_wrap _ _ | (show (do noteFrame e env; theTreesLotGoes e : Sem Unit).bind (fun _ => .raise e) = _; rw [Sem.bind_eq_wrap]))]
  refine seg_bindE (wpAny_standAt ?_)
  refine seg_bindE (wpAny_onRaise (wpAny_mono h (fun o s' ho => ?_) fun x s' hx => wpAny_standAt hx))
  cases o with
  | none =>
    show Seg _ A R Y n s₀ _ (.pure (.again (.block [] env))) fs s'
    exact seg_again rfl ho
  | some v =>
    show Seg _ A R Y n s₀ _ ((letOwnedTupleGo tg it v >>= fun _ => assign tg env v >>= fun _ => execs body env >>= _).wrap .pure (escH env) id id) fs s'
    rw [← bind_assoc]
    refine seg_bindE (wpAny_mono ho (fun _ s'' hs => ?_) fun _ _ hx => hx)
    rw [Sem.bind_eq_wrap', Sem.wrap_wrap]
    refine Eq.mp (congrArg (fun t => Seg (model prog w) A R Y n s₀ (.forLoop tg it body [] env) t fs s'') (Sem.wrap_congr (execs body env) id id (fun f => ?_) fun e => ?_)) hs
    · cases f <;> rfl
    · rfl
theorem seg_For {tg iter : Expr} {body : List Stmt} {pos : Pos} (hs : ∀ x, foldedSetIterable iter env x = pure x)
    (h : wpAny (model prog w) (A.over c fs) (eval iter env) (fun x s1 => wpAny (model prog w) (A.over c fs) (pyIter x) (fun it s2 => ∀ p,
        Seg (model prog w) A R Y n s₀ (.forLoop tg it body [] env) ((model prog w).den (.forLoop tg it body [] env))
          (.ret (fun r => ((match r with | .ok f => (.pure f : Sem Flow) | .error e => .raise e).onRaise (cameBack env)).wrap K J gd lv) none (gd false) (lv []) c p [] :: fs) s2)
        (fun x s' => Seg (model prog w) A R Y n s₀ c (J x) fs s') s1) (fun x s' => Seg (model prog w) A R Y n s₀ c (J x) fs s') s) :
    Seg (model prog w) A R Y n s₀ c ((exec (.For tg iter body [] pos) env).wrap K J gd lv) fs s := by
  rw [exec_For]
  refine seg_bindW (wpAny_standAt ?_)
  refine seg_bindW (wpAny_mono h (fun x s1 h1 => ?_) fun _ _ q => q)
  refine seg_bindW (wpAny_of_eq (hs x) ?_)
  refine seg_bindW (wpAny_standAt ?_)
  refine seg_bindW (wpAny_holding (wpAny_mono h1 (fun it s2 h2 => ?_) fun _ _ q => q))
  exact seg_call h2
end
end K17


set_option maxHeartbeats 4000000
/-! K17H5: enumerate(zip(a, b)) in a state -/
namespace K17
open PySem PySem.Spec PyProof.Rows L2 GenW
/-- an enumerate over a zip over the lists a and b, k items out -/
structure EZ (h : Heap) (H : Hp) (e z TI TO i1 i2 a b : Addr) (k : Nat) : Prop where
  en : ∃ old, IsEnum h e z ((k : Nat) : Int) old
  zs : ZipSt h z TI TO i1 i2 a b k fun T => ∃ xs, H T = some (.tup xs)
  ez : e ≠ z
  eTI : e ≠ TI
  eTO : e ≠ TO
  ei1 : e ≠ i1
  ei2 : e ≠ i2
abbrev ezL (e z TI TO i1 i2 : Addr) : List Addr := [e, z, TI, TO, i1, i2]
section
variable {X : Cx} {pins : List (Addr × Obj)} {σ : L2.St} {H : Hp} {s : Shared} {e z TI TO i1 i2 a b : Addr} {k : Nat} {xs ys : List V} {E : Value → Shared → Prop}
theorem ez_item {x y : V} (tg : Expr) (htg : ∃ elts kk tpos, tg = .Tuple elts kk tpos) {Q : Option Value → Shared → Prop} (I : Inv X pins σ H s) (ez : EZ s.heap H e z TI TO i1 i2 a b k) (hf : ∀ c ∈ ezL e z TI TO i1 i2, FpOk X pins H c)
    (ha : H a = some (.lst xs)) (hb : H b = some (.lst ys)) (hx : xs[k]? = some x) (hy : ys[k]? = some y)
    (hQ : ∀ T1 T2 s1, H T1 = none → upd H T1 (.tup [x, y]) T2 = none → (∀ c ∈ ezL e z TI TO i1 i2, FpOk X pins (upd (upd H T1 (.tup [x, y])) T2 (.tup [.int (k : Nat), .ref T1])) c) →
      (∀ (Q' : Unit → Shared → Prop) (E' : Value → Shared → Prop) (A' : Around), (∀ s2, Inv X pins σ (upd (upd H T1 (.tup [x, y])) T2 (.tup [.int (k : Nat), .ref T1])) s2 → EZ s2.heap (upd (upd H T1 (.tup [x, y])) T2 (.tup [.int (k : Nat), .ref T1])) e z TI TO i1 i2 a b (k + 1) → Q' () s2) →
        wpAny (model X.prog X.w) A' (letOwnedTupleGo tg (.ref e) (.ref T2)) Q' E' s1) → Q (some (.ref T2)) s1) :
    wpAny (model X.prog X.w) X.A (pyNext (.ref e)) Q E s := by
  obtain ⟨elts, kk, tpos, rfl⟩ := htg
  obtain ⟨⟨old, he⟩, zs, n1, n2, n3, n4, n5⟩ := ez
  obtain ⟨its, rv, p1, _⟩ := I.list (SqL.of ha)
  obtain ⟨its2, rv2, p2, _⟩ := I.list (SqL.of hb)
  obtain ⟨ux, hux, rx⟩ := rv.get hx
  obtain ⟨uy, huy, ry⟩ := rv2.get hy
  have lst : ∀ {h : Heap} {c : Addr} {o : Obj}, h.get? c = some o → ¬ h.objs.size ≤ c := fun q => Nat.not_le.mpr (Heap.lt_size q)
  refine pyNext_enum_gen (e := e) (it := z) (c := ((k : Nat) : Int)) (old := old) (R := fun u h1 => u = .ref s.heap.objs.size ∧ ZipSt h1 z TI TO i1 i2 a b (k + 1) (fun T => (∃ xs, H T = some (.tup xs)) ∨ T = s.heap.objs.size) ∧ IsPair h1 s.heap.objs.size ux uy ∧ h1.objs.size = s.heap.objs.size + 1 ∧ ∀ c o, c ≠ z → c ≠ TO → c ≠ i1 → c ≠ i2 → s.heap.get? c = some o → h1.get? c = some o) he (fun E' Q' q => ?_) (fun u h1 h' tk hR ho hT hsz hk => ?_)
  · refine nextOf_zip zs p1.isList p2.isList (by simpa using hux) (by simpa using huy) fun h' q1 q2 q3 q4 => ?_
    exact q (.ref s.heap.objs.size) h' s.toks ⟨rfl, q1, q2, q3, q4⟩ (q4 e _ n1 n3 n4 n5 he)
  · obtain ⟨eu, q1, q2, q3, q4⟩ := hR
    have hT1 : H s.heap.objs.size = none := I.hok.fresh (Nat.le_refl _)
    have I1 : Inv X pins σ (upd H s.heap.objs.size (.tup [x, y])) { s with heap := h1, toks := s.toks } := I.turnedNew (ch := [z, TO, i1, i2]) (fun c o hc q => q4 c o (fun w => hc (by simp [w])) (fun w => hc (by simp [w])) (fun w => hc (by simp [w])) (fun w => hc (by simp [w])) q)
      (fun c hc => hf c (by
        have hc' : c = z ∨ c = TO ∨ c = i1 ∨ c = i2 := by simpa using hc
        rcases hc' with w | w | w | w <;> simp [w])) (Nat.le_refl _) ⟨by show 2 ≤ sizeLine; decide, [ux, uy], .cons rx (.cons ry .nil), ⟨_, q2, rfl, _, rfl⟩⟩
    have olds : ∀ c, c ∈ ezL e z TI TO i1 i2 → c < s.heap.objs.size := fun c hc => by
      have hc' : c = e ∨ c = z ∨ c = TI ∨ c = TO ∨ c = i1 ∨ c = i2 := by simpa using hc
      rcases hc' with w | w | w | w | w | w
      · rw [w]; exact Heap.lt_size he
      · rw [w]
        rcases zs.zip with h | ⟨T, f1, oT, h, _⟩
        · exact Heap.lt_size h
        · exact Heap.lt_size h
      · rw [w]; exact Heap.lt_size zs.own
      · rw [w]; obtain ⟨_, _, h⟩ := zs.out; exact Heap.lt_size h
      · rw [w]; obtain ⟨_, h, _⟩ := zs.one; exact Heap.lt_size h
      · rw [w]; obtain ⟨_, h, _⟩ := zs.two; exact Heap.lt_size h
    have hf1 : ∀ c ∈ ezL e z TI TO i1 i2, FpOk X pins (upd H s.heap.objs.size (.tup [x, y])) c := fun c hc => ⟨by rw [upd_ne (Nat.ne_of_lt (olds c hc))]; exact (hf c hc).1, (hf c hc).2⟩
    have hel : e < h1.objs.size := by rw [q3]; exact Nat.lt_succ_of_lt (Heap.lt_size he)
    have hT2' : upd H s.heap.objs.size (.tup [x, y]) h1.objs.size = none := I1.hok.fresh (Nat.le_refl _)
    refine hQ s.heap.objs.size h1.objs.size _ hT1 hT2' (fun c hc => ⟨?_, (hf1 c hc).2⟩) fun Q' E' A' q' => wpAny_letOwnedTupleGo_enum (s := { s with heap := h', toks := tk + 1 }) ho fun h'' he' sb => ?_
    · rw [upd_ne (Nat.ne_of_lt (show c < h1.objs.size by rw [q3]; exact Nat.lt_succ_of_lt (olds c hc)))]
      exact (hf1 c hc).1
    · have hk2 : ∀ c o, c ≠ e → h1.get? c = some o → h''.get? c = some o := fun c o n q => (sb.2 c n).trans (hk c o n q)
      have hT2g : h''.get? h1.objs.size = some { cls := .type "tuple", data := .seq #[.int k tk, u] } := (sb.2 _ (Nat.ne_of_gt hel)).trans hT
      have I2 : Inv X pins σ (upd (upd H s.heap.objs.size (.tup [x, y])) h1.objs.size (.tup [.int (k : Nat), .ref s.heap.objs.size])) { s with heap := h'', toks := tk + 1 } :=
        I1.turnedNew (t' := tk + 1) (ch := [e]) (fun c o hc q => hk2 c o (by simpa using hc) q) (fun c hc => hf1 c (by
          have hc' : c = e := by simpa using hc
          simp [hc'])) (Nat.le_refl _) ⟨by show 2 ≤ sizeLine; decide, [.int k tk, u], .cons ⟨_, rfl⟩ (.cons eu .nil), ⟨_, hT2g, rfl, _, rfl⟩⟩
      refine q' _ I2 ⟨⟨u, ?_⟩, ?_, n1, n2, n3, n4, n5⟩
      · have e1 : ((k + 1 : Nat) : Int) = (k : Int) + 1 := by omega
        rw [e1]; exact he'
      · obtain ⟨D, hz, hTI, ⟨c1, c2, hTO⟩, h1', h2'⟩ := q1
        refine ⟨D, ?_, hk2 _ _ n2.symm hTI, ⟨c1, c2, hk2 _ _ n3.symm hTO⟩, h1'.at fun o q => hk2 _ _ n4.symm q, h2'.at fun o q => hk2 _ _ n5.symm q⟩
        rcases hz with hz | ⟨T, f1, oT, hz, hT3, ct, t1, t2, t3, t4, tP⟩
        · exact .inl (hk2 _ _ n1.symm hz)
        · have hTe : T ≠ e := fun w => by
            have q5 : h1.get? e = some _ := q4 e _ n1 n3 n4 n5 he
            rw [w, q5] at hT3
            cases hT3
            simp at ct
          refine .inr ⟨T, f1, oT, hk2 _ _ n1.symm hz, hk2 _ _ hTe hT3, ct, t1, t2, t3, t4, ?_⟩
          rcases tP with ⟨zs, tP⟩ | tP
          · exact ⟨zs, by rw [upd_ne (ne_of_none (by rw [upd_ne (ne_of_none tP hT1)]; exact tP) hT2'), upd_ne (ne_of_none tP hT1)]; exact tP⟩
          · exact ⟨_, by rw [tP, upd_ne (ne_of_none upd_same hT2'), upd_same]⟩
theorem ez_stop {Q : Option Value → Shared → Prop} (hh : X.A.handled = none) (I : Inv X pins σ H s) (ez : EZ s.heap H e z TI TO i1 i2 a b k) (hf : ∀ c ∈ ezL e z TI TO i1 i2, FpOk X pins H c)
    (ha : H a = some (.lst xs)) (hb : H b = some (.lst ys)) (hend : xs.length ≤ k ∨ ys.length ≤ k) (hQ : ∀ s1, Inv X pins σ H s1 → Q none s1) : wpAny (model X.prog X.w) X.A (pyNext (.ref e)) Q E s := by
  obtain ⟨⟨old, he⟩, zs, n1, n2, n3, n4, n5⟩ := ez
  obtain ⟨its, rv, p1, _⟩ := I.list (SqL.of ha)
  obtain ⟨its2, rv2, p2, _⟩ := I.list (SqL.of hb)
  have l1 := rv.length
  have l2 := rv2.length
  refine pyNext_enum_stop (R := fun h' => ∀ c o, c ≠ z → c ≠ TO → c ≠ i1 → c ≠ i2 → s.heap.get? c = some o → h'.get? c = some o) he (fun Q' E' q => ?_) (fun h' hk => hQ _ (I.turnedL (t' := s.toks) (ch := ezL e z TI TO i1 i2) (fun c o hc q => ?_) hf))
  · refine nextOf_zip_end hh zs p1.isList p2.isList ?_ fun h' x q1 q2 => q x h' q1 q2
    rcases hend with w | w
    · exact .inl (Array.getElem?_eq_none (by simp; omega))
    · exact .inr (Array.getElem?_eq_none (by simp; omega))
  · exact hk c o (fun w => hc (by simp [w])) (fun w => hc (by simp [w])) (fun w => hc (by simp [w])) (fun w => hc (by simp [w])) q
theorem ez_make {e1 e2 : Expr} {ta : TA} {p p2 pos pos2 : Pos} {R : Addr → Addr → Hp → Prop} (hgE : Gl X "enumerate") (hgZ : Gl X "zip") (hmE : X.mg "enumerate" = none) (hmZ : X.mg "zip" = none) (ha : PA X [e1, e2] ta) (I : Inv X pins σ H s)
    (h : ta σ H fun vs H1 => ∃ a b xs ys, vs = [.ref a, .ref b] ∧ SqL X.K H1 a xs ∧ SqL X.K H1 b ys ∧ R a b H1)
    (hs1 : starEach [.Call (.Name "zip" p2) [e1, e2] [] pos2] X.env = [(false, eval (.Call (.Name "zip" p2) [e1, e2] [] pos2) X.env)] := by rfl)
    (hs : starEach [e1, e2] X.env = (false, eval e1 X.env) :: starEach [e2] X.env := by rfl) (hpl : (backTo pos2 (starEach [e2] X.env)).any (·.1) = false := by rfl) :
    wpAny (model X.prog X.w) X.A (eval (.Call (.Name "enumerate" p) [.Call (.Name "zip" p2) [e1, e2] [] pos2] [] pos) X.env)
      (fun v s' => ∃ e z TI TO i1 i2 a b H1, v = .ref e ∧ Inv X pins σ H1 s' ∧ EZ s'.heap H1 e z TI TO i1 i2 a b 0 ∧ (∀ c ∈ ezL e z TI TO i1 i2, FpOk X pins H1 c ∧ c ≠ a ∧ c ≠ b) ∧ R a b H1) X.xe s := by
  refine Call_ (ld_blt I hgE hmE boot_enumerate (PyProof.Rows.callWith_type1 ?_ hs1 rfl))
  rw [hs1]
  refine Calls.spliced_cons ?_
  refine wpAny_mono (Q := fun v s' => ∃ z TI TO i1 i2 a b H1, v = .ref z ∧ Inv X pins σ H1 s' ∧ (ZipSt s'.heap z TI TO i1 i2 a b 0 (fun T => ∃ xs, H1 T = some (.tup xs))) ∧ (∀ c ∈ [z, TI, TO, i1, i2], c < s'.heap.objs.size ∧ FpOk X pins H1 c ∧ c ≠ a ∧ c ≠ b) ∧ a < s'.heap.objs.size ∧ b < s'.heap.objs.size ∧ IsZip s'.heap z TI TO .none ∧ R a b H1) ?_ (fun v s1 hv => ?_) fun _ _ q => q
  · refine Call_ (ld_blt I hgZ hmZ PyProof.Rows.boot_zip (PyProof.Rows.callWith_type1 (thn (ha.run pos2 pins s σ H _ I h) fun us s1 ⟨vs, H1, I1, r1, q1⟩ => ?_) hs hpl))
    obtain ⟨a, b, xs, ys, ex, hqx, hqy, q⟩ := q1
    subst ex
    cases r1 with
    | cons r rr =>
      cases rr with
      | cons r' rr =>
        cases rr
        cases r
        cases r'
        obtain ⟨its, rv, p1, _⟩ := I1.list hqx
        obtain ⟨its2, rv2, p2, _⟩ := I1.list hqy
        have la : a < s1.heap.objs.size := p1.lt
        have lb : b < s1.heap.objs.size := p2.lt
        refine call_zip_2 p1.isList p2.isList fun h' hz hTI hTO h1 h2 hsz hk => ?_
        have I2 : Inv X pins σ H1 { s1 with heap := h' } := I1.kept (t' := s1.toks) hk
        refine ⟨s1.heap.objs.size + 4, s1.heap.objs.size + 2, s1.heap.objs.size + 3, s1.heap.objs.size, s1.heap.objs.size + 1, a, b, H1, rfl, I2, ⟨PySem.W.ktu_apart s1.heap.objs.size a b la lb, .inl hz, hTI, ⟨_, _, hTO⟩, h1, h2⟩, fun c hcm => ?_, ?_, ?_, hz, q⟩
        · have e' : c = s1.heap.objs.size + 4 ∨ c = s1.heap.objs.size + 2 ∨ c = s1.heap.objs.size + 3 ∨ c = s1.heap.objs.size ∨ c = s1.heap.objs.size + 1 := by simpa using hcm
          have hle : s1.heap.objs.size ≤ c ∧ c < s1.heap.objs.size + 5 := by
            rcases e' with z | z | z | z | z <;> rw [z]
            · exact ⟨Nat.le_add_right _ _, Nat.lt_succ_self _⟩
            · exact ⟨Nat.le_add_right _ _, Nat.add_lt_add_left (by decide) _⟩
            · exact ⟨Nat.le_add_right _ _, Nat.add_lt_add_left (by decide) _⟩
            · exact ⟨Nat.le_refl _, Nat.lt_add_of_pos_right (by decide)⟩
            · exact ⟨Nat.le_add_right _ _, Nat.add_lt_add_left (by decide) _⟩
          refine ⟨?_, I1.fpOk hle.1 (I1.hok.fresh hle.1), Nat.ne_of_gt (Nat.lt_of_lt_of_le la hle.1), Nat.ne_of_gt (Nat.lt_of_lt_of_le lb hle.1)⟩
          show c < h'.objs.size
          rw [hsz]
          exact hle.2
        · show a < h'.objs.size
          rw [hsz]
          exact Nat.lt_of_lt_of_le la (Nat.le_add_right _ _)
        · show b < h'.objs.size
          rw [hsz]
          exact Nat.lt_of_lt_of_le lb (Nat.le_add_right _ _)
  · obtain ⟨z, TI, TO, i1, i2, a, b, H1, rfl, I1, zs, hfp, la, lb, hz, q⟩ := hv
    refine Calls.spliced_nil ?_
    refine call_enum_any (it := z) (h1 := s1.heap) (fun prog w A E Q q => wpAny_pyIter_zip hz q) fun he => ?_
    have hne : ∀ c, c ∈ [z, TI, TO, i1, i2] → s1.heap.objs.size ≠ c := fun c hc => Nat.ne_of_gt (hfp c hc).1
    have up : ∀ (c : Addr) (o : Obj), s1.heap.get? c = some o → (s1.heap.push { cls := .type "enumerate", data := .fields #[.none, .bool false, .ref z, rawInt 0, .none, .none] }).get? c = some o := fun c o q => Heap.get?_push_of_some _ q
    refine ⟨s1.heap.objs.size, z, TI, TO, i1, i2, a, b, H1, rfl, I1.kept (t' := s1.toks) up, ⟨⟨.none, he⟩, ?_, hne z (by simp), hne TI (by simp), hne TO (by simp), hne i1 (by simp), hne i2 (by simp)⟩, fun c hc => ?_, q⟩
    · obtain ⟨D, _, hTI, ⟨c1, c2, hTO⟩, h1', h2'⟩ := zs
      exact ⟨D, .inl (up _ _ hz), up _ _ hTI, ⟨c1, c2, up _ _ hTO⟩, h1'.at fun o q => up _ _ q, h2'.at fun o q => up _ _ q⟩
    · rcases List.mem_cons.mp hc with w | w
      · rw [w]
        exact ⟨I1.fpOk (Nat.le_refl _) (I1.hok.fresh (Nat.le_refl _)), Nat.ne_of_gt la, Nat.ne_of_gt lb⟩
      · exact (hfp c w).2
/-- the state moved on, the iterators kept -/
theorem EZ.at {h : Heap} {H' : Hp} (ez : EZ h H e z TI TO i1 i2 a b k) (m : Mor H H') (I : Inv X pins σ H' s) (hk : ∀ c ∈ ezL e z TI TO i1 i2, ∀ o, h.get? c = some o → s.heap.get? c = some o) (hn : ∀ c ∈ ezL e z TI TO i1 i2, H' c = none) : EZ s.heap H' e z TI TO i1 i2 a b k := by
  obtain ⟨⟨old, he⟩, ⟨D, hz, hTI, ⟨c1, c2, hTO⟩, h1', h2'⟩, n1, n2, n3, n4, n5⟩ := ez
  refine ⟨⟨old, hk e (by simp) _ he⟩, ⟨D, ?_, hk TI (by simp) _ hTI, ⟨c1, c2, hk TO (by simp) _ hTO⟩, h1'.at fun o q => hk i1 (by simp) _ q, h2'.at fun o q => hk i2 (by simp) _ q⟩, n1, n2, n3, n4, n5⟩
  rcases hz with hz | ⟨T, f1, oT, hz, hT3, ct, t1, t2, t3, t4, xs, tP⟩
  · exact .inl (hk z (by simp) _ hz)
  · have tP' : H' T = some (.tup xs) := m _ _ (fun _ e => nomatch e) tP
    have q := I.hok T _ tP'
    obtain ⟨_, vs, _, ⟨o, ho, hc, _⟩⟩ := q
    exact .inr ⟨T, f1, o, hk z (by simp) _ hz, ho, hc, t1, t2, t3, t4, xs, tP'⟩
end
end K17


set_option maxHeartbeats 4000000
/-! K17H6: Field.run's body, from wake to wake -/
namespace K17
open PySem PySem.Spec PyProof.Rows L2 GenW
/-- what a run is given -/
structure RD where
  fx : Addr
  TU : Addr
  DA : Addr
  RW : Addr
  F : Fi
  s0 : StD
  tt : List Addr
  tus : List (List Str)
  ks : List Nat
  m' : Int
  H0 : Hp
structure RD.Ok (K : PySem.W.Frag) (D : RD) : Prop where
  fld : FieldAt K D.H0 D.fx D.F
  fo : FieldOk D.F
  tu : D.H0 D.TU = some (.lst (D.tt.map V.ref))
  nt : All2 (NamesT K D.H0) D.tt D.tus
  da : D.H0 D.DA = some (.lst (intsN D.ks))
  tk : ∀ i tu, D.tus[i]? = some tu → i < D.ks.length → TurnOk D.F.plots D.F.groups tu
  rt : D.RW ≠ D.TU
  rd : D.RW ≠ D.DA
  sm : D.ks.length ≤ 30
def RD.n (D : RD) : Nat := min D.tus.length D.ks.length
/-- i days out -/
structure RI (K : PySem.W.Frag) (D : RD) (i : Nat) (H : Hp) (a : Addr) (cur : StD) (pre : List StD) (rs : List Addr) : Prop where
  bt : But [D.RW] D.H0 H
  st : StandAt K H a cur
  so : StOk D.F cur
  rows : H D.RW = some (.lst (rs.map V.ref))
  all : All2 (StandAt K H) rs pre
  len : rs.length = i
  wk : walk D.F D.s0 D.tus D.ks 0 = (pre ++ (walk D.F cur (D.tus.drop i) (D.ks.drop i) i).1, (walk D.F cur (D.tus.drop i) (D.ks.drop i) i).2)
  ch : chain D.F cur.mood ((D.ks.take D.tus.length).drop i) D.m'
def DoneN (K : PySem.W.Frag) (D : RD) (H' : Hp) : Prop := ∃ rs, But [D.RW] D.H0 H' ∧ H' D.RW = some (.lst (rs.map V.ref)) ∧ All2 (StandAt K H') rs (walk D.F D.s0 D.tus D.ks 0).1 ∧ (walk D.F D.s0 D.tus D.ks 0).2 = none
def DoneE (K : PySem.W.Frag) (D : RD) : XK := fun cls d H' => cls = .ref (CDr K) ∧ ∃ (d' : Addr) (nm : Str) (k : Nat) (rs : List Addr), d = some d' ∧ H' d' = some (.xd (drFs (.str nm) (.int k))) ∧ But [D.RW] D.H0 H' ∧ H' D.RW = some (.lst (rs.map V.ref)) ∧ All2 (StandAt K H') rs (walk D.F D.s0 D.tus D.ks 0).1 ∧ (walk D.F D.s0 D.tus D.ks 0).2 = some (nm, k)
theorem RI.mor {K : PySem.W.Frag} {D : RD} {i : Nat} {H H' : Hp} {a : Addr} {cur : StD} {pre : List StD} {rs : List Addr} (r : RI K D i H a cur pre rs) (x : Ext H H') : RI K D i H' a cur pre rs :=
  ⟨r.bt.ext x, r.st.mor x.mor, r.so, x.get r.rows, r.all.imp fun _ _ q => q.mor x.mor, r.len, r.wk, r.ch⟩
theorem EZ.ext {h : Heap} {H H' : Hp} {e z TI TO i1 i2 a b : Addr} {k : Nat} (ez : EZ h H e z TI TO i1 i2 a b k) (m : Mor H H') : EZ h H' e z TI TO i1 i2 a b k := by
  obtain ⟨en, ⟨D, hz, hTI, hTO, h1', h2'⟩, n1, n2, n3, n4, n5⟩ := ez
  refine ⟨en, ⟨D, ?_, hTI, hTO, h1', h2'⟩, n1, n2, n3, n4, n5⟩
  rcases hz with hz | ⟨T, f1, oT, hz, hT3, ct, t1, t2, t3, t4, xs, tP⟩
  · exact .inl hz
  · exact .inr ⟨T, f1, oT, hz, hT3, ct, t1, t2, t3, t4, xs, m _ _ (fun _ e => nomatch e) tP⟩
theorem EZ.objs {h : Heap} {H : Hp} {e z TI TO i1 i2 a b : Addr} {k : Nat} (ez : EZ h H e z TI TO i1 i2 a b k) : ∀ c ∈ ezL e z TI TO i1 i2, ∃ o, h.get? c = some o ∧ ∀ v, o.data ≠ .cell v := fun c hc => by
  obtain ⟨⟨old, he⟩, ⟨D, hz, hTI, ⟨c1, c2, hTO⟩, h1', h2'⟩, n1, n2, n3, n4, n5⟩ := ez
  have hc' : c = e ∨ c = z ∨ c = TI ∨ c = TO ∨ c = i1 ∨ c = i2 := by simpa using hc
  rcases hc' with w | w | w | w | w | w <;> rw [w]
  · exact ⟨_, he, fun v q => nomatch q⟩
  · rcases hz with hz | ⟨T, f1, oT, hz, _⟩
    · exact ⟨_, hz, fun v q => nomatch q⟩
    · exact ⟨_, hz, fun v q => nomatch q⟩
  · exact ⟨_, hTI, fun v q => nomatch q⟩
  · exact ⟨_, hTO, fun v q => nomatch q⟩
  · obtain ⟨o, ho, _, hd⟩ := h1'
    exact ⟨o, ho, fun v q => by rw [hd] at q; cases q⟩
  · obtain ⟨o, ho, _, hd⟩ := h2'
    exact ⟨o, ho, fun v q => by rw [hd] at q; cases q⟩
theorem inv_gens {X : Cx} {pins : List (Addr × Obj)} {σ : L2.St} {H : Hp} {s : Shared} {g' : Array GenState} (I : Inv X pins σ H s) (h : AllBare g') : Inv X pins σ H { s with gens := g' } :=
  ⟨I.ok, I.os, h, I.base, I.loc, I.cell, I.free, I.freeC, I.pin, I.hok, I.len⟩
theorem inv_setGen {X : Cx} {pins : List (Addr × Obj)} {σ : L2.St} {H : Hp} {s : Shared} {g : Nat} {x : GenState} (I : Inv X pins σ H s) (h : x.bare = true) : Inv X pins σ H (s.setGen g x) := inv_gens I (allBare_setGen I.bare h)
theorem xe_setGen {X : Cx} {W : WX} {u : Value} {s : Shared} {g : Nat} {x : GenState} (h : XE X W u s) (hb : x.bare = true) : XE X W u (s.setGen g x) := by
  obtain ⟨a, B, sI, pins, σ, H, cls, d, e, I, nb, up, sky, na, os, ag, w⟩ := h
  exact ⟨a, B, sI, pins, σ, H, cls, d, e, I, nb, up, sky, na, os, allBare_setGen ag hb, w⟩
/-- where the generator stands, seen from its consumer -/
structure GAt (X : Cx) (pins : List (Addr × Obj)) (σw : L2.St) (D : RD) (L : Addr) (cd : Value) (ga : Addr) (go : Obj) (e z TI TO i1 i2 : Addr) (i : Nat) (H : Hp) (s : Shared) : Prop where
  inv : Inv X pins σw H s
  loc : ∃ (a : Addr) (v4 v5 v6 : Option V) (cur : StD) (pre : List StD) (rs : List Addr), LocG X.K L cd [some (.ref D.fx), some (.ref a), some (.ref D.TU), some (.ref D.DA), v4, v5, v6] s.heap ∧ RI X.K D i H a cur pre rs
  ez : EZ s.heap H e z TI TO i1 i2 D.TU D.DA i
  ob : s.heap.get? ga = some go
  low : L ≤ s.heap.objs.size
  fr : ∀ c ∈ L :: ga :: ezL e z TI TO i1 i2, H c = none
/-- what the consumer must keep while the generator sleeps -/
abbrev Kept (l : List Addr) (s s' : Shared) : Prop := ∀ c ∈ l, ∀ o, s.heap.get? c = some o → s'.heap.get? c = some o
def YR (X : Cx) (pins : List (Addr × Obj)) (σw : L2.St) (D : RD) (ga : Addr) (go : Obj) : Protocol := fun n s₀ v s1 kap =>
  ∃ (i : Nat) (H' : Hp) (r : Addr) (rs : List Addr) (op : List Addr), n + i = D.n ∧ i < D.n ∧ v = .ref r ∧ Inv X pins σw H' s1 ∧ s1.heap.get? ga = some go ∧ H' D.RW = some (.lst (rs.map V.ref)) ∧ rs.length = i ∧ ga ∈ op ∧
    (∀ c ∈ op, H' c = none ∧ c ∉ frs X.stack ∧ c ≠ X.env.locals ∧ (∃ o, s1.heap.get? c = some o ∧ ∀ v, o.data ≠ .cell v)) ∧
    ∀ s'', Inv X pins σw (upd H' D.RW (.lst (rs.map V.ref ++ [.ref r]))) s'' → Kept op s1 s'' → kap (.send .none) s''
def RR (X : Cx) (pins : List (Addr × Obj)) (σw : L2.St) (D : RD) (ga : Addr) (go : Obj) : GenEnd := fun n s₀ r s1 =>
  ((r = .ok (.ret .none) ∨ r = .ok .next) ∧ ∃ H', Inv X pins σw H' s1 ∧ DoneN X.K D H') ∨ ∃ e, r = .error e ∧ s1.heap.get? ga = some go ∧ NotStop (model X.prog X.w) e s1.heap ∧ XE X (fun cls d σ' H' => σ' = σw ∧ DoneE X.K D cls d H') e s1
section
variable {X : Cx} {pins : List (Addr × Obj)} {σw : L2.St} {D : RD} {L : Addr} {cd : Value} {ga : Addr} {go : Obj} {e z TI TO i1 i2 : Addr} {i n : Nat} {H : Hp} {s s₀ : Shared}
abbrev GX (X : Cx) (D : RD) (cd : Value) (L : Addr) (s : Shared) (H : Hp) (ga : Addr) (go : Obj) : Cx := genCx X cd L s H (DoneE X.K D) [(ga, go)]
abbrev J0 (X : Cx) (L : Addr) (cd : Value) : Value → Sem PySem.Fin := fun e => (leaving (envG X.K L cd) e).wrap (fun _ => .raise e) .raise id id
/-- an exception leaves the frame -/
theorem gen_out (hns : NoStop X.K (DoneE X.K D)) (b : BelowN X pins L) (I : Inv X pins σw H s) {x : Value} {s' : Shared} {body : List Stmt} (hx : (GX X D cd L s H ga go).xe x s') :
    Seg (model X.prog X.w) X.A.in1 (RR X pins σw D ga go) (YR X pins σw D ga go) n s₀ (.func body (envG X.K L cd)) (J0 X L cd x) [] s' := by
  refine seg_wrap ?_
  rw [over_func]
  refine wpAny_mono (show wpAny (model X.prog X.w) (X.A.in1.deeper (envG X.K L cd)) (leaving (envG X.K L cd) x) (fun _ s'' => L2.CX X.prog X.w X.stack H { s with heap := cutH s.heap L } (DoneE X.K D) x s'' ∧ ∀ p ∈ [(ga, go)], s''.heap.get? p.1 = some p.2) (fun _ _ => False) s' from hx) (fun _ s'' q => ?_) fun _ s'' q => q.elim
  refine seg_end (.error x) (.inr ⟨x, rfl, q.2 (ga, go) (by simp), ?_, XE.of_callN b I (fun _ _ _ q => ⟨rfl, q⟩) q.1⟩)
  refine notStop_of hns ?_ q.1
  obtain ⟨a, B, H', cls, d, _, fl, _, ub, _⟩ := id q.1
  have bL : X.base.objs.size ≤ L := Nat.le_trans I.ok.bsz (Nat.le_trans I.ok.above (Nat.le_of_lt b.loc))
  refine I.ok.mod.kin.keeps fun b o eb => fl.1 b o (ub.keep b o ?_ (I.bs b o eb).2 fun hm => ?_)
  · show (cutH s.heap L).get? b = some o
    rw [cutH_get (Nat.lt_of_lt_of_le (Heap.lt_size eb) bL)]
    exact (I.bs b o eb).1
  · rcases List.mem_cons.mp (I.stkSub b hm) with z | z
    · have h1 := Heap.lt_size eb
      have h2 := Nat.le_trans I.ok.bsz I.ok.above
      rw [z] at h1
      exact absurd (Nat.lt_of_lt_of_le h1 h2) (Nat.lt_irrefl _)
    · exact I.ok.nofr eb z
end
end K17


set_option maxHeartbeats 4000000
/-! K17H7: Field.run's loop -/
namespace K17
open PySem PySem.Spec PyProof.Rows L2 GenW
theorem LocG.at {K : PySem.W.Frag} {L : Addr} {cd : Value} {σ : L2.St} {h h' : Heap} (l : LocG K L cd σ h) (k : ∀ o, h.get? L = some o → h'.get? L = some o) : LocG K L cd σ h' := by
  obtain ⟨m, hm, q⟩ := l
  refine ⟨m, hm.at' k, fun i x v h1 h2 h3 => ?_⟩
  obtain ⟨u, ru, lk⟩ := q i x v h1 h2 h3
  refine ⟨u, ru, ?_⟩
  rcases lk with lk | ⟨lk, _⟩
  · exact .inl lk
  · exact absurd lk kindG'
def rawPins (h : Heap) (l : List Addr) : List (Addr × Obj) := l.filterMap fun c => (h.get? c).map fun o => (c, o)
theorem rawPins_mem {h : Heap} {l : List Addr} {p : Addr × Obj} : p ∈ rawPins h l ↔ p.1 ∈ l ∧ h.get? p.1 = some p.2 := by
  unfold rawPins
  rw [List.mem_filterMap]
  constructor
  · rintro ⟨c, hc, e⟩
    cases q : h.get? c with
    | none => rw [q] at e; cases e
    | some o => rw [q] at e; cases e; exact ⟨hc, q⟩
  · rintro ⟨hc, e⟩
    exact ⟨p.1, hc, by rw [e]; rfl⟩
abbrev KF : Flow → Sem PySem.Fin := fun f => .pure (.done (.ret (match f with | .ret v => v | _ => .none)))
abbrev KK (env : Env) (J : Value → Sem PySem.Fin) : Flow → Sem PySem.Fin := fun f => match f with | .next => (execs [] env).wrap KF J id id | f => KF f
abbrev tgR : Expr := match d_run.body with | [.For tg _ _ _ _] => tg | _ => .Name "" ⟨0, 0, 0, 0⟩
abbrev itR : Expr := match d_run.body with | [.For _ it _ _ _] => it | _ => .Name "" ⟨0, 0, 0, 0⟩
abbrev bodyR : List Stmt := match d_run.body with | [.For _ _ body _ _] => body | _ => []
abbrev posR : Pos := match d_run.body with | [.For _ _ _ _ pos] => pos | _ => ⟨0, 0, 0, 0⟩
abbrev st0R : Stmt := match bodyR with | [a, _] => a | _ => .Pass ⟨0, 0, 0, 0⟩
abbrev st1R : Stmt := match bodyR with | [_, a] => a | _ => .Pass ⟨0, 0, 0, 0⟩
theorem runR : d_run.body = [.For tgR itR bodyR [] posR] := rfl
theorem bodyR_eq : bodyR = [st0R, st1R] := rfl
theorem ndG : NG.Nodup := by decide +kernel
section
variable {X : Cx} {pins : List (Addr × Obj)} {σw : L2.St} {D : RD} {L : Addr} {cd : Value} {ga : Addr} {go : Obj} {e z TI TO i1 i2 : Addr}
abbrev frm (X : Cx) (L : Addr) (cd : Value) (c : Code) (p : Pos) : Frame := .ret (fun r => ((match r with | .ok f => (.pure f : Sem Flow) | .error e => .raise e).onRaise (cameBack (envG X.K L cd))).wrap (KK (envG X.K L cd) (J0 X L cd)) (J0 X L cd) id id) none (id false) (id []) c p []
theorem run_loop (T : Txt X.K X.mg) (DT : PySem.DrX.DrTxt X.prog X.K X.mg (CDr X.K) (IDr X.K)) (hns : NoStop X.K (DoneE X.K D)) (hc : X.calm = true) (b : BelowN X pins L) (hD : D.Ok X.K) (hr : Room 6 (X.A.in1.deeper (envG X.K L cd)))
    (hgo : ∀ v, go.data ≠ .cell v) (hst : ∀ c ∈ ezL e z TI TO i1 i2, L < c ∧ c ≠ ga) (hLg : L < ga) {body0 : List Stmt} {p : Pos} :
    ∀ (n i : Nat) (H : Hp) (s s₀ : Shared), n + i = D.n + 1 → i ≤ D.n → GAt X pins σw D L cd ga go e z TI TO i1 i2 i H s →
      Seg (model X.prog X.w) X.A.in1 (RR X pins σw D ga go) (YR X pins σw D ga go) n s₀ (.forLoop tgR (.ref e) bodyR [] (envG X.K L cd)) ((model X.prog X.w).den (.forLoop tgR (.ref e) bodyR [] (envG X.K L cd))) [frm X L cd (.func body0 (envG X.K L cd)) p] s := by
  intro n
  induction n with
  | zero => intro i H s s₀ h1 h2; omega
  | succ n ih =>
    intro i H s s₀ hn hi G
    obtain ⟨I, ⟨a, v4, v5, v6, cur, pre, rs, hloc, hR⟩, ez, hob, hlow, hfr⟩ := G
    have hfL : H L = none := hfr L (by simp)
    have hfg : H ga = none := hfr ga (by simp)
    have ns : ∀ c, L ≤ c → c ∉ frs X.stack := fun c h m => absurd (stk_lt b I c m) (Nat.not_lt.mpr h)
    have J : Inv (GX X D cd L s H ga go) [] [some (.ref D.fx), some (.ref a), some (.ref D.TU), some (.ref D.DA), v4, v5, v6] H s := inv_gen hc b hlow I hloc rfl hfL fun p hp => by
      have e' : p = (ga, go) := List.mem_singleton.mp hp
      rw [e']
      exact ⟨hob, hfg, Nat.ne_of_gt hLg, ns ga (Nat.le_of_lt hLg), hgo⟩
    have over : X.A.in1.over (.forLoop tgR (.ref e) bodyR [] (envG X.K L cd)) [frm X L cd (.func body0 (envG X.K L cd)) p] = (GX X D cd L s H ga go).A := (over_loop rfl rfl).trans over_func
    have fp : ∀ c ∈ ezL e z TI TO i1 i2, FpOk (GX X D cd L s H ga go) [] H c := fun c hc => by
      obtain ⟨q1, q2⟩ := hst c hc
      refine ⟨hfr c (List.mem_cons_of_mem _ (List.mem_cons_of_mem _ hc)), Nat.ne_of_gt q1, ns c (Nat.le_of_lt q1), .inr ?_, fun x d h => absurd (show ([] : List (Str × Addr)).lookup x = some d from h) (by simp), fun p hp => ?_⟩
      · show (cutH s.heap L).objs.size ≤ c
        rw [cutH_size hlow]
        exact Nat.le_of_lt q1
      · have e' : p = (ga, go) := List.mem_singleton.mp hp
        rw [e']
        exact q2.symm
    have ee : ∀ (n : Nat) (s₀ : Shared) (x : Value) (s' : Shared), (GX X D cd L s H ga go).xe x s' → Seg (model X.prog X.w) X.A.in1 (RR X pins σw D ga go) (YR X pins σw D ga go) n s₀ (.forLoop tgR (.ref e) bodyR [] (envG X.K L cd)) (escH (envG X.K L cd) x) [frm X L cd (.func body0 (envG X.K L cd)) p] s' := fun n s₀ x s' hx => by
      refine seg_wrap ?_
      rw [over]
      have cb : ∀ (y : Value) (s'' : Shared), cameBackBy (model X.prog X.w) (GX X D cd L s H ga go).A (envG X.K L cd) (GX X D cd L s H ga go).xe y s'' → Seg (model X.prog X.w) X.A.in1 (RR X pins σw D ga go) (YR X pins σw D ga go) n s₀ (.func body0 (envG X.K L cd)) (((Sem.raise y : Sem Flow).onRaise (cameBack (envG X.K L cd))).wrap (KK (envG X.K L cd) (J0 X L cd)) (J0 X L cd) id id) [] s'' := fun y s'' h => by
        show Seg _ _ _ _ _ _ _ (((cameBack (envG X.K L cd) y).bind fun _ => (Sem.raise y : Sem Flow)).wrap (KK (envG X.K L cd) (J0 X L cd)) (J0 X L cd) id id) _ _
        rw [Sem.bind_eq_wrap, Sem.wrap_wrap]
        refine seg_wrap ?_
        rw [over_func]
        exact wpAny_mono h (fun _ s3 hx => gen_out hns b I hx) fun x3 s3 hx => gen_out hns b I hx
      refine wpAny_bind (wpAny_mono (owns_gen x s' hx) (fun _ s'' hcb => wpAny_theTreesLotGoes ?_) fun y s'' hcb => ?_)
      · exact seg_leaf (.error x) (cb x s'' hcb)
      · exact seg_leaf (.error y) (cb y s'' hcb)
    refine seg_forLoop ?_
    rw [over]
    have tU : H D.TU = some (.lst (D.tt.map V.ref)) := hR.bt.keep _ _ (by simpa using Ne.symm hD.rt) hD.tu
    have dA : H D.DA = some (.lst (intsN D.ks)) := hR.bt.keep _ _ (by simpa using Ne.symm hD.rd) hD.da
    have htl : D.tt.length = D.tus.length := hD.nt.1
    by_cases hlt : i < D.n
    · have hiT : i < D.tus.length := by unfold RD.n at hlt; omega
      have hiK : i < D.ks.length := by unfold RD.n at hlt; omega
      have htu : D.tus[i]? = some D.tus[i] := List.getElem?_eq_getElem hiT
      have hkd : D.ks[i]? = some D.ks[i] := List.getElem?_eq_getElem hiK
      obtain ⟨ta, hta, hnt⟩ := hD.nt.get htu
      have htk := hD.tk i _ htu hiK
      obtain ⟨kd, hkd'⟩ : ∃ kd, kd = D.ks[i] := ⟨_, rfl⟩
      rw [← hkd'] at hkd
      obtain ⟨tu, htu'⟩ : ∃ tu, tu = D.tus[i] := ⟨_, rfl⟩
      rw [← htu'] at htu hnt htk
      -- the day
      have hch := hR.ch
      have hiTk : i < (D.ks.take D.tus.length).length := by rw [List.length_take]; omega
      rw [List.drop_eq_getElem_cons hiTk] at hch
      obtain ⟨ds, dd, hds, hdd, hch'⟩ := hch
      have ek : (D.ks.take D.tus.length)[i] = kd := by rw [List.getElem_take, hkd']
      rw [ek] at hdd
      have hday : dayAt D.F cur kd = some dd := by unfold dayAt; rw [hds]; exact hdd
      refine ez_item (xs := D.tt.map V.ref) (ys := intsN D.ks) (x := .ref ta) (y := .int kd) tgR ⟨_, _, _, rfl⟩ J ez fp tU dA (get_map hta) (get_map hkd) fun T1 T2 s1 hT1 hT2 fp2 hgo2 => ?_
      have x1 : Ext H (upd (upd H T1 (.tup [.ref ta, .int kd])) T2 (.tup [.int (i : Nat), .ref T1])) := (Ext.upd hT1).trans (Ext.upd hT2)
      have t1 : SqT X.K (upd (upd H T1 (.tup [.ref ta, .int kd])) T2 (.tup [.int (i : Nat), .ref T1])) T1 [.ref ta, .int kd] := SqT.of (by rw [upd_ne (ne_of_none upd_same hT2)]; exact upd_same)
      have t2 : SqT X.K (upd (upd H T1 (.tup [.ref ta, .int kd])) T2 (.tup [.int (i : Nat), .ref T1])) T2 [.int (i : Nat), .ref T1] := SqT.of upd_same
      revert x1 t1 t2 fp2 hgo2
      generalize (upd (upd H T1 (.tup [.ref ta, .int kd])) T2 (.tup [.int (i : Nat), .ref T1])) = H2
      intro fp2 hgo2 x1 t1 t2
      refine wpAny_bind (hgo2 _ _ _ fun s2 J2 ez2 => ?_)
      have R2 := hR.mor x1
      -- the iterators pinned
      have J2p : Inv (GX X D cd L s H ga go) (rawPins s2.heap (ezL e z TI TO i1 i2)) [some (.ref D.fx), some (.ref a), some (.ref D.TU), some (.ref D.DA), v4, v5, v6] H2 s2 := J2.pins_of fun p hp => by
        obtain ⟨q1, q2⟩ := rawPins_mem.mp hp
        obtain ⟨q3, q4, q5, _⟩ := fp2 p.1 q1
        obtain ⟨o, ho, hno⟩ := ez2.objs p.1 q1
        rw [q2] at ho
        cases ho
        exact ⟨q2, q3, q4, q5, hno⟩
      refine wpAny_mono ((pg_tup (X := GX X D cd L s H ga go) rfl (pgs_cons (pg_name (i := 4) ndG rfl (Or.inl rfl)) (pgs_cons (pg_tup rfl (pgs_cons (pg_name (i := 5) ndG rfl (Or.inl rfl)) (pgs_cons (pg_name (i := 6) ndG rfl (Or.inl rfl)) pgs_nil))) pgs_nil))).run _ s2 _ H2 (.ref T2) (.ref T2) (fun σ' H' => σ' = [some (.ref D.fx), some (.ref a), some (.ref D.TU), some (.ref D.DA), some (.int (i : Nat)), some (.ref ta), some (.int kd)] ∧ H' = H2) J2p rfl
        ⟨T2, _, rfl, t2, rfl, _, _, rfl, _, _, rfl, T1, _, rfl, t1, rfl, _, _, rfl, _, _, rfl, rfl, rfl, rfl, rfl⟩) (fun _ s3 hs3 => ?_) fun x s' hx => ee _ _ x s' hx
      obtain ⟨σ3, H3, J3, eσ3, eH3⟩ := hs3
      rw [eσ3, eH3] at J3
      rw [bodyR_eq]
      refine seg_execs_cons (seg_wrap ?_)
      rw [← bodyR_eq, over]
      refine wpAny_mono ((ps_set (X := GX X D cd L s H ga go) (i := 1) ndG rfl (Or.inl rfl) (pe_ix ix_tup (pe_m (d := d_wholeday) (pv 0) T.c_Field T.m_wholeday (ok_wholeday T DT) hr (passes_call takes_gen fun _ _ _ _ q => q) (pa_cons (pv 1) (pa_cons (pv 5) (pa_cons (pv 6) (pa_cons (pv 4) pa_nil))))) pe_int (fun _ _ => rfl))).run _ s3 _ _
        { nx := fun σ' H' => ∃ (r : Addr) (st' : StD) (pre' : List StD), σ' = [some (.ref D.fx), some (.ref r), some (.ref D.TU), some (.ref D.DA), some (.int (i : Nat)), some (.ref ta), some (.int kd)] ∧ Ext H2 H' ∧ H' D.RW = some (.lst (rs.map V.ref)) ∧
          (∀ H'' : Hp, But [D.RW] D.H0 H'' → H'' D.RW = some (.lst ((rs ++ [r]).map V.ref)) → Mor H' H'' → RI X.K D (i + 1) H'' r st' pre' (rs ++ [r])), rt := fun _ _ => False } J3 ?_) (fun f s4 hs4 => ?_) fun x s' hx => ee _ _ x s' hx
      · have b2 := hR.bt.ext x1
        obtain ⟨fdx, gr, we, tt0, am, hf, hg, hw⟩ := hD.fld
        have hf2 := ins_mor b2.mor hf
        have dok := dayAt_ok hD.fo hday
        refine ⟨_, rfl, D.fx, fdx, _, rfl, hf2, by kernel_rfl, _, rfl, _, rfl, _, rfl, _, rfl, D.fx, a, ta, kd, i, D.F, cur, tu, dd, rfl, hD.fld.mor b2.mor, hD.fo, R2.st, hR.so, sqT_mor b2.mor hnt, htk, hday, fun nm hstp d H' x' hd0 hxd => ?_, fun s' hstp r t sp H' x' ht hr' => ?_⟩
        · have zz := walk_dries hR.wk htu hkd hday hstp
          refine ⟨rfl, d, nm, i, rs, rfl, hxd, b2.ext x', x'.get R2.rows, ?_, ?_⟩
          · rw [zz]
            exact R2.all.imp fun _ _ q => q.mor x'.mor
          · rw [zz]
        · refine ⟨t, _, _, _, rfl, rfl, ht, atI_nat (j := 0) (v := V.ref r) rfl, r, s', pre ++ [s'], rfl, x', x'.get R2.rows, fun H'' b'' r'' m'' => ?_⟩
          have hmood : s'.mood = dd.mood := by
            unfold stepD at hstp
            cases q : dryAt (svF D.F.plots tu cur.levels cur.tank) dd.dry D.F.plots.length with
            | some j =>
              rw [q] at hstp
              dsimp only at hstp
              have hj : j < D.F.plots.length := by
                unfold dryAt at q
                exact List.mem_range.mp (List.mem_of_find?_eq_some q)
              rw [List.getElem?_eq_getElem hj] at hstp
              cases hstp
            | none =>
              rw [q] at hstp
              have e := Sum.inr.inj hstp
              rw [← e]
          exact ⟨b'', hr'.mor m'', stepD_ok hD.fo hR.so dok hstp, r'', (R2.all.imp fun _ _ q => (q.mor x'.mor).mor m'').snoc (hr'.mor m''), by simp [hR.len], walk_turn hR.wk htu hkd hday hstp, by rw [hmood]; exact hch'⟩
      · cases f with
        | brk => obtain ⟨_, _, _, q⟩ := hs4; exact False.elim q
        | cont => obtain ⟨_, _, _, q⟩ := hs4; exact False.elim q
        | ret u => obtain ⟨_, _, _, _, _, q⟩ := hs4; exact False.elim q
        | next =>
          obtain ⟨_, H4, J4, r, st', pre', rfl, x4, hR4, hnext⟩ := hs4
          dsimp only
          refine seg_execs_cons ?_
          refine seg_Expr_Yield rfl rfl rfl ?_
          rw [over]
          refine wpAny_mono ((pv (X := GX X D cd L s H ga go) 1).run _ s4 _ H4 (fun v H' => v = .ref r ∧ H' = H4) J4 ⟨_, rfl, rfl, rfl⟩) (fun v s5 hv => ?_) fun x s' hx => ee _ _ x s' hx
          obtain ⟨y5, H5, J5, rv, ey5, eH5⟩ := hv
          rw [eH5] at J5
          rw [ey5] at rv
          cases rv
          intro kap hkap
          obtain ⟨I5, loc5, hL5⟩ := gen_back b I J5
          have pe : ∀ c ∈ ezL e z TI TO i1 i2, ∀ o, s2.heap.get? c = some o → s5.heap.get? c = some o ∧ H4 c = none ∧ ∀ v, o.data ≠ .cell v := fun c hc o ho => by
            obtain ⟨q1, q2, _, _, q3⟩ := J5.pin (c, o) (List.mem_append_right _ (rawPins_mem.mpr ⟨hc, ho⟩))
            exact ⟨q1, q2, q3⟩
          obtain ⟨g1, g2, _, _, g3⟩ := J5.pin (ga, go) (List.mem_append_left _ (List.mem_singleton.mpr rfl))
          have hops : ∀ c ∈ L :: ga :: ezL e z TI TO i1 i2, H4 c = none ∧ L ≤ c ∧ ∃ o, s5.heap.get? c = some o ∧ ∀ v, o.data ≠ .cell v := fun c hc => by
            rcases List.mem_cons.mp hc with q | hc
            · rw [q]
              obtain ⟨m, ⟨o, es, ep, ho, hd, _⟩, _⟩ := loc5
              exact ⟨hL5, Nat.le_refl _, o, ho, fun v q => by rw [hd] at q; cases q⟩
            · rcases List.mem_cons.mp hc with q | hc
              · rw [q]
                exact ⟨g2, Nat.le_of_lt hLg, go, g1, g3⟩
              · obtain ⟨o, ho, _⟩ := ez2.objs c hc
                obtain ⟨q1, q2, q3⟩ := pe c hc o ho
                exact ⟨q2, Nat.le_of_lt (hst c hc).1, o, q1, q3⟩
          refine ⟨i, H4, r, rs, L :: ga :: ezL e z TI TO i1 i2, by omega, hlt, rfl, I5, g1, hR4, hR.len, by simp, fun c hc => ?_, fun s'' I6 kp => ?_⟩
          · obtain ⟨q1, q2, q3⟩ := hops c hc
            exact ⟨q1, ns c q2, Nat.ne_of_gt (Nat.lt_of_lt_of_le b.loc q2), q3⟩
          · refine hkap .none s'' ?_
            have mR : Mor H4 (upd H4 D.RW (.lst (rs.map V.ref ++ [.ref r]))) := Mor.lst hR4
            have b2 := hR.bt.ext (x1.trans x4)
            have nn : ∀ c ∈ L :: ga :: ezL e z TI TO i1 i2, (upd H4 D.RW (.lst (rs.map V.ref ++ [.ref r]))) c = none := fun c hc => by
              obtain ⟨q1, _⟩ := hops c hc
              rw [upd_ne]
              · exact q1
              · intro w
                rw [w, hR4] at q1
                cases q1
            have hL6 : ∃ o, s''.heap.get? L = some o := by
              obtain ⟨_, _, o, ho, _⟩ := hops L (by simp)
              exact ⟨o, kp L (by simp) o ho⟩
            have hrow : (upd H4 D.RW (.lst (rs.map V.ref ++ [.ref r]))) D.RW = some (.lst ((rs ++ [r]).map V.ref)) := by rw [upd_same, List.map_append]; rfl
            have hbut : But [D.RW] D.H0 (upd H4 D.RW (.lst (rs.map V.ref ++ [.ref r]))) := b2.trans (But.upd hR4)
            refine seg_again rfl (ih (i + 1) _ s'' s'' (by omega) (by omega) ⟨I6, ⟨r, _, _, _, st', pre', rs ++ [r], loc5.at fun o ho => kp L (by simp) o ho, hnext _ hbut hrow mR⟩, ?_, kp ga (by simp) go g1, ?_, nn⟩)
            · exact EZ.at ez2 (x4.mor.trans mR) I6 (fun c hc o ho => kp c (List.mem_cons_of_mem _ (List.mem_cons_of_mem _ hc)) o (pe c hc o ho).1) fun c hc => nn c (List.mem_cons_of_mem _ (List.mem_cons_of_mem _ hc))
            · obtain ⟨o, ho⟩ := hL6
              exact Nat.le_of_lt (Heap.lt_size ho)
    · have hend : D.tus.length ≤ i ∨ D.ks.length ≤ i := by
        unfold RD.n at hlt
        omega
      refine ez_stop (J.ok.hd rfl) J ez fp tU dA (by
        rcases hend with q | q
        · exact .inl (by rw [List.length_map]; omega)
        · exact .inr (by unfold intsN; rw [List.length_map]; exact q)) fun s1 J1 => ?_
      refine seg_leaf (.ok .next) ?_
      show Seg _ _ _ _ _ _ _ (leafOf (.ok (.ret .none))) [] s1
      obtain ⟨I1, _, _⟩ := gen_back b I J1
      have zz := walk_end hR.wk hend
      refine seg_end (.ok (.ret .none)) (.inl ⟨.inl rfl, H, I1, rs, hR.bt, hR.rows, ?_, ?_⟩)
      · rw [zz]; exact hR.all
      · rw [zz]
end
end K17


set_option maxHeartbeats 4000000
/-! K17H8: Field.run called; its first wake -/
namespace K17
open PySem PySem.Spec PyProof.Rows L2 GenW
theorem b_run {K : PySem.W.Frag} {fd : FuncData} (F : FnD K d_run fd) : Binds K fd ["self", "standing", "turns", "days"] [] := FunD.bindsN F fun _ _ _ _ _ _ us hl => match us, hl with | [_, _, _, _], _ => rfl
theorem gscope : GScope NG ["self", "standing", "turns", "days"] d_run.scope := ⟨rfl, rfl, rfl, ndG, rfl, by decide +kernel, by decide +kernel⟩
section
variable {X : Cx} {pins : List (Addr × Obj)} {σw : L2.St} {D : RD} {L : Addr} {cd : Value} {ga : Addr} {go : Obj} {e z TI TO i1 i2 : Addr}
/-- the generator before its first wake -/
structure GAt0 (X : Cx) (pins : List (Addr × Obj)) (σw : L2.St) (D : RD) (L : Addr) (cd : Value) (ga : Addr) (go : Obj) (a : Addr) (H : Hp) (s : Shared) : Prop where
  inv : Inv X pins σw H s
  loc : LocG X.K L cd [some (.ref D.fx), some (.ref a), some (.ref D.TU), some (.ref D.DA), none, none, none] s.heap
  ri : RI X.K D 0 H a D.s0 [] []
  ob : s.heap.get? ga = some go
  low : L ≤ s.heap.objs.size
  frL : H L = none
  frg : H ga = none
theorem run_start (T : Txt X.K X.mg) (DT : PySem.DrX.DrTxt X.prog X.K X.mg (CDr X.K) (IDr X.K)) (hns : NoStop X.K (DoneE X.K D)) (hc : X.calm = true) (b : BelowN X pins L) (hD : D.Ok X.K) (hr : Room 6 (X.A.in1.deeper (envG X.K L cd)))
    (hzip : X.mg "zip" = none) (hgo : ∀ v, go.data ≠ .cell v) (hLg : L < ga) {a : Addr} {H : Hp} {s s₀ : Shared} (G : GAt0 X pins σw D L cd ga go a H s) :
    Seg (model X.prog X.w) X.A.in1 (RR X pins σw D ga go) (YR X pins σw D ga go) (D.n + 1) s₀ (.func d_run.body (envG X.K L cd)) ((model X.prog X.w).den (.func d_run.body (envG X.K L cd))) [] s := by
  obtain ⟨I, hloc, hR, hob, hlow, hfL, hfg⟩ := G
  have ns : ∀ c, L ≤ c → c ∉ frs X.stack := fun c h m => absurd (stk_lt b I c m) (Nat.not_lt.mpr h)
  have J : Inv (GX X D cd L s H ga go) [] [some (.ref D.fx), some (.ref a), some (.ref D.TU), some (.ref D.DA), none, none, none] H s := inv_gen hc b hlow I hloc rfl hfL fun p hp => by
    have e' : p = (ga, go) := List.mem_singleton.mp hp
    rw [e']
    exact ⟨hob, hfg, Nat.ne_of_gt hLg, ns ga (Nat.le_of_lt hLg), hgo⟩
  refine seg_func ?_
  rw [runR]
  refine seg_execs_cons ?_
  have tU : H D.TU = some (.lst (D.tt.map V.ref)) := hR.bt.keep _ _ (by simpa using Ne.symm hD.rt) hD.tu
  have dA : H D.DA = some (.lst (intsN D.ks)) := hR.bt.keep _ _ (by simpa using Ne.symm hD.rd) hD.da
  refine seg_For (fun _ => rfl) ?_
  rw [over_func]
  refine wpAny_mono (ez_make (X := GX X D cd L s H ga go) (R := fun a b H1 => a = D.TU ∧ b = D.DA ∧ H1 = H) rfl rfl T.z_enumerate hzip (pa_cons (pv 2) (pa_cons (pv 3) pa_nil)) J ⟨_, rfl, _, rfl, D.TU, D.DA, _, _, rfl, SqL.of tU, SqL.of dA, rfl, rfl, rfl⟩) (fun v s1 hv => ?_) fun x s' hx => gen_out hns b I hx
  obtain ⟨e, z, TI, TO, i1, i2, a', b', H1, rfl, J1, ez, hfp, rfl, rfl, hH1⟩ := hv
  subst hH1
  refine wpAny_pyIter_enum ez.en.choose_spec fun p => ?_
  obtain ⟨I1, loc1, _⟩ := gen_back b I J1
  obtain ⟨g1, g2, _, _, g3⟩ := J1.pin (ga, go) (List.mem_append_left _ (List.mem_singleton.mpr rfl))
  refine run_loop T DT hns hc b hD hr hgo (fun c hc => ?_) hLg (D.n + 1) 0 H1 s1 s₀ rfl (Nat.zero_le _) ⟨I1, ⟨a, _, _, _, D.s0, [], [], loc1, hR⟩, ez, g1, ?_, fun c hc => ?_⟩
  · obtain ⟨⟨q1, q2, q3, q4, q5, q6⟩, _⟩ := hfp c hc
    have q4' : L ≤ c := by
      rcases q4 with h | h
      · exact absurd (show c ∈ ([] : List Addr) from h) (by simp)
      · have h' : (cutH s.heap L).objs.size ≤ c := h
        rw [cutH_size hlow] at h'
        exact h'
    exact ⟨Nat.lt_of_le_of_ne q4' (Ne.symm q2), (q6 (ga, go) (List.mem_append_left _ (List.mem_singleton.mpr rfl))).symm⟩
  · obtain ⟨m, hm, _⟩ := loc1
    exact Nat.le_of_lt hm.lt
  · rcases List.mem_cons.mp hc with q | hc
    · rw [q]; exact hfL
    · rcases List.mem_cons.mp hc with q | hc
      · rw [q]; exact hfg
      · exact (hfp c hc).1.1
end
/-- a generator object of number g -/
def GoOk (go : Obj) (g : Nat) : Prop := ∃ nm qn, go.cls = .type "generator" ∧ go.data = .fields #[.int g 0, nm, qn] ∧ go.slots = #[]
section
variable {X : Cx} {pins : List (Addr × Obj)} {σ : L2.St} {H : Hp} {s : Shared} {E : Value → Shared → Prop} {k : Nat} {fx a TU DA : Addr}
/-- f.run(a, turns, days): the generator stands -/
theorem gen_made (T : Txt X.K X.mg) (hc : X.calm = true) (hr : Room k X.A) (I : Inv X pins σ H s) : wpAny (model X.prog X.w) X.A (call (.ref (d_run.at_ X.K)) [.ref fx, .ref a, .ref TU, .ref DA]) (fun u s' => ∃ (L ga : Addr) (cd : Value) (go : Obj) (g : Nat), u = .ref ga ∧ BelowN X pins L ∧ L < ga ∧ GoOk go g ∧ s'.gens[g]? = some (.fresh (.func d_run.body (envG X.K L cd))) ∧
      Inv X pins σ H s' ∧ LocG X.K L cd [some (.ref fx), some (.ref a), some (.ref TU), some (.ref DA), none, none, none] s'.heap ∧ s'.heap.get? ga = some go ∧ L ≤ s'.heap.objs.size ∧ H L = none ∧ H ga = none) E s := by
  obtain ⟨fd, F⟩ := T.f_run
  obtain ⟨oc, od, dV, kV, doc, pm, an, cdv, ct, osl, rfl, lk, hcd, _, _⟩ := F.ex
  have e0 : Env0 X.prog X.w X.K X.mg X.base X.A X.stack s H := I.env0
  have KX : X.K.In s.heap := e0.mod.kin.keeps fun b o e => (e0.bs b o e).1
  have lim : s.heap.NoLimit := e0.mod.nolimit.keeps fun b o e => (e0.bs b o e).1
  have r : Vals [V.ref fx, V.ref a, V.ref TU, V.ref DA] [Value.ref fx, .ref a, .ref TU, .ref DA] := .cons rfl (.cons rfl (.cons rfl (.cons rfl .nil)))
  have hkind : ∀ y ∈ (["self", "standing", "turns", "days"] : List Str).zip [Value.ref fx, .ref a, .ref TU, .ref DA], d_run.scope.names.lookup y.1 = some .local ∨ (d_run.scope.names.lookup y.1 = some .cell ∧ ((cellsFrom (s.heap.objs.size + 1) d_run.scope.names []).lookup y.1).isSome = true) := fun ⟨n, v⟩ hy => by
    rcases gscope.par n (List.of_mem_zip hy).1 with q | q
    · exact .inl q
    · exact .inr ⟨q, PySem.W.cellsFrom_some _ _ _ (.inl q)⟩
  refine wpAny_call ?_
  refine codeAny_call_generator hr.depth (KX _ _ lk) rfl gscope.co gscope.gen rfl (PySem.W.codeRec_of KX hcd) ((b_run F) s [Value.ref fx, .ref a, .ref TU, .ref DA] KX rfl _ _ _ _ ?_)
  refine wpAny_newFunctionEnv_cells gscope.kind hkind fun env he s1 x => ?_
  subst he
  refine ⟨lim.keeps x.toInCall.keep, ?_⟩
  have I1 := inv_startG (E := fun _ _ _ => False) gscope (I.ok.hd hc) e0 rfl r x
  obtain ⟨h1, tk, es1, hk1⟩ := x.done
  have lt1 : s.heap.objs.size < s1.heap.objs.size := x.toInCall.ns.lt
  have loc1 : LocG X.K s.heap.objs.size cdv [some (.ref fx), some (.ref a), some (.ref TU), some (.ref DA), none, none, none] s1.heap := I1.loc
  have kp1 : ∀ b o, s.heap.get? b = some o → s1.heap.get? b = some o := x.toInCall.keep
  refine ⟨s.heap.objs.size, s1.heap.objs.size, cdv, _, s1.gens.size, rfl, K17.Inv.belowN I, lt1, ⟨_, _, rfl, rfl, rfl⟩, Array.getElem?_push_size .., ?_, loc1.at fun o ho => Heap.get?_push_of_some _ ho, Heap.get?_push_size _ rfl, ?_, I.hok.fresh (Nat.le_refl _), I.hok.fresh (Nat.le_of_lt lt1)⟩
  · rw [es1]
    refine inv_gens (I.kept fun b o e => Heap.get?_push_of_some _ ?_) (AllBare.push I.bare rfl)
    have q := kp1 b o e
    rw [es1] at q
    exact q
  · show _ ≤ (s1.heap.push _).objs.size
    rw [Heap.size_push]
    exact Nat.le_succ_of_le (Nat.le_of_lt lt1)
end
end K17


set_option maxHeartbeats 4000000
/-! K17H9: the loop over Field.run -/
namespace K17
open PySem PySem.Spec PyProof.Rows L2 GenW
section
variable {X : Cx} {pins : List (Addr × Obj)} {σ σ' : L2.St} {H : Hp} {s : Shared}
theorem inv_weak (I : Inv X pins σ H s) (hl : σ'.length = σ.length) (h : ∀ (i : Nat) (v : V), σ'[i]? = some (some v) → σ[i]? = some (some v)) : Inv X pins σ' H s :=
  ⟨I.ok, I.os, I.bare, I.base, let ⟨m, hm, q⟩ := I.loc; ⟨m, hm, fun i x v h1 h2 h3 => q i x v h1 (h i v h2) h3⟩, I.cell, I.free, I.freeC, I.pin, I.hok, hl.trans I.len⟩
theorem ns_fun {h : Heap} {a : Addr} {m m' : Str → Option Value} (h1 : h.Ns a m) (h2 : h.Ns a m') (x : Str) : m x = m' x := by
  obtain ⟨o, es, ep, ho, hd, _, f⟩ := h1
  obtain ⟨o', es', ep', ho', hd', _, f'⟩ := h2
  rw [ho] at ho'
  cases ho'
  rw [hd] at hd'
  cases hd'
  rw [← f, ← f']
/-- a name that the state does not tell is stored -/
theorem inv_storeL {h' : Heap} {t' : Nat} {m' : Str → Option Value} (I : Inv X pins σ H s) (hn' : h'.Ns X.env.locals m') (hs : Heap.SameBut X.env.locals s.heap h')
    {m : Str → Option Value} (hn0 : s.heap.Ns X.env.locals m) (hm : ∀ (i : Nat) (x : Str) (v : V), X.N[i]? = some x → σ[i]? = some (some v) → m' x = m x) : Inv X pins σ H { s with heap := h', toks := t' } := by
  obtain ⟨m1, hn, hl⟩ := id I.loc
  have cne := I.cne
  refine ⟨I.ok, I.os, I.bare, ⟨fun b o e n hb hx => ?_, fun b o e n hb hx => ?_, I.base.free, fun b o e hx => ?_, I.base.tups, I.base.frzs, I.base.tbls⟩, ⟨m', hn', fun i x v e1 e2 e3 => ?_⟩, fun y c e => ?_, I.free, I.freeC, fun p hp => ?_, fun b ob e => ?_, I.len⟩
  · exact (hs.2 b (Nat.ne_of_lt (Nat.lt_of_lt_of_le (Heap.lt_size e) I.ok.above))).trans (I.base.keep b o e n hb hx)
  · obtain ⟨sl, e1⟩ := I.base.slot b o e n hb hx
    exact ⟨sl, (hs.2 b (Nat.ne_of_lt (Nat.lt_of_lt_of_le (Heap.lt_size e) I.ok.above))).trans e1⟩
  · obtain ⟨o', e1⟩ := I.base.there b o e hx
    exact ⟨o', (hs.2 b (Nat.ne_of_lt (Nat.lt_of_lt_of_le (Heap.lt_size e) I.ok.above))).trans e1⟩
  · obtain ⟨u', r', q⟩ := hl i x v e1 e2 e3
    refine ⟨u', r', ?_⟩
    rcases q with ⟨k, e⟩ | ⟨k, c, e, z⟩
    · exact .inl ⟨k, ((hm i x v e1 e2).trans (ns_fun hn0 hn x)).trans e⟩
    · exact .inr ⟨k, c, e, z.sameBut hs (cne x c e)⟩
  · obtain ⟨w', z⟩ := I.cell y c e
    exact ⟨w', z.sameBut hs (cne y c e)⟩
  · obtain ⟨e, n, ne, nf, d⟩ := I.pin p hp
    exact ⟨(hs.2 p.1 ne).trans e, n, ne, nf, d⟩
  · refine (I.hok b ob e).stay (fun c w' hc q => (hs.2 c ?_).trans q) (fun _ q => q) fun _ _ q => q
    intro hc'
    have hfree := I.free
    rcases hc with q | q
    · rw [← q, hc', hfree] at e; cases e
    · rw [hc', hfree] at q; cases q
end
end K17


set_option maxHeartbeats 4000000
/-! K17HA: the loop over Field.run -/
namespace K17
open PySem PySem.Spec PyProof.Rows L2 GenW
abbrev NR : List Str := ["_law_field", "_law_standing_here", "_law_turns", "_law_days", "_law_rows", "_law_after", "e"]
theorem ndR : NR.Nodup := by decide +kernel
abbrev forS : Stmt := match d_lrun.body with | [.Try [f] _ _ _ _, _] => f | _ => .Pass ⟨0, 0, 0, 0⟩
abbrev tgS : Expr := match forS with | .For tg _ _ _ _ => tg | _ => .Name "" ⟨0, 0, 0, 0⟩
abbrev itS : Expr := match forS with | .For _ it _ _ _ => it | _ => .Name "" ⟨0, 0, 0, 0⟩
abbrev bodyS : List Stmt := match forS with | .For _ _ body _ _ => body | _ => []
abbrev posS : Pos := match forS with | .For _ _ _ _ pos => pos | _ => ⟨0, 0, 0, 0⟩
theorem forS_eq : forS = .For tgS itS bodyS [] posS := rfl
abbrev envR (K : PySem.W.Frag) (L : Addr) (cd : Value) : Env := envOfC d_lrun.qual d_lrun.scope L (d_lrun.at_ K) cd
structure IsR (X : Cx) : Prop where
  n : X.N = NR
  e : ∃ L cd, X.env = envR X.K L cd
section
variable {X : Cx} {pins : List (Addr × Obj)} {σ : L2.St} {H : Hp} {s : Shared} {E : Value → Shared → Prop} {D : RD} {a : Addr} {v5 v6 : Option V}
abbrev RXd (Y : Cx) (L : Addr) (cd : Value) : Cx := { Y with N := NR, env := envR Y.K L cd }
/-- the generator is called for -/
theorem eval_run (T : Txt X.K X.mg) {k : Nat} {L : Addr} {cd : Value} (hc : X.calm = true) (hr : Room k X.A) (I : Inv (RXd X L cd) pins [some (.ref D.fx), some (.ref a), some (.ref D.TU), some (.ref D.DA), some (.ref D.RW), v5, v6] H s) (hf : FieldAt X.K H D.fx D.F) :
    wpAny (model (RXd X L cd).prog (RXd X L cd).w) (RXd X L cd).A (eval itS (RXd X L cd).env) (fun u s' => ∃ (L' ga : Addr) (cd' : Value) (go : Obj) (g : Nat), u = .ref ga ∧ BelowN (RXd X L cd) pins L' ∧ L' < ga ∧ GoOk go g ∧ s'.gens[g]? = some (.fresh (.func d_run.body (envG X.K L' cd'))) ∧
      Inv (RXd X L cd) pins [some (.ref D.fx), some (.ref a), some (.ref D.TU), some (.ref D.DA), some (.ref D.RW), v5, v6] H s' ∧ LocG X.K L' cd' [some (.ref D.fx), some (.ref a), some (.ref D.TU), some (.ref D.DA), none, none, none] s'.heap ∧ s'.heap.get? ga = some go ∧ L' ≤ s'.heap.objs.size ∧ H L' = none ∧ H ga = none) (RXd X L cd).xe s := by
  obtain ⟨fdx, gr, we, tt0, am, hfi, _⟩ := hf
  refine PySem.W.methodCall_KW (thn ((pv (X := RXd X L cd) 0).run pins s _ H (fun v H' => v = .ref D.fx ∧ H' = H) I ⟨_, rfl, rfl, rfl⟩) fun u s1 ⟨x, H1, I1, rx, ex, eH⟩ => ?_) rfl
  subst ex
  obtain rfl : u = Value.ref D.fx := rx
  rw [eH] at I1
  refine getmeth_ok (X := RXd X L cd) I1 hfi T.c_Field T.m_run (by kernel_rfl) ?_
  refine PySem.W.callWith_K (first := [.ref D.fx]) (h₀ := X.base) I.ok.mod.kin T.m_run.kp (thn ((pa_cons (X := RXd X L cd) (pv 1) (pa_cons (pv 2) (pa_cons (pv 3) pa_nil))).run _ pins s1 _ H (fun vs H' => vs = [.ref a, .ref D.TU, .ref D.DA] ∧ H' = H) I1 ⟨_, rfl, _, rfl, _, rfl, rfl, rfl⟩) fun us s2 ⟨vs, H2, I2, r, ev, eH2⟩ => ⟨I2.kIn, ?_⟩) rfl rfl
  subst ev
  rw [eH2] at I2
  cases r with
  | cons r1 rr => cases rr with
    | cons r2 rr => cases rr with
      | cons r3 rr =>
        cases rr
        cases r1
        cases r2
        cases r3
        exact gen_made (X := RXd X L cd) T hc hr I2
/-- `_law_rows.append(_law_after)`, told by the state -/
theorem append_raw {L : Addr} {cd : Value} {m : Str → Option Value} {RW r : Addr} {xs : List V} {σw : L2.St} {Q : Flow → Shared → Prop} {A : Around} (I : Inv (RXd X L cd) pins σw H s) (hn : s.heap.Ns L m) (hm1 : m "_law_rows" = some (.ref RW)) (hm2 : m "_law_after" = some (.ref r)) (hRW : H RW = some (.lst xs)) (hz : xs.length < sizeLine)
    (hQ : ∀ h' t', (∀ c o, c ≠ RW → s.heap.get? c = some o → h'.get? c = some o) → Inv (RXd X L cd) pins σw (upd H RW (.lst (xs ++ [.ref r]))) { s with heap := h', toks := t' } → Q .next { s with heap := h', toks := t' }) :
    wpAny (model X.prog X.w) A (execs bodyS (envR X.K L cd)) Q E s := by
  obtain ⟨z, its, n, rv, hl, e⟩ := I.lstM hRW
  refine wpAny_execs_cons (wpAny_Expr_any ?_ rfl rfl)
  refine wpAny_Call_method_late rfl rfl rfl rfl ?_
  refine wpAny_Name (wpAny_loadName_local rfl rfl hn hm1 ?_) (by decide)
  refine ⟨"list", "list.append", PySem.F.plainAttrs_list, PySem.F.slot_list_append, PySem.F.type_list_append, ⟨_, e, rfl⟩, fun a ea => ?_, Calls.callWith_builtin rfl (Calls.evalArgs_plain (Calls.spliced_cons ?_))⟩
  · cases ea
    exact ⟨_, e, rfl⟩
  · refine wpAny_Name (wpAny_loadName_local rfl rfl hn hm2 ?_) (by decide)
    refine Calls.spliced_nil ?_
    refine call_meets F.slot_list_append ⟨_, e, rfl⟩ F.entry_list_append (F.args_list_append_2 _ _) (PySem.list_append RW its.toArray n (.ref r) (by rw [List.size_toArray]; omega)) ⟨e, ?_⟩
    refine wpAny_execs_nil (hQ _ _ (fun c o hc q => (Heap.get?_update_other _ _ (Ne.symm hc)).trans q) ?_)
    refine I.lset (its' := its ++ [.ref r]) hRW e (by simp) (rv.append (.cons (show RelV (.ref r) (.ref r) from rfl) .nil)) ?_
    rw [List.length_append, List.length_singleton]
    omega
def σR (D : RD) (a : Addr) (v6 : Option V) : L2.St := [some (.ref D.fx), some (.ref a), some (.ref D.TU), some (.ref D.DA), some (.ref D.RW), none, v6]
def tForR (K : PySem.W.Frag) (W : WX) : TS := fun DD σ H => ∃ (D : RD) (a : Addr) (v5 v6 : Option V), σ = [some (.ref D.fx), some (.ref a), some (.ref D.TU), some (.ref D.DA), some (.ref D.RW), v5, v6] ∧ D.H0 = H ∧ D.Ok K ∧ RI K D 0 H a D.s0 [] [] ∧
      (∀ H', DoneN K D H' → DD.nx (σR D a v6) H') ∧ ∀ cls d H', DoneE K D cls d H' → W cls d (σR D a v6) H'
theorem ps_forRun {L : Addr} {cd : Value} (T : Txt X.K X.mg) (DT : PySem.DrX.DrTxt X.prog X.K X.mg (CDr X.K) (IDr X.K)) (hns : ∀ D, NoStop X.K (DoneE X.K D)) (hzip : X.mg "zip" = none) (hc : X.calm = true) (hr : Room 8 X.A) {W : WX} (tk : Takes (RXd X L cd) W) (hp : PassesOwn (model X.prog X.w) X.A (envR X.K L cd) X.xe) :
    PS (RXd X L cd) forS (tForR X.K W) := by
  refine ⟨fun pins s σ H DD I h => ?_⟩
  obtain ⟨D, a, v5, v6, rfl, hH0, hD, hR, kN, kE⟩ := h
  rw [forS_eq]
  refine wpAny_For (thn (eval_run T hc hr I (by rw [← hH0]; exact hD.fld)) fun u s1 ⟨L', ga, cd', go, g, eu, b, hLg, hgo, hgen, I1, loc1, hob, hlow, hfL, hfg⟩ => ?_) (fun _ => rfl)
  subst eu
  obtain ⟨nm, qn, c1, c2, c3⟩ := id hgo
  have isg : ∀ {h : Heap}, h.get? ga = some go → h.IsGen ga g := fun e => ⟨go, nm, qn, e, c1, c2, c3⟩
  have gocell : ∀ v, go.data ≠ .cell v := fun v q => by rw [c2] at q; cases q
  refine wpAny_pyIter_gen (isg hob) ?_
  have Iw : Inv (RXd X L cd) pins (σR D a v6) H s1 := inv_weak I1 rfl fun i v e => by
    match i, e with
    | 0, e => exact e
    | 1, e => exact e
    | 2, e => exact e
    | 3, e => exact e
    | 4, e => exact e
    | 5, e => cases e
    | 6, e => exact e
    | n + 7, e => cases e
  have hr6 : Room 6 ((RXd X L cd).A.in1.deeper (envG (RXd X L cd).K L' cd')) := (hr.in1).deeper _
  refine codeAny_forLoop_any (fun n s' => ∃ H' gs, Inv (RXd X L cd) pins (σR D a v6) H' s' ∧ s'.heap.get? ga = some go ∧ s'.gens[g]? = some gs ∧
    gs.Goes (model X.prog X.w) X.A.in1 (RR (RXd X L cd) pins (σR D a v6) D ga go) (YR (RXd X L cd) pins (σR D a v6) D ga go) n (.send .none) (s'.setGen g .running)) ?_ (D.n + 1)
    ⟨H, _, Iw, hob, hgen, rfl, run_start (X := RXd X L cd) T DT (hns D) hc b hD hr6 hzip gocell hLg ⟨inv_setGen Iw rfl, loc1, hR, hob, hlow, hfL, hfg⟩⟩
  rintro n s3 ⟨H3, gs, I3, ob3, hgs3, hgo3⟩
  have hgl : g < s3.gens.size := (Array.getElem?_eq_some_iff.mp hgs3).1
  have goes : gs.Goes (model X.prog X.w) X.A.in1 (fun n s₀ r s₁ => ((r = .ok (.ret .none) ∨ r = .ok .next) ∧ ∃ H', Inv (RXd X L cd) pins (σR D a v6) H' s₁ ∧ DoneN X.K D H') ∨ ∃ e, r = .error e ∧ (s₁.heap.get? ga = some go ∧ NotStop (model X.prog X.w) e s₁.heap ∧ XE (RXd X L cd) (fun cls d σ' H' => σ' = σR D a v6 ∧ DoneE X.K D cls d H') e s₁)) (YR (RXd X L cd) pins (σR D a v6) D ga go) n (.send .none) (s3.setGen g .running) := hgo3
  refine wpAny_passesOwn hp (wpAny_gsz (n := g + 1) hgl (next_genG (I3.ok.hd hc) I3.nolimit hr.depth (isg ob3) hgs3 goes (fun v s₁ gs' hb hv => ?_) (fun s₁ hF h' hk => ?_) fun e s₁ he => ?_))
  · obtain ⟨i, H', r, rs, op, hn, hi, rfl, I4, g4, hRW, hlen, hga, hop, kap⟩ := hv
    intro hsz
    have hsz1 : g < s₁.gens.size := by
      have q : (s₁.setGen g gs').gens.size = s₁.gens.size := setGen_size _ _ _
      have hsz' : g + 1 ≤ (s₁.setGen g gs').gens.size := hsz
      omega
    cases n with
    | zero => omega
    | succ m =>
      refine wpAny_of_eq (rfl : letOwnedTupleGo tgS (.ref ga) (.ref r) = pure ()) ?_
      obtain ⟨m0, hn0, hl0⟩ := id (inv_setGen (g := g) (x := gs') I4 hb).loc
      refine wpAny_assign_Name (wpAny_storeName_local rfl hn0 (fun h5 hn5 hs5 => ?_) rfl)
      have I5 : Inv (RXd X L cd) pins (σR D a v6) H' { s₁.setGen g gs' with heap := h5, toks := s₁.toks + 1 } := inv_storeL (inv_setGen (g := g) (x := gs') I4 hb) hn5 hs5 hn0 fun i x v e1 e2 => by
        have hne : x ≠ "_law_after" := fun w => by
          subst w
          have h5' : i = 5 := nodup_ix ndR e1 (show NR[5]? = some ("_law_after" : Str) from rfl)
          subst h5'
          cases e2
        exact if_neg hne
      have hm1 : m0 "_law_rows" = some (.ref D.RW) := by
        obtain ⟨u, ru, lk⟩ := hl0 4 "_law_rows" (.ref D.RW) rfl rfl (Or.inl rfl)
        cases ru
        rcases lk with ⟨_, q⟩ | ⟨q, _⟩
        · exact q
        · rcases q with q | q <;> cases q
      have hRWsz : (rs.map V.ref).length < sizeLine := by
        rw [List.length_map]
        have := hD.sm
        unfold RD.n at hi
        exact Nat.lt_of_lt_of_le (show _ < 1000 by omega) (by decide)
      refine append_raw (X := X) I5 hn5 (by rw [if_neg (by decide)]; exact hm1) (if_pos rfl) hRW hRWsz fun h6 t6 hk6 I6 => ?_
      have kept : Kept op s₁ { s₁.setGen g gs' with heap := h6, toks := t6 } := fun c hc o ho => by
        obtain ⟨q1, _, q3, _⟩ := hop c hc
        refine hk6 c o (fun w => ?_) ((hs5.2 c q3).trans ho)
        rw [w, hRW] at q1
        cases q1
      refine ⟨m, Nat.lt_succ_self m, _, gs', I6, kept ga hga go g4, setGen_at hsz1, ?_⟩
      exact kap _ (inv_setGen I6 rfl) kept
  · intro _
    obtain ⟨H', I4, hd⟩ := hF
    exact wpAny_execs_nil ⟨_, H', (inv_setGen (g := g) (x := .finished) I4 rfl).kept (t' := s₁.toks) hk, kN H' hd⟩
  · obtain ⟨q1, q2, q3⟩ := he
    exact ⟨isg q1, q2, fun _ => (Takes.imp (W' := fun c d σ' H => σ' = σR D a v6 ∧ DoneE X.K D c d H) tk fun c d σ H q => by rw [q.1]; exact kE c d H q.2) _ _ (xe_setGen q3 rfl)⟩
end
end K17


set_option maxHeartbeats 4000000
/-! K17HB: _law_run -/
namespace K17
open PySem PySem.Spec PyProof.Rows L2 GenW
section
variable {P : Program} {w : World} {K : PySem.W.Frag} {mg : Str → Option Value} {base : Heap}
def spLRun (K : PySem.W.Frag) : Sp := fun vs H Q _ => ∃ (D : RD) (a : Addr), vs = [.ref D.fx, .ref a, .ref D.TU, .ref D.DA, .ref D.RW] ∧ D.H0 = H ∧ D.Ok K ∧ RI K D 0 H a D.s0 [] [] ∧
  ∀ (v : V) (rs : List Addr) H', But [D.RW] H H' → H' D.RW = some (.lst (rs.map V.ref)) → All2 (StandAt K H') rs (walk D.F D.s0 D.tus D.ks 0).1 → EndV K H' v (walk D.F D.s0 D.tus D.ks 0).2 → Q v H'
theorem ok_lrun (T : Txt K mg) (DT : PySem.DrX.DrTxt P K mg (CDr K) (IDr K)) (hns : ∀ D, NoStop K (DoneE K D)) (hzip : mg "zip" = none) : Ok P w K mg base CX0 9 d_lrun (spLRun K) := by
  refine mkOk (N := NR) (ps := ["_law_field", "_law_standing_here", "_law_turns", "_law_days", "_law_rows"]) T.f_lrun b_lrun ⟨rfl, rfl, rfl, ndR, rfl, by decide +kernel, by decide +kernel⟩ (fun vs H Q E h => ?_) (fun cdv A outer s0 H vs Q E hr h => ?_)
  · obtain ⟨D, a, rfl, _⟩ := h
    rfl
  · obtain ⟨D, a, rfl, hH0, hD, hR, k⟩ := h
    refine ⟨_, pss_cons (ps_try_as (i := 6) (tb := fun W => tForR K W) (Wout := fun _ _ _ _ => False) rfl rfl ndR rfl rfl ⟨rfl, by decide, Or.inl DT.gC⟩ takes0
        (fun W pn xe tk hp => pss_one (by exact (ps_forRun (X := ((cxOf CX0 P w K mg base NR d_lrun.qual d_lrun.scope (d_lrun.at_ K) cdv A outer s0 H E).nox).tr pn xe) T DT hns hzip rfl hr tk hp)))
        (fun a oe cls d pn hz hf => pss_one (ps_ret (pe_tup (pa_cons (pe_byDr DT DT.noP hz hf (pv 6)) (pa_cons (pe_byDr DT DT.noD hz hf (pv 6)) pa_nil))))))
      (pss_one (ps_ret pe_non)), ?_⟩
    refine ⟨D, a, _, _, rfl, hH0, hD, hR, fun H' hd => ?_, fun cls d H' hd => ?_⟩
    · obtain ⟨rs, b, h1, h2, h3⟩ := hd
      refine k .non rs H' (by rw [← hH0]; exact b) h1 h2 ?_
      rw [h3]
      rfl
    · obtain ⟨ec, d', nm, kk, rs, ed, hx, b, h1, h2, h3⟩ := hd
      refine ⟨true, by rw [ec]; exact DT.te, fun _ e he => ?_, fun q => Bool.noConfusion q⟩
      refine ⟨_, rfl, rfl, ec, d', .str nm, .int kk, .str nm, ed, hx, rfl, _, rfl, rfl, ec, d', .str nm, .int kk, .int kk, ed, hx, rfl, by show 2 ≤ sizeLine; decide, fun q hq => ?_⟩
      have m := Mor.new (o := .tup [.str nm, .int kk]) hq
      refine k (.ref q) rs _ ?_ (by rw [upd_ne (ne_of_none h1 hq)]; exact h1) (h2.imp fun _ _ q => q.mor m) ?_
      · rw [← hH0]
        exact b.ext (Ext.upd hq)
      · rw [h3]
        exact ⟨q, rfl, SqT.of upd_same⟩
end
end K17


set_option maxHeartbeats 4000000
/-! K17HC: _law_run_holds -/
namespace K17
open PySem PySem.Spec PyProof.Rows L2 GenW
theorem stepD_name {F : Fi} {s : StD} {tu : List Str} {day : DayD} {nm : Str} (h : stepD F s tu day = .inl nm) : ∃ p ∈ F.plots, p.name = nm := by
  unfold stepD at h
  cases q : dryAt (svF F.plots tu s.levels s.tank) day.dry F.plots.length with
  | none => rw [q] at h; cases h
  | some j =>
    rw [q] at h
    dsimp only at h
    have hj : j < F.plots.length := by
      unfold dryAt at q
      exact List.mem_range.mp (List.mem_of_find?_eq_some q)
    rw [List.getElem?_eq_getElem hj] at h
    exact ⟨_, List.getElem_mem hj, Sum.inl.inj h⟩
theorem walk_name {F : Fi} : ∀ (tus : List (List Str)) (ks : List Nat) (s : StD) (k0 : Nat) (nm : Str) (k : Nat), (walk F s tus ks k0).2 = some (nm, k) → ∃ p ∈ F.plots, p.name = nm
  | [], ks, s, k0, nm, k, h => by unfold walk at h; cases h
  | tu :: tus, [], s, k0, nm, k, h => by unfold walk at h; cases h
  | tu :: tus, d :: ks, s, k0, nm, k, h => by
    unfold walk at h
    cases q : dayAt F s d with
    | none => rw [q] at h; cases h
    | some day =>
      rw [q] at h
      dsimp only at h
      cases z : stepD F s tu day with
      | inl n =>
        rw [z] at h
        have e : n = nm := (Prod.mk.inj (Option.some.inj h)).1
        rw [← e]
        exact stepD_name z
      | inr s' =>
        rw [z] at h
        exact walk_name tus ks s' (k0 + 1) nm k h
def endD : Option (Str × Nat) → PyData
  | none => .none
  | some (nm, k) => .tuple [.str nm, .int k]
theorem EndV.dp {K : PySem.W.Frag} {H : Hp} {v : V} : ∀ {e : Option (Str × Nat)}, EndV K H v e → Dp K H v (endD e)
  | none, h => by
    have e : v = .non := h
    rw [e]
    exact .non
  | some (nm, k), h => by
    obtain ⟨q, e, hq⟩ := h
    rw [e]
    exact .tup hq (.cons (.str _) (.cons (.int _) .nil))
theorem end_sh : ∀ {e : Option (Str × Nat)}, (∀ nm k, e = some (nm, k) → NameOk nm) → Sh 1 (endD e)
  | none, _ => sh_non.mono (by omega)
  | some (nm, k), h => sh_tup fun d hd => by
    have hd' : d = .str nm ∨ d = .int k := by simpa using hd
    rcases hd' with e | e
    · rw [e]; exact sh_str (h nm k rfl)
    · rw [e]; exact sh_int _
section
variable {P : Program} {w : World} {K : PySem.W.Frag} {mg : Str → Option Value} {base : Heap}
abbrev DSt (K : PySem.W.Frag) : Eqv := DIns (CStand K) (EqS K)
theorem mon_DSt : Mon (DSt K) := mon_ins fun a b H H' e h => let ⟨s, h1, h2⟩ := h; ⟨s, h1.mor fun a o _ q => e a o q, h2.mor fun a o _ q => e a o q⟩
theorem prs_st {H : Hp} {rs rs' : List Addr} {ss : List StD} (h : All2 (StandAt K H) rs ss) (h' : All2 (StandAt K H) rs' ss) : Prs (DSt K) (rs.map V.ref) (rs'.map V.ref) H := by
  refine ⟨by rw [List.length_map, List.length_map, h.1, h'.1], fun i x y hx hy => ?_⟩
  obtain ⟨a, ha, rfl⟩ := map_get hx
  obtain ⟨b, hb, rfl⟩ := map_get hy
  obtain ⟨s, hs, ra⟩ := h.get' ha
  have rb := h'.2 i b s hb hs
  obtain ⟨dx, tl, h1, _⟩ := id ra
  obtain ⟨dy, tm, h2, _⟩ := id rb
  exact ⟨a, b, dx, dy, _, _, rfl, rfl, h1, h2, s, ra, rb⟩
/-- what a run is given, its rows not yet made -/
structure RunIn (K : PySem.W.Frag) (H : Hp) (fx a TU DA : Addr) (F : Fi) (s0 : StD) (tt : List Addr) (tus : List (List Str)) (ks : List Nat) (m' : Int) : Prop where
  fld : FieldAt K H fx F
  fo : FieldOk F
  nm : ∀ p ∈ F.plots, NameOk p.name
  st : StandAt K H a s0
  so : StOk F s0
  tu : H TU = some (.lst (tt.map V.ref))
  nt : All2 (NamesT K H) tt tus
  da : H DA = some (.lst (intsN ks))
  tk : ∀ i tu, tus[i]? = some tu → i < ks.length → TurnOk F.plots F.groups tu
  sm : ks.length ≤ 30
  ch : chain F s0.mood (ks.take tus.length) m'
def spLHolds (K : PySem.W.Frag) : Sp := fun vs H Q _ => ∃ (fx a TU DA due : Addr) (F : Fi) (s0 : StD) (tt : List Addr) (tus : List (List Str)) (ks : List Nat) (m' : Int) (v : V) (rs : List Addr), vs = [.ref fx, .ref a, .ref TU, .ref DA, .ref due, v] ∧ RunIn K H fx a TU DA F s0 tt tus ks m' ∧
  H due = some (.lst (rs.map V.ref)) ∧ All2 (StandAt K H) rs (walk F s0 tus ks 0).1 ∧ EndV K H v (walk F s0 tus ks 0).2 ∧ ∀ H', Ext H H' → Q (.bl true) H'
theorem ok_lrunholds (T : Txt K mg) (DT : PySem.DrX.DrTxt P K mg (CDr K) (IDr K)) (hns : ∀ D, NoStop K (DoneE K D)) (hzip : mg "zip" = none) : Ok P w K mg base CX0 10 d_lrunholds (spLHolds K) := by
  have nd : (["_law_field", "_law_begin", "_law_turns", "_law_days", "_law_due", "_law_end", "_law_rows"] : List Str).Nodup := by decide +kernel
  refine mkOk (N := ["_law_field", "_law_begin", "_law_turns", "_law_days", "_law_due", "_law_end", "_law_rows"]) (ps := ["_law_field", "_law_begin", "_law_turns", "_law_days", "_law_due", "_law_end"]) T.f_lrunholds b_lrunholds ⟨rfl, rfl, rfl, nd, rfl, by decide +kernel, by decide +kernel⟩ (fun vs H Q E h => ?_) (fun cdv A outer s0 H vs Q E hr h => ?_)
  · obtain ⟨fx, a, TU, DA, due, F, s0, tt, tus, ks, m', v, rs, rfl, _⟩ := h
    rfl
  · obtain ⟨fx, a, TU, DA, due, F, st0, tt, tus, ks, m', v, rs, rfl, R, hdue, hall, hend, k⟩ := h
    obtain ⟨fdE, FE, bE⟩ := ok_standEq (P := P) (w := w) (base := base) T
    refine ⟨_, pss_cons (ps_set (i := 6) nd rfl (Or.inl rfl) (pe_lst pa_nil))
      (pss_one (ps_ret (pe_and (pe_cmpR (op_eqD hr.units) (pe_f (ok_lrun T DT hns hzip) T.g_lrun hr pass0 (pa_cons (pv 0) (pa_cons (pv 1) (pa_cons (pv 2) (pa_cons (pv 3) (pa_cons (pv 6) pa_nil)))))) (pv 5) (nomark _))
        (pe_one (pe_cmpR (op_eqG (n := 2) (D := DList (DSt K)) (rcG_list mon_DSt (eqG_ins FE T.m_standEq.at_ T.m_standEq.fn bE pass0)) (hr.mono (by decide))) (pv 6) (pv 4) (nomark _)))))), ?_⟩
    refine ⟨Nat.zero_le _, fun RW hRW => ?_⟩
    have x1 : Ext H (upd H RW (.lst [])) := Ext.upd hRW
    refine ⟨_, rfl, _, rfl, _, rfl, _, rfl, _, rfl, ⟨fx, TU, DA, RW, F, st0, tt, tus, ks, m', upd H RW (.lst [])⟩, a, rfl, rfl, ⟨R.fld.mor x1.mor, R.fo, x1.get R.tu, R.nt.imp fun _ _ q => sqT_mor x1.mor q, x1.get R.da, R.tk, (ne_of_none R.tu hRW).symm, (ne_of_none R.da hRW).symm, R.sm⟩,
      ⟨But.refl fun c hc => ⟨[], by rw [List.mem_singleton.mp hc]; exact upd_same⟩, R.st.mor x1.mor, R.so, upd_same, .nil, rfl, rfl, R.ch⟩, fun v' rs' H' b' hR' hall' hend' => ?_⟩
    have x2 : Ext H H' := Ext.of fun c o q => b'.keep c o (by simpa using ne_of_none q hRW) (x1.get q)
    have sh : SeqAt.shaped (endD (walk F st0 tus ks 0).2) = true := (end_sh fun nm k e => by
      obtain ⟨p, hp, ep⟩ := walk_name _ _ _ _ _ _ e
      rw [← ep]
      exact R.nm p hp).ok (by omega)
    refine ⟨_, rfl, _, _, hend'.dp, (hend.mor x2.mor).dp, sh, sh, _, rfl, ?_⟩
    have e1 : PyData.eqv (endD (walk F st0 tus ks 0).2) (endD (walk F st0 tus ks 0).2) = true := SeqAt.eqv_refl _ (end_sh fun nm k e => by
      obtain ⟨p, hp, ep⟩ := walk_name _ _ _ _ _ _ e
      rw [← ep]
      exact R.nm p hp).1
    rw [e1]
    refine iteT ⟨_, rfl, _, rfl, ⟨RW, due, _, _, rfl, rfl, hR', x2.get hdue, prs_st hall' (hall.imp fun _ _ q => q.mor x2.mor)⟩, fun H2 e2 => k H2 (x2.trans (Ext.of e2))⟩
end
end K17


set_option maxHeartbeats 4000000
/-! K17HD: a comprehension over a run of no days -/
namespace K17
open PySem PySem.Spec PyProof.Rows L2 GenW
section
variable {X : Cx} {pins pn : List (Addr × Obj)} {σw : L2.St} {L : Addr} {cd : Value} {H : Hp} {s s₀ : Shared} {fx a TU DA : Addr} {ys : List V} {n : Nat}
def R0 (X : Cx) (pins : List (Addr × Obj)) (σw : L2.St) (H : Hp) (pn : List (Addr × Obj)) : GenEnd := fun n s₀ r s1 => ((r = .ok (.ret .none) ∨ r = .ok .next) ∧ (Inv X pins σw H s1 ∧ ∀ p ∈ pn, s1.heap.get? p.1 = some p.2)) ∨ ∃ e, r = .error e ∧ False
theorem run_stop (T : Txt X.K X.mg) (hc : X.calm = true) (b : BelowN X pins L) (hzip : X.mg "zip" = none) (I : Inv X pins σw H s) (hloc : LocG X.K L cd [some (.ref fx), some (.ref a), some (.ref TU), some (.ref DA), none, none, none] s.heap) (hlow : L ≤ s.heap.objs.size) (hfL : H L = none)
    (hpn : ∀ p ∈ pn, s.heap.get? p.1 = some p.2 ∧ H p.1 = none ∧ L < p.1 ∧ ∀ v, p.2.data ≠ .cell v) (hTU : H TU = some (.lst [])) (hDA : H DA = some (.lst ys)) :
    Seg (model X.prog X.w) X.A.in1 (R0 X pins σw H pn) (fun _ _ _ _ _ => False) n s₀ (.func d_run.body (envG X.K L cd)) ((model X.prog X.w).den (.func d_run.body (envG X.K L cd))) [] s := by
  have ns : ∀ c, L ≤ c → c ∉ frs X.stack := fun c h m => absurd (stk_lt b I c m) (Nat.not_lt.mpr h)
  have J : Inv (genCx X cd L s H (fun _ _ _ => False) pn) [] [some (.ref fx), some (.ref a), some (.ref TU), some (.ref DA), none, none, none] H s := inv_gen hc b hlow I hloc rfl hfL fun p hp => by
    obtain ⟨q1, q2, q3, q4⟩ := hpn p (by simpa using hp)
    exact ⟨q1, q2, Nat.ne_of_gt q3, ns p.1 (Nat.le_of_lt q3), q4⟩
  have out : ∀ (x : Value) (s' : Shared), (genCx X cd L s H (fun _ _ _ => False) pn).xe x s' → Seg (model X.prog X.w) X.A.in1 (R0 X pins σw H pn) (fun _ _ _ _ _ => False) n s₀ (.func d_run.body (envG X.K L cd)) (J0 X L cd x) [] s' := fun x s' hx => by
    refine seg_wrap ?_
    rw [over_func]
    refine wpAny_mono (show wpAny (model X.prog X.w) (X.A.in1.deeper (envG X.K L cd)) (leaving (envG X.K L cd) x) (fun _ s'' => L2.CX X.prog X.w X.stack H { s with heap := cutH s.heap L } (fun _ _ _ => False) x s'' ∧ ∀ p ∈ pn, s''.heap.get? p.1 = some p.2) (fun _ _ => False) s' from hx) (fun _ s'' q => ?_) fun _ s'' q => q.elim
    obtain ⟨⟨_, _, _, _, _, _, _, _, _, _, _, _, q⟩, _⟩ := q
    exact q.elim
  refine seg_func ?_
  rw [runR]
  refine seg_execs_cons ?_
  refine seg_For (fun _ => rfl) ?_
  rw [over_func]
  refine wpAny_mono (ez_make (X := genCx X cd L s H (fun _ _ _ => False) pn) (R := fun a b H1 => a = TU ∧ b = DA ∧ H1 = H) rfl rfl T.z_enumerate hzip (pa_cons (pv 2) (pa_cons (pv 3) pa_nil)) J ⟨_, rfl, _, rfl, TU, DA, _, _, rfl, SqL.of hTU, SqL.of hDA, rfl, rfl, rfl⟩) (fun v s1 hv => ?_) fun x s' hx => (by rw [runR] at out; exact out x s' hx)
  obtain ⟨e, z, TI, TO, i1, i2, a', b', H1, rfl, J1, ez, hfp, rfl, rfl, hH1⟩ := hv
  subst hH1
  refine wpAny_pyIter_enum ez.en.choose_spec fun p => ?_
  show Seg (model X.prog X.w) X.A.in1 (R0 X pins σw H1 pn) _ n s₀ (.forLoop tgR (.ref e) bodyR [] (envG X.K L cd)) ((model X.prog X.w).den (.forLoop tgR (.ref e) bodyR [] (envG X.K L cd))) [frm X L cd (.func d_run.body (envG X.K L cd)) p] s1
  refine seg_forLoop ?_
  have over : X.A.in1.over (.forLoop tgR (.ref e) bodyR [] (envG X.K L cd)) [frm X L cd (.func d_run.body (envG X.K L cd)) p] = (genCx X cd L s H1 (fun _ _ _ => False) pn).A := (over_loop rfl rfl).trans over_func
  rw [over]
  refine ez_stop (J1.ok.hd rfl) J1 ez (fun c hc => (hfp c hc).1) hTU hDA (.inl (Nat.zero_le _)) fun s2 J2 => ?_
  refine seg_leaf (.ok .next) ?_
  show Seg _ _ _ _ _ _ _ (leafOf (.ok (.ret .none))) [] s2
  obtain ⟨I2, _, _⟩ := gen_back b I J2
  exact seg_end (.ok (.ret .none)) (.inl ⟨.inl rfl, I2, fun p hp => (J2.pin p (List.mem_append_left _ hp)).1⟩)
end
def tLcR (K : PySem.W.Frag) (ta : TE) (t : TA) : TE := fun σ H Q => ta σ H fun x H1 => ∃ (fx fdx : Addr) (fs : List (Str × V)), x = .ref fx ∧ H1 fx = some (.ins (CField K) fdx fs) ∧ fs.lookup ("run" : Str) = none ∧ t σ H1 fun vs H2 => ∃ (a TU DA : Addr) (ys : List V), vs = [.ref a, .ref TU, .ref DA] ∧ H2 TU = some (.lst []) ∧ H2 DA = some (.lst ys) ∧ ∀ R, H2 R = none → Q (.ref R) (upd H2 R (.lst []))
theorem ns_empty {h : Heap} {C : Addr} {o : Obj} {n : Nat} (e : h.get? C = some o) (hd : o.data = .dict #[] n) : h.Ns C (fun _ => none) := ⟨o, #[], n, e, hd, fun x hx => by simp at hx, fun _ => rfl⟩
section
variable {X : Cx} {o e elt tg : Expr} {es : List Expr} {apos pos pos' : Pos} {ta : TE} {t : TA} {scope : Scope} {own : List (Str × Nat)} {k : Nat}
theorem pe_lcRun {pl : Sem Bool} (T : Txt X.K X.mg) (hzip : X.mg "zip" = none) (hc : X.calm = true) (hr : Room k X.A) (ok : BlkOk X.N X.env.scope scope own) (he : PE X o ta) (ha : PA X (e :: es) t)
    (hs : ∀ x, foldedSetIterable (.Call (.Attribute o "run" apos) (e :: es) [] pos') X.env x = pure x := by intro _; rfl)
    (hst : starEach (e :: es) X.env = (false, eval e X.env) :: starEach es X.env := by rfl) (hpl : (backTo pos' (starEach es X.env)).any (·.1) = false := by rfl)
    (ht : eval (.Call (.Attribute o "run" apos) (e :: es) [] pos') X.env = (do
      let ov ← eval o X.env
      standAt apos.atName
      let (f, first) ← holding [ov] (getMethod ov "run" pl)
      callWith pos' f first (backTo pos' (starEach (e :: es) X.env)) (backToKw pos' (keywordEach [] X.env))) := by rfl) :
    PE X (.ListComp elt [⟨tg, .Call (.Attribute o "run" apos) (e :: es) [] pos', [], 0⟩] scope pos) (tLcR X.K ta t) := by
  refine ⟨fun pins s σ H Q I h => ?_⟩
  have hfree : ∀ y ∈ scope.names, y.2 = .free → ∃ c, X.env.cells.lookup y.1 = some c := fun y hy e => by
    rcases ok.free y hy e with k | k
    · exact I.ok.has _ (.inl k)
    · exact I.ok.has _ (.inr k)
  rw [eval_ListComp]
  refine wpAny_comprehension_free (use := none) rfl hs (closure_ok hfree) ok.kind (fun y hy e => by rw [ok.uniq y hy, e]) ?_
  show wpAny (model X.prog X.w) X.A (eval (.Call (.Attribute o "run" apos) (e :: es) [] pos') X.env) _ X.xe s
  refine PySem.W.methodCall_KW (pl := pl) (thn (he.run pins s σ H _ I h) fun u s1 ⟨x, H1, I1, rx, fx, fdx, fs, ex, hfx, hl, q⟩ => ?_) ht
  subst ex
  obtain rfl : u = Value.ref fx := rx
  refine getmeth_ok I1 hfx T.c_Field T.m_run hl ?_
  refine PySem.W.callWith_K (first := [.ref fx]) (h₀ := X.base) I.ok.mod.kin T.m_run.kp (thn (ha.run pos' pins s1 σ H1 _ I1 q) fun us s2 ⟨vs, H2, I2, r, a, TU, DA, ys, ev, hTU, hDA, kQ⟩ => ⟨I2.kIn, ?_⟩) hst hpl
  subst ev
  cases r with
  | cons r1 rr => cases rr with
    | cons r2 rr => cases rr with
      | cons r3 rr =>
        cases rr
        cases r1
        cases r2
        cases r3
        refine thn (gen_made (fx := fx) (a := a) (TU := TU) (DA := DA) T hc hr I2) fun u s3 ⟨L, ga, cd, go, g, eu, b, hLg, hgo, hgen, I3, loc3, hob, hlow, hfL, hfg⟩ => ?_
        subst eu
        obtain ⟨nm, qn, c1, c2, c3⟩ := id hgo
        have isg : ∀ {h : Heap}, h.get? ga = some go → h.IsGen ga g := fun e => ⟨go, nm, qn, e, c1, c2, c3⟩
        refine wpAny_pyIter_gen (isg hob) ?_
        refine wpAny_newObj_type (newEnv_comp ?_) (by show 0 ≤ sizeLine; decide)
        generalize hD : s3.heap.objs.size = R
        have hRn : H2 R = none := I3.hok.fresh (Nat.le_of_eq hD)
        have lgR : ga < R := by rw [← hD]; exact Heap.lt_size hob
        generalize hs4 : ({ s3 with heap := s3.heap.push { cls := .type "list", data := .seq ([] : List Value).toArray } } : Shared) = s4
        have I4 : Inv X pins σ (upd H2 R (.lst [])) s4 := by
          rw [← hs4]
          refine I3.laid (t' := s3.toks) (fun b o e => Heap.get?_push_of_some _ e) (Nat.le_of_eq hD) ⟨Nat.zero_le _, [], 0, .nil, ?_⟩
          rw [← hD]
          exact Heap.get?_push_size _ rfl
        have k34 : ∀ c o, s3.heap.get? c = some o → s4.heap.get? c = some o := fun c o q => by rw [← hs4]; exact Heap.get?_push_of_some _ q
        have z4 : s4.heap.objs.size = R + 1 := by rw [← hs4, ← hD]; exact Heap.size_push ..
        have g4 : s4.gens = s3.gens := by rw [← hs4]
        generalize hs5 : ({ s4 with heap := pushCells (s4.heap.push { cls := .type "dict", data := .dict #[] }) scope.names } : Shared) = s5
        have k45 : ∀ c o, s4.heap.get? c = some o → s5.heap.get? c = some o := fun c o q => by rw [← hs5]; exact pushCells_keeps _ _ _ _ (Heap.get?_push_of_some _ q)
        have hC5 : s5.heap.get? s4.heap.objs.size = some { cls := .type "dict", data := .dict #[] } := by rw [← hs5]; exact pushCells_keeps _ _ _ _ (Heap.get?_push_size _ rfl)
        have I5 : Inv X pins σ (upd H2 R (.lst [])) s5 := by
          have q := I4.kept (t' := s4.toks) (h' := pushCells (s4.heap.push { cls := .type "dict", data := .dict #[] }) scope.names) fun c o q => pushCells_keeps _ _ _ _ (Heap.get?_push_of_some _ q)
          rw [← hs5]
          exact q
        have g5 : s5.gens[g]? = some (.fresh (.func d_run.body (envG X.K L cd))) := by rw [← hs5]; show s4.gens[g]? = _; rw [g4]; exact hgen
        have hob5 := k45 _ _ (k34 _ _ hob)
        have hCn : (upd H2 R (.lst [])) s4.heap.objs.size = none := I4.hok.fresh (Nat.le_refl _)
        have fC : FpOk X pins (upd H2 R (.lst [])) s4.heap.objs.size := I4.fpOk (Nat.le_refl _) hCn
        have hTU5 : (upd H2 R (.lst [])) TU = some (.lst []) := by rw [upd_ne (ne_of_none hTU hRn)]; exact hTU
        have hDA5 : (upd H2 R (.lst [])) DA = some (.lst ys) := by rw [upd_ne (ne_of_none hDA hRn)]; exact hDA
        have loop : codeAny (model X.prog X.w) X.A (.compLoop (.ListComp elt [⟨tg, .Call (.Attribute o "run" apos) (e :: es) [] pos', [], 0⟩] scope pos) 0 (.ref ga) (.ref R) (compEnvC scope (cellsFrom (s4.heap.objs.size + 1) scope.names (cloFrom X.env.cells scope.names [])) s4.heap.objs.size X.env)) (compPost (model X.prog X.w) X.A X.xe none (EP X pins σ Q) (.ref R) s4.heap.objs.size) s5 := by
          refine compLoop_any (fun n s' => n = 0 ∧ s' = s5) ?_ 0 ⟨rfl, rfl⟩
          rintro n s' ⟨rfl, rfl⟩
          refine next_genG (n := 0) (F := fun _ _ s1 => Inv X pins σ (upd H2 R (.lst [])) s1 ∧ ∀ p ∈ [(ga, go), (s4.heap.objs.size, ({ cls := .type "dict", data := .dict #[] } : Obj))], s1.heap.get? p.1 = some p.2) (Er := fun _ _ => False) (Y := fun _ _ _ _ _ => False) (I5.ok.hd hc) I5.nolimit hr.depth (isg hob5) g5 ⟨rfl, ?_⟩ (fun v s₁ gs' hb hv => hv.elim) (fun s₁ hF h' hk => ?_) fun e s₁ he => he.elim
          · refine run_stop (pins := pins) (fx := fx) (a := a) (TU := TU) (DA := DA) (ys := ys) T hc b hzip (inv_setGen I5 rfl) (loc3.at fun o q => k45 _ _ (k34 _ _ q)) ?_ ?_ (fun p hp => ?_) hTU5 hDA5
            · exact Nat.le_of_lt (Nat.lt_trans hLg (Heap.lt_size hob5))
            · rw [upd_ne (Nat.ne_of_lt (Nat.lt_trans hLg lgR))]
              exact hfL
            · rcases List.mem_cons.mp hp with q | q
              · rw [q]
                exact ⟨hob5, by rw [upd_ne (Nat.ne_of_lt lgR)]; exact hfg, hLg, fun v q => by rw [c2] at q; cases q⟩
              · rw [List.mem_singleton.mp q]
                exact ⟨hC5, hCn, by rw [z4]; exact Nat.lt_succ_of_lt (Nat.lt_trans hLg lgR), fun v q => nomatch q⟩
          · obtain ⟨I6, p6⟩ := hF
            have hC6 := hk _ _ (p6 (s4.heap.objs.size, ({ cls := .type "dict", data := .dict #[] } : Obj)) (List.mem_cons_of_mem _ (List.mem_singleton.mpr rfl)))
            have I7 := (inv_setGen (g := g) (x := .finished) I6 rfl).kept (t' := s₁.toks) hk
            obtain ⟨f0, f1, f2, f3, f4, f5⟩ := fC
            exact ⟨_, ns_empty hC6 rfl, fun h'' sb => ⟨.ref R, _, I7.turned (t' := s₁.toks) (fun b o hb e => (sb.2 b hb).trans e) f0 f1 f3 f4 f5, rfl, kQ R hRn⟩⟩
        exact codeAny_compStart_list loop (wpAny_pyIter_gen (isg hob5) loop)
end
end K17


set_option maxHeartbeats 4000000
/-! K17HE: the law -/
namespace K17
open PySem PySem.Spec PyProof.Rows L2 GenW
theorem chain_take {F : Fi} : ∀ (ks : List Nat) (m m' : Int) (n : Nat), chain F m ks m' → ∃ m'', chain F m (ks.take n) m''
  | [], m, m', n, h => ⟨m, by rw [List.take_nil]; rfl⟩
  | k :: ks, m, m', 0, h => ⟨m, rfl⟩
  | k :: ks, m, m', n + 1, h => by
    obtain ⟨ds, d, h1, h2, h3⟩ := h
    obtain ⟨m'', q⟩ := chain_take ks _ _ n h3
    exact ⟨m'', ds, d, h1, h2, q⟩
theorem ite_both {c : Bool} {A B : Prop} (h : B) (hA : c = true → B → A) : if c = true then A else B := by
  cases c with
  | false => exact iteF h
  | true => exact iteT (hA rfl h)
theorem All2.take {α β : Type} {R : α → β → Prop} {as : List α} {bs : List β} (h : All2 R as bs) (n : Nat) : All2 R (as.take n) (bs.take n) := by
  refine ⟨by rw [List.length_take, List.length_take, h.1], fun i a b ha hb => ?_⟩
  rw [List.getElem?_take] at ha hb
  by_cases q : i < n
  · rw [if_pos q] at ha hb
    exact h.2 i a b ha hb
  · rw [if_neg q] at ha
    cases ha
theorem cut_take (xs : List V) (k : Nat) : cutV xs none (some (k : Int)) = xs.take k := by
  unfold cutV
  rw [HT.sIx_none, HT.sIx_nat, List.drop_zero, Nat.sub_zero]
  by_cases h : k ≤ xs.length
  · rw [Nat.min_eq_left h]
  · rw [Nat.min_eq_right (by omega), List.take_of_length_le (Nat.le_refl _), List.take_of_length_le (by omega)]
theorem intsN_map (ks : List Nat) : intsN ks = (ks.map fun k : Nat => (k : Int)).map V.int := by
  unfold intsN
  rw [List.map_map]
  rfl
theorem half_div (n : Nat) : ((n : Nat) : Int).fdiv 2 = ((n / 2 : Nat) : Int) := by
  rw [Int.fdiv_eq_ediv_of_nonneg _ (by decide)]
  omega
abbrev NL : List Str := ["_law_script", "_law_state", "_law_ground_here", "_law_weather_here", "_law_field", "_law_start_here", "_law_full", "_law_turns", "_law_days", "_law_kept", "_law_lesser", "_law_greater", "_law_at", "_law_one", "_law_begin", "_law_walk_here", "_law_half"]
section
variable {P : Program} {w : World} {K : PySem.W.Frag} {mg : Str → Option Value} {base : Heap}
/-- a beginning and its walk -/
structure WalkAt (K : PySem.W.Frag) (H : Hp) (F : Fi) (tus : List (List Str)) (ks : List Nat) (m' : Int) (bg tw R : Addr) (v : V) (s : StD) (rs : List Addr) : Prop where
  st : StandAt K H bg s
  so : StOk F s
  ch : chain F s.mood ks m'
  tw : SqT K H tw [.ref R, v]
  rw : H R = some (.lst (rs.map V.ref))
  all : All2 (StandAt K H) rs (walk F s tus ks 0).1
  ev : EndV K H v (walk F s tus ks 0).2
theorem WalkAt.ext {H H' : Hp} {F : Fi} {tus : List (List Str)} {ks : List Nat} {m' : Int} {bg tw R : Addr} {v : V} {s : StD} {rs : List Addr} (h : WalkAt K H F tus ks m' bg tw R v s rs) (x : Ext H H') : WalkAt K H' F tus ks m' bg tw R v s rs :=
  ⟨h.st.mor x.mor, h.so, h.ch, sqT_mor x.mor h.tw, x.get h.rw, h.all.imp fun _ _ q => q.mor x.mor, h.ev.mor x.mor⟩
def spLaw (K : PySem.W.Frag) : Sp := fun vs H Q _ => ∃ (sc : Addr) (ns : List Int), vs = [.ref sc] ∧ Frz K H sc (ns.map V.int) ∧ ∀ H', Q (.bl true) H'
theorem mkFn {k : Nat} {d : DefP} {sp : Sp} {N ps : List Str} {fd : FuncData} (F : FnD K d fd) (S : FnScope N ps d.scope) (len : ∀ vs H Q E, sp vs H Q E → vs.length = ps.length)
    (hbody : ∀ (cdv : Value) (A : Around) (outer : List Env) (s : Shared) (H : Hp) (vs : List V) (Q : VK) (E : XK), Room k (A.deeper (envOfC d.qual d.scope s.heap.objs.size (d.at_ K) cdv)) → sp vs H Q E →
      ∃ t, PSs (cxOf CX0 P w K mg base N d.qual d.scope (d.at_ K) cdv A outer s H E).nox d.body t ∧ t { nx := fun _ H' => Q .non H', rt := Q } (start N vs) H) : FnOk P w K mg base CX0 (k + 1) (d.at_ K) fd ps sp :=
  F.ok S len fun cdv A outer s H vs Q E hr h => by
    obtain ⟨t, a, b⟩ := hbody cdv A outer s H vs Q E hr h
    exact ⟨t, a.nox, b⟩
theorem ok_law (T : Txt K mg) (DT : PySem.DrX.DrTxt P K mg (CDr K) (IDr K)) (hns : ∀ D, NoStop K (DoneE K D)) {fd : FuncData} (F0 : FnD K d_law fd) : FnOk P w K mg base CX0 11 (d_law.at_ K) fd ["_law_script"] (spLaw K) := by
  have nd : NL.Nodup := by decide +kernel
  refine mkFn (N := NL) (ps := ["_law_script"]) F0 ⟨rfl, rfl, rfl, nd, rfl, by decide +kernel, by decide +kernel⟩ (fun vs H Q E h => ?_) (fun cdv A outer s0 H vs Q E hr h => ?_)
  · obtain ⟨sc, ns, rfl, _⟩ := h
    rfl
  · obtain ⟨sc, ns, rfl, hsc, k⟩ := h
    have hr6 := hr.mono (show 6 ≤ 10 by decide)
    have hr5 := hr.mono (show 5 ≤ 10 by decide)
    refine ⟨_, pss_cons (ps_set (i := 1) nd rfl (Or.inl rfl) (pe_f (ok_lstart T) T.g_lstart (hr.mono (by decide)) pass0 (pa_cons (pv 0) pa_nil)))
      (pss_cons (ps_set (i := 2) nd rfl (Or.inl rfl) (pe_f (ok_lground T) T.g_lground hr5 pass0 (pa_cons (pv 0) (pa_cons (pv 1) (pa_cons pe_int (pa_cons pe_int (pa_cons pe_int pa_nil)))))))
      (pss_cons (ps_set (i := 3) nd rfl (Or.inl rfl) (pe_f (ok_lweather T) T.g_lweather hr6 pass0 (pa_cons (pv 0) (pa_cons (pv 1) (pa_cons (pe_b call_len_seq T.z_len (pa_cons (pe_fld (pv 2) rfl) pa_nil)) (pa_cons pe_int (pa_cons pe_int (pa_cons pe_int pa_nil))))))))
      (pss_cons (ps_set (i := 4) nd rfl (Or.inl rfl) (pe_mk (d := d_fieldI) T.mk_Field (ok_fieldI T) T.gc_Field hr6 pass0 (pa_cons (pv 2) (pa_cons (pv 3) pa_nil))))
      (pss_cons (ps_set (i := 5) nd rfl (Or.inl rfl) (pe_f (ok_lstanding T) T.g_lstanding hr5 pass0 (pa_cons (pv 0) (pa_cons (pv 1) (pa_cons (pv 4) pa_nil)))))
      (pss_cons (ps_set (i := 6) nd rfl (Or.inl rfl) (pe_f (ok_lfuller T) T.g_lfuller hr5 pass0 (pa_cons (pv 0) (pa_cons (pv 1) (pa_cons (pv 4) (pa_cons (pv 5) pa_nil))))))
      (pss_cons (ps_asg (pe_f (ok_lchoices T) T.g_lchoices hr5 pass0 (pa_cons (pv 0) (pa_cons (pv 1) (pa_cons (pv 4) (pa_cons (pe_fld (pv 5) rfl) pa_nil))))) (pg_tup rfl (pgs_cons (pg_name (i := 7) nd rfl (Or.inl rfl)) (pgs_cons (pg_name (i := 8) nd rfl (Or.inl rfl)) pgs_nil))))
      (pss_cons (ps_set (i := 9) nd rfl (Or.inl rfl) (pe_tup (pa_cons (pe_ty call_list_of T.z_list (pa_cons (pv 7) pa_nil)) (pa_cons (pe_ty call_list_of T.z_list (pa_cons (pv 8) pa_nil)) pa_nil))))
      (pss_cons (ps_set (i := 10) nd rfl (Or.inl rfl) (pe_f (ok_lwalk T) T.g_lwalk hr6 pass0 (pa_cons (pv 4) (pa_cons (pv 5) (pa_cons (pv 7) (pa_cons (pv 8) pa_nil))))))
      (pss_cons (ps_set (i := 11) nd rfl (Or.inl rfl) (pe_f (ok_lwalk T) T.g_lwalk hr6 pass0 (pa_cons (pv 4) (pa_cons (pv 6) (pa_cons (pv 7) (pa_cons (pv 8) pa_nil))))))
      (pss_cons (ps_if (PW.pt (pw_or (pt_cmpR op_lt (pe_b call_len_seq T.z_len (pa_cons (pe_ix ix_tup (pv 11) pe_int (fun _ _ => rfl)) pa_nil)) (pe_b call_len_seq T.z_len (pa_cons (pe_ix ix_tup (pv 10) pe_int (fun _ _ => rfl)) pa_nil)) (nomark _))
          (pw_or1 (PW.pt (pw_and (pt_cmpR op_isN (pe_ix ix_tup (pv 10) pe_int (fun _ _ => rfl)) pe_non (nomark _)) (pw_and1 (pt_cmpR op_notN (pe_ix ix_tup (pv 11) pe_int (fun _ _ => rfl)) pe_non (nomark _)))))))) (pss_one ps_never) pss_nil)
      (pss_cons (ps_for PassesOwn.never rfl (pi_enum rfl T.z_enumerate (pa_cons (pe_ix ix_tup (pv 10) pe_int (fun _ _ => rfl)) pa_nil)) (pg_tup rfl (pgs_cons (pg_name (i := 12) nd rfl (Or.inl rfl)) (pgs_cons (pg_name (i := 13) nd rfl (Or.inl rfl)) pgs_nil)))
        (pss_one (ps_if (pt_not (pt_cmpR (op_leO (d := d_standLe) T.m_standLe (ok_standLe T) (hr.mono (by decide)) pass0) (pv 13) (pe_ix ix_list (pe_ix ix_tup (pv 11) pe_int (fun _ _ => rfl)) (pv 12) (fun _ _ => rfl)) (nomark _))) (pss_one ps_never) pss_nil)))
      (pss_cons (ps_for PassesOwn.never rfl (pi_list (pe_lst (pa_cons (pe_tup (pa_cons (pv 5) (pa_cons (pv 10) pa_nil))) (pa_cons (pe_tup (pa_cons (pv 6) (pa_cons (pv 11) pa_nil))) pa_nil)))) (pg_tup rfl (pgs_cons (pg_name (i := 14) nd rfl (Or.inl rfl)) (pgs_cons (pg_name (i := 15) nd rfl (Or.inl rfl)) pgs_nil)))
        (pss_cons (ps_if (pt_not (pt_val (pe_f (ok_lrunholds T DT hns T.z_zip) T.g_lrunholds hr pass0 (pa_cons (pv 4) (pa_cons (pv 14) (pa_cons (pv 7) (pa_cons (pv 8) (pa_cons (pe_ix ix_tup (pv 15) pe_int (fun _ _ => rfl)) (pa_cons (pe_ix ix_tup (pv 15) pe_int (fun _ _ => rfl)) pa_nil))))))))) (pss_one ps_never) pss_nil)
        (pss_cons (ps_if (pt_not (pt_val (pe_f (ok_lrunholds T DT hns T.z_zip) T.g_lrunholds hr pass0 (pa_cons (pv 4) (pa_cons (pv 14) (pa_cons (pe_op op_cat (pv 7) (pe_lst (pa_cons (pe_tup pa_nil) pa_nil))) (pa_cons (pv 8) (pa_cons (pe_ix ix_tup (pv 15) pe_int (fun _ _ => rfl)) (pa_cons (pe_ix ix_tup (pv 15) pe_int (fun _ _ => rfl)) pa_nil))))))))) (pss_one ps_never) pss_nil)
        (pss_cons (ps_set (i := 16) nd rfl (Or.inl rfl) (pe_op op_fdivN (pe_b call_len_seq T.z_len (pa_cons (pe_ix ix_tup (pv 15) pe_int (fun _ _ => rfl)) pa_nil)) pe_int))
        (pss_one (ps_if (pt_not (pt_val (pe_f (ok_lrunholds T DT hns T.z_zip) T.g_lrunholds hr pass0 (pa_cons (pv 4) (pa_cons (pv 14) (pa_cons (pv 7) (pa_cons (pe_slice sl_list (pv 8) po_none (po_some (pv 16))) (pa_cons (pe_slice sl_list (pe_ix ix_tup (pv 15) pe_int (fun _ _ => rfl)) po_none (po_some (pv 16))) (pa_cons pe_non pa_nil))))))))) (pss_one ps_never) pss_nil))))))
      (pss_one (ps_ret (pe_and (pe_cmpR (op_eqD hr.units) (pv 9) (pe_tup (pa_cons (pv 7) (pa_cons (pv 8) pa_nil))) (nomark _))
        (pe_one (pe_cmpR (op_eqD hr.units) (pe_lcRun (own := [("_law_one", 13)]) T T.z_zip rfl hr (blkOk_by (N := NL) (sc := defScope s_law) (by decide +kernel)) (pv 4) (pa_cons (pv 5) (pa_cons (pe_lst pa_nil) (pa_cons (pe_lst (pa_cons pe_int pa_nil)) pa_nil)))) (pe_lst pa_nil) (nomark _)))))))))))))))))), ?_⟩
    refine ⟨_, rfl, sc, ns, rfl, hsc.sq, fun st hst x b c d => ?_⟩
    have x1 : Ext H (upd H st (.lst [.int x, .int b, .int c, .int d])) := Ext.upd hst
    have hs1 : StAt (upd H st (.lst [.int x, .int b, .int c, .int d])) st := ⟨x, b, c, d, upd_same⟩
    have hsc1 := hsc.mor x1.mor
    revert hs1 hsc1
    generalize (upd H st (.lst [.int x, .int b, .int c, .int d])) = H1
    intro hs1 hsc1
    refine ⟨_, rfl, _, rfl, sc, st, ns, rfl, hsc1, hs1, fun g ps gs cap H2 b2 hs2 hg2 lg => ?_⟩
    have hsc2 := hsc1.mor b2.mor
    have hg2' := hg2
    obtain ⟨gdx, tp, tn, gg, hgi, htp, htn, hgg⟩ := hg2'
    obtain ⟨as, htpa, hap⟩ := id htp
    have hal : (as.map V.ref).length = ps.length := by rw [List.length_map]; exact hap.1
    refine ⟨_, rfl, _, rfl, _, rfl, g, _, gdx, _, _, rfl, hgi, T.c_Ground, T.n_Ground_plots, lk_Ground_plots, tp, _, rfl, .inr htpa, sc, st, ns, (as.map V.ref).length, rfl, hsc2, hs2, by rw [hal]; exact lg.n1, by rw [hal]; have := lg.n3; omega, fun we moods H3 b3 hs3 hw3 lw => ?_⟩
    rw [hal] at hw3 lw
    have hsc3 := hsc2.mor b3.mor
    have hg3 := hg2.mor b3.mor
    -- the field
    obtain ⟨F, hF⟩ : ∃ F : Fi, F = ⟨ps, gs, cap, moods⟩ := ⟨_, rfl⟩
    have fo : FieldOk F := by
      rw [hF]
      exact ⟨lg.n1, by have := lg.n3; show ps.length ≤ 4; omega, fun p hp => ⟨(lg.pl p hp).h1, by have := (lg.pl p hp).h4; omega, (lg.pl p hp).d1, by have := (lg.pl p hp).d3; omega⟩, lg.nd, lg.gr, lg.c0, by have := lg.c4; show cap ≤ 8; omega, lw.m1, by have := lw.m3; show moods.length ≤ 4; omega,
        fun ds hds => ⟨(lw.dok ds hds).1, (lw.dok ds hds).2.1⟩, fun ds hds d hd => (lw.dok ds hds).2.2 d hd⟩
    have sm : Small F := by
      rw [hF]
      exact ⟨lg.n3, fun p hp => (lg.pl p hp).h4, lg.c4, lw.m3⟩
    have nmo : ∀ p ∈ F.plots, NameOk p.name := by
      rw [hF]
      exact fun p hp => (lg.pl p hp).nm
    have hgF : GroundAt K H3 g F.plots F.groups F.cap := by rw [hF]; exact hg3
    have hwF : WeatherAt K H3 we F.plots.length F.moods := by rw [hF]; exact hw3
    clear hF
    refine ⟨_, rfl, _, rfl, fun y dy hy hdy hne => ?_⟩
    have xm : Ext H3 (upd (upd H3 dy (.own y)) y (.ins (He.ga K "Field") dy [])) := Ext.upd2 hy hdy
    refine ⟨y, dy, g, we, F, rfl, upd_same, hgF.mor xm.mor, hwF.mor xm.mor, fo, sm, fun gr tt0 am H4 hk hy4 hgr4 => ⟨rfl, ?_⟩⟩
    have x4 : Ext H3 H4 := Ext.self hy hdy hk
    have hf4 : FieldAt K H4 y F := ⟨dy, gr, we, tt0, am, hy4, hgr4, hwF.mor x4.mor⟩
    have hsc4 := hsc3.mor x4.mor
    have hs4 := hs3.ext x4
    clear hk hy4 hgr4 hgF hwF hg3 hw3 hs3 hsc3 hg2 hgi htp htn hgg htpa hap hal lg lw sm xm hy hdy hne
    refine ⟨_, rfl, _, rfl, _, rfl, sc, st, y, ns, F, rfl, hsc4, hs4, hf4, fo, fun a s H5 b5 hs5 ha5 so => ?_⟩
    have hsc5 := hsc4.mor b5.mor
    have hf5 := hf4.mor b5.mor
    refine ⟨_, rfl, _, rfl, _, rfl, _, rfl, sc, st, y, a, ns, F, s, rfl, hsc5, hs5, hf5, fo, ha5, so, fun a2 s2 H6 b6 hs6 hb6 so2 le => ?_⟩
    have hsc6 := hsc5.mor b6.mor
    have hf6 := hf5.mor b6.mor
    have ha6 := ha5.mor b6.mor
    obtain ⟨sdx, tl, hsi, htl0⟩ := id ha6
    refine ⟨_, rfl, _, rfl, _, rfl, _, rfl, a, _, sdx, _, _, rfl, hsi, T.c_Standing, T.n_Standing_mood, lk_Stand_mood, sc, st, y, ns, F, s.mood, rfl, hsc6, hs6, hf6, fo, so.m0, so.mm, fun t TU DA tt tus ks m' H7 b7 hs7 ht7 hTUn hDAn hTU7 hDA7 nTD htt7 htl h30 htk hch => ?_⟩
    have hf7 := hf6.mor b7.mor
    have ha7 := ha6.mor b7.mor
    have hb7 := hb6.mor b7.mor
    clear hsc hsc1 hsc2 hsc4 hsc5 hsc6 hs1 hs2 hs4 hs5 hs6 hs7 hf4 hf5 hf6 ha5 ha6 hb6 hsi htl0 b2 b3 b5 b6 b7 x1 x4
    refine ⟨t, _, rfl, ht7, rfl, _, _, rfl, _, _, rfl, rfl, ?_⟩
    refine ⟨_, rfl, TU, _, rfl, .inl (SqL.of hTU7), fun TK hTK => ?_⟩
    have x8 : Ext H7 (upd H7 TK (.lst (tt.map V.ref))) := Ext.upd hTK
    refine ⟨_, rfl, DA, _, rfl, .inl (SqL.of (x8.get hDA7)), fun DK hDK => ?_⟩
    have x9 := x8.put (o := .lst (intsN ks)) (x8.none hDK)
    have hTK9 : (upd (upd H7 TK (.lst (tt.map V.ref))) DK (.lst (intsN ks))) TK = some (.lst (tt.map V.ref)) := by rw [upd_ne (ne_of_none upd_same hDK)]; exact upd_same
    have hDK9 : (upd (upd H7 TK (.lst (tt.map V.ref))) DK (.lst (intsN ks))) DK = some (.lst (intsN ks)) := upd_same
    revert x9 hTK9 hDK9
    generalize (upd (upd H7 TK (.lst (tt.map V.ref))) DK (.lst (intsN ks))) = H8
    intro x9 hTK9 hDK9
    refine ⟨by show 2 ≤ sizeLine; decide, fun KT hKT => ?_⟩
    have xk : Ext H8 (upd H8 KT (.tup [.ref TK, .ref DK])) := Ext.upd hKT
    have hKT9 : SqT K (upd H8 KT (.tup [.ref TK, .ref DK])) KT [.ref TK, .ref DK] := SqT.of upd_same
    revert xk hKT9
    generalize (upd H8 KT (.tup [.ref TK, .ref DK])) = H9
    intro xk hKT9
    have x79 := x9.trans xk
    have hTK := xk.get hTK9
    have hDK := xk.get hDK9
    have hTU := x79.get hTU7
    have hDA := x79.get hDA7
    have hf := hf7.mor x79.mor
    have ha := ha7.mor x79.mor
    have hb := hb7.mor x79.mor
    have htt := htt7.imp fun _ _ q => sqT_mor x79.mor q
    clear hf7 ha7 hb7 htt7 hTU7 hDA7 hTK9 hDK9 x9 x8 xk x79 hTUn hDAn ht7
    refine ⟨_, rfl, _, rfl, _, rfl, _, rfl, y, a, TU, DA, F, s, tt, tus, ks, m', rfl, hf, fo, ha, so, hTU, htt, hDA, htl, h30, hch, fun t1 R1 v1 rs1 H10 x10 _ ht1 hR1 hall1 hend1 => ?_⟩
    refine ⟨_, rfl, _, rfl, _, rfl, _, rfl, y, a2, TU, DA, F, s2, tt, tus, ks, m', rfl, hf.mor x10.mor, fo, hb.mor x10.mor, so2, x10.get hTU, htt.imp fun _ _ q => sqT_mor x10.mor q, x10.get hDA, htl, h30, by rw [← le.mood]; exact hch, fun t2 R2 v2 rs2 H11 x11 _ ht2 hR2 hall2 hend2 => ?_⟩
    have x911 := x10.trans x11
    have hKT := sqT_mor x911.mor hKT9
    replace hTK := x911.get hTK
    replace hDK := x911.get hDK
    replace hTU := x911.get hTU
    replace hDA := x911.get hDA
    replace hf := hf.mor x911.mor
    replace ha := ha.mor x911.mor
    replace hb := hb.mor x911.mor
    replace htt : All2 (NamesT K H11) tt tus := htt.imp fun _ _ q => sqT_mor x911.mor q
    replace ht1 := sqT_mor x11.mor ht1
    replace hR1 := x11.get hR1
    replace hall1 : All2 (StandAt K H11) rs1 (walk F s tus ks 0).1 := hall1.imp fun _ _ q => q.mor x11.mor
    replace hend1 := hend1.mor x11.mor
    clear hKT9 x911 x10 x11
    obtain ⟨mo1, mo2, mo3⟩ := walk_mono (F := F) tus ks s s2 0 le
    have l1 : rs1.length = (walk F s tus ks 0).1.length := hall1.1
    have l2 : rs2.length = (walk F s2 tus ks 0).1.length := hall2.1
    refine ⟨_, rfl, t2, _, _, _, rfl, rfl, ht2, atI_nat (j := 0) (v := V.ref R2) rfl, R2, _, rfl, .inl (SqL.of hR2), _, rfl, t1, _, _, _, rfl, rfl, ht1, atI_nat (j := 0) (v := V.ref R1) rfl, R1, _, rfl, .inl (SqL.of hR1), ?_⟩
    refine ⟨_, _, rfl, rfl, _, rfl, ?_⟩
    rw [decide_eq_false (by rw [List.length_map, List.length_map]; omega)]
    refine iteF ?_
    refine ⟨_, rfl, t1, _, _, _, rfl, rfl, ht1, atI_nat (j := 1) (v := v1) rfl, rfl, _, rfl, ?_⟩
    refine ite_both ?_ (fun hv1 rest => ?_)
    rotate_left
    · have hv1' : v1 = .non := of_decide_eq_true hv1
      have e1 : (walk F s tus ks 0).2 = none := by
        cases q : (walk F s tus ks 0).2 with
        | none => rfl
        | some z =>
          rw [q] at hend1
          obtain ⟨nm, kk⟩ := z
          obtain ⟨q1, e, _⟩ := hend1
          rw [hv1'] at e
          cases e
      have e2 := mo2 e1
      have hv2 : v2 = .non := by
        have q := hend2
        rw [e2] at q
        exact q
      refine ⟨_, rfl, t2, _, _, _, rfl, rfl, ht2, atI_nat (j := 1) (v := v2) rfl, rfl, _, rfl, ?_⟩
      rw [hv2]
      exact rest
    refine iteF ?_
    have w1 : WalkAt K H11 F tus ks m' a t1 R1 v1 s rs1 := ⟨ha, so, hch, ht1, hR1, hall1, hend1⟩
    have w2 : WalkAt K H11 F tus ks m' a2 t2 R2 v2 s2 rs2 := ⟨hb, so2, by rw [← le.mood]; exact hch, ht2, hR2, hall2, hend2⟩
    refine ⟨_, rfl, t1, _, _, _, rfl, rfl, ht1, atI_nat (j := 0) (v := V.ref R1) rfl, R1, _, rfl, SqL.of hR1, for_it (walk_enum (xs := rs1.map V.ref)) (fun i σ H' => (∃ (v12 v13 : Option V), σ = [some (.ref sc), some (.ref st), some (.ref g), some (.ref we), some (.ref y), some (.ref a), some (.ref a2), some (.ref TU), some (.ref DA), some (.ref KT), some (.ref t1), some (.ref t2), v12, v13, none, none, none]) ∧ Ext H11 H')
      ⟨⟨_, _, rfl⟩, Ext.refl _⟩ (fun i σ H' hi q => SqL.of (q.2.get hR1)) (fun i z σ H3 H4 hi q yy => ?_) (fun σ H12 q => ?_)⟩
    · obtain ⟨⟨v12, v13, rfl⟩, x3⟩ := q
      obtain ⟨u, pp, r, rfl, hu, rfl, ea, eb⟩ := yy
      obtain rfl := Option.some.inj ea
      obtain ⟨c, hc, rfl⟩ := map_get eb
      have x4 := x3.put (o := .tup [.int (i : Nat), .ref c]) (x3.none hu)
      have hT4 : SqT K (upd H3 u (.tup [.int (i : Nat), .ref c])) u [.int (i : Nat), .ref c] := SqT.of upd_same
      revert x4 hT4
      generalize (upd H3 u (.tup [.int (i : Nat), .ref c])) = H4
      intro x4 hT4
      obtain ⟨si, hsi, hci⟩ := hall1.get' hc
      have hi1 : i < rs1.length := (List.getElem?_eq_some_iff.mp hc).1
      have hi2 : i < rs2.length := by omega
      have hc2 : rs2[i]? = some rs2[i] := List.getElem?_eq_getElem hi2
      obtain ⟨ti, hti, hc2i⟩ := hall2.get' hc2
      have li := mo3 i si ti hsi hti
      have hci4 := hci.mor x4.mor
      have hc2i4 := hc2i.mor x4.mor
      obtain ⟨cdx, ctl, hcI, _⟩ := id hci4
      obtain ⟨edx, etl, heI, _⟩ := id hc2i4
      refine ⟨u, _, rfl, hT4, rfl, _, _, rfl, _, _, rfl, rfl, ?_⟩
      refine ⟨_, rfl, _, rfl, t2, _, _, _, rfl, rfl, sqT_mor x4.mor ht2, atI_nat (j := 0) (v := V.ref R2) rfl, _, rfl, R2, _, _, _, rfl, rfl, SqL.of (x4.get hR2), atI_get (get_map hc2), c, rs2[i], cdx, edx, _, _, rfl, rfl, hcI, heI, c, rs2[i], si, ti, rfl, hci4, hc2i4, li, fun H5 x5 => ⟨true, rfl, _, rfl, iteF ?_⟩⟩
      exact ⟨⟨_, _, rfl⟩, x4.trans x5⟩
    · obtain ⟨⟨v12, v13, rfl⟩, x12⟩ := q
      refine ⟨_, rfl, _, rfl, by show 2 ≤ sizeLine; decide, fun p1 hp1 => ?_⟩
      have xp1 : Ext H11 (upd H12 p1 (.tup [.ref a, .ref t1])) := x12.put (x12.none hp1)
      have sp1 : SqT K (upd H12 p1 (.tup [.ref a, .ref t1])) p1 [.ref a, .ref t1] := SqT.of upd_same
      revert xp1 sp1
      generalize (upd H12 p1 (.tup [.ref a, .ref t1])) = H13
      intro xp1 sp1
      refine ⟨_, rfl, _, rfl, by show 2 ≤ sizeLine; decide, fun p2 hp2 => ?_⟩
      have xp2 : Ext H13 (upd H13 p2 (.tup [.ref a2, .ref t2])) := Ext.upd hp2
      have sp2 : SqT K (upd H13 p2 (.tup [.ref a2, .ref t2])) p2 [.ref a2, .ref t2] := SqT.of upd_same
      revert xp2 sp2
      generalize (upd H13 p2 (.tup [.ref a2, .ref t2])) = H14
      intro xp2 sp2
      refine ⟨by show 2 ≤ sizeLine; decide, fun LL hLL => ?_⟩
      have xl : Ext H14 (upd H14 LL (.lst [.ref p1, .ref p2])) := Ext.upd hLL
      have sl : (upd H14 LL (.lst [.ref p1, .ref p2])) LL = some (.lst [.ref p1, .ref p2]) := upd_same
      revert xl sl
      generalize (upd H14 LL (.lst [.ref p1, .ref p2])) = H15
      intro xl sl
      have x15 := xp1.trans (xp2.trans xl)
      have good : ∀ (j : Nat) (x : V), ([.ref p1, .ref p2] : List V)[j]? = some x → ∃ (p bg tw R : Addr) (v : V) (sg : StD) (rs : List Addr), x = .ref p ∧ SqT K H15 p [.ref bg, .ref tw] ∧ WalkAt K H15 F tus ks m' bg tw R v sg rs := fun j x hx => by
        match j, hx with
        | 0, hx =>
          cases hx
          exact ⟨p1, a, t1, R1, v1, s, rs1, rfl, sqT_mor (xp2.trans xl).mor sp1, w1.ext x15⟩
        | 1, hx =>
          cases hx
          exact ⟨p2, a2, t2, R2, v2, s2, rs2, rfl, sqT_mor xl.mor sp2, w2.ext x15⟩
      refine ⟨LL, rfl, ⟨_, SqL.of sl⟩, for_list (xs := [.ref p1, .ref p2]) (fun i σ H' => (∃ (v12 v13 v14 v15 v16 : Option V), σ = [some (.ref sc), some (.ref st), some (.ref g), some (.ref we), some (.ref y), some (.ref a), some (.ref a2), some (.ref TU), some (.ref DA), some (.ref KT), some (.ref t1), some (.ref t2), v12, v13, v14, v15, v16]) ∧ Ext H15 H')
        ⟨⟨_, _, _, _, _, rfl⟩, Ext.refl _⟩ (fun i σ H' hi q => SqL.of (q.2.get sl)) (fun i x σ H3 hx q => ?_) (fun σ H16 q => ?_)⟩
      · obtain ⟨⟨v12, v13, v14, v15, v16, rfl⟩, x3⟩ := q
        obtain ⟨p, bg, tw, R, v, sg, rs, rfl, hp, W⟩ := good i x hx
        have xx := x15.trans x3
        have W3 := W.ext x3
        have run3 : ∀ {H' : Hp}, Ext H3 H' → RunIn K H' y bg TU DA F sg tt tus ks m' := fun {H'} x' => by
          have xx' := xx.trans x'
          have W' := W3.ext x'
          exact ⟨hf.mor xx'.mor, fo, nmo, W'.st, W'.so, xx'.get hTU, htt.imp fun _ _ q => sqT_mor xx'.mor q, xx'.get hDA, fun i tu hi _ => htk tu (List.mem_of_getElem? hi), h30, by rw [List.take_of_length_le (by omega)]; exact W'.ch⟩
        refine ⟨p, _, rfl, sqT_mor x3.mor hp, rfl, _, _, rfl, _, _, rfl, rfl, ?_⟩
        refine ⟨_, rfl, _, rfl, _, rfl, _, rfl, _, rfl, tw, _, _, _, rfl, rfl, W3.tw, atI_nat (j := 0) (v := V.ref R) rfl, _, rfl, tw, _, _, _, rfl, rfl, W3.tw, atI_nat (j := 1) (v := v) rfl, y, bg, TU, DA, R, F, sg, tt, tus, ks, m', v, rs, rfl, run3 (Ext.refl _), W3.rw, W3.all, W3.ev, fun H4 x4 => ⟨_, rfl, iteF ?_⟩⟩
        -- the turns and one more
        have W4 := W3.ext x4
        refine ⟨_, rfl, _, rfl, _, rfl, Nat.zero_le _, fun ee hee => ?_⟩
        have xe : Ext H4 (upd H4 ee (.tup [])) := Ext.upd hee
        have se : NamesT K (upd H4 ee (.tup [])) ee [] := SqT.of upd_same
        revert xe se
        generalize (upd H4 ee (.tup [])) = H5
        intro xe se
        refine ⟨by show 1 ≤ sizeLine; decide, fun le1 hle1 => ?_⟩
        have xe1 : Ext H5 (upd H5 le1 (.lst [.ref ee])) := Ext.upd hle1
        have se1 : (upd H5 le1 (.lst [.ref ee])) le1 = some (.lst [.ref ee]) := upd_same
        revert xe1 se1
        generalize (upd H5 le1 (.lst [.ref ee])) = H6
        intro xe1 se1
        have x46 := xe.trans xe1
        have x06 := xx.trans (x4.trans x46)
        refine ⟨TU, le1, _, _, rfl, rfl, x06.get hTU, se1, ?_, fun TV hTV => ?_⟩
        · rw [List.length_map]
          have := htt.1
          exact Nat.le_trans (show _ ≤ 1000 by show tt.length + 1 ≤ 1000; omega) (by decide)
        have xv : Ext H6 (upd H6 TV (.lst (tt.map V.ref ++ [.ref ee]))) := Ext.upd hTV
        have sv : (upd H6 TV (.lst (tt.map V.ref ++ [.ref ee]))) TV = some (.lst ((tt ++ [ee]).map V.ref)) := by rw [upd_same, List.map_append]; rfl
        revert xv sv
        generalize (upd H6 TV (.lst (tt.map V.ref ++ [.ref ee]))) = H7
        intro xv sv
        have x47 := x46.trans xv
        have W7 := W4.ext x47
        have run7 := run3 (x4.trans x47)
        have wm : walk F sg (tus ++ [[]]) ks 0 = walk F sg tus ks 0 := walk_more [] tus ks sg 0 htl
        refine ⟨_, rfl, _, rfl, tw, _, _, _, rfl, rfl, W7.tw, atI_nat (j := 0) (v := V.ref R) rfl, _, rfl, tw, _, _, _, rfl, rfl, W7.tw, atI_nat (j := 1) (v := v) rfl, y, bg, TV, DA, R, F, sg, tt ++ [ee], tus ++ [[]], ks, m', v, rs, rfl,
          ⟨run7.fld, fo, nmo, run7.st, run7.so, sv, run7.nt.snoc (sqT_mor (xe1.trans xv).mor se), run7.da, fun i tu hi hk => ?_, h30, ?_⟩, W7.rw, by rw [wm]; exact W7.all, by rw [wm]; exact W7.ev, fun H8 x8 => ⟨_, rfl, iteF ?_⟩⟩
        · rw [List.getElem?_append_left (by omega)] at hi
          exact htk tu (List.mem_of_getElem? hi)
        · rw [List.take_of_length_le (by rw [List.length_append]; omega)]
          exact W7.ch
        -- half
        have x08 := x4.trans (x47.trans x8)
        have W8 := W3.ext x08
        have run8 := run3 x08
        have hrl : rs.length = (walk F sg tus ks 0).1.length := W8.all.1
        refine ⟨_, rfl, tw, _, _, _, rfl, rfl, W8.tw, atI_nat (j := 0) (v := V.ref R) rfl, R, _, rfl, .inl (SqL.of W8.rw), _, _, rfl, rfl, ⟨by decide, by decide⟩, ?_⟩
        simp only [List.length_map, half_div]
        obtain ⟨hf2, hhf⟩ : ∃ hf2, hf2 = rs.length / 2 := ⟨_, rfl⟩
        rw [← hhf]
        have hle : hf2 ≤ rs.length := by omega
        obtain ⟨mm, hmm⟩ := chain_take ks _ _ hf2 W8.ch
        have wt := walk_take (F := F) tus ks sg 0 hf2 (by omega)
        refine ⟨_, rfl, _, rfl, _, rfl, _, rfl, _, rfl, _, rfl, DA, _, rfl, SqL.of run8.da, fun DH hDH => ?_⟩
        rw [cut_take]
        have xd : Ext H8 (upd H8 DH (.lst ((intsN ks).take hf2))) := Ext.upd hDH
        have sd : (upd H8 DH (.lst ((intsN ks).take hf2))) DH = some (.lst (intsN (ks.take hf2))) := by rw [upd_same]; unfold intsN; rw [List.map_take]
        revert xd sd
        generalize (upd H8 DH (.lst ((intsN ks).take hf2))) = H9
        intro xd sd
        have W9 := W8.ext xd
        refine ⟨_, rfl, tw, _, _, _, rfl, rfl, W9.tw, atI_nat (j := 0) (v := V.ref R) rfl, _, rfl, _, rfl, R, _, rfl, SqL.of W9.rw, fun RH hRH => ?_⟩
        rw [cut_take]
        have xr : Ext H9 (upd H9 RH (.lst ((rs.map V.ref).take hf2))) := Ext.upd hRH
        have sr : (upd H9 RH (.lst ((rs.map V.ref).take hf2))) RH = some (.lst ((rs.take hf2).map V.ref)) := by rw [upd_same, List.map_take]
        revert xr sr
        generalize (upd H9 RH (.lst ((rs.map V.ref).take hf2))) = H10
        intro xr sr
        have W10 := W9.ext xr
        have run10 := run3 (x08.trans (xd.trans xr))
        refine ⟨y, bg, TU, DH, RH, F, sg, tt, tus, ks.take hf2, mm, .non, rs.take hf2, rfl, ⟨run10.fld, fo, nmo, run10.st, run10.so, run10.tu, run10.nt, xr.get sd, fun i tu hi hk => htk tu (List.mem_of_getElem? hi), ?_, ?_⟩, sr, ?_, ?_, fun H11' x11' => ⟨_, rfl, iteF ⟨⟨_, _, _, _, _, rfl⟩, x3.trans ((x08.trans (xd.trans xr)).trans x11')⟩⟩⟩
        · rw [List.length_take]; omega
        · rw [List.take_of_length_le (by rw [List.length_take]; omega)]
          exact hmm
        · rw [wt]
          exact W10.all.take hf2
        · rw [wt]
          rfl
      · obtain ⟨⟨v12, v13, v14, v15, v16, rfl⟩, x16⟩ := q
        have xx := x15.trans x16
        refine ⟨_, rfl, _, rfl, _, rfl, by show 2 ≤ sizeLine; decide, fun q1 hq1 => ?_⟩
        have x17 : Ext H11 (upd H16 q1 (.tup [.ref TU, .ref DA])) := xx.put (xx.none hq1)
        have sq1 : SqT K (upd H16 q1 (.tup [.ref TU, .ref DA])) q1 [.ref TU, .ref DA] := SqT.of upd_same
        revert x17 sq1
        generalize (upd H16 q1 (.tup [.ref TU, .ref DA])) = H17
        intro x17 sq1
        have htt17 : All2 (NamesT K H17) tt tus := htt.imp fun _ _ q => sqT_mor x17.mor q
        have dl : ∀ {TX DX : Addr}, H17 TX = some (.lst (tt.map V.ref)) → H17 DX = some (.lst (intsN ks)) → DpAll K H17 [.ref TX, .ref DX] [.list (tus.map fun t => .tuple (t.map .str)), .list ((ks.map fun k : Nat => (k : Int)).map .int)] := fun {TX DX} h1 h2 =>
          .cons (dp_groupsL (SqL.of h1) htt17) (.cons (dp_intsL (by rw [← intsN_map]; exact SqL.of h2)) .nil)
        have sh : Sh 3 (.tuple [.list (tus.map fun t => .tuple (t.map .str)), .list ((ks.map fun k : Nat => (k : Int)).map .int)]) := sh_tup fun d hd => by
          have hd' : d = .list (tus.map fun t => .tuple (t.map .str)) ∨ d = .list ((ks.map fun k : Nat => (k : Int)).map .int) := by simpa using hd
          rcases hd' with e | e
          · rw [e]
            refine sh_list fun d2 hd2 => ?_
            obtain ⟨tu, htu, rfl⟩ := List.mem_map.mp hd2
            refine sh_names fun x hx => ?_
            have hm : x ∈ PN F.plots := (htk tu htu).1.subset hx
            obtain ⟨p, hp, ep⟩ := List.mem_map.mp hm
            rw [← ep]
            exact nmo p hp
          · rw [e]
            refine (sh_list (n := 0) fun d2 hd2 => ?_).mono (by omega)
            obtain ⟨i, _, rfl⟩ := List.mem_map.mp hd2
            exact sh_int i
        refine ⟨_, _, .tup (sqT_mor x17.mor hKT) (dl (x17.get hTK) (x17.get hDK)), .tup sq1 (dl (x17.get hTU) (x17.get hDA)), sh.ok (by omega), sh.ok (by omega), _, rfl, ?_⟩
        rw [SeqAt.eqv_refl _ sh.1]
        have hf17 := hf.mor x17.mor
        obtain ⟨fdx, gr, we9, tt9, am9, hfi, _⟩ := hf17
        refine iteT ⟨_, rfl, y, fdx, _, rfl, hfi, by kernel_rfl, _, rfl, Nat.zero_le _, fun e1 he1 => ⟨by show 1 ≤ sizeLine; decide, fun e2 he2 => ⟨a, e1, e2, _, rfl, ?_, upd_same, fun R hR => ⟨Nat.zero_le _, fun R2 hR2 => ⟨.list [], .list [], .lst (SqL.of ?_) .nil, .lst (SqL.of upd_same) .nil, ?_, ?_, ?_⟩⟩⟩⟩⟩
        · rw [upd_ne (ne_of_none upd_same he2)]
          exact upd_same
        · rw [upd_ne (ne_of_none upd_same hR2)]
          exact upd_same
        · exact (sh_list (n := 0) (ds := []) fun d hd => by simp at hd).ok (by omega)
        · exact (sh_list (n := 0) (ds := []) fun d hd => by simp at hd).ok (by omega)
        · have e9 : PyData.eqv (.list []) (.list []) = true := SeqAt.eqv_refl _ (sh_list (n := 0) (ds := []) fun d hd => by simp at hd).1
          rw [e9]
          exact k _
end
end K17


set_option maxHeartbeats 0
/-! K17Z2: what the walks lean on, from the facts -/
namespace K17
open PySem PySem.Spec PyProof.Rows L2
theorem txt_of {K : PySem.W.Frag} {h : Heap} {mg : Str → Option Value} (X : K.In h) (G : h.Ns mainGlobals mg) (c : Says K) : Txt K mg where
  f_isname := c.def_ 0 rfl
  f_chkname := c.def_ 1 rfl
  f_isint := c.def_ 2 rfl
  f_chknum := c.def_ 3 rfl
  f_plotI := c.def_ 4 rfl
  f_within := c.def_ 5 rfl
  f_allows := c.def_ 6 rfl
  f_inorder := c.def_ 7 rfl
  f_greatest := c.def_ 8 rfl
  f_gatesI := c.def_ 9 rfl
  f_groundI := c.def_ 10 rfl
  f_capG := c.def_ 11 rfl
  f_placeof := c.def_ 12 rfl
  f_turns := c.def_ 13 rfl
  f_turnof := c.def_ 14 rfl
  f_standI := c.def_ 15 rfl
  f_standEq := c.def_ 16 rfl
  f_standLe := c.def_ 17 rfl
  f_served := c.def_ 18 rfl
  f_dried := c.def_ 19 rfl
  f_weathered := c.def_ 20 rfl
  f_fieldI := c.def_ 21 rfl
  f_fits := c.def_ 22 rfl
  f_watered := c.def_ 23 rfl
  f_wholeday := c.def_ 24 rfl
  f_run := c.def_ 25 rfl
  f_dayI := c.def_ 26 rfl
  f_weatherI := c.def_ 27 rfl
  f_weatherLen := c.def_ 28 rfl
  f_weatherGet := c.def_ 29 rfl
  f_lstart := c.def_ 30 rfl
  f_ldraw := c.def_ 31 rfl
  f_lday := c.def_ 32 rfl
  f_lnames := c.def_ 33 rfl
  f_lground := c.def_ 34 rfl
  f_lweather := c.def_ 35 rfl
  f_lstanding := c.def_ 36 rfl
  f_lserved := c.def_ 37 rfl
  f_ldayafter := c.def_ 38 rfl
  f_lrun := c.def_ 39 rfl
  f_lfuller := c.def_ 40 rfl
  f_lchoices := c.def_ 41 rfl
  f_lwalk := c.def_ 42 rfl
  f_lrunholds := c.def_ 43 rfl
  f_law := c.def_ 44 rfl
  g_isname := He.glo_ok X G (c.fact 0 (f := .glo "is_name") rfl)
  g_chkname := He.glo_ok X G (c.fact 1 (f := .glo "check_name") rfl)
  g_isint := He.glo_ok X G (c.fact 2 (f := .glo "is_integer") rfl)
  g_chknum := He.glo_ok X G (c.fact 3 (f := .glo "check_number") rfl)
  g_within := He.glo_ok X G (c.fact 4 (f := .glo "within") rfl)
  g_allows := He.glo_ok X G (c.fact 5 (f := .glo "allows") rfl)
  g_inorder := He.glo_ok X G (c.fact 6 (f := .glo "in_order") rfl)
  g_greatest := He.glo_ok X G (c.fact 7 (f := .glo "greatest_groups") rfl)
  m_placeof := He.meth_ok (c.fact 8 (f := .meth "Ground" "place_of") rfl)
  m_turns := He.meth_ok (c.fact 9 (f := .meth "Ground" "turns") rfl)
  m_turnof := He.meth_ok (c.fact 10 (f := .meth "Ground" "turn_of") rfl)
  m_standEq := He.meth_ok (c.fact 11 (f := .meth "Standing" "__eq__") rfl)
  m_standLe := He.meth_ok (c.fact 12 (f := .meth "Standing" "__le__") rfl)
  g_served := He.glo_ok X G (c.fact 13 (f := .glo "served") rfl)
  g_dried := He.glo_ok X G (c.fact 14 (f := .glo "dried_plot") rfl)
  g_weathered := He.glo_ok X G (c.fact 15 (f := .glo "weathered") rfl)
  m_fits := He.meth_ok (c.fact 16 (f := .meth "Field" "fits") rfl)
  m_watered := He.meth_ok (c.fact 17 (f := .meth "Field" "watered") rfl)
  m_wholeday := He.meth_ok (c.fact 18 (f := .meth "Field" "whole_day") rfl)
  m_run := He.meth_ok (c.fact 19 (f := .meth "Field" "run") rfl)
  m_weatherLen := He.meth_ok (c.fact 20 (f := .meth "Weather" "__len__") rfl)
  m_weatherGet := He.meth_ok (c.fact 21 (f := .meth "Weather" "__getitem__") rfl)
  g_lstart := He.glo_ok X G (c.fact 22 (f := .glo "_law_start") rfl)
  g_ldraw := He.glo_ok X G (c.fact 23 (f := .glo "_law_draw") rfl)
  g_lday := He.glo_ok X G (c.fact 24 (f := .glo "_law_day") rfl)
  g_lnames := He.glo_ok X G (c.fact 25 (f := .glo "_law_names") rfl)
  g_lground := He.glo_ok X G (c.fact 26 (f := .glo "_law_ground") rfl)
  g_lweather := He.glo_ok X G (c.fact 27 (f := .glo "_law_weather") rfl)
  g_lstanding := He.glo_ok X G (c.fact 28 (f := .glo "_law_standing") rfl)
  g_lserved := He.glo_ok X G (c.fact 29 (f := .glo "_law_served") rfl)
  g_ldayafter := He.glo_ok X G (c.fact 30 (f := .glo "_law_day_after") rfl)
  g_lrun := He.glo_ok X G (c.fact 31 (f := .glo "_law_run") rfl)
  g_lfuller := He.glo_ok X G (c.fact 32 (f := .glo "_law_fuller") rfl)
  g_lchoices := He.glo_ok X G (c.fact 33 (f := .glo "_law_choices") rfl)
  g_lwalk := He.glo_ok X G (c.fact 34 (f := .glo "_law_walk") rfl)
  g_lrunholds := He.glo_ok X G (c.fact 35 (f := .glo "_law_run_holds") rfl)
  g_law := He.glo_ok X G (c.fact 36 (f := .glo "law") rfl)
  gc_Plot := He.glo_ok X G (c.fact 37 (f := .glo "Plot") rfl)
  c_Plot := He.cls_ok (c.fact 38 (f := .cls "Plot") rfl)
  mk_Plot := He.mkr_ok (c.fact 39 (f := .mkr "Plot") rfl)
  n_Plot_name := He.noat_ok (c.fact 40 (f := .noat "Plot" "name") rfl)
  n_Plot_hold := He.noat_ok (c.fact 41 (f := .noat "Plot" "hold") rfl)
  n_Plot_drink := He.noat_ok (c.fact 42 (f := .noat "Plot" "drink") rfl)
  gc_Gates := He.glo_ok X G (c.fact 43 (f := .glo "Gates") rfl)
  c_Gates := He.cls_ok (c.fact 44 (f := .cls "Gates") rfl)
  mk_Gates := He.mkr_ok (c.fact 45 (f := .mkr "Gates") rfl)
  n_Gates_groups := He.noat_ok (c.fact 46 (f := .noat "Gates" "groups") rfl)
  gc_Ground := He.glo_ok X G (c.fact 47 (f := .glo "Ground") rfl)
  c_Ground := He.cls_ok (c.fact 48 (f := .cls "Ground") rfl)
  mk_Ground := He.mkr_ok (c.fact 49 (f := .mkr "Ground") rfl)
  n_Ground_plots := He.noat_ok (c.fact 50 (f := .noat "Ground" "plots") rfl)
  n_Ground_names := He.noat_ok (c.fact 51 (f := .noat "Ground" "names") rfl)
  n_Ground_gates := He.noat_ok (c.fact 52 (f := .noat "Ground" "gates") rfl)
  n_Ground_reserve := He.noat_ok (c.fact 53 (f := .noat "Ground" "reserve") rfl)
  gc_Standing := He.glo_ok X G (c.fact 54 (f := .glo "Standing") rfl)
  c_Standing := He.cls_ok (c.fact 55 (f := .cls "Standing") rfl)
  mk_Standing := He.mkr_ok (c.fact 56 (f := .mkr "Standing") rfl)
  n_Standing_levels := He.noat_ok (c.fact 57 (f := .noat "Standing" "levels") rfl)
  n_Standing_tank := He.noat_ok (c.fact 58 (f := .noat "Standing" "tank") rfl)
  n_Standing_mood := He.noat_ok (c.fact 59 (f := .noat "Standing" "mood") rfl)
  gc_Field := He.glo_ok X G (c.fact 60 (f := .glo "Field") rfl)
  c_Field := He.cls_ok (c.fact 61 (f := .cls "Field") rfl)
  mk_Field := He.mkr_ok (c.fact 62 (f := .mkr "Field") rfl)
  n_Field_ground := He.noat_ok (c.fact 63 (f := .noat "Field" "ground") rfl)
  n_Field_weather := He.noat_ok (c.fact 64 (f := .noat "Field" "weather") rfl)
  n_Field_amount := He.noat_ok (c.fact 65 (f := .noat "Field" "amount") rfl)
  n_Field_bottom := He.noat_ok (c.fact 66 (f := .noat "Field" "bottom") rfl)
  n_Field_turn_list := He.noat_ok (c.fact 67 (f := .noat "Field" "turn_list") rfl)
  gc_Day := He.glo_ok X G (c.fact 68 (f := .glo "Day") rfl)
  c_Day := He.cls_ok (c.fact 69 (f := .cls "Day") rfl)
  mk_Day := He.mkr_ok (c.fact 70 (f := .mkr "Day") rfl)
  n_Day_dry := He.noat_ok (c.fact 71 (f := .noat "Day" "dry") rfl)
  n_Day_rain := He.noat_ok (c.fact 72 (f := .noat "Day" "rain") rfl)
  n_Day_fill := He.noat_ok (c.fact 73 (f := .noat "Day" "fill") rfl)
  n_Day_mood := He.noat_ok (c.fact 74 (f := .noat "Day" "mood") rfl)
  gc_Weather := He.glo_ok X G (c.fact 75 (f := .glo "Weather") rfl)
  c_Weather := He.cls_ok (c.fact 76 (f := .cls "Weather") rfl)
  mk_Weather := He.mkr_ok (c.fact 77 (f := .mkr "Weather") rfl)
  n_Weather_width := He.noat_ok (c.fact 78 (f := .noat "Weather" "width") rfl)
  n_Weather_moods := He.noat_ok (c.fact 79 (f := .noat "Weather" "moods") rfl)
  z_len := He.free_ok X G (c.fact 80 (f := .free "len") rfl)
  z_isinstance := He.free_ok X G (c.fact 81 (f := .free "isinstance") rfl)
  z_str := He.free_ok X G (c.fact 82 (f := .free "str") rfl)
  z_int := He.free_ok X G (c.fact 83 (f := .free "int") rfl)
  z_bool := He.free_ok X G (c.fact 84 (f := .free "bool") rfl)
  z_tuple := He.free_ok X G (c.fact 85 (f := .free "tuple") rfl)
  z_sorted := He.free_ok X G (c.fact 86 (f := .free "sorted") rfl)
  z_range := He.free_ok X G (c.fact 87 (f := .free "range") rfl)
  z_enumerate := He.free_ok X G (c.fact 88 (f := .free "enumerate") rfl)
  z_min := He.free_ok X G (c.fact 89 (f := .free "min") rfl)
  z_max := He.free_ok X G (c.fact 90 (f := .free "max") rfl)
  z_abs := He.free_ok X G (c.fact 91 (f := .free "abs") rfl)
  z_list := He.free_ok X G (c.fact 92 (f := .free "list") rfl)
  z_zip := He.free_ok X G (c.fact 93 (f := .free "zip") rfl)
  z_super := He.free_ok X G (c.fact 94 (f := .free "super") rfl)
  i_MOST_PLOTS := He.int_ok X G (c.fact 95 (f := .int "MOST_PLOTS" 4) rfl)
  i_MOST_UNITS_ground := He.int_ok X G (c.fact 96 (f := .int "MOST_UNITS_ground" 8) rfl)
  i_MOST_UNITS_weather := He.int_ok X G (c.fact 97 (f := .int "MOST_UNITS_weather" 8) rfl)
  i_MOST_STANDINGS := He.int_ok X G (c.fact 98 (f := .int "MOST_STANDINGS" 6000) rfl)
  s_LETTERS := He.str_ok X G (c.fact 99 (f := .str "LETTERS" "abcdefghijklmnopqrstuvwxyz") rfl)
  gc_PLACES := He.glo_ok X G (c.fact 100 (f := .glo "PLACES") rfl)
  gc_DriedOut := He.glo_ok X G (c.fact 101 (f := .glo "DriedOut") rfl)
  p_cap := ⟨He.eqO_ok (c.ex 0 (e := .prop) rfl), He.eqO_ok (c.ex 1 (e := .propG) rfl), of_decide_eq_true (c.ex 2 (e := .propT) rfl), recB_ok (c.ex 3 (e := .propR) rfl)⟩
  places := fun H => He.tupB_ok (c.ex 4 (e := .places) rfl) H
  isS := of_decide_eq_true (c.ex 5 (e := .isS) rfl)
  isSs := of_decide_eq_true (c.ex 6 (e := .isSs) rfl)
  iSc := He.eqO_ok (c.ex 7 (e := .iSc) rfl)
  iSn := He.eqO_ok (c.ex 8 (e := .iSn) rfl)
  iSt := of_decide_eq_true (c.ex 9 (e := .iSt) rfl)
  iSm := of_decide_eq_true (c.ex 10 (e := .iSm) rfl)
  fnGet := c.ex 11 (e := .fnGet) rfl
theorem fnQ_ok {K : PySem.W.Frag} (e : fnQ K = fnQval) (b : fnQB K = true) : ∃ (oc : Value) (od : Option Addr) (doc pm ct : Value) (an : Option Addr) (osl : Array (Option Value)), K.lookup (ID K) = some ⟨oc, od, .func (PySem.DrX.drF (ccOf K) doc pm (.ref (cdOf K)) ct an), osl⟩ := by
  unfold fnQ at e
  unfold fnQB at b
  generalize hc : ccOf K = cc at b ⊢
  generalize hd : cdOf K = cda at b ⊢
  cases q : K.lookup (ID K) with
  | none => rw [q] at b; cases b
  | some o =>
    obtain ⟨oc, od, dt, osl⟩ := o
    rw [q] at e b
    cases dt with
    | func fd =>
      obtain ⟨n1, n2, n3, n4, n5, n6, n7, n8, n9, n10, n11, n12, n13, n14, n15⟩ := fd
      have e2 : (some (n1, n2, n3, n4, n5, n6, [], n15) : He.FnW) = some (("__init__" : Str), ("DriedOut.__init__" : Str), defArgs sDr, FuncBody.stmts (defBody sDr), defScope sDr, mainGlobals, [], builtinsNs) := e
      simp only [Option.some.injEq, Prod.mk.injEq] at e2
      obtain ⟨h1, h2, h3, h4, h5, h6, _, h8⟩ := e2
      obtain ⟨b1, b⟩ := He.ba (show (decide (n7 = [(("__class__" : Str), cc)]) && (decide (n8 = .none) && (decide (n9 = .none) && decide (n13 = .ref cda)))) = true from b)
      obtain ⟨b2, b⟩ := He.ba b
      obtain ⟨b3, b4⟩ := He.ba b
      have e1 := of_decide_eq_true b1
      have e2 := of_decide_eq_true b2
      have e3 := of_decide_eq_true b3
      have e4 := of_decide_eq_true b4
      subst h1 h2 h3 h4 h5 h6 h8 e1 e2 e3 e4
      exact ⟨oc, od, n10, n11, n14, n12, osl, rfl⟩
    | _ => cases b
theorem file_ok {K : PySem.W.Frag} (b : fileB K = true) : ∃ (ccl : Value) (cdd : Option Addr) (vs : Array Value) (ccs : Array (Option Value)) (file : Str) (tf : Tok), K.lookup (cdOf K) = some ⟨ccl, cdd, .fields vs, ccs⟩ ∧ vs[2]? = some (.str file tf) ∧ ((prog.main.file : Str) == file) = true := by
  unfold fileB at b
  split at b
  · rename_i a1 a2 vs a4 ho
    split at b
    · rename_i file tf hv
      exact ⟨a1, a2, vs, a4, file, tf, ho, hv, b⟩
    · cases b
  · cases b
theorem cell_ok {K : PySem.W.Frag} (b : cellB K = true) : ∃ (cl : Value) (cld : Option Addr) (csl : Array (Option Value)), K.lookup (ccOf K) = some ⟨cl, cld, .cell (some (.ref (CD K))), csl⟩ := by
  unfold cellB at b
  split at b
  · rename_i a1 a2 v a4 ho
    have e := of_decide_eq_true b
    subst e
    exact ⟨a1, a2, a4, ho⟩
  · cases b
theorem dr_of {K : PySem.W.Frag} {h : Heap} {mg : Str → Option Value} (X : K.In h) (G : h.Ns mainGlobals mg) (c : Says K) (T : Txt K mg) : PySem.DrX.DrTxt prog K mg (CDr K) (IDr K) where
  gC := T.gc_DriedOut
  cls := clsB_ok (c.ex 12 (e := .cls) rfl)
  sa := He.eqO_ok (c.ex 13 (e := .sa) rfl)
  ga := He.eqO_ok (c.ex 14 (e := .ga) rfl)
  gg := He.eqO_ok (c.ex 15 (e := .gg) rfl)
  noP := He.eqO_ok (c.ex 16 (e := .noP) rfl)
  noD := He.eqO_ok (c.ex 17 (e := .noD) rfl)
  iC := He.eqO_ok (c.ex 18 (e := .iC) rfl)
  tC := of_decide_eq_true (c.ex 19 (e := .tC) rfl)
  kC := c.ex 20 (e := .kC) rfl
  exC := of_decide_eq_true (c.ex 21 (e := .exC) rfl)
  vE := of_decide_eq_true (c.ex 22 (e := .vE) rfl)
  tyC := of_decide_eq_true (c.ex 23 (e := .tyC) rfl)
  hdC := c.ex 24 (e := .hdC) rfl
  te := of_decide_eq_true (c.ex 25 (e := .te) rfl)
  sup := He.eqO_ok (c.ex 26 (e := .sup) rfl)
  mroC := of_decide_eq_true (c.ex 27 (e := .mroC) rfl)
  opq := He.eqO_ok (c.ex 28 (e := .opq) rfl)
  su := T.z_super
  top := by kernel_rfl
  fn := by
    obtain ⟨oc, od, doc, pm, ct, an, osl, h1⟩ := fnQ_ok c.fns.1 (c.ex 29 (e := .fnB) rfl)
    obtain ⟨ccl, cdd, vs, ccs, file, tf, h2, h3, h4⟩ := file_ok (c.ex 31 (e := .file) rfl)
    obtain ⟨cl, cld, csl, h5⟩ := cell_ok (c.ex 32 (e := .cell) rfl)
    exact ⟨oc, od, ccOf K, cdOf K, doc, pm, ct, an, osl, ccl, cdd, vs, ccs, file, tf, cl, cld, csl, h1, c.ex 30 (e := .code) rfl, h2, h3, h4, h5⟩
theorem nostop_of {K : PySem.W.Frag} (c : Says K) (D : RD) : NoStop K (DoneE K D) := fun cls d H h => by
  rw [h.1]
  exact of_decide_eq_true (c.ex 33 (e := .nostop) rfl)
theorem facts {w : World} {K : PySem.W.Frag} {h : Heap} {mg : Str → Option Value} {f : Addr} (X : K.In h) (G : h.Ns mainGlobals mg) (hfa : mg ("law" : Str) = some (.ref f)) (c : Says K) :
    ∃ fd : FuncData, (∀ (s : Shared) (v : Value), BindsTo s fd ⟨[v], []⟩ [("_law_script", v)]) ∧ ∀ base : Heap, K.In base → base.Ns mainGlobals mg → FnOk prog w K mg base CX0 11 f fd ["_law_script"] (spLaw K) := by
  have T := txt_of X G c
  have DT := dr_of X G c T
  have e := hfa.symm.trans T.g_law
  cases e
  obtain ⟨fd, F⟩ := T.f_law
  have b := FunD.bindsA (ps := ["_law_script"]) F fun _ _ _ _ _ _ us hl => match us, hl with | [_], _ => rfl
  exact ⟨fd, fun s v => b s [v] rfl, fun base _ _ => ok_law T DT (nostop_of c) F⟩
end K17


set_option maxHeartbeats 0
open PySem PySem.W PySem.Calls PyProof.Rows
theorem PySem.Challenge.cw_waterbyturns_k17_whole_runs_of_two_stand_holds : PySem.Challenge.rw_waterbyturns_k17_whole_runs_of_two_stand.Holds := by
  w_on; o_law
  refine HandSHeadRun.head_any (r := OpenLaw.row PySem.Challenge.rw_waterbyturns_k17_whole_runs_of_two_stand) (q := view (OpenLaw.row PySem.Challenge.rw_waterbyturns_k17_whole_runs_of_two_stand).prog [53]) (H := K17.hk) (ob := K17.ob) (M := 20000) (loose := K17.loose) (d := HandSHeadRun.topDef (OpenLaw.row PySem.Challenge.rw_waterbyturns_k17_whole_runs_of_two_stand).prog 53) (kwd := []) K17.ob_eq
    (by kernel_rfl) (fun s => by kernel_rfl) K17.run (by kernel_rfl) (by kernel_rfl) (by kernel_rfl) (by rfl) (by first | assumption | decide +kernel) (by decide +kernel) ⟨rfl, rfl, rfl, rfl, rfl, by decide +kernel⟩ ?hw ?hc
  case hw => w_witness2
  case hc =>
    refine L2.walk_ofE (l := PySem.Challenge.rw_waterbyturns_k17_whole_runs_of_two_stand) (n := 63) (k := 11) (x := "_law_script") (CX := L2.CX0) rfl (by decide) (by kernel_rfl) ⟨rfl, by decide, by decide⟩ ?F (fun _ _ _ _ z => z)
    intro w mg fa h Y G hmg0
    obtain ⟨K, KX, c⟩ := Y
    have hmg : mg ("law" : PySem.Str) = some (.ref fa) := by
      have e : (HandSHeadRun.topDef (OpenLaw.row PySem.Challenge.rw_waterbyturns_k17_whole_runs_of_two_stand).prog 53).name = ("law" : PySem.Str) := by kernel_rfl
      rw [← e]
      exact hmg0
    obtain ⟨fd, hb, hF⟩ := K17.facts (w := w) KX G hmg c
    refine ⟨K, fd, K17.spLaw K, KX, hb, fun H a ns hl hO hS => ⟨a, ns, rfl, ?_, fun _ => rfl⟩, hF⟩
    rcases hS with (hS | hS) | hS
    · rcases hO a with q | ⟨o, xs, q⟩
      · rw [q] at hS
        cases hS
      · rw [q] at hS
        cases hS
    · exact .inl hS
    · exact .inr hS


