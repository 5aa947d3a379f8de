import PyProof.Rows.All
import Wide.All
import OpenK.AllK
import Wide.FinOn
import KE.KStateDown
import KE.KNest
import KE.KNestM
import KE.KExcInit
import HandS.ForMost
import HandS.Exc
import HandS.Defaults
import HandS.More
import HandS.Lambda
import HandS.EndTab
import HandS.HeadWalk
import HandS.Head0
import HandS.Head1
import HandS.Head2
import HandS.HeadEnd
import HandS.HeadHook1
import HandS.HeadHook2
import HandS.HeadHook3
import HandS.HeadHook4
import PySem.Challenge.RW_staysdeep_k03_whole_covers_and_deep_plac
import KE.KExcSuper
import HandS.ExcSuper
import HandS.ExcField
import HandS.ExcIs
import HandS.WordsExc
import PyProof.ReprRoads
import HandS.ExcOwn
import HandS.Walk
import HandS.IsInst
import HandS.Deep
import HandS.Style
import HandS.Wide
import HandS.TupAny
import HandS.Zip
import HandS.Conv
import PyProof.EnumMake
import PyProof.Draws
import PyProof.WalksEnum
import KE.GoesMore
import KE.KTupSum
import PyProof.P3Eq
import PyProof.StrLawsRepr
import KE.KExcIs
set_option Elab.async false
set_option linter.all false
set_option maxRecDepth 100000
set_option maxHeartbeats 6000000

/-! The text by places, the defs as data, the head's facts (printed by gentop.py). -/
namespace K3
open PySem PySem.Spec PyProof.Rows L2
def top (i : Nat) : Stmt := PySem.Challenge.pw_staysdeep_k03_whole_covers_and_deep_plac.main.body.getD i (.Pass ⟨0, 0, 0, 0⟩)
abbrev sIsInteger : Stmt := top 8
abbrev sIsBelow : Stmt := top 9
abbrev sIsText : Stmt := top 10
abbrev sIsSequence : Stmt := top 11
abbrev sIsName : Stmt := top 12
abbrev sNeedNumber : Stmt := top 13
abbrev sPlaces : Stmt := top 18
abbrev sOthers : Stmt := top 19
abbrev sCoverOf : Stmt := top 20
abbrev sLayer : Stmt := top 21
abbrev sDeepRow : Stmt := top 22
abbrev sDeepCount : Stmt := top 23
abbrev sDeepPlaces : Stmt := top 24
abbrev sNeedStanding : Stmt := top 26
abbrev sFreePlaces : Stmt := top 27
abbrev sDeepBoxes : Stmt := top 28
abbrev sLHeap : Stmt := top 30
abbrev sLDraw : Stmt := top 31
abbrev sLPick : Stmt := top 32
abbrev sLMixed : Stmt := top 33
abbrev sLNames : Stmt := top 34
abbrev sLHeights : Stmt := top 35
abbrev sLLaid : Stmt := top 36
abbrev sLMany : Stmt := top 37
abbrev sLWord : Stmt := top 38
abbrev sLAllPlaces : Stmt := top 39
abbrev sLDeep : Stmt := top 40
abbrev sLCoversRight : Stmt := top 41
abbrev sLDeepRight : Stmt := top 42
abbrev sLFilledRight : Stmt := top 43
abbrev sLRefusedRight : Stmt := top 44
abbrev sLaw : Stmt := top 45
abbrev sSizeInit : Stmt := inClass (top 4) 0
abbrev sYardInit : Stmt := inClass (top 17) 0

def dIsInteger : He.DefD := ⟨("is_integer", none), "is_integer", "is_integer", defArgs sIsInteger, defBody sIsInteger, defScope sIsInteger, [], []⟩
def dIsBelow : He.DefD := ⟨("is_below", none), "is_below", "is_below", defArgs sIsBelow, defBody sIsBelow, defScope sIsBelow, [], []⟩
def dIsText : He.DefD := ⟨("is_text", none), "is_text", "is_text", defArgs sIsText, defBody sIsText, defScope sIsText, [], []⟩
def dIsSequence : He.DefD := ⟨("is_sequence", none), "is_sequence", "is_sequence", defArgs sIsSequence, defBody sIsSequence, defScope sIsSequence, [], []⟩
def dIsName : He.DefD := ⟨("is_name", none), "is_name", "is_name", defArgs sIsName, defBody sIsName, defScope sIsName, [], []⟩
def dNeedNumber : He.DefD := ⟨("need_number", none), "need_number", "need_number", defArgs sNeedNumber, defBody sNeedNumber, defScope sNeedNumber, [], []⟩
def dPlaces : He.DefD := ⟨("places", none), "places", "places", defArgs sPlaces, defBody sPlaces, defScope sPlaces, [], []⟩
def dOthers : He.DefD := ⟨("others", none), "others", "others", defArgs sOthers, defBody sOthers, defScope sOthers, [], []⟩
def dCoverOf : He.DefD := ⟨("cover_of", none), "cover_of", "cover_of", defArgs sCoverOf, defBody sCoverOf, defScope sCoverOf, [], []⟩
def dLayer : He.DefD := ⟨("layer", none), "layer", "layer", defArgs sLayer, defBody sLayer, defScope sLayer, [], []⟩
def dDeepRow : He.DefD := ⟨("deep_row", none), "deep_row", "deep_row", defArgs sDeepRow, defBody sDeepRow, defScope sDeepRow, [], []⟩
def dDeepCount : He.DefD := ⟨("deep_count", none), "deep_count", "deep_count", defArgs sDeepCount, defBody sDeepCount, defScope sDeepCount, [], []⟩
def dDeepPlaces : He.DefD := ⟨("deep_places", none), "deep_places", "deep_places", defArgs sDeepPlaces, defBody sDeepPlaces, defScope sDeepPlaces, [], []⟩
def dNeedStanding : He.DefD := ⟨("need_standing", none), "need_standing", "need_standing", defArgs sNeedStanding, defBody sNeedStanding, defScope sNeedStanding, [], []⟩
def dFreePlaces : He.DefD := ⟨("free_places", none), "free_places", "free_places", defArgs sFreePlaces, defBody sFreePlaces, defScope sFreePlaces, [], []⟩
def dDeepBoxes : He.DefD := ⟨("deep_boxes", none), "deep_boxes", "deep_boxes", defArgs sDeepBoxes, defBody sDeepBoxes, defScope sDeepBoxes, [], []⟩
def dLHeap : He.DefD := ⟨("_law_heap", none), "_law_heap", "_law_heap", defArgs sLHeap, defBody sLHeap, defScope sLHeap, [], []⟩
def dLDraw : He.DefD := ⟨("_law_draw", none), "_law_draw", "_law_draw", defArgs sLDraw, defBody sLDraw, defScope sLDraw, [], []⟩
def dLPick : He.DefD := ⟨("_law_pick", none), "_law_pick", "_law_pick", defArgs sLPick, defBody sLPick, defScope sLPick, [], []⟩
def dLMixed : He.DefD := ⟨("_law_mixed", none), "_law_mixed", "_law_mixed", defArgs sLMixed, defBody sLMixed, defScope sLMixed, [], []⟩
def dLNames : He.DefD := ⟨("_law_names", none), "_law_names", "_law_names", defArgs sLNames, defBody sLNames, defScope sLNames, [], []⟩
def dLHeights : He.DefD := ⟨("_law_heights", none), "_law_heights", "_law_heights", defArgs sLHeights, defBody sLHeights, defScope sLHeights, [], []⟩
def dLLaid : He.DefD := ⟨("_law_laid", none), "_law_laid", "_law_laid", defArgs sLLaid, defBody sLLaid, defScope sLLaid, [], []⟩
def dLMany : He.DefD := ⟨("_law_many", none), "_law_many", "_law_many", defArgs sLMany, defBody sLMany, defScope sLMany, [], []⟩
def dLWord : He.DefD := ⟨("_law_word", none), "_law_word", "_law_word", defArgs sLWord, defBody sLWord, defScope sLWord, [], []⟩
def dLAllPlaces : He.DefD := ⟨("_law_all_places", none), "_law_all_places", "_law_all_places", defArgs sLAllPlaces, defBody sLAllPlaces, defScope sLAllPlaces, [], []⟩
def dLDeep : He.DefD := ⟨("_law_deep", none), "_law_deep", "_law_deep", defArgs sLDeep, defBody sLDeep, defScope sLDeep, [], []⟩
def dLCoversRight : He.DefD := ⟨("_law_covers_right", none), "_law_covers_right", "_law_covers_right", defArgs sLCoversRight, defBody sLCoversRight, defScope sLCoversRight, [], []⟩
def dLDeepRight : He.DefD := ⟨("_law_deep_right", none), "_law_deep_right", "_law_deep_right", defArgs sLDeepRight, defBody sLDeepRight, defScope sLDeepRight, [], []⟩
def dLFilledRight : He.DefD := ⟨("_law_filled_right", none), "_law_filled_right", "_law_filled_right", defArgs sLFilledRight, defBody sLFilledRight, defScope sLFilledRight, [], []⟩
def dLRefusedRight : He.DefD := ⟨("_law_refused_right", none), "_law_refused_right", "_law_refused_right", defArgs sLRefusedRight, defBody sLRefusedRight, defScope sLRefusedRight, [], []⟩
def dLaw : He.DefD := ⟨("law", none), "law", "law", defArgs sLaw, defBody sLaw, defScope sLaw, [], []⟩
def dYardInit : He.DefD := ⟨("Yard", some "__init__"), "__init__", "Yard.__init__", defArgs sYardInit, defBody sYardInit, defScope sYardInit, [], []⟩
def fn : List He.DefD := [dIsInteger, dIsBelow, dIsText, dIsSequence, dIsName, dNeedNumber, dPlaces, dOthers, dCoverOf, dLayer, dDeepRow, dDeepCount, dDeepPlaces, dNeedStanding, dFreePlaces, dDeepBoxes] ++ [dLHeap, dLDraw, dLPick, dLMixed, dLNames, dLHeights, dLLaid, dLMany, dLWord, dLAllPlaces, dLDeep, dLCoversRight, dLDeepRight, dLFilledRight, dLRefusedRight, dLaw, dYardInit]
def faG : List He.Fa := [.glo "YardError", .glo "InvalidSize", .glo "Yard", .glo "is_integer", .glo "is_below", .glo "is_text", .glo "is_sequence", .glo "is_name", .glo "need_number", .glo "places", .glo "others", .glo "cover_of", .glo "layer", .glo "deep_row", .glo "deep_count", .glo "deep_places", .glo "need_standing", .glo "free_places", .glo "deep_boxes", .glo "_law_heap"] ++ [.glo "_law_draw", .glo "_law_pick", .glo "_law_mixed", .glo "_law_names", .glo "_law_heights", .glo "_law_laid", .glo "_law_many", .glo "_law_word", .glo "_law_all_places", .glo "_law_deep", .glo "_law_covers_right", .glo "_law_deep_right", .glo "_law_filled_right", .glo "_law_refused_right", .glo "law"]
def faF : List He.Fa := [.free "len", .free "sum", .free "isinstance", .free "int", .free "abs", .free "list", .free "tuple", .free "range", .free "enumerate", .free "max", .free "min", .free "repr", .free "all", .free "bool", .free "str", .free "super"]
def faM : List He.Fa := [.int "LONGEST" 8, .int "FEWEST" 3, .int "MOST" 12, .str "LETTERS" "abcdefghijklmnopqrstuvwxyz", .cls "Yard", .noat "Yard" "heights", .mkr "Yard", .keep "InvalidSize"]
def fa : List He.Fa := faG ++ (faF ++ faM)
def tf : List He.Defn := [("_law_refused_right", none)]
def looseA : List Str := ["YardError", "InvalidYard", "InvalidStanding", "InvalidSize", "LETTERS", "LONGEST", "is_integer", "is_below", "is_text", "is_sequence", "is_name", "need_number", "FEWEST", "MOST", "Yard", "places", "others", "cover_of", "layer", "deep_row"]
def looseB : List Str := ["deep_count", "deep_places", "need_standing", "free_places", "deep_boxes", "_law_heap", "_law_draw", "_law_pick", "_law_mixed", "_law_names", "_law_heights", "_law_laid", "_law_many", "_law_word", "_law_all_places", "_law_deep", "_law_covers_right", "_law_deep_right", "_law_filled_right", "_law_refused_right"]
def loose : List Str := looseA ++ looseB
abbrev LW : PySem.W.OpenLaw := PySem.Challenge.rw_staysdeep_k03_whole_covers_and_deep_plac
abbrev R : PySem.W.OpenRow := PySem.W.OpenLaw.row LW

/-! ### what is asked of the error's class -/
abbrev cSize (K : PySem.W.Frag) : Addr := He.ga K "InvalidSize"
abbrev cYErr (K : PySem.W.Frag) : Addr := He.ga K "YardError"
def aInit (K : PySem.W.Frag) : Addr := He.ma K (cSize K) "__init__"
abbrev exTl : List Value := [.type "Exception", .type "BaseException", .type "object"]
def eqC (a : Option ClassData) (m : List Value) : Bool := match a with
  | some cd => decide (cd.mro = m) && (cd.hasDict && !cd.hasDel)
  | none => false
/-- the cell of __class__ and the code's file -/
def initCell (K : PySem.W.Frag) : Bool := match K.lookup (aInit K) with
  | some ⟨_, _, .func fd, _⟩ => PySem.W.codeIn K fd.code "InvalidSize.__init__" && ((match fd.closure with
    | [(_, cc)] => (match K.lookup cc with
      | some ⟨_, _, .cell (some (.ref D)), _⟩ => decide (D = cSize K)
      | _ => false)
    | _ => false) && (match fd.code with
    | .ref c => (match K.lookup c with
      | some ⟨_, _, .fields vs, _⟩ => (match (vs[2]? : Option Value) with
        | some (.str file _) => (LW.prog.main.file : Str) == file
        | _ => false)
      | _ => false)
    | _ => false))
  | _ => false
def exF (K : PySem.W.Frag) : Bool :=
  (eqC (PySem.W.clsIn K (cSize K)) (.ref (cSize K) :: .ref (cYErr K) :: exTl)
  && PySem.W.excInitIn K (cSize K) exTl "Exception.__new__"
  && decide (PySem.W.findIn K (.ref (cSize K)) "__setattr__" = some (some (.builtin "object.__setattr__")))
  && decide (PySem.W.findIn K (.ref (cSize K)) "__getattribute__" = some (some (.builtin "BaseException.__getattribute__")))
  && decide (PySem.W.findIn K (.ref (cSize K)) "__getattr__" = some none)
  && decide (PySem.W.findIn K (.ref (cSize K)) "word" = some none))
  && (decide (PySem.W.findIn K (.ref (cSize K)) "__init__" = some (some (.ref (aInit K))))
  && decide (PySem.W.typeIn K (.ref (aInit K)) = some (.type "function"))
  && decide (PySem.W.subIn K (.ref (cSize K)) (.type "BaseException") = some true)
  && decide (PySem.W.typeIn K (.ref (cSize K)) = some (.type "type"))
  && decide (PySem.W.exmOne K (.ref (cSize K)) (.ref (cSize K)) = some true)
  && decide (PySem.W.kitOne K (.ref (cSize K)) (.ref (cYErr K)) = some true))
  && (decide (PySem.W.findIn K (.ref (cSize K)) "__class__" = some (some (.builtin "object.__class__")))
  && decide (PySem.W.specialIn K (.builtin "object.__class__") "__get__" = some (some (.builtin "getset_descriptor.__get__")))
  && decide (PySem.W.takesIn K (.builtin "object.__class__") = some true)
  && decide (PySem.W.mroIn K (cSize K) (.type "object") = some true)
  && decide (PySem.W.alongIn K "__init__" (.ref (cYErr K) :: exTl) = some (some (.builtin "Exception.__init__")))
  && decide (PySem.W.nsIn K cStatics "thirdparty.any" = some none)
  && initCell K)
/-- the error's __init__ as the top left it -/
abbrev InV : Type := Option (Str × Str × Arguments × FuncBody × Scope × Addr × List Str × Value × Value × Addr)
def initW (K : PySem.W.Frag) : InV := match K.lookup (aInit K) with
  | some ⟨_, _, .func fd, _⟩ => some (fd.name, fd.qualname, fd.params, fd.body, fd.scope, fd.globals, fd.closure.map (·.1), fd.defaults, fd.kwdefaults, fd.builtins)
  | _ => none
def initV : InV := some ("__init__", "InvalidSize.__init__", defArgs sSizeInit, .stmts (defBody sSizeInit), defScope sSizeInit, mainGlobals, ["__class__"], .none, .none, builtinsNs)
/-! ### the Hook -/
def asK (n : Nat) (g : Addr → Option Obj) : List Addr := cStatics :: He.asD g n
def frK (n : Nat) (g : Addr → Option Obj) : PySem.W.Frag := He.frT g (asK n g)
abbrev AlK : Type := He.AlD × InV × Bool
def obsK (n : Nat) (g : Addr → Option Obj) : AlK := (He.obsD fa fn (frK n g), initW (frK n g), exF (frK n g) && He.tabsB g tf (frK n g))
def valK : AlK := (He.valD fn, initV, true)
/-- what the head tells of the written part K -/
structure SaysK (h : Heap) (K : PySem.W.Frag) : Prop where
  d : He.SaysD fa fn K
  i : initW K = initV
  ex : exF K = true
  hd : ∀ p ∈ tf, PySem.W.codeHdIn K (He.cT K p).1 (He.cT K p).2 = true
  out : ∀ p ∈ tf, K.lookup (He.cT K p).2 = none
  empty : ∀ p ∈ tf, h.get? (He.cT K p).2 = some { cls := .none, data := .fields #[] }
theorem saysK_of {n : Nat} {h : Heap} (e : obsK n h.get? = valK) : SaysK h (frK n h.get?) := by
  have e1 : He.obsD fa fn (frK n h.get?) = He.valD fn := congrArg (fun z : AlK => z.1) e
  have e2 : initW (frK n h.get?) = initV := congrArg (fun z : AlK => z.2.1) e
  have e3 : (exF (frK n h.get?) && He.tabsB h.get? tf (frK n h.get?)) = true := congrArg (fun z : AlK => z.2.2) e
  obtain ⟨h1, h2⟩ := He.ba e3
  have key : ∀ p ∈ tf, PySem.W.codeHdIn (frK n h.get?) (He.cT (frK n h.get?) p).1 (He.cT (frK n h.get?) p).2 = true ∧ ∃ o, h.get? (He.cT (frK n h.get?) p).2 = some o ∧ He.emptyTab o = true := fun p hp => by
    obtain ⟨h3, h4⟩ := He.ba (List.all_eq_true.mp h2 p hp)
    refine ⟨h3, ?_⟩
    cases q : h.get? (He.cT (frK n h.get?) p).2 with
    | none =>
      rw [q] at h4
      cases h4
    | some o =>
      rw [q] at h4
      exact ⟨o, rfl, h4⟩
  exact ⟨e1, e2, h1, fun p hp => (key p hp).1, fun p hp => by
    obtain ⟨_, o, q, z⟩ := key p hp
    exact He.frT_none q z, fun p hp => by
    obtain ⟨_, o, q, z⟩ := key p hp
    rw [q, He.emptyTab_eq z]⟩
def hookK (n : Nat) : PySem.W.Hook where
  α := AlK
  obs := fun s => obsK n s.heap.get?
  val := fun _ => valK
  says := fun _ h => ∃ K : PySem.W.Frag, K.In h ∧ SaysK h K
  of := fun _ _ e => ⟨_, He.frT_in, saysK_of e⟩
  keeps := fun _ _ _ ⟨K, hK, c⟩ k => ⟨K, PySem.W.Frag.In.keeps hK k, ⟨c.d, c.i, c.ex, c.hd, c.out, fun p hp => k _ _ (c.empty p hp)⟩⟩
theorem obsK_eq {n : Nat} {g : Addr → Option Obj} {s : Shared} (h : ∀ a, g a = s.heap.get? a) : obsK n g = (hookK n).obs s := by
  have e : g = s.heap.get? := funext h
  rw [e] <;> rfl
end K3
set_option maxHeartbeats 0
namespace K3
open PySem PySem.Spec PyProof.Rows L2
abbrev hk : PySem.W.Hook := hookK 5
def ob (s : PySem.W.SharedT) : AlK := obsK 5 (HandSHeadRun.getT s)
theorem ob_eq (s : PySem.W.SharedT) : ob s = hk.obs s.abs := obsK_eq (HandSHeadRun.getT_eq s)
theorem run (w : World) : HandSHeadRun.RunEq R (PySem.W.view R.prog [45]) hk ob 4000 loose w := by
  intro os
  kernel_rfl
end K3
set_option maxHeartbeats 6000000
/-! InvalidSize(word): made by its own __init__ (super().__init__ of the built-in base, then self.word = word), over the raw heap. -/
namespace PySem
namespace K3X
open PySem.W PySem.Calls PyProof.Rows PySem.HandSPX
abbrev iFn (doc pm : Value) (an : Option Addr) (cdv ct : Value) (cc : Addr) : FuncData := ksFn "__init__" "InvalidSize.__init__" (L2.defArgs K3.sSizeInit) (L2.defBody K3.sSizeInit) (L2.defScope K3.sSizeInit) .none .none doc pm an cdv ct cc
/-- what the written part says of the class at C, its base at Y, its __init__ at fI -/
structure SizeT (K : Frag) (mg : Str → Option Value) (C Y fI : Addr) : Prop where
  gC : mg "InvalidSize" = some (.ref C)
  gY : mg "YardError" = some (.ref Y)
  gsup : mg "super" = none
  ini : excInitIn K C K3.exTl "Exception.__new__" = true
  cls : ∃ cd : ClassData, clsIn K C = some cd ∧ cd.mro = .ref C :: .ref Y :: K3.exTl ∧ cd.hasDict = true ∧ cd.hasDel = false
  sa : findIn K (.ref C) "__setattr__" = some (some (.builtin "object.__setattr__"))
  ga : findIn K (.ref C) "__getattribute__" = some (some (.builtin "BaseException.__getattribute__"))
  gg : findIn K (.ref C) "__getattr__" = some none
  noW : findIn K (.ref C) "word" = some none
  iC : findIn K (.ref C) "__init__" = some (some (.ref fI))
  tC : typeIn K (.ref fI) = some (.type "function")
  kC : keepIn K (.ref C) = true
  exC : subIn K (.ref C) (.type "BaseException") = some true
  tyC : typeIn K (.ref C) = some (.type "type")
  te : exmOne K (.ref C) (.ref C) = some true
  ky : kitOne K (.ref C) (.ref Y) = some true
  cC : findIn K (.ref C) "__class__" = some (some (.builtin "object.__class__"))
  cG : specialIn K (.builtin "object.__class__") "__get__" = some (some (.builtin "getset_descriptor.__get__"))
  cT : takesIn K (.builtin "object.__class__") = some true
  cM : mroIn K C (.type "object") = some true
  along : alongIn K "__init__" (.ref Y :: K3.exTl) = some (some (.builtin "Exception.__init__"))
  opq : nsIn K cStatics "thirdparty.any" = some none
  fn : ∃ (oc : Value) (od : Option Addr) (doc pm : Value) (an : Option Addr) (c : Addr) (ct : Value) (osl : Array (Option Value)) (cc : Addr),
    K.lookup fI = some ⟨oc, od, .func (iFn doc pm an (.ref c) ct cc), osl⟩ ∧ codeIn K (.ref c) "InvalidSize.__init__" = true ∧
    (∃ ccl cdd csl, K.lookup cc = some ⟨ccl, cdd, .cell (some (.ref C)), csl⟩) ∧
    ∃ ocl cdd vs ccs file tf, K.lookup c = some ⟨ocl, cdd, .fields vs, ccs⟩ ∧ (vs[2]? : Option Value) = some (.str file tf) ∧ ((K3.LW.prog.main.file : Str) == file) = true
theorem SizeT.hd {K : Frag} {mg : Str → Option Value} {C Y fI : Addr} (T : SizeT K mg C Y fI) : hasDictIn K C = true := by
  obtain ⟨cd, h1, _, h3, _⟩ := T.cls
  unfold hasDictIn
  rw [h1]
  exact h3
theorem SizeT.over {K : Frag} {mg : Str → Option Value} {C Y fI : Addr} (T : SizeT K mg C Y fI) : excOver K C K3.exTl = true := by
  obtain ⟨cd, h1, h2, h3, _⟩ := T.cls
  unfold excOver
  rw [h1]
  show (match cd.mro with | .ref C' :: bm => C' == C && excTail K3.exTl bm | _ => false) = true
  rw [h2]
  show (C == C && excTail K3.exTl (.ref Y :: K3.exTl)) = true
  rw [beq_self_eq_true]
  rfl
theorem one_size (v : Value) : [v].length ≤ sizeLine := by
  rw [sizeLine_eq]
  exact (by decide : 1 ≤ 16777216)
/-- what __init__ leaves of a fresh exception at x -/
structure IniEnd (h h' : Heap) (x C dx t1 : Addr) (v : Value) : Prop where
  keep : ∀ b o, b ≠ x → h.get? b = some o → h'.get? b = some o
  obj : h'.get? x = some { cls := .ref C, dict := some dx, data := .fields #[.ref t1, .none, .none, .none, .bool false, .none] }
  dbig : h.objs.size ≤ dx
  dne : dx ≠ x
  ns : h'.Ns1 dx (fun y => if y = "word" then some v else none)
section
variable {w : World} {A : Around} {E : Value → Shared → Prop} {R : Result → Shared → Prop} {s : Shared} {K : Frag} {mg : Str → Option Value} {C Y fI : Addr}
/-- self.word = v, the first field -/
theorem osa_word {prog : Program} {hp : Heap} {g : Array GenState} {d : Drawn} {t : Nat} {os : OsState} {tk : Tok} {v : Value} {x : Addr} {fv : Array Value} (T : SizeT K mg C Y fI)
    (X : K.In hp) (hx : hp.get? x = some { cls := .ref C, data := .fields fv })
    (hq : ∀ h' tk' dx, (∀ b o, b ≠ x → hp.get? b = some o → h'.get? b = some o) → hp.objs.size ≤ dx → dx ≠ x → h'.get? x = some { cls := .ref C, dict := some dx, data := .fields fv } →
      h'.Ns1 dx (fun y => if y = "word" then some v else none) → R (.ok (.ret .none)) ⟨h', g, d, tk', os⟩) :
    codeAny (model prog w) A (.call (.builtin "object.__setattr__") ⟨[.ref x, .str "word" tk, v], []⟩) R ⟨hp, g, d, t, os⟩ := by
  obtain ⟨cd, hcd, hm, hh, _⟩ := T.cls
  have hxs : x ≠ hp.objs.size := Nat.ne_of_lt (Heap.lt_size hx)
  refine osa_openX (od := none) F.store_Exception X ⟨hx, rfl, rfl, trivial⟩ T.over (r := none) ?_ fun b => ?_
  · unfold takerIn
    rw [T.noW] <;> rfl
  · have hcls : Looks (model prog w) hp (classData C) cd := looks_clsIn X hcd
    obtain ⟨nm, bs, mro, ns, qn, hd, sn, sb, ab, col, del⟩ := cd
    dsimp only at hh
    subst hh
    show wpAny _ _ (Builtin.ObjectAttr.storeInOwnDict (.ref x) (.ref C) (.str "word" tk) "word" v b) _ _ _
    unfold Builtin.ObjectAttr.storeInOwnDict Builtin.ObjectAttr.ownDictForStores
    repeat (first | with_reducible refine store_in_new ?_ ?_ | with_reducible refine wpAny_loadPart_at hx ?_ | with_reducible refine hcls.at ?_ | wp_step)
    · exact ⟨_, #[], _, (Heap.get?_update_ne _ _ _ _ hxs.symm).trans (Heap.get?_push_at rfl rfl), rfl, fun e he => absurd he (by simp), fun _ => rfl⟩
    · intro h' tk' hn' hs
      have hx₁ : (hp.push { cls := .type "dict", data := .dict #[] }).get? x = some { cls := .ref C, data := .fields fv } := Heap.get?_push_of_some _ hx
      refine hq h' tk' hp.objs.size (fun b o hb ho => ?_) (Nat.le_refl _) hxs.symm ?_ hn'
      · exact (hs.2 b (Nat.ne_of_lt (Heap.lt_size ho))).trans ((Heap.get?_update_ne _ _ _ _ hb).trans (Heap.get?_push_of_some _ ho))
      · exact (hs.2 x hxs).trans (Heap.get?_update_self _ hx₁ rfl)
end
/-- the text of __init__ -/
def iBody : List Stmt := [.Expr (.Call (.Attribute (.Call (.Name "super" ⟨17, 8, 17, 13⟩) [] [] ⟨17, 8, 17, 15⟩) "__init__" ⟨17, 8, 17, 24⟩) [.Constant (.str "invalid size") 0 ⟨17, 25, 17, 39⟩] [] ⟨17, 8, 17, 40⟩) ⟨17, 8, 17, 40⟩,
  .Assign [.Attribute (.Name "self" ⟨18, 8, 18, 12⟩) "word" ⟨18, 8, 18, 17⟩] (.Name "word" ⟨18, 20, 18, 24⟩) ⟨18, 8, 18, 24⟩]
theorem iBody_eq : L2.defBody K3.sSizeInit = iBody := by kernel_rfl
theorem SizeT.mro {K : Frag} {mg : Str → Option Value} {C Y fI : Addr} (T : SizeT K mg C Y fI) {b : Value} (hb : (Value.ref C :: .ref Y :: K3.exTl).contains b = true) : mroIn K C b = some true := by
  obtain ⟨cd, h1, h2, _, _⟩ := T.cls
  unfold mroIn
  rw [h1, Option.bind_some, h2, if_neg (show ¬ (List.isEmpty (Value.ref C :: .ref Y :: K3.exTl) = true) from Bool.false_ne_true), hb]
theorem SizeT.inst {M : Model} {K : Frag} {mg : Str → Option Value} {C Y fI : Addr} (T : SizeT K mg C Y fI) {h : Heap} {x : Addr} {ox : Obj} {od : Option Obj} (X : K.In h) (I : InstAt h x ox C od) : Looks M h (isInstance (.ref x) (.type "Exception")) true :=
  I.type.andThen (looks_mroIn X (T.mro (by
    rw [List.contains_cons, List.contains_cons]
    simp only [K3.exTl, List.contains_cons, beq_self_eq_true, Bool.true_or, Bool.or_true])))
section
variable {w : World} {A : Around} {E : Value → Shared → Prop} {R : Result → Shared → Prop} {s : Shared} {K : Frag} {mg : Str → Option Value} {C Y fI : Addr}
theorem size_init (T : SizeT K mg C Y fI) {x t0 : Addr} {v : Value} {mb : Str → Option Value} (X : K.In s.heap) (hlim : s.heap.NoLimit) (hG : s.heap.Ns mainGlobals mg) (hB : s.heap.Ns builtinsNs mb) (hb : ∀ y : Str, y ≠ "__name__" → mb y = bootBuiltins y)
    (hx : s.heap.get? x = some (excO C t0)) (hnx : K.lookup x = none) (hroom : A.depth < recursionLimit)
    (hq : ∀ h' tk dx t1, IniEnd s.heap h' x C dx t1 v → R (.ok (.ret .none)) { s with heap := h', toks := tk }) :
    codeAny (model K3.LW.prog w) A (.call (.ref fI) ⟨[.ref x, v], []⟩) R s := by
  obtain ⟨oc, od, doc, pm, an, c, ct, osl, cc, ho, hcd, ⟨ccl, ccd, csl, hcell⟩, ocl, cdd, vs, ccs, file, tf, hcode, hvs, hfile⟩ := T.fn
  obtain ⟨cd, hcls, hmro, hhd, hdel⟩ := T.cls
  refine ks_codeAny_call_defAt (fd := iFn doc pm an (.ref c) ct cc) (body := L2.defBody K3.sSizeInit) (binds := [("self", .ref x), ("word", v)]) hroom (X _ _ ho) rfl hlim (codeRec_of X hcd) rfl (BindsTo.of_eq (by first | rfl | with_unfolding_all rfl))
    (show ∀ y ∈ (L2.defScope K3.sSizeInit).names, y.2 ≠ .cell by decide +kernel) (fun y hy => ?hloc) (fun h₁ hn hk₁ => ?_) rfl rfl rfl
  case hloc =>
    rcases List.mem_cons.mp hy with e | hy
    · rw [e]
      show List.lookup ("self" : Str) (L2.defScope K3.sSizeInit).names = some NameKind.local
      kernel_rfl
    · rcases List.mem_cons.mp hy with e | hy
      · rw [e]
        show List.lookup ("word" : Str) (L2.defScope K3.sSizeInit).names = some NameKind.local
        kernel_rfl
      · cases hy
  rw [iBody_eq]
  have X₁ : K.In h₁ := X.keeps hk₁
  have hx₁ := hk₁ _ _ hx
  have hxL : s.heap.objs.size ≠ x := Nat.ne_of_gt (Heap.lt_size hx)
  have hxC : x ≠ C := by
    rintro rfl
    unfold clsIn at hcls
    split at hcls
    · rename_i c' d' cd' sl' e1
      have e2 := X _ _ e1
      rw [hx] at e2
      cases e2
    · cases hcls
  obtain ⟨oD, hD1, hD2⟩ : ∃ oD, h₁.get? C = some oD ∧ oD.data = .cls cd := by
    unfold clsIn at hcls
    split at hcls
    · rename_i c' d' cd' sl' e1
      cases hcls
      exact ⟨_, X₁ _ _ e1, rfl⟩
    · cases hcls
  have selfC : mroIn K C (.ref C) = some true := T.mro (by rw [List.contains_cons, beq_self_eq_true, Bool.true_or])
  -- super().__init__("invalid size")
  show _root_.PySem.wpAt _ _ _ (execs [.Expr (.Call (.Attribute (.Call (.Name "super" ⟨17, 8, 17, 13⟩) [] [] ⟨17, 8, 17, 15⟩) "__init__" ⟨17, 8, 17, 24⟩) [.Constant (.str "invalid size") 0 ⟨17, 25, 17, 39⟩] [] ⟨17, 8, 17, 40⟩) ⟨17, 8, 17, 40⟩, .Assign [.Attribute (.Name "self" ⟨18, 8, 18, 12⟩) "word" ⟨18, 8, 18, 17⟩] (.Name "word" ⟨18, 20, 18, 24⟩) ⟨18, 8, 18, 24⟩] _) _ _ _
  refine ks_wpAt_execs_cons (ks_wpAt_Expr_any (ks_wpAt_MethodCall ?_))
  refine ks_wpAt_super_base (of := ⟨oc, od, .func (iFn doc pm an (.ref c) ct cc), osl⟩) (fd := iFn doc pm an (.ref c) ct cc) (oc := ⟨ocl, cdd, .fields vs, ccs⟩) (vs := vs) (file := file) (tf := tf) (f := fI) (cc := c) rfl rfl (by decide) rfl (X₁ _ _ ho) rfl rfl rfl (X₁ _ _ hcode) rfl hvs hfile (by kernel_rfl) ?_
  refine ks_loadName_global rfl rfl (loadGlobal_builtin (hG.keeps hk₁) T.gsup (hB.keeps hk₁) ((hb _ (by decide +kernel)).trans (show bootBuiltins "super" = some (.type "super") by decide +kernel)) ⟨rfl, ?_⟩)
  refine wpAny_loadName_free rfl rfl rfl ⟨_, X₁ _ _ hcell, rfl⟩ ?_
  refine wpAny_loadName_local rfl rfl hn (by first | rfl | with_unfolding_all rfl | kernel_rfl) ?_
  refine ks_wpAny_isType_cls hD1 hD2 ⟨rfl, ?_⟩
  refine ks_wpAny_call_super hD1 hD2 hx₁ rfl (fun _ e => nomatch e) (looks_mroIn X₁ selfC) (fun h₂ hso hk₂ => ?_)
  have X₂ : K.In h₂ := X₁.keeps hk₂
  have hx₂ := hk₂ _ _ hx₁
  have I₂ : InstAt h₂ x (excO C t0) C none := ⟨hx₂, rfl, rfl, trivial⟩
  refine ESX.getMethod_super hso (looks_opaque X₂ T.opq) (l₀ := cd.mro) ((looks_clsIn X₂ hcls).andThen .now) (l := .ref Y :: K3.exTl) (by rw [hmro]; exact ESX.drop_own _ _) X₂ T.along hxC (by decide) (T.inst X₂ I₂) ?_
  have hu : ∀ {b : Addr} {o : Obj}, h₂.get? b = some o → (h₂.push (ESX.bw x)).get? b = some o := fun e => Heap.get?_push_of_some _ e
  have X₃ : K.In (h₂.push (ESX.bw x)) := X₂.keeps fun _ _ e => hu e
  refine ESX.callWith_bound (x := x) (Calls.spliced_cons (Calls.Constant_str (k := 0) (pos := ⟨17, 25, 17, 39⟩) (Calls.spliced_nil ⟨Heap.get?_push_size _ rfl, ?_⟩)))
  obtain ⟨nm, N, qn, bs, bm, hdct, sn, sub, ab, col, dd, k0, k1, k2, k3, k5, hC, hT⟩ := excInit_of X₃ T.ini
  refine ESX.call_bw hC (hu hx₂) (Heap.get?_push_size _ rfl) (one_size _) fun h₄ t1 hk₄ hx₄ => ?_
  have big : ∀ b o, b ≠ x → s.heap.get? b = some o → h₄.get? b = some o := fun b o hb e => hk₄ b o hb (hu (hk₂ _ _ (hk₁ _ _ e)))
  have X₄ : K.In h₄ := fun b o e => hk₄ b o (fun z => by
    rw [z, hnx] at e
    cases e) (X₃ _ _ e)
  have hn₄ : h₄.Ns s.heap.objs.size fun y => List.lookup y [(("self" : Str), Value.ref x), (("word" : Str), v)].reverse := by
    obtain ⟨o, es, ep, e1, r⟩ := hn
    exact ⟨o, es, ep, hk₄ _ _ hxL (hu (hk₂ _ _ e1)), r⟩
  -- self.word = word
  refine ks_wpAt_execs_cons (wpAt_of_wpAny (plainObj_wpAny_Assign_Attribute ?_))
  refine ESX.ldL hn₄ (v := v) (by first | rfl | with_unfolding_all rfl | kernel_rfl) (ESX.ldL hn₄ (v := .ref x) (by first | rfl | with_unfolding_all rfl | kernel_rfl) ?_)
  refine set_plain X₄ (ox := excO C t1) (od := none) ⟨hx₄, rfl, rfl, trivial⟩ T.sa ?_
  refine osa_word T X₄ hx₄ (fun h₅ tk₅ dx k₅ dn dne hx₅ hn₅ => ?_)
  show _root_.PySem.wpAt _ _ _ (execs [] _) _ _ _
  refine wpAt_of_wpAny (wpAny_execs_nil ?_)
  exact hq h₅ tk₅ dx t1 ⟨fun b o hb e => k₅ b o hb (big b o hb e), hx₅, Nat.le_trans (Nat.le_of_lt hn₄.lt) dn, dne, hn₅⟩
/-- a made InvalidSize -/
structure SizeMade (h h' : Heap) (e C d : Addr) (v : Value) : Prop where
  keep : ∀ b o, h.get? b = some o → h'.get? b = some o
  new : h.objs.size ≤ e
  obj : ∃ oe vs, h'.get? e = some oe ∧ oe.cls = .ref C ∧ oe.dict = some d ∧ oe.data = .fields vs ∧ vs[1]? = some .none
  dbig : h.objs.size ≤ d
  dne : d ≠ e
  ns : h'.Ns1 d (fun y => if y = "word" then some v else none)
theorem size_made (T : SizeT K mg C Y fI) {v : Value} {mb : Str → Option Value} (X : K.In s.heap) (hlim : s.heap.NoLimit) (hG : s.heap.Ns mainGlobals mg) (hB : s.heap.Ns builtinsNs mb) (hb : ∀ y : Str, y ≠ "__name__" → mb y = bootBuiltins y) (hroom : A.depth + 1 < recursionLimit)
    (hq : ∀ h' tk e d, SizeMade s.heap h' e C d v → R (.ok (.ret (.ref e))) { s with heap := h', toks := tk }) :
    codeAny (model K3.LW.prog w) A (.call (.ref C) ⟨[v], []⟩) R s := by
  obtain ⟨nm, N, qn, bs, bm, hdct, sn, sub, ab, col, dd, k0, k1, k2, k3, k5, hC, hT⟩ := excInit_of X T.ini
  obtain ⟨hp, g, dr, tk, os⟩ := s
  have k : ∀ b o, hp.get? b = some o → ((hp.push (kdv_tup [v])).push (excO C hp.objs.size)).get? b = some o := fun b o e => Heap.get?_push_of_some _ (Heap.get?_push_of_some _ e)
  have hget : ((hp.push (kdv_tup [v])).push (excO C hp.objs.size)).get? (hp.objs.size + 1) = some (excO C hp.objs.size) := by heap_get
  have hnx : K.lookup (hp.objs.size + 1) = none := by
    cases e : K.lookup (hp.objs.size + 1) with
    | none => rfl
    | some o =>
      have z : hp.get? (hp.objs.size + 1) = some o := X _ _ e
      exact absurd (Nat.lt_of_succ_lt (Heap.lt_size z)) (Nat.lt_irrefl _)
  refine call_own F.excBase_Exception hT hC (looks_findIn X T.iC) (fun self => bind_fn X self T.tC) (one_size v) ?_
  refine size_init (s := ⟨(hp.push (kdv_tup [v])).push (excO C hp.objs.size), g, dr, tk, os⟩) T (X.keeps k) (hlim.keeps k) (hG.keeps k) (hB.keeps k) hb hget hnx ?_ fun h' tk' dx t1 ⟨k', hx, dn, dne, hns⟩ => ?_
  · show A.depth + 1 < recursionLimit
    exact hroom
  · have old : ∀ b o, hp.get? b = some o → h'.get? b = some o := fun b o e => k' b o (Nat.ne_of_lt (Nat.lt_succ_of_lt (Heap.lt_size e))) (k b o e)
    have z : hp.objs.size + 1 + 1 ≤ dx := by
      first
        | (simpa only [Heap.size_push] using dn)
        | exact dn
        | (have q := dn; rw [Heap.size_push, Heap.size_push] at q; exact q)
    exact ⟨rfl, hq h' tk' (hp.objs.size + 1) dx ⟨old, Nat.le_succ _, ⟨_, _, hx, rfl, rfl, rfl, rfl⟩, Nat.le_trans (Nat.le_trans (Nat.le_succ _) (Nat.le_succ _)) z, dne, hns⟩⟩
end
end K3X
end PySem
namespace K3
open PySem PySem.Spec PyProof.Rows L2
theorem relO_word {v : V} {v' : Value} (r : RelV v v') (f : Str) : RelO (List.lookup f [(("word" : Str), v)]) (if f = "word" then some v' else none) := by
  by_cases hw : f = "word"
  · subst hw
    rw [if_pos rfl]
    have q : List.lookup ("word" : Str) [(("word" : Str), v)] = some v := by simp [List.lookup]
    rw [q]
    exact r
  · rw [if_neg hw]
    have qw : (f == ("word" : Str)) = false := by simpa using hw
    have q2 : List.lookup f [(("word" : Str), v)] = none := by simp [List.lookup, qw]
    rw [q2]
    trivial
section
variable {X : Cx} {C Y fI : Addr}
/-- InvalidSize(e) -/
def tMkSize (C : Addr) (ta : TA) : L2.St → Hp → XK → Prop := fun σ H Q => ta σ H fun vs H1 => ∃ v, vs = [v] ∧ ∀ d, H1 d = none → Q (.ref C) (some d) (upd H1 d (.xd [(("word" : Str), v)]))
theorem pmk_size {a : Expr} {ta : TA} {p pos : Pos} {k : Nat} (hP : X.prog = LW.prog) (T : PySem.K3X.SizeT X.K X.mg C Y fI) (hr : Room k X.A) (ha : PA X [a] ta) (hg : Gl X "InvalidSize" := by rfl)
    (he : starEach (a :: []) X.env = (false, eval a X.env) :: starEach [] X.env := by rfl) (hpl : (backTo pos (starEach [] X.env)).any (·.1) = false := by rfl) :
    PMk X (.Call (.Name "InvalidSize" p) [a] [] pos) (tMkSize C ta) := by
  intro pins s σ H Q I h
  refine wpAny_Call_Name_kw (ld_glob I hg T.gC ?_)
  refine PySem.W.callWith_K (h₀ := X.base) I.ok.mod.kin T.kC (thn (ha.run pos pins s σ H _ I h) fun us s1 hh => ?_) he hpl
  obtain ⟨vs, H1, I1, r1, v, ev, q1⟩ := hh
  subst ev
  refine ⟨I1.kIn, ?_⟩
  cases r1 with
  | cons rv rn =>
    rename_i v' us'
    cases rn
    show wpAny _ _ (call (.ref C) [v']) _ _ _
    have hlim := I1.nolimit
    obtain ⟨mb, hB, hb⟩ := I1.ok.mod.blt
    have hB1 := hB.keeps I1.bk
    have hG1 := I1.ok.mod.glob.keeps I1.bk
    have hd := hr.dp
    rw [hP]
    obtain ⟨hp, g, dr, tk, os⟩ := s1
    refine wpAny_call (PySem.K3X.size_made T I1.kIn hlim hG1 hB1 hb (by omega) fun h' tk' e d M => ?_)
    show MkP X pins σ Q (.ref e) ⟨h', g, dr, tk', os⟩
    obtain ⟨oe, fv, hoe, hc, hd', hdat, h1⟩ := M.obj
    have hns := M.ns
    obtain ⟨G', g1, g2⟩ := restrict h' fun b => decide (b ≠ e)
    have gk : ∀ b, b ≠ e → G'.get? b = h'.get? b := fun b hb => g1 b (decide_eq_true hb)
    have ge : G'.get? e = none := g2 e (by simp)
    have old : ∀ b o, hp.get? b = some o → G'.get? b = some o := fun b o q => (gk b (Nat.ne_of_lt (Nat.lt_of_lt_of_le (Heap.lt_size q) M.new))).trans (M.keep b o q)
    have ob : ObjOk X.prog X.w (upd H1 d (.xd [(("word" : Str), v)])) G' d (.xd [(("word" : Str), v)]) :=
      ⟨_, hns.at (fun o q => (gk d M.dne).trans q), fun f => relO_word rv f⟩
    have J : Inv X pins σ (upd H1 d (.xd [(("word" : Str), v)])) ⟨G', g, dr, tk', os⟩ := I1.laid (t' := tk') old M.dbig ob
    refine ⟨e, oe, fv, ⟨G', g, dr, tk', os⟩, _, .ref C, some d, rfl, J, fun b o q => ?_, ge, hoe, ⟨hc, hd'⟩, hdat, h1, ?_, rfl, I1.bare, raises_own T.exC T.tyC, q1 d (I1.hok.fresh M.dbig)⟩
    · by_cases hb : b = e
      · have q' : G'.get? b = some o := q
        rw [hb, ge] at q'; cases q'
      · exact (gk b hb).symm.trans q
    · rw [upd_ne (Ne.symm M.dne)]
      exact I1.hok.fresh M.new
/-- raise InvalidSize(e) -/
def tRaiseSize (C : Addr) (W : WX) (ta : TA) : TS := fun _ σ H => tMkSize C ta σ H fun cls d H' => W cls d σ H'
theorem ps_raiseSize {a : Expr} {ta : TA} {W : WX} {p pos pos2 : Pos} {k : Nat} (hc : X.calm = true) (hP : X.prog = LW.prog) (T : PySem.K3X.SizeT X.K X.mg C Y fI) (hr : Room k X.A) (tk : Takes X W) (ha : PA X [a] ta) (hg : Gl X "InvalidSize" := by rfl)
    (he : starEach (a :: []) X.env = (false, eval a X.env) :: starEach [] X.env := by rfl) (hpl : (backTo pos (starEach [] X.env)).any (·.1) = false := by rfl) :
    PS X (.Raise (some (.Call (.Name "InvalidSize" p) [a] [] pos)) none pos2) (tRaiseSize C W ta) := ps_raise hc tk (pmk_size hP T hr ha hg he hpl)
end
theorem xfC_size {K : PySem.W.Frag} {mg : Str → Option Value} {C Y fI : Addr} (T : PySem.K3X.SizeT K mg C Y fI) : XfC K C := ⟨T.ga, T.gg, T.exC, T.hd⟩
theorem excC_size {K : PySem.W.Frag} {mg : Str → Option Value} {C Y fI : Addr} (T : PySem.K3X.SizeT K mg C Y fI) : ExcC K C := ⟨T.ga, T.gg, T.exC, T.hd, T.cC, T.cG, T.cT, T.cM⟩
end K3
set_option maxHeartbeats 6000000
/-! What the head tells, by names (printed by gentxt.py). -/
namespace K3
open PySem PySem.Spec PyProof.Rows L2
structure Txt (K : PySem.W.Frag) (mg : Str → Option Value) : Prop where
  c : He.SaysD fa fn K
  i : initW K = initV
  ex : exF K = true
  at_ : ∃ h : Heap, K.In h ∧ h.Ns mainGlobals mg
def fdOf (K : PySem.W.Frag) (a : Addr) : FuncData := match K.lookup a with
  | some ⟨_, _, .func fd, _⟩ => fd
  | _ => default
abbrev FnP (K : PySem.W.Frag) (x : Str) (st : Stmt) : Prop := FunD K x x (defArgs st) (defBody st) (defScope st) [] [] (He.ga K x) (fdOf K (He.ga K x))
theorem fd_at {K : PySem.W.Frag} {x q : Str} {a : Arguments} {b : List Stmt} {sc : Scope} {dv : List V} {kw : List (Str × V)} {f : Addr} (h : ∃ fd, FunD K x q a b sc dv kw f fd) : FunD K x q a b sc dv kw f (fdOf K f) := by
  obtain ⟨fd, F⟩ := h
  have e : fdOf K f = fd := by
    obtain ⟨oc, od, dV, kV, doc, pm, an, cdv, ct, osl, _, lk, _⟩ := F.ex
    unfold fdOf
    rw [lk]
  rw [e]
  exact F
abbrev cY (K : PySem.W.Frag) : Addr := He.ga K "Yard"
abbrev aYI (K : PySem.W.Frag) : Addr := He.ma K (cY K) "__init__"
section
variable {K : PySem.W.Frag} {mg : Str → Option Value}
theorem Txt.g (T : Txt K mg) (i : Nat) {x : Str} (h : fa[i]? = some (.glo x)) : mg x = some (.ref (He.ga K x)) := by
  obtain ⟨h0, X, G⟩ := T.at_
  exact He.glo_ok X G (T.c.fact i h)
theorem Txt.n (T : Txt K mg) (i : Nat) {x : Str} (h : fa[i]? = some (.free x)) : mg x = none := by
  obtain ⟨h0, X, G⟩ := T.at_
  exact He.free_ok X G (T.c.fact i h)
theorem Txt.int (T : Txt K mg) (i : Nat) {x : Str} {z : Int} (h : fa[i]? = some (.int x z)) : ∃ t, mg x = some (.int z t) := by
  obtain ⟨h0, X, G⟩ := T.at_
  exact He.int_ok X G (T.c.fact i h)
theorem Txt.str (T : Txt K mg) (i : Nat) {x z : Str} (h : fa[i]? = some (.str x z)) : ∃ t, mg x = some (.str z t) := by
  obtain ⟨h0, X, G⟩ := T.at_
  exact He.str_ok X G (T.c.fact i h)
theorem Txt.g_YardError (T : Txt K mg) : mg "YardError" = some (.ref (He.ga K "YardError")) := T.g 0 rfl
theorem Txt.g_InvalidSize (T : Txt K mg) : mg "InvalidSize" = some (.ref (He.ga K "InvalidSize")) := T.g 1 rfl
theorem Txt.g_Yard (T : Txt K mg) : mg "Yard" = some (.ref (He.ga K "Yard")) := T.g 2 rfl
theorem Txt.g_is_integer (T : Txt K mg) : mg "is_integer" = some (.ref (He.ga K "is_integer")) := T.g 3 rfl
theorem Txt.g_is_below (T : Txt K mg) : mg "is_below" = some (.ref (He.ga K "is_below")) := T.g 4 rfl
theorem Txt.g_is_text (T : Txt K mg) : mg "is_text" = some (.ref (He.ga K "is_text")) := T.g 5 rfl
theorem Txt.g_is_sequence (T : Txt K mg) : mg "is_sequence" = some (.ref (He.ga K "is_sequence")) := T.g 6 rfl
theorem Txt.g_is_name (T : Txt K mg) : mg "is_name" = some (.ref (He.ga K "is_name")) := T.g 7 rfl
theorem Txt.g_need_number (T : Txt K mg) : mg "need_number" = some (.ref (He.ga K "need_number")) := T.g 8 rfl
theorem Txt.g_places (T : Txt K mg) : mg "places" = some (.ref (He.ga K "places")) := T.g 9 rfl
theorem Txt.g_others (T : Txt K mg) : mg "others" = some (.ref (He.ga K "others")) := T.g 10 rfl
theorem Txt.g_cover_of (T : Txt K mg) : mg "cover_of" = some (.ref (He.ga K "cover_of")) := T.g 11 rfl
theorem Txt.g_layer (T : Txt K mg) : mg "layer" = some (.ref (He.ga K "layer")) := T.g 12 rfl
theorem Txt.g_deep_row (T : Txt K mg) : mg "deep_row" = some (.ref (He.ga K "deep_row")) := T.g 13 rfl
theorem Txt.g_deep_count (T : Txt K mg) : mg "deep_count" = some (.ref (He.ga K "deep_count")) := T.g 14 rfl
theorem Txt.g_deep_places (T : Txt K mg) : mg "deep_places" = some (.ref (He.ga K "deep_places")) := T.g 15 rfl
theorem Txt.g_need_standing (T : Txt K mg) : mg "need_standing" = some (.ref (He.ga K "need_standing")) := T.g 16 rfl
theorem Txt.g_free_places (T : Txt K mg) : mg "free_places" = some (.ref (He.ga K "free_places")) := T.g 17 rfl
theorem Txt.g_deep_boxes (T : Txt K mg) : mg "deep_boxes" = some (.ref (He.ga K "deep_boxes")) := T.g 18 rfl
theorem Txt.g__law_heap (T : Txt K mg) : mg "_law_heap" = some (.ref (He.ga K "_law_heap")) := T.g 19 rfl
theorem Txt.g__law_draw (T : Txt K mg) : mg "_law_draw" = some (.ref (He.ga K "_law_draw")) := T.g 20 rfl
theorem Txt.g__law_pick (T : Txt K mg) : mg "_law_pick" = some (.ref (He.ga K "_law_pick")) := T.g 21 rfl
theorem Txt.g__law_mixed (T : Txt K mg) : mg "_law_mixed" = some (.ref (He.ga K "_law_mixed")) := T.g 22 rfl
theorem Txt.g__law_names (T : Txt K mg) : mg "_law_names" = some (.ref (He.ga K "_law_names")) := T.g 23 rfl
theorem Txt.g__law_heights (T : Txt K mg) : mg "_law_heights" = some (.ref (He.ga K "_law_heights")) := T.g 24 rfl
theorem Txt.g__law_laid (T : Txt K mg) : mg "_law_laid" = some (.ref (He.ga K "_law_laid")) := T.g 25 rfl
theorem Txt.g__law_many (T : Txt K mg) : mg "_law_many" = some (.ref (He.ga K "_law_many")) := T.g 26 rfl
theorem Txt.g__law_word (T : Txt K mg) : mg "_law_word" = some (.ref (He.ga K "_law_word")) := T.g 27 rfl
theorem Txt.g__law_all_places (T : Txt K mg) : mg "_law_all_places" = some (.ref (He.ga K "_law_all_places")) := T.g 28 rfl
theorem Txt.g__law_deep (T : Txt K mg) : mg "_law_deep" = some (.ref (He.ga K "_law_deep")) := T.g 29 rfl
theorem Txt.g__law_covers_right (T : Txt K mg) : mg "_law_covers_right" = some (.ref (He.ga K "_law_covers_right")) := T.g 30 rfl
theorem Txt.g__law_deep_right (T : Txt K mg) : mg "_law_deep_right" = some (.ref (He.ga K "_law_deep_right")) := T.g 31 rfl
theorem Txt.g__law_filled_right (T : Txt K mg) : mg "_law_filled_right" = some (.ref (He.ga K "_law_filled_right")) := T.g 32 rfl
theorem Txt.g__law_refused_right (T : Txt K mg) : mg "_law_refused_right" = some (.ref (He.ga K "_law_refused_right")) := T.g 33 rfl
theorem Txt.g_law (T : Txt K mg) : mg "law" = some (.ref (He.ga K "law")) := T.g 34 rfl
theorem Txt.n_len (T : Txt K mg) : mg "len" = none := T.n 35 rfl
theorem Txt.n_sum (T : Txt K mg) : mg "sum" = none := T.n 36 rfl
theorem Txt.n_isinstance (T : Txt K mg) : mg "isinstance" = none := T.n 37 rfl
theorem Txt.n_int (T : Txt K mg) : mg "int" = none := T.n 38 rfl
theorem Txt.n_abs (T : Txt K mg) : mg "abs" = none := T.n 39 rfl
theorem Txt.n_list (T : Txt K mg) : mg "list" = none := T.n 40 rfl
theorem Txt.n_tuple (T : Txt K mg) : mg "tuple" = none := T.n 41 rfl
theorem Txt.n_range (T : Txt K mg) : mg "range" = none := T.n 42 rfl
theorem Txt.n_enumerate (T : Txt K mg) : mg "enumerate" = none := T.n 43 rfl
theorem Txt.n_max (T : Txt K mg) : mg "max" = none := T.n 44 rfl
theorem Txt.n_min (T : Txt K mg) : mg "min" = none := T.n 45 rfl
theorem Txt.n_repr (T : Txt K mg) : mg "repr" = none := T.n 46 rfl
theorem Txt.n_all (T : Txt K mg) : mg "all" = none := T.n 47 rfl
theorem Txt.n_bool (T : Txt K mg) : mg "bool" = none := T.n 48 rfl
theorem Txt.n_str (T : Txt K mg) : mg "str" = none := T.n 49 rfl
theorem Txt.n_super (T : Txt K mg) : mg "super" = none := T.n 50 rfl
theorem Txt.v_LONGEST (T : Txt K mg) : ∃ t, mg "LONGEST" = some (.int 8 t) := T.int 51 rfl
theorem Txt.v_FEWEST (T : Txt K mg) : ∃ t, mg "FEWEST" = some (.int 3 t) := T.int 52 rfl
theorem Txt.v_MOST (T : Txt K mg) : ∃ t, mg "MOST" = some (.int 12 t) := T.int 53 rfl
theorem Txt.v_LETTERS (T : Txt K mg) : ∃ t, mg "LETTERS" = some (.str "abcdefghijklmnopqrstuvwxyz" t) := T.str 54 rfl
theorem Txt.cl (T : Txt K mg) : Cls K (cY K) := He.cls_ok (T.c.fact 55 (f := .cls "Yard") rfl)
theorem Txt.nH (T : Txt K mg) : NoAttr K (cY K) "heights" := He.noat_ok (T.c.fact 56 (f := .noat "Yard" "heights") rfl)
theorem Txt.mkY (T : Txt K mg) : Mk K (cY K) (aYI K) := He.mkr_ok (T.c.fact 57 (f := .mkr "Yard") rfl)
theorem Txt.kSize (T : Txt K mg) : PySem.W.keepIn K (.ref (cSize K)) = true := He.keep_ok (T.c.fact 58 (f := .keep "InvalidSize") rfl)
theorem Txt.F_is_integer (T : Txt K mg) : FnP K "is_integer" sIsInteger := fd_at (T.c.def_ 0 (d := dIsInteger) rfl)
theorem Txt.F_is_below (T : Txt K mg) : FnP K "is_below" sIsBelow := fd_at (T.c.def_ 1 (d := dIsBelow) rfl)
theorem Txt.F_is_text (T : Txt K mg) : FnP K "is_text" sIsText := fd_at (T.c.def_ 2 (d := dIsText) rfl)
theorem Txt.F_is_sequence (T : Txt K mg) : FnP K "is_sequence" sIsSequence := fd_at (T.c.def_ 3 (d := dIsSequence) rfl)
theorem Txt.F_is_name (T : Txt K mg) : FnP K "is_name" sIsName := fd_at (T.c.def_ 4 (d := dIsName) rfl)
theorem Txt.F_need_number (T : Txt K mg) : FnP K "need_number" sNeedNumber := fd_at (T.c.def_ 5 (d := dNeedNumber) rfl)
theorem Txt.F_places (T : Txt K mg) : FnP K "places" sPlaces := fd_at (T.c.def_ 6 (d := dPlaces) rfl)
theorem Txt.F_others (T : Txt K mg) : FnP K "others" sOthers := fd_at (T.c.def_ 7 (d := dOthers) rfl)
theorem Txt.F_cover_of (T : Txt K mg) : FnP K "cover_of" sCoverOf := fd_at (T.c.def_ 8 (d := dCoverOf) rfl)
theorem Txt.F_layer (T : Txt K mg) : FnP K "layer" sLayer := fd_at (T.c.def_ 9 (d := dLayer) rfl)
theorem Txt.F_deep_row (T : Txt K mg) : FnP K "deep_row" sDeepRow := fd_at (T.c.def_ 10 (d := dDeepRow) rfl)
theorem Txt.F_deep_count (T : Txt K mg) : FnP K "deep_count" sDeepCount := fd_at (T.c.def_ 11 (d := dDeepCount) rfl)
theorem Txt.F_deep_places (T : Txt K mg) : FnP K "deep_places" sDeepPlaces := fd_at (T.c.def_ 12 (d := dDeepPlaces) rfl)
theorem Txt.F_need_standing (T : Txt K mg) : FnP K "need_standing" sNeedStanding := fd_at (T.c.def_ 13 (d := dNeedStanding) rfl)
theorem Txt.F_free_places (T : Txt K mg) : FnP K "free_places" sFreePlaces := fd_at (T.c.def_ 14 (d := dFreePlaces) rfl)
theorem Txt.F_deep_boxes (T : Txt K mg) : FnP K "deep_boxes" sDeepBoxes := fd_at (T.c.def_ 15 (d := dDeepBoxes) rfl)
theorem Txt.F__law_heap (T : Txt K mg) : FnP K "_law_heap" sLHeap := fd_at (T.c.def_ 16 (d := dLHeap) rfl)
theorem Txt.F__law_draw (T : Txt K mg) : FnP K "_law_draw" sLDraw := fd_at (T.c.def_ 17 (d := dLDraw) rfl)
theorem Txt.F__law_pick (T : Txt K mg) : FnP K "_law_pick" sLPick := fd_at (T.c.def_ 18 (d := dLPick) rfl)
theorem Txt.F__law_mixed (T : Txt K mg) : FnP K "_law_mixed" sLMixed := fd_at (T.c.def_ 19 (d := dLMixed) rfl)
theorem Txt.F__law_names (T : Txt K mg) : FnP K "_law_names" sLNames := fd_at (T.c.def_ 20 (d := dLNames) rfl)
theorem Txt.F__law_heights (T : Txt K mg) : FnP K "_law_heights" sLHeights := fd_at (T.c.def_ 21 (d := dLHeights) rfl)
theorem Txt.F__law_laid (T : Txt K mg) : FnP K "_law_laid" sLLaid := fd_at (T.c.def_ 22 (d := dLLaid) rfl)
theorem Txt.F__law_many (T : Txt K mg) : FnP K "_law_many" sLMany := fd_at (T.c.def_ 23 (d := dLMany) rfl)
theorem Txt.F__law_word (T : Txt K mg) : FnP K "_law_word" sLWord := fd_at (T.c.def_ 24 (d := dLWord) rfl)
theorem Txt.F__law_all_places (T : Txt K mg) : FnP K "_law_all_places" sLAllPlaces := fd_at (T.c.def_ 25 (d := dLAllPlaces) rfl)
theorem Txt.F__law_deep (T : Txt K mg) : FnP K "_law_deep" sLDeep := fd_at (T.c.def_ 26 (d := dLDeep) rfl)
theorem Txt.F__law_covers_right (T : Txt K mg) : FnP K "_law_covers_right" sLCoversRight := fd_at (T.c.def_ 27 (d := dLCoversRight) rfl)
theorem Txt.F__law_deep_right (T : Txt K mg) : FnP K "_law_deep_right" sLDeepRight := fd_at (T.c.def_ 28 (d := dLDeepRight) rfl)
theorem Txt.F__law_filled_right (T : Txt K mg) : FnP K "_law_filled_right" sLFilledRight := fd_at (T.c.def_ 29 (d := dLFilledRight) rfl)
theorem Txt.F__law_refused_right (T : Txt K mg) : FnP K "_law_refused_right" sLRefusedRight := fd_at (T.c.def_ 30 (d := dLRefusedRight) rfl)
theorem Txt.F_law (T : Txt K mg) : FnP K "law" sLaw := fd_at (T.c.def_ 31 (d := dLaw) rfl)
theorem Txt.F_YardInit (T : Txt K mg) : FunD K "__init__" "Yard.__init__" (defArgs sYardInit) (defBody sYardInit) (defScope sYardInit) [] [] (aYI K) (fdOf K (aYI K)) := fd_at (T.c.def_ 32 (d := dYardInit) rfl)

theorem deB {a b : Bool} (h : (a && b) = true) : a = true ∧ b = true := Bool.and_eq_true_iff.mp h
/-- what is told of the error's class -/
theorem Txt.sz (T : Txt K mg) : PySem.K3X.SizeT K mg (cSize K) (cYErr K) (aInit K) := by
  have h0 := T.ex
  unfold exF at h0
  obtain ⟨h0, hC⟩ := deB h0
  obtain ⟨hA, hB⟩ := deB h0
  obtain ⟨hA, a6⟩ := deB hA
  obtain ⟨hA, a5⟩ := deB hA
  obtain ⟨hA, a4⟩ := deB hA
  obtain ⟨hA, a3⟩ := deB hA
  obtain ⟨a1, a2⟩ := deB hA
  obtain ⟨hB, b6⟩ := deB hB
  obtain ⟨hB, b5⟩ := deB hB
  obtain ⟨hB, b4⟩ := deB hB
  obtain ⟨hB, b3⟩ := deB hB
  obtain ⟨b1, b2⟩ := deB hB
  obtain ⟨hC, c7⟩ := deB hC
  obtain ⟨hC, c6⟩ := deB hC
  obtain ⟨hC, c5⟩ := deB hC
  obtain ⟨hC, c4⟩ := deB hC
  obtain ⟨hC, c3⟩ := deB hC
  obtain ⟨c1, c2⟩ := deB hC
  refine ⟨T.g_InvalidSize, T.g_YardError, T.n_super, a2, ?_, of_decide_eq_true a3, of_decide_eq_true a4, of_decide_eq_true a5, of_decide_eq_true a6, of_decide_eq_true b1, of_decide_eq_true b2, T.kSize, of_decide_eq_true b3, of_decide_eq_true b4, of_decide_eq_true b5, of_decide_eq_true b6,
    of_decide_eq_true c1, of_decide_eq_true c2, of_decide_eq_true c3, of_decide_eq_true c4, of_decide_eq_true c5, of_decide_eq_true c6, ?_⟩
  · unfold eqC at a1
    cases e : PySem.W.clsIn K (cSize K) with
    | none =>
      rw [e] at a1
      cases a1
    | some cd =>
      rw [e] at a1
      obtain ⟨m1, m2⟩ := deB a1
      obtain ⟨m3, m4⟩ := deB m2
      refine ⟨cd, rfl, of_decide_eq_true m1, m3, ?_⟩
      cases z : cd.hasDel with
      | false => rfl
      | true =>
        rw [z] at m4
        cases m4
  · have hi := T.i
    unfold initCell at c7
    unfold initW at hi
    cases q : K.lookup (aInit K) with
    | none =>
      rw [q] at c7
      cases c7
    | some o =>
      obtain ⟨oc, od, dt, osl⟩ := o
      rw [q] at c7 hi
      cases dt with
      | func fd =>
        obtain ⟨n1, n2, n3, n4, n5, n6, n7, n8, n9, n10, n11, n12, n13, n14, n15⟩ := fd
        have e2 : (some (n1, n2, n3, n4, n5, n6, n7.map (·.1), n8, n9, n15) : InV) = initV := hi
        unfold initV at e2
        simp only [Option.some.injEq, Prod.mk.injEq] at e2
        obtain ⟨h1, h2, h3, h4, h5, h6, h7, h8, h9, h10⟩ := e2
        obtain ⟨k1, k2⟩ := deB c7
        obtain ⟨k3, k4⟩ := deB k2
        dsimp only at k1 k3 k4
        match n7, h7, k3 with
        | [(y, cc)], h7, k3 =>
          have ey : y = ("__class__" : Str) := (List.cons.inj h7).1
          dsimp only at k3
          cases q2 : K.lookup cc with
          | none =>
            rw [q2] at k3
            cases k3
          | some o2 =>
            obtain ⟨c1', c2', dt2, c4'⟩ := o2
            rw [q2] at k3
            cases dt2 with
            | cell ov =>
              cases ov with
              | none => cases k3
              | some u =>
                cases u with
                | ref D =>
                  have eD : D = cSize K := of_decide_eq_true k3
                  cases n13 with
                  | ref cd =>
                    dsimp only at k4
                    cases q3 : K.lookup cd with
                    | none =>
                      rw [q3] at k4
                      cases k4
                    | some o3 =>
                      obtain ⟨d1, d2, dt3, d4⟩ := o3
                      rw [q3] at k4
                      cases dt3 with
                      | fields vs =>
                        dsimp only at k4
                        cases q4 : (vs[2]? : Option Value) with
                        | none =>
                          rw [q4] at k4
                          cases k4
                        | some u2 =>
                          rw [q4] at k4
                          cases u2 with
                          | str file tf =>
                            subst h1 h2 h3 h4 h5 h6 h8 h9 h10 ey eD
                            exact ⟨oc, od, n10, n11, n12, cd, n14, osl, cc, rfl, k1, ⟨c1', c2', c4', q2⟩, d1, d2, vs, d4, file, tf, q3, q4, k4⟩
                          | _ => cases k4
                      | _ => cases k4
                  | _ => cases k4
                | _ => cases k3
            | _ => cases k3
      | _ => cases c7
end
end K3
set_option maxHeartbeats 6000000
/-! Machinery: promises that know that no repr is under way; repr of data; data of tuples in the heap; what is kept. -/
namespace K3
open PySem PySem.Spec PyProof.Rows L2
/-! ### a def called where no repr is under way -/
structure FnG (P : Program) (w : World) (K : PySem.W.Frag) (mg : Str → Option Value) (base : Heap) (CX : CXT) (k : Nat) (f : Addr) (fd : FuncData) (ps : List Str) (sp : Sp) : Prop where
  len : ∀ vs H Q E, sp vs H Q E → vs.length = ps.length
  go : ∀ (A : Around) (outer : List Env) (s : Shared) (H : Hp) (args : Args) (us : List Value) (vs : List V) (Q : VK) (E : XK), A.guards = some [] → Room k A → Env0 P w K mg base A outer s H → BindsTo s fd args (ps.zip us) → Vals vs us →
    sp vs H Q E → codeAny (model P w) A (.call (.ref f) args) (CR CX outer P w H s Q E) s
section
variable {P : Program} {w : World} {K : PySem.W.Frag} {mg : Str → Option Value} {base : Heap} {x qual : Str} {params : Arguments} {body : List Stmt} {scope : Scope} {dvs : List V} {kws : List (Str × V)} {f : Addr} {fd : FuncData}
theorem FnG.by {CX : CXT} {N ps : List Str} {k : Nat} {sp : Sp} (F : FunD K x qual params body scope dvs kws f fd) (S : FnScope N ps scope) (len : ∀ vs H Q E, sp vs H Q E → vs.length = ps.length)
    (hbody : ∀ (cdv : Value) (A : Around) (outer : List Env) (s : Shared) (H : Hp) (vs : List V) (Q : VK) (E : XK), A.guards = some [] → Room k (A.deeper (envOfC qual scope s.heap.objs.size f cdv)) → sp vs H Q E →
      ∃ t, PSs (cxOf CX P w K mg base N qual scope f cdv A outer s H E) body t ∧ t { nx := fun _ H' => Q .non H', rt := Q } (L2.start N vs) H) : FnG P w K mg base CX (k + 1) f fd ps sp := by
  obtain ⟨oc, od, dV, kV, doc, pm, an, cdv, ct, osl, rfl, lk, hcd, _, _⟩ := F.ex
  exact ⟨len, fun A outer s H args us vs Q E hg hr e0 hb r hsp => LamX.run_ofS lk hcd S hr e0 hb r (len _ _ _ _ hsp) fun hr' => hbody cdv A outer s H vs Q E hg hr' hsp⟩
end
section
variable {X : Cx} {CX : CXT} {k : Nat} {f : Addr} {fd : FuncData} {ps : List Str} {sp : Sp} {E : XK} {x : Str} {p pos : Pos} {e : Expr} {es : List Expr} {t : TA}
def tCallG (sp : Sp) (E : XK) (t : TA) : TE := fun σ H Q => t σ H fun vs H1 => sp vs H1 Q E
theorem pe_callG (F : FnG X.prog X.w X.K X.mg X.base CX k f fd ps sp) (gd : X.A.guards = some []) (hr : Room k X.A) (hg : Gl X x) (hm : X.mg x = some (.ref f)) (hk : PySem.W.keepIn X.K (.ref f) = true) (hb : Binds X.K fd ps []) (hx : Passes CX X E)
    (ha : PA X (e :: es) t) (hdb : (x == ("__debug__" : Str)) = false := by decide) (he : starEach (e :: es) X.env = (false, eval e X.env) :: starEach es X.env := by rfl) (hpl : (backTo pos (starEach es X.env)).any (·.1) = false := by rfl) :
    PE X (.Call (.Name x p) (e :: es) [] pos) (tCallG sp E t) := by
  refine ⟨fun pins s σ H Q I h => wpAny_Call_Name_kw (ld_glob I hg hm ?_ hdb)⟩
  refine PySem.W.callWith_K (h₀ := X.base) I.ok.mod.kin hk (thn (ha.run pos pins s σ H _ I h) fun us s1 ⟨vs, H1, I1, r, q⟩ => ⟨I1.kIn, ?_⟩) he hpl
  have q1 : sp vs H1 Q E := q
  have hl : us.length = ps.length := r.length.symm.trans (F.len _ _ _ _ q1)
  have b := hb s1 us I1.kIn (by rw [List.append_nil]; exact hl)
  rw [List.append_nil] at b
  refine wpAny_call (codeAny_mono (F.go X.A X.stack s1 H1 ⟨us, []⟩ us vs Q E gd hr I1.env0 b r q1) fun res s' hq => ?_)
  cases res with
  | error e' => exact hx pins σ H1 s1 e' s' I1 hq
  | ok fl =>
    cases fl with
    | ret u => exact I1.after hq
    | next => exact False.elim hq
    | brk => exact False.elim hq
    | cont => exact False.elim hq
/-- every parameter by its name, in the parameters' order -/
def KwB (fd : FuncData) (ps : List Str) : Prop := ∀ ws : List Value, ws.length = ps.length → bindArgs fd ⟨[], ps.zip ws⟩ = pure (ps.zip ws)
theorem FunD.kwN {K : PySem.W.Frag} {x qual : Str} {params : Arguments} {body : List Stmt} {scope : Scope} {kws : List (Str × V)} {f : Addr} {fd : FuncData} {ps : List Str} (F : FunD K x qual params body scope [] kws f fd)
    (h : ∀ (kV doc pm : Value) (an : Option Addr) (cdv ct : Value) (ws : List Value), ws.length = ps.length → bindArgs (PySem.W.fnOf x qual params body scope .none kV doc pm an cdv ct) ⟨[], ps.zip ws⟩ = pure (ps.zip ws)) : KwB fd ps := by
  obtain ⟨oc, od, dV, kV, doc, pm, an, cdv, ct, osl, rfl, lk, hcd, hD, hK⟩ := F.ex
  rcases hD with ⟨_, rfl⟩ | ⟨e, _⟩
  · exact fun ws hl => h kV doc pm an cdv ct ws hl
  · exact absurd rfl e
theorem pe_callKW {kws : List Keyword} {tk : TA} (F : FnOk X.prog X.w X.K X.mg X.base CX k f fd ps sp) (hr : Room k X.A) (hg : Gl X x) (hm : X.mg x = some (.ref f)) (hk : PySem.W.keepIn X.K (.ref f) = true) (hb : KwB fd ps) (hx : Passes CX X E)
    (hkw : PK X kws tk) (hall : (backToKw pos (keywordEach kws X.env)).all (·.1.isSome) = true := by rfl) (hks : (backToKw pos (keywordEach kws X.env)).filterMap (·.1) = ps := by rfl)
    (hdb : (x == ("__debug__" : Str)) = false := by decide) (hpl : ((backTo pos (starEach [] X.env)).any (·.1) || (backToKw pos (keywordEach kws X.env)).any (·.1.isNone)) = false := by rfl) :
    PE X (.Call (.Name x p) [] kws pos) (tCallG sp E tk) := by
  refine ⟨fun pins s σ H Q I h => wpAny_Call_Name_kw (ld_glob I hg hm ?_ hdb)⟩
  refine PySem.W.callWith_KW0 (h₀ := X.base) I.ok.mod.kin hk hall (thn (hkw.run pos pins s σ H _ I h) fun ws s1 ⟨zs, H1, I1, r, q⟩ => ⟨I1.kIn, ?_⟩) hpl
  rw [hks]
  have hl : ws.length = ps.length := r.length.symm.trans (F.len _ _ _ _ q)
  refine wpAny_call (codeAny_mono (F.run X.A X.stack s1 H1 ⟨[], ps.zip ws⟩ ws zs Q E hr I1.env0 (.of_eq (hb ws hl)) r q) fun res s' hq => ?_)
  cases res with
  | error e' => exact hx pins σ H1 s1 e' s' I1 hq
  | ok fl =>
    cases fl with
    | ret u => exact I1.after hq
    | next => exact False.elim hq
    | brk => exact False.elim hq
    | cont => exact False.elim hq
/-- a call whose arguments are all positional, without defaults -/
theorem pe_callP (F : FnOk X.prog X.w X.K X.mg X.base CX k f fd ps sp) (hr : Room k X.A) (hg : Gl X x) (hm : X.mg x = some (.ref f)) (hk : PySem.W.keepIn X.K (.ref f) = true) (hb : Binds X.K fd ps []) (hx : Passes CX X E)
    (ha : PA X (e :: es) t) (hdb : (x == ("__debug__" : Str)) = false := by decide) (he : starEach (e :: es) X.env = (false, eval e X.env) :: starEach es X.env := by rfl) (hpl : (backTo pos (starEach es X.env)).any (·.1) = false := by rfl) :
    PE X (.Call (.Name x p) (e :: es) [] pos) (tCallG sp E t) :=
  ⟨fun pins s σ H Q I h => (pe_callS (E := fun _ => E) F hr hg hm hk hb (fun σ' pins' H' s' e' s'' I' c => hx pins' σ' H' s' e' s'' I' c) ha hdb he hpl).run pins s σ H Q I h⟩
/-- repr of data -/
def rRepr (K : PySem.W.Frag) : List V → Hp → VK → Prop := fun xs H Q => ∃ v d, xs = [v] ∧ Dp K H v d ∧ SeqAt.shaped d = true ∧ d.showable = true ∧ (∀ ds, d ≠ .list ds) ∧ (∀ y, d ≠ .str y) ∧ d.shown.length ≤ sizeLine ∧ Q (.str d.shown) H
theorem shaped_room {d : PyData} (h : SeqAt.shaped d = true) : d.canLay0 = true ∧ d.depth ≤ 64 := by
  have h' : (d.canLay0 && decide (d.depth ≤ 64)) = true := h
  obtain ⟨a, b⟩ := deB h'
  exact ⟨a, of_decide_eq_true b⟩
theorem call_repr (gd : X.A.guards = some []) (hu : X.A.units + 66 < cLine) : CallR X (.builtin "repr") (rRepr X.K) := by
  intro pins s σ H xs us Q I r h
  obtain ⟨v, d, rfl, hd, hs, hw, hnl, hns, hz, q⟩ := h
  obtain ⟨u, rfl, ru⟩ := vals1 r
  obtain ⟨hlay, hdep⟩ := shaped_room hs
  obtain ⟨as, rd⟩ := Dp.reads I d v u hd ru
  have road : ∀ a, u = .ref a → wpAny (model X.prog X.w) X.A (call (.builtin "repr") [u]) (EP X pins σ Q) X.xe s := fun a e => by
    subst e
    refine repr_of_reads' rd hw (PyData.noDict_hsm (PyData.hasDict_of_canLay d hlay)) gd (by omega) (fun _ _ z => z) (fun h' t tk hk => ?_) hz
    exact ⟨.str d.shown, H, I.kept hk, ⟨t, rfl⟩, q⟩
  cases hd with
  | non =>
    cases ru
    exact P.repr_of_none ⟨.str _, H, I.tok _, ⟨_, rfl⟩, q⟩
  | bl b =>
    cases ru
    exact P.repr_of_bool ⟨.str _, H, I.tok _, ⟨_, rfl⟩, q⟩
  | int i =>
    obtain ⟨t, rfl⟩ := ru
    exact P.repr_of_int (by simpa [PyData.showable] using hw) ⟨.str _, H, I.tok _, ⟨_, rfl⟩, q⟩
  | str x =>
    exact (hns _ rfl).elim
  | lst h1 h2 => exact (hnl _ rfl).elim
  | tup h1 h2 => exact road _ ru
end
/-! ### data of ints, texts and tuples in the heap -/
mutual
inductive Has (H : Hp) : V → PyData → Prop
  | int (i : Int) : Has H (.int i) (.int i)
  | str (x : Str) : Has H (.str x) (.str x)
  | tup {a : Addr} {xs : List V} {ds : List PyData} : H a = some (.tup xs) → HasAll H xs ds → Has H (.ref a) (.tuple ds)
inductive HasAll (H : Hp) : List V → List PyData → Prop
  | nil : HasAll H [] []
  | cons {v : V} {vs : List V} {d : PyData} {ds : List PyData} : Has H v d → HasAll H vs ds → HasAll H (v :: vs) (d :: ds)
end
/-- the tuples stay -/
def TupK (H H' : Hp) : Prop := ∀ b xs, H b = some (.tup xs) → H' b = some (.tup xs)
mutual
theorem Has.to {H H' : Hp} (k : TupK H H') : ∀ {d : PyData} {v : V}, Has H v d → Has H' v d
  | .int _, _, h => by
    cases h
    exact .int _
  | .str _, _, h => by
    cases h
    exact .str _
  | .tuple ds, _, h => by
    cases h with
    | tup h1 h2 => exact .tup (k _ _ h1) (HasAll.to k h2)
  | .none, _, h => by cases h
  | .bool _, _, h => by cases h
  | .list _, _, h => by cases h
  | .dict _, _, h => by cases h
theorem HasAll.to {H H' : Hp} (k : TupK H H') : ∀ {ds : List PyData} {vs : List V}, HasAll H vs ds → HasAll H' vs ds
  | [], _, h => by
    cases h
    exact .nil
  | _ :: _, _, h => by
    cases h with
    | cons h1 h2 => exact .cons (Has.to k h1) (HasAll.to k h2)
end
mutual
theorem Has.dp {K : PySem.W.Frag} {H : Hp} : ∀ {d : PyData} {v : V}, Has H v d → Dp K H v d
  | .int _, _, h => by
    cases h
    exact .int _
  | .str _, _, h => by
    cases h
    exact .str _
  | .tuple ds, _, h => by
    cases h with
    | tup h1 h2 => exact .tup (SqT.of h1) (HasAll.dp h2)
  | .none, _, h => by cases h
  | .bool _, _, h => by cases h
  | .list _, _, h => by cases h
  | .dict _, _, h => by cases h
theorem HasAll.dp {K : PySem.W.Frag} {H : Hp} : ∀ {ds : List PyData} {vs : List V}, HasAll H vs ds → DpAll K H vs ds
  | [], _, h => by
    cases h
    exact .nil
  | _ :: _, _, h => by
    cases h with
    | cons h1 h2 => exact .cons (Has.dp h1) (HasAll.dp h2)
end
theorem HasAll.length {H : Hp} : ∀ {ds : List PyData} {vs : List V}, HasAll H vs ds → vs.length = ds.length
  | [], _, h => by
    cases h
    rfl
  | _ :: _, _, h => by
    cases h with
    | cons h1 h2 => exact congrArg Nat.succ (HasAll.length h2)
theorem HasAll.get {H : Hp} : ∀ {ds : List PyData} {vs : List V} {i : Nat} {v : V}, HasAll H vs ds → vs[i]? = some v → ∃ d, ds[i]? = some d ∧ Has H v d
  | [], _, _, _, h, e => by
    cases h
    simp at e
  | _ :: _, _, 0, _, h, e => by
    cases h with
    | cons h1 h2 =>
      simp at e
      subst e
      exact ⟨_, rfl, h1⟩
  | _ :: ds, _, i + 1, v, h, e => by
    cases h with
    | cons h1 h2 =>
      obtain ⟨d, a, b⟩ := HasAll.get (i := i) h2 (by simpa using e)
      exact ⟨d, by simpa using a, b⟩
theorem HasAll.app {H : Hp} : ∀ {ds es : List PyData} {vs ws : List V}, HasAll H vs ds → HasAll H ws es → HasAll H (vs ++ ws) (ds ++ es)
  | [], _, _, _, h, g => by
    cases h
    exact g
  | _ :: _, _, _, _, h, g => by
    cases h with
    | cons h1 h2 => exact .cons h1 (HasAll.app h2 g)
theorem HasAll.one {H : Hp} {v : V} {d : PyData} (h : Has H v d) : HasAll H [v] [d] := .cons h .nil
/-! ### what is kept -/
theorem TupK.same {H H' : Hp} (s : Same H H') : TupK H H' := fun _ _ e => s _ _ e
theorem TupK.trans {H H1 H2 : Hp} (a : TupK H H1) (b : TupK H1 H2) : TupK H H2 := fun _ _ e => b _ _ (a _ _ e)
theorem same_upd {H : Hp} {p : Addr} {o : HO} (n : H p = none) : Same H (upd H p o) := fun b u e => (upd_ne (ne_of_none e n)).trans e
theorem upd_none {H : Hp} {p r : Addr} {o : HO} (n : upd H p o r = none) : H r = none ∧ r ≠ p := by
  by_cases e : r = p
  · subst e
    rw [upd_same] at n
    cases n
  · rw [upd_ne e] at n
    exact ⟨n, e⟩
theorem Qbl {Q : VK} {H : Hp} {a b : Bool} (k : Q (.bl a) H) (e : b = a) : Q (.bl b) H := by
  rw [e]
  exact k
theorem Qint {Q : VK} {H : Hp} {a b : Int} (k : Q (.int a) H) (e : b = a) : Q (.int b) H := by
  rw [e]
  exact k
theorem tupK_lst {H : Hp} {D : Addr} {xs ys : List V} (h : H D = some (.lst xs)) : TupK H (upd H D (.lst ys)) := fun b zs e => (upd_ne (ne_of e h (by intro z; cases z))).trans e
theorem tupK_new {H : Hp} {D : Addr} {o : HO} (h : H D = none) : TupK H (upd H D o) := TupK.same (same_upd h)
/-! ### a comprehension's new list at D: what stood before is kept, R tells what is in it -/
def PvG (H1 : Hp) (D : Addr) (R : Nat → List V → Hp → Prop) (i : Nat) (H : Hp) : Prop := Same H1 H ∧ ∃ acc, H D = some (.lst acc) ∧ acc.length ≤ i ∧ R i acc H
theorem PvG.zero {H1 : Hp} {D : Addr} {R : Nat → List V → Hp → Prop} (n : H1 D = none) (r : R 0 [] (upd H1 D (.lst []))) : PvG H1 D R 0 (upd H1 D (.lst [])) := ⟨same_upd n, [], upd_same, Nat.le_refl _, r⟩
theorem PvG.add {H1 H H4 : Hp} {D : Addr} {R : Nat → List V → Hp → Prop} {i : Nat} {acc : List V} {y : V} (n : H1 D = none) (p : Same H1 H) (hD : H D = some (.lst acc)) (la : acc.length ≤ i) (hi : i < 100000) (s : Same H H4)
    (r : R (i + 1) (acc ++ [y]) (upd H4 D (.lst (acc ++ [y])))) : ∃ acc', H4 D = some (.lst acc') ∧ acc'.length < sizeLine ∧ PvG H1 D R (i + 1) (upd H4 D (.lst (acc' ++ [y]))) :=
  ⟨acc, s _ _ hD, Nat.lt_of_le_of_lt la (Nat.lt_trans hi (by decide)), fun b o e => (upd_ne (ne_of_none e n)).trans (s _ _ (p _ _ e)), _, upd_same, by rw [List.length_append, List.length_singleton]; omega, r⟩
theorem PvG.skip {H1 H H3 : Hp} {D : Addr} {R : Nat → List V → Hp → Prop} {i : Nat} {acc : List V} (p : Same H1 H) (hD : H D = some (.lst acc)) (la : acc.length ≤ i) (s : Same H H3) (r : R (i + 1) acc H3) : PvG H1 D R (i + 1) H3 :=
  ⟨p.trans s, acc, s _ _ hD, Nat.le_succ_of_le la, r⟩
end K3
set_option maxHeartbeats 6000000
/-! words: is_integer .. need_number. -/
namespace K3
open PySem PySem.Spec PyProof.Rows L2
section
variable {w : World} {K : PySem.W.Frag} {mg : Str → Option Value} {base : Heap}
abbrev PP : Program := LW.prog
/-! ### is_integer -/
def spIsInteger : Sp := fun vs H Q _ => ∃ i : Int, vs = [.int i] ∧ Q (.bl true) H
theorem scIsInteger : FnScope ["value"] ["value"] (defScope sIsInteger) := ⟨rfl, rfl, rfl, by decide +kernel, rfl, by decide +kernel, by decide +kernel⟩
theorem ok_is_integer (T : Txt K mg) : FnOk PP w K mg base CX0 1 (He.ga K "is_integer") (fdOf K (He.ga K "is_integer")) ["value"] spIsInteger := by
  refine T.F_is_integer.ok scIsInteger (fun vs H Q E h => ?_) (fun cdv A outer s H vs Q E hr h => ?_)
  · obtain ⟨i, rfl, _⟩ := h
    rfl
  · obtain ⟨i, rfl, k⟩ := h
    refine ⟨_, PSs.nox (pss_one (ps_ret (pe_and (pe_callB call_isi (by rfl) T.n_isinstance (by decide +kernel) (pa_cons (pv 0) (pa_cons (pe_bltn (v := .ty "int") (by rfl) T.n_int (by decide +kernel) rfl) pa_nil)))
      (pe_one (pe_not (pe_callB call_isi (by rfl) T.n_isinstance (by decide +kernel) (pa_cons (pv 0) (pa_cons (pe_bltn (v := .ty "bool") (by rfl) T.n_bool (by decide +kernel) rfl) pa_nil)))))))), ?_⟩
    refine ⟨_, rfl, _, _, _, _, _, rfl, .ty _, .base (.int i), kit_ty (by decide +kernel), true, rfl, iteT ?_⟩
    exact ⟨_, rfl, _, _, _, _, _, rfl, .ty _, .base (.int i), kit_ty (by decide +kernel), false, rfl, k⟩
theorem bd_is_integer (T : Txt K mg) : L2.Binds K (fdOf K (He.ga K "is_integer")) ["value"] [] := T.F_is_integer.bindsN fun _ _ _ _ _ _ us hl => match us, hl with | [_], _ => rfl
/-! ### is_below -/
def spIsBelow : Sp := fun vs H Q _ => ∃ i b : Int, vs = [.int i, .int b] ∧ Q (.bl (decide (0 ≤ i ∧ i < b))) H
theorem scIsBelow : FnScope ["value", "bound"] ["value", "bound"] (defScope sIsBelow) := ⟨rfl, rfl, rfl, by decide +kernel, rfl, by decide +kernel, by decide +kernel⟩
theorem ok_is_below (T : Txt K mg) : FnOk PP w K mg base CX0 2 (He.ga K "is_below") (fdOf K (He.ga K "is_below")) ["value", "bound"] spIsBelow := by
  refine T.F_is_below.ok scIsBelow (fun vs H Q E h => ?_) (fun cdv A outer s H vs Q E hr h => ?_)
  · obtain ⟨i, b, rfl, _⟩ := h
    rfl
  · obtain ⟨i, b, rfl, k⟩ := h
    refine ⟨_, PSs.nox (pss_one (ps_ret (pe_and (pe_callP (ok_is_integer T) hr (by rfl) T.g_is_integer T.F_is_integer.kp (bd_is_integer T) pass0 (pa_cons (pv 0) pa_nil)) (pe_one (pe_chain op_le op_lt pe_int (pv 0) (pv 1)))))), ?_⟩
    refine ⟨_, rfl, i, rfl, true, rfl, iteT ?_⟩
    refine ⟨_, rfl, _, _, rfl, rfl, _, rfl, ?_⟩
    refine ite2 (fun c1 => ?_) (fun c1 => ?_)
    · have c1 := of_decide_eq_true c1
      refine ⟨_, rfl, _, _, rfl, rfl, ?_⟩
      by_cases c2 : i < b
      · exact Qbl k (by rw [decide_eq_true (show 0 ≤ i ∧ i < b from ⟨c1, c2⟩), decide_eq_true c2])
      · exact Qbl k (by rw [decide_eq_false (show ¬ (0 ≤ i ∧ i < b) from fun z => c2 z.2), decide_eq_false c2])
    · have c1 : ¬ 0 ≤ i := fun z => c1 (decide_eq_true z)
      exact Qbl k (by rw [decide_eq_false (show ¬ (0 ≤ i ∧ i < b) from fun z => c1 z.1)])
theorem bd_is_below (T : Txt K mg) : L2.Binds K (fdOf K (He.ga K "is_below")) ["value", "bound"] [] := T.F_is_below.bindsN fun _ _ _ _ _ _ us hl => match us, hl with | [_, _], _ => rfl
/-! ### is_text, is_sequence -/
def spIsText : Sp := fun vs H Q _ => ∃ z : Str, vs = [.str z] ∧ Q (.bl true) H
theorem scIsText : FnScope ["value"] ["value"] (defScope sIsText) := ⟨rfl, rfl, rfl, by decide +kernel, rfl, by decide +kernel, by decide +kernel⟩
theorem ok_is_text (T : Txt K mg) : FnOk PP w K mg base CX0 1 (He.ga K "is_text") (fdOf K (He.ga K "is_text")) ["value"] spIsText := by
  refine T.F_is_text.ok scIsText (fun vs H Q E h => ?_) (fun cdv A outer s H vs Q E hr h => ?_)
  · obtain ⟨i, rfl, _⟩ := h
    rfl
  · obtain ⟨z, rfl, k⟩ := h
    refine ⟨_, PSs.nox (pss_one (ps_ret (pe_callB call_isi (by rfl) T.n_isinstance (by decide +kernel) (pa_cons (pv 0) (pa_cons (pe_bltn (v := .ty "str") (by rfl) T.n_str (by decide +kernel) rfl) pa_nil))))), ?_⟩
    exact ⟨_, rfl, _, _, _, _, _, rfl, .ty _, .base (.str z), kit_ty (by decide +kernel), k⟩
theorem bd_is_text (T : Txt K mg) : L2.Binds K (fdOf K (He.ga K "is_text")) ["value"] [] := T.F_is_text.bindsN fun _ _ _ _ _ _ us hl => match us, hl with | [_], _ => rfl
def spIsSeq : Sp := fun vs H Q _ => ∃ (a : Addr) (xs : List V), vs = [.ref a] ∧ H a = some (.lst xs) ∧ ∀ H', Same H H' → Q (.bl true) H'
theorem scIsSeq : FnScope ["value"] ["value"] (defScope sIsSequence) := ⟨rfl, rfl, rfl, by decide +kernel, rfl, by decide +kernel, by decide +kernel⟩
theorem ok_is_sequence (T : Txt K mg) : FnOk PP w K mg base CX0 1 (He.ga K "is_sequence") (fdOf K (He.ga K "is_sequence")) ["value"] spIsSeq := by
  refine T.F_is_sequence.ok scIsSeq (fun vs H Q E h => ?_) (fun cdv A outer s H vs Q E hr h => ?_)
  · obtain ⟨i, xs, rfl, _⟩ := h
    rfl
  · obtain ⟨a, xs, rfl, ha, k⟩ := h
    refine ⟨_, PSs.nox (pss_one (ps_ret (pe_callB call_isiT (by rfl) T.n_isinstance (by decide +kernel) (pa_cons (pv 0) (pa_cons (pe_tup (pa_cons (pe_bltn (v := .ty "list") (by rfl) T.n_list (by decide +kernel) rfl)
      (pa_cons (pe_bltn (v := .ty "tuple") (by rfl) T.n_tuple (by decide +kernel) rfl) pa_nil))) pa_nil))))), ?_⟩
    refine ⟨_, rfl, (by show 2 ≤ sizeLine; decide), fun p hp => ?_⟩
    refine ⟨_, p, _, _, _, true, rfl, upd_same, .cons (.ty _) (.cons (.ty _) .nil), .base (.lst (xs := xs) (by rw [upd_ne (ne_of_none ha hp)]; exact ha)), ?_, k _ (same_upd hp)⟩
    exact kitAny_cons (b := true) (kit_ty (by decide +kernel)) (fun z => by cases z) (fun _ => rfl)
theorem bd_is_sequence (T : Txt K mg) : L2.Binds K (fdOf K (He.ga K "is_sequence")) ["value"] [] := T.F_is_sequence.bindsN fun _ _ _ _ _ _ us hl => match us, hl with | [_], _ => rfl
/-! ### is_name -/
def letters : Str := "abcdefghijklmnopqrstuvwxyz"
def NameOk (z : Str) : Prop := 1 ≤ z.length ∧ z.length ≤ 8 ∧ ∀ c ∈ z.cps.toList, c ∈ letters.cps.toList
def spIsName : Sp := fun vs H Q _ => ∃ z : Str, vs = [.str z] ∧ NameOk z ∧ ∀ H', Same H H' → Q (.bl true) H'
theorem scIsName : FnScope ["value", "sign"] ["value"] (defScope sIsName) := ⟨rfl, rfl, rfl, by decide +kernel, rfl, by decide +kernel, by decide +kernel⟩
theorem ok_is_name (T : Txt K mg) : FnOk PP w K mg base CX0 2 (He.ga K "is_name") (fdOf K (He.ga K "is_name")) ["value"] spIsName := by
  refine T.F_is_name.ok scIsName (fun vs H Q E h => ?_) (fun cdv A outer s H vs Q E hr h => ?_)
  · obtain ⟨i, rfl, _⟩ := h
    rfl
  · obtain ⟨z, rfl, ⟨z1, z2, z3⟩, k⟩ := h
    obtain ⟨t1, m1⟩ := T.v_LONGEST
    obtain ⟨t2, m2⟩ := T.v_LETTERS
    refine ⟨_, PSs.nox (pss_one (ps_ret (pe_and (pe_callP (ok_is_text T) hr (by rfl) T.g_is_text T.F_is_text.kp (bd_is_text T) pass0 (pa_cons (pv 0) pa_nil))
      (pe_and (pe_chain op_le op_le pe_int (pe_callB call_len_str (by rfl) T.n_len (by decide +kernel) (pa_cons (pv 0) pa_nil)) (pe_glob (v := .int 8) (by rfl) m1 ⟨_, rfl⟩))
      (pe_one (pe_callB (cr_all rfl) (by rfl) T.n_all (by decide +kernel) (pa_cons (pe_lc (own := [("sign", 1)]) (g := gName 1) (tt := tYes) rfl scIsName.nd (pi_str (pv 0)) (blkOk_by (N := ["value", "sign"]) (sc := defScope sIsName) (by decide +kernel))
        (fun _ _ _ _ _ => pg_name (i := 1) scIsName.nd rfl (Or.inl rfl)) (fun _ _ _ _ _ => pts_nil) (fun _ _ _ _ _ => pe_cmpR op_in_sign (pv 1) (pe_glob (v := .str letters) (by rfl) m2 ⟨_, rfl⟩) rfl)) pa_nil))))))), ?_⟩
    refine ⟨_, rfl, z, rfl, true, rfl, iteT ?_⟩
    refine ⟨_, rfl, _, rfl, Nat.le_trans z2 (by decide), _, _, rfl, rfl, _, rfl, ?_⟩
    rw [decide_eq_true (show (1 : Int) ≤ ((z.length : Nat) : Int) by omega)]
    refine iteT ⟨_, _, rfl, rfl, _, rfl, ?_⟩
    rw [decide_eq_true (show ((z.length : Nat) : Int) ≤ 8 by omega)]
    refine iteT ⟨_, rfl, z, rfl, fun D nD => ?_⟩
    refine lc_it walk_str (PvG H D fun i acc _ => ∃ bs : List Bool, acc = bs.map V.bl ∧ bs.all id = true) (PvG.zero nD ⟨[], rfl, rfl⟩) (fun _ _ _ _ => trivial) ?_ ?_
    · rintro i x H1 H2 hi ⟨p, acc, hD, la, bs, rfl, hb⟩ ⟨rfl, c, hc, rfl⟩
      refine ⟨rfl, _, rfl, c, letters, rfl, rfl, ?_⟩
      have hz : z.length = z.cps.size := rfl
      refine PvG.add nD p hD la (by omega) (Same.refl _) ⟨bs ++ [true], ?_, ?_⟩
      · have e : decide (c ∈ letters.cps.toList) = true := decide_eq_true (z3 c (by
          have h1 : c ∈ z.cps := Array.mem_of_getElem? hc
          simpa using h1))
        rw [e, List.map_append]
        rfl
      · rw [List.all_append, hb]
        rfl
    · rintro H1 ⟨p, acc, hD, la, bs, rfl, hb⟩
      exact ⟨_, _, rfl, SqL.of hD, Qbl (k H1 p) hb⟩
theorem bd_is_name (T : Txt K mg) : L2.Binds K (fdOf K (He.ga K "is_name")) ["value"] [] := T.F_is_name.bindsN fun _ _ _ _ _ _ us hl => match us, hl with | [_], _ => rfl
/-! ### need_number -/
/-- the error that need_number lets out -/
def Bad (K : PySem.W.Frag) (z : Str) (H : Hp) (E : XK) : Prop := ∀ d, H d = none → E (.ref (cSize K)) (some d) (upd H d (.xd [(("word" : Str), .str z)]))
def spNeed (K : PySem.W.Frag) : Sp := fun vs H Q E => ∃ (i b : Int) (z : Str), vs = [.int i, .int b, .str z] ∧ ((0 ≤ i ∧ i < b) → Q .non H) ∧ (¬ (0 ≤ i ∧ i < b) → Bad K z H E)
theorem scNeed : FnScope ["value", "bound", "word"] ["value", "bound", "word"] (defScope sNeedNumber) := ⟨rfl, rfl, rfl, by decide +kernel, rfl, by decide +kernel, by decide +kernel⟩
theorem ok_need_number (T : Txt K mg) : FnOk PP w K mg base (L2.CX PP w) 4 (He.ga K "need_number") (fdOf K (He.ga K "need_number")) ["value", "bound", "word"] (spNeed K) := by
  refine T.F_need_number.ok scNeed (fun vs H Q E h => ?_) (fun cdv A outer s H vs Q E hr h => ?_)
  · obtain ⟨i, b, z, rfl, _⟩ := h
    rfl
  · obtain ⟨i, b, z, rfl, k1, k2⟩ := h
    refine ⟨_, pss_one (ps_if (pt_not (pt_val (pe_callP (ok_is_below T) (hr.mono (by decide)) (by rfl) T.g_is_below T.F_is_below.kp (bd_is_below T) pass0 (pa_cons (pv 0) (pa_cons (pv 1) pa_nil)))))
      (pss_one (ps_raiseSize rfl rfl T.sz hr (takes_of rfl rfl rfl rfl) (pa_cons (pv 2) pa_nil))) pss_nil), ?_⟩
    refine ⟨_, rfl, _, rfl, i, b, rfl, _, rfl, ?_⟩
    by_cases c : 0 ≤ i ∧ i < b
    · rw [decide_eq_true c]
      exact iteF (k1 c)
    · rw [decide_eq_false c]
      refine iteT ⟨_, rfl, _, rfl, fun d hd => k2 c d hd⟩
theorem bd_need_number (T : Txt K mg) : L2.Binds K (fdOf K (He.ga K "need_number")) ["value", "bound", "word"] [] := T.F_need_number.bindsN fun _ _ _ _ _ _ us hl => match us, hl with | [_, _, _], _ => rfl
end
end K3
set_option maxHeartbeats 6000000
/-! for i, x in enumerate(t), t a tuple. -/
namespace K3
open PySem PySem.Spec PyProof.Rows L2
open AutoSeq1 (wpAny_loadPart')
theorem meets_enumT (l : Addr) (items : Array Value) (n : Nat) (dct : Option Addr) (sl : Array (Option Value)) :
    Meets (Builtin.«enumerate.__new__» ⟨[.type "enumerate", .ref l], []⟩) (fun _ R s => s.heap.get? l = some { cls := .type "tuple", dict := dct, data := .seq items n, slots := sl } ∧
      R (.ok (.ret (.ref (s.heap.push { cls := .type "tuple_iterator", data := .fields #[.ref l, .int 0 0] }).objs.size)))
        { s with heap := (s.heap.push { cls := .type "tuple_iterator", data := .fields #[.ref l, .int 0 0] }).push { cls := .type "enumerate", data := .fields #[.none, .bool false, .ref s.heap.objs.size, rawInt 0, .none, .none] } }) :=
  .of_wp fun prog w A R s h => by
    obtain ⟨hp, g, d, tk, os⟩ := s
    obtain ⟨hl, h⟩ := h
    have hsub := sub_enumerate
    have hL : Heap.IsTuple (Shared.heap ⟨hp, g, d, tk, os⟩) l items := ⟨_, hl, rfl, n, rfl⟩
    wp_walk using wpAny_loadPart' hl
    refine wpAny_stack_any fun st => wpAny_pure ?_
    split
    · rename_i c _ _ _ _ _
      cases (c == Value.type "enumerate")
      · wp_walk using wpAny_loadPart' hl, wpAny_pyIter_tuple hL
        exact ⟨_, rfl, h⟩
      · wp_walk using wpAny_loadPart' hl, wpAny_pyIter_tuple hL
        exact ⟨_, rfl, h⟩
    · wp_walk using wpAny_loadPart' hl, wpAny_pyIter_tuple hL
      exact ⟨_, rfl, h⟩
section
variable {prog : Program} {w : World} {A : Around} {E : Value → Shared → Prop} {s : Shared}
theorem call_enumT {l : Addr} {items : Array Value} {Q : Value → Shared → Prop} (hL : s.heap.IsTuple l items)
    (h : ∀ h', IsEnum h' (s.heap.objs.size + 1) s.heap.objs.size 0 .none → h'.IsTupleIter s.heap.objs.size l 0 → (∀ b o, s.heap.get? b = some o → h'.get? b = some o) → Q (.ref (s.heap.objs.size + 1)) { s with heap := h' }) :
    wpAny (model prog w) A (call (.type "enumerate") [.ref l]) Q E s := by
  obtain ⟨⟨c, dct, dt, sl⟩, hl, hc, n, hd⟩ := hL
  replace hc : c = .type "tuple" := hc
  replace hd : dt = .seq items n := hd
  subst hc hd
  refine callType_new F.called_enumerate (by decide) (F.typeCall_enumerate_1 _) (F.newCall_enumerate_1 _) (fun obj => F.args_object_init_2 obj _) F.entry_enumerate_new (meets_enumT l items n dct sl) ⟨hl, ?_⟩
  have hz : (s.heap.push { cls := .type "tuple_iterator", data := .fields #[.ref l, .int 0 0] }).objs.size = s.heap.objs.size + 1 := Heap.size_push ..
  show _ ∧ _
  rw [hz]
  have he : IsEnum ((s.heap.push { cls := .type "tuple_iterator", data := .fields #[.ref l, .int 0 0] }).push
      { cls := .type "enumerate", data := .fields #[.none, .bool false, .ref s.heap.objs.size, rawInt 0, .none, .none] }) (s.heap.objs.size + 1) s.heap.objs.size 0 .none := by
    have q := Heap.get?_push_size (s.heap.push { cls := .type "tuple_iterator", data := .fields #[.ref l, .int 0 0] })
      (o := { cls := .type "enumerate", data := .fields #[.none, .bool false, .ref s.heap.objs.size, rawInt 0, .none, .none] }) rfl
    rw [hz] at q
    exact q
  exact ⟨⟨_, he, rfl⟩, h _ he ⟨_, Heap.get?_push_of_some _ (Heap.get?_push_size _ rfl), rfl, rfl⟩ fun b o x => Heap.get?_push_of_some _ (Heap.get?_push_of_some _ x)⟩
end
/-- the tuple at a, each item in a new pair with its place -/
def Iten (K : PySem.W.Frag) (a : Addr) : It :=
  ⟨fun i H => ∃ (xs : List V) (x : V), SqT K H a xs ∧ xs[i]? = some x, fun i H v H' => ∃ T x, v = .ref T ∧ H T = none ∧ H' = upd H T (.tup [.int (i : Nat), x]) ∧ ∀ xs, SqT K H a xs → xs[i]? = some x, fun i H => ∃ xs : List V, SqT K H a xs ∧ xs.length = i⟩
theorem iter_ne {h : Heap} {it l : Addr} {i : Nat} {items : Array Value} (x : h.IsTupleIter it l i) (y : h.IsTuple l items) : l ≠ it := by
  rintro rfl
  obtain ⟨o, e, c, _⟩ := x
  obtain ⟨o', e', c', _⟩ := y
  rw [e] at e'
  cases e'
  rw [c] at c'
  exact absurd c' (by decide +kernel)
theorem turn_enumT {P : Program} {w : World} {K : PySem.W.Frag} {elts : List Expr} {kk : Nat} {tpos : Pos} (a e it : Addr) :
    Turn P w K (.Tuple elts kk tpos) (Iten K a) [e, it] e (fun i h => (∃ old, IsEnum h e it ((i : Nat) : Int) old) ∧ h.IsTupleIter it a i ∧ e ≠ it) where
  mem := by simp
  obj := fun i h st b hb => by
    obtain ⟨⟨old, he⟩, ⟨o, ho, hc, hd⟩, _⟩ := st
    have e' : b = e ∨ b = it := by simpa using hb
    rcases e' with z | z
    · rw [z]; exact ⟨_, he, fun v q => nomatch q⟩
    · rw [z]; exact ⟨o, ho, fun v q => by rw [hd] at q; cases q⟩
  keep := fun i h h' st k => let ⟨⟨old, he⟩, hi, hne⟩ := st; ⟨⟨old, k e (by simp) _ he⟩, hi.at fun o q => k it (by simp) o q, hne⟩
  item := by
    intro X hP hw hK hc i pins s σ H E I hf st hg
    subst hP hw hK
    obtain ⟨⟨old, he⟩, hit, hne⟩ := st
    obtain ⟨xs, x, hq, hx⟩ := hg
    obtain ⟨its, rv, p, hz⟩ := I.tuple hq
    have p' : s.heap.IsTuple a its.toArray := p
    obtain ⟨u, hu, ru⟩ := rv.get hx
    have hel : e < s.heap.objs.size := Heap.lt_size he
    have hil : it < s.heap.objs.size := by obtain ⟨_, q, _⟩ := hit; exact Heap.lt_size q
    have hae := iter_ne hit p'
    have hea : e ≠ a := by
      rintro rfl
      obtain ⟨o', e', c', _⟩ := p'
      rw [he] at e'
      cases e'
      exact absurd (show Value.type "enumerate" = Value.type "tuple" from c') (by decide +kernel)
    have hhd : X.A.in1.handled = none := I.ok.hd hc
    have hlt : i < its.toArray.size := by
      have := (List.getElem?_eq_some_iff.mp hu).1
      simpa using this
    refine wpAny_pyNext_enum_itemD (Draws.tuple hhd it a hae its.toArray) he ⟨hit, p'⟩ hlt hne (by simp [hne, hea]) fun y h' tk hy ho st' hT hsz hk => ?_
    have ey : y = u := by
      have : its[i]? = some y := by simpa using hy
      rw [hu] at this
      exact (Option.some.inj this).symm
    subst ey
    refine ⟨_, rfl, wpAny_letOwnedTupleGo_enum (s := { s with heap := h', toks := tk + 1 }) ho fun h'' he' sb => ?_⟩
    have hT2 : h''.get? s.heap.objs.size = some { cls := .type "tuple", data := .seq #[.int i tk, y] } := (sb.2 _ (Nat.ne_of_gt hel)).trans hT
    have new : ObjOk X.prog X.w (upd H s.heap.objs.size (.tup [.int (i : Nat), x])) h'' s.heap.objs.size (.tup [.int (i : Nat), x]) :=
      ⟨by show 2 ≤ sizeLine; decide, [.int i tk, y], .cons ⟨_, rfl⟩ (.cons ru .nil), ⟨_, hT2, rfl, _, rfl⟩⟩
    have I1 : Inv X pins σ (upd H s.heap.objs.size (.tup [.int (i : Nat), x])) { s with heap := h'', toks := tk + 1 } :=
      I.turnedNew (ch := [e, it]) (fun b ob hb q => (sb.2 b (fun z => hb (by simp [z]))).trans (hk b ob (fun z => hb (by simp [z])) (fun z => hb (by simp [z])) q)) hf (Nat.le_refl _) new
    refine ⟨.ref s.heap.objs.size, _, I1, rfl, ⟨_, x, rfl, I.hok.fresh (Nat.le_refl _), rfl, fun ys hy => by rw [I.tuple_inj hy hq]; exact hx⟩, ⟨⟨y, ?_⟩, st'.1.at fun o q => (sb.2 it (Ne.symm hne)).trans q, hne⟩, fun b hb => ?_⟩
    · have e1 : ((i + 1 : Nat) : Int) = (i : Int) + 1 := by omega
      rw [e1]
      exact he'
    · have hb' : b < s.heap.objs.size := by
        have e' : b = e ∨ b = it := by simpa using hb
        rcases e' with z | z
        · rw [z]; exact hel
        · rw [z]; exact hil
      rw [upd_ne (Nat.ne_of_lt hb')]
      exact (hf b hb).1
  done := by
    intro X hP hw hK hc i pins s σ H E I hf st hg
    subst hP hw hK
    obtain ⟨⟨old, he⟩, hit, hne⟩ := st
    obtain ⟨xs, hq, hx⟩ := hg
    obtain ⟨its, rv, p, hz⟩ := I.tuple hq
    have p' : s.heap.IsTuple a its.toArray := p
    obtain ⟨f0, f1, f2, f3, f4, f5⟩ := hf it (by simp)
    have hl := rv.length
    have hhd : X.A.in1.handled = none := I.ok.hd hc
    have hn : its.toArray.size = i := by simp; omega
    refine wpAny_pyNext_enum_endD (Draws.tuple hhd it a (iter_ne hit p') its.toArray) he ⟨by rw [hn]; exact hit, p'⟩ fun h' eb => ⟨rfl, I.turned (t' := s.toks) (fun b o hb q => eb b o hb q) f0 f1 f3 f4 f5⟩
  self := fun A i s Q E st h => let ⟨⟨_, he⟩, _⟩ := st; wpAny_pyIter_enum he h
def iEnumT (K : PySem.W.Frag) (ta : TA) : TI := fun σ H R => ta σ H fun vs H1 => ∃ a xs, vs = [.ref a] ∧ SqT K H1 a xs ∧ R (Iten K a) H1
theorem pi_enumT {X : Cx} {e : Expr} {ta : TA} {p pos tpos : Pos} {elts : List Expr} {kk : Nat} (hg : Gl X "enumerate") (hm : X.mg "enumerate" = none) (ha : PA X [e] ta) (hs : starEach [e] X.env = [(false, eval e X.env)] := by rfl) :
    PI X (.Tuple elts kk tpos) (.Call (.Name "enumerate" p) [e] [] pos) (iEnumT X.K ta) := by
  refine ⟨fun pins s σ H R I h => ?_⟩
  refine Call_ (ld_blt I hg hm boot_enumerate (PyProof.Rows.callWith_type1 (thn (ha.run pos pins s σ H _ I h) fun us s1 ⟨vs, H1, I1, r1, q1⟩ => ?_) hs rfl))
  obtain ⟨a, xs, ex, hq, q⟩ := q1
  subst ex
  cases r1 with
  | cons r rr =>
    cases rr
    cases r
    obtain ⟨its, rv, p', hz⟩ := I1.tuple hq
    refine call_enumT (show s1.heap.IsTuple a its.toArray from p') fun h' he hit hk => wpAny_pyIter_enum he ?_
    have I2 : Inv X pins σ H1 { s1 with heap := h' } := I1.kept (t' := s1.toks) hk
    refine ⟨s1.heap.objs.size + 1, [s1.heap.objs.size + 1, s1.heap.objs.size], _, _, H1, rfl, I2, turn_enumT a (s1.heap.objs.size + 1) s1.heap.objs.size, ⟨⟨.none, he⟩, hit, Nat.succ_ne_self _⟩, fun b hb => ?_, q⟩
    have e' : b = s1.heap.objs.size + 1 ∨ b = s1.heap.objs.size := by simpa using hb
    have hle : s1.heap.objs.size ≤ b := by
      rcases e' with z | z
      · rw [z]; exact Nat.le_add_right _ _
      · rw [z]; exact Nat.le_refl _
    exact I1.fpOk hle (I1.hok.fresh hle)
theorem walk_enumT {K : PySem.W.Frag} {a : Addr} {xs : List V} : Walk (Iten K a) xs.length (fun H => SqT K H a xs) (YPair (fun i => some (.int (i : Nat))) (fun i => xs[i]?)) := by
  refine ⟨fun i _ hi q => ⟨xs, xs[i], q, by simp [hi]⟩, fun _ q => ⟨xs, q, rfl⟩, fun i H v H' _ q y => ?_⟩
  obtain ⟨T, x, h1, h2, h3, h4⟩ := y
  exact ⟨T, .int (i : Nat), x, h1, h2, h3, rfl, h4 xs q⟩
end K3
set_option maxHeartbeats 6000000
/-! yards. -/
namespace K3
open PySem PySem.Spec PyProof.Rows L2
/-! ### plain: heights, places by stacks -/
def vi (hs : List Nat) : List V := hs.map fun n : Nat => V.int (n : Int)
theorem vi_ints (hs : List Nat) : vi hs = (hs.map fun n : Nat => (n : Int)).map V.int := by
  unfold vi
  rw [List.map_map]
  rfl
theorem sum_cast : ∀ hs : List Nat, (hs.map fun n : Nat => (n : Int)).sum = ((hs.sum : Nat) : Int)
  | [] => rfl
  | a :: r => by
    rw [List.map_cons, List.sum_cons, List.sum_cons, sum_cast r]
    omega
theorem vi_get {hs : List Nat} {i : Nat} {v : V} (h : (vi hs)[i]? = some v) : ∃ n, hs[i]? = some n ∧ v = .int (n : Int) := by
  unfold vi at h
  rw [List.getElem?_map] at h
  cases e : hs[i]? with
  | none =>
    rw [e] at h
    cases h
  | some n =>
    rw [e] at h
    exact ⟨n, rfl, (Option.some.inj h).symm⟩
theorem vi_at {hs : List Nat} {i n : Nat} (h : hs[i]? = some n) : (vi hs)[i]? = some (.int (n : Int)) := by
  unfold vi
  rw [List.getElem?_map, h]
  rfl
theorem vi_len (hs : List Nat) : (vi hs).length = hs.length := List.length_map ..
structure HtOk (hs : List Nat) : Prop where
  lo : 3 ≤ hs.length
  hi : hs.length ≤ 12
  each : ∀ h ∈ hs, 1 ≤ h ∧ h ≤ 12
theorem get_mem {α : Type} {l : List α} {i : Nat} {x : α} (h : l[i]? = some x) : x ∈ l := List.mem_of_getElem? h
theorem get_lt {α : Type} {l : List α} {i : Nat} {x : α} (h : l[i]? = some x) : i < l.length := (List.getElem?_eq_some_iff.mp h).1
theorem take_more {α : Type} {l : List α} {i : Nat} {x : α} (h : l[i]? = some x) : l.take (i + 1) = l.take i ++ [x] := by
  rw [List.take_add_one, h]
  rfl
theorem le_sum : ∀ {l : List Nat} {i h : Nat}, l[i]? = some h → h ≤ l.sum
  | [], i, h, e => by simp at e
  | a :: r, 0, h, e => by
    have : a = h := by simpa using e
    rw [List.sum_cons]
    omega
  | a :: r, i + 1, h, e => by
    have := le_sum (l := r) (i := i) (h := h) (by simpa using e)
    rw [List.sum_cons]
    omega
theorem sum_le : ∀ {l : List Nat} {m : Nat}, (∀ h ∈ l, h ≤ m) → l.sum ≤ l.length * m
  | [], _, _ => Nat.zero_le _
  | a :: r, m, h => by
    have h1 := h a List.mem_cons_self
    have h2 := sum_le (l := r) (m := m) fun x hx => h x (List.mem_cons_of_mem _ hx)
    rw [List.sum_cons, List.length_cons, Nat.add_mul, Nat.one_mul]
    omega
theorem HtOk.tot {hs : List Nat} (o : HtOk hs) : hs.sum ≤ 144 := by
  have h1 := sum_le (l := hs) (m := 12) fun h hh => (o.each h hh).2
  have h2 := o.hi
  omega
/-- stack by stack -/
def cat {α : Type} (F : Nat → Nat → List α) (hs : List Nat) : List α := hs.zipIdx.flatMap fun p => F p.2 p.1
theorem cat_snoc {α : Type} (F : Nat → Nat → List α) (hs : List Nat) (h : Nat) : cat F (hs ++ [h]) = cat F hs ++ F hs.length h := by
  unfold cat
  rw [List.zipIdx_append, List.flatMap_append]
  simp
theorem cat_take {α : Type} (F : Nat → Nat → List α) {hs : List Nat} {i h : Nat} (e : hs[i]? = some h) : cat F (hs.take (i + 1)) = cat F (hs.take i) ++ F i h := by
  rw [take_more e, cat_snoc]
  have hl : (hs.take i).length = i := by
    rw [List.length_take]
    have := get_lt e
    omega
  rw [hl]
theorem cat_nil {α : Type} (F : Nat → Nat → List α) : cat F [] = [] := rfl
def layerN (hs : List Nat) (c : Nat) : List (Nat × Nat) := cat (fun s h => if c < h then [(s, h - 1 - c)] else []) hs
def rowN (hs : List Nat) (f : Nat) : List Nat := hs.map fun h => h - f
def deepN (hs : List Nat) (f : Nat) : List (Nat × Nat) := cat (fun s h => (List.range (h - f)).map fun l => (s, l)) hs
def dPl (p : Nat × Nat) : PyData := .tuple [.int p.1, .int p.2]
/-- a yard's object -/
def YardAt (K : PySem.W.Frag) (H : Hp) (y : Addr) (hs : List Nat) : Prop := HtOk hs ∧ ∃ dx ht : Addr, H y = some (.ins (cY K) dx [(("heights" : Str), .ref ht)]) ∧ H ht = some (.tup (vi hs))
theorem YardAt.same {K : PySem.W.Frag} {H H' : Hp} {y : Addr} {hs : List Nat} (h : YardAt K H y hs) (s : Same H H') : YardAt K H' y hs := by
  obtain ⟨o, dx, ht, h1, h2⟩ := h
  exact ⟨o, dx, ht, s _ _ h1, s _ _ h2⟩
theorem lk_heights (ht : Addr) : List.lookup ("heights" : Str) [(("heights" : Str), V.ref ht)] = some (.ref ht) := by simp [List.lookup]
section
variable {X : Cx}
/-- sum of a tuple of ints -/
theorem cr_sumT (hc : X.calm = true) : CallR X (.builtin "sum") (fun vs H Q => ∃ (a : Addr) (ns : List Int), vs = [V.ref a] ∧ SqT X.K H a (ns.map V.int) ∧ Q (.int ns.sum) H) := by
  intro pins s σ H vs us Q I r h
  obtain ⟨a, ns, rfl, hs, q⟩ := h
  obtain ⟨its, rv, hl, _⟩ := I.tuple hs
  rw [Vals.ref1 r]
  obtain ⟨xs, e⟩ := rv.ints.allInts.items
  have hn : numsOf (intItems xs).toList = ns := by rw [← e]; exact rv.ints.numsOf
  rw [nums_intItems] at hn
  have hl' : s.heap.IsTuple a its.toArray := hl
  rw [e] at hl'
  refine PySem.W.ktm_sumG (I.ok.hd hc) hl' fun h' tk t' hk => ?_
  rw [preSum_eq, List.take_of_length_le (by simp), hn]
  exact ⟨.int _, H, I.kept hk, ⟨_, rfl⟩, q⟩
end
section
variable {w : World} {K : PySem.W.Frag} {mg : Str → Option Value} {base : Heap}
/-! ### Yard(heights) -/
def spYard (K : PySem.W.Frag) : Sp := fun vs H Q _ => ∃ (y dx a : Addr) (hs : List Nat), vs = [.ref y, .ref a] ∧ HtOk hs ∧ H y = some (.ins (cY K) dx []) ∧ H a = some (.lst (vi hs)) ∧
  ∀ H' ht, (∀ b o, b ≠ y → H b = some o → H' b = some o) → H' y = some (.ins (cY K) dx [(("heights" : Str), .ref ht)]) → H' ht = some (.tup (vi hs)) → Q .non H'
theorem scYard : FnScope ["self", "heights", "at", "height"] ["self", "heights"] (defScope sYardInit) := ⟨rfl, rfl, rfl, by decide +kernel, rfl, by decide +kernel, by decide +kernel⟩
theorem ok_yard (T : Txt K mg) : FnOk PP w K mg base CX0 3 (aYI K) (fdOf K (aYI K)) ["self", "heights"] (spYard K) := by
  refine T.F_YardInit.ok scYard (fun vs H Q E h => ?_) (fun cdv A outer s H vs Q E hr h => ?_)
  · obtain ⟨y, dx, a, hs, rfl, _⟩ := h
    rfl
  · obtain ⟨y, dx, a, hs, rfl, ho, hy, ha, k⟩ := h
    obtain ⟨t1, m1⟩ := T.v_FEWEST
    obtain ⟨t2, m2⟩ := T.v_MOST
    have hya : y ≠ a := ne_of hy ha (by intro z; cases z)
    refine ⟨_, PSs.nox (pss_cons (ps_if (PW.pt (pw_or (pt_not (pt_val (pe_callP (ok_is_sequence T) (hr.mono (by decide)) (by rfl) T.g_is_sequence T.F_is_sequence.kp (bd_is_sequence T) pass0 (pa_cons (pv 1) pa_nil))))
        (pw_or1 (pt_not (pt_chain op_le op_le (pe_glob (v := .int 3) (by rfl) m1 ⟨_, rfl⟩) (pe_callB call_len_seq (by rfl) T.n_len PySem.boot_len (pa_cons (pv 1) pa_nil)) (pe_glob (v := .int 12) (by rfl) m2 ⟨_, rfl⟩)))))) (pss_one ps_never) pss_nil)
      (pss_cons (ps_for PassesOwn.never rfl (pi_enum (by rfl) T.n_enumerate (pa_cons (pv 1) pa_nil)) (pg_tup rfl (pgs_cons (pg_name (i := 2) scYard.nd rfl (Or.inl rfl)) (pgs_cons (pg_name (i := 3) scYard.nd rfl (Or.inl rfl)) pgs_nil)))
        (pss_one (ps_if (PW.pt (pw_or (pt_not (pt_val (pe_callP (ok_is_below T) (hr.mono (by decide)) (by rfl) T.g_is_below T.F_is_below.kp (bd_is_below T) pass0 (pa_cons (pv 3) (pa_cons (pe_op op_add (pe_glob (v := .int 12) (by rfl) m2 ⟨_, rfl⟩) pe_int) pa_nil)))))
          (pw_or1 (pt_cmpR op_eq (pv 3) pe_int (nomark _))))) (pss_one ps_never) pss_nil)))
      (pss_one (ps_fld (pv 0) (pe_callTy call_tuple_of (by rfl) T.n_tuple (by decide +kernel) (pa_cons (pv 1) pa_nil)) rfl)))), ?_⟩
    refine ⟨_, rfl, a, _, rfl, ha, fun H1 s1 => ⟨_, rfl, iteF ?_⟩⟩
    refine ⟨_, rfl, a, _, rfl, .inl (SqL.of (s1 _ _ ha)), _, _, rfl, rfl, _, rfl, ?_⟩
    have l3 := ho.lo
    have l12 := ho.hi
    rw [decide_eq_true (show (3 : Int) ≤ (((vi hs).length : Nat) : Int) by rw [vi_len]; omega)]
    refine iteT ⟨_, _, rfl, rfl, _, rfl, ?_⟩
    rw [decide_eq_true (show (((vi hs).length : Nat) : Int) ≤ 12 by rw [vi_len]; omega)]
    refine iteF ?_
    refine ⟨_, rfl, a, _, rfl, SqL.of (s1 _ _ ha), for_it walk_enum (fun _ σ H' => ∃ o1 o2 : Option V, σ = [some (.ref y), some (.ref a), o1, o2] ∧ Same H H') ⟨none, none, rfl, s1⟩ (fun i σ H' _ ⟨_, _, _, s2⟩ => SqL.of (s2 _ _ ha)) ?_ ?_⟩
    · rintro i x σ H2 H3 hi ⟨o1, o2, rfl, s2⟩ ⟨t, v1, v2, rfl, nt, rfl, e1, e2⟩
      cases e1
      obtain ⟨n, hn, rfl⟩ := vi_get e2
      obtain ⟨n1, n2⟩ := ho.each n (get_mem hn)
      refine ⟨t, _, rfl, SqT.of upd_same, rfl, _, _, rfl, _, _, rfl, rfl, ?_⟩
      refine ⟨_, rfl, _, _, rfl, rfl, _, _, rfl, _, rfl, ?_⟩
      rw [decide_eq_true (show 0 ≤ (n : Int) ∧ (n : Int) < 12 + 1 by omega)]
      refine iteF ⟨_, rfl, rfl, _, rfl, ?_⟩
      rw [decide_eq_false (show ¬ V.int (n : Int) = V.int 0 by intro z; have := V.int.inj z; omega)]
      exact iteF ⟨_, _, rfl, s2.trans (same_upd nt)⟩
    · rintro σ H2 ⟨o1, o2, rfl, s2⟩
      refine ⟨_, rfl, a, _, rfl, .inl ⟨SqL.of (s2 _ _ ha), fun l hl => ?_⟩⟩
      have nyl : y ≠ l := ne_of_none (s2 _ _ hy) hl
      refine ⟨_, rfl, y, cY K, dx, [], rfl, (by rw [upd_ne nyl]; exact s2 _ _ hy), T.cl, T.nH, (by show 0 < 1000; decide), ?_⟩
      refine k _ l (fun b o nb e => ?_) upd_same ?_
      · rw [upd_ne nb, upd_ne (ne_of_none (s2 _ _ e) hl)]
        exact s2 _ _ e
      · rw [upd_ne nyl.symm, upd_same]
theorem bd_yard (T : Txt K mg) : L2.Binds K (fdOf K (aYI K)) ["self", "heights"] [] := T.F_YardInit.bindsN fun _ _ _ _ _ _ us hl => match us, hl with | [_, _], _ => rfl
end
end K3
set_option maxHeartbeats 6000000
/-! yards: places .. deep_places. -/
namespace K3
open PySem PySem.Spec PyProof.Rows L2
section
variable {w : World} {K : PySem.W.Frag} {mg : Str → Option Value} {base : Heap}
/-! ### places -/
def spPlaces (K : PySem.W.Frag) : Sp := fun vs H Q _ => ∃ (y : Addr) (hs : List Nat), vs = [.ref y] ∧ YardAt K H y hs ∧ Q (.int ((hs.sum : Nat) : Int)) H
theorem scPlaces : FnScope ["yard"] ["yard"] (defScope sPlaces) := ⟨rfl, rfl, rfl, by decide +kernel, rfl, by decide +kernel, by decide +kernel⟩
theorem ok_places (T : Txt K mg) : FnOk PP w K mg base CX0 1 (He.ga K "places") (fdOf K (He.ga K "places")) ["yard"] (spPlaces K) := by
  refine T.F_places.ok scPlaces (fun vs H Q E h => ?_) (fun cdv A outer s H vs Q E hr h => ?_)
  · obtain ⟨y, hs, rfl, _⟩ := h
    rfl
  · obtain ⟨y, hs, rfl, ⟨ho, dx, ht, h1, h2⟩, k⟩ := h
    refine ⟨_, PSs.nox (pss_one (ps_ret (pe_callB (cr_sumT rfl) (by rfl) T.n_sum (by decide +kernel) (pa_cons (pe_fld (pv 0) rfl) pa_nil)))), ?_⟩
    refine ⟨_, rfl, y, cY K, dx, _, _, rfl, h1, T.cl, T.nH, lk_heights ht, ht, _, rfl, SqT.of (by rw [← vi_ints]; exact h2), Qint k (sum_cast hs)⟩
theorem bd_places (T : Txt K mg) : L2.Binds K (fdOf K (He.ga K "places")) ["yard"] [] := T.F_places.bindsN fun _ _ _ _ _ _ us hl => match us, hl with | [_], _ => rfl
theorem kw_places (T : Txt K mg) : KwB (fdOf K (He.ga K "places")) ["yard"] := FunD.kwN T.F_places fun _ _ _ _ _ _ us hl => match us, hl with | [_], _ => rfl
/-! ### others -/
def spOthers (K : PySem.W.Frag) : Sp := fun vs H Q E => ∃ (y : Addr) (hs : List Nat) (i : Int), vs = [.ref y, .int i] ∧ YardAt K H y hs ∧
  (∀ (s h : Nat), i = (s : Int) → hs[s]? = some h → Q (.int ((hs.sum : Nat) - (h : Int))) H) ∧ (¬ (0 ≤ i ∧ i < (hs.length : Int)) → Bad K "stack" H E)
theorem scOthers : FnScope ["yard", "stack"] ["yard", "stack"] (defScope sOthers) := ⟨rfl, rfl, rfl, by decide +kernel, rfl, by decide +kernel, by decide +kernel⟩
/-- a place of a list, by an int in bounds -/
theorem nat_at {α : Type} {l : List α} {i : Int} (h0 : 0 ≤ i) (h1 : i < (l.length : Int)) : ∃ (s : Nat) (x : α), i = (s : Int) ∧ l[s]? = some x := by
  have hs : i.toNat < l.length := by omega
  exact ⟨i.toNat, l[i.toNat], by omega, List.getElem?_eq_getElem hs⟩
theorem ok_others (T : Txt K mg) : FnOk PP w K mg base (L2.CX PP w) 5 (He.ga K "others") (fdOf K (He.ga K "others")) ["yard", "stack"] (spOthers K) := by
  refine T.F_others.ok scOthers (fun vs H Q E h => ?_) (fun cdv A outer s H vs Q E hr h => ?_)
  · obtain ⟨y, hs, i, rfl, _⟩ := h
    rfl
  · obtain ⟨y, hs, i, rfl, ⟨ho, dx, ht, h1, h2⟩, k1, k2⟩ := h
    refine ⟨_, pss_cons (ps_expr (pe_callP (E := E) (ok_need_number T) hr (by rfl) T.g_need_number T.F_need_number.kp (bd_need_number T) (passes_call (takes_of rfl rfl rfl rfl) fun _ _ _ _ z => z) (pa_cons (pv 1) (pa_cons (pe_callB call_len (by rfl) T.n_len (by decide +kernel) (pa_cons (pe_fld (pv 0) rfl) pa_nil)) (pa_cons pe_str pa_nil)))))
      (pss_one (ps_ret (pe_op op_sub (pe_callB (cr_sumT rfl) (by rfl) T.n_sum (by decide +kernel) (pa_cons (pe_fld (pv 0) rfl) pa_nil)) (pe_ix ix_tup (pe_fld (pv 0) rfl) (pv 1) (fun _ _ => rfl))))), ?_⟩
    refine ⟨_, rfl, _, rfl, y, cY K, dx, _, _, rfl, h1, T.cl, T.nH, lk_heights ht, _, (vi hs).length, rfl, .inr ⟨_, SqT.of h2, rfl⟩, i, _, _, rfl, fun c => ?_, fun c => k2 (by rw [vi_len] at c; exact c)⟩
    obtain ⟨c0, c1⟩ := c
    rw [vi_len] at c1
    obtain ⟨s, n, rfl, hn⟩ := nat_at c0 c1
    refine ⟨_, rfl, y, cY K, dx, _, _, rfl, h1, T.cl, T.nH, lk_heights ht, ht, _, rfl, SqT.of (by rw [← vi_ints]; exact h2), _, rfl, y, cY K, dx, _, _, rfl, h1, T.cl, T.nH, lk_heights ht, _, rfl, ht, _, _, _, rfl, rfl, SqT.of h2, atI_nat (vi_at hn), _, _, rfl, rfl, ?_⟩
    exact Qint (k1 s n rfl hn) (by rw [sum_cast])
theorem bd_others (T : Txt K mg) : L2.Binds K (fdOf K (He.ga K "others")) ["yard", "stack"] [] := T.F_others.bindsN fun _ _ _ _ _ _ us hl => match us, hl with | [_, _], _ => rfl
theorem kw_others (T : Txt K mg) : KwB (fdOf K (He.ga K "others")) ["yard", "stack"] := FunD.kwN T.F_others fun _ _ _ _ _ _ us hl => match us, hl with | [_, _], _ => rfl
end
end K3
set_option maxHeartbeats 6000000
/-! yards: cover_of, layer, deep_row, deep_count, deep_places. -/
namespace K3
open PySem PySem.Spec PyProof.Rows L2
theorem hasAll_two {H : Hp} {a b : Int} : HasAll H [.int a, .int b] [.int a, .int b] := .cons (.int _) (.cons (.int _) .nil)
theorem has_pl {H : Hp} {t : Addr} {s l : Nat} (h : H t = some (.tup [.int (s : Int), .int (l : Int)])) : Has H (.ref t) (dPl (s, l)) := .tup h hasAll_two
section
variable {w : World} {K : PySem.W.Frag} {mg : Str → Option Value} {base : Heap}
/-! ### cover_of -/
def spCover (K : PySem.W.Frag) : Sp := fun vs H Q E => ∃ (y : Addr) (hs : List Nat) (i l : Int), vs = [.ref y, .int i, .int l] ∧ YardAt K H y hs ∧
  (¬ (0 ≤ i ∧ i < (hs.length : Int)) → Bad K "stack" H E) ∧ ∀ (s h : Nat), i = (s : Int) → hs[s]? = some h → (¬ (0 ≤ l ∧ l < (h : Int)) → Bad K "level" H E) ∧ ((0 ≤ l ∧ l < (h : Int)) → Q (.int ((h : Int) - 1 - l)) H)
theorem scCover : FnScope ["yard", "stack", "level"] ["yard", "stack", "level"] (defScope sCoverOf) := ⟨rfl, rfl, rfl, by decide +kernel, rfl, by decide +kernel, by decide +kernel⟩
theorem ok_cover_of (T : Txt K mg) : FnOk PP w K mg base (L2.CX PP w) 5 (He.ga K "cover_of") (fdOf K (He.ga K "cover_of")) ["yard", "stack", "level"] (spCover K) := by
  refine T.F_cover_of.ok scCover (fun vs H Q E h => ?_) (fun cdv A outer s H vs Q E hr h => ?_)
  · obtain ⟨y, hs, i, l, rfl, _⟩ := h
    rfl
  · obtain ⟨y, hs, i, l, rfl, ⟨ho, dx, ht, h1, h2⟩, k1, k2⟩ := h
    refine ⟨_, pss_cons (ps_expr (pe_callP (E := E) (ok_need_number T) hr (by rfl) T.g_need_number T.F_need_number.kp (bd_need_number T) (passes_call (takes_of rfl rfl rfl rfl) fun _ _ _ _ z => z) (pa_cons (pv 1) (pa_cons (pe_callB call_len (by rfl) T.n_len (by decide +kernel) (pa_cons (pe_fld (pv 0) rfl) pa_nil)) (pa_cons pe_str pa_nil)))))
      (pss_cons (ps_expr (pe_callP (E := E) (ok_need_number T) hr (by rfl) T.g_need_number T.F_need_number.kp (bd_need_number T) (passes_call (takes_of rfl rfl rfl rfl) fun _ _ _ _ z => z) (pa_cons (pv 2) (pa_cons (pe_ix ix_tup (pe_fld (pv 0) rfl) (pv 1) (fun _ _ => rfl)) (pa_cons pe_str pa_nil)))))
      (pss_one (ps_ret (pe_op op_sub (pe_op op_sub (pe_ix ix_tup (pe_fld (pv 0) rfl) (pv 1) (fun _ _ => rfl)) pe_int) (pv 2))))), ?_⟩
    refine ⟨_, rfl, _, rfl, y, cY K, dx, _, _, rfl, h1, T.cl, T.nH, lk_heights ht, _, (vi hs).length, rfl, .inr ⟨_, SqT.of h2, rfl⟩, i, _, _, rfl, fun c => ?_, fun c => k1 (by rw [vi_len] at c; exact c)⟩
    obtain ⟨c0, c1⟩ := c
    rw [vi_len] at c1
    obtain ⟨s, n, rfl, hn⟩ := nat_at c0 c1
    obtain ⟨k3, k4⟩ := k2 s n rfl hn
    refine ⟨_, rfl, _, rfl, y, cY K, dx, _, _, rfl, h1, T.cl, T.nH, lk_heights ht, _, rfl, ht, _, _, _, rfl, rfl, SqT.of h2, atI_nat (vi_at hn), l, _, _, rfl, fun c => ?_, fun c => k3 c⟩
    exact ⟨_, rfl, y, cY K, dx, _, _, rfl, h1, T.cl, T.nH, lk_heights ht, _, rfl, ht, _, _, _, rfl, rfl, SqT.of h2, atI_nat (vi_at hn), _, _, rfl, rfl, _, rfl, _, _, rfl, rfl, k4 c⟩
theorem bd_cover_of (T : Txt K mg) : L2.Binds K (fdOf K (He.ga K "cover_of")) ["yard", "stack", "level"] [] := T.F_cover_of.bindsN fun _ _ _ _ _ _ us hl => match us, hl with | [_, _, _], _ => rfl
theorem kw_cover_of (T : Txt K mg) : KwB (fdOf K (He.ga K "cover_of")) ["yard", "stack", "level"] := FunD.kwN T.F_cover_of fun _ _ _ _ _ _ us hl => match us, hl with | [_, _, _], _ => rfl
/-! ### layer -/
def spLayer (K : PySem.W.Frag) : Sp := fun vs H Q _ => ∃ (y : Addr) (hs : List Nat) (c : Nat), vs = [.ref y, .int (c : Int)] ∧ YardAt K H y hs ∧ ∀ H' p, Same H H' → Has H' (.ref p) (.tuple ((layerN hs c).map dPl)) → Q (.ref p) H'
theorem scLayer : FnScope ["yard", "cover", "stack", "height"] ["yard", "cover"] (defScope sLayer) := ⟨rfl, rfl, rfl, by decide +kernel, rfl, by decide +kernel, by decide +kernel⟩
theorem ok_layer (T : Txt K mg) : FnOk PP w K mg base CX0 1 (He.ga K "layer") (fdOf K (He.ga K "layer")) ["yard", "cover"] (spLayer K) := by
  refine T.F_layer.ok scLayer (fun vs H Q E h => ?_) (fun cdv A outer s H vs Q E hr h => ?_)
  · obtain ⟨y, hs, c, rfl, _⟩ := h
    rfl
  · obtain ⟨y, hs, c, rfl, ⟨ho, dx, ht, h1, h2⟩, k⟩ := h
    refine ⟨_, PSs.nox (pss_one (ps_ret (pe_callTy call_tuple_of (by rfl) T.n_tuple (by decide +kernel) (pa_cons (pe_lc (own := [("stack", 2), ("height", 3)]) (g := gTup K 2 (gCons (gName 2) (gCons (gName 3) gNil))) rfl scLayer.nd
      (pi_enumT (by rfl) T.n_enumerate (pa_cons (pe_fld (pv 0) rfl) pa_nil)) (blkOk_by (N := ["yard", "cover", "stack", "height"]) (sc := defScope sLayer) (by decide +kernel))
      (fun _ _ _ _ _ => pg_tup rfl (pgs_cons (pg_name (i := 2) scLayer.nd rfl (Or.inl rfl)) (pgs_cons (pg_name (i := 3) scLayer.nd rfl (Or.inl rfl)) pgs_nil)))
      (fun _ _ _ _ _ => pts_one (pt_cmpR op_gt (pv 3) (pv 1) (nomark _)))
      (fun _ _ _ _ _ => pe_tup (pa_cons (pv 2) (pa_cons (pe_op op_sub (pe_op op_sub (pv 3) pe_int) (pv 1)) pa_nil)))) pa_nil)))), ?_⟩
    refine ⟨_, rfl, y, cY K, dx, _, _, rfl, h1, T.cl, T.nH, lk_heights ht, ht, _, rfl, SqT.of h2, fun D nD => ?_⟩
    refine lc_it walk_enumT (PvG H D fun i acc H' => HasAll H' acc ((layerN (hs.take i) c).map dPl)) (PvG.zero nD .nil) (fun i H' _ p => SqT.of (p.1 _ _ h2)) ?_ ?_
    · rintro i x H1 H2 hi ⟨p, acc, hD, la, ha⟩ ⟨t, v1, v2, rfl, nt, rfl, e1, e2⟩
      cases e1
      obtain ⟨n, hn, rfl⟩ := vi_get e2
      have hi2 : i < hs.length := get_lt hn
      have h12 := ho.hi
      refine ⟨t, _, rfl, SqT.of upd_same, rfl, _, _, rfl, _, _, rfl, rfl, rfl, ?_⟩
      refine ⟨_, rfl, _, rfl, _, _, rfl, rfl, _, rfl, ?_⟩
      have st : layerN (hs.take (i + 1)) c = layerN (hs.take i) c ++ (if c < n then [(i, n - 1 - c)] else []) := cat_take _ hn
      by_cases hc : c < n
      · rw [decide_eq_true (show (c : Int) < (n : Int) by omega)]
        refine iteT ⟨_, rfl, _, rfl, _, _, rfl, rfl, _, rfl, _, _, rfl, rfl, (by show 2 ≤ sizeLine; decide), fun q nq => ?_⟩
        have sq : Same H1 (upd (upd H1 t (.tup [.int (i : Int), .int (n : Int)])) q (.tup [.int (i : Int), .int ((n : Int) - 1 - (c : Int))])) := (same_upd nt).trans (same_upd nq)
        refine PvG.add nD p hD la (by omega) sq ?_
        have hD2 := sq _ _ hD
        have tk := (TupK.same sq).trans (tupK_lst (ys := acc ++ [.ref q]) hD2)
        rw [st, if_pos hc, List.map_append]
        refine (HasAll.to tk ha).app (.one ?_)
        refine Has.to (tupK_lst hD2) (has_pl (s := i) (l := n - 1 - c) ?_)
        rw [upd_same, show ((n - 1 - c : Nat) : Int) = (n : Int) - 1 - (c : Int) by omega]
      · rw [decide_eq_false (show ¬ (c : Int) < (n : Int) by omega)]
        refine iteF (PvG.skip p hD la (same_upd nt) ?_)
        rw [st, if_neg hc, List.append_nil]
        exact HasAll.to (tupK_new nt) ha
    · rintro H1 ⟨p, acc, hD, la, ha⟩
      refine ⟨D, acc, rfl, .inl ⟨SqL.of hD, fun l nl => k _ l (p.trans (same_upd nl)) ?_⟩⟩
      rw [vi_len, List.take_length] at ha
      exact .tup upd_same (HasAll.to (tupK_new nl) ha)
theorem bd_layer (T : Txt K mg) : L2.Binds K (fdOf K (He.ga K "layer")) ["yard", "cover"] [] := T.F_layer.bindsN fun _ _ _ _ _ _ us hl => match us, hl with | [_, _], _ => rfl
theorem kw_layer (T : Txt K mg) : KwB (fdOf K (He.ga K "layer")) ["yard", "cover"] := FunD.kwN T.F_layer fun _ _ _ _ _ _ us hl => match us, hl with | [_, _], _ => rfl
/-! ### deep_row -/
def spDeepRow (K : PySem.W.Frag) : Sp := fun vs H Q E => ∃ (y : Addr) (hs : List Nat) (b : Int), vs = [.ref y, .int b] ∧ YardAt K H y hs ∧ (¬ (0 ≤ b ∧ b ≤ ((hs.sum : Nat) : Int)) → Bad K "boxes" H E) ∧
  ∀ (n : Nat), b = (n : Int) → n ≤ hs.sum → ∀ H' p, Same H H' → H' p = some (.tup (vi (rowN hs (hs.sum - n)))) → Q (.ref p) H'
theorem scDeepRow : FnScope ["yard", "boxes", "free", "height"] ["yard", "boxes"] (defScope sDeepRow) := ⟨rfl, rfl, rfl, by decide +kernel, rfl, by decide +kernel, by decide +kernel⟩
theorem ok_deep_row (T : Txt K mg) : FnOk PP w K mg base (L2.CX PP w) 5 (He.ga K "deep_row") (fdOf K (He.ga K "deep_row")) ["yard", "boxes"] (spDeepRow K) := by
  refine T.F_deep_row.ok scDeepRow (fun vs H Q E h => ?_) (fun cdv A outer s H vs Q E hr h => ?_)
  · obtain ⟨y, hs, b, rfl, _⟩ := h
    rfl
  · obtain ⟨y, hs, b, rfl, hy, k1, k2⟩ := h
    obtain ⟨ho, dx, ht, h1, h2⟩ := id hy
    refine ⟨_, pss_cons (ps_expr (pe_callP (E := E) (ok_need_number T) hr (by rfl) T.g_need_number T.F_need_number.kp (bd_need_number T) (passes_call (takes_of rfl rfl rfl rfl) fun _ _ _ _ z => z) (pa_cons (pv 1) (pa_cons (pe_op op_add (pe_callP (ok_places T) (hr.mono (by decide)) (by rfl) T.g_places T.F_places.kp (bd_places T) pass0 (pa_cons (pv 0) pa_nil)) pe_int) (pa_cons pe_str pa_nil)))))
      (pss_cons (ps_set (i := 2) scDeepRow.nd rfl (Or.inr rfl) (pe_op op_sub (pe_callP (ok_places T) (hr.mono (by decide)) (by rfl) T.g_places T.F_places.kp (bd_places T) pass0 (pa_cons (pv 0) pa_nil)) (pv 1)))
      (pss_one (ps_ret (pe_callTy call_tuple_of (by rfl) T.n_tuple (by decide +kernel) (pa_cons (pe_lc (own := [("height", 3)]) (g := gName 3) (tt := tYes) rfl scDeepRow.nd
        (pi_tup (pe_fld (pv 0) rfl)) (blkOk_by (N := ["yard", "boxes", "free", "height"]) (sc := defScope sDeepRow) (by decide +kernel))
        (fun _ _ _ _ _ => pg_name (i := 3) scDeepRow.nd rfl (Or.inl rfl)) (fun _ _ _ _ _ => pts_nil)
        (fun _ _ _ _ _ => pe_callB (call_max2 rfl) (by rfl) T.n_max (by decide +kernel) (pa_cons pe_int (pa_cons (pe_op op_sub (pv 3) (pv 2)) pa_nil)))) pa_nil))))), ?_⟩
    refine ⟨_, rfl, _, rfl, y, hs, rfl, hy, _, _, rfl, rfl, b, _, _, rfl, fun c => ?_, fun c => k1 (fun z => c ⟨z.1, by omega⟩)⟩
    obtain ⟨n, rfl⟩ : ∃ n : Nat, b = (n : Int) := ⟨b.toNat, by omega⟩
    have hn : n ≤ hs.sum := by omega
    refine ⟨_, rfl, y, hs, rfl, hy, _, rfl, _, _, rfl, rfl, ?_⟩
    refine ⟨_, rfl, y, cY K, dx, _, _, rfl, h1, T.cl, T.nH, lk_heights ht, ht, rfl, ⟨_, SqT.of h2⟩, fun D nD => ?_⟩
    refine lc_it walk_tup (PvG H D fun i acc _ => acc = vi (rowN (hs.take i) (hs.sum - n))) (PvG.zero nD rfl) (fun i H' _ p => SqT.of (p.1 _ _ h2)) ?_ ?_
    · rintro i x H1 H2 hi ⟨p, acc, hD, la, rfl⟩ ⟨rfl, e2⟩
      obtain ⟨m, hm, rfl⟩ := vi_get e2
      have hi2 : i < hs.length := get_lt hm
      have h12 := ho.hi
      refine ⟨rfl, _, rfl, _, rfl, _, _, rfl, rfl, _, _, rfl, ?_⟩
      refine PvG.add nD p hD la (by omega) (Same.refl _) ?_
      unfold rowN vi
      rw [take_more hm, List.map_append, List.map_append]
      refine congrArg _ ?_
      show [V.int _] = [V.int _]
      refine congrArg (fun z => [V.int z]) ?_
      dsimp only
      split <;> omega
    · rintro H1 ⟨p, acc, hD, la, rfl⟩
      refine ⟨D, _, rfl, .inl ⟨SqL.of hD, fun l nl => k2 n rfl hn _ l (p.trans (same_upd nl)) ?_⟩⟩
      rw [upd_same, vi_len, List.take_length]
theorem bd_deep_row (T : Txt K mg) : L2.Binds K (fdOf K (He.ga K "deep_row")) ["yard", "boxes"] [] := T.F_deep_row.bindsN fun _ _ _ _ _ _ us hl => match us, hl with | [_, _], _ => rfl
theorem kw_deep_row (T : Txt K mg) : KwB (fdOf K (He.ga K "deep_row")) ["yard", "boxes"] := FunD.kwN T.F_deep_row fun _ _ _ _ _ _ us hl => match us, hl with | [_, _], _ => rfl
end
end K3
set_option maxHeartbeats 6000000
/-! yards: deep_count, deep_places. -/
namespace K3
open PySem PySem.Spec PyProof.Rows L2
/-- the second clause's loop of a comprehension -/
def Inn (J1 : It) (g1 : TG) (tt1 : TT) (te : TE) (vs1 : List Nat) (D : Addr) (σ2 : L2.St) (Nx : Hp → Prop) (H4 : Hp) : Prop := ∃ W1 : Nat → Nat → Hp → Prop, (∃ m, W1 0 m H4) ∧ ∀ j k H, W1 j k H →
      (J1.stop j H ∧ Nx H) ∨ (J1.go j H ∧ ∃ Nx1 : Hp → Prop, (∀ H', Nx1 H' → ∃ k', k' < k ∧ W1 (j + 1) k' H') ∧ ∀ x H', J1.yld j H x H' → g1 x (wipe σ2 vs1) H' fun σ3 H5 => wipe σ3 vs1 = wipe σ2 vs1 ∧ tt1 σ3 H5 fun b H6 =>
        if b = true then te σ3 H6 fun y H7 => ∃ acc, H7 D = some (.lst acc) ∧ acc.length < sizeLine ∧ Nx1 (upd H7 D (.lst (acc ++ [y]))) else Nx1 H6)
theorem inn_it {J1 : It} {g1 : TG} {tt1 : TT} {te : TE} {vs1 : List Nat} {D : Addr} {σ2 : L2.St} {Nx : Hp → Prop} {H4 : Hp} {n : Nat} {G : Hp → Prop} {Y : Nat → Hp → V → Hp → Prop} (w : Walk J1 n G Y) (Pw : Nat → Hp → Prop) (h0 : Pw 0 H4) (hG : ∀ i H, i ≤ n → Pw i H → G H)
    (hs : ∀ i x H H', i < n → Pw i H → Y i H x H' → g1 x (wipe σ2 vs1) H' fun σ3 H5 => wipe σ3 vs1 = wipe σ2 vs1 ∧ tt1 σ3 H5 fun b H6 =>
      if b = true then te σ3 H6 fun y H7 => ∃ acc, H7 D = some (.lst acc) ∧ acc.length < sizeLine ∧ Pw (i + 1) (upd H7 D (.lst (acc ++ [y]))) else Pw (i + 1) H6) (hd : ∀ H, Pw n H → Nx H) : Inn J1 g1 tt1 te vs1 D σ2 Nx H4 := by
  refine ⟨fun i m H => m = n - i ∧ i ≤ n ∧ Pw i H, ⟨n, by simp, Nat.zero_le _, h0⟩, ?_⟩
  rintro i m H ⟨rfl, hi, p⟩
  have q := hG i H hi p
  by_cases hlt : i < n
  · exact .inr ⟨w.goes i H hlt q, Pw (i + 1), fun H' p' => ⟨n - (i + 1), by omega, rfl, hlt, p'⟩, fun x H' y => hs i x H H' hlt p (w.yields i H x H' hlt q y)⟩
  · have e : i = n := by omega
    subst e
    exact .inl ⟨w.stops H q, hd H p⟩
theorem lc2_it {J : It} {n : Nat} {G : Hp → Prop} {Y : Nat → Hp → V → Hp → Prop} (w : Walk J n G Y) {g g1 : TG} {tt tt1 : TT} {te : TE} {wi1 : TI} {vs vs1 : List Nat} {σ : L2.St} {H1 : Hp} {D : Addr} {Qd : Hp → Prop} (Pv : Nat → Hp → Prop) (h0 : Pv 0 (upd H1 D (.lst []))) (hG : ∀ i H, i ≤ n → Pv i H → G H)
    (hs : ∀ i x H H', i < n → Pv i H → Y i H x H' → g x (wipe σ vs) H' fun σ2 H2 => wipe σ2 vs = wipe σ vs ∧ tt σ2 H2 fun b H3 => if b = true then wi1 σ2 H3 fun J1 H4 => Inn J1 g1 tt1 te vs1 D σ2 (Pv (i + 1)) H4 else Pv (i + 1) H3) (hd : ∀ H, Pv n H → Qd H) :
    ∃ W : Nat → Nat → Hp → Prop, (∃ m, W 0 m (upd H1 D (.lst []))) ∧ ∀ i m H, W i m H →
      (J.stop i H ∧ Qd H) ∨ (J.go i H ∧ ∃ Nx : Hp → Prop, (∀ H', Nx H' → ∃ m', m' < m ∧ W (i + 1) m' H') ∧ ∀ x H', J.yld i H x H' → g x (wipe σ vs) H' fun σ2 H2 => wipe σ2 vs = wipe σ vs ∧ tt σ2 H2 fun b H3 =>
        if b = true then wi1 σ2 H3 fun J1 H4 => Inn J1 g1 tt1 te vs1 D σ2 Nx H4 else Nx H3) := by
  refine ⟨fun i m H => m = n - i ∧ i ≤ n ∧ Pv i H, ⟨n, by simp, Nat.zero_le _, h0⟩, ?_⟩
  rintro i m H ⟨rfl, hi, p⟩
  have q := hG i H hi p
  by_cases hlt : i < n
  · exact .inr ⟨w.goes i H hlt q, Pv (i + 1), fun H' p' => ⟨n - (i + 1), by omega, rfl, hlt, p'⟩, fun x H' y => hs i x H H' hlt p (w.yields i H x H' hlt q y)⟩
  · have e : i = n := by omega
    subst e
    exact .inl ⟨w.stops H q, hd H p⟩
section
variable {w : World} {K : PySem.W.Frag} {mg : Str → Option Value} {base : Heap}
/-! ### deep_count -/
def spDeepCount (K : PySem.W.Frag) : Sp := fun vs H Q E => ∃ (y : Addr) (hs : List Nat) (b : Int), vs = [.ref y, .int b] ∧ YardAt K H y hs ∧ (¬ (0 ≤ b ∧ b ≤ ((hs.sum : Nat) : Int)) → Bad K "boxes" H E) ∧
  ∀ (n : Nat), b = (n : Int) → n ≤ hs.sum → ∀ H', Same H H' → Q (.int (((rowN hs (hs.sum - n)).sum : Nat) : Int)) H'
theorem scDeepCount : FnScope ["yard", "boxes"] ["yard", "boxes"] (defScope sDeepCount) := ⟨rfl, rfl, rfl, by decide +kernel, rfl, by decide +kernel, by decide +kernel⟩
theorem ok_deep_count (T : Txt K mg) : FnOk PP w K mg base (L2.CX PP w) 6 (He.ga K "deep_count") (fdOf K (He.ga K "deep_count")) ["yard", "boxes"] (spDeepCount K) := by
  refine T.F_deep_count.ok scDeepCount (fun vs H Q E h => ?_) (fun cdv A outer s H vs Q E hr h => ?_)
  · obtain ⟨y, hs, b, rfl, _⟩ := h
    rfl
  · obtain ⟨y, hs, b, rfl, hy, k1, k2⟩ := h
    refine ⟨_, pss_one (ps_ret (pe_callB (cr_sumT rfl) (by rfl) T.n_sum (by decide +kernel) (pa_cons (pe_callP (E := E) (ok_deep_row T) hr (by rfl) T.g_deep_row T.F_deep_row.kp (bd_deep_row T) (passes_call (takes_of rfl rfl rfl rfl) fun _ _ _ _ z => z) (pa_cons (pv 0) (pa_cons (pv 1) pa_nil))) pa_nil))), ?_⟩
    refine ⟨_, rfl, _, rfl, y, hs, b, rfl, hy, k1, fun n e hn H' p s1 hp => ?_⟩
    exact ⟨p, _, rfl, SqT.of (by rw [← vi_ints]; exact hp), Qint (k2 n e hn H' s1) (sum_cast _)⟩
theorem bd_deep_count (T : Txt K mg) : L2.Binds K (fdOf K (He.ga K "deep_count")) ["yard", "boxes"] [] := T.F_deep_count.bindsN fun _ _ _ _ _ _ us hl => match us, hl with | [_, _], _ => rfl
theorem kw_deep_count (T : Txt K mg) : KwB (fdOf K (He.ga K "deep_count")) ["yard", "boxes"] := FunD.kwN T.F_deep_count fun _ _ _ _ _ _ us hl => match us, hl with | [_, _], _ => rfl
/-! ### deep_places -/
def spDeepPlaces (K : PySem.W.Frag) : Sp := fun vs H Q E => ∃ (y : Addr) (hs : List Nat) (b : Int), vs = [.ref y, .int b] ∧ YardAt K H y hs ∧ (¬ (0 ≤ b ∧ b ≤ ((hs.sum : Nat) : Int)) → Bad K "boxes" H E) ∧
  ∀ (n : Nat), b = (n : Int) → n ≤ hs.sum → ∀ H' p, Same H H' → Has H' (.ref p) (.tuple ((deepN hs (hs.sum - n)).map dPl)) → Q (.ref p) H'
theorem scDeepPlaces : FnScope ["yard", "boxes", "stack", "many", "level"] ["yard", "boxes"] (defScope sDeepPlaces) := ⟨rfl, rfl, rfl, by decide +kernel, rfl, by decide +kernel, by decide +kernel⟩
theorem ok_deep_places (T : Txt K mg) : FnOk PP w K mg base (L2.CX PP w) 6 (He.ga K "deep_places") (fdOf K (He.ga K "deep_places")) ["yard", "boxes"] (spDeepPlaces K) := by
  refine T.F_deep_places.ok scDeepPlaces (fun vs H Q E h => ?_) (fun cdv A outer s H vs Q E hr h => ?_)
  · obtain ⟨y, hs, b, rfl, _⟩ := h
    rfl
  · obtain ⟨y, hs, b, rfl, hy, k1, k2⟩ := h
    refine ⟨_, pss_one (ps_ret (pe_callTy call_tuple_of (by rfl) T.n_tuple (by decide +kernel) (pa_cons (pe_lc2 (own := [("stack", 2), ("many", 3), ("level", 4)]) (vs1 := [4]) (g := gTup K 2 (gCons (gName 2) (gCons (gName 3) gNil))) (tt := tYes) (g1 := gName 4) (tt1 := tYes) rfl scDeepPlaces.nd
      (pi_enumT (by rfl) T.n_enumerate (pa_cons (pe_callP (E := E) (ok_deep_row T) hr (by rfl) T.g_deep_row T.F_deep_row.kp (bd_deep_row T) (passes_call (takes_of rfl rfl rfl rfl) fun _ _ _ _ z => z) (pa_cons (pv 0) (pa_cons (pv 1) pa_nil))) pa_nil))
      (blkOk_by (N := ["yard", "boxes", "stack", "many", "level"]) (sc := defScope sDeepPlaces) (by decide +kernel)) (by decide)
      (fun _ _ _ _ _ => pg_tup rfl (pgs_cons (pg_name (i := 2) scDeepPlaces.nd rfl (Or.inl rfl)) (pgs_cons (pg_name (i := 3) scDeepPlaces.nd rfl (Or.inl rfl)) pgs_nil)))
      (fun _ _ _ _ _ => pts_nil)
      (fun _ _ _ _ _ => pi_range1 (by rfl) T.n_range (pa_cons (pv 3) pa_nil))
      (fun _ _ _ _ _ => pg_name (i := 4) scDeepPlaces.nd rfl (Or.inl rfl)) (fun _ _ _ _ _ => pts_nil)
      (fun _ _ _ _ _ => pe_tup (pa_cons (pv 2) (pa_cons (pv 4) pa_nil)))) pa_nil))), ?_⟩
    refine ⟨_, rfl, _, rfl, y, hs, b, rfl, hy, k1, fun n e hn H' p s1 hp => ?_⟩
    have hl : (vi (rowN hs (hs.sum - n))).length = hs.length := by rw [vi_len]; exact List.length_map ..
    refine ⟨p, _, rfl, SqT.of hp, fun D nD => ?_⟩
    have h12 := hy.1.hi
    refine lc2_it walk_enumT (fun i H1 => Same H' H1 ∧ ∃ acc, H1 D = some (.lst acc) ∧ acc.length ≤ 12 * i ∧ HasAll H1 acc ((deepN (hs.take i) (hs.sum - n)).map dPl)) ⟨same_upd nD, [], upd_same, Nat.le_refl _, .nil⟩ (fun i H1 _ p => SqT.of (p.1 _ _ hp)) ?_ ?_
    · rintro i x H1 H2 hi ⟨q1, acc, hD, la, ha⟩ ⟨t, v1, v2, rfl, nt, rfl, e1, e2⟩
      cases e1
      obtain ⟨r, hr0, rfl⟩ := vi_get e2
      obtain ⟨m, hm, rfl⟩ : ∃ m, hs[i]? = some m ∧ r = m - (hs.sum - n) := by
        unfold rowN at hr0
        rw [List.getElem?_map] at hr0
        cases e3 : hs[i]? with
        | none =>
          rw [e3] at hr0
          cases hr0
        | some m =>
          rw [e3] at hr0
          exact ⟨m, rfl, (Option.some.inj hr0).symm⟩
      have hm12 := (hy.1.each m (get_mem hm)).2
      have hi2 : i < hs.length := get_lt hm
      refine ⟨t, _, rfl, SqT.of upd_same, rfl, _, _, rfl, _, _, rfl, rfl, rfl, ?_⟩
      refine ⟨_, rfl, _, rfl, by omega, by omega, ?_⟩
      have st : deepN (hs.take (i + 1)) (hs.sum - n) = deepN (hs.take i) (hs.sum - n) ++ (List.range (m - (hs.sum - n))).map fun l => (i, l) := cat_take _ hm
      have hnat : ((m - (hs.sum - n) : Nat) : Int).toNat = m - (hs.sum - n) := Int.toNat_natCast _
      rw [hnat]
      refine inn_it walk_range (fun j H3 => Same H' H3 ∧ ∃ acc, H3 D = some (.lst acc) ∧ acc.length ≤ 12 * i + j ∧ HasAll H3 acc ((deepN (hs.take i) (hs.sum - n) ++ (List.range j).map fun l => (i, l)).map dPl)) ?_ (fun _ _ _ _ => trivial) ?_ ?_
      · refine ⟨q1.trans (same_upd nt), acc, same_upd nt _ _ hD, la, ?_⟩
        rw [List.range_zero, List.map_nil, List.append_nil]
        exact HasAll.to (tupK_new nt) ha
      · rintro j x H3 H4 hj ⟨q2, acc2, hD2, la2, ha2⟩ ⟨rfl, rfl⟩
        refine ⟨rfl, _, rfl, _, rfl, (by show 2 ≤ sizeLine; decide), fun u nu => ?_⟩
        have su := same_upd (o := .tup [.int (i : Int), .int (0 + (j : Int))]) nu
        have hD3 := su _ _ hD2
        refine ⟨acc2, hD3, Nat.lt_of_le_of_lt la2 (Nat.lt_of_lt_of_le (show 12 * i + j < 1000 by omega) (by decide)), fun b o e => ?_, _, upd_same, by rw [List.length_append, List.length_singleton]; omega, ?_⟩
        · rw [upd_ne (ne_of_none e nD)]
          exact su _ _ (q2 _ _ e)
        · have ej : ((deepN (hs.take i) (hs.sum - n) ++ (List.range (j + 1)).map fun l => (i, l)).map dPl) = ((deepN (hs.take i) (hs.sum - n) ++ (List.range j).map fun l => (i, l)).map dPl) ++ [dPl (i, j)] := by
            simp [List.range_succ]
          rw [ej]
          refine (HasAll.to ((TupK.same su).trans (tupK_lst hD3)) ha2).app (.one ?_)
          refine Has.to (tupK_lst hD3) (has_pl (s := i) (l := j) ?_)
          rw [upd_same, Int.zero_add]
      · rintro H3 ⟨q2, acc2, hD2, la2, ha2⟩
        refine ⟨q2, acc2, hD2, by omega, ?_⟩
        rw [st]
        exact ha2
    · rintro H1 ⟨q1, acc, hD, la, ha⟩
      refine ⟨D, acc, rfl, .inl ⟨SqL.of hD, fun l nl => k2 n e hn _ l ((s1.trans q1).trans (same_upd nl)) ?_⟩⟩
      rw [hl, List.take_length] at ha
      exact .tup upd_same (HasAll.to (tupK_new nl) ha)
theorem bd_deep_places (T : Txt K mg) : L2.Binds K (fdOf K (He.ga K "deep_places")) ["yard", "boxes"] [] := T.F_deep_places.bindsN fun _ _ _ _ _ _ us hl => match us, hl with | [_, _], _ => rfl
theorem kw_deep_places (T : Txt K mg) : KwB (fdOf K (He.ga K "deep_places")) ["yard", "boxes"] := FunD.kwN T.F_deep_places fun _ _ _ _ _ _ us hl => match us, hl with | [_, _], _ => rfl
end
end K3
set_option maxHeartbeats 6000000
/-! standings. -/
namespace K3
open PySem PySem.Spec PyProof.Rows L2
def dRow (r : List Str) : PyData := .tuple (r.map PyData.str)
def dSt (rows : List (List Str)) : PyData := .tuple (rows.map dRow)
structure StOk (hs : List Nat) (rows : List (List Str)) : Prop where
  len : rows.length = hs.length
  fit : ∀ (i : Nat) (r : List Str) (h : Nat), rows[i]? = some r → hs[i]? = some h → r.length ≤ h
  nd : rows.flatten.Nodup
  ok : ∀ z ∈ rows.flatten, NameOk z
theorem split_at {α : Type} {l : List α} {i : Nat} {x : α} (h : l[i]? = some x) : l = l.take i ++ x :: l.drop (i + 1) := by
  obtain ⟨hi, e⟩ := List.getElem?_eq_some_iff.mp h
  rw [← e, List.getElem_cons_drop, List.take_append_drop]
theorem fresh_at {rows : List (List Str)} {i j : Nat} {r : List Str} {z : Str} (nd : rows.flatten.Nodup) (hi : rows[i]? = some r) (hj : r[j]? = some z) : z ∉ (rows.take i).flatten ++ r.take j := by
  have e1 := split_at hi
  have e2 := split_at hj
  have e3 : rows.flatten = ((rows.take i).flatten ++ r.take j) ++ (z :: (r.drop (j + 1) ++ (rows.drop (i + 1)).flatten)) := by
    calc rows.flatten = (rows.take i ++ r :: rows.drop (i + 1)).flatten := congrArg List.flatten e1
      _ = (rows.take i).flatten ++ (r ++ (rows.drop (i + 1)).flatten) := by rw [List.flatten_append, List.flatten_cons]
      _ = (rows.take i).flatten ++ ((r.take j ++ z :: r.drop (j + 1)) ++ (rows.drop (i + 1)).flatten) := by rw [← e2]
      _ = _ := by simp
  rw [e3] at nd
  intro hz
  exact (List.nodup_append.mp nd).2.2 z hz z List.mem_cons_self rfl
theorem hasStr_inv {H : Hp} {v : V} {z : Str} (h : Has H v (.str z)) : v = .str z := by
  cases h
  rfl
theorem row_inv {H : Hp} {v : V} {r : List Str} (h : Has H v (dRow r)) : ∃ p, v = .ref p ∧ H p = some (.tup (r.map V.str)) := by
  unfold dRow at h
  cases h with
  | tup h1 h2 =>
    rename_i a xs
    refine ⟨a, rfl, ?_⟩
    have e : xs = r.map V.str := by
      clear h1
      induction r generalizing xs with
      | nil =>
        cases h2
        rfl
      | cons z r ih =>
        cases h2 with
        | cons q1 q2 =>
          rw [hasStr_inv q1, ih q2]
          rfl
    rw [← e]
    exact h1
theorem st_inv {H : Hp} {v : V} {rows : List (List Str)} (h : Has H v (dSt rows)) : ∃ p xs, v = .ref p ∧ H p = some (.tup xs) ∧ HasAll H xs (rows.map dRow) := by
  unfold dSt at h
  cases h with
  | tup h1 h2 => exact ⟨_, _, rfl, h1, h2⟩
theorem row_at {H : Hp} {xs : List V} {rows : List (List Str)} {i : Nat} {v : V} (h : HasAll H xs (rows.map dRow)) (e : xs[i]? = some v) : ∃ r p, rows[i]? = some r ∧ v = .ref p ∧ H p = some (.tup (r.map V.str)) := by
  obtain ⟨d, h1, h2⟩ := h.get e
  rw [List.getElem?_map] at h1
  cases q : rows[i]? with
  | none =>
    rw [q] at h1
    cases h1
  | some r =>
    rw [q] at h1
    have e2 : dRow r = d := Option.some.inj h1
    rw [← e2] at h2
    obtain ⟨p, e3, e4⟩ := row_inv h2
    exact ⟨r, p, rfl, e3, e4⟩
theorem strs_at {r : List Str} {j : Nat} {v : V} (h : (r.map V.str)[j]? = some v) : ∃ z, r[j]? = some z ∧ v = .str z := by
  rw [List.getElem?_map] at h
  cases e : r[j]? with
  | none =>
    rw [e] at h
    cases h
  | some z =>
    rw [e] at h
    exact ⟨z, rfl, (Option.some.inj h).symm⟩
section
variable {w : World} {K : PySem.W.Frag} {mg : Str → Option Value} {base : Heap}
/-! ### need_standing -/
def spNeedSt (K : PySem.W.Frag) : Sp := fun vs H Q _ => ∃ (y : Addr) (hs : List Nat) (v : V) (rows : List (List Str)), vs = [.ref y, v] ∧ YardAt K H y hs ∧ Has H v (dSt rows) ∧ StOk hs rows ∧ ∀ H', Same H H' → Q .non H'
theorem scNeedSt : FnScope ["yard", "value", "seen", "stack", "row", "box"] ["yard", "value"] (defScope sNeedStanding) := ⟨rfl, rfl, rfl, by decide +kernel, rfl, by decide +kernel, by decide +kernel⟩
theorem ok_need_standing (T : Txt K mg) : FnOk PP w K mg base CX0 3 (He.ga K "need_standing") (fdOf K (He.ga K "need_standing")) ["yard", "value"] (spNeedSt K) := by
  refine T.F_need_standing.ok scNeedSt (fun vs H Q E h => ?_) (fun cdv A outer s H vs Q E hr h => ?_)
  · obtain ⟨y, hs, v, rows, rfl, _⟩ := h
    rfl
  · obtain ⟨y, hs, v, rows, rfl, hy, hst, so, k⟩ := h
    obtain ⟨ho, dx, ht, h1, h2⟩ := id hy
    obtain ⟨p, xs, rfl, hp, hall⟩ := st_inv hst
    have hlen : xs.length = hs.length := by rw [hall.length, List.length_map, so.len]
    have hu := hu_of hr
    refine ⟨_, PSs.nox (pss_cons (ps_if (PW.pt (pw_or (pt_not (pt_val (pe_callB call_isi (by rfl) T.n_isinstance (by decide +kernel) (pa_cons (pv 1) (pa_cons (pe_bltn (v := .ty "tuple") (by rfl) T.n_tuple (by decide +kernel) rfl) pa_nil)))))
        (pw_or1 (pt_cmpR op_ne (pe_callB call_len (by rfl) T.n_len (by decide +kernel) (pa_cons (pv 1) pa_nil)) (pe_callB call_len (by rfl) T.n_len (by decide +kernel) (pa_cons (pe_fld (pv 0) rfl) pa_nil)) (nomark _))))) (pss_one ps_never) pss_nil)
      (pss_cons (ps_set (i := 2) scNeedSt.nd rfl (Or.inl rfl) pe_dnewK)
      (pss_one (ps_for PassesOwn.never rfl (pi_enumT (by rfl) T.n_enumerate (pa_cons (pv 1) pa_nil)) (pg_tup rfl (pgs_cons (pg_name (i := 3) scNeedSt.nd rfl (Or.inl rfl)) (pgs_cons (pg_name (i := 4) scNeedSt.nd rfl (Or.inl rfl)) pgs_nil)))
        (pss_cons (ps_if (PW.pt (pw_or (pt_not (pt_val (pe_callB call_isi (by rfl) T.n_isinstance (by decide +kernel) (pa_cons (pv 4) (pa_cons (pe_bltn (v := .ty "tuple") (by rfl) T.n_tuple (by decide +kernel) rfl) pa_nil)))))
            (pw_or1 (pt_cmpR op_gt (pe_callB call_len (by rfl) T.n_len (by decide +kernel) (pa_cons (pv 4) pa_nil)) (pe_ix ix_tup (pe_fld (pv 0) rfl) (pv 3) (fun _ _ => rfl)) (nomark _))))) (pss_one ps_never) pss_nil)
        (pss_one (ps_for PassesOwn.never rfl (pi_tup (pv 4)) (pg_name (i := 5) scNeedSt.nd rfl (Or.inl rfl))
          (pss_cons (ps_if (PW.pt (pw_or (pt_not (pt_val (pe_callP (ok_is_name T) hr (by rfl) T.g_is_name T.F_is_name.kp (bd_is_name T) pass0 (pa_cons (pv 5) pa_nil))))
            (pw_or1 (pt_cmp (pc_din hu (pv 5) (pv 2)))))) (pss_one ps_never) pss_nil)
          (pss_one (ps_dput hu (pv 2) (pv 5) pe_bl rfl)))))))))), ?_⟩
    refine ⟨_, rfl, _, _, _, _, _, rfl, .ty _, .base (.tup hp), kit_ty (by decide +kernel), true, rfl, iteF ?_⟩
    refine ⟨_, rfl, _, xs.length, rfl, .inr ⟨_, SqT.of hp, rfl⟩, _, rfl, y, cY K, dx, _, _, rfl, h1, T.cl, T.nH, lk_heights ht, _, (vi hs).length, rfl, .inr ⟨_, SqT.of h2, rfl⟩, rfl, _, rfl, ?_⟩
    rw [vi_len, hlen]
    refine iteNS rfl ?_
    intro d nd
    have s0 := same_upd (o := .dK []) nd
    refine ⟨_, rfl, p, xs, rfl, SqT.of (s0 _ _ hp), for_it walk_enumT (fun i σ H' => ∃ (o3 o4 o5 : Option V) (kvs : List (Key × V)), σ = [some (.ref y), some (.ref p), some (.ref d), o3, o4, o5] ∧ Same H H' ∧ H' d = some (.dK kvs) ∧ kvs.length ≤ 12 * i ∧
      ∀ z : Str, (valV kvs (.inr z)).isSome = true → z ∈ (rows.take i).flatten) ⟨none, none, none, [], rfl, s0, upd_same, Nat.zero_le _, fun z hz => by cases hz⟩ (fun i σ H' _ ⟨_, _, _, _, _, s1, _⟩ => SqT.of (s1 _ _ hp)) ?_ ?_⟩
    · rintro i x σ H1 H2 hi ⟨o3, o4, o5, kvs, rfl, s1, hd, lk, hk⟩ ⟨t, v1, v2, rfl, nt, rfl, e1, e2⟩
      cases e1
      have st := same_upd (o := .tup [.int (i : Int), v2]) nt
      obtain ⟨r, q, hr1, rfl, hq⟩ := row_at hall e2
      have hi2 : i < hs.length := by rw [← hlen]; exact hi
      obtain ⟨m, hm⟩ : ∃ m, hs[i]? = some m := ⟨hs[i], List.getElem?_eq_getElem hi2⟩
      have hfit := so.fit i r m hr1 hm
      have hm12 := (ho.each m (get_mem hm)).2
      have h12 := ho.hi
      have s2 := s1.trans st
      refine ⟨t, _, rfl, SqT.of upd_same, rfl, _, _, rfl, _, _, rfl, rfl, ?_⟩
      refine ⟨_, rfl, _, _, _, _, _, rfl, .ty _, .base (.tup (s2 _ _ hq)), kit_ty (by decide +kernel), true, rfl, iteF ?_⟩
      refine ⟨_, rfl, _, (r.map V.str).length, rfl, .inr ⟨_, SqT.of (s2 _ _ hq), rfl⟩, _, rfl, y, cY K, dx, _, _, rfl, s2 _ _ h1, T.cl, T.nH, lk_heights ht, _, rfl, ht, _, _, _, rfl, rfl, SqT.of (s2 _ _ h2), atI_nat (vi_at hm), _, _, rfl, rfl, _, rfl, ?_⟩
      rw [decide_eq_false (show ¬ (m : Int) < (((r.map V.str).length : Nat) : Int) by rw [List.length_map]; omega)]
      refine iteF ?_
      refine ⟨_, rfl, q, rfl, ⟨_, SqT.of (s2 _ _ hq)⟩, ?_⟩
      refine for_it walk_tup (fun j σ H' => ∃ (o5 : Option V) (kvs : List (Key × V)), σ = [some (.ref y), some (.ref p), some (.ref d), some (.int (i : Int)), some (.ref q), o5] ∧ Same H H' ∧ H' d = some (.dK kvs) ∧ kvs.length ≤ 12 * i + j ∧
        ∀ z : Str, (valV kvs (.inr z)).isSome = true → z ∈ (rows.take i).flatten ++ r.take j) ⟨_, kvs, rfl, s2, st _ _ hd, lk, fun z hz => by rw [List.take_zero, List.append_nil]; exact hk z hz⟩ (fun j σ H' _ ⟨_, _, _, s3, _⟩ => SqT.of (s3 _ _ hq)) ?_ ?_
      · rintro j x σ H3 H4 hj ⟨o5, kvs3, rfl, s3, hd3, lk3, hk3⟩ ⟨rfl, e3⟩
        obtain ⟨z, hz, rfl⟩ := strs_at e3
        have hj2 : j < r.length := get_lt hz
        refine ⟨_, rfl, z, rfl, so.ok z (by
          rw [split_at hr1]
          simp only [List.flatten_append, List.flatten_cons, List.mem_append]
          exact .inr (.inl (get_mem hz))), fun H5 s5 => ⟨_, rfl, iteF ?_⟩⟩
        have hd5 := s5 _ _ hd3
        have hno : valV kvs3 (.inr z) = none := by
          cases e : valV kvs3 (.inr z) with
          | none => rfl
          | some v => exact absurd (hk3 z (by rw [e]; rfl)) (fresh_at so.nd hr1 hz)
        refine ⟨_, rfl, _, rfl, d, _, rfl, DGet.k (k := Sum.inr z) hd5, _, rfl, ?_⟩
        rw [hno]
        refine iteF ?_
        refine ⟨_, rfl, _, rfl, d, _, rfl, DPut.k (k := Sum.inr z) hd5 (Nat.lt_of_le_of_lt lk3 (Nat.lt_of_lt_of_le (show 12 * i + j < 1000 by omega) (by decide))), ?_⟩
        refine ⟨_, _, rfl, fun b o e => ?_, upd_same, ?_, fun u hu' => ?_⟩
        · rw [upd_ne (ne_of_none e nd)]
          exact s5 _ _ (s3 _ _ e)
        · have := length_putK kvs3 (Sum.inr z) (V.bl true)
          omega
        · rw [valV_put] at hu'
          rw [take_more hz, ← List.append_assoc]
          by_cases eu : (Sum.inr u : Key) = Sum.inr z
          · rw [Sum.inr.inj eu]
            exact List.mem_append_right _ List.mem_cons_self
          · rw [if_neg eu] at hu'
            exact List.mem_append_left _ (hk3 u hu')
      · rintro σ H3 ⟨o5, kvs3, rfl, s3, hd3, lk3, hk3⟩
        refine ⟨_, _, _, kvs3, rfl, s3, hd3, ?_, fun z hz => ?_⟩
        · rw [List.length_map] at lk3
          omega
        · rw [take_more hr1, List.flatten_append, List.flatten_singleton]
          have := hk3 z hz
          rw [List.length_map, List.take_length] at this
          exact this
    · rintro σ H1 ⟨o3, o4, o5, kvs, rfl, s1, hd, lk, hk⟩
      exact k _ s1
theorem bd_need_standing (T : Txt K mg) : L2.Binds K (fdOf K (He.ga K "need_standing")) ["yard", "value"] [] := T.F_need_standing.bindsN fun _ _ _ _ _ _ us hl => match us, hl with | [_, _], _ => rfl
end
end K3
set_option maxHeartbeats 6000000
/-! standings: free_places, deep_boxes. -/
namespace K3
open PySem PySem.Spec PyProof.Rows L2
theorem mem_cat {α : Type} {F : Nat → Nat → List α} {hs : List Nat} {x : α} : x ∈ cat F hs ↔ ∃ s h, hs[s]? = some h ∧ x ∈ F s h := by
  unfold cat
  rw [List.mem_flatMap]
  constructor
  · rintro ⟨⟨h, s⟩, hm, hx⟩
    exact ⟨s, h, List.mem_zipIdx_iff_getElem?.mp hm, hx⟩
  · rintro ⟨s, h, e, hx⟩
    exact ⟨(h, s), List.mem_zipIdx_iff_getElem?.mpr e, hx⟩
theorem mem_deep {hs : List Nat} {f : Nat} {p : Nat × Nat} : p ∈ deepN hs f ↔ ∃ h, hs[p.1]? = some h ∧ p.2 < h - f := by
  unfold deepN
  rw [mem_cat]
  constructor
  · rintro ⟨s, h, e, hx⟩
    obtain ⟨l, hl, rfl⟩ := List.mem_map.mp hx
    exact ⟨h, e, List.mem_range.mp hl⟩
  · rintro ⟨h, e, hl⟩
    exact ⟨p.1, h, e, List.mem_map.mpr ⟨p.2, List.mem_range.mpr hl, rfl⟩⟩
theorem sum_but : ∀ {ls hs : List Nat} {s a h : Nat}, ls.length = hs.length → (∀ (i a b : Nat), ls[i]? = some a → hs[i]? = some b → a ≤ b) → ls[s]? = some a → hs[s]? = some h → ls.sum + h ≤ hs.sum + a
  | [], _, s, a, h, _, _, e, _ => by simp at e
  | _ :: _, [], _, _, _, l, _, _, _ => by simp at l
  | x :: ls, y :: hs, 0, a, h, l, le, e1, e2 => by
    have e1 : x = a := by simpa using e1
    have e2 : y = h := by simpa using e2
    subst e1 e2
    have key : ∀ {ls hs : List Nat}, ls.length = hs.length → (∀ (i a b : Nat), ls[i]? = some a → hs[i]? = some b → a ≤ b) → ls.sum ≤ hs.sum := by
      intro ls
      induction ls with
      | nil => intros; exact Nat.zero_le _
      | cons x ls ih =>
        intro hs l le
        cases hs with
        | nil => simp at l
        | cons y hs =>
          have h1 := le 0 x y rfl rfl
          have h2 := ih (hs := hs) (by simpa using l) fun i a b p q => le (i + 1) a b (by simpa using p) (by simpa using q)
          rw [List.sum_cons, List.sum_cons]
          omega
    have := key (ls := ls) (hs := hs) (by simpa using l) fun i a b p q => le (i + 1) a b (by simpa using p) (by simpa using q)
    rw [List.sum_cons, List.sum_cons]
    omega
  | x :: ls, y :: hs, s + 1, a, h, l, le, e1, e2 => by
    have h0 := le 0 x y rfl rfl
    have := sum_but (ls := ls) (hs := hs) (s := s) (a := a) (h := h) (by simpa using l) (fun i a b p q => le (i + 1) a b (by simpa using p) (by simpa using q)) (by simpa using e1) (by simpa using e2)
    rw [List.sum_cons, List.sum_cons]
    omega
def boxesN (rows : List (List Str)) : Nat := (rows.map List.length).sum
theorem StOk.le {hs : List Nat} {rows : List (List Str)} (so : StOk hs rows) : ∀ (i a b : Nat), (rows.map List.length)[i]? = some a → hs[i]? = some b → a ≤ b := by
  intro i a b e1 e2
  rw [List.getElem?_map] at e1
  cases q : rows[i]? with
  | none =>
    rw [q] at e1
    cases e1
  | some r =>
    rw [q] at e1
    have e3 : r.length = a := Option.some.inj e1
    rw [← e3]
    exact so.fit i r b q e2
theorem StOk.boxes_le {hs : List Nat} {rows : List (List Str)} (so : StOk hs rows) (h0 : 0 < hs.length) : boxesN rows ≤ hs.sum := by
  have hr : 0 < rows.length := by rw [so.len]; exact h0
  have e1 : (rows.map List.length)[0]? = some (rows[0]).length := by
    rw [List.getElem?_map, List.getElem?_eq_getElem hr]
    rfl
  have e2 : hs[0]? = some hs[0] := List.getElem?_eq_getElem h0
  have h1 := sum_but (by rw [List.length_map, so.len]) so.le e1 e2
  have h2 := so.le 0 _ _ e1 e2
  unfold boxesN
  omega
/-- however the boxes lie, no deep place is empty -/
theorem StOk.filled {hs : List Nat} {rows : List (List Str)} (so : StOk hs rows) {p : Nat × Nat} (hp : p ∈ deepN hs (hs.sum - boxesN rows)) : ∃ r z, rows[p.1]? = some r ∧ r[p.2]? = some z := by
  obtain ⟨h, e, hl⟩ := mem_deep.mp hp
  have hlt : p.1 < rows.length := by rw [so.len]; exact get_lt e
  have hr : rows[p.1]? = some rows[p.1] := List.getElem?_eq_getElem hlt
  have e1 : (rows.map List.length)[p.1]? = some (rows[p.1]).length := by
    rw [List.getElem?_map, hr]
    rfl
  have h1 := sum_but (by rw [List.length_map, so.len]) so.le e1 e
  have h2 : p.2 < (rows[p.1]).length := by
    unfold boxesN at hl
    omega
  exact ⟨_, _, hr, List.getElem?_eq_getElem h2⟩
def atN (rows : List (List Str)) (p : Nat × Nat) : Str := (rows.getD p.1 []).getD p.2 Str.empty
theorem atN_eq {rows : List (List Str)} {p : Nat × Nat} {r : List Str} {z : Str} (h1 : rows[p.1]? = some r) (h2 : r[p.2]? = some z) : atN rows p = z := by
  unfold atN
  have e : rows.getD p.1 [] = r := by rw [List.getD_eq_getElem?_getD, h1, Option.getD_some]
  rw [e, List.getD_eq_getElem?_getD, h2, Option.getD_some]
def dBox (rows : List (List Str)) (p : Nat × Nat) : PyData := .tuple [dPl p, .str (atN rows p)]
theorem pl_inv {H : Hp} {v : V} {p : Nat × Nat} (h : Has H v (dPl p)) : ∃ t, v = .ref t ∧ H t = some (.tup [.int (p.1 : Int), .int (p.2 : Int)]) := by
  unfold dPl at h
  cases h with
  | tup h1 h2 =>
    cases h2 with
    | cons a b =>
      cases b with
      | cons c d =>
        cases d
        cases a
        cases c
        exact ⟨_, rfl, h1⟩
theorem tupl_inv {H : Hp} {v : V} {ds : List PyData} (h : Has H v (.tuple ds)) : ∃ p xs, v = .ref p ∧ H p = some (.tup xs) ∧ HasAll H xs ds := by
  cases h with
  | tup h1 h2 => exact ⟨_, _, rfl, h1, h2⟩
theorem hasMap_at {α : Type} {f : α → PyData} {H : Hp} {xs : List V} {l : List α} {i : Nat} {v : V} (h : HasAll H xs (l.map f)) (e : xs[i]? = some v) : ∃ x, l[i]? = some x ∧ Has H v (f x) := by
  obtain ⟨d, h1, h2⟩ := h.get e
  rw [List.getElem?_map] at h1
  cases q : l[i]? with
  | none =>
    rw [q] at h1
    cases h1
  | some r =>
    rw [q] at h1
    have e2 : f r = d := Option.some.inj h1
    rw [← e2] at h2
    exact ⟨r, rfl, h2⟩
theorem cat_len_le {α : Type} {F : Nat → Nat → List α} {b : Nat → Nat} (hb : ∀ s h, (F s h).length ≤ b h) : ∀ (hs : List Nat) (s : Nat), ((hs.zipIdx s).flatMap fun p => F p.2 p.1).length ≤ (hs.map b).sum
  | [], _ => Nat.le_refl _
  | h :: t, s => by
    have h1 := cat_len_le hb t (s + 1)
    have h2 := hb s h
    rw [List.zipIdx_cons, List.flatMap_cons, List.length_append, List.map_cons, List.sum_cons]
    dsimp only
    omega
theorem deep_len {hs : List Nat} (ho : HtOk hs) (f : Nat) : (deepN hs f).length ≤ 144 := by
  have h1 := cat_len_le (F := fun s h => (List.range (h - f)).map fun l => (s, l)) (b := fun h => h) (fun s h => by rw [List.length_map, List.length_range]; omega) hs 0
  have h2 := ho.tot
  rw [List.map_id'] at h1
  exact Nat.le_trans h1 h2
section
variable {w : World} {K : PySem.W.Frag} {mg : Str → Option Value} {base : Heap}
/-! ### free_places -/
def spFree (K : PySem.W.Frag) : Sp := fun vs H Q _ => ∃ (y : Addr) (hs : List Nat) (v : V) (rows : List (List Str)), vs = [.ref y, v] ∧ YardAt K H y hs ∧ Has H v (dSt rows) ∧ StOk hs rows ∧ ∀ H', Same H H' → Q (.int (((hs.sum : Nat) : Int) - ((boxesN rows : Nat) : Int))) H'
theorem scFree : FnScope ["yard", "standing", "row"] ["yard", "standing"] (defScope sFreePlaces) := ⟨rfl, rfl, rfl, by decide +kernel, rfl, by decide +kernel, by decide +kernel⟩
theorem ok_free_places (T : Txt K mg) : FnOk PP w K mg base CX0 4 (He.ga K "free_places") (fdOf K (He.ga K "free_places")) ["yard", "standing"] (spFree K) := by
  refine T.F_free_places.ok scFree (fun vs H Q E h => ?_) (fun cdv A outer s H vs Q E hr h => ?_)
  · obtain ⟨y, hs, v, rows, rfl, _⟩ := h
    rfl
  · obtain ⟨y, hs, v, rows, rfl, hy, hst, so, k⟩ := h
    refine ⟨_, PSs.nox (pss_cons (ps_expr (pe_callP (ok_need_standing T) hr (by rfl) T.g_need_standing T.F_need_standing.kp (bd_need_standing T) pass0 (pa_cons (pv 0) (pa_cons (pv 1) pa_nil))))
      (pss_one (ps_ret (pe_op op_sub (pe_callP (ok_places T) (hr.mono (by decide)) (by rfl) T.g_places T.F_places.kp (bd_places T) pass0 (pa_cons (pv 0) pa_nil))
        (pe_callB (cr_sum rfl) (by rfl) T.n_sum (by decide +kernel) (pa_cons (pe_lc (own := [("row", 2)]) (g := gName 2) (tt := tYes) (te := tCB (rLen K) (tCons (tVar 2) tNil)) rfl scFree.nd
          (pi_tup (pv 1)) (blkOk_by (N := ["yard", "standing", "row"]) (sc := defScope sFreePlaces) (by decide +kernel))
          (fun _ _ _ _ _ => pg_name (i := 2) scFree.nd rfl (Or.inl rfl)) (fun _ _ _ _ _ => pts_nil)
          (fun _ _ _ _ _ => pe_callB call_len (by rfl) T.n_len (by decide +kernel) (pa_cons (pv 2) pa_nil))) pa_nil)))))), ?_⟩
    refine ⟨_, rfl, _, rfl, y, hs, v, rows, rfl, hy, hst, so, fun H1 s1 => ?_⟩
    have hst1 := Has.to (TupK.same s1) hst
    obtain ⟨p, xs, rfl, hp, hall⟩ := st_inv hst1
    refine ⟨_, rfl, y, hs, rfl, hy.same s1, _, rfl, p, rfl, ⟨_, SqT.of hp⟩, fun D nD => ?_⟩
    have h12 := hy.1.hi
    have hlen : xs.length = hs.length := by rw [hall.length, List.length_map, so.len]
    refine lc_it walk_tup (PvG H1 D fun i acc _ => acc = vi ((rows.take i).map List.length)) (PvG.zero nD rfl) (fun i H' _ p => SqT.of (p.1 _ _ hp)) ?_ ?_
    · rintro i x H2 H3 hi ⟨q, acc, hD, la, rfl⟩ ⟨rfl, e2⟩
      obtain ⟨r, u, hr1, rfl, hu⟩ := row_at hall e2
      refine ⟨rfl, _, rfl, _, (r.map V.str).length, rfl, .inr ⟨_, SqT.of (q _ _ hu), rfl⟩, ?_⟩
      refine PvG.add nD q hD la (by omega) (Same.refl _) ?_
      unfold vi
      rw [take_more hr1, List.map_append, List.map_append, List.length_map]
      rfl
    · rintro H2 ⟨q, acc, hD, la, rfl⟩
      have e : xs.length = rows.length := by rw [hall.length, List.length_map]
      rw [e, List.take_length] at hD
      refine ⟨D, _, rfl, SqL.of (by rw [← vi_ints]; exact hD), _, _, rfl, rfl, Qint (k H2 (s1.trans q)) ?_⟩
      rw [sum_cast]
      rfl
theorem bd_free_places (T : Txt K mg) : L2.Binds K (fdOf K (He.ga K "free_places")) ["yard", "standing"] [] := T.F_free_places.bindsN fun _ _ _ _ _ _ us hl => match us, hl with | [_, _], _ => rfl
/-! ### deep_boxes -/
def spDeepBoxes (K : PySem.W.Frag) : Sp := fun vs H Q _ => ∃ (y : Addr) (hs : List Nat) (v : V) (rows : List (List Str)), vs = [.ref y, v] ∧ YardAt K H y hs ∧ Has H v (dSt rows) ∧ StOk hs rows ∧
  ∀ H' p, Same H H' → Has H' (.ref p) (.tuple ((deepN hs (hs.sum - boxesN rows)).map (dBox rows))) → Q (.ref p) H'
theorem scDeepBoxes : FnScope ["yard", "standing", "boxes", "stack", "level"] ["yard", "standing"] (defScope sDeepBoxes) := ⟨rfl, rfl, rfl, by decide +kernel, rfl, by decide +kernel, by decide +kernel⟩
theorem ok_deep_boxes (T : Txt K mg) : FnOk PP w K mg base CX0 7 (He.ga K "deep_boxes") (fdOf K (He.ga K "deep_boxes")) ["yard", "standing"] (spDeepBoxes K) := by
  refine T.F_deep_boxes.ok scDeepBoxes (fun vs H Q E h => ?_) (fun cdv A outer s H vs Q E hr h => ?_)
  · obtain ⟨y, hs, v, rows, rfl, _⟩ := h
    rfl
  · obtain ⟨y, hs, v, rows, rfl, hy, hst, so, k⟩ := h
    refine ⟨_, PSs.nox (pss_cons (ps_set (i := 2) scDeepBoxes.nd rfl (Or.inl rfl) (pe_op op_sub (pe_callP (ok_places T) (hr.mono (by decide)) (by rfl) T.g_places T.F_places.kp (bd_places T) pass0 (pa_cons (pv 0) pa_nil))
        (pe_callP (ok_free_places T) (hr.mono (by decide)) (by rfl) T.g_free_places T.F_free_places.kp (bd_free_places T) pass0 (pa_cons (pv 0) (pa_cons (pv 1) pa_nil)))))
      (pss_one (ps_ret (pe_callTy call_tuple_of (by rfl) T.n_tuple (by decide +kernel) (pa_cons (pe_lc (own := [("stack", 3), ("level", 4)]) (g := gTup K 2 (gCons (gName 3) (gCons (gName 4) gNil))) (tt := tYes) (te := tTup (tCons (tTup (tCons (tVar 3) (tCons (tVar 4) tNil))) (tCons (tOp (rIxT K) (tOp (rIxT K) (tVar 1) (tVar 3)) (tVar 4)) tNil))) rfl scDeepBoxes.nd
        (pi_tup (pe_callP (E := E0) (ok_deep_places T) hr (by rfl) T.g_deep_places T.F_deep_places.kp (bd_deep_places T) passL (pa_cons (pv 0) (pa_cons (pv 2) pa_nil))))
        (blkOk_by (N := ["yard", "standing", "boxes", "stack", "level"]) (sc := defScope sDeepBoxes) (by decide +kernel))
        (fun _ _ _ _ _ => pg_tup rfl (pgs_cons (pg_name (i := 3) scDeepBoxes.nd rfl (Or.inl rfl)) (pgs_cons (pg_name (i := 4) scDeepBoxes.nd rfl (Or.inl rfl)) pgs_nil)))
        (fun _ _ _ _ _ => pts_nil)
        (fun _ _ _ _ _ => pe_tup (pa_cons (pe_tup (pa_cons (pv 3) (pa_cons (pv 4) pa_nil))) (pa_cons (pe_ix ix_tup (pe_ix ix_tup (pv 1) (pv 3) (fun _ _ => rfl)) (pv 4) (fun _ _ => rfl)) pa_nil)))) pa_nil))))), ?_⟩
    have hb : boxesN rows ≤ hs.sum := so.boxes_le (by have := hy.1.lo; omega)
    have h144 := deep_len hy.1 (hs.sum - boxesN rows)
    refine ⟨_, rfl, y, hs, rfl, hy, _, rfl, _, rfl, y, hs, v, rows, rfl, hy, hst, so, fun H1 s1 => ⟨_, _, rfl, rfl, ?_⟩⟩
    refine ⟨_, rfl, _, rfl, y, hs, _, rfl, hy.same s1, fun c => (c ⟨by omega, by omega⟩).elim, fun n e hn H2 p2 s2 hh => ?_⟩
    have en : n = boxesN rows := by omega
    subst en
    obtain ⟨p, xs, ep, hp, hall⟩ := tupl_inv hh
    cases ep
    have hxl : xs.length = (deepN hs (hs.sum - boxesN rows)).length := by rw [hall.length, List.length_map]
    obtain ⟨q, qs, rfl, hq, hqs⟩ := st_inv (Has.to (TupK.same (s1.trans s2)) hst)
    refine ⟨p2, rfl, ⟨_, SqT.of hp⟩, fun D nD => ?_⟩
    refine lc_it walk_tup (PvG H2 D fun i acc H' => HasAll H' acc (((deepN hs (hs.sum - boxesN rows)).take i).map (dBox rows))) (PvG.zero nD .nil) (fun i H' _ z => SqT.of (z.1 _ _ hp)) ?_ ?_
    · rintro i x H3 H4 hi ⟨z, acc, hD, la, ha⟩ ⟨rfl, e2⟩
      obtain ⟨⟨s0, l0⟩, hp1, hp2⟩ := hasMap_at hall e2
      obtain ⟨t, rfl, ht⟩ := pl_inv hp2
      obtain ⟨r, b, hr1, hb1⟩ := so.filled (get_mem hp1)
      have hqr : ∃ u, qs[s0]? = some (V.ref u) ∧ H2 u = some (.tup (r.map V.str)) := by
        have hlt : s0 < qs.length := by
          rw [hqs.length, List.length_map]
          exact get_lt hr1
        obtain ⟨r', u, e3, e4, e5⟩ := row_at hqs (List.getElem?_eq_getElem hlt)
        rw [hr1] at e3
        cases e3
        exact ⟨u, by rw [List.getElem?_eq_getElem hlt, e4], e5⟩
      obtain ⟨u, hu1, hu2⟩ := hqr
      refine ⟨t, _, rfl, SqT.of (z _ _ ht), rfl, _, _, rfl, _, _, rfl, rfl, rfl, ?_⟩
      refine ⟨_, rfl, _, rfl, (by show 2 ≤ sizeLine; decide), fun p3 n3 => ?_⟩
      have s3 := same_upd (o := .tup [.int (s0 : Int), .int (l0 : Int)]) n3
      refine ⟨_, rfl, _, rfl, q, _, _, _, rfl, rfl, SqT.of (s3 _ _ (z _ _ hq)), atI_nat hu1, _, rfl, u, _, _, _, rfl, rfl, SqT.of (s3 _ _ (z _ _ hu2)), atI_nat (v := .str b) (by rw [List.getElem?_map]; rw [show r[l0]? = some b from hb1]; rfl), (by show 2 ≤ sizeLine; decide), fun p4 n4 => ?_⟩
      have s4 := same_upd (o := .tup [.ref p3, .str b]) n4
      have hD4 := s4 _ _ (s3 _ _ hD)
      refine PvG.add nD z hD la (by omega) (s3.trans s4) ?_
      rw [take_more hp1, List.map_append]
      refine (HasAll.to ((TupK.same (s3.trans s4)).trans (tupK_lst hD4)) ha).app (.one (Has.to (tupK_lst hD4) ?_))
      unfold dBox
      rw [atN_eq hr1 hb1]
      exact .tup upd_same (.cons (Has.to (TupK.same s4) (has_pl upd_same)) (.cons (.str _) .nil))
    · rintro H3 ⟨z, acc, hD, la, ha⟩
      refine ⟨D, acc, rfl, .inl ⟨SqL.of hD, fun l nl => k _ l ((s1.trans s2).trans (z.trans (same_upd nl))) ?_⟩⟩
      rw [hxl, List.take_length] at ha
      exact .tup upd_same (HasAll.to (tupK_new nl) ha)
theorem bd_deep_boxes (T : Txt K mg) : L2.Binds K (fdOf K (He.ga K "deep_boxes")) ["yard", "standing"] [] := T.F_deep_boxes.bindsN fun _ _ _ _ _ _ us hl => match us, hl with | [_, _], _ => rfl
theorem kw_deep_boxes (T : Txt K mg) : KwB (fdOf K (He.ga K "deep_boxes")) ["yard", "standing"] := FunD.kwN T.F_deep_boxes fun _ _ _ _ _ _ us hl => match us, hl with | [_, _], _ => rfl
end
end K3
set_option maxHeartbeats 6000000
/-! the law's draws. -/
namespace K3
open PySem PySem.Spec PyProof.Rows L2
theorem dpAll_ints {K : PySem.W.Frag} {H : Hp} : ∀ ns : List Int, DpAll K H (ns.map V.int) (ns.map PyData.int)
  | [] => .nil
  | n :: r => .cons (.int n) (dpAll_ints r)
theorem lay_ints : ∀ ns : List Int, PyData.canLayAll0 (ns.map PyData.int) = true
  | [] => by simp [PyData.canLayAll0]
  | n :: r => by simp [PyData.canLayAll0, PyData.canLay0, lay_ints r]
theorem dep_ints : ∀ ns : List Int, PyData.depthAll (ns.map PyData.int) ≤ 1
  | [] => by simp [PyData.depthAll]
  | n :: r => by
    have h := dep_ints r
    simp only [List.map_cons, PyData.depthAll, PyData.depth]
    omega
theorem shaped_of {d : PyData} (h1 : d.canLay0 = true) (h2 : d.depth ≤ 64) : SeqAt.shaped d = true := by
  show (d.canLay0 && decide (d.depth ≤ 64)) = true
  rw [h1, decide_eq_true h2]
  rfl
theorem shaped_ints (ns : List Int) : SeqAt.shaped (.list (ns.map PyData.int)) = true := by
  have h := dep_ints ns
  refine shaped_of (by simp only [PyData.canLay0]; exact lay_ints ns) ?_
  simp only [PyData.depth]
  omega
theorem eqv_nil (ds : List PyData) : PyData.eqv (.list ds) (.list []) = ds.isEmpty := by
  cases ds with
  | nil => simp [PyData.eqv, PyData.eqvAll]
  | cons d r => simp [PyData.eqv, PyData.eqvAll]
/-- what the draws come from: the list at q, its cells at c -/
def DHc (q c : Addr) (H : Hp) (cells : List Int) (stir : Int) : Prop := H q = some (.lst [.ref c, .int stir]) ∧ H c = some (.lst (cells.map V.int)) ∧ (∀ z ∈ cells, 0 ≤ z) ∧ cells.length ≤ 63 ∧ 0 ≤ stir ∧ stir < 2147483647
def DH (q c : Addr) (H : Hp) : Prop := q ≠ c ∧ ∃ cells stir, DHc q c H cells stir
/-- all but the draws' two lists is kept -/
def Keep (q c : Addr) (H H' : Hp) : Prop := ∀ b o, H b = some o → b ≠ q → b ≠ c → H' b = some o
theorem Keep.same {q c : Addr} {H H' : Hp} (s : Same H H') : Keep q c H H' := fun b o e _ _ => s b o e
theorem Keep.trans {q c : Addr} {H H1 H2 : Hp} (a : Keep q c H H1) (b : Keep q c H1 H2) : Keep q c H H2 := fun x o e n m => b x o (a x o e n m) n m
theorem DH.same {q c : Addr} {H H' : Hp} (d : DH q c H) (s : Same H H') : DH q c H' := by
  obtain ⟨n, cells, stir, h1, h2, r⟩ := d
  exact ⟨n, cells, stir, s _ _ h1, s _ _ h2, r⟩
theorem DH.ne {q c : Addr} {H : Hp} (d : DH q c H) {b : Addr} {o : HO} (h : H b = some o) (n1 : ∀ a z, o ≠ .lst [.ref a, .int z]) (n2 : ∀ ns : List Int, o ≠ .lst (ns.map V.int)) : b ≠ q ∧ b ≠ c := by
  obtain ⟨_, cells, stir, h1, h2, _⟩ := d
  exact ⟨ne_of h h1 (n1 _ _), ne_of h h2 (n2 _)⟩
theorem Keep.at {q c : Addr} {H H' : Hp} (k : Keep q c H H') (d : DH q c H) {b : Addr} {o : HO} (h : H b = some o) (n1 : ∀ a z, o ≠ .lst [.ref a, .int z]) (n2 : ∀ ns : List Int, o ≠ .lst (ns.map V.int)) : H' b = some o :=
  k b o h (d.ne h n1 n2).1 (d.ne h n1 n2).2
theorem Keep.tups {q c : Addr} {H H' : Hp} (k : Keep q c H H') (d : DH q c H) : TupK H H' := fun b xs e => k.at d e (fun _ _ z => by cases z) (fun _ z => by cases z)
theorem snoc_last {α : Type} {l : List α} (h : l ≠ []) : ∃ r x, l = r ++ [x] := ⟨l.dropLast, l.getLast h, (List.dropLast_concat_getLast h).symm⟩
section
variable {w : World} {K : PySem.W.Frag} {mg : Str → Option Value} {base : Heap}
/-! ### _law_draw -/
def spDraw : Sp := fun vs H Q _ => ∃ (q c : Addr) (m : Int), vs = [.ref q, .int m] ∧ DH q c H ∧ 1 ≤ m ∧ m < 1000000 ∧ ∀ H' r, Keep q c H H' → DH q c H' → 0 ≤ r → r < m → Q (.int r) H'
theorem scDraw : FnScope ["_law_heap_here", "_law_many_here", "_law_rest"] ["_law_heap_here", "_law_many_here"] (defScope sLDraw) := ⟨rfl, rfl, rfl, by decide +kernel, rfl, by decide +kernel, by decide +kernel⟩
theorem ok_draw (T : Txt K mg) : FnOk PP w K mg base CX0 1 (He.ga K "_law_draw") (fdOf K (He.ga K "_law_draw")) ["_law_heap_here", "_law_many_here"] spDraw := by
  refine T.F__law_draw.ok scDraw (fun vs H Q E h => ?_) (fun cdv A outer s H vs Q E hr h => ?_)
  · obtain ⟨q, c, m, rfl, _⟩ := h
    rfl
  · obtain ⟨q, c, m, rfl, ⟨nqc, cells, stir, hq, hc, c0, c63, s0, s1⟩, m1, m2, k⟩ := h
    have hu := hr.units
    obtain ⟨t2, hb2, rd⟩ : ∃ t2, PSs (cxOf CX0 PP w K mg base ["_law_heap_here", "_law_many_here", "_law_rest"] "_law_draw" (defScope sLDraw) (He.ga K "_law_draw") cdv A outer s H E).nox ((defBody sLDraw).drop 1) t2 ∧
        ∀ (o : Option V) (cs : List Int) (H2 : Hp), Keep q c H H2 → DHc q c H2 cs stir → t2 { nx := fun _ H' => Q .non H', rt := Q } [some (.ref q), some (.int m), o] H2 := by
      refine ⟨_, pss_cons (ps_if (pt_cmpR (op_neD hu) (pe_ix ix_list (pv 0) pe_int (fun _ _ => rfl)) (pe_lst pa_nil) (nomark _))
        (pss_cons (ps_set (i := 2) scDraw.nd rfl (Or.inl rfl) (pe_callTy call_int1 (by rfl) T.n_int (by decide +kernel) (pa_cons (pe_bm0 PySem.F.plainAttrs_list PySem.F.slot_list_pop PySem.F.type_list_pop mt_pop (pe_ix ix_list (pv 0) pe_int (fun _ _ => rfl))) pa_nil)))
        (pss_cons (ps_expr (pe_bm PySem.F.plainAttrs_list PySem.F.slot_list_append PySem.F.type_list_append mt_append (pe_ix ix_list (pv 0) pe_int (fun _ _ => rfl)) (pa_cons (pe_op op_fdiv (pv 2) (pv 1)) pa_nil)))
        (pss_one (ps_ret (pe_op op_mod (pv 2) (pv 1)))))) pss_nil)
      (pss_cons (ps_asg (pe_op op_mod (pe_callTy call_int1 (by rfl) T.n_int (by decide +kernel) (pa_cons (pe_op op_add (pe_op op_mul (pe_ix ix_list (pv 0) pe_int (fun _ _ => rfl)) pe_int) pe_int) pa_nil)) pe_int) (pg_sub (pv 0) pe_int set_list))
      (pss_one (ps_ret (pe_op op_mod (pe_callTy call_int1 (by rfl) T.n_int (by decide +kernel) (pa_cons (pe_op op_fdiv (pe_ix ix_list (pv 0) pe_int (fun _ _ => rfl)) pe_int) pa_nil)) (pv 1))))), ?_⟩
      intro o cs H1 kp ⟨hq1, hc1, d0, d63, _, _⟩
      refine ⟨_, rfl, q, _, _, _, rfl, rfl, SqL.of hq1, atI_nat (j := 0) rfl, Nat.zero_le _, fun p np => ?_⟩
      have sp := same_upd (o := .lst []) np
      have hq2 := sp _ _ hq1
      have hc2 := sp _ _ hc1
      refine ⟨.list (cs.map PyData.int), .list [], .lst (SqL.of hc2) (dpAll_ints cs), .lst (SqL.of upd_same) .nil, shaped_ints cs, shaped_ints [], _, rfl, ?_⟩
      rw [eqv_nil]
      by_cases hcs : cs = []
      · subst hcs
        refine iteF ?_
        refine ⟨_, rfl, q, _, _, _, rfl, rfl, SqL.of hq2, atI_nat (j := 1) rfl, _, _, rfl, rfl, .inl ⟨by omega, by omega⟩, _, _, rfl, rfl, .inl ⟨_, rfl, _, _, rfl, rfl, (by show (0 : Int) < 2147483647; decide), ?_⟩⟩
        refine ⟨_, rfl, q, _, _, 1, rfl, rfl, hq2, rfl, ?_⟩
        have hq3 : upd (upd H1 p (.lst [])) q (.lst [.ref c, .int ((stir * 48271 + 11) % 2147483647)]) q = some (.lst [.ref c, .int ((stir * 48271 + 11) % 2147483647)]) := upd_same
        refine ⟨_, rfl, q, _, _, _, rfl, rfl, SqL.of hq3, atI_nat (j := 1) rfl, _, _, rfl, rfl, ⟨by decide, by decide⟩, .inl ⟨_, rfl, _, rfl, _, _, rfl, rfl, by omega, ?_⟩⟩
        refine k _ _ (fun b u e n1 n2 => ?_) ⟨nqc, [], (stir * 48271 + 11) % 2147483647, upd_same, ?_, fun z hz => (nomatch hz), Nat.zero_le _, Int.emod_nonneg _ (by decide), Int.emod_lt_of_pos _ (by decide)⟩ (Int.emod_nonneg _ (by omega)) (Int.emod_lt_of_pos _ (by omega))
        · rw [upd_ne n1]
          exact sp _ _ (kp b u e n1 n2)
        · rw [upd_ne nqc.symm]
          exact hc2
      · obtain ⟨r, x, rfl⟩ := snoc_last hcs
        have ne0 : (r ++ [x]).isEmpty = false := by cases r <;> rfl
        have x0 : 0 ≤ x := d0 x (List.mem_append_right _ List.mem_cons_self)
        have hmap : (r ++ [x]).map V.int = r.map V.int ++ [V.int x] := by rw [List.map_append]; rfl
        rw [hmap] at hc2
        have hem : ((r ++ [x]).map PyData.int).isEmpty = false := by rw [List.map_append]; cases r <;> rfl
        rw [hem]
        refine iteT ?_
        have hlast : (r.map V.int ++ [V.int x])[(r.map V.int ++ [V.int x]).length - 1]? = some (.int x) := by simp
        refine ⟨_, rfl, q, _, _, _, rfl, rfl, SqL.of hq2, atI_nat (j := 0) rfl, .inl ⟨rfl, _, SqL.of hc2⟩, c, _, _, rfl, rfl, hc2, hlast, .inl ⟨_, rfl, ?_⟩⟩
        have hq3 : upd (upd H1 p (.lst [])) c (.lst (r.map V.int ++ [V.int x]).dropLast) q = some (.lst [.ref c, .int stir]) := by rw [upd_ne nqc]; exact hq2
        have hc3 : upd (upd H1 p (.lst [])) c (.lst (r.map V.int ++ [V.int x]).dropLast) c = some (.lst (r.map V.int)) := by rw [upd_same, List.dropLast_concat]
        refine ⟨_, rfl, q, _, _, _, rfl, rfl, SqL.of hq3, atI_nat (j := 0) rfl, .inl ⟨rfl, _, SqL.of hc3⟩, _, rfl, _, rfl, _, _, rfl, rfl, ⟨by omega, by omega⟩, c, _, _, rfl, rfl, hc3, ?_, ?_⟩
        · rw [List.length_map]
          rw [List.length_append, List.length_singleton] at d63
          exact Nat.lt_of_lt_of_le (show r.length < 64 by omega) (by decide)
        · refine ⟨_, rfl, _, rfl, _, _, rfl, rfl, by omega, ?_⟩
          refine k _ _ (fun b u e n1 n2 => ?_) ⟨nqc, r ++ [x / m], stir, ?_, ?_, fun z hz => ?_, ?_, s0, s1⟩ (Int.emod_nonneg _ (by omega)) (Int.emod_lt_of_pos _ (by omega))
          · rw [upd_ne n2, upd_ne n2]
            exact sp _ _ (kp b u e n1 n2)
          · rw [upd_ne nqc, upd_ne nqc]
            exact hq2
          · rw [upd_same, List.map_append]
            rfl
          · rcases List.mem_append.mp hz with h | h
            · exact d0 z (List.mem_append_left _ h)
            · rw [List.mem_singleton.mp h]
              exact Int.ediv_nonneg x0 (by omega)
          · rw [List.length_append, List.length_singleton] at d63 ⊢
            exact d63
    refine ⟨_, PSs.nox (pss_cons (ps_while PassesOwn.never (PW.pt (pw_and (pt_cmpR (op_neD hu) (pe_ix ix_list (pv 0) pe_int (fun _ _ => rfl)) (pe_lst pa_nil) (nomark _))
        (pw_and1 (pt_cmpR op_eq (pe_ix ix_list (pe_ix ix_list (pv 0) pe_int (fun _ _ => rfl)) (pe_un un_neg pe_int) (fun _ _ => rfl)) pe_int (nomark _)))))
        (pss_one (ps_expr (pe_bm0 PySem.F.plainAttrs_list PySem.F.slot_list_pop PySem.F.type_list_pop mt_pop (pe_ix ix_list (pv 0) pe_int (fun _ _ => rfl))))))
      hb2), ?_⟩
    refine ⟨fun n σ H' => ∃ (o : Option V) (cs : List Int), n = cs.length ∧ σ = [some (.ref q), some (.int m), o] ∧ Keep q c H H' ∧ DHc q c H' cs stir, ⟨_, none, cells, rfl, rfl, fun _ _ e _ _ => e, hq, hc, c0, c63, s0, s1⟩, ?_⟩
    rintro n σ H1 ⟨o, cs, rfl, rfl, kp, hq1, hc1, d0, d63, e0, e1⟩
    refine ⟨_, rfl, q, _, _, _, rfl, rfl, SqL.of hq1, atI_nat (j := 0) rfl, Nat.zero_le _, fun p np => ?_⟩
    have sp := same_upd (o := .lst []) np
    have hq2 := sp _ _ hq1
    have hc2 := sp _ _ hc1
    have kp2 : Keep q c H (upd H1 p (.lst [])) := kp.trans (.same sp)
    refine ⟨.list (cs.map PyData.int), .list [], .lst (SqL.of hc2) (dpAll_ints cs), .lst (SqL.of upd_same) .nil, shaped_ints cs, shaped_ints [], _, rfl, ?_⟩
    rw [eqv_nil]
    by_cases hcs : cs = []
    · subst hcs
      exact rd o [] _ kp2 ⟨hq2, hc2, d0, d63, e0, e1⟩
    · obtain ⟨r, x, rfl⟩ := snoc_last hcs
      have hmap : (r ++ [x]).map V.int = r.map V.int ++ [V.int x] := by rw [List.map_append]; rfl
      have hem : ((r ++ [x]).map PyData.int).isEmpty = false := by rw [List.map_append]; cases r <;> rfl
      rw [hem]
      have hc2' := hc2
      rw [hmap] at hc2'
      refine iteT ?_
      refine ⟨_, rfl, q, _, _, _, rfl, rfl, SqL.of hq2, atI_nat (j := 0) rfl, _, rfl, c, _, _, _, rfl, rfl, SqL.of hc2', atI_last _ _, rfl, _, rfl, ?_⟩
      by_cases hx : x = 0
      · rw [decide_eq_true (show V.int x = V.int 0 by rw [hx])]
        refine iteT ?_
        have hlast : (r.map V.int ++ [V.int x])[(r.map V.int ++ [V.int x]).length - 1]? = some (.int x) := by simp
        refine ⟨fun σ H' => ∃ (o : Option V) (cs : List Int), cs.length = r.length ∧ σ = [some (.ref q), some (.int m), o] ∧ Keep q c H H' ∧ DHc q c H' cs stir, fun σ' H' ⟨o, cs, el, hh⟩ => ⟨cs.length, by rw [el, List.length_append]; exact Nat.lt_succ_self _, o, cs, rfl, hh⟩, ?_⟩
        refine ⟨_, rfl, q, _, _, _, rfl, rfl, SqL.of hq2, atI_nat (j := 0) rfl, .inl ⟨rfl, _, SqL.of hc2'⟩, c, _, _, rfl, rfl, hc2', hlast, ?_⟩
        refine ⟨o, r, rfl, rfl, fun b u e n1 n2 => ?_, ?_, ?_, fun z hz => d0 z (List.mem_append_left _ hz), ?_, e0, e1⟩
        · rw [upd_ne n2]
          exact kp2 b u e n1 n2
        · rw [upd_ne nqc]
          exact hq2
        · rw [upd_same, List.dropLast_concat]
        · rw [List.length_append, List.length_singleton] at d63
          omega
      · rw [decide_eq_false (show ¬ V.int x = V.int 0 from fun z => hx (V.int.inj z))]
        exact rd o _ _ kp2 ⟨hq2, hc2, d0, d63, e0, e1⟩
theorem bd_draw (T : Txt K mg) : L2.Binds K (fdOf K (He.ga K "_law_draw")) ["_law_heap_here", "_law_many_here"] [] := T.F__law_draw.bindsN fun _ _ _ _ _ _ us hl => match us, hl with | [_, _], _ => rfl
end
end K3
set_option maxHeartbeats 6000000
/-! the law's heap of draws; picks; mixed orders. -/
namespace K3
open PySem PySem.Spec PyProof.Rows L2
theorem cut_ints (ns : List Int) (lo hi : Option Int) : ∃ ms : List Int, cutV (ns.map V.int) lo hi = ms.map V.int ∧ ms.length ≤ ns.length := by
  unfold cutV
  generalize HT.sIx (ns.map V.int).length 0 lo = a
  generalize HT.sIx (ns.map V.int).length (ns.map V.int).length hi - a = b
  refine ⟨(ns.drop a).take b, by rw [List.map_take, List.map_drop], ?_⟩
  rw [List.length_take, List.length_drop]
  omega
theorem ints_at {ns : List Int} {i : Nat} {v : V} (h : (ns.map V.int)[i]? = some v) : ∃ n, ns[i]? = some n ∧ v = .int n := by
  rw [List.getElem?_map] at h
  cases e : ns[i]? with
  | none =>
    rw [e] at h
    cases h
  | some n =>
    rw [e] at h
    exact ⟨n, rfl, (Option.some.inj h).symm⟩
section
variable {w : World} {K : PySem.W.Frag} {mg : Str → Option Value} {base : Heap}
/-! ### _law_heap -/
def spHeap (K : PySem.W.Frag) : Sp := fun vs H Q _ => ∃ (a : Addr) (ns : List Int) (b : Int), vs = [.ref a, .int b] ∧ SqL K H a (ns.map V.int) ∧ ns.length ≤ 63 ∧ 0 ≤ b ∧ b ≤ 100 ∧
  ∀ H' q c, Same H H' → H q = none → H c = none → DH q c H' → Q (.ref q) H'
theorem scHeap : FnScope ["_law_script", "_law_base", "_law_cell", "_law_cells", "_law_stir"] ["_law_script", "_law_base"] (defScope sLHeap) := ⟨rfl, rfl, rfl, by decide +kernel, rfl, by decide +kernel, by decide +kernel⟩
theorem ok_heap (T : Txt K mg) : FnOk PP w K mg base CX0 1 (He.ga K "_law_heap") (fdOf K (He.ga K "_law_heap")) ["_law_script", "_law_base"] (spHeap K) := by
  refine T.F__law_heap.ok scHeap (fun vs H Q E h => ?_) (fun cdv A outer s H vs Q E hr h => ?_)
  · obtain ⟨a, ns, b, rfl, _⟩ := h
    rfl
  · obtain ⟨a, ns, b, rfl, hns, n63, b0, b1, k⟩ := h
    refine ⟨_, PSs.nox (pss_cons (ps_setLc (i := 3) (own := [("_law_cell", 2)]) (g := gName 2) (tt := tYes) rfl scHeap.nd rfl rfl (sw_true rfl rfl rfl (by decide +kernel)) (pi_list (pe_slice sl_list (pv 0) po_none (po_some pe_int)))
        (blkOk_by (N := ["_law_script", "_law_base", "_law_cell", "_law_cells", "_law_stir"]) (sc := defScope sLHeap) (by decide +kernel))
        (fun _ _ _ _ _ => pg_name (i := 2) scHeap.nd rfl (Or.inl rfl)) (fun _ _ _ _ _ => pts_nil)
        (fun _ _ _ _ _ => pe_callB call_abs (by rfl) T.n_abs (by decide +kernel) (pa_cons (pe_callTy call_int1 (by rfl) T.n_int (by decide +kernel) (pa_cons (pv 2) pa_nil)) pa_nil)))
      (pss_cons (ps_set (i := 4) scHeap.nd rfl (Or.inl rfl) (pe_op op_add pe_int (pe_op op_mul pe_int (pv 1))))
      (pss_cons (ps_for PassesOwn.never rfl (pi_list (pv 3)) (pg_name (i := 2) scHeap.nd rfl (Or.inl rfl))
        (pss_one (ps_set (i := 4) scHeap.nd rfl (Or.inl rfl) (pe_op op_mod (pe_callTy call_int1 (by rfl) T.n_int (by decide +kernel) (pa_cons (pe_op op_add (pe_op op_add (pe_op op_mul (pv 4) pe_int) (pe_op op_mod (pv 2) pe_int)) pe_int) pa_nil)) pe_int))))
      (pss_one (ps_ret (pe_lst (pa_cons (pe_revL (pe_lc (own := [("_law_cell", 2)]) (g := gName 2) rfl scHeap.nd (pi_list (pv 3)) (blkOk_by (N := ["_law_script", "_law_base", "_law_cell", "_law_cells", "_law_stir"]) (sc := defScope sLHeap) (by decide +kernel))
        (fun _ _ _ _ _ => pg_name (i := 2) scHeap.nd rfl (Or.inl rfl)) (fun _ _ _ _ _ => pts_one (pt_cmpR op_ge (pv 2) (pe_op op_pow pe_int pe_int) (nomark _))) (fun _ _ _ _ _ => pv 2))) (pa_cons (pv 4) pa_nil)))))))), ?_⟩
    obtain ⟨ms, em, lm⟩ := cut_ints ns none (some 63)
    refine ⟨_, rfl, _, rfl, a, _, rfl, hns, fun p np => ⟨p, rfl, ⟨_, SqL.of upd_same⟩, fun D nD => ?_⟩⟩
    have sp := same_upd (o := .lst (cutV (ns.map V.int) none (some 63))) np
    refine lc_it walk_list (PvG _ D fun i acc _ => ∃ cs : List Int, acc = cs.map V.int ∧ (∀ z ∈ cs, 0 ≤ z)) (PvG.zero nD ⟨[], rfl, fun z hz => (nomatch hz)⟩) (fun i H' _ z => SqL.of (z.1 _ _ upd_same)) ?_ ?_
    · rintro i x H1 H2 hi ⟨z, acc, hD, la, cs, rfl, hc⟩ ⟨rfl, e2⟩
      rw [em] at e2 hi
      obtain ⟨n, hn, rfl⟩ := ints_at e2
      rw [List.length_map] at hi
      refine ⟨rfl, _, rfl, .inl ⟨_, rfl, _, rfl, ?_⟩⟩
      refine PvG.add nD z hD la (by omega) (Same.refl _) ⟨cs ++ [if n < 0 then -n else n], by rw [List.map_append]; rfl, fun u hu => ?_⟩
      rcases List.mem_append.mp hu with h | h
      · exact hc u h
      · rw [List.mem_singleton.mp h]
        split <;> omega
    · rintro H1 ⟨z, acc, hD, la, cs, rfl, hc⟩
      rw [em, List.length_map, List.length_map] at la
      have s1 : Same H H1 := sp.trans z
      refine ⟨_, rfl, _, _, rfl, rfl, .inl ⟨by decide, by decide⟩, _, _, rfl, rfl, ?_⟩
      refine ⟨_, rfl, D, rfl, ⟨_, SqL.of hD⟩, for_it walk_list (fun i σ H' => ∃ (o2 : Option V) (st : Int), σ = [some (.ref a), some (.int b), o2, some (.ref D), some (.int st)] ∧ H' = H1 ∧ 0 ≤ st ∧ (st < 2147483647)) ⟨_, 52369 + 523 * b, rfl, rfl, by omega, by omega⟩ (fun i σ H' _ ⟨_, _, _, e, _⟩ => SqL.of (by rw [e]; exact hD)) ?_ ?_⟩
      · rintro i x σ H2 H3 hi ⟨o2, st, rfl, rfl, t0, t1⟩ ⟨rfl, e2⟩
        obtain ⟨n, hn, rfl⟩ := ints_at e2
        refine ⟨_, rfl, _, _, rfl, rfl, .inl ⟨by omega, by omega⟩, _, rfl, _, _, rfl, rfl, (by show (0 : Int) < 2147483549; decide), _, _, rfl, rfl, _, _, rfl, rfl, .inl ⟨_, rfl, _, _, rfl, rfl, (by show (0 : Int) < 2147483647; decide), ?_⟩⟩
        exact ⟨_, _, rfl, rfl, Int.emod_nonneg _ (by decide), Int.emod_lt_of_pos _ (by decide)⟩
      · rintro σ H2 ⟨o2, st, rfl, rfl, t0, t1⟩
        refine ⟨_, rfl, D, rfl, ⟨_, SqL.of hD⟩, fun D2 nD2 => ?_⟩
        refine lc_it walk_list (PvG _ D2 fun i acc _ => ∃ cs : List Int, acc = cs.map V.int ∧ (∀ z ∈ cs, 0 ≤ z)) (PvG.zero nD2 ⟨[], rfl, fun z hz => (nomatch hz)⟩) (fun i H' _ z => SqL.of (z.1 _ _ hD)) ?_ ?_
        · rintro i x H3 H4 hi ⟨z3, acc, hD3, la3, cs3, rfl, hc3⟩ ⟨rfl, e2⟩
          obtain ⟨n, hn, rfl⟩ := ints_at e2
          rw [List.length_map] at hi
          refine ⟨rfl, _, rfl, _, _, rfl, rfl, ⟨by decide, by decide, by decide⟩, _, _, rfl, rfl, _, rfl, ?_⟩
          refine ite2 (fun _ => ?_) (fun _ => PvG.skip z3 hD3 la3 (Same.refl _) ⟨cs3, rfl, hc3⟩)
          refine ⟨_, rfl, PvG.add nD2 z3 hD3 la3 (by omega) (Same.refl _) ⟨cs3 ++ [n], by rw [List.map_append]; rfl, fun u hu => ?_⟩⟩
          rcases List.mem_append.mp hu with h | h
          · exact hc3 u h
          · rw [List.mem_singleton.mp h]
            exact hc n (get_mem hn)
        · rintro H3 ⟨z3, acc, hD3, la3, cs3, rfl, hc3⟩
          refine ⟨D2, _, rfl, SqL.of hD3, fun c nc => ⟨_, rfl, (by show 2 ≤ sizeLine; decide), fun q nq => ?_⟩⟩
          have s3 : Same H H3 := s1.trans z3
          have s4 := s3.trans ((same_upd (o := .lst (cs3.map V.int).reverse) nc))
          obtain ⟨nq1, nqc⟩ := upd_none nq
          rw [List.length_map, List.length_map] at la3
          refine k _ q c (s4.trans (same_upd nq)) (s4.free nq) (s3.free nc) ⟨nqc, cs3.reverse, st, upd_same, ?_, fun z hz => hc3 z (List.mem_reverse.mp hz), ?_, t0, t1⟩
          · rw [upd_ne nqc.symm, upd_same, List.map_reverse]
          · rw [List.length_reverse]
            omega
theorem bd_heap (T : Txt K mg) : L2.Binds K (fdOf K (He.ga K "_law_heap")) ["_law_script", "_law_base"] [] := T.F__law_heap.bindsN fun _ _ _ _ _ _ us hl => match us, hl with | [_, _], _ => rfl
end
end K3
set_option maxHeartbeats 6000000
/-! the law's picks; mixed orders. -/
namespace K3
open PySem PySem.Spec PyProof.Rows L2
theorem erase_perm {α : Type} : ∀ {l : List α} {j : Nat} (h : j < l.length), (l[j] :: l.eraseIdx j).Perm l
  | _ :: _, 0, _ => .refl _
  | x :: l, j + 1, h => (List.Perm.swap _ _ _).trans ((erase_perm (l := l) (j := j) (by simpa using h)).cons x)
theorem DH.fresh {q c : Addr} {H : Hp} (d : DH q c H) {p : Addr} (n : H p = none) : p ≠ q ∧ p ≠ c := by
  obtain ⟨_, cells, stir, h1, h2, _⟩ := d
  constructor
  · rintro rfl
    rw [h1] at n
    cases n
  · rintro rfl
    rw [h2] at n
    cases n
theorem DH.upd {q c : Addr} {H : Hp} (d : DH q c H) {p : Addr} (n : p ≠ q ∧ p ≠ c) {o : HO} : DH q c (L2.upd H p o) := by
  obtain ⟨ne, cells, stir, h1, h2, r⟩ := d
  exact ⟨ne, cells, stir, by rw [upd_ne n.1.symm]; exact h1, by rw [upd_ne n.2.symm]; exact h2, r⟩
theorem Keep.upd {q c : Addr} {H H' : Hp} (k : Keep q c H H') {p : Addr} (n : H p = none) {o : HO} : Keep q c H (upd H' p o) := fun b u e n1 n2 => (upd_ne (ne_of_none e n)).trans (k b u e n1 n2)
theorem Keep.free {q c : Addr} {H H' : Hp} (k : Keep q c H H') (d : DH q c H) {p : Addr} (n : H' p = none) (d' : DH q c H') : H p = none := by
  cases e : H p with
  | none => rfl
  | some o =>
    obtain ⟨n1, n2⟩ := d'.fresh n
    rw [k p o e n1 n2] at n
    cases n
/-- kept, and the draws stand -/
def KD (q c : Addr) (H H' : Hp) : Prop := Keep q c H H' ∧ DH q c H'
theorem KD.refl {q c : Addr} {H : Hp} (d : DH q c H) : KD q c H H := ⟨fun _ _ e _ _ => e, d⟩
theorem KD.trans {q c : Addr} {H H1 H2 : Hp} (a : KD q c H H1) (b : KD q c H1 H2) : KD q c H H2 := ⟨a.1.trans b.1, b.2⟩
theorem KD.new {q c : Addr} {H H1 : Hp} (a : KD q c H H1) {p : Addr} {o : HO} (n : H1 p = none) : KD q c H (upd H1 p o) := ⟨a.1.trans (.same (same_upd n)), a.2.upd (a.2.fresh n)⟩
theorem KD.upd {q c : Addr} {H H1 : Hp} (a : KD q c H H1) {p : Addr} {o : HO} (n : H p = none) (m : p ≠ q ∧ p ≠ c) : KD q c H (upd H1 p o) := ⟨a.1.upd n, a.2.upd m⟩
theorem KD.at {q c : Addr} {H H1 : Hp} (a : KD q c H H1) {p : Addr} {o : HO} (h : H p = some o) (m : p ≠ q ∧ p ≠ c) : H1 p = some o := a.1 p o h m.1 m.2
theorem KD.same {q c : Addr} {H H1 H2 : Hp} (a : KD q c H H1) (s : Same H1 H2) : KD q c H H2 := ⟨a.1.trans (.same s), a.2.same s⟩
theorem KD.tups {q c : Addr} {H H1 : Hp} (d : DH q c H) (a : KD q c H H1) : TupK H H1 := a.1.tups d
section
variable {w : World} {K : PySem.W.Frag} {mg : Str → Option Value} {base : Heap}
/-! ### _law_pick -/
def spPick : Sp := fun vs H Q _ => ∃ (q c : Addr) (x : V), vs = [.ref q, x] ∧ DH q c H ∧
  ((∃ (a : Addr) (xs : List V), x = .ref a ∧ H a = some (.lst xs) ∧ (a ≠ q ∧ a ≠ c) ∧ 0 < xs.length ∧ xs.length < 1000000 ∧ ∀ (H' : Hp) (i : Nat) (v : V), KD q c H H' → xs[i]? = some v → Q v H') ∨
   (∃ z : Str, x = .str z ∧ 0 < z.length ∧ z.length < 1000000 ∧ ∀ H' (i : Nat) u, KD q c H H' → z.cps.toList[i]? = some u → Q (.str ⟨#[u]⟩) H'))
theorem scPick : FnScope ["_law_heap_here", "_law_some"] ["_law_heap_here", "_law_some"] (defScope sLPick) := ⟨rfl, rfl, rfl, by decide +kernel, rfl, by decide +kernel, by decide +kernel⟩
theorem ok_pick (T : Txt K mg) : FnOk PP w K mg base CX0 2 (He.ga K "_law_pick") (fdOf K (He.ga K "_law_pick")) ["_law_heap_here", "_law_some"] spPick := by
  refine T.F__law_pick.ok scPick (fun vs H Q E h => ?_) (fun cdv A outer s H vs Q E hr h => ?_)
  · obtain ⟨q, c, x, rfl, _⟩ := h
    rfl
  · obtain ⟨q, c, x, rfl, dh, h⟩ := h
    refine ⟨_, PSs.nox (pss_one (ps_ret (pe_ix ix_seq (pv 1) (pe_callP (ok_draw T) hr (by rfl) T.g__law_draw T.F__law_draw.kp (bd_draw T) pass0 (pa_cons (pv 0) (pa_cons (pe_callB call_len (by rfl) T.n_len (by decide +kernel) (pa_cons (pv 1) pa_nil)) pa_nil))) (fun _ _ => rfl)))), ?_⟩
    rcases h with ⟨a, xs, rfl, ha, na, l0, l1, k⟩ | ⟨z, rfl, l0, l1, k⟩
    · refine ⟨_, rfl, _, rfl, _, rfl, _, xs.length, rfl, .inl ⟨_, SqL.of ha, rfl⟩, q, c, _, rfl, dh, by omega, by omega, fun H' r kp d r0 r1 => ?_⟩
      obtain ⟨j, rfl⟩ : ∃ j : Nat, r = (j : Int) := ⟨r.toNat, by omega⟩
      have hj : xs[j]? = some xs[j] := List.getElem?_eq_getElem (by omega)
      exact .inl ⟨a, xs, _, _, rfl, rfl, SqL.of (kp a _ ha na.1 na.2), atI_nat hj, k H' j _ ⟨kp, d⟩ hj⟩
    · have hz : z.length ≤ sizeLine := Nat.le_trans (Nat.le_of_lt l1) (by decide)
      refine ⟨_, rfl, _, rfl, _, rfl, _, z.length, rfl, ⟨hz, rfl⟩, q, c, _, rfl, dh, by omega, by omega, fun H' r kp d r0 r1 => ?_⟩
      obtain ⟨j, rfl⟩ : ∃ j : Nat, r = (j : Int) := ⟨r.toNat, by omega⟩
      have hl : z.cps.toList.length = z.length := by simp [Str.length]
      have hj : z.cps.toList[j]? = some z.cps.toList[j] := List.getElem?_eq_getElem (by omega)
      exact .inr (.inr ⟨z, _, _, rfl, rfl, hz, atI_nat hj, k H' j _ ⟨kp, d⟩ hj⟩)
theorem bd_pick (T : Txt K mg) : L2.Binds K (fdOf K (He.ga K "_law_pick")) ["_law_heap_here", "_law_some"] [] := T.F__law_pick.bindsN fun _ _ _ _ _ _ us hl => match us, hl with | [_, _], _ => rfl
/-! ### _law_mixed -/
def spMixed : Sp := fun vs H Q _ => ∃ (q c a : Addr) (xs : List V), vs = [.ref q, .ref a] ∧ DH q c H ∧ H a = some (.lst xs) ∧ xs.length < 1000 ∧
  ∀ H' p ys, KD q c H H' → ys.Perm xs → H p = none → H' p = some (.lst ys) → Q (.ref p) H'
theorem scMixed : FnScope ["_law_heap_here", "_law_some", "_law_left", "_law_found", "_law_turn"] ["_law_heap_here", "_law_some"] (defScope sLMixed) := ⟨rfl, rfl, rfl, by decide +kernel, rfl, by decide +kernel, by decide +kernel⟩
theorem ok_mixed (T : Txt K mg) : FnOk PP w K mg base CX0 2 (He.ga K "_law_mixed") (fdOf K (He.ga K "_law_mixed")) ["_law_heap_here", "_law_some"] spMixed := by
  refine T.F__law_mixed.ok scMixed (fun vs H Q E h => ?_) (fun cdv A outer s H vs Q E hr h => ?_)
  · obtain ⟨q, c, a, xs, rfl, _⟩ := h
    rfl
  · obtain ⟨q, c, a, xs, rfl, dh, ha, l1, k⟩ := h
    refine ⟨_, PSs.nox (pss_cons (ps_par (i := 2) (j := 3) rfl scMixed.nd rfl rfl (by decide) rfl rfl (pa_cons (pe_callTy call_list_of (by rfl) T.n_list (by decide +kernel) (pa_cons (pv 1) pa_nil)) (pa_cons (pe_lst pa_nil) pa_nil)) (by rfl))
      (pss_cons (ps_for PassesOwn.never rfl (pi_range1 (by rfl) T.n_range (pa_cons (pe_callB call_len (by rfl) T.n_len (by decide +kernel) (pa_cons (pv 2) pa_nil)) pa_nil)) (pg_name (i := 4) scMixed.nd rfl (Or.inl rfl))
        (pss_one (ps_expr (pe_bm PySem.F.plainAttrs_list PySem.F.slot_list_append PySem.F.type_list_append mt_append (pv 3)
          (pa_cons (pe_bm PySem.F.plainAttrs_list PySem.F.slot_list_pop PySem.F.type_list_pop mt_popAt (pv 2)
            (pa_cons (pe_callP (ok_draw T) hr (by rfl) T.g__law_draw T.F__law_draw.kp (bd_draw T) pass0 (pa_cons (pv 0) (pa_cons (pe_callB call_len (by rfl) T.n_len (by decide +kernel) (pa_cons (pv 2) pa_nil)) pa_nil))) pa_nil)) pa_nil)))))
      (pss_one (ps_ret (pv 3))))), ?_⟩
    refine ⟨_, rfl, a, xs, rfl, .inl (SqL.of ha), fun l nl => ⟨Nat.zero_le _, fun f nf => ⟨_, _, rfl, ?_⟩⟩⟩
    obtain ⟨nf0, nfl⟩ := upd_none nf
    have hl := (same_upd nf (o := .lst [])) l _ (upd_same (o := .lst xs))
    have hf : upd (upd H l (.lst xs)) f (.lst []) f = some (.lst []) := upd_same (o := .lst [])
    have k0 : KD q c H _ := ((KD.refl dh).new (o := .lst xs) nl).new (o := .lst []) nf
    have ml := dh.fresh nl
    have mf := dh.fresh nf0
    refine ⟨_, rfl, _, xs.length, rfl, .inl ⟨_, SqL.of hl, rfl⟩, _, rfl, by omega, by omega, ?_⟩
    rw [Int.toNat_natCast]
    refine for_it walk_range (fun i σ H' => ∃ (o : Option V) (left found : List V), σ = [some (.ref q), some (.ref a), some (.ref l), some (.ref f), o] ∧ KD q c H H' ∧ H' l = some (.lst left) ∧ H' f = some (.lst found) ∧ found.length = i ∧ (found ++ left).Perm xs)
      ⟨_, xs, [], rfl, k0, hl, hf, rfl, .refl _⟩ (fun _ _ _ _ _ => trivial) ?_ ?_
    · rintro i x σ H1 H2 hi ⟨o, left, found, rfl, kd, hl1, hf1, el, hp⟩ ⟨rfl, rfl⟩
      have hlen := hp.length_eq
      rw [List.length_append] at hlen
      refine ⟨_, rfl, .inl ⟨rfl, _, SqL.of hf1⟩, _, rfl, .inl ⟨rfl, _, SqL.of hl1⟩, _, rfl, _, rfl, _, left.length, rfl, .inl ⟨_, SqL.of hl1, rfl⟩, q, c, _, rfl, kd.2, by omega, by omega, fun H' r kp d r0 r1 => ?_⟩
      obtain ⟨j, rfl⟩ : ∃ j : Nat, r = (j : Int) := ⟨r.toNat, by omega⟩
      have jl : j < left.length := by omega
      have hj : left[j]? = some left[j] := List.getElem?_eq_getElem jl
      have kd2 : KD q c H H' := kd.trans ⟨kp, d⟩
      have hl2 := kp l _ hl1 ml.1 ml.2
      have hf2 := kp f _ hf1 mf.1 mf.2
      refine ⟨l, left, _, j, _, rfl, rfl, hl2, by omega, by omega, ?_, hj, ?_⟩
      · have e := (atI_get (atI_nat hj))
        obtain ⟨j', e1, e2, e3, _⟩ := e
        rw [e1]
        congr 1
        have : seqIndex? (j : Int) left.length = some j := by
          rw [seqIndex_of (by omega) (by omega)]
          simp
        rw [this] at e1
        exact (Option.some.inj e1).symm
      · refine ⟨f, found, _, rfl, rfl, (upd_ne nfl).trans hf2, Nat.lt_of_lt_of_le (show found.length < 1000 by omega) (by decide), ?_⟩
        refine ⟨_, left.eraseIdx j, found ++ [left[j]], rfl, (kd2.upd nl ml).upd nf0 mf, (upd_ne nfl.symm).trans upd_same, upd_same, by rw [List.length_append, List.length_singleton, el], ?_⟩
        rw [List.append_assoc]
        exact ((erase_perm jl).append_left found).trans hp
    · rintro σ H1 ⟨o, left, found, rfl, kd, hl1, hf1, el, hp⟩
      have hlen := hp.length_eq
      rw [List.length_append] at hlen
      have e : left = [] := List.eq_nil_of_length_eq_zero (by omega)
      subst e
      rw [List.append_nil] at hp
      exact ⟨_, rfl, k H1 f found kd hp nf0 hf1⟩
theorem bd_mixed (T : Txt K mg) : L2.Binds K (fdOf K (He.ga K "_law_mixed")) ["_law_heap_here", "_law_some"] [] := T.F__law_mixed.bindsN fun _ _ _ _ _ _ us hl => match us, hl with | [_, _], _ => rfl
end
end K3
set_option maxHeartbeats 6000000
/-! the law's heights. -/
namespace K3
open PySem PySem.Spec PyProof.Rows L2
theorem ints_nat {ns : List Nat} {vs : List V} {i : Nat} {v : V} (h : vs[i]? = some v) (e : vs = vi ns) : ∃ n, n ∈ ns ∧ v = .int (n : Int) := by
  rw [e] at h
  obtain ⟨n, h1, h2⟩ := vi_get h
  exact ⟨n, get_mem h1, h2⟩
theorem vi_rep (t n : Nat) : (List.replicate n [V.int (t : Int)]).flatten = vi (List.replicate n t) := by
  induction n with
  | zero => rfl
  | succ n ih =>
    rw [List.replicate_succ, List.flatten_cons, ih, List.replicate_succ]
    rfl
section
variable {w : World} {K : PySem.W.Frag} {mg : Str → Option Value} {base : Heap}
/-! ### _law_heights -/
def spHeights : Sp := fun vs H Q _ => ∃ (q c : Addr), vs = [.ref q] ∧ DH q c H ∧ ∀ H' p hs, KD q c H H' → H p = none → H' p = some (.lst (vi hs)) → HtOk hs → Q (.ref p) H'
theorem scHeights : FnScope ["_law_heap_here", "_law_many_here", "_law_top", "_law_turn"] ["_law_heap_here"] (defScope sLHeights) := ⟨rfl, rfl, rfl, by decide +kernel, rfl, by decide +kernel, by decide +kernel⟩
theorem ok_heights (T : Txt K mg) : FnOk PP w K mg base CX0 3 (He.ga K "_law_heights") (fdOf K (He.ga K "_law_heights")) ["_law_heap_here"] spHeights := by
  refine T.F__law_heights.ok scHeights (fun vs H Q E h => ?_) (fun cdv A outer s H vs Q E hr h => ?_)
  · obtain ⟨q, c, rfl, _⟩ := h
    rfl
  · obtain ⟨q, c, rfl, dh, k⟩ := h
    refine ⟨_, PSs.nox (pss_cons (ps_set (i := 1) scHeights.nd rfl (Or.inl rfl) (pe_callP (ok_pick T) hr (by rfl) T.g__law_pick T.F__law_pick.kp (bd_pick T) pass0 (pa_cons (pv 0) (pa_cons (pe_lst (pa_cons pe_int (pa_cons pe_int (pa_cons pe_int (pa_cons pe_int (pa_cons pe_int (pa_cons pe_int (pa_cons pe_int (pa_cons pe_int pa_nil))))))))) pa_nil))))
      (pss_cons (ps_set (i := 2) scHeights.nd rfl (Or.inr rfl) (pe_callP (ok_pick T) hr (by rfl) T.g__law_pick T.F__law_pick.kp (bd_pick T) pass0 (pa_cons (pv 0) (pa_cons (pe_lst (pa_cons pe_int (pa_cons pe_int (pa_cons pe_int (pa_cons pe_int (pa_cons pe_int (pa_cons pe_int pa_nil))))))) pa_nil))))
      (pss_cons (ps_if (pt_cmpR op_eq (pe_callP (ok_draw T) (hr.mono (by decide)) (by rfl) T.g__law_draw T.F__law_draw.kp (bd_draw T) pass0 (pa_cons (pv 0) (pa_cons pe_int pa_nil))) pe_int (nomark _))
        (pss_one (ps_ret (pe_op op_rep (pe_lst (pa_cons (pv 2) pa_nil)) (pv 1)))) pss_nil)
      (pss_one (ps_ret (pe_lc (own := [("_law_turn", 3)]) (g := gName 3) (tt := tYes) rfl scHeights.nd (pi_range1 (by rfl) T.n_range (pa_cons (pv 1) pa_nil))
        (blkOk_by (N := ["_law_heap_here", "_law_many_here", "_law_top", "_law_turn"]) (sc := defScope sLHeights) (by decide +kernel))
        (fun _ _ _ _ _ => pg_name (i := 3) scHeights.nd rfl (Or.inl rfl)) (fun _ _ _ _ _ => pts_nil)
        (fun _ _ _ _ _ => pe_op op_add pe_int (pe_callP (ok_draw T) (hr.mono (by decide)) (by rfl) T.g__law_draw T.F__law_draw.kp (bd_draw T) pass0 (pa_cons (pv 0) (pa_cons (pv 2) pa_nil)))))))))), ?_⟩
    refine ⟨_, rfl, (by show 8 ≤ sizeLine; decide), fun p1 n1 => ?_⟩
    have m1 := dh.fresh n1
    have k1 := (KD.refl dh).new (o := .lst [.int 3, .int 3, .int 3, .int 4, .int 4, .int 5, .int 6, .int 12]) n1
    refine ⟨q, c, _, rfl, k1.2, .inl ⟨p1, _, rfl, upd_same, m1, by decide, by decide, fun H1 i1 v1 kd1 e1 => ?_⟩⟩
    obtain ⟨many, hm, rfl⟩ := ints_nat (ns := [3, 3, 3, 4, 4, 5, 6, 12]) e1 rfl
    have hm2 : 3 ≤ many ∧ many ≤ 12 := by simp at hm; omega
    have k2 := k1.trans kd1
    refine ⟨_, rfl, (by show 6 ≤ sizeLine; decide), fun p2 n2 => ?_⟩
    have k3 := k2.new (o := .lst [.int 2, .int 3, .int 3, .int 4, .int 5, .int 12]) n2
    refine ⟨q, c, _, rfl, k3.2, .inl ⟨p2, _, rfl, upd_same, k2.2.fresh n2, by decide, by decide, fun H2 i2 v2 kd2 e2 => ?_⟩⟩
    obtain ⟨top, ht, rfl⟩ := ints_nat (ns := [2, 3, 3, 4, 5, 12]) e2 rfl
    have ht2 : 1 ≤ top ∧ top ≤ 12 := by simp at ht; omega
    have k4 := k3.trans kd2
    refine ⟨_, rfl, q, c, _, rfl, k4.2, by decide, by decide, fun H3 r kp3 d3 r0 r1 => ?_⟩
    have k5 := k4.trans ⟨kp3, d3⟩
    refine ⟨rfl, _, rfl, ite2 (fun _ => ?_) (fun _ => ?_)⟩
    · refine ⟨_, rfl, (by show 1 ≤ sizeLine; decide), fun p4 n4 => ⟨_, rfl, p4, _, _, rfl, rfl, upd_same, by omega, by omega, ?_, fun p5 n5 => ?_⟩⟩
      · show 1 * _ ≤ sizeLine
        exact Nat.le_trans (show 1 * ((many : Int).toNat) ≤ 12 by omega) (by decide)
      · have k6 := k5.new (o := .lst [.int (top : Int)]) n4
        refine k _ p5 (List.replicate many top) (k6.new n5) (k6.1.free dh n5 k6.2) ?_ ⟨by rw [List.length_replicate]; omega, by rw [List.length_replicate]; omega, fun h hh => by rw [(List.mem_replicate.mp hh).2]; exact ht2⟩
        rw [upd_same, Int.toNat_natCast, vi_rep]
    · refine ⟨_, rfl, _, rfl, by omega, by omega, fun D nD => ?_⟩
      rw [Int.toNat_natCast]
      have mD := k5.2.fresh nD
      refine lc_it walk_range (fun i H' => KD q c H3 H' ∧ ∃ acc : List Nat, H' D = some (.lst (vi acc)) ∧ acc.length = i ∧ ∀ h ∈ acc, 1 ≤ h ∧ h ≤ 12) ⟨(KD.refl k5.2).new nD, [], upd_same, rfl, fun _ z => nomatch z⟩ (fun _ _ _ _ => trivial) ?_ ?_
      · rintro i x H4 H5 hi ⟨kd, acc, hD, la, ha⟩ ⟨rfl, rfl⟩
        refine ⟨rfl, _, rfl, _, rfl, q, c, _, rfl, kd.2, by omega, by omega, fun H6 r kp d r0 r1 => ?_⟩
        obtain ⟨j, rfl⟩ : ∃ j : Nat, r = (j : Int) := ⟨r.toNat, by omega⟩
        have kd2 := kd.trans ⟨kp, d⟩
        refine ⟨_, _, rfl, rfl, vi acc, kp D _ hD mD.1 mD.2, by rw [vi_len]; exact Nat.lt_of_lt_of_le (show acc.length < 13 by omega) (by decide), kd2.upd nD mD, acc ++ [1 + j], ?_, by rw [List.length_append, List.length_singleton, la], fun h hh => ?_⟩
        · rw [upd_same]
          unfold vi
          rw [List.map_append]
          rfl
        · rcases List.mem_append.mp hh with z | z
          · exact ha h z
          · rw [List.mem_singleton.mp z]
            omega
      · rintro H4 ⟨kd, acc, hD, la, ha⟩
        exact k H4 D acc (k5.trans kd) (k5.1.free dh nD k5.2) hD ⟨by omega, by omega, ha⟩
theorem bd_heights (T : Txt K mg) : L2.Binds K (fdOf K (He.ga K "_law_heights")) ["_law_heap_here"] [] := T.F__law_heights.bindsN fun _ _ _ _ _ _ us hl => match us, hl with | [_], _ => rfl
end
end K3
set_option maxHeartbeats 6000000
/-! the law's names. -/
namespace K3
open PySem PySem.Spec PyProof.Rows L2
abbrev tl (x : Str) : List Nat := x.cps.toList
theorem joinL_nil : ∀ ls : List (List Nat), TL.joinL [] ls = ls.flatten
  | [] => rfl
  | [p] => by simp [TL.joinL]
  | p :: q :: r => by
    have h := joinL_nil (q :: r)
    show p ++ ([] ++ TL.joinL [] (q :: r)) = _
    rw [h]
    simp
theorem tl_glue {e : Str} (he : tl e = []) (ys : List Str) : tl (Txt.join e ys) = (ys.map tl).flatten := by
  rw [TL.join_eq]
  have h := TL.tl_join e ys
  rw [show TL.tl e = [] from he, joinL_nil] at h
  exact h
def one (c : Nat) : Str := ⟨#[c]⟩
def oneV (c : Nat) : V := .str (one c)
theorem flat_ones : ∀ cs : List Nat, ((cs.map one).map tl).flatten = cs
  | [] => rfl
  | c :: r => by
    have h := flat_ones r
    rw [List.map_cons, List.map_cons, List.flatten_cons, h]
    rfl
theorem len_tl (x : Str) : x.length = (tl x).length := by simp [tl, Str.length]
theorem lens_flat (ys : List Str) : (ys.map (·.length)).sum = ((ys.map tl).flatten).length := by
  rw [List.length_flatten, List.map_map]
  congr 1
theorem perm_inv {α β : Type} {f : α → β} {ys l : List β} (h : ys.Perm l) : ∀ zs : List α, l = zs.map f → ∃ zs' : List α, zs'.Perm zs ∧ ys = zs'.map f := by
  induction h with
  | nil => exact fun zs e => ⟨zs, .refl _, e⟩
  | @cons x l1 l2 h ih =>
    intro zs e
    cases zs with
    | nil => simp at e
    | cons z t =>
      rw [List.map_cons] at e
      obtain ⟨e1, e2⟩ := List.cons.inj e
      obtain ⟨t', p, e3⟩ := ih t e2
      exact ⟨z :: t', p.cons z, by rw [List.map_cons, e1, e3]⟩
  | swap x y l =>
    intro zs e
    match zs, e with
    | [], e => simp at e
    | [_], e => simp at e
    | a :: b :: t, e =>
      simp only [List.map_cons, List.cons.injEq] at e
      obtain ⟨e1, e2, e3⟩ := e
      exact ⟨b :: a :: t, List.Perm.swap _ _ _, by simp only [List.map_cons, e1, e2, e3]⟩
  | trans h1 h2 ih1 ih2 =>
    intro zs e
    obtain ⟨z2, p2, e2⟩ := ih2 zs e
    obtain ⟨z1, p1, e1⟩ := ih1 z2 e2
    exact ⟨z1, p1.trans p2, e1⟩
def lt (k : Nat) : Nat := letters.cps.toList.getD k 0
theorem letters_len : letters.cps.toList.length = 26 := by decide +kernel
theorem letters_len' : letters.length = 26 := by decide +kernel
theorem lt_at {k : Nat} (h : k < 26) : letters.cps.toList[k]? = some (lt k) := by
  unfold lt
  rw [List.getD_eq_getElem?_getD, List.getElem?_eq_getElem (by rw [letters_len]; exact h)]
  rfl
theorem lt_mem {k : Nat} (h : k < 26) : lt k ∈ letters.cps.toList := List.mem_of_getElem? (lt_at h)
theorem lt_inj0 : ∀ a : Fin 26, ∀ b : Fin 26, lt a.val = lt b.val → a = b := by decide +kernel
theorem lt_inj {a b : Nat} (ha : a < 26) (hb : b < 26) (h : lt a = lt b) : a = b := by
  have := lt_inj0 ⟨a, ha⟩ ⟨b, hb⟩ h
  exact Fin.mk.inj this
theorem cut_lo {α : Type} {f : α → V} {cs : List α} {p : Nat} (h : p ≤ cs.length) : cutV (cs.map f) (some (p : Int)) none = (cs.drop p).map f := by
  unfold cutV
  rw [HT.sIx_nat, HT.sIx_none, List.length_map, Nat.min_eq_left h, ← List.map_drop, ← List.map_take, List.take_of_length_le (by rw [List.length_drop]; omega)]
theorem cut_hi {α : Type} {f : α → V} {cs : List α} {p : Nat} (h : p ≤ cs.length) : cutV (cs.map f) none (some (p : Int)) = (cs.take p).map f := by
  unfold cutV
  rw [HT.sIx_nat, HT.sIx_none, List.length_map, Nat.min_eq_left h, List.drop_zero, Nat.sub_zero, List.map_take]
theorem cut_mid {α : Type} {f : α → V} {cs : List α} {p q : Nat} : ∃ rs : List α, cutV (cs.map f) (some (p : Int)) (some (q : Int)) = rs.map f ∧ (∀ c ∈ rs, c ∈ cs) ∧ rs.length ≤ cs.length - min p cs.length := by
  unfold cutV
  rw [HT.sIx_nat, HT.sIx_nat, List.length_map]
  refine ⟨(cs.drop (min p cs.length)).take (min q cs.length - min p cs.length), by rw [List.map_take, List.map_drop], fun c hc => List.mem_of_mem_drop (List.mem_of_mem_take hc), ?_⟩
  rw [List.length_take, List.length_drop]
  omega
/-- the letters of a name: where the sign stands, its first letter, its place among the names -/
def sgn (f i : Nat) : List Nat := lt ((f + i) % 26) :: (if i < 26 then [] else [lt (i / 26)])
/-- what the found names are -/
structure NmOk (cs : List Nat) (pl f m : Nat) (zs : List Str) : Prop where
  at_ : ∀ (i : Nat) (z : Str), zs[i]? = some z → ∃ r, tl z = cs.take pl ++ (sgn f i ++ r) ∧ (26 < m → r = cs.drop pl) ∧ (∀ c ∈ r, c ∈ cs) ∧ r.length ≤ cs.length - pl
theorem NmOk.nodup {cs : List Nat} {pl f m : Nat} {zs : List Str} (h : NmOk cs pl f m zs) (hm : zs.length = m) (h40 : m ≤ 40) : zs.Nodup := by
  refine List.pairwise_iff_getElem.mpr fun i j hi hj hij e => ?_
  obtain ⟨r, e1, r1, _⟩ := h.at_ i _ (List.getElem?_eq_getElem hi)
  obtain ⟨r', e2, r2, _⟩ := h.at_ j _ (List.getElem?_eq_getElem hj)
  rw [e, e2] at e1
  have e3 := List.append_cancel_left e1
  unfold sgn at e3
  rw [List.cons_append, List.cons_append] at e3
  obtain ⟨e4, e5⟩ := List.cons.inj e3
  have e6 := lt_inj (Nat.mod_lt _ (by decide)) (Nat.mod_lt _ (by decide)) e4
  by_cases h1 : i < 26
  · by_cases h2 : j < 26
    · omega
    · rw [r1 (by omega), r2 (by omega), if_pos h1, if_neg h2] at e5
      have := congrArg List.length e5
      simp at this
  · omega
theorem NmOk.names {cs : List Nat} {pl f m : Nat} {zs : List Str} (h : NmOk cs pl f m zs) (hm : zs.length = m) (h40 : m ≤ 40) (c6 : cs.length ≤ 6) (hp : pl ≤ cs.length) (hc : ∀ c ∈ cs, c ∈ letters.cps.toList) : ∀ z ∈ zs, NameOk z := by
  intro z hz
  obtain ⟨i, hi⟩ := List.mem_iff_getElem?.mp hz
  obtain ⟨r, e1, r1, r2, r3⟩ := h.at_ i z hi
  have hi2 : i < 40 := by have := (List.getElem?_eq_some_iff.mp hi).1; omega
  have hl : z.length = (tl z).length := len_tl z
  have hs : (sgn f i).length ≤ 2 ∧ 1 ≤ (sgn f i).length := by
    unfold sgn
    split <;> simp
  rw [e1, List.length_append, List.length_append, List.length_take] at hl
  refine ⟨by omega, by omega, fun c hc2 => ?_⟩
  have hc3 : c ∈ tl z := hc2
  rw [e1] at hc3
  rcases List.mem_append.mp hc3 with q | q
  · exact hc c (List.mem_of_mem_take q)
  · rcases List.mem_append.mp q with q | q
    · unfold sgn at q
      rcases List.mem_cons.mp q with q | q
      · rw [q]
        exact lt_mem (Nat.mod_lt _ (by decide))
      · split at q
        · cases q
        · rw [List.mem_singleton.mp q]
          exact lt_mem (by omega)
    · exact hc c (r2 c q)
end K3
set_option maxHeartbeats 6000000
/-! the law's names: the walk. -/
namespace K3
open PySem PySem.Spec PyProof.Rows L2
theorem emod_nat (f i : Nat) : (((f : Nat) : Int) + (0 + ((i : Nat) : Int))) % 26 = (((f + i) % 26 : Nat) : Int) := by omega
theorem ediv_nat (i : Nat) : (0 + ((i : Nat) : Int)) / 26 = ((i / 26 : Nat) : Int) := by omega
/-- whatever it is told to be -/
def tVia (te : TE) : TE := fun σ H Q => ∃ G : V → Hp → Prop, te σ H G ∧ ∀ v H', G v H' → Q v H'
theorem pe_via {X : Cx} {e : Expr} {te : TE} (h : PE X e te) : PE X e (tVia te) := ⟨fun pins s σ H Q I ⟨G, h1, h2⟩ => thn (h.run pins s σ H G I h1) fun v s1 ⟨x, H1, I1, r1, q1⟩ => ⟨x, H1, I1, r1, h2 _ _ q1⟩⟩
section
variable {w : World} {K : PySem.W.Frag} {mg : Str → Option Value} {base : Heap}
/-! ### _law_names -/
def spNames : Sp := fun vs H Q _ => ∃ (q c : Addr) (m : Nat), vs = [.ref q, .int (m : Int)] ∧ m ≤ 40 ∧ DH q c H ∧
  ∀ H' p (zs : List Str), KD q c H H' → H p = none → H' p = some (.lst (zs.map V.str)) → zs.Nodup → (∀ z ∈ zs, NameOk z) → zs.length = m → Q (.ref p) H'
abbrev nNames : List Str := ["_law_heap_here", "_law_many_here", "_law_letters", "_law_stem", "_law_turn", "_law_place", "_law_first", "_law_found", "_law_even", "_law_at", "_law_sign", "_law_rest"]
theorem scNames : FnScope nNames ["_law_heap_here", "_law_many_here"] (defScope sLNames) := ⟨rfl, rfl, rfl, by decide +kernel, rfl, by decide +kernel, by decide +kernel⟩
theorem ok_names (T : Txt K mg) : FnOk PP w K mg base CX0 3 (He.ga K "_law_names") (fdOf K (He.ga K "_law_names")) ["_law_heap_here", "_law_many_here"] spNames := by
  refine T.F__law_names.ok scNames (fun vs H Q E h => ?_) (fun cdv A outer s H vs Q E hr h => ?_)
  · obtain ⟨q, c, m, rfl, _⟩ := h
    rfl
  · obtain ⟨q, c, m, rfl, m40, dh, k⟩ := h
    refine ⟨_, PSs.nox (pss_cons (ps_set (i := 2) scNames.nd rfl (Or.inr rfl) pe_str)
      (pss_cons (ps_setLc (i := 3) (own := [("_law_turn", 4)]) (g := gName 4) (tt := tYes) rfl scNames.nd rfl rfl (sw_true rfl rfl rfl (by decide +kernel))
        (pi_range1 (by rfl) T.n_range (pa_cons (pe_callP (ok_pick T) hr (by rfl) T.g__law_pick T.F__law_pick.kp (bd_pick T) pass0 (pa_cons (pv 0) (pa_cons (pe_lst (pa_cons pe_int (pa_cons pe_int (pa_cons pe_int (pa_cons pe_int (pa_cons pe_int pa_nil)))))) pa_nil))) pa_nil))
        (blkOk_by (N := nNames) (sc := defScope sLNames) (by decide +kernel))
        (fun _ _ _ _ _ => pg_name (i := 4) scNames.nd rfl (Or.inl rfl)) (fun _ _ _ _ _ => pts_nil)
        (fun _ _ _ _ _ => pe_callP (ok_pick T) hr (by rfl) T.g__law_pick T.F__law_pick.kp (bd_pick T) pass0 (pa_cons (pv 0) (pa_cons (pv 2) pa_nil))))
      (pss_cons (ps_par3 (i := 5) (j := 6) (l := 7) rfl scNames.nd rfl rfl rfl (by decide) (by decide) (by decide) rfl rfl rfl
        (pa_cons (pe_callP (ok_draw T) (hr.mono (by decide)) (by rfl) T.g__law_draw T.F__law_draw.kp (bd_draw T) pass0 (pa_cons (pv 0) (pa_cons (pe_op op_add (pe_callB call_len (by rfl) T.n_len (by decide +kernel) (pa_cons (pv 3) pa_nil)) pe_int) pa_nil)))
        (pa_cons (pe_callP (ok_draw T) (hr.mono (by decide)) (by rfl) T.g__law_draw T.F__law_draw.kp (bd_draw T) pass0 (pa_cons (pv 0) (pa_cons pe_int pa_nil)))
        (pa_cons (pe_lst pa_nil) pa_nil))) (by rfl))
      (pss_cons (ps_set (i := 8) scNames.nd rfl (Or.inl rfl) (pe_via (pe_or (pe_cmpR op_gt (pv 1) pe_int (nomark _)) (pe_one (pe_cmpR op_eq (pe_callP (ok_draw T) (hr.mono (by decide)) (by rfl) T.g__law_draw T.F__law_draw.kp (bd_draw T) pass0 (pa_cons (pv 0) (pa_cons pe_int pa_nil))) pe_int (nomark _))))))
      (pss_cons (ps_for PassesOwn.never rfl (pi_range1 (by rfl) T.n_range (pa_cons (pv 1) pa_nil)) (pg_name (i := 9) scNames.nd rfl (Or.inl rfl))
        (pss_cons (ps_set (i := 10) scNames.nd rfl (Or.inl rfl) (pe_op op_add_str (pe_ix ix_str (pv 2) (pe_op op_mod (pe_callTy call_int1 (by rfl) T.n_int (by decide +kernel) (pa_cons (pe_op op_add (pv 6) (pv 9)) pa_nil)) pe_int) (fun _ _ => rfl))
          (pe_via (pe_ifExp (pt_cmpR op_lt (pv 9) pe_int (nomark _)) pe_str (pe_ix ix_str (pv 2) (pe_op op_fdiv (pv 9) pe_int) (fun _ _ => rfl))))))
        (pss_cons (ps_set (i := 11) scNames.nd rfl (Or.inl rfl) (pe_via (pe_ifExp (pt_val (pv 8)) (pe_slice sl_list (pv 3) (po_some (pv 5)) po_none)
          (pe_slice sl_list (pv 3) (po_some (pv 5)) (po_some (pe_op op_add (pv 5) (pe_callP (ok_draw T) (hr.mono (by decide)) (by rfl) T.g__law_draw T.F__law_draw.kp (bd_draw T) pass0 (pa_cons (pv 0) (pa_cons pe_int pa_nil)))))))))
        (pss_one (ps_expr (pe_bm PySem.F.plainAttrs_list PySem.F.slot_list_append PySem.F.type_list_append mt_append (pv 7)
          (pa_cons (pe_join pe_str (pe_op op_cat (pe_op op_cat (pe_slice sl_list (pv 3) po_none (po_some (pv 5))) (pe_lst (pa_cons (pv 10) pa_nil))) (pv 11))) pa_nil)))))))
      (pss_one (ps_ret (pe_callP (ok_mixed T) hr (by rfl) T.g__law_mixed T.F__law_mixed.kp (bd_mixed T) pass0 (pa_cons (pv 0) (pa_cons (pv 7) pa_nil)))))))))), ?_⟩
    refine ⟨_, rfl, (by show 5 ≤ sizeLine; decide), fun p1 n1 => ?_⟩
    have m1 := dh.fresh n1
    have k1 := (KD.refl dh).new (o := .lst [.int 0, .int 0, .int 1, .int 3, .int 6]) n1
    refine ⟨q, c, _, rfl, k1.2, .inl ⟨p1, _, rfl, upd_same, m1, by decide, by decide, fun H1 i1 v1 kd1 e1 => ?_⟩⟩
    obtain ⟨st, hst, rfl⟩ := ints_nat (ns := [0, 0, 1, 3, 6]) e1 rfl
    have hst6 : st ≤ 6 := by simp at hst; omega
    have k2 := k1.trans kd1
    refine ⟨_, rfl, by omega, by omega, fun D nD => ?_⟩
    rw [Int.toNat_natCast]
    have mD := k2.2.fresh nD
    have nD0 := k2.1.free dh nD k2.2
    refine lc_it walk_range (fun i H' => KD q c H1 H' ∧ ∃ cs : List Nat, H' D = some (.lst (cs.map oneV)) ∧ cs.length = i ∧ ∀ c ∈ cs, c ∈ letters.cps.toList) ⟨(KD.refl k2.2).new nD, [], upd_same, rfl, fun _ z => nomatch z⟩ (fun _ _ _ _ => trivial) ?_ ?_
    · rintro i x H4 H5 hi ⟨kd, cs, hD, la, ha⟩ ⟨rfl, rfl⟩
      refine ⟨rfl, _, rfl, _, rfl, q, c, _, rfl, kd.2, .inr ⟨letters, rfl, by decide +kernel, by decide +kernel, fun H6 i2 u kd3 e3 => ?_⟩⟩
      refine ⟨_, kd3.at hD mD, by rw [List.length_map]; exact Nat.lt_of_lt_of_le (show cs.length < 7 by omega) (by decide), (kd.trans kd3).upd nD mD, cs ++ [u], by rw [upd_same, List.map_append]; rfl, by rw [List.length_append, List.length_singleton, la], fun h hh => ?_⟩
      rcases List.mem_append.mp hh with z | z
      · exact ha h z
      · rw [List.mem_singleton.mp z]
        exact get_mem e3
    · rintro H4 ⟨kd4, cs, hD, lcs, hcs⟩
      have k3 := k2.trans kd4
      refine ⟨_, rfl, _, rfl, _, _, rfl, .inl ⟨_, SqL.of hD, rfl⟩, _, _, rfl, rfl, q, c, _, rfl, k3.2, by rw [List.length_map]; omega, by rw [List.length_map]; omega, fun H6 r6 kp6 d6 r60 r61 => ?_⟩
      rw [List.length_map] at r61
      obtain ⟨pl, rfl⟩ : ∃ j : Nat, r6 = (j : Int) := ⟨r6.toNat, by omega⟩
      have hpl : pl ≤ cs.length := by omega
      have k4 := k3.trans ⟨kp6, d6⟩
      have hD6 := kp6 D _ hD mD.1 mD.2
      refine ⟨_, rfl, q, c, _, rfl, d6, by decide, by decide, fun H7 r7 kp7 d7 r70 r71 => ?_⟩
      obtain ⟨f, rfl⟩ : ∃ j : Nat, r7 = (j : Int) := ⟨r7.toNat, by omega⟩
      have k5 := k4.trans ⟨kp7, d7⟩
      have hD7 := kp7 D _ hD6 mD.1 mD.2
      refine ⟨Nat.zero_le _, fun F nF => ⟨_, _, _, rfl, ?_⟩⟩
      have mF := k5.2.fresh nF
      have nF0 := k5.1.free dh nF k5.2
      have neDF : D ≠ F := ne_of_none hD7 nF
      have hD8 := (same_upd (o := .lst []) nF) D _ hD7
      have k6 := k5.new (o := .lst []) nF
      refine ⟨fun v H8 => ∃ ev : Bool, v = .bl ev ∧ KD q c H H8 ∧ H8 D = some (.lst (cs.map oneV)) ∧ H8 F = some (.lst []) ∧ (26 < m → ev = true), ?_, ?_⟩
      · refine ⟨_, rfl, _, _, rfl, rfl, _, rfl, ?_⟩
        by_cases hm : 26 < m
        · rw [decide_eq_true (show (m : Int) > 26 by omega)]
          exact iteT ⟨_, rfl, k6, hD8, upd_same, fun _ => rfl⟩
        · rw [decide_eq_false (show ¬ (m : Int) > 26 by omega)]
          refine iteF ⟨_, rfl, q, c, _, rfl, k6.2, by decide, by decide, fun H9 r9 kp9 d9 r90 r91 => ⟨rfl, _, rfl, k6.trans ⟨kp9, d9⟩, kp9 D _ hD8 mD.1 mD.2, kp9 F _ upd_same mF.1 mF.2, fun z => absurd z hm⟩⟩
      rintro _ H8 ⟨ev, rfl, k7, hD9, hF9, hev⟩
      refine ⟨_, rfl, _, rfl, by omega, by omega, ?_⟩
      rw [Int.toNat_natCast]
      refine for_it walk_range (fun i σ H' => ∃ (o1 o2 o3 : Option V) (zs : List Str), σ = [some (.ref q), some (.int (m : Int)), some (.str letters), some (.ref D), none, some (.int (pl : Int)), some (.int (f : Int)), some (.ref F), some (.bl ev), o1, o2, o3] ∧
        KD q c H H' ∧ H' D = some (.lst (cs.map oneV)) ∧ H' F = some (.lst (zs.map V.str)) ∧ zs.length = i ∧ NmOk cs pl f m zs) ⟨_, _, _, [], rfl, k7, hD9, hF9, rfl, ⟨fun i z e => by simp at e⟩⟩ (fun _ _ _ _ _ => trivial) ?_ ?_
      · rintro i x σ H9 H10 hi ⟨o1, o2, o3, zs, rfl, k8, hD10, hF10, lzs, nz⟩ ⟨rfl, rfl⟩
        have hi40 : i < 40 := by omega
        refine ⟨_, rfl, _, rfl, _, rfl, _, _, rfl, rfl, .inl ⟨_, rfl, _, _, rfl, rfl, (by show (0 : Int) < 26; decide), letters, _, lt ((f + i) % 26), rfl, rfl, by decide +kernel, ?_, ?_⟩⟩
        · rw [emod_nat]
          exact atI_nat (lt_at (Nat.mod_lt _ (by decide)))
        refine ⟨fun v H11 => ∃ y : Str, v = .str y ∧ H10 = H11 ∧ tl y = (if i < 26 then [] else [lt (i / 26)]), ?_, ?_⟩
        · refine ⟨_, rfl, _, _, rfl, rfl, _, rfl, ?_⟩
          by_cases h26 : i < 26
          · rw [decide_eq_true (show (0 + (i : Int)) < 26 by omega)]
            exact iteT ⟨_, rfl, rfl, by rw [if_pos h26]; rfl⟩
          · rw [decide_eq_false (show ¬ (0 + (i : Int)) < 26 by omega)]
            refine iteF ⟨_, rfl, _, rfl, _, _, rfl, rfl, ⟨by decide, by decide⟩, letters, _, lt (i / 26), rfl, rfl, by decide +kernel, ?_, _, rfl, rfl, by rw [if_neg h26]⟩
            rw [ediv_nat]
            exact atI_nat (lt_at (by omega))
        rintro _ _ ⟨y, rfl, rfl, hy⟩
        have hsg : tl (one (lt ((f + i) % 26)) ++ y) = sgn f i := by
          show tl (_ ++ _) = _
          rw [show tl (one (lt ((f + i) % 26)) ++ y) = tl (one (lt ((f + i) % 26))) ++ tl y from TL.tl_append _ _, hy]
          rfl
        have hsl : (sgn f i).length ≤ 2 := by
          unfold sgn
          split <;> simp
        have hlen : ((one (lt ((f + i) % 26))).length + y.length ≤ 2) := by
          have h1 := len_tl (one (lt ((f + i) % 26)) ++ y)
          rw [hsg] at h1
          have h2 : (one (lt ((f + i) % 26)) ++ y).length = (one (lt ((f + i) % 26))).length + y.length := by rw [len_tl, len_tl, len_tl, show tl (one (lt ((f + i) % 26)) ++ y) = _ from TL.tl_append _ _, List.length_append]
          omega
        refine ⟨_, _, rfl, rfl, Nat.le_trans hlen (by decide), ?_⟩
        refine ⟨fun v H11 => ∃ (p : Addr) (rs : List Nat), v = .ref p ∧ KD q c H H11 ∧ H11 D = some (.lst (cs.map oneV)) ∧ H11 F = some (.lst (zs.map V.str)) ∧ H11 p = some (.lst (rs.map oneV)) ∧ p ≠ F ∧ (26 < m → rs = cs.drop pl) ∧ (∀ c ∈ rs, c ∈ cs) ∧ rs.length ≤ cs.length - pl, ?_, ?_⟩
        · refine ⟨_, rfl, ev, rfl, ?_⟩
          cases ev with
          | true =>
            refine iteT ⟨_, rfl, _, rfl, _, rfl, _, _, rfl, SqL.of hD10, fun p np => ?_⟩
            refine ⟨p, cs.drop pl, rfl, k8.new np, (same_upd np) _ _ hD10, (same_upd np) _ _ hF10, by rw [upd_same, cut_lo hpl], (ne_of_none hF10 np).symm, fun _ => rfl, fun c hc => List.mem_of_mem_drop hc, by rw [List.length_drop]; exact Nat.le_refl _⟩
          | false =>
            refine iteF ⟨_, rfl, _, rfl, _, rfl, _, rfl, _, rfl, q, c, _, rfl, k8.2, by decide, by decide, fun H11 r11 kp11 d11 r0 r1 => ?_⟩
            obtain ⟨d, rfl⟩ : ∃ j : Nat, r11 = (j : Int) := ⟨r11.toNat, by omega⟩
            obtain ⟨rs, e1, e2, e3⟩ := cut_mid (f := oneV) (cs := cs) (p := pl) (q := pl + d)
            have hD11 := kp11 D _ hD10 mD.1 mD.2
            have hF11 := kp11 F _ hF10 mF.1 mF.2
            refine ⟨_, _, rfl, rfl, _, rfl, _, _, rfl, SqL.of hD11, fun p np => ?_⟩
            refine ⟨p, rs, rfl, (k8.trans ⟨kp11, d11⟩).new np, (same_upd np) _ _ hD11, (same_upd np) _ _ hF11, ?_, (ne_of_none hF11 np).symm, fun z => (by have := hev z; cases this), e2, by rw [Nat.min_eq_left hpl] at e3; exact e3⟩
            rw [upd_same, ← e1]
            rfl
        rintro _ H11 ⟨p, rs, rfl, k9, hD11, hF11, hp11, npF, hr1, hr2, hr3⟩
        have hmp := hp11
        refine ⟨_, rfl, .inl ⟨rfl, _, SqL.of hF11⟩, ⟨_, rfl⟩, _, rfl, _, rfl, _, rfl, _, _, rfl, SqL.of hD11, fun p2 n2 => ?_⟩
        rw [cut_hi hpl]
        refine ⟨_, rfl, (by show 1 ≤ sizeLine; decide), fun p3 n3 => ?_⟩
        have s2 := same_upd (o := .lst ((cs.take pl).map oneV)) n2
        have s3 := same_upd (o := .lst [.str (one (lt ((f + i) % 26)) ++ y)]) n3
        refine ⟨_, _, _, _, rfl, rfl, s3 _ _ upd_same, upd_same, ?_, fun p4 n4 => ?_⟩
        · rw [List.length_map, List.length_take]
          exact Nat.le_trans (show _ + 1 ≤ 7 by omega) (by decide)
        have s4 := same_upd (o := .lst ((cs.take pl).map oneV ++ [.str (one (lt ((f + i) % 26)) ++ y)])) n4
        refine ⟨_, rfl, _, _, _, _, rfl, rfl, upd_same, s4 _ _ (s3 _ _ (s2 _ _ hmp)), ?_, fun p5 n5 => ?_⟩
        · rw [List.length_append, List.length_map, List.length_map, List.length_take, List.length_singleton]
          exact Nat.le_trans (show _ + 1 + _ ≤ 13 by omega) (by decide)
        have s5 := same_upd (o := .lst ((cs.take pl).map oneV ++ [.str (one (lt ((f + i) % 26)) ++ y)] ++ rs.map oneV)) n5
        have ey : ((cs.take pl).map oneV ++ [.str (one (lt ((f + i) % 26)) ++ y)] ++ rs.map oneV) = ((cs.take pl).map one ++ [one (lt ((f + i) % 26)) ++ y] ++ rs.map one).map V.str := by
          rw [List.map_append, List.map_append, List.map_map, List.map_map]
          rfl
        have eg : ((((cs.take pl).map one ++ [one (lt ((f + i) % 26)) ++ y] ++ rs.map one)).map tl).flatten = cs.take pl ++ (sgn f i ++ rs) := by
          rw [List.map_append, List.map_append, List.flatten_append, List.flatten_append, flat_ones, flat_ones, List.append_assoc]
          congr 2
          rw [List.map_singleton, List.flatten_singleton]
          exact hsg
        refine ⟨_, _, (cs.take pl).map one ++ [one (lt ((f + i) % 26)) ++ y] ++ rs.map one, rfl, rfl, .inl (SqL.of (upd_same.trans (congrArg (fun l => some (HO.lst l)) ey))), ?_, ?_⟩
        · rw [lens_flat, eg]
          rw [List.length_append, List.length_append, List.length_take]
          have e0 : (("" : Str)).length = 0 := by decide +kernel
          show _ + _ * (("" : Str)).length ≤ _
          rw [e0]
          omega
        have kx := ((((k9.new n2).new n3).new n4).new (o := .lst ((cs.take pl).map oneV ++ [.str (one (lt ((f + i) % 26)) ++ y)] ++ rs.map oneV)) n5)
        have hFx := s5 _ _ (s4 _ _ (s3 _ _ (s2 _ _ hF11)))
        have hDx := s5 _ _ (s4 _ _ (s3 _ _ (s2 _ _ hD11)))
        refine ⟨F, _, _, rfl, rfl, hFx, by rw [List.length_map]; exact Nat.lt_of_lt_of_le (show zs.length < 41 by omega) (by decide), ?_⟩
        refine ⟨_, _, _, zs ++ [Txt.join ("" : Str) ((cs.take pl).map one ++ [one (lt ((f + i) % 26)) ++ y] ++ rs.map one)], rfl, kx.upd nF0 mF, (upd_ne neDF).trans hDx, ?_, by rw [List.length_append, List.length_singleton, lzs], ⟨fun j z ej => ?_⟩⟩
        · rw [upd_same, List.map_append]
          rfl
        · by_cases hj : j < zs.length
          · rw [List.getElem?_append_left hj] at ej
            exact nz.at_ j z ej
          · have hj2 : j = zs.length := by
              have := (List.getElem?_eq_some_iff.mp ej).1
              rw [List.length_append, List.length_singleton] at this
              omega
            subst hj2
            rw [List.getElem?_append_right (Nat.le_refl _), Nat.sub_self] at ej
            have ez := Option.some.inj ej
            refine ⟨rs, ?_, hr1, hr2, hr3⟩
            rw [← ez, tl_glue (by decide +kernel), eg, lzs]
      · rintro σ H9 ⟨o1, o2, o3, zs, rfl, k8, hD10, hF10, lzs, nz⟩
        refine ⟨_, rfl, _, rfl, q, c, F, _, rfl, k8.2, hF10, by rw [List.length_map]; omega, fun H10 p ys kd10 pm np hp => ?_⟩
        obtain ⟨zs', pz, rfl⟩ := perm_inv pm zs rfl
        refine k H10 p zs' (k8.trans kd10) (k8.1.free dh np k8.2) hp (pz.nodup_iff.mpr (nz.nodup lzs m40)) (fun z hz => nz.names lzs m40 (by omega) hpl hcs z (pz.mem_iff.mp hz)) (by rw [pz.length_eq, lzs])
theorem bd_names (T : Txt K mg) : L2.Binds K (fdOf K (He.ga K "_law_names")) ["_law_heap_here", "_law_many_here"] [] := T.F__law_names.bindsN fun _ _ _ _ _ _ us hl => match us, hl with | [_, _], _ => rfl
end
end K3
set_option maxHeartbeats 6000000
/-! the law's standings. -/
namespace K3
open PySem PySem.Spec PyProof.Rows L2
theorem flat_set : ∀ {rows : List (List Str)} {j : Nat} {r : List Str} (z : Str), rows[j]? = some r → (rows.set j (r ++ [z])).flatten.Perm (rows.flatten ++ [z])
  | [], j, r, z, h => by simp at h
  | x :: t, 0, r, z, h => by
    have e : x = r := by simpa using h
    subst e
    show (x ++ [z] ++ t.flatten).Perm (x ++ t.flatten ++ [z])
    rw [List.append_assoc, List.append_assoc]
    exact (List.perm_append_comm).append_left x
  | x :: t, j + 1, r, z, h => by
    have ih := flat_set (rows := t) (j := j) z (by simpa using h)
    show (x ++ (t.set j (r ++ [z])).flatten).Perm (x ++ t.flatten ++ [z])
    rw [List.append_assoc]
    exact ih.append_left x
def freeB (room : List Nat) (rows : List (List Str)) (j : Nat) : Bool := decide ((rows.getD j []).length < room.getD j 0)
theorem some_free : ∀ {room : List Nat} {rows : List (List Str)}, rows.length = room.length → rows.flatten.length < room.sum → ∃ j, j < room.length ∧ freeB room rows j = true
  | [], [], _, h => by simp at h
  | [], _ :: _, e, _ => by simp at e
  | _ :: _, [], e, _ => by simp at e
  | h :: t, r :: rs, e, hl => by
    by_cases c : r.length < h
    · exact ⟨0, Nat.zero_lt_succ _, decide_eq_true c⟩
    · rw [List.flatten_cons, List.length_append, List.sum_cons] at hl
      obtain ⟨j, h1, h2⟩ := some_free (room := t) (rows := rs) (by simpa using e) (by omega)
      exact ⟨j + 1, Nat.succ_lt_succ h1, by simpa [freeB] using h2⟩
theorem getD_at {α : Type} {l : List α} {i : Nat} {x d : α} (h : l[i]? = some x) : l.getD i d = x := by rw [List.getD_eq_getElem?_getD, h, Option.getD_some]
/-- lists of texts in the heap -/
def RowsAt (H : Hp) (ps : List Addr) (rows : List (List Str)) : Prop := ∀ (j : Nat) (p : Addr) (r : List Str), ps[j]? = some p → rows[j]? = some r → H p = some (.lst (r.map V.str))
theorem has_strs {H : Hp} : ∀ r : List Str, HasAll H (r.map V.str) (r.map PyData.str)
  | [] => .nil
  | z :: r => .cons (.str z) (has_strs r)
theorem refs_at {ps : List Addr} {j : Nat} {v : V} (h : (ps.map V.ref)[j]? = some v) : ∃ p, ps[j]? = some p ∧ v = .ref p := by
  rw [List.getElem?_map] at h
  cases e : ps[j]? with
  | none =>
    rw [e] at h
    cases h
  | some p =>
    rw [e] at h
    exact ⟨p, rfl, (Option.some.inj h).symm⟩
theorem nodup_at {α : Type} {l : List α} (nd : l.Nodup) {i j : Nat} {x : α} (hi : l[i]? = some x) (hj : l[j]? = some x) : i = j := by
  obtain ⟨hi2, ei⟩ := List.getElem?_eq_some_iff.mp hi
  obtain ⟨hj2, ej⟩ := List.getElem?_eq_some_iff.mp hj
  rcases Nat.lt_trichotomy i j with h | h | h
  · exact absurd (ei.trans ej.symm) (List.pairwise_iff_getElem.mp nd i j hi2 hj2 h)
  · exact h
  · exact absurd (ej.trans ei.symm) (List.pairwise_iff_getElem.mp nd j i hj2 hi2 h)
section
variable {w : World} {K : PySem.W.Frag} {mg : Str → Option Value} {base : Heap}
/-! ### _law_laid -/
abbrev rTupOf (K : PySem.W.Frag) : List V → Hp → VK → Prop := fun xs H Q => ∃ p ys, xs = [.ref p] ∧ ((SqL K H p ys ∧ ∀ l, H l = none → Q (.ref l) (upd H l (.tup ys))) ∨ (SqT K H p ys ∧ Q (.ref p) H))
def spLaid : Sp := fun vs H Q _ => ∃ (q c a b : Addr) (room : List Nat) (zs : List Str), vs = [.ref q, .ref a, .ref b] ∧ DH q c H ∧ H a = some (.lst (vi room)) ∧ (a ≠ q ∧ a ≠ c) ∧ H b = some (.lst (zs.map V.str)) ∧ (b ≠ q ∧ b ≠ c) ∧ room.length ≤ 12 ∧ zs.length ≤ 40 ∧ zs.length ≤ room.sum ∧
  ∀ H' p rows, KD q c H H' → Has H' (.ref p) (dSt rows) → rows.length = room.length → (∀ (i : Nat) (r : List Str) (h : Nat), rows[i]? = some r → room[i]? = some h → r.length ≤ h) → rows.flatten.Perm zs → Q (.ref p) H'
abbrev nLaid : List Str := ["_law_heap_here", "_law_heights_here", "_law_names_here", "_law_rows", "_law_name", "_law_row", "_law_height", "_law_at"]
theorem scLaid : FnScope nLaid ["_law_heap_here", "_law_heights_here", "_law_names_here"] (defScope sLLaid) := ⟨rfl, rfl, rfl, by decide +kernel, rfl, by decide +kernel, by decide +kernel⟩
theorem ok_laid (T : Txt K mg) : FnOk PP w K mg base CX0 3 (He.ga K "_law_laid") (fdOf K (He.ga K "_law_laid")) ["_law_heap_here", "_law_heights_here", "_law_names_here"] spLaid := by
  refine T.F__law_laid.ok scLaid (fun vs H Q E h => ?_) (fun cdv A outer s H vs Q E hr h => ?_)
  · obtain ⟨q, c, a, b, room, zs, rfl, _⟩ := h
    rfl
  · obtain ⟨q, c, a, b, room, zs, rfl, dh, ha, ma, hb, mb, r12, z40, zr, k⟩ := h
    refine ⟨_, PSs.nox (pss_cons (ps_set (i := 3) scLaid.nd rfl (Or.inr rfl) (pe_lc (own := [("_law_height", 6)]) (g := gName 6) (tt := tYes) rfl scLaid.nd (pi_list (pv 1))
        (blkOk_by (N := nLaid) (sc := defScope sLLaid) (by decide +kernel))
        (fun _ _ _ _ _ => pg_name (i := 6) scLaid.nd rfl (Or.inl rfl)) (fun _ _ _ _ _ => pts_nil)
        (fun _ _ _ _ _ => pe_lst pa_nil)))
      (pss_cons (ps_for PassesOwn.never rfl (pi_list (pv 2)) (pg_name (i := 4) scLaid.nd rfl (Or.inl rfl))
        (pss_cons (ps_set (i := 5) scLaid.nd rfl (Or.inl rfl) (pe_ix ix_list (pv 3) (pe_callP (ok_pick T) hr (by rfl) T.g__law_pick T.F__law_pick.kp (bd_pick T) pass0 (pa_cons (pv 0) (pa_cons
          (pe_lc (own := [("_law_at", 7)]) (g := gName 7) rfl scLaid.nd (pi_range1 (by rfl) T.n_range (pa_cons (pe_callB call_len (by rfl) T.n_len (by decide +kernel) (pa_cons (pv 1) pa_nil)) pa_nil))
            (blkOk_by (N := nLaid) (sc := defScope sLLaid) (by decide +kernel))
            (fun _ _ _ _ _ => pg_name (i := 7) scLaid.nd rfl (Or.inl rfl))
            (tt := tTest (tOp (rI0 fun i j => .bl (decide (i < j))) (tCB (rLen K) (tCons (tOp (rIxL K) (tVar 3) (tVar 7)) tNil)) (tOp (rIxL K) (tVar 1) (tVar 7))))
            (fun _ _ _ _ _ => pts_one (pt_cmpR op_lt (pe_callB call_len (by rfl) T.n_len (by decide +kernel) (pa_cons (pe_ix ix_list (pv 3) (pv 7) (fun _ _ => rfl)) pa_nil)) (pe_ix ix_list (pv 1) (pv 7) (fun _ _ => rfl)) rfl))
            (fun _ _ _ _ _ => pv 7)) pa_nil))) (fun _ _ => rfl)))
        (pss_one (ps_expr (pe_bm PySem.F.plainAttrs_list PySem.F.slot_list_append PySem.F.type_list_append mt_append (pv 5) (pa_cons (pv 4) pa_nil))))))
      (pss_one (ps_ret (pe_callTy call_tuple_of (by rfl) T.n_tuple (by decide +kernel) (pa_cons
        (pe_lc (own := [("_law_row", 5)]) (g := gName 5) (tt := tYes) (te := tCB (rTupOf K) (tCons (tVar 5) tNil)) rfl scLaid.nd (pi_list (pv 3))
          (blkOk_by (N := nLaid) (sc := defScope sLLaid) (by decide +kernel))
          (fun _ _ _ _ _ => pg_name (i := 5) scLaid.nd rfl (Or.inl rfl)) (fun _ _ _ _ _ => pts_nil)
          (fun _ _ _ _ _ => pe_callTy call_tuple_of (by rfl) T.n_tuple (by decide +kernel) (pa_cons (pv 5) pa_nil))) pa_nil)))))), ?_⟩
    refine ⟨_, rfl, a, rfl, ⟨_, SqL.of ha⟩, fun R nR => ?_⟩
    have mR := dh.fresh nR
    refine lc_it walk_list (PvG H R fun i acc H' => ∃ ps : List Addr, acc = ps.map V.ref ∧ ps.length = i ∧ ps.Nodup ∧ ∀ p ∈ ps, H' p = some (.lst []) ∧ H p = none ∧ p ≠ R) (PvG.zero nR ⟨[], rfl, rfl, List.nodup_nil, fun _ z => nomatch z⟩) (fun i H' _ z => SqL.of (z.1 _ _ ha)) ?_ ?_
    · rintro i x H1 H2 hi ⟨z, acc, hD, la, ps, rfl, lp, nd, hp⟩ ⟨rfl, e2⟩
      rw [vi_len] at hi
      refine ⟨rfl, Nat.zero_le _, fun p np => ?_⟩
      have np0 : H p = none := z.free np
      have sp := same_upd (o := .lst []) np
      have npR : p ≠ R := (ne_of_none hD np).symm
      refine PvG.add nR z hD la (by omega) sp ⟨ps ++ [p], by rw [List.map_append]; rfl, by rw [List.length_append, List.length_singleton, lp], ?_, fun u hu => ?_⟩
      · rw [List.nodup_append]
        refine ⟨nd, by simp, fun x hx y hy e => ?_⟩
        rw [List.mem_singleton.mp hy] at e
        rw [e] at hx
        rw [(hp p hx).1] at np
        cases np
      · rcases List.mem_append.mp hu with h | h
        · obtain ⟨h1, h2, h3⟩ := hp u h
          exact ⟨(upd_ne h3).trans (sp _ _ h1), h2, h3⟩
        · rw [List.mem_singleton.mp h]
          exact ⟨(upd_ne npR).trans upd_same, np0, npR⟩
    · rintro H1 ⟨z, acc, hR, la, ps, rfl, lp, nd, hp⟩
      rw [vi_len] at lp
      have k1 : KD q c H H1 := (KD.refl dh).same z
      refine ⟨_, rfl, b, rfl, ⟨_, SqL.of (z _ _ hb)⟩, ?_⟩
      refine for_it walk_list (fun i σ H' => ∃ (o1 o2 o3 o4 : Option V) (rows : List (List Str)), σ = [some (.ref q), some (.ref a), some (.ref b), some (.ref R), o1, o2, o3, o4] ∧ KD q c H H' ∧ H' R = some (.lst (ps.map V.ref)) ∧ rows.length = room.length ∧ RowsAt H' ps rows ∧
        (∀ (i : Nat) (r : List Str) (h : Nat), rows[i]? = some r → room[i]? = some h → r.length ≤ h) ∧ rows.flatten.Perm (zs.take i)) ?_ (fun i σ H' _ ⟨_, _, _, _, _, _, kd, _⟩ => SqL.of (kd.at hb mb)) ?_ ?_
      · refine ⟨_, _, _, _, List.replicate room.length [], rfl, k1, hR, by rw [List.length_replicate], fun j p r e1 e2 => ?_, fun i r h e1 _ => ?_, ?_⟩
        · rw [List.getElem?_replicate] at e2
          split at e2
          · cases e2
            exact (hp p (get_mem e1)).1
          · cases e2
        · rw [List.getElem?_replicate] at e1
          split at e1
          · cases e1
            exact Nat.zero_le _
          · cases e1
        · rw [List.flatten_replicate_nil]
          exact .refl _
      · rintro i x σ H2 H3 hi ⟨o1, o2, o3, o4, rows, rfl, kd, hR2, lr, ra, fit, pm⟩ ⟨rfl, e2⟩
        obtain ⟨zn, hzn, rfl⟩ := strs_at e2
        rw [List.length_map] at hi
        have ha2 := kd.at ha ma
        refine ⟨_, rfl, _, rfl, _, rfl, _, room.length, rfl, .inl ⟨_, SqL.of ha2, (vi_len room).symm⟩, _, rfl, by omega, by omega, fun D nD => ?_⟩
        rw [Int.toNat_natCast]
        have rowAt : ∀ {j : Nat}, j < room.length → ∃ p r, ps[j]? = some p ∧ rows[j]? = some r := fun {j} hj =>
          ⟨_, _, List.getElem?_eq_getElem (show j < ps.length by omega), List.getElem?_eq_getElem (show j < rows.length by omega)⟩
        refine lc_it walk_range (PvG H3 D fun i acc _ => acc = vi ((List.range i).filter (freeB room rows))) (PvG.zero nD rfl) (fun _ _ _ _ => trivial) ?_ ?_
        · rintro j x H4 H5 hj ⟨z4, acc, hD, la4, rfl⟩ ⟨rfl, rfl⟩
          obtain ⟨p, r, e3, e4⟩ := rowAt hj
          have e5 : room[j]? = some room[j] := List.getElem?_eq_getElem hj
          have hrow := z4 _ _ (ra j p r e3 e4)
          have e3' : (ps.map V.ref)[j]? = some (.ref p) := by rw [List.getElem?_map, e3]; rfl
          refine ⟨rfl, _, rfl, _, rfl, R, _, _, .ref p, rfl, rfl, SqL.of (z4 _ _ hR2), by rw [Int.zero_add]; exact atI_nat e3', _, (r.map V.str).length, rfl, .inl ⟨_, SqL.of hrow, rfl⟩, _, rfl, _, rfl, a, _, _, .int ((room[j] : Nat) : Int), rfl, rfl, SqL.of (z4 _ _ ha2), by rw [Int.zero_add]; exact atI_nat (vi_at e5), _, _, rfl, rfl, _, rfl, ?_⟩
          have hf : freeB room rows j = decide (r.length < room[j]) := by
            unfold freeB
            rw [getD_at e4, getD_at e5]
          by_cases hc : r.length < room[j]
          · rw [decide_eq_true (show (((r.map V.str).length : Nat) : Int) < ((room[j] : Nat) : Int) by rw [List.length_map]; omega)]
            refine iteT ⟨_, rfl, ?_⟩
            refine PvG.add nD z4 hD la4 (by omega) (Same.refl _) ?_
            rw [List.range_succ, List.filter_append, List.filter_cons, hf, decide_eq_true hc, if_pos rfl, List.filter_nil]
            unfold vi
            rw [List.map_append]
            show _ ++ [V.int (0 + (j : Int))] = _ ++ [V.int (j : Int)]
            rw [Int.zero_add]
          · rw [decide_eq_false (show ¬ (((r.map V.str).length : Nat) : Int) < ((room[j] : Nat) : Int) by rw [List.length_map]; omega)]
            refine iteF (PvG.skip z4 hD la4 (Same.refl _) ?_)
            rw [List.range_succ, List.filter_append, List.filter_cons, hf, decide_eq_false hc, if_neg Bool.false_ne_true, List.filter_nil, List.append_nil]
        · rintro H4 ⟨z4, acc, hD, la4, rfl⟩
          have k4 := kd.same z4
          have mD := kd.2.fresh nD
          have hfl : rows.flatten.length = i := by
            rw [pm.length_eq, List.length_take]
            omega
          obtain ⟨j0, hj0, hfj⟩ := some_free (room := room) (rows := rows) lr (by omega)
          have hne : 0 < (vi ((List.range room.length).filter (freeB room rows))).length := by
            rw [vi_len]
            exact List.length_pos_of_mem (List.mem_filter.mpr ⟨List.mem_range.mpr hj0, hfj⟩)
          refine ⟨q, c, _, rfl, k4.2, .inl ⟨D, _, rfl, hD, mD, hne, by omega, fun H5 i5 v5 kd5 e5 => ?_⟩⟩
          obtain ⟨f, hf, rfl⟩ := ints_nat e5 rfl
          obtain ⟨hf1, hf2⟩ := List.mem_filter.mp hf
          have hfr := List.mem_range.mp hf1
          obtain ⟨p, r, e3, e4⟩ := rowAt hfr
          have e6 : room[f]? = some room[f] := List.getElem?_eq_getElem hfr
          have hlt : r.length < room[f] := by
            unfold freeB at hf2
            rw [getD_at e4, getD_at e6] at hf2
            exact of_decide_eq_true hf2
          have k5 := k4.trans kd5
          have keep : ∀ {u : Addr} {o : HO}, H3 u = some o → u ≠ q ∧ u ≠ c → H5 u = some o := fun h m => kd5.at (z4 _ _ h) m
          have hpin := hp p (get_mem e3)
          have mp := dh.fresh hpin.2.1
          have e3' : (ps.map V.ref)[f]? = some (.ref p) := by rw [List.getElem?_map, e3]; rfl
          have hrow := keep (ra f p r e3 e4) mp
          refine ⟨R, _, _, _, rfl, rfl, SqL.of (keep hR2 mR), atI_nat e3', ?_⟩
          refine ⟨_, rfl, .inl ⟨rfl, _, SqL.of hrow⟩, _, rfl, p, _, _, rfl, rfl, hrow, ?_, ?_⟩
          · rw [List.length_map]
            have := (List.length_flatten (L := rows))
            have h1 := le_sum (l := rows.map List.length) (i := f) (h := r.length) (by rw [List.getElem?_map, e4]; rfl)
            exact Nat.lt_of_lt_of_le (show r.length < 41 by omega) (by decide)
          · refine ⟨_, _, _, _, rows.set f (r ++ [zn]), rfl, k5.upd hpin.2.1 mp, (upd_ne hpin.2.2.symm).trans (keep hR2 mR), by rw [List.length_set]; exact lr, fun j p' r' g1 g2 => ?_, fun j r' h' g1 g2 => ?_, ?_⟩
            · rw [List.getElem?_set] at g2
              split at g2
              · rename_i hjf
                subst hjf
                split at g2
                · cases g2
                  rw [e3] at g1
                  cases g1
                  rw [upd_same, List.map_append]
                  rfl
                · cases g2
              · rename_i hjf
                have hne : p' ≠ p := fun e => hjf (nodup_at nd e3 (by rw [← e]; exact g1))
                rw [upd_ne hne]
                exact keep (ra j p' r' g1 g2) (dh.fresh (hp p' (get_mem g1)).2.1)
            · rw [List.getElem?_set] at g1
              split at g1
              · rename_i hjf
                subst hjf
                split at g1
                · cases g1
                  rw [e6] at g2
                  cases g2
                  rw [List.length_append, List.length_singleton]
                  exact hlt
                · cases g1
              · exact fit j r' h' g1 g2
            · rw [take_more hzn]
              exact (flat_set zn e4).trans (pm.append_right [zn])
      · rintro σ H2 ⟨o1, o2, o3, o4, rows, rfl, kd, hR2, lr, ra, fit, pm⟩
        rw [List.length_map, List.take_length] at pm
        refine ⟨_, rfl, R, rfl, ⟨_, SqL.of hR2⟩, fun D nD => ?_⟩
        have hnR : R ≠ D := ne_of_none hR2 nD
        refine lc_it walk_list (PvG H2 D fun i acc H' => HasAll H' acc ((rows.take i).map dRow)) (PvG.zero nD .nil) (fun i H' _ z => SqL.of (z.1 _ _ hR2)) ?_ ?_
        · rintro i x H3 H4 hi ⟨z3, acc, hD, la3, hall⟩ ⟨rfl, e2⟩
          obtain ⟨p, e3, rfl⟩ := refs_at e2
          rw [List.length_map] at hi
          have e4 : rows[i]? = some rows[i] := List.getElem?_eq_getElem (show i < rows.length by omega)
          refine ⟨rfl, _, rfl, p, _, rfl, .inl ⟨SqL.of (z3 _ _ (ra i p _ e3 e4)), fun l nl => ?_⟩⟩
          have sl := same_upd (o := .tup ((rows[i]).map V.str)) nl
          refine PvG.add nD z3 hD la3 (by omega) sl ?_
          rw [take_more e4, List.map_append]
          refine (HasAll.to ((TupK.same sl).trans (tupK_lst (sl _ _ hD))) hall).app (.one (Has.to (tupK_lst (sl _ _ hD)) (.tup upd_same (has_strs _))))
        · rintro H3 ⟨z3, acc, hD, la3, hall⟩
          refine ⟨D, _, rfl, .inl ⟨SqL.of hD, fun l nl => ?_⟩⟩
          rw [List.length_map, lp, ← lr, List.take_length] at hall
          refine k _ l rows ((kd.same z3).new nl) (.tup upd_same (HasAll.to (tupK_new nl) hall)) lr fit pm
theorem bd_laid (T : Txt K mg) : L2.Binds K (fdOf K (He.ga K "_law_laid")) ["_law_heap_here", "_law_heights_here", "_law_names_here"] [] := T.F__law_laid.bindsN fun _ _ _ _ _ _ us hl => match us, hl with | [_, _, _], _ => rfl
end
end K3
set_option maxHeartbeats 6000000
/-! the law's numbers of boxes, all places, deep places. -/
namespace K3
open PySem PySem.Spec PyProof.Rows L2
def allN (hs : List Nat) : List ((Nat × Nat) × Nat) := cat (fun s h => (List.range h).map fun l => ((s, l), h - l - 1)) hs
def dAll (x : (Nat × Nat) × Nat) : PyData := .tuple [dPl x.1, .int (x.2 : Int)]
theorem range_filter (m : Nat) : ∀ h : Nat, m ≤ h → (List.range h).filter (fun l => decide (l < m)) = List.range m
  | 0, hm => by
    have : m = 0 := by omega
    subst this
    rfl
  | h + 1, hm => by
    rw [List.range_succ, List.filter_append, List.filter_cons, List.filter_nil]
    by_cases e : m = h + 1
    · subst e
      rw [decide_eq_true (Nat.lt_succ_self h), if_pos rfl, List.range_succ]
      congr 1
      exact List.filter_eq_self.mpr fun x hx => decide_eq_true (Nat.lt_succ_of_lt (List.mem_range.mp hx))
    · rw [decide_eq_false (show ¬ h < m by omega), if_neg Bool.false_ne_true, List.append_nil]
      exact range_filter m h (by omega)
theorem deep_row_eq (s h f : Nat) : (((List.range h).map fun l => ((s, l), h - l - 1)).filter (fun x => decide (f ≤ x.2))).map (·.1) = (List.range (h - f)).map fun l => (s, l) := by
  rw [List.filter_map, List.map_map, ← range_filter (h - f) h (by omega)]
  have : List.filter ((fun x : (Nat × Nat) × Nat => decide (f ≤ x.2)) ∘ fun l => ((s, l), h - l - 1)) (List.range h) = (List.range h).filter (fun l => decide (l < h - f)) := by
    refine List.filter_congr fun l hl => ?_
    have := List.mem_range.mp hl
    exact decide_eq_decide.mpr ⟨fun q => by show l < h - f; dsimp only at q; omega, fun q => by show f ≤ h - l - 1; omega⟩
  rw [this]
  rfl
theorem cat_fm {α β : Type} (F : Nat → Nat → List α) (p : α → Bool) (g : α → β) (hs : List Nat) : ((cat F hs).filter p).map g = cat (fun s h => ((F s h).filter p).map g) hs := by
  unfold cat
  rw [List.filter_flatMap, List.map_flatMap]
theorem deep_all (hs : List Nat) (f : Nat) : ((allN hs).filter (fun x => decide (f ≤ x.2))).map (·.1) = deepN hs f := by
  unfold allN deepN
  rw [cat_fm]
  congr 1
  funext s h
  exact deep_row_eq s h f
theorem all_inv {H : Hp} {v : V} {x : (Nat × Nat) × Nat} (h : Has H v (dAll x)) : ∃ t u, v = .ref t ∧ H t = some (.tup [.ref u, .int (x.2 : Int)]) ∧ H u = some (.tup [.int (x.1.1 : Int), .int (x.1.2 : Int)]) := by
  unfold dAll at h
  cases h with
  | tup h1 h2 =>
    cases h2 with
    | cons a b =>
      cases b with
      | cons c d =>
        cases d
        cases c
        obtain ⟨u, rfl, hu⟩ := pl_inv a
        exact ⟨_, u, rfl, h1, hu⟩
theorem all_len (hs : List Nat) : (allN hs).length = hs.sum := by
  unfold allN cat
  have key : ∀ (hs : List Nat) (s : Nat), ((hs.zipIdx s).flatMap fun p => (List.range p.1).map fun l => ((p.2, l), p.1 - l - 1)).length = hs.sum := by
    intro hs
    induction hs with
    | nil => intro s; rfl
    | cons h t ih =>
      intro s
      rw [List.zipIdx_cons, List.flatMap_cons, List.length_append, List.sum_cons, ih, List.length_map, List.length_range]
  exact key hs 0
theorem mem_all {hs : List Nat} {x : (Nat × Nat) × Nat} : x ∈ allN hs ↔ ∃ h, hs[x.1.1]? = some h ∧ x.1.2 < h ∧ x.2 = h - x.1.2 - 1 := by
  unfold allN
  rw [mem_cat]
  constructor
  · rintro ⟨s, h, e, hx⟩
    obtain ⟨l, hl, rfl⟩ := List.mem_map.mp hx
    exact ⟨h, e, List.mem_range.mp hl, rfl⟩
  · rintro ⟨h, e, hl, e2⟩
    exact ⟨x.1.1, h, e, List.mem_map.mpr ⟨x.1.2, List.mem_range.mpr hl, by rw [← e2]⟩⟩
section
variable {w : World} {K : PySem.W.Frag} {mg : Str → Option Value} {base : Heap}
/-! ### _law_many -/
def spMany : Sp := fun vs H Q _ => ∃ (q c a : Addr) (hs : List Nat) (most : Nat), vs = [.ref q, .ref a, .int (most : Int)] ∧ DH q c H ∧ H a = some (.lst (vi hs)) ∧ (a ≠ q ∧ a ≠ c) ∧ HtOk hs ∧
  ∀ H' (m : Nat), KD q c H H' → m ≤ hs.sum → m ≤ most → Q (.int (m : Int)) H'
theorem scMany : FnScope ["_law_heap_here", "_law_heights_here", "_law_most", "_law_total"] ["_law_heap_here", "_law_heights_here", "_law_most"] (defScope sLMany) := ⟨rfl, rfl, rfl, by decide +kernel, rfl, by decide +kernel, by decide +kernel⟩
theorem sum3 {hs : List Nat} (ho : HtOk hs) : 3 ≤ hs.sum := by
  obtain ⟨h1, h2, h3⟩ := ho
  match hs, h1, h3 with
  | a :: b :: c :: r, _, h3 =>
    have ha := (h3 a (by simp)).1
    have hb := (h3 b (by simp)).1
    have hc := (h3 c (by simp)).1
    simp only [List.sum_cons]
    omega
  | [], h1, _ => simp at h1
  | [_], h1, _ => simp at h1
  | [_, _], h1, _ => simp at h1
theorem ok_many (T : Txt K mg) : FnOk PP w K mg base CX0 3 (He.ga K "_law_many") (fdOf K (He.ga K "_law_many")) ["_law_heap_here", "_law_heights_here", "_law_most"] spMany := by
  refine T.F__law_many.ok scMany (fun vs H Q E h => ?_) (fun cdv A outer s H vs Q E hr h => ?_)
  · obtain ⟨q, c, a, hs, most, rfl, _⟩ := h
    rfl
  · obtain ⟨q, c, a, hs, most, rfl, dh, ha, ma, ho, k⟩ := h
    refine ⟨_, PSs.nox (pss_cons (ps_set (i := 3) scMany.nd rfl (Or.inl rfl) (pe_callB (cr_sum rfl) (by rfl) T.n_sum (by decide +kernel) (pa_cons (pv 1) pa_nil)))
      (pss_one (ps_ret (pe_callB (call_min2 rfl) (by rfl) T.n_min (by decide +kernel) (pa_cons (pv 2) (pa_cons (pe_callP (ok_pick T) hr (by rfl) T.g__law_pick T.F__law_pick.kp (bd_pick T) pass0 (pa_cons (pv 0) (pa_cons
        (pe_lst (pa_cons pe_int (pa_cons (pv 3) (pa_cons (pe_op op_sub (pv 3) pe_int) (pa_cons (pe_op op_sub (pv 3) pe_int)
          (pa_cons (pe_callP (ok_draw T) (hr.mono (by decide)) (by rfl) T.g__law_draw T.F__law_draw.kp (bd_draw T) pass0 (pa_cons (pv 0) (pa_cons (pe_op op_add (pv 3) pe_int) pa_nil)))
          (pa_cons (pe_callP (ok_draw T) (hr.mono (by decide)) (by rfl) T.g__law_draw T.F__law_draw.kp (bd_draw T) pass0 (pa_cons (pv 0) (pa_cons (pe_op op_add (pv 3) pe_int) pa_nil))) pa_nil))))))) pa_nil))) pa_nil)))))), ?_⟩
    have h3 := sum3 ho
    have h144 := ho.tot
    refine ⟨_, rfl, a, _, rfl, SqL.of (by rw [← vi_ints]; exact ha), ?_⟩
    rw [sum_cast]
    refine ⟨_, rfl, _, rfl, _, rfl, _, rfl, _, _, rfl, rfl, _, rfl, _, _, rfl, rfl, _, rfl, _, rfl, _, _, rfl, rfl, q, c, _, rfl, dh, by omega, by omega, fun H1 r1 kp1 d1 r10 r11 => ?_⟩
    refine ⟨_, rfl, _, rfl, _, _, rfl, rfl, q, c, _, rfl, d1, by omega, by omega, fun H2 r2 kp2 d2 r20 r21 => ?_⟩
    have k2 : KD q c H H2 := ⟨kp1.trans kp2, d2⟩
    refine ⟨(by show 6 ≤ sizeLine; decide), fun p np => ?_⟩
    refine ⟨q, c, _, rfl, (k2.new np).2, .inl ⟨p, _, rfl, upd_same, k2.2.fresh np, (by show 0 < 6; decide), (by show 6 < 1000000; decide), fun H3 i v kd3 e3 => ?_⟩⟩
    have hv : ∃ m : Nat, v = .int (m : Int) ∧ m ≤ hs.sum := by
      have hm := get_mem e3
      simp only [List.mem_cons, List.not_mem_nil, or_false] at hm
      rcases hm with h | h | h | h | h | h
      · exact ⟨0, h, Nat.zero_le _⟩
      · exact ⟨hs.sum, h, Nat.le_refl _⟩
      · exact ⟨hs.sum - 1, by rw [h]; congr 1; omega, by omega⟩
      · exact ⟨hs.sum - 2, by rw [h]; congr 1; omega, by omega⟩
      · exact ⟨r1.toNat, by rw [h]; congr 1; omega, by omega⟩
      · exact ⟨r2.toNat, by rw [h]; congr 1; omega, by omega⟩
    obtain ⟨m, rfl, hm⟩ := hv
    refine ⟨_, _, rfl, ?_⟩
    have kk := (k2.new (o := .lst [.int 0, .int ((hs.sum : Nat) : Int), .int (((hs.sum : Nat) : Int) - 1), .int (((hs.sum : Nat) : Int) - 2), .int r1, .int r2]) np).trans kd3
    split
    · exact k H3 m kk hm (by omega)
    · exact k H3 most kk (by omega) (Nat.le_refl _)
theorem bd_many (T : Txt K mg) : L2.Binds K (fdOf K (He.ga K "_law_many")) ["_law_heap_here", "_law_heights_here", "_law_most"] [] := T.F__law_many.bindsN fun _ _ _ _ _ _ us hl => match us, hl with | [_, _, _], _ => rfl
/-! ### _law_all_places -/
def spAll : Sp := fun vs H Q _ => ∃ (a : Addr) (hs : List Nat), vs = [.ref a] ∧ H a = some (.lst (vi hs)) ∧ HtOk hs ∧ ∀ H' p xs, Same H H' → H p = none → H' p = some (.lst xs) → HasAll H' xs ((allN hs).map dAll) → Q (.ref p) H'
abbrev nAll : List Str := ["_law_heights_here", "_law_found", "_law_at", "_law_level"]
theorem scAll : FnScope nAll ["_law_heights_here"] (defScope sLAllPlaces) := ⟨rfl, rfl, rfl, by decide +kernel, rfl, by decide +kernel, by decide +kernel⟩
theorem ok_all (T : Txt K mg) : FnOk PP w K mg base CX0 1 (He.ga K "_law_all_places") (fdOf K (He.ga K "_law_all_places")) ["_law_heights_here"] spAll := by
  refine T.F__law_all_places.ok scAll (fun vs H Q E h => ?_) (fun cdv A outer s H vs Q E hr h => ?_)
  · obtain ⟨a, hs, rfl, _⟩ := h
    rfl
  · obtain ⟨a, hs, rfl, ha, ho, k⟩ := h
    refine ⟨_, PSs.nox (pss_cons (ps_set (i := 1) scAll.nd rfl (Or.inl rfl) (pe_lst pa_nil))
      (pss_cons (ps_for PassesOwn.never rfl (pi_range1 (by rfl) T.n_range (pa_cons (pe_callB call_len (by rfl) T.n_len (by decide +kernel) (pa_cons (pv 0) pa_nil)) pa_nil)) (pg_name (i := 2) scAll.nd rfl (Or.inr rfl))
        (pss_one (ps_set (i := 1) scAll.nd rfl (Or.inl rfl) (pe_op op_cat (pv 1)
          (pe_lc (own := [("_law_level", 3)]) (g := gName 3) (tt := tYes) (te := tTup (tCons (tTup (tCons (tVar 2) (tCons (tVar 3) tNil))) (tCons (tOp (rI0 fun i j => .int (i - j)) (tOp (rI0 fun i j => .int (i - j)) (tOp (rIxL K) (tVar 0) (tVar 2)) (tVar 3)) (tC (.int 1))) tNil)))
            rfl scAll.nd (pi_range1 (by rfl) T.n_range (pa_cons (pe_ix ix_list (pv 0) (pv 2) (fun _ _ => rfl)) pa_nil))
            (blkOk_by (N := nAll) (sc := defScope sLAllPlaces) (by decide +kernel))
            (fun _ _ _ _ _ => pg_name (i := 3) scAll.nd rfl (Or.inl rfl)) (fun _ _ _ _ _ => pts_nil)
            (fun _ _ _ _ _ => pe_tup (pa_cons (pe_tup (pa_cons (pv 2) (pa_cons (pv 3) pa_nil))) (pa_cons (pe_op op_sub (pe_op op_sub (pe_ix ix_list (pv 0) (pv 2) (fun _ _ => rfl)) (pv 3)) pe_int) pa_nil))))))))
      (pss_one (ps_ret (pv 1))))), ?_⟩
    refine ⟨Nat.zero_le _, fun p0 np0 => ?_⟩
    have s0 := same_upd (o := .lst []) np0
    refine ⟨_, rfl, _, (vi hs).length, rfl, .inl ⟨_, SqL.of (s0 _ _ ha), rfl⟩, _, rfl, by rw [vi_len]; have := ho.hi; omega, by rw [vi_len]; have := ho.hi; omega, ?_⟩
    rw [Int.toNat_natCast, vi_len]
    have h12 := ho.hi
    refine for_it walk_range (fun i σ H' => ∃ (o2 o3 : Option V) (p : Addr) (xs : List V), σ = [some (.ref a), some (.ref p), o2, o3] ∧ Same H H' ∧ H p = none ∧ H' p = some (.lst xs) ∧ HasAll H' xs ((allN (hs.take i)).map dAll)) ⟨_, _, p0, [], rfl, s0, np0, upd_same, .nil⟩ (fun _ _ _ _ _ => trivial) ?_ ?_
    · rintro i x σ H1 H2 hi ⟨o2, o3, p, xs, rfl, s1, np, hp, hall⟩ ⟨rfl, rfl⟩
      have e1 : hs[i]? = some hs[i] := List.getElem?_eq_getElem hi
      have hb := ho.each _ (get_mem e1)
      have hat : atI (vi hs) (0 + (i : Int)) = some (.int ((hs[i] : Nat) : Int)) := by
        rw [Int.zero_add]
        exact atI_nat (vi_at e1)
      refine ⟨_, rfl, _, rfl, _, rfl, a, _, _, _, rfl, rfl, SqL.of (s1 _ _ ha), hat, _, rfl, by omega, by omega, fun D nD => ?_⟩
      rw [Int.toNat_natCast]
      refine lc_it walk_range (fun j H3 => Same H2 H3 ∧ ∃ acc, H3 D = some (.lst acc) ∧ acc.length = j ∧ HasAll H3 acc (((List.range j).map fun l => ((i, l), hs[i] - l - 1)).map dAll)) ⟨same_upd nD, [], upd_same, rfl, .nil⟩ (fun _ _ _ _ => trivial) ?_ ?_
      · rintro j x H3 H4 hj ⟨z, acc, hD, la, hac⟩ ⟨rfl, rfl⟩
        refine ⟨rfl, _, rfl, _, rfl, (by show 2 ≤ sizeLine; decide), fun t nt => ?_⟩
        have st := same_upd (o := .tup [.int (0 + (i : Int)), .int (0 + (j : Int))]) nt
        refine ⟨_, rfl, _, rfl, a, _, _, _, rfl, rfl, SqL.of (st _ _ (z _ _ (s1 _ _ ha))), hat, _, rfl, _, _, rfl, rfl, _, _, rfl, rfl, (by show 2 ≤ sizeLine; decide), fun u nu => ?_⟩
        have su := same_upd (o := .tup [.ref t, .int (((hs[i] : Nat) : Int) - (0 + (j : Int)) - 1)]) nu
        have hDu := su _ _ (st _ _ hD)
        refine ⟨acc, hDu, Nat.lt_of_lt_of_le (show acc.length < 13 by omega) (by decide), fun b o e => (upd_ne (ne_of_none e nD)).trans (su _ _ (st _ _ (z _ _ e))), _, upd_same, by rw [List.length_append, List.length_singleton, la], ?_⟩
        rw [List.range_succ, List.map_append, List.map_append]
        refine (HasAll.to ((TupK.same (st.trans su)).trans (tupK_lst hDu)) hac).app (.one (Has.to (tupK_lst hDu) ?_))
        refine .tup (xs := [.ref t, .int (((hs[i] : Nat) : Int) - (0 + (j : Int)) - 1)]) upd_same (.cons (Has.to (TupK.same su) (has_pl (s := i) (l := j) ?_)) (.cons ?_ .nil))
        · rw [upd_same]
          show some (HO.tup [V.int (0 + (i : Int)), V.int (0 + (j : Int))]) = _
          rw [Int.zero_add, Int.zero_add]
        · have e : ((hs[i] : Nat) : Int) - (0 + (j : Int)) - 1 = ((hs[i] - j - 1 : Nat) : Int) := by omega
          rw [e]
          exact .int _
      · rintro H3 ⟨z, acc, hD, la, hac⟩
        have hxl := hall.length
        rw [List.length_map, all_len] at hxl
        have htot := ho.tot
        have hle : (hs.take i).sum ≤ hs.sum := by
          have h1 : hs.sum = (hs.take i ++ hs.drop i).sum := by rw [List.take_append_drop]
          rw [List.sum_append] at h1
          omega
        refine ⟨p, D, xs, acc, rfl, rfl, z _ _ hp, hD, Nat.le_trans (show _ ≤ 200 by omega) (by decide), fun r nr => ?_⟩
        have sr := same_upd (o := .lst (xs ++ acc)) nr
        refine ⟨_, _, r, xs ++ acc, rfl, (s1.trans z).trans sr, (s1.trans z).free nr, upd_same, ?_⟩
        have ea : allN (hs.take (i + 1)) = allN (hs.take i) ++ (List.range hs[i]).map fun l => ((i, l), hs[i] - l - 1) := cat_take _ e1
        rw [ea, List.map_append]
        exact (HasAll.to (TupK.same (z.trans sr)) hall).app (HasAll.to (TupK.same sr) hac)
    · rintro σ H1 ⟨o2, o3, p, xs, rfl, s1, np, hp, hall⟩
      rw [List.take_length] at hall
      exact ⟨_, rfl, k H1 p xs s1 np hp hall⟩
theorem bd_all (T : Txt K mg) : L2.Binds K (fdOf K (He.ga K "_law_all_places")) ["_law_heights_here"] [] := T.F__law_all_places.bindsN fun _ _ _ _ _ _ us hl => match us, hl with | [_], _ => rfl
/-! ### _law_deep -/
def spDeep : Sp := fun vs H Q _ => ∃ (a : Addr) (hs : List Nat) (m : Nat), vs = [.ref a, .int (m : Int)] ∧ H a = some (.lst (vi hs)) ∧ HtOk hs ∧ m ≤ hs.sum ∧ ∀ H' p xs, Same H H' → H p = none → H' p = some (.lst xs) → HasAll H' xs ((deepN hs (hs.sum - m)).map dPl) → Q (.ref p) H'
abbrev nDeep : List Str := ["_law_heights_here", "_law_many_here", "_law_free", "_law_place", "_law_cover"]
theorem scDeep : FnScope nDeep ["_law_heights_here", "_law_many_here"] (defScope sLDeep) := ⟨rfl, rfl, rfl, by decide +kernel, rfl, by decide +kernel, by decide +kernel⟩
theorem ok_deep (T : Txt K mg) : FnOk PP w K mg base CX0 2 (He.ga K "_law_deep") (fdOf K (He.ga K "_law_deep")) ["_law_heights_here", "_law_many_here"] spDeep := by
  refine T.F__law_deep.ok scDeep (fun vs H Q E h => ?_) (fun cdv A outer s H vs Q E hr h => ?_)
  · obtain ⟨a, hs, m, rfl, _⟩ := h
    rfl
  · obtain ⟨a, hs, m, rfl, ha, ho, hm, k⟩ := h
    refine ⟨_, PSs.nox (pss_cons (ps_set (i := 2) scDeep.nd rfl (Or.inr rfl) (pe_op op_sub (pe_callB (cr_sum rfl) (by rfl) T.n_sum (by decide +kernel) (pa_cons (pv 0) pa_nil)) (pv 1)))
      (pss_one (ps_ret (pe_lc (own := [("_law_place", 3), ("_law_cover", 4)]) (g := gTup K 2 (gCons (gName 3) (gCons (gName 4) gNil))) rfl scDeep.nd (pi_list (pe_callP (ok_all T) hr (by rfl) T.g__law_all_places T.F__law_all_places.kp (bd_all T) pass0 (pa_cons (pv 0) pa_nil)))
        (blkOk_by (N := nDeep) (sc := defScope sLDeep) (by decide +kernel))
        (fun _ _ _ _ _ => pg_tup rfl (pgs_cons (pg_name (i := 3) scDeep.nd rfl (Or.inl rfl)) (pgs_cons (pg_name (i := 4) scDeep.nd rfl (Or.inl rfl)) pgs_nil)))
        (fun _ _ _ _ _ => pts_one (pt_cmpR op_ge (pv 4) (pv 2) (nomark _)))
        (fun _ _ _ _ _ => pv 3))))), ?_⟩
    refine ⟨_, rfl, a, _, rfl, SqL.of (by rw [← vi_ints]; exact ha), ?_⟩
    rw [sum_cast]
    refine ⟨_, rfl, _, _, rfl, rfl, ?_⟩
    refine ⟨_, rfl, a, hs, rfl, ha, ho, fun H1 p xs s1 np hp hall => ⟨p, rfl, ⟨_, SqL.of hp⟩, fun D nD => ?_⟩⟩
    have hl := hall.length
    rw [List.length_map, all_len] at hl
    have htot := ho.tot
    refine lc_it walk_list (PvG H1 D fun i acc H' => HasAll H' acc (((((allN hs).take i).filter (fun x => decide (hs.sum - m ≤ x.2))).map (·.1)).map dPl)) (PvG.zero nD .nil) (fun i H' _ z => SqL.of (z.1 _ _ hp)) ?_ ?_
    · rintro i x H2 H3 hi ⟨z, acc, hD, la, hac⟩ ⟨rfl, e2⟩
      obtain ⟨⟨⟨s0, l0⟩, cv⟩, e3, hx⟩ := hasMap_at hall e2
      obtain ⟨t, u, rfl, ht, hu⟩ := all_inv hx
      refine ⟨t, _, rfl, SqT.of (z _ _ ht), rfl, _, _, rfl, _, _, rfl, rfl, rfl, ?_⟩
      refine ⟨_, rfl, _, rfl, _, _, rfl, rfl, _, rfl, ?_⟩
      by_cases hc : hs.sum - m ≤ cv
      · rw [decide_eq_true (show ((hs.sum : Nat) : Int) - (m : Int) ≤ ((cv : Nat) : Int) by omega)]
        refine iteT ⟨_, rfl, PvG.add nD z hD la (by omega) (Same.refl _) ?_⟩
        rw [take_more e3, List.filter_append, List.filter_cons, decide_eq_true hc, if_pos rfl, List.filter_nil, List.map_append, List.map_append]
        exact (HasAll.to (tupK_lst hD) hac).app (.one (Has.to ((TupK.same z).trans (tupK_lst hD)) (has_pl hu)))
      · rw [decide_eq_false (show ¬ ((hs.sum : Nat) : Int) - (m : Int) ≤ ((cv : Nat) : Int) by omega)]
        refine iteF (PvG.skip z hD la (Same.refl _) ?_)
        rw [take_more e3, List.filter_append, List.filter_cons, decide_eq_false hc, if_neg Bool.false_ne_true, List.filter_nil, List.append_nil]
        exact hac
    · rintro H2 ⟨z, acc, hD, la, hac⟩
      rw [hl, show ((allN hs).take hs.sum) = allN hs from List.take_of_length_le (by rw [all_len]; exact Nat.le_refl _), deep_all] at hac
      exact k H2 D acc (s1.trans z) (s1.free nD) hD hac
theorem bd_deep (T : Txt K mg) : L2.Binds K (fdOf K (He.ga K "_law_deep")) ["_law_heights_here", "_law_many_here"] [] := T.F__law_deep.bindsN fun _ _ _ _ _ _ us hl => match us, hl with | [_, _], _ => rfl
end
end K3
set_option maxHeartbeats 6000000
/-! small data: shaped, shown in few signs, equal to themselves. -/
namespace K3
open PySem PySem.Spec PyProof.Rows L2
structure Small (b n : Nat) (d : PyData) : Prop where
  lay : d.canLay0 = true
  dep : d.depth ≤ n
  shw : d.showable = true
  len : d.shown.length ≤ b
theorem small_le {b b' n n' : Nat} {d : PyData} (h : Small b n d) (hb : b ≤ b') (hn : n ≤ n') : Small b' n' d := ⟨h.lay, Nat.le_trans h.dep hn, h.shw, Nat.le_trans h.len hb⟩
theorem int_shown : ∀ i : Fin 200, (Str.ofString (toString ((i.val : Nat) : Int))).length ≤ 10 := by decide +kernel
theorem small_int {i : Nat} (h : i < 200) : Small 10 0 (.int (i : Int)) := by
  refine ⟨by simp [PyData.canLay0], by simp [PyData.depth], ?_, ?_⟩
  · simp only [PyData.showable]
    refine decide_eq_true ?_
    rw [Int.natAbs_natCast]
    have h1 : i.log2 ≤ i := by
      rcases Nat.eq_zero_or_pos i with e | e
      · subst e
        decide
      · exact Nat.le_trans (Nat.le_of_lt (Nat.log2_lt (Nat.pos_iff_ne_zero.mp e) |>.mpr (Nat.lt_two_pow_self))) (Nat.le_refl _)
    omega
  · simp only [PyData.shown]
    exact int_shown ⟨i, h⟩
theorem letters_small : ∀ c ∈ letters.cps.toList, c < 128 := by decide +kernel
theorem small_name {z : Str} (h : NameOk z) : Small 82 0 (.str z) := by
  obtain ⟨h1, h2, h3⟩ := h
  refine ⟨?_, by simp [PyData.depth], by simp [PyData.showable], ?_⟩
  · simp only [PyData.canLay0]
    unfold PyData.strOk
    rw [Array.all_eq_true]
    intro i hi
    have := letters_small _ (h3 (z.cps[i]) (by simp))
    exact decide_eq_true (by omega)
  · simp only [PyData.shown]
    have := StrLaws.reprText_len z fun c hc => by
      have := letters_small c (h3 c hc)
      omega
    omega
theorem smallAll {b n : Nat} : ∀ {ds : List PyData}, (∀ d ∈ ds, Small b n d) → PyData.canLayAll0 ds = true ∧ PyData.depthAll ds ≤ n ∧ PyData.showableAll ds = true ∧ piled (PyData.shownAll ds) ≤ ds.length * (b + 2)
  | [], _ => ⟨by simp [PyData.canLayAll0], by simp [PyData.depthAll], by simp [PyData.showableAll], by simp [PyData.shownAll, piled]⟩
  | d :: r, h => by
    obtain ⟨h1, h2, h3, h4⟩ := h d List.mem_cons_self
    obtain ⟨i1, i2, i3, i4⟩ := smallAll (ds := r) fun x hx => h x (List.mem_cons_of_mem _ hx)
    refine ⟨?_, ?_, ?_, ?_⟩
    · simp only [PyData.canLayAll0, h1, i1, Bool.and_self]
    · simp only [PyData.depthAll]
      omega
    · simp only [PyData.showableAll, h3, i3, Bool.and_self]
    · simp only [PyData.shownAll]
      rw [piled_cons, List.length_cons, Nat.add_mul, Nat.one_mul]
      omega
theorem tupleText_le (ts : List Str) : (tupleText ts).length ≤ piled ts + 3 := by
  unfold tupleText
  rw [strLen_append, strLen_append]
  have e1 : ((("(" : String) : Str)).length = 1 := rfl
  have e3 : (((if ts.length == 1 then ",)" else ")" : String) : Str)).length ≤ 2 := by split <;> decide
  rw [e1]
  by_cases h : ts = []
  · subst h
    have : (Str.join (", " : String) []).length = 0 := rfl
    rw [this]
    omega
  · have := join_length_add ts h
    omega
theorem small_tup {b n : Nat} {ds : List PyData} (h : ∀ d ∈ ds, Small b n d) : Small (ds.length * (b + 2) + 3) (n + 1) (.tuple ds) := by
  obtain ⟨i1, i2, i3, i4⟩ := smallAll h
  refine ⟨by simp only [PyData.canLay0]; exact i1, by simp only [PyData.depth]; omega, by simp only [PyData.showable]; exact i3, ?_⟩
  simp only [PyData.shown]
  have := tupleText_le (PyData.shownAll ds)
  omega
theorem small_list {b n : Nat} {ds : List PyData} (h : ∀ d ∈ ds, Small b n d) : SeqAt.shaped (.list ds) = true ∨ 63 < n := by
  obtain ⟨i1, i2, i3, i4⟩ := smallAll h
  by_cases c : 63 < n
  · exact .inr c
  · exact .inl (shaped_of (by simp only [PyData.canLay0]; exact i1) (by simp only [PyData.depth]; omega))
theorem Small.shaped {b n : Nat} {d : PyData} (h : Small b n d) (hn : n ≤ 64) : SeqAt.shaped d = true := shaped_of h.lay (Nat.le_trans h.dep hn)
theorem Small.refl {b n : Nat} {d : PyData} (h : Small b n d) : PyData.eqv d d = true := SeqAt.eqv_refl d h.lay
theorem small_pl {p : Nat × Nat} (h1 : p.1 < 200) (h2 : p.2 < 200) : Small 40 1 (dPl p) := by
  unfold dPl
  refine small_le (small_tup (b := 10) (n := 0) fun d hd => ?_) (by simp) (Nat.le_refl _)
  simp only [List.mem_cons, List.not_mem_nil, or_false] at hd
  rcases hd with h | h
  · rw [h]
    exact small_int h1
  · rw [h]
    exact small_int h2
theorem small_pls {l : List (Nat × Nat)} (hl : l.length ≤ 1000) (h : ∀ p ∈ l, p.1 < 200 ∧ p.2 < 200) : Small 50000 2 (.tuple (l.map dPl)) := by
  refine small_le (small_tup (b := 40) (n := 1) fun d hd => ?_) (by rw [List.length_map]; omega) (Nat.le_refl _)
  obtain ⟨p, hp, rfl⟩ := List.mem_map.mp hd
  exact small_pl (h p hp).1 (h p hp).2
theorem small_ints {l : List Nat} (hl : l.length ≤ 1000) (h : ∀ n ∈ l, n < 200) : Small 50000 1 (.tuple (l.map fun n : Nat => .int (n : Int))) := by
  refine small_le (small_tup (b := 10) (n := 0) fun d hd => ?_) (by rw [List.length_map]; omega) (Nat.le_refl _)
  obtain ⟨p, hp, rfl⟩ := List.mem_map.mp hd
  exact small_int (h p hp)
theorem small_room {b n : Nat} {d : PyData} (h : Small b n d) (hb : b ≤ 100000) : d.shown.length ≤ sizeLine := Nat.le_trans (Nat.le_trans h.len hb) (by decide)
theorem pl_eqv (p r : Nat × Nat) : PyData.eqv (dPl p) (dPl r) = decide (p = r) := by
  unfold dPl
  simp only [PyData.eqv, PyData.eqvAll, Bool.and_true]
  obtain ⟨a, b⟩ := p
  obtain ⟨a', b'⟩ := r
  rw [Bool.eq_iff_iff]
  simp [Prod.ext_iff]
  omega
theorem YardAt.kd {K : PySem.W.Frag} {q c : Addr} {H H' : Hp} {y : Addr} {hs : List Nat} (h : YardAt K H y hs) (d : DH q c H) (k : KD q c H H') : YardAt K H' y hs := by
  obtain ⟨o, dx, ht, h1, h2⟩ := h
  exact ⟨o, dx, ht, k.1.at d h1 (fun _ _ z => by cases z) (fun _ z => by cases z), k.1.at d h2 (fun _ _ z => by cases z) (fun _ z => by cases z)⟩
end K3
set_option maxHeartbeats 6000000
/-! plain laws: layers by the clause, places in range. -/
namespace K3
open PySem PySem.Spec PyProof.Rows L2
theorem range_filter_eq (k : Nat) : ∀ n : Nat, (List.range n).filter (fun l => decide (l = k)) = if k < n then [k] else []
  | 0 => rfl
  | n + 1 => by
    rw [List.range_succ, List.filter_append, List.filter_cons, List.filter_nil, range_filter_eq k n]
    by_cases e : n = k
    · subst e
      rw [if_neg (Nat.lt_irrefl _), decide_eq_true rfl, if_pos rfl, if_pos (Nat.lt_succ_self _)]
      rfl
    · rw [decide_eq_false e, if_neg Bool.false_ne_true, List.append_nil]
      by_cases c : k < n
      · rw [if_pos c, if_pos (Nat.lt_succ_of_lt c)]
      · rw [if_neg c, if_neg (by omega)]
theorem layer_row_eq (s h c : Nat) : (((List.range h).map fun l => ((s, l), h - l - 1)).filter (fun x => decide (x.2 = c))).map (·.1) = (if c < h then [(s, h - 1 - c)] else []) := by
  rw [List.filter_map, List.map_map]
  by_cases ch : c < h
  · have : List.filter ((fun x : (Nat × Nat) × Nat => decide (x.2 = c)) ∘ fun l => ((s, l), h - l - 1)) (List.range h) = (List.range h).filter (fun l => decide (l = h - 1 - c)) := by
      refine List.filter_congr fun l hl => ?_
      have := List.mem_range.mp hl
      exact decide_eq_decide.mpr ⟨fun q => by show l = h - 1 - c; dsimp only at q; omega, fun q => by show h - l - 1 = c; omega⟩
    rw [this, range_filter_eq, if_pos (by omega), if_pos ch]
    rfl
  · have : List.filter ((fun x : (Nat × Nat) × Nat => decide (x.2 = c)) ∘ fun l => ((s, l), h - l - 1)) (List.range h) = [] := by
      refine List.filter_eq_nil_iff.mpr fun l hl => ?_
      have := List.mem_range.mp hl
      simp only [Function.comp_apply, decide_eq_true_eq]
      omega
    rw [this, if_neg ch]
    rfl
theorem layer_all (hs : List Nat) (c : Nat) : ((allN hs).filter (fun x => decide (x.2 = c))).map (·.1) = layerN hs c := by
  unfold allN layerN
  rw [cat_fm]
  congr 1
  funext s h
  exact layer_row_eq s h c
theorem deep_small {hs : List Nat} (ho : HtOk hs) {f : Nat} : ∀ p ∈ deepN hs f, p.1 < 200 ∧ p.2 < 200 := by
  intro p hp
  obtain ⟨h, e, hl⟩ := mem_deep.mp hp
  have h1 := get_lt e
  have h2 := ho.hi
  have h3 := (ho.each h (get_mem e)).2
  omega
theorem all_small {hs : List Nat} (ho : HtOk hs) : ∀ x ∈ allN hs, x.1.1 < 200 ∧ x.1.2 < 200 ∧ x.2 < 200 := by
  intro x hx
  obtain ⟨h, e, hl, e2⟩ := mem_all.mp hx
  have h1 := get_lt e
  have h2 := ho.hi
  have h3 := (ho.each h (get_mem e)).2
  omega
theorem layer_small {hs : List Nat} (ho : HtOk hs) (c : Nat) : (layerN hs c).length ≤ 1000 ∧ ∀ p ∈ layerN hs c, p.1 < 200 ∧ p.2 < 200 := by
  rw [← layer_all]
  constructor
  · rw [List.length_map]
    refine Nat.le_trans (List.length_filter_le ..) ?_
    rw [all_len]
    have := ho.tot
    omega
  · intro p hp
    obtain ⟨x, hx, rfl⟩ := List.mem_map.mp hp
    have := all_small ho x (List.mem_filter.mp hx).1
    exact ⟨this.1, this.2.1⟩
theorem layer_none {hs : List Nat} {c : Nat} (h : ∀ x ∈ hs, x ≤ c) : layerN hs c = [] := by
  rw [← layer_all]
  have : (allN hs).filter (fun x => decide (x.2 = c)) = [] := by
    refine List.filter_eq_nil_iff.mpr fun x hx => ?_
    obtain ⟨k, e, hl, e2⟩ := mem_all.mp hx
    have := h k (get_mem e)
    simp only [decide_eq_true_eq]
    omega
  rw [this]
  rfl
end K3
set_option maxHeartbeats 6000000
/-! the law's covers. -/
namespace K3
open PySem PySem.Spec PyProof.Rows L2
theorem rR {K : PySem.W.Frag} {H : Hp} {v : V} {d : PyData} {b n : Nat} {Q : VK} (hd : Dp K H v d) (h : Small b n d) (q : Q (.str d.shown) H) (hb : b ≤ 100000 := by decide) (hn : n ≤ 64 := by decide) (hl : ∀ ds, d ≠ .list ds := by (intro _ z; cases z)) (hs : ∀ y, d ≠ .str y := by (intro _ z; cases z)) : rRepr K [v] H Q :=
  ⟨v, d, rfl, hd, h.shaped hn, h.shw, hl, hs, small_room h hb, q⟩
section
variable {w : World} {K : PySem.W.Frag} {mg : Str → Option Value} {base : Heap}
def spCovers (K : PySem.W.Frag) : Sp := fun vs H Q _ => ∃ (q c y a : Addr) (hs : List Nat), vs = [.ref q, .ref y, .ref a] ∧ DH q c H ∧ H a = some (.lst (vi hs)) ∧ (a ≠ q ∧ a ≠ c) ∧ YardAt K H y hs ∧ ∀ H', KD q c H H' → Q (.bl true) H'
abbrev nCov : List Str := ["_law_heap_here", "_law_yard", "_law_heights_here", "_law_stack", "_law_rest", "_law_place", "_law_cover", "_law_due", "_law_at", "_law_own"]
theorem scCovers : FnScope nCov ["_law_heap_here", "_law_yard", "_law_heights_here"] (defScope sLCoversRight) := ⟨rfl, rfl, rfl, by decide +kernel, rfl, by decide +kernel, by decide +kernel⟩
theorem ok_covers (T : Txt K mg) : FnG PP w K mg base CX0 6 (He.ga K "_law_covers_right") (fdOf K (He.ga K "_law_covers_right")) ["_law_heap_here", "_law_yard", "_law_heights_here"] (spCovers K) := by
  refine FnG.by T.F__law_covers_right scCovers (fun vs H Q E h => ?_) (fun cdv A outer s H vs Q E gd hr h => ?_)
  · obtain ⟨q, c, y, a, hs, rfl, _⟩ := h
    rfl
  · obtain ⟨q, c, y, a, hs, rfl, dh, ha, ma, hy, k⟩ := h
    have hu : (A.deeper (envOfC (Str.ofString "_law_covers_right") (defScope sLCoversRight) s.heap.objs.size (He.ga K (Str.ofString "_law_covers_right")) cdv)).units + 66 < cLine := by have := hr.un; omega
    have hu2 := hr.units
    refine ⟨_, PSs.nox (pss_cons (ps_set (i := 3) scCovers.nd rfl (Or.inr rfl) (pe_callP (ok_draw T) (hr.mono (by decide)) (by rfl) T.g__law_draw T.F__law_draw.kp (bd_draw T) pass0 (pa_cons (pv 0) (pa_cons (pe_callB call_len (by rfl) T.n_len (by decide +kernel) (pa_cons (pv 2) pa_nil)) pa_nil))))
      (pss_cons (ps_set (i := 4) scCovers.nd rfl (Or.inl rfl) (pe_callB (cr_sum rfl) (by rfl) T.n_sum (by decide +kernel) (pa_cons (pe_lc (own := [("_law_at", 8)]) (g := gName 8) (te := tOp (rIxL K) (tVar 2) (tVar 8)) rfl scCovers.nd
          (pi_range1 (by rfl) T.n_range (pa_cons (pe_callB call_len (by rfl) T.n_len (by decide +kernel) (pa_cons (pv 2) pa_nil)) pa_nil))
          (blkOk_by (N := nCov) (sc := defScope sLCoversRight) (by decide +kernel))
          (fun _ _ _ _ _ => pg_name (i := 8) scCovers.nd rfl (Or.inl rfl)) (fun _ _ _ _ _ => pts_one (pt_cmpR op_ne (pv 8) (pv 3) (nomark _)))
          (fun _ _ _ _ _ => pe_ix ix_list (pv 2) (pv 8) (fun _ _ => rfl))) pa_nil)))
      (pss_cons (ps_if (PW.pt (pw_or (pt_cmpR op_ne (pe_callB (call_repr gd hu) (by rfl) T.n_repr (by decide +kernel) (pa_cons (pe_callP (ok_places T) (hr.mono (by decide)) (by rfl) T.g_places T.F_places.kp (bd_places T) pass0 (pa_cons (pv 1) pa_nil)) pa_nil))
            (pe_callB (call_repr gd hu) (by rfl) T.n_repr (by decide +kernel) (pa_cons (pe_callB (cr_sum rfl) (by rfl) T.n_sum (by decide +kernel) (pa_cons (pv 2) pa_nil)) pa_nil)) (nomark _))
          (pw_or1 (pt_cmpR op_ne (pe_callB (call_repr gd hu) (by rfl) T.n_repr (by decide +kernel) (pa_cons (pe_callP (E := E0) (ok_others T) hr (by rfl) T.g_others T.F_others.kp (bd_others T) passL (pa_cons (pv 1) (pa_cons (pv 3) pa_nil))) pa_nil))
            (pe_callB (call_repr gd hu) (by rfl) T.n_repr (by decide +kernel) (pa_cons (pv 4) pa_nil)) (nomark _))))) (pss_one (ps_ret pe_bl)) pss_nil)
      (pss_cons (ps_if (PW.pt (pw_or (pt_cmpR op_ne (pe_callKW (ok_places T) (hr.mono (by decide)) (by rfl) T.g_places T.F_places.kp (kw_places T) pass0 (pk_cons (pv 1) pk_nil))
            (pe_callB (cr_sum rfl) (by rfl) T.n_sum (by decide +kernel) (pa_cons (pv 2) pa_nil)) (nomark _))
          (pw_or1 (pt_cmpR op_ne (pe_callKW (E := E0) (ok_others T) hr (by rfl) T.g_others T.F_others.kp (kw_others T) passL (pk_cons (pv 1) (pk_cons (pv 3) pk_nil))) (pv 4) (nomark _))))) (pss_one (ps_ret pe_bl)) pss_nil)
      (pss_cons (ps_for PassesOwn.never rfl (pi_list (pe_callP (ok_all T) (hr.mono (by decide)) (by rfl) T.g__law_all_places T.F__law_all_places.kp (bd_all T) pass0 (pa_cons (pv 2) pa_nil)))
        (pg_tup rfl (pgs_cons (pg_name (i := 5) scCovers.nd rfl (Or.inl rfl)) (pgs_cons (pg_name (i := 6) scCovers.nd rfl (Or.inr rfl)) pgs_nil)))
        (pss_one (ps_if (PW.pt (pw_and (pt_cmpR op_eq (pe_ix ix_tup (pv 5) pe_int (fun _ _ => rfl)) (pv 3) (nomark _))
          (pw_and1 (pt_cmpR op_ne (pe_callB (call_repr gd hu) (by rfl) T.n_repr (by decide +kernel) (pa_cons (pe_callP (E := E0) (ok_cover_of T) hr (by rfl) T.g_cover_of T.F_cover_of.kp (bd_cover_of T) passL (pa_cons (pv 1) (pa_cons (pe_ix ix_tup (pv 5) pe_int (fun _ _ => rfl)) (pa_cons (pe_ix ix_tup (pv 5) pe_int (fun _ _ => rfl)) pa_nil)))) pa_nil))
            (pe_callB (call_repr gd hu) (by rfl) T.n_repr (by decide +kernel) (pa_cons (pv 6) pa_nil)) (nomark _))))) (pss_one (ps_ret pe_bl)) pss_nil)))
      (pss_cons (ps_for PassesOwn.never rfl (pi_range1 (by rfl) T.n_range (pa_cons (pe_op op_add (pe_callB (cr_max rfl) (by rfl) T.n_max (by decide +kernel) (pa_cons (pv 2) pa_nil)) pe_int) pa_nil)) (pg_name (i := 6) scCovers.nd rfl (Or.inr rfl))
        (pss_cons (ps_set (i := 7) scCovers.nd rfl (Or.inl rfl) (pe_callTy call_tuple_of (by rfl) T.n_tuple (by decide +kernel) (pa_cons (pe_lc (own := [("_law_place", 5), ("_law_own", 9)]) (g := gTup K 2 (gCons (gName 5) (gCons (gName 9) gNil))) rfl scCovers.nd
            (pi_list (pe_callP (ok_all T) (hr.mono (by decide)) (by rfl) T.g__law_all_places T.F__law_all_places.kp (bd_all T) pass0 (pa_cons (pv 2) pa_nil)))
            (blkOk_by (N := nCov) (sc := defScope sLCoversRight) (by decide +kernel))
            (fun _ _ _ _ _ => pg_tup rfl (pgs_cons (pg_name (i := 5) scCovers.nd rfl (Or.inl rfl)) (pgs_cons (pg_name (i := 9) scCovers.nd rfl (Or.inl rfl)) pgs_nil)))
            (fun _ _ _ _ _ => pts_one (pt_cmpR op_eq (pv 9) (pv 6) (nomark _))) (fun _ _ _ _ _ => pv 5)) pa_nil)))
        (pss_one (ps_if (PW.pt (pw_or (pt_cmpR op_ne (pe_callB (call_repr gd hu) (by rfl) T.n_repr (by decide +kernel) (pa_cons (pe_callP (ok_layer T) (hr.mono (by decide)) (by rfl) T.g_layer T.F_layer.kp (bd_layer T) pass0 (pa_cons (pv 1) (pa_cons (pv 6) pa_nil))) pa_nil))
            (pe_callB (call_repr gd hu) (by rfl) T.n_repr (by decide +kernel) (pa_cons (pv 7) pa_nil)) (nomark _))
          (pw_or1 (pt_cmpR (op_neD hu2) (pe_callKW (ok_layer T) (hr.mono (by decide)) (by rfl) T.g_layer T.F_layer.kp (kw_layer T) pass0 (pk_cons (pv 1) (pk_cons (pv 6) pk_nil))) (pv 7) (nomark _))))) (pss_one (ps_ret pe_bl)) pss_nil))))
      (pss_one (ps_ret (pe_cmpR (op_eqD hu2) (pe_callP (ok_layer T) (hr.mono (by decide)) (by rfl) T.g_layer T.F_layer.kp (bd_layer T) pass0 (pa_cons (pv 1) (pa_cons (pe_op op_add (pe_callB (cr_max rfl) (by rfl) T.n_max (by decide +kernel) (pa_cons (pv 2) pa_nil))
          (pe_callP (ok_draw T) (hr.mono (by decide)) (by rfl) T.g__law_draw T.F__law_draw.kp (bd_draw T) pass0 (pa_cons (pv 0) (pa_cons pe_int pa_nil)))) pa_nil))) (pe_tup pa_nil) (nomark _)))))))))), ?_⟩
    have ho := hy.1
    have h12 := ho.hi
    have h3 := ho.lo
    have htot := ho.tot
    refine ⟨_, rfl, _, rfl, _, (vi hs).length, rfl, .inl ⟨_, SqL.of ha, rfl⟩, q, c, _, rfl, dh, by rw [vi_len]; omega, by rw [vi_len]; omega, fun H1 r kp d r0 r1 => ?_⟩
    rw [vi_len] at r1
    obtain ⟨st, n, rfl, hn⟩ := nat_at r0 r1
    have k1 : KD q c H H1 := ⟨kp, d⟩
    have ha1 := k1.at ha ma
    have hy1 := hy.kd dh k1
    have hnm := ho.each n (get_mem hn)
    have hnle := le_sum hn
    refine ⟨_, rfl, _, (vi hs).length, rfl, .inl ⟨_, SqL.of ha1, rfl⟩, _, rfl, by rw [vi_len]; omega, by rw [vi_len]; omega, fun D nD => ?_⟩
    rw [Int.toNat_natCast, vi_len]
    refine lc_it walk_range (PvG H1 D fun i acc _ => ∃ ns : List Nat, acc = vi ns ∧ ns.sum + (if st < i then n else 0) = (hs.take i).sum) (PvG.zero nD ⟨[], rfl, rfl⟩) (fun _ _ _ _ => trivial) ?_ ?_
    · rintro i x H2 H3 hi ⟨z, acc, hD, la, ns, rfl, hsum⟩ ⟨rfl, ex⟩
      have ex : x = V.int (i : Int) := ex.trans (congrArg V.int (Int.zero_add _))
      subst ex
      have ei : hs[i]? = some hs[i] := List.getElem?_eq_getElem hi
      have htk : (hs.take (i + 1)).sum = (hs.take i).sum + hs[i] := by rw [take_more ei, List.sum_append]; simp
      refine ⟨rfl, _, rfl, _, rfl, rfl, _, rfl, ?_⟩
      by_cases hc : i = st
      · subst hc
        rw [decide_eq_true (rfl : V.int (i : Int) = V.int (i : Int))]
        refine iteF (PvG.skip z hD la (Same.refl _) ⟨ns, rfl, ?_⟩)
        rw [ei] at hn
        cases hn
        rw [htk, if_pos (Nat.lt_succ_self _), ← hsum, if_neg (Nat.lt_irrefl _), Nat.add_zero]
      · rw [decide_eq_false (show ¬ V.int (i : Int) = V.int (st : Int) from fun e => hc (by have := V.int.inj e; omega))]
        refine iteT ⟨_, rfl, _, rfl, a, _, _, _, rfl, rfl, SqL.of (z _ _ ha1), atI_nat (vi_at ei), PvG.add nD z hD la (by omega) (Same.refl _) ⟨ns ++ [hs[i]], ?_, ?_⟩⟩
        · unfold vi
          rw [List.map_append]
          rfl
        · rw [htk, List.sum_append, ← hsum]
          simp only [List.sum_cons, List.sum_nil]
          by_cases c1 : st < i
          · rw [if_pos c1, if_pos (by omega)]
            omega
          · rw [if_neg c1, if_neg (by omega)]
            omega
    · rintro H2 ⟨z2, acc, hD2, la, ns, rfl, hsum⟩
      have hstlt : st < hs.length := get_lt hn
      rw [if_pos hstlt, List.take_length] at hsum
      have ha2 := z2 _ _ ha1
      have hy2 := hy1.same z2
      have k2 : KD q c H H2 := k1.same z2
      have hrest : ((hs.sum : Nat) : Int) - ((n : Nat) : Int) = ((ns.sum : Nat) : Int) := by omega
      refine ⟨D, _, rfl, SqL.of (by rw [← vi_ints]; exact hD2), ?_⟩
      rw [sum_cast]
      refine ⟨_, rfl, y, hs, rfl, hy2, ?_⟩
      refine ⟨_, _, rfl, .int _, (small_int (i := hs.sum) (by omega)).shaped (by decide), (small_int (i := hs.sum) (by omega)).shw, (by intro _ z; cases z), (by intro _ z; cases z), small_room (small_int (i := hs.sum) (by omega)) (by decide), ?_⟩
      refine ⟨_, rfl, a, _, rfl, SqL.of (by rw [← vi_ints]; exact ha2), ?_⟩
      rw [sum_cast]
      refine ⟨_, _, rfl, .int _, (small_int (i := hs.sum) (by omega)).shaped (by decide), (small_int (i := hs.sum) (by omega)).shw, (by intro _ z; cases z), (by intro _ z; cases z), small_room (small_int (i := hs.sum) (by omega)) (by decide), ?_⟩
      refine ⟨rfl, false, by simp, iteF ?_⟩
      refine ⟨_, rfl, _, rfl, y, hs, _, rfl, hy2, fun s h e1 e2 => ?_, fun z => (z ⟨by omega, by omega⟩).elim⟩
      obtain rfl : st = s := by omega
      rw [hn] at e2
      cases e2
      rw [hrest]
      refine ⟨_, _, rfl, .int _, (small_int (i := ns.sum) (by omega)).shaped (by decide), (small_int (i := ns.sum) (by omega)).shw, (by intro _ z; cases z), (by intro _ z; cases z), small_room (small_int (i := ns.sum) (by omega)) (by decide), ?_⟩
      refine ⟨_, rfl, ?_⟩
      refine ⟨_, _, rfl, .int _, (small_int (i := ns.sum) (by omega)).shaped (by decide), (small_int (i := ns.sum) (by omega)).shw, (by intro _ z; cases z), (by intro _ z; cases z), small_room (small_int (i := ns.sum) (by omega)) (by decide), ?_⟩
      refine ⟨rfl, false, by simp, iteF ?_⟩
      refine ⟨_, rfl, y, hs, rfl, hy2, _, rfl, a, _, rfl, SqL.of (by rw [← vi_ints]; exact ha2), ?_⟩
      rw [sum_cast]
      refine ⟨rfl, false, by simp, iteF ?_⟩
      refine ⟨_, rfl, _, rfl, y, hs, _, rfl, hy2, fun s h e1 e2 => ?_, fun z => (z ⟨by omega, by omega⟩).elim⟩
      obtain rfl : st = s := by omega
      rw [hn] at e2
      cases e2
      rw [hrest]
      refine ⟨_, rfl, rfl, false, by simp, iteF ?_⟩
      refine ⟨_, rfl, a, hs, rfl, ha2, ho, fun H3 p xs s3 np hp hall => ⟨p, rfl, ⟨_, SqL.of hp⟩, ?_⟩⟩
      have hxl := hall.length
      rw [List.length_map, all_len] at hxl
      refine for_it walk_list (fun i σ H' => ∃ o5 o6 : Option V, σ = [some (.ref q), some (.ref y), some (.ref a), some (.int (st : Int)), some (.int ((ns.sum : Nat) : Int)), o5, o6, none, none, none] ∧ Same H3 H') ⟨_, _, rfl, Same.refl _⟩ (fun i σ H' _ ⟨_, _, _, z⟩ => SqL.of (z _ _ hp)) ?_ ?_
      · rintro i x σ H4 H5 hi ⟨o5, o6, rfl, s4⟩ ⟨rfl, e2⟩
        obtain ⟨⟨⟨s0, l0⟩, cv⟩, e3, hx⟩ := hasMap_at hall e2
        obtain ⟨t, u, rfl, ht, hu1⟩ := all_inv hx
        obtain ⟨h0, g1, g2, g3⟩ := mem_all.mp (get_mem e3)
        dsimp only at g1 g2 g3 ht hu1
        have hus := SqT.of (K := K) (s4 _ _ hu1)
        have hh0 := ho.each h0 (get_mem g1)
        refine ⟨t, _, rfl, SqT.of (s4 _ _ ht), rfl, _, _, rfl, _, _, rfl, rfl, ?_⟩
        refine ⟨_, rfl, u, _, _, _, rfl, rfl, hus, atI_nat (j := 0) rfl, _, rfl, rfl, _, rfl, ?_⟩
        refine ite2 (fun _ => ?_) (fun _ => ?_)
        · refine ⟨_, rfl, _, rfl, u, _, _, _, rfl, rfl, hus, atI_nat (j := 0) rfl, _, rfl, u, _, _, _, rfl, rfl, hus, atI_nat (j := 1) rfl, y, hs, _, _, rfl, hy2.same (s3.trans s4), fun z => (z ⟨by omega, by have := get_lt g1; omega⟩).elim, fun s h e1 e2 => ?_⟩
          obtain rfl : s0 = s := by omega
          rw [g1] at e2
          cases e2
          refine ⟨fun z => (z ⟨by omega, by omega⟩).elim, fun _ => ?_⟩
          have ecv : ((h0 : Nat) : Int) - 1 - (l0 : Int) = ((cv : Nat) : Int) := by omega
          rw [ecv]
          refine ⟨_, _, rfl, .int _, (small_int (i := cv) (by omega)).shaped (by decide), (small_int (i := cv) (by omega)).shw, (by intro _ z; cases z), (by intro _ z; cases z), small_room (small_int (i := cv) (by omega)) (by decide), ?_⟩
          refine ⟨_, rfl, ?_⟩
          refine ⟨_, _, rfl, .int _, (small_int (i := cv) (by omega)).shaped (by decide), (small_int (i := cv) (by omega)).shw, (by intro _ z; cases z), (by intro _ z; cases z), small_room (small_int (i := cv) (by omega)) (by decide), ?_⟩
          refine ⟨rfl, false, by simp, iteF ⟨_, _, rfl, s4⟩⟩
        · exact ⟨_, _, rfl, s4⟩
      · rintro σ H4 ⟨o5, o6, rfl, s4⟩
        have s24 : Same H2 H4 := s3.trans s4
        refine ⟨_, rfl, a, _, rfl, SqL.of (by rw [← vi_ints]; exact s24 _ _ ha2), by rw [List.length_map]; omega, fun m hm hmax => ?_⟩
        obtain ⟨mx, hmx, rfl⟩ := List.mem_map.mp hm
        have hmx2 := ho.each mx hmx
        refine ⟨_, _, rfl, rfl, _, rfl, by omega, by omega, ?_⟩
        refine for_it walk_range (fun i σ H' => ∃ o5 o6 o7 : Option V, σ = [some (.ref q), some (.ref y), some (.ref a), some (.int (st : Int)), some (.int ((ns.sum : Nat) : Int)), o5, o6, o7, none, none] ∧ Same H2 H') ⟨_, _, _, rfl, s24⟩ (fun _ _ _ _ _ => trivial) ?_ ?_
        · rintro i x σ H5 H6 hi ⟨o5, o6, o7, rfl, s5⟩ ⟨rfl, ex⟩
          have ex : x = V.int (i : Int) := ex.trans (congrArg V.int (Int.zero_add _))
          subst ex
          refine ⟨_, rfl, a, hs, rfl, s5 _ _ ha2, ho, fun H7 p xs s7 np hp hall => ⟨p, rfl, ⟨_, SqL.of hp⟩, fun D nD => ?_⟩⟩
          have hxl := hall.length
          rw [List.length_map, all_len] at hxl
          refine lc_it walk_list (PvG H7 D fun j acc H' => HasAll H' acc (((((allN hs).take j).filter (fun x => decide (x.2 = i))).map (·.1)).map dPl)) (PvG.zero nD .nil) (fun i H' _ z => SqL.of (z.1 _ _ hp)) ?_ ?_
          · rintro j x H8 H9 hj ⟨z, acc, hD, la, hac⟩ ⟨rfl, e2⟩
            obtain ⟨⟨⟨s0, l0⟩, cv⟩, e3, hx⟩ := hasMap_at hall e2
            obtain ⟨t, u, rfl, ht, hu1⟩ := all_inv hx
            refine ⟨t, _, rfl, SqT.of (z _ _ ht), rfl, _, _, rfl, _, _, rfl, rfl, rfl, ?_⟩
            refine ⟨_, rfl, _, rfl, rfl, _, rfl, ?_⟩
            by_cases hc : cv = i
            · rw [decide_eq_true (show V.int ((cv : Nat) : Int) = V.int (i : Int) by rw [hc])]
              refine iteT ⟨_, rfl, PvG.add nD z hD la (by omega) (Same.refl _) ?_⟩
              rw [take_more e3, List.filter_append, List.filter_cons, decide_eq_true hc, if_pos rfl, List.filter_nil, List.map_append, List.map_append]
              exact (HasAll.to (tupK_lst hD) hac).app (.one (Has.to ((TupK.same z).trans (tupK_lst hD)) (has_pl hu1)))
            · rw [decide_eq_false (show ¬ V.int ((cv : Nat) : Int) = V.int (i : Int) from fun e => hc (by have := V.int.inj e; omega))]
              refine iteF (PvG.skip z hD la (Same.refl _) ?_)
              rw [take_more e3, List.filter_append, List.filter_cons, decide_eq_false hc, if_neg Bool.false_ne_true, List.filter_nil, List.append_nil]
              exact hac
          · rintro H8 ⟨z, acc, hD, la, hac⟩
            rw [hxl, show ((allN hs).take hs.sum) = allN hs from List.take_of_length_le (by rw [all_len]; exact Nat.le_refl _), layer_all] at hac
            refine ⟨D, acc, rfl, .inl ⟨SqL.of hD, fun l nl => ?_⟩⟩
            have s8 : Same H2 (upd H8 l (.tup acc)) := (s5.trans s7).trans (z.trans (same_upd nl))
            have hdue : Has (upd H8 l (.tup acc)) (.ref l) (.tuple ((layerN hs i).map dPl)) := .tup upd_same (HasAll.to (tupK_new nl) hac)
            obtain ⟨ls1, ls2⟩ := layer_small ho i
            have hsm := small_pls ls1 ls2
            refine ⟨_, rfl, _, rfl, y, hs, i, rfl, hy2.same s8, fun H9 p2 s9 hp2 => ?_⟩
            refine ⟨_, _, rfl, hp2.dp, hsm.shaped (by decide), hsm.shw, (by intro _ z; cases z), (by intro _ z; cases z), small_room hsm (by decide), ?_⟩
            refine ⟨_, rfl, ?_⟩
            refine ⟨_, _, rfl, (Has.to (TupK.same s9) hdue).dp, hsm.shaped (by decide), hsm.shw, (by intro _ z; cases z), (by intro _ z; cases z), small_room hsm (by decide), ?_⟩
            refine ⟨rfl, false, by simp, iteF ?_⟩
            refine ⟨_, rfl, _, rfl, y, hs, i, rfl, hy2.same (s8.trans s9), fun H10 p3 s10 hp3 => ?_⟩
            refine ⟨_, rfl, _, _, hp3.dp, (Has.to (TupK.same (s9.trans s10)) hdue).dp, hsm.shaped (by decide), hsm.shaped (by decide), false, by rw [hsm.refl]; rfl, iteF ⟨_, _, _, rfl, s8.trans (s9.trans s10)⟩⟩
        · rintro σ H5 ⟨o5, o6, o7, rfl, s5⟩
          refine ⟨_, rfl, _, rfl, a, _, rfl, SqL.of (by rw [← vi_ints]; exact s5 _ _ ha2), by rw [List.length_map]; omega, fun m hm hmax => ?_⟩
          obtain ⟨mx2, hmx2, rfl⟩ := List.mem_map.mp hm
          have k5 := k2.same s5
          refine ⟨_, rfl, q, c, _, rfl, k5.2, by decide, by decide, fun H6 r6 kp6 d6 r60 r61 => ?_⟩
          obtain ⟨e, rfl⟩ : ∃ e : Nat, r6 = (e : Int) := ⟨r6.toNat, by omega⟩
          have k6 : KD q c H H6 := k5.trans ⟨kp6, d6⟩
          refine ⟨_, _, rfl, rfl, y, hs, mx2 + e, rfl, hy.kd dh k6, fun H7 p7 s7 hp7 => ?_⟩
          have hnone : layerN hs (mx2 + e) = [] := layer_none fun x hx => by
            have := hmax _ (List.mem_map.mpr ⟨x, hx, rfl⟩)
            omega
          rw [hnone] at hp7
          refine ⟨Nat.zero_le _, fun p8 n8 => ⟨_, .tuple [], (Has.to (TupK.same (same_upd n8)) hp7).dp, .tup (SqT.of upd_same) .nil, ?_, ?_, ?_⟩⟩
          · exact shaped_of (by simp [PyData.canLay0, PyData.canLayAll0]) (by simp [PyData.depth, PyData.depthAll])
          · exact shaped_of (by simp [PyData.canLay0, PyData.canLayAll0]) (by simp [PyData.depth, PyData.depthAll])
          · have e : PyData.eqv (.tuple (([] : List (Nat × Nat)).map dPl)) (.tuple []) = true := by simp [PyData.eqv, PyData.eqvAll]
            rw [e]
            exact k _ ((k6.same s7).new n8)
theorem bd_covers (T : Txt K mg) : L2.Binds K (fdOf K (He.ga K "_law_covers_right")) ["_law_heap_here", "_law_yard", "_law_heights_here"] [] := T.F__law_covers_right.bindsN fun _ _ _ _ _ _ us hl => match us, hl with | [_, _, _], _ => rfl
end
end K3
set_option maxHeartbeats 6000000
/-! plain laws: deep rows, new deep places. -/
namespace K3
open PySem PySem.Spec PyProof.Rows L2
theorem cat_congr {α : Type} {F G : Nat → Nat → List α} {hs : List Nat} (h : ∀ s k, hs[s]? = some k → F s k = G s k) : cat F hs = cat G hs := by
  unfold cat
  rw [List.flatMap_def, List.flatMap_def]
  congr 1
  refine List.map_congr_left fun p hp => ?_
  exact h p.2 p.1 (List.mem_zipIdx_iff_getElem?.mp hp)
theorem cat_length {α : Type} (F : Nat → Nat → List α) (n : Nat → Nat) (hn : ∀ s h, (F s h).length = n h) (hs : List Nat) : (cat F hs).length = (hs.map n).sum := by
  unfold cat
  have key : ∀ (hs : List Nat) (s : Nat), ((hs.zipIdx s).flatMap fun p => F p.2 p.1).length = (hs.map n).sum := by
    intro hs
    induction hs with
    | nil => intro s; rfl
    | cons h t ih =>
      intro s
      rw [List.zipIdx_cons, List.flatMap_cons, List.length_append, List.map_cons, List.sum_cons, ih, hn]
  exact key hs 0
theorem deep_length (hs : List Nat) (f : Nat) : (deepN hs f).length = (rowN hs f).sum := by
  unfold deepN rowN
  exact cat_length _ (fun h => h - f) (fun s h => by rw [List.length_map, List.length_range]) hs
theorem layer_length (hs : List Nat) (c : Nat) : (layerN hs c).length = (hs.map fun h => if c < h then 1 else 0).sum := by
  unfold layerN
  exact cat_length _ (fun h => if c < h then 1 else 0) (fun s h => by split <;> rfl) hs
theorem more_sum (c : Nat) : ∀ hs : List Nat, (rowN hs c).sum = (rowN hs (c + 1)).sum + (hs.map fun h => if c < h then 1 else 0).sum
  | [] => rfl
  | h :: t => by
    have ih := more_sum c t
    unfold rowN at ih ⊢
    simp only [List.map_cons, List.sum_cons]
    split <;> omega
theorem row_count (f i : Nat) : ∀ (hs : List Nat) (k : Nat), (((hs.zipIdx k).flatMap fun p => (List.range (p.1 - f)).map fun l => (p.2, l)).filter (fun x : Nat × Nat => decide (x.1 = i))).length = if k ≤ i then hs.getD (i - k) 0 - f else 0
  | [], k => by simp
  | h :: t, k => by
    rw [List.zipIdx_cons, List.flatMap_cons, List.filter_append, List.length_append, row_count f i t (k + 1)]
    by_cases e : k = i
    · subst e
      have : List.filter (fun x : Nat × Nat => decide (x.1 = k)) ((List.range (h - f)).map fun l => (k, l)) = (List.range (h - f)).map fun l => (k, l) := by
        refine List.filter_eq_self.mpr fun x hx => ?_
        obtain ⟨l, _, rfl⟩ := List.mem_map.mp hx
        exact decide_eq_true rfl
      rw [this, List.length_map, List.length_range, if_pos (Nat.le_refl _), if_neg (by omega), Nat.sub_self, List.getD_cons_zero, Nat.add_zero]
    · have : List.filter (fun x : Nat × Nat => decide (x.1 = i)) ((List.range (h - f)).map fun l => (k, l)) = [] := by
        refine List.filter_eq_nil_iff.mpr fun x hx => ?_
        obtain ⟨l, _, rfl⟩ := List.mem_map.mp hx
        simpa using e
      rw [this, List.length_nil, Nat.zero_add]
      by_cases c : k + 1 ≤ i
      · rw [if_pos c, if_pos (by omega)]
        have : i - k = (i - (k + 1)) + 1 := by omega
        rw [this, List.getD_cons_succ]
      · rw [if_neg c, if_neg (by omega)]
theorem deep_count_row {hs : List Nat} {f i h : Nat} (e : hs[i]? = some h) : ((deepN hs f).filter (fun x => decide (x.1 = i))).length = h - f := by
  unfold deepN cat
  rw [row_count, if_pos (Nat.zero_le _), Nat.sub_zero, getD_at e]
theorem new_deep (hs : List Nat) (c : Nat) : (deepN hs c).filter (fun p => decide (p ∉ deepN hs (c + 1))) = layerN hs c := by
  have h0 : ((cat (fun s h => (List.range (h - c)).map fun l => (s, l)) hs).filter (fun p => decide (p ∉ deepN hs (c + 1)))).map id = layerN hs c := by
    rw [cat_fm]
    unfold layerN
    refine cat_congr fun s h e => ?_
    rw [List.map_id, List.filter_map]
    have : List.filter ((fun p : Nat × Nat => decide (p ∉ deepN hs (c + 1))) ∘ fun l => (s, l)) (List.range (h - c)) = (List.range (h - c)).filter (fun l => decide (l = h - 1 - c)) := by
      refine List.filter_congr fun l hl => ?_
      have hl := List.mem_range.mp hl
      refine decide_eq_decide.mpr ⟨fun q => ?_, fun q z => ?_⟩
      · by_cases c2 : l < h - (c + 1)
        · exact absurd (mem_deep.mpr ⟨h, e, c2⟩) q
        · omega
      · obtain ⟨h', e', hl'⟩ := mem_deep.mp z
        rw [e] at e'
        cases e'
        dsimp only at hl'
        omega
    rw [this, range_filter_eq]
    by_cases ch : c < h
    · rw [if_pos (by omega), if_pos ch]
      rfl
    · rw [if_neg (by omega), if_neg ch]
      rfl
  rw [List.map_id] at h0
  exact h0
theorem any_pl (l : List (Nat × Nat)) (p : Nat × Nat) : ((l.map dPl).any fun z => PyData.eqv z (dPl p)) = decide (p ∈ l) := by
  induction l with
  | nil => simp
  | cons x r ih =>
    rw [List.map_cons, List.any_cons, ih, pl_eqv]
    rw [Bool.eq_iff_iff]
    simp only [Bool.or_eq_true, decide_eq_true_eq, List.mem_cons]
    exact ⟨fun h => h.elim (fun e => .inl e.symm) .inr, fun h => h.elim (fun e => .inl e.symm) .inr⟩
theorem has_vi {H : Hp} : ∀ ns : List Nat, HasAll H (vi ns) (ns.map fun n : Nat => .int (n : Int))
  | [] => .nil
  | n :: r => .cons (.int (n : Int)) (has_vi r)
theorem row_small {hs : List Nat} (ho : HtOk hs) (f : Nat) : (rowN hs f).length ≤ 1000 ∧ ∀ n ∈ rowN hs f, n < 200 := by
  unfold rowN
  constructor
  · rw [List.length_map]
    have := ho.hi
    omega
  · intro n hn
    obtain ⟨h, hh, rfl⟩ := List.mem_map.mp hn
    have := (ho.each h hh).2
    omega
theorem pls_shaped {l : List (Nat × Nat)} (h : ∀ p ∈ l, p.1 < 200 ∧ p.2 < 200) : SeqAt.shaped (.list (l.map dPl)) = true := by
  refine (small_list (b := 40) (n := 1) fun d hd => ?_).resolve_right (by decide)
  obtain ⟨p, hp, rfl⟩ := List.mem_map.mp hd
  exact small_pl (h p hp).1 (h p hp).2
end K3
set_option maxHeartbeats 6000000
/-! the law's deep places. -/
namespace K3
open PySem PySem.Spec PyProof.Rows L2
section
variable {w : World} {K : PySem.W.Frag} {mg : Str → Option Value} {base : Heap}
def spDeepR (K : PySem.W.Frag) : Sp := fun vs H Q _ => ∃ (q y a : Addr) (hs : List Nat) (m : Nat), vs = [.ref q, .ref y, .ref a, .int (m : Int)] ∧ H a = some (.lst (vi hs)) ∧ YardAt K H y hs ∧ m ≤ hs.sum ∧ ∀ H', Same H H' → Q (.bl true) H'
abbrev nDpR : List Str := ["_law_heap_here", "_law_yard", "_law_heights_here", "_law_many_here", "_law_due", "_law_at", "_law_row", "_law_new", "_law_place"]
abbrev pDpR : List Str := ["_law_heap_here", "_law_yard", "_law_heights_here", "_law_many_here"]
theorem scDeepR : FnScope nDpR pDpR (defScope sLDeepRight) := ⟨rfl, rfl, rfl, by decide +kernel, rfl, by decide +kernel, by decide +kernel⟩
def rowScope : Scope := match (defBody sLDeepRight : List Stmt) with
  | _ :: .Assign _ (.Call _ [.ListComp _ _ sc _] _ _) _ :: _ => sc
  | _ => defScope sLDeepRight
def rowScope2 : Scope := { rowScope with names := rowScope.names.map fun (n, k) => if (k == .free && (defScope sLDeepRight).names.lookup n == some .cell) then (n, .cell) else (n, k) }
theorem ok_deep_right (T : Txt K mg) : FnG PP w K mg base CX0 7 (He.ga K "_law_deep_right") (fdOf K (He.ga K "_law_deep_right")) pDpR (spDeepR K) := by
  refine FnG.by T.F__law_deep_right scDeepR (fun vs H Q E h => ?_) (fun cdv A outer s H vs Q E gd hr h => ?_)
  · obtain ⟨q, y, a, hs, m, rfl, _⟩ := h
    rfl
  · obtain ⟨q, y, a, hs, m, rfl, ha, hy, hm, k⟩ := h
    have hu : (A.deeper (envOfC (Str.ofString "_law_deep_right") (defScope sLDeepRight) s.heap.objs.size (He.ga K (Str.ofString "_law_deep_right")) cdv)).units + 66 < cLine := by have := hr.un; omega
    have hu1 : (A.deeper (envOfC (Str.ofString "_law_deep_right") (defScope sLDeepRight) s.heap.objs.size (He.ga K (Str.ofString "_law_deep_right")) cdv)).units + 65 < cLine := by have := hr.un; omega
    have hu2 := hr.units
    refine ⟨_, PSs.nox (pss_cons (ps_set (i := 4) scDeepR.nd rfl (Or.inr rfl) (pe_callP (ok_deep T) (hr.mono (by decide)) (by rfl) T.g__law_deep T.F__law_deep.kp (bd_deep T) pass0 (pa_cons (pv 2) (pa_cons (pv 3) pa_nil))))
      (pss_cons (ps_set (i := 6) scDeepR.nd rfl (Or.inl rfl) (pe_callTy call_tuple_of (by rfl) T.n_tuple (by decide +kernel) (pa_cons
        (pe_lc (own := [("_law_at", 5)]) (g := gName 5) (tt := tYes) (te := tCB (rLen K) (tCons (tLc (iList K (tVar 4)) (gName 8) (tTest (tOp rEq (tOp (rIxT K) (tVar 8) (tC (.int 0))) (tVar 5))) (tVar 8) [8]) tNil)) rfl scDeepR.nd
          (pi_range1 (by rfl) T.n_range (pa_cons (pe_callB call_len (by rfl) T.n_len (by decide +kernel) (pa_cons (pv 2) pa_nil)) pa_nil))
          (blkOk_by (N := nDpR) (sc := defScope sLDeepRight) (by decide +kernel))
          (fun _ _ _ _ _ => pg_name (i := 5) scDeepR.nd rfl (Or.inr rfl)) (fun _ _ _ _ _ => pts_nil)
          (fun _ _ _ _ _ => pe_callB call_len (by rfl) T.n_len (by decide +kernel) (pa_cons
            (pe_lc (own := [("_law_place", 8)]) (g := gName 8) rfl scDeepR.nd (pi_list (pv 4)) (blkOk_by (N := nDpR) (sc := rowScope2) (by decide +kernel))
              (fun _ _ _ _ _ => pg_name (i := 8) scDeepR.nd rfl (Or.inl rfl)) (fun _ _ _ _ _ => pts_one (pt_cmpR op_eq (pe_ix ix_tup (pv 8) pe_int (fun _ _ => rfl)) (pv 5) (nomark _))) (fun _ _ _ _ _ => pv 8)) pa_nil))) pa_nil)))
      (pss_cons (ps_if (PW.pt (pw_or (pt_cmpR op_ne (pe_callB (call_repr gd hu) (by rfl) T.n_repr (by decide +kernel) (pa_cons (pe_callP (E := E0) (ok_deep_places T) hr (by rfl) T.g_deep_places T.F_deep_places.kp (bd_deep_places T) passL (pa_cons (pv 1) (pa_cons (pv 3) pa_nil))) pa_nil))
            (pe_callB (call_repr gd hu) (by rfl) T.n_repr (by decide +kernel) (pa_cons (pe_callTy call_tuple_of (by rfl) T.n_tuple (by decide +kernel) (pa_cons (pv 4) pa_nil)) pa_nil)) (nomark _))
          (pw_or1 (pt_cmpR op_ne (pe_callB (call_repr gd hu) (by rfl) T.n_repr (by decide +kernel) (pa_cons (pe_callP (E := E0) (ok_deep_count T) hr (by rfl) T.g_deep_count T.F_deep_count.kp (bd_deep_count T) passL (pa_cons (pv 1) (pa_cons (pv 3) pa_nil))) pa_nil))
            (pe_callB (call_repr gd hu) (by rfl) T.n_repr (by decide +kernel) (pa_cons (pe_callB call_len (by rfl) T.n_len (by decide +kernel) (pa_cons (pv 4) pa_nil)) pa_nil)) (nomark _))))) (pss_one (ps_ret pe_bl)) pss_nil)
      (pss_cons (ps_if (PW.pt (pw_or (pt_cmpR op_ne (pe_callB (call_repr gd hu) (by rfl) T.n_repr (by decide +kernel) (pa_cons (pe_callP (E := E0) (ok_deep_row T) (hr.mono (by decide)) (by rfl) T.g_deep_row T.F_deep_row.kp (bd_deep_row T) passL (pa_cons (pv 1) (pa_cons (pv 3) pa_nil))) pa_nil))
            (pe_callB (call_repr gd hu) (by rfl) T.n_repr (by decide +kernel) (pa_cons (pv 6) pa_nil)) (nomark _))
          (pw_or1 (pt_cmpR op_ne (pe_callB (call_repr gd hu) (by rfl) T.n_repr (by decide +kernel) (pa_cons (pe_callKW (E := E0) (ok_deep_row T) (hr.mono (by decide)) (by rfl) T.g_deep_row T.F_deep_row.kp (kw_deep_row T) passL (pk_cons (pv 1) (pk_cons (pv 3) pk_nil))) pa_nil))
            (pe_callB (call_repr gd hu) (by rfl) T.n_repr (by decide +kernel) (pa_cons (pv 6) pa_nil)) (nomark _))))) (pss_one (ps_ret pe_bl)) pss_nil)
      (pss_cons (ps_if (PW.pt (pw_or (pt_cmpR (op_neD hu2) (pe_callKW (E := E0) (ok_deep_places T) hr (by rfl) T.g_deep_places T.F_deep_places.kp (kw_deep_places T) passL (pk_cons (pv 1) (pk_cons (pv 3) pk_nil)))
            (pe_callTy call_tuple_of (by rfl) T.n_tuple (by decide +kernel) (pa_cons (pv 4) pa_nil)) (nomark _))
          (pw_or1 (pt_cmpR op_ne (pe_callKW (E := E0) (ok_deep_count T) hr (by rfl) T.g_deep_count T.F_deep_count.kp (kw_deep_count T) passL (pk_cons (pv 1) (pk_cons (pv 3) pk_nil)))
            (pe_callB call_len (by rfl) T.n_len (by decide +kernel) (pa_cons (pv 4) pa_nil)) (nomark _))))) (pss_one (ps_ret pe_bl)) pss_nil)
      (pss_cons (ps_for PassesOwn.never rfl (pi_range1 (by rfl) T.n_range (pa_cons (pe_callB call_len (by rfl) T.n_len (by decide +kernel) (pa_cons (pv 2) pa_nil)) pa_nil)) (pg_name (i := 5) scDeepR.nd rfl (Or.inl rfl))
        (pss_one (ps_if (pt_cmpR op_ne (pe_ix ix_tup (pv 6) (pv 5) (fun _ _ => rfl)) (pe_callB (call_max2 rfl) (by rfl) T.n_max (by decide +kernel) (pa_cons pe_int (pa_cons (pe_op op_sub (pv 3) (pe_op op_sub (pe_callB (cr_sum rfl) (by rfl) T.n_sum (by decide +kernel) (pa_cons (pv 2) pa_nil)) (pe_ix ix_list (pv 2) (pv 5) (fun _ _ => rfl)))) pa_nil))) (nomark _))
          (pss_one (ps_ret pe_bl)) pss_nil)))
      (pss_cons (ps_if (pt_cmpR op_lt (pv 3) (pe_callB (cr_sum rfl) (by rfl) T.n_sum (by decide +kernel) (pa_cons (pv 2) pa_nil)) (nomark _))
        (pss_cons (ps_setLc (i := 7) (own := [("_law_place", 8)]) (g := gName 8) (te := tVar 8) (tt := tTest (tOp (rNotInD K) (tVar 8) (tVar 4))) rfl scDeepR.nd rfl rfl (sw_true rfl rfl rfl (by decide +kernel))
            (pi_tup (pe_callP (E := E0) (ok_deep_places T) hr (by rfl) T.g_deep_places T.F_deep_places.kp (bd_deep_places T) passL (pa_cons (pv 1) (pa_cons (pe_op op_add (pv 3) pe_int) pa_nil))))
            (blkOk_by (N := nDpR) (sc := defScope sLDeepRight) (by decide +kernel))
            (fun _ _ _ _ _ => pg_name (i := 8) scDeepR.nd rfl (Or.inl rfl)) (fun _ _ _ _ _ => pts_one (pt_cmpR (op_notInD hu1) (pv 8) (pv 4) rfl)) (fun _ _ _ _ _ => pv 8))
        (pss_one (ps_ret (pe_and (pe_cmpR (op_eqD hu2) (pe_callTy call_tuple_of (by rfl) T.n_tuple (by decide +kernel) (pa_cons (pv 7) pa_nil)) (pe_callP (ok_layer T) (hr.mono (by decide)) (by rfl) T.g_layer T.F_layer.kp (bd_layer T) pass0 (pa_cons (pv 1) (pa_cons (pe_op op_sub (pe_op op_sub (pe_callB (cr_sum rfl) (by rfl) T.n_sum (by decide +kernel) (pa_cons (pv 2) pa_nil)) (pv 3)) pe_int) pa_nil))) (nomark _))
          (pe_one (pe_cmpR op_eq (pe_callP (E := E0) (ok_deep_count T) hr (by rfl) T.g_deep_count T.F_deep_count.kp (bd_deep_count T) passL (pa_cons (pv 1) (pa_cons (pe_op op_add (pv 3) pe_int) pa_nil)))
            (pe_op op_add (pe_callB call_len (by rfl) T.n_len (by decide +kernel) (pa_cons (pv 4) pa_nil)) (pe_callB call_len (by rfl) T.n_len (by decide +kernel) (pa_cons (pv 7) pa_nil))) (nomark _))))))) pss_nil)
      (pss_one (ps_ret pe_bl))))))))), ?_⟩
    have ho := hy.1
    have h12 := ho.hi
    have htot := ho.tot
    refine ⟨_, rfl, _, rfl, a, hs, m, rfl, ha, ho, hm, fun H1 p1 xs s1 np1 hp1 hall => ?_⟩
    have ha1 := s1 _ _ ha
    have hy1 := hy.same s1
    have hxl := hall.length
    rw [List.length_map] at hxl
    have hdl := deep_len ho (hs.sum - m)
    refine ⟨_, rfl, _, (vi hs).length, rfl, .inl ⟨_, SqL.of ha1, rfl⟩, _, rfl, by rw [vi_len]; omega, by rw [vi_len]; omega, fun D nD => ?_⟩
    rw [Int.toNat_natCast, vi_len]
    refine lc_it walk_range (PvG H1 D fun i acc _ => acc = vi ((rowN hs (hs.sum - m)).take i)) (PvG.zero nD rfl) (fun _ _ _ _ => trivial) ?_ ?_
    · rintro i x H2 H3 hi ⟨z, acc, hD, la, rfl⟩ ⟨rfl, ex⟩
      have ex : x = V.int (i : Int) := ex.trans (congrArg V.int (Int.zero_add _))
      subst ex
      have ei : hs[i]? = some hs[i] := List.getElem?_eq_getElem hi
      refine ⟨rfl, _, rfl, p1, rfl, ⟨_, SqL.of (z _ _ hp1)⟩, fun D2 nD2 => ?_⟩
      refine lc_it walk_list (PvG H3 D2 fun j acc _ => acc.length = (((deepN hs (hs.sum - m)).take j).filter (fun x => decide (x.1 = i))).length) (PvG.zero nD2 rfl) (fun j H' _ z2 => SqL.of (z2.1 _ _ (z _ _ hp1))) ?_ ?_
      · rintro j x H4 H5 hj ⟨z2, acc2, hD2, la2, hlen⟩ ⟨rfl, e2⟩
        obtain ⟨⟨s0, l0⟩, e3, hx⟩ := hasMap_at hall e2
        obtain ⟨t, rfl, ht⟩ := pl_inv hx
        have ht2 := z2 _ _ (z _ _ ht)
        refine ⟨rfl, _, rfl, t, _, _, _, rfl, rfl, SqT.of ht2, atI_nat (j := 0) rfl, _, rfl, rfl, _, rfl, ?_⟩
        by_cases hc : s0 = i
        · rw [decide_eq_true (show V.int ((s0 : Nat) : Int) = V.int (i : Int) by rw [hc])]
          refine iteT ⟨_, rfl, PvG.add nD2 z2 hD2 la2 (by omega) (Same.refl _) ?_⟩
          rw [take_more e3, List.filter_append, List.filter_cons, decide_eq_true (show (s0, l0).1 = i from hc), if_pos rfl, List.filter_nil, List.length_append, List.length_append, hlen]
          rfl
        · rw [decide_eq_false (show ¬ V.int ((s0 : Nat) : Int) = V.int (i : Int) from fun e => hc (by have := V.int.inj e; omega))]
          refine iteF (PvG.skip z2 hD2 la2 (Same.refl _) ?_)
          rw [take_more e3, List.filter_append, List.filter_cons, decide_eq_false (show ¬ (s0, l0).1 = i from hc), if_neg Bool.false_ne_true, List.filter_nil, List.append_nil]
          exact hlen
      · rintro H4 ⟨z2, acc2, hD2, la2, hlen⟩
        rw [hxl, List.take_length, deep_count_row ei] at hlen
        refine ⟨_, acc2.length, rfl, .inl ⟨_, SqL.of hD2, rfl⟩, PvG.add nD z hD la (by omega) z2 ?_⟩
        have er : (rowN hs (hs.sum - m))[i]? = some (hs[i] - (hs.sum - m)) := by
          unfold rowN
          rw [List.getElem?_map, ei]
          rfl
        rw [take_more er, hlen]
        unfold vi
        rw [List.map_append]
        rfl
    · rintro H2 ⟨z, acc, hD, la, rfl⟩
      rw [show (rowN hs (hs.sum - m)).take hs.length = rowN hs (hs.sum - m) from List.take_of_length_le (by unfold rowN; rw [List.length_map]; exact Nat.le_refl _)] at hD
      refine ⟨D, _, rfl, .inl ⟨SqL.of hD, fun l nl => ?_⟩⟩
      have sB : Same H1 (upd H2 l (.tup (vi (rowN hs (hs.sum - m))))) := z.trans (same_upd nl)
      have hrow : upd H2 l (.tup (vi (rowN hs (hs.sum - m)))) l = some (.tup (vi (rowN hs (hs.sum - m)))) := upd_same
      generalize upd H2 l (.tup (vi (rowN hs (hs.sum - m)))) = HB at sB hrow ⊢
      have sm1 := small_pls (Nat.le_trans hdl (by decide)) (deep_small ho (f := hs.sum - m))
      obtain ⟨rs1, rs2⟩ := row_small ho (hs.sum - m)
      have sm2 := small_ints rs1 rs2
      have sm3 : Small 10 0 (.int (((deepN hs (hs.sum - m)).length : Nat) : Int)) := small_int (by omega)
      have hyB := hy1.same sB
      have due : ∀ {H' : Hp}, Same HB H' → H' p1 = some (.lst xs) := fun s => s _ _ (sB _ _ hp1)
      have dueD : ∀ {H' : Hp}, Same HB H' → HasAll H' xs ((deepN hs (hs.sum - m)).map dPl) := fun s => HasAll.to (TupK.same (sB.trans s)) hall
      refine ⟨_, rfl, _, rfl, y, hs, _, rfl, hyB, fun c => (c ⟨by omega, by omega⟩).elim, fun n e hn H3 p3 s3 hp3 => ?_⟩
      obtain rfl : m = n := by omega
      refine ⟨_, _, rfl, hp3.dp, sm1.shaped (by decide), sm1.shw, (by intro _ z; cases z), (by intro _ z; cases z), small_room sm1 (by decide), ?_⟩
      refine ⟨_, rfl, p1, xs, rfl, .inl ⟨SqL.of (due s3), fun l4 nl4 => ?_⟩⟩
      have s4 : Same HB (upd H3 l4 (.tup xs)) := s3.trans (same_upd nl4)
      refine ⟨_, _, rfl, (Has.tup upd_same (dueD s4)).dp, sm1.shaped (by decide), sm1.shw, (by intro _ z; cases z), (by intro _ z; cases z), small_room sm1 (by decide), ?_⟩
      refine ⟨rfl, false, by simp, iteF ?_⟩
      refine ⟨_, rfl, _, rfl, y, hs, _, rfl, hyB.same s4, fun c => (c ⟨by omega, by omega⟩).elim, fun n e hn H5 s5' => ?_⟩
      obtain rfl : m = n := by omega
      have s5 := s4.trans s5'
      rw [← deep_length]
      refine ⟨_, _, rfl, .int _, sm3.shaped (by decide), sm3.shw, (by intro _ z; cases z), (by intro _ z; cases z), small_room sm3 (by decide), ?_⟩
      refine ⟨_, rfl, _, xs.length, rfl, .inl ⟨_, SqL.of (due s5), rfl⟩, ?_⟩
      rw [hxl]
      refine ⟨_, _, rfl, .int _, sm3.shaped (by decide), sm3.shw, (by intro _ z; cases z), (by intro _ z; cases z), small_room sm3 (by decide), ?_⟩
      refine ⟨rfl, false, by simp, iteF ?_⟩
      refine ⟨_, rfl, _, rfl, y, hs, _, rfl, hyB.same s5, fun c => (c ⟨by omega, by omega⟩).elim, fun n e hn H6 p6 s6' hp6 => ?_⟩
      obtain rfl : m = n := by omega
      have s6 := s5.trans s6'
      refine ⟨_, _, rfl, (Has.tup hp6 (has_vi _)).dp, sm2.shaped (by decide), sm2.shw, (by intro _ z; cases z), (by intro _ z; cases z), small_room sm2 (by decide), ?_⟩
      refine ⟨_, rfl, ?_⟩
      refine ⟨_, _, rfl, (Has.tup (s6 _ _ hrow) (has_vi _)).dp, sm2.shaped (by decide), sm2.shw, (by intro _ z; cases z), (by intro _ z; cases z), small_room sm2 (by decide), ?_⟩
      refine ⟨rfl, false, by simp, iteF ?_⟩
      refine ⟨_, rfl, _, rfl, y, hs, _, rfl, hyB.same s6, fun c => (c ⟨by omega, by omega⟩).elim, fun n e hn H7 p7 s7' hp7 => ?_⟩
      obtain rfl : m = n := by omega
      have s7 := s6.trans s7'
      refine ⟨_, _, rfl, (Has.tup hp7 (has_vi _)).dp, sm2.shaped (by decide), sm2.shw, (by intro _ z; cases z), (by intro _ z; cases z), small_room sm2 (by decide), ?_⟩
      refine ⟨_, rfl, ?_⟩
      refine ⟨_, _, rfl, (Has.tup (s7 _ _ hrow) (has_vi _)).dp, sm2.shaped (by decide), sm2.shw, (by intro _ z; cases z), (by intro _ z; cases z), small_room sm2 (by decide), ?_⟩
      refine ⟨rfl, false, by simp, iteF ?_⟩
      refine ⟨_, rfl, _, rfl, y, hs, _, rfl, hyB.same s7, fun c => (c ⟨by omega, by omega⟩).elim, fun n e hn H8 p8 s8' hp8 => ?_⟩
      obtain rfl : m = n := by omega
      have s8 := s7.trans s8'
      refine ⟨_, rfl, p1, xs, rfl, .inl ⟨SqL.of (due s8), fun l9 nl9 => ?_⟩⟩
      have s9' := same_upd (o := .tup xs) nl9
      have s9 := s8.trans s9'
      refine ⟨_, _, (Has.to (TupK.same s9') hp8).dp, (Has.tup upd_same (dueD s9)).dp, sm1.shaped (by decide), sm1.shaped (by decide), false, by rw [sm1.refl]; rfl, iteF ?_⟩
      refine ⟨_, rfl, _, rfl, y, hs, _, rfl, hyB.same s9, fun c => (c ⟨by omega, by omega⟩).elim, fun n e hn H10 s10' => ?_⟩
      obtain rfl : m = n := by omega
      have s10 := s9.trans s10'
      rw [← deep_length]
      refine ⟨_, rfl, _, xs.length, rfl, .inl ⟨_, SqL.of (due s10), rfl⟩, ?_⟩
      rw [hxl]
      refine ⟨rfl, false, by simp, iteF ?_⟩
      have haB : ∀ {H' : Hp}, Same HB H' → H' a = some (.lst (vi hs)) := fun s => s _ _ (sB _ _ ha1)
      refine ⟨_, rfl, _, (vi hs).length, rfl, .inl ⟨_, SqL.of (haB s10), rfl⟩, _, rfl, by rw [vi_len]; omega, by rw [vi_len]; omega, ?_⟩
      rw [Int.toNat_natCast, vi_len]
      refine for_it walk_range (fun i σ H' => ∃ o5 : Option V, σ = [some (.ref q), some (.ref y), some (.ref a), some (.int (m : Int)), some (.ref p1), o5, some (.ref l), none, none] ∧ Same HB H') ⟨_, rfl, s10⟩ (fun _ _ _ _ _ => trivial) ?_ ?_
      · rintro i x σ H11 H12 hi ⟨o5, rfl, s11⟩ ⟨rfl, ex⟩
        have ex : x = V.int (i : Int) := ex.trans (congrArg V.int (Int.zero_add _))
        subst ex
        have ei : hs[i]? = some hs[i] := List.getElem?_eq_getElem hi
        have er : (rowN hs (hs.sum - m))[i]? = some (hs[i] - (hs.sum - m)) := by
          unfold rowN
          rw [List.getElem?_map, ei]
          rfl
        have hile := le_sum ei
        refine ⟨_, rfl, _, rfl, l, _, _, _, rfl, rfl, SqT.of (s11 _ _ hrow), atI_nat (vi_at er), ?_⟩
        refine ⟨_, rfl, _, rfl, a, _, rfl, SqL.of (by rw [← vi_ints]; exact haB s11), ?_⟩
        rw [sum_cast]
        refine ⟨_, rfl, _, rfl, a, _, _, _, rfl, rfl, SqL.of (haB s11), atI_nat (vi_at ei), _, _, rfl, rfl, _, _, rfl, rfl, _, _, rfl, rfl, false, ?_, iteF ⟨_, rfl, s11⟩⟩
        have e : (if (m : Int) - (((hs.sum : Nat) : Int) - ((hs[i] : Nat) : Int)) > 0 then (m : Int) - (((hs.sum : Nat) : Int) - ((hs[i] : Nat) : Int)) else 0) = ((hs[i] - (hs.sum - m) : Nat) : Int) := by
          split <;> omega
        rw [e]
        simp
      · rintro σ H11 ⟨o5, rfl, s11⟩
        refine ⟨_, rfl, _, rfl, a, _, rfl, SqL.of (by rw [← vi_ints]; exact haB s11), ?_⟩
        rw [sum_cast]
        refine ⟨_, _, rfl, rfl, _, rfl, ite2 (fun hlt => ?_) (fun _ => ?_)⟩
        · have hlt : (m : Int) < ((hs.sum : Nat) : Int) := of_decide_eq_true hlt
          obtain ⟨c, hc⟩ : ∃ c, hs.sum - m = c + 1 := ⟨hs.sum - m - 1, by omega⟩
          refine ⟨_, rfl, _, rfl, _, _, rfl, rfl, y, hs, _, rfl, hyB.same s11, fun z => (z ⟨by omega, by omega⟩).elim, fun n e hn H12 p12 s12' hp12 => ?_⟩
          obtain rfl : n = m + 1 := by omega
          have s12 := s11.trans s12'
          rw [show hs.sum - (m + 1) = c by omega] at hp12
          obtain ⟨pp, ys, ep, hpp, hys⟩ := tupl_inv hp12
          cases ep
          have hyl := hys.length
          rw [List.length_map] at hyl
          have hdl2 := deep_len ho c
          refine ⟨p12, rfl, ⟨_, SqT.of hpp⟩, fun D2 nD2 => ?_⟩
          rw [hc] at dueD
          refine lc_it walk_tup (PvG H12 D2 fun i acc H' => HasAll H' acc ((((deepN hs c).take i).filter (fun p => decide (p ∉ deepN hs (c + 1)))).map dPl)) (PvG.zero nD2 .nil) (fun i H' _ z => SqT.of (z.1 _ _ hpp)) ?_ ?_
          · rintro i x H13 H14 hi ⟨z3, acc3, hD3, la3, hac⟩ ⟨rfl, e2⟩
            obtain ⟨p0, e3, hx⟩ := hasMap_at hys e2
            have hx' := Has.to (TupK.same z3) hx
            have s13 := s12.trans z3
            obtain ⟨b1, b2⟩ := deep_small ho p0 (get_mem e3)
            refine ⟨rfl, _, rfl, _, rfl, _, _, hx'.dp, .lst (SqL.of (due s13)) (dueD s13).dp, (small_pl b1 b2).shaped (by decide), pls_shaped (deep_small ho), _, rfl, ?_⟩
            rw [any_pl]
            by_cases hin : p0 ∈ deepN hs (c + 1)
            · rw [decide_eq_true hin]
              refine iteF (PvG.skip z3 hD3 la3 (Same.refl _) ?_)
              rw [take_more e3, List.filter_append, List.filter_cons, decide_eq_false (show ¬ p0 ∉ deepN hs (c + 1) from fun z => z hin), if_neg Bool.false_ne_true, List.filter_nil, List.append_nil]
              exact hac
            · rw [decide_eq_false hin]
              refine iteT ⟨_, rfl, PvG.add nD2 z3 hD3 la3 (by omega) (Same.refl _) ?_⟩
              rw [take_more e3, List.filter_append, List.filter_cons, decide_eq_true (show p0 ∉ deepN hs (c + 1) from hin), if_pos rfl, List.filter_nil, List.map_append]
              exact (HasAll.to (tupK_lst hD3) hac).app (.one (Has.to (tupK_lst hD3) hx'))
          · rintro H13 ⟨z3, acc3, hD3, la3, hac⟩
            rw [hyl, List.take_length, new_deep] at hac
            have s13 := s12.trans z3
            have hal := hac.length
            rw [List.length_map] at hal
            obtain ⟨ls1, ls2⟩ := layer_small ho c
            have sm4 := small_pls ls1 ls2
            refine ⟨_, rfl, D2, acc3, rfl, .inl ⟨SqL.of hD3, fun l14 nl14 => ?_⟩⟩
            have s14' := same_upd (o := .tup acc3) nl14
            have s14 := s13.trans s14'
            refine ⟨_, rfl, _, rfl, a, _, rfl, SqL.of (by rw [← vi_ints]; exact haB s14), ?_⟩
            rw [sum_cast]
            refine ⟨_, rfl, _, _, rfl, rfl, _, _, rfl, rfl, y, hs, c, ?_, hyB.same s14, fun H15 p15 s15' hp15 => ?_⟩
            · show [V.ref y, V.int (((hs.sum : Nat) : Int) - (m : Int) - 1)] = _
              rw [show ((hs.sum : Nat) : Int) - (m : Int) - 1 = (c : Int) by omega]
            have s15 := s14.trans s15'
            refine ⟨_, _, (Has.to (TupK.same s15') (Has.tup upd_same (HasAll.to (TupK.same s14') hac))).dp, hp15.dp, sm4.shaped (by decide), sm4.shaped (by decide), true, by rw [sm4.refl], iteT ?_⟩
            refine ⟨_, rfl, _, rfl, _, _, rfl, rfl, y, hs, _, rfl, hyB.same s15, fun z => (z ⟨by omega, by omega⟩).elim, fun n e hn H16 s16' => ?_⟩
            obtain rfl : n = m + 1 := by omega
            have s16 := s15.trans s16'
            rw [show hs.sum - (m + 1) = c by omega]
            refine ⟨_, rfl, _, xs.length, rfl, .inl ⟨_, SqL.of (due s16), rfl⟩, _, rfl, _, acc3.length, rfl, .inl ⟨_, SqL.of (s16' _ _ (s15' _ _ (s14' _ _ hD3))), rfl⟩, _, _, rfl, rfl, rfl, ?_⟩
            have e : (((rowN hs c).sum : Nat) : Int) = ((xs.length : Nat) : Int) + ((acc3.length : Nat) : Int) := by
              rw [hxl, hal, hc, deep_length, layer_length]
              have := more_sum c hs
              omega
            refine Qbl (k H16 (s1.trans (sB.trans s16))) ?_
            rw [e]
            simp
        · exact k H11 (s1.trans (sB.trans s11))
theorem bd_deep_right (T : Txt K mg) : L2.Binds K (fdOf K (He.ga K "_law_deep_right")) pDpR [] := T.F__law_deep_right.bindsN fun _ _ _ _ _ _ us hl => match us, hl with | [_, _, _, _], _ => rfl
end
end K3
set_option maxHeartbeats 6000000
/-! the law's filled places. -/
namespace K3
open PySem PySem.Spec PyProof.Rows L2
theorem small_box {rows : List (List Str)} {p : Nat × Nat} (h1 : p.1 < 200) (h2 : p.2 < 200) (h3 : NameOk (atN rows p)) : Small 171 2 (dBox rows p) := by
  unfold dBox
  refine small_le (small_tup (b := 82) (n := 1) fun d hd => ?_) (by simp) (Nat.le_refl _)
  simp only [List.mem_cons, List.not_mem_nil, or_false] at hd
  rcases hd with h | h
  · rw [h]
    exact small_le (small_pl h1 h2) (by decide) (Nat.le_refl _)
  · rw [h]
    exact small_le (small_name h3) (Nat.le_refl _) (by decide)
theorem small_boxes {rows : List (List Str)} {l : List (Nat × Nat)} (hl : l.length ≤ 144) (h : ∀ p ∈ l, p.1 < 200 ∧ p.2 < 200 ∧ NameOk (atN rows p)) : Small 50000 3 (.tuple (l.map (dBox rows))) := by
  refine small_le (small_tup (b := 171) (n := 2) fun d hd => ?_) (by rw [List.length_map]; omega) (Nat.le_refl _)
  obtain ⟨p, hp, rfl⟩ := List.mem_map.mp hd
  obtain ⟨a, b, c⟩ := h p hp
  exact small_box a b c
theorem st_of {hs : List Nat} {rows : List (List Str)} {zs : List Str} (hl : rows.length = hs.length) (fit : ∀ (i : Nat) (r : List Str) (h : Nat), rows[i]? = some r → hs[i]? = some h → r.length ≤ h) (pm : rows.flatten.Perm zs) (nd : zs.Nodup) (ok : ∀ z ∈ zs, NameOk z) : StOk hs rows :=
  ⟨hl, fit, pm.nodup_iff.mpr nd, fun z hz => ok z (pm.mem_iff.mp hz)⟩
theorem boxes_perm {rows : List (List Str)} {zs : List Str} (pm : rows.flatten.Perm zs) : boxesN rows = zs.length := by
  unfold boxesN
  rw [← List.length_flatten, pm.length_eq]
theorem sum_set : ∀ {hs : List Nat} {i h l : Nat}, hs[i]? = some h → (hs.set i l).sum + h = hs.sum + l
  | [], i, h, l, e => by simp at e
  | x :: t, 0, h, l, e => by
    have : x = h := by simpa using e
    subst this
    rw [List.set_cons_zero, List.sum_cons, List.sum_cons]
    omega
  | x :: t, i + 1, h, l, e => by
    have := sum_set (hs := t) (i := i) (h := h) (l := l) (by simpa using e)
    rw [List.set_cons_succ, List.sum_cons, List.sum_cons]
    omega
section
variable {w : World} {K : PySem.W.Frag} {mg : Str → Option Value} {base : Heap}
def spFilled (K : PySem.W.Frag) : Sp := fun vs H Q _ => ∃ (q c y a b : Addr) (hs : List Nat) (zs : List Str), vs = [.ref q, .ref y, .ref a, .ref b] ∧ DH q c H ∧ H a = some (.lst (vi hs)) ∧ (a ≠ q ∧ a ≠ c) ∧ YardAt K H y hs ∧ H b = some (.lst (zs.map V.str)) ∧ (b ≠ q ∧ b ≠ c) ∧
  zs.Nodup ∧ (∀ z ∈ zs, NameOk z) ∧ zs.length ≤ 40 ∧ zs.length ≤ hs.sum ∧ ∀ H', KD q c H H' → Q (.bl true) H'
abbrev nFil : List Str := ["_law_heap_here", "_law_yard", "_law_heights_here", "_law_names_here", "_law_many_here", "_law_due", "_law_turn", "_law_standing", "_law_at", "_law_level", "_law_told", "_law_loose", "_law_room", "_law_place", "_law_cover", "_law_one"]
abbrev pFil : List Str := ["_law_heap_here", "_law_yard", "_law_heights_here", "_law_names_here"]
theorem scFil : FnScope nFil pFil (defScope sLFilledRight) := ⟨rfl, rfl, rfl, by decide +kernel, rfl, by decide +kernel, by decide +kernel⟩
theorem ok_filled (T : Txt K mg) : FnG PP w K mg base CX0 8 (He.ga K "_law_filled_right") (fdOf K (He.ga K "_law_filled_right")) pFil (spFilled K) := by
  refine FnG.by T.F__law_filled_right scFil (fun vs H Q E h => ?_) (fun cdv A outer s H vs Q E gd hr h => ?_)
  · obtain ⟨q, c, y, a, b, hs, zs, rfl, _⟩ := h
    rfl
  · obtain ⟨q, c, y, a, b, hs, zs, rfl, dh, ha, ma, hy, hb, mb, nd, nok, z40, zsum, k⟩ := h
    have hu : (A.deeper (envOfC (Str.ofString "_law_filled_right") (defScope sLFilledRight) s.heap.objs.size (He.ga K (Str.ofString "_law_filled_right")) cdv)).units + 66 < cLine := by have := hr.un; omega
    have hu1 : (A.deeper (envOfC (Str.ofString "_law_filled_right") (defScope sLFilledRight) s.heap.objs.size (He.ga K (Str.ofString "_law_filled_right")) cdv)).units + 65 < cLine := by have := hr.un; omega
    have hu2 := hr.units
    refine ⟨_, PSs.nox (pss_cons (ps_set (i := 4) scFil.nd rfl (Or.inl rfl) (pe_callB call_len (by rfl) T.n_len (by decide +kernel) (pa_cons (pv 3) pa_nil)))
      (pss_cons (ps_set (i := 5) scFil.nd rfl (Or.inr rfl) (pe_callP (ok_deep T) (hr.mono (by decide)) (by rfl) T.g__law_deep T.F__law_deep.kp (bd_deep T) pass0 (pa_cons (pv 2) (pa_cons (pv 4) pa_nil))))
      (pss_cons (ps_for PassesOwn.never rfl (pi_range1 (by rfl) T.n_range (pa_cons pe_int pa_nil)) (pg_name (i := 6) scFil.nd rfl (Or.inl rfl))
        (pss_cons (ps_set (i := 7) scFil.nd rfl (Or.inr rfl) (pe_callP (ok_laid T) (hr.mono (by decide)) (by rfl) T.g__law_laid T.F__law_laid.kp (bd_laid T) pass0 (pa_cons (pv 0) (pa_cons (pv 2) (pa_cons
            (pe_callP (ok_mixed T) (hr.mono (by decide)) (by rfl) T.g__law_mixed T.F__law_mixed.kp (bd_mixed T) pass0 (pa_cons (pv 0) (pa_cons (pv 3) pa_nil))) pa_nil)))))
        (pss_cons (ps_set (i := 10) scFil.nd rfl (Or.inl rfl) (pe_callTy call_tuple_of (by rfl) T.n_tuple (by decide +kernel) (pa_cons
            (pe_lc (own := [("_law_at", 8), ("_law_level", 9)]) (g := gTup K 2 (gCons (gName 8) (gCons (gName 9) gNil))) (tt := tYes) (te := tTup (tCons (tTup (tCons (tVar 8) (tCons (tVar 9) tNil))) (tCons (tOp (rIxT K) (tOp (rIxT K) (tVar 7) (tVar 8)) (tVar 9)) tNil))) rfl scFil.nd
              (pi_list (pv 5)) (blkOk_by (N := nFil) (sc := defScope sLFilledRight) (by decide +kernel))
              (fun _ _ _ _ _ => pg_tup rfl (pgs_cons (pg_name (i := 8) scFil.nd rfl (Or.inl rfl)) (pgs_cons (pg_name (i := 9) scFil.nd rfl (Or.inl rfl)) pgs_nil))) (fun _ _ _ _ _ => pts_nil)
              (fun _ _ _ _ _ => pe_tup (pa_cons (pe_tup (pa_cons (pv 8) (pa_cons (pv 9) pa_nil))) (pa_cons (pe_ix ix_tup (pe_ix ix_tup (pv 7) (pv 8) (fun _ _ => rfl)) (pv 9) (fun _ _ => rfl)) pa_nil)))) pa_nil)))
        (pss_one (ps_if (PW.pt (pw_or (pt_cmpR op_ne (pe_callB (call_repr gd hu) (by rfl) T.n_repr (by decide +kernel) (pa_cons (pe_callP (ok_deep_boxes T) hr (by rfl) T.g_deep_boxes T.F_deep_boxes.kp (bd_deep_boxes T) pass0 (pa_cons (pv 1) (pa_cons (pv 7) pa_nil))) pa_nil))
            (pe_callB (call_repr gd hu) (by rfl) T.n_repr (by decide +kernel) (pa_cons (pv 10) pa_nil)) (nomark _))
          (pw_or1 (pt_cmpR (op_neD hu2) (pe_callKW (ok_deep_boxes T) hr (by rfl) T.g_deep_boxes T.F_deep_boxes.kp (kw_deep_boxes T) pass0 (pk_cons (pv 1) (pk_cons (pv 7) pk_nil))) (pv 10) (nomark _))))) (pss_one (ps_ret pe_bl)) pss_nil)))))
      (pss_cons (ps_setLc (i := 11) (own := [("_law_place", 13), ("_law_cover", 14)]) (g := gTup K 2 (gCons (gName 13) (gCons (gName 14) gNil))) (te := tVar 13) (tt := tTest (tOp (rNotInD K) (tVar 13) (tVar 5))) rfl scFil.nd rfl rfl (sw_true rfl rfl rfl (by decide +kernel))
          (pi_list (pe_callP (ok_all T) (hr.mono (by decide)) (by rfl) T.g__law_all_places T.F__law_all_places.kp (bd_all T) pass0 (pa_cons (pv 2) pa_nil)))
          (blkOk_by (N := nFil) (sc := defScope sLFilledRight) (by decide +kernel))
          (fun _ _ _ _ _ => pg_tup rfl (pgs_cons (pg_name (i := 13) scFil.nd rfl (Or.inl rfl)) (pgs_cons (pg_name (i := 14) scFil.nd rfl (Or.inl rfl)) pgs_nil)))
          (fun _ _ _ _ _ => pts_one (pt_cmpR (op_notInD hu1) (pv 13) (pv 5) rfl)) (fun _ _ _ _ _ => pv 13))
      (pss_cons (ps_if (pt_cmpR (op_eqD hu2) (pv 11) (pe_lst pa_nil) (nomark _)) (pss_one (ps_ret pe_bl)) pss_nil)
      (pss_cons (ps_asg (pe_callP (ok_pick T) (hr.mono (by decide)) (by rfl) T.g__law_pick T.F__law_pick.kp (bd_pick T) pass0 (pa_cons (pv 0) (pa_cons (pv 11) pa_nil)))
          (pg_tup rfl (pgs_cons (pg_name (i := 8) scFil.nd rfl (Or.inr rfl)) (pgs_cons (pg_name (i := 9) scFil.nd rfl (Or.inr rfl)) pgs_nil))))
      (pss_cons (ps_setLc (i := 12) (own := [("_law_one", 15)]) (g := gName 15) (tt := tYes) (te := tIf (tTest (tOp rEq (tVar 15) (tVar 8))) (tVar 9) (tOp (rIxL K) (tVar 2) (tVar 15))) rfl scFil.nd rfl rfl (sw_true rfl rfl rfl (by decide +kernel))
          (pi_range1 (by rfl) T.n_range (pa_cons (pe_callB call_len (by rfl) T.n_len (by decide +kernel) (pa_cons (pv 2) pa_nil)) pa_nil))
          (blkOk_by (N := nFil) (sc := defScope sLFilledRight) (by decide +kernel))
          (fun _ _ _ _ _ => pg_name (i := 15) scFil.nd rfl (Or.inl rfl)) (fun _ _ _ _ _ => pts_nil)
          (fun _ _ _ _ _ => pe_ifExp (pt_cmpR op_eq (pv 15) (pv 8) (nomark _)) (pv 9) (pe_ix ix_list (pv 2) (pv 15) (fun _ _ => rfl))))
      (pss_cons (ps_set (i := 7) scFil.nd rfl (Or.inr rfl) (pe_callP (ok_laid T) (hr.mono (by decide)) (by rfl) T.g__law_laid T.F__law_laid.kp (bd_laid T) pass0 (pa_cons (pv 0) (pa_cons (pv 12) (pa_cons (pv 3) pa_nil)))))
      (pss_one (ps_ret (pe_and (pe_cmpR op_eq (pe_callP (ok_free_places T) (hr.mono (by decide)) (by rfl) T.g_free_places T.F_free_places.kp (bd_free_places T) pass0 (pa_cons (pv 1) (pa_cons (pv 7) pa_nil)))
          (pe_op op_sub (pe_callB (cr_sum rfl) (by rfl) T.n_sum (by decide +kernel) (pa_cons (pv 2) pa_nil)) (pv 4)) (nomark _))
        (pe_one (pe_cmpR op_le (pe_callB call_len (by rfl) T.n_len (by decide +kernel) (pa_cons (pe_ix ix_tup (pv 7) (pv 8) (fun _ _ => rfl)) pa_nil)) (pv 9) (nomark _)))))))))))))), ?_⟩
    have ho := hy.1
    have h12 := ho.hi
    have h3 := ho.lo
    have htot := ho.tot
    refine ⟨_, rfl, _, (zs.map V.str).length, rfl, .inl ⟨_, SqL.of hb, rfl⟩, ?_⟩
    rw [List.length_map]
    refine ⟨_, rfl, _, rfl, a, hs, zs.length, rfl, ha, ho, zsum, fun H1 p1 xs s1 np1 hp1 hall => ?_⟩
    have k1 : KD q c H H1 := (KD.refl dh).same s1
    have m1 := dh.fresh np1
    have hxl := hall.length
    rw [List.length_map] at hxl
    have hdl := deep_len ho (hs.sum - zs.length)
    have dueD : ∀ {H' : Hp}, KD q c H1 H' → HasAll H' xs ((deepN hs (hs.sum - zs.length)).map dPl) := fun kd => HasAll.to (KD.tups k1.2 kd) hall
    refine ⟨_, rfl, by decide, by decide, ?_⟩
    refine for_it walk_range (fun i σ H' => ∃ o6 o7 o10 : Option V, σ = [some (.ref q), some (.ref y), some (.ref a), some (.ref b), some (.int ((zs.length : Nat) : Int)), some (.ref p1), o6, o7, none, none, o10, none, none, none, none, none] ∧ KD q c H1 H') ⟨_, _, _, rfl, KD.refl k1.2⟩ (fun _ _ _ _ _ => trivial) ?_ ?_
    · rintro i x σ H2 H3 hi ⟨o6, o7, o10, rfl, kd⟩ ⟨rfl, rfl⟩
      have k2 : KD q c H H3 := k1.trans kd
      refine ⟨_, rfl, _, rfl, _, rfl, _, rfl, q, c, b, _, rfl, k2.2, k2.at hb mb, by rw [List.length_map]; omega, fun H4 p4 ys kd4 pm np4 hp4 => ?_⟩
      obtain ⟨zs', pz, rfl⟩ := perm_inv pm zs rfl
      have k4 := k2.trans kd4
      have hzl := pz.length_eq
      refine ⟨q, c, a, p4, hs, zs', rfl, k4.2, k4.at ha ma, ma, hp4, k2.2.fresh np4, by omega, by omega, by omega, fun H5 p5 rows kd5 hst hrl hfit hperm => ?_⟩
      have hperm' := hperm.trans pz
      have so : StOk hs rows := st_of hrl hfit hperm' nd nok
      have hbx := boxes_perm hperm'
      have kd5' : KD q c H1 H5 := (kd.trans kd4).trans kd5
      have k5 := k1.trans kd5'
      have due5 := dueD kd5'
      obtain ⟨qq, qs, eq, hq, hqs⟩ := st_inv hst
      cases eq
      refine ⟨_, rfl, p1, rfl, ⟨_, SqL.of (kd5'.at hp1 m1)⟩, fun D nD => ?_⟩
      refine lc_it walk_list (PvG H5 D fun i acc H' => HasAll H' acc (((deepN hs (hs.sum - zs.length)).take i).map (dBox rows))) (PvG.zero nD .nil) (fun i H' _ z => SqL.of (z.1 _ _ (kd5'.at hp1 m1))) ?_ ?_
      · rintro i x H6 H7 hi ⟨z, acc, hD, la, hac⟩ ⟨rfl, e2⟩
        obtain ⟨⟨s0, l0⟩, e3, hx⟩ := hasMap_at due5 e2
        obtain ⟨t, rfl, ht⟩ := pl_inv hx
        obtain ⟨r, bx, hr1, hb1⟩ := so.filled (p := (s0, l0)) (by rw [hbx]; exact get_mem e3)
        dsimp only at hr1 hb1
        obtain ⟨u, hu1', hu2'⟩ : ∃ u, qs[s0]? = some (V.ref u) ∧ H5 u = some (.tup (r.map V.str)) := by
          have hlt : s0 < qs.length := by
            rw [hqs.length, List.length_map]
            exact get_lt hr1
          obtain ⟨r', u, e4, e5, e6⟩ := row_at hqs (List.getElem?_eq_getElem hlt)
          rw [hr1] at e4
          cases e4
          exact ⟨u, by rw [List.getElem?_eq_getElem hlt, e5], e6⟩
        refine ⟨t, _, rfl, SqT.of (z _ _ ht), rfl, _, _, rfl, _, _, rfl, rfl, rfl, ?_⟩
        refine ⟨_, rfl, _, rfl, (by show 2 ≤ sizeLine; decide), fun p8 n8 => ?_⟩
        have s8 := same_upd (o := .tup [.int (s0 : Int), .int (l0 : Int)]) n8
        refine ⟨_, rfl, _, rfl, p5, _, _, _, rfl, rfl, SqT.of (s8 _ _ (z _ _ hq)), atI_nat hu1', _, rfl, u, _, _, _, rfl, rfl, SqT.of (s8 _ _ (z _ _ hu2')), atI_nat (v := .str bx) (by rw [List.getElem?_map, hb1]; rfl), (by show 2 ≤ sizeLine; decide), fun p9 n9 => ?_⟩
        have s9 := same_upd (o := .tup [.ref p8, .str bx]) n9
        have hD9 := s9 _ _ (s8 _ _ hD)
        refine PvG.add nD z hD la (by omega) (s8.trans s9) ?_
        rw [take_more e3, List.map_append]
        refine (HasAll.to ((TupK.same (s8.trans s9)).trans (tupK_lst hD9)) hac).app (.one (Has.to (tupK_lst hD9) ?_))
        unfold dBox
        rw [atN_eq (p := (s0, l0)) hr1 hb1]
        exact .tup upd_same (.cons (Has.to (TupK.same s9) (has_pl upd_same)) (.cons (.str _) .nil))
      · rintro H6 ⟨z, acc, hD, la, hac⟩
        rw [hxl, List.take_length] at hac
        refine ⟨D, _, rfl, .inl ⟨SqL.of hD, fun l nl => ?_⟩⟩
        have s7' := same_upd (o := .tup acc) nl
        have s7 : Same H5 (upd H6 l (.tup acc)) := z.trans s7'
        have told : Has (upd H6 l (.tup acc)) (.ref l) (.tuple ((deepN hs (hs.sum - zs.length)).map (dBox rows))) := .tup upd_same (HasAll.to (TupK.same s7') hac)
        generalize upd H6 l (.tup acc) = H7 at s7 told ⊢
        have sm := small_boxes (rows := rows) hdl fun p hp => by
          obtain ⟨b1, b2⟩ := deep_small ho p hp
          obtain ⟨r, bx, hr1, hb1⟩ := so.filled (p := p) (by rw [hbx]; exact hp)
          refine ⟨b1, b2, ?_⟩
          rw [atN_eq hr1 hb1]
          exact so.ok _ (List.mem_flatten.mpr ⟨r, get_mem hr1, get_mem hb1⟩)
        have hy7 := (hy.kd dh k5).same s7
        have hst7 := Has.to (TupK.same s7) hst
        refine ⟨_, rfl, _, rfl, y, hs, _, rows, rfl, hy7, hst7, so, fun H8 p8 s8 hp8 => ?_⟩
        rw [hbx] at hp8
        refine ⟨_, _, rfl, hp8.dp, sm.shaped (by decide), sm.shw, (by intro _ z; cases z), (by intro _ z; cases z), small_room sm (by decide), ?_⟩
        refine ⟨_, rfl, ?_⟩
        refine ⟨_, _, rfl, (Has.to (TupK.same s8) told).dp, sm.shaped (by decide), sm.shw, (by intro _ z; cases z), (by intro _ z; cases z), small_room sm (by decide), ?_⟩
        refine ⟨rfl, false, by simp, iteF ?_⟩
        refine ⟨_, rfl, _, rfl, y, hs, _, rows, rfl, hy7.same s8, Has.to (TupK.same s8) hst7, so, fun H9 p9 s9 hp9 => ?_⟩
        rw [hbx] at hp9
        refine ⟨_, rfl, _, _, hp9.dp, (Has.to (TupK.same (s8.trans s9)) told).dp, sm.shaped (by decide), sm.shaped (by decide), false, by rw [sm.refl]; rfl, iteF ?_⟩
        exact ⟨_, _, _, rfl, kd5'.same (s7.trans (s8.trans s9))⟩
    · rintro σ H2 ⟨o6, o7, o10, rfl, kd⟩
      have k2 : KD q c H H2 := k1.trans kd
      refine ⟨_, rfl, a, hs, rfl, k2.at ha ma, ho, fun H3 p3 ws s3 np3 hp3 hws => ⟨p3, rfl, ⟨_, SqL.of hp3⟩, fun D nD => ?_⟩⟩
      have kd3 : KD q c H1 H3 := kd.same s3
      have k3 := k1.trans kd3
      have hwl := hws.length
      rw [List.length_map, all_len] at hwl
      refine lc_it walk_list (PvG H3 D fun i acc H' => HasAll H' acc (((((allN hs).take i).filter (fun x => decide (x.1 ∉ deepN hs (hs.sum - zs.length)))).map (·.1)).map dPl)) (PvG.zero nD .nil) (fun i H' _ z => SqL.of (z.1 _ _ hp3)) ?_ ?_
      · rintro i x H4 H5 hi ⟨z, acc, hD, la, hac⟩ ⟨rfl, e2⟩
        obtain ⟨⟨⟨s0, l0⟩, cv⟩, e3, hx⟩ := hasMap_at hws e2
        obtain ⟨t, u, rfl, ht, hu1'⟩ := all_inv hx
        have hpl : Has H3 (.ref u) (dPl (s0, l0)) := has_pl hu1'
        have hpl' := Has.to (TupK.same z) hpl
        have kd5 := kd3.same z
        obtain ⟨b1, b2, b3⟩ := all_small ho _ (get_mem e3)
        refine ⟨t, _, rfl, SqT.of (z _ _ ht), rfl, _, _, rfl, _, _, rfl, rfl, rfl, ?_⟩
        refine ⟨_, rfl, _, rfl, _, _, hpl'.dp, .lst (SqL.of (kd5.at hp1 m1)) (dueD kd5).dp, (small_pl b1 b2).shaped (by decide), pls_shaped (deep_small ho), _, rfl, ?_⟩
        rw [any_pl]
        by_cases hin : (s0, l0) ∈ deepN hs (hs.sum - zs.length)
        · rw [decide_eq_true hin]
          refine iteF (PvG.skip z hD la (Same.refl _) ?_)
          rw [take_more e3, List.filter_append, List.filter_cons, decide_eq_false (show ¬ (s0, l0) ∉ deepN hs (hs.sum - zs.length) from fun z => z hin), if_neg Bool.false_ne_true, List.filter_nil, List.append_nil]
          exact hac
        · rw [decide_eq_false hin]
          refine iteT ⟨_, rfl, PvG.add nD z hD la (by omega) (Same.refl _) ?_⟩
          rw [take_more e3, List.filter_append, List.filter_cons, decide_eq_true (show (s0, l0) ∉ deepN hs (hs.sum - zs.length) from hin), if_pos rfl, List.filter_nil, List.map_append, List.map_append]
          exact (HasAll.to (tupK_lst hD) hac).app (.one (Has.to (tupK_lst hD) hpl'))
      · rintro H4 ⟨z, acc, hD, la, hac⟩
        rw [hwl, show ((allN hs).take hs.sum) = allN hs from List.take_of_length_le (by rw [all_len]; exact Nat.le_refl _)] at hac
        have hloose : ∀ x ∈ ((allN hs).filter (fun x => decide (x.1 ∉ deepN hs (hs.sum - zs.length)))).map (·.1), ∃ h, hs[x.1]? = some h ∧ x.2 < h ∧ x ∉ deepN hs (hs.sum - zs.length) := by
          intro x hx
          obtain ⟨w', hw', rfl⟩ := List.mem_map.mp hx
          obtain ⟨hw1, hw2⟩ := List.mem_filter.mp hw'
          obtain ⟨h, g1, g2, g3⟩ := mem_all.mp hw1
          exact ⟨h, g1, g2, of_decide_eq_true hw2⟩
        generalize hL : ((allN hs).filter (fun x => decide (x.1 ∉ deepN hs (hs.sum - zs.length)))).map (·.1) = L at hac hloose
        have kd4 := kd3.same z
        have k4 := k1.trans kd4
        have hal := hac.length
        rw [List.length_map] at hal
        have shL : SeqAt.shaped (.list (L.map dPl)) = true := pls_shaped fun p hp => by
          obtain ⟨h, g1, g2, g3⟩ := hloose p hp
          have b1 := get_lt g1
          have b2 := (ho.each h (get_mem g1)).2
          omega
        have sh0 : SeqAt.shaped (.list []) = true := shaped_ints []
        refine ⟨_, rfl, Nat.zero_le _, fun p5 n5 => ?_⟩
        have s5 := same_upd (o := .lst []) n5
        have kd5 := kd4.same s5
        have k5 := k1.trans kd5
        have mD := k3.2.fresh nD
        refine ⟨_, _, .lst (SqL.of (s5 _ _ hD)) (HasAll.to (TupK.same s5) hac).dp, .lst (SqL.of upd_same) .nil, shL, sh0, _, rfl, ?_⟩
        rw [eqv_nil]
        refine ite2 (fun _ => k _ k5) (fun hne => ?_)
        have hpos : 0 < acc.length := by
          cases L with
          | nil => exact absurd rfl hne
          | cons x r => rw [hal]; exact Nat.zero_lt_succ _
        have hll : acc.length ≤ hs.sum := by
          rw [hwl] at la
          exact la
        refine ⟨_, rfl, _, rfl, q, c, _, rfl, k5.2, .inl ⟨D, acc, rfl, s5 _ _ hD, mD, hpos, by omega, fun H6 i6 v6 kd6 e6 => ?_⟩⟩
        obtain ⟨⟨s0, l0⟩, e7, hx⟩ := hasMap_at hac e6
        obtain ⟨t, rfl, ht⟩ := pl_inv hx
        obtain ⟨h, g1, g2, g3⟩ := hloose _ (get_mem e7)
        dsimp only at g1 g2
        have ht6 := KD.tups k5.2 kd6 _ _ (s5 _ _ ht)
        have k6 := k5.trans kd6
        have hh := ho.each h (get_mem g1)
        have hll0 : h - (hs.sum - zs.length) ≤ l0 := by
          refine Nat.le_of_not_lt fun z => g3 (mem_deep.mpr ⟨h, g1, z⟩)
        have hile := le_sum g1
        have hset := sum_set (l := l0) g1
        refine ⟨t, _, rfl, SqT.of ht6, rfl, _, _, rfl, _, _, rfl, rfl, ?_⟩
        refine ⟨_, rfl, _, (vi hs).length, rfl, .inl ⟨_, SqL.of (k6.at ha ma), rfl⟩, _, rfl, by rw [vi_len]; omega, by rw [vi_len]; omega, fun D2 nD2 => ?_⟩
        rw [Int.toNat_natCast, vi_len]
        refine lc_it walk_range (PvG H6 D2 fun i acc _ => acc = vi ((hs.set s0 l0).take i)) (PvG.zero nD2 rfl) (fun _ _ _ _ => trivial) ?_ ?_
        · rintro i x H7 H8 hi ⟨z7, acc7, hD7, la7, rfl⟩ ⟨rfl, ex⟩
          have ex : x = V.int (i : Int) := ex.trans (congrArg V.int (Int.zero_add _))
          subst ex
          have ei : hs[i]? = some hs[i] := List.getElem?_eq_getElem hi
          refine ⟨rfl, _, rfl, _, rfl, rfl, _, rfl, ?_⟩
          have add : ∀ n : Nat, (hs.set s0 l0)[i]? = some n → ∃ acc', H8 D2 = some (.lst acc') ∧ acc'.length < sizeLine ∧ PvG H6 D2 (fun i acc _ => acc = vi ((hs.set s0 l0).take i)) (i + 1) (upd H8 D2 (.lst (acc' ++ [V.int (n : Int)]))) := fun n en => PvG.add nD2 z7 hD7 la7 (by omega) (Same.refl _) (by
            rw [take_more en]
            unfold vi
            rw [List.map_append]
            rfl)
          by_cases hc : i = s0
          · subst hc
            rw [decide_eq_true (rfl : V.int (i : Int) = V.int (i : Int))]
            refine iteT ⟨_, rfl, add l0 ?_⟩
            rw [List.getElem?_set, if_pos rfl, if_pos hi]
          · rw [decide_eq_false (show ¬ V.int (i : Int) = V.int (s0 : Int) from fun e => hc (by have := V.int.inj e; omega))]
            refine iteF ⟨_, rfl, _, rfl, a, _, _, _, rfl, rfl, SqL.of (z7 _ _ (k6.at ha ma)), atI_nat (vi_at ei), add hs[i] ?_⟩
            rw [List.getElem?_set, if_neg (fun e => hc e.symm)]
            exact ei
        · rintro H7 ⟨z7, acc7, hD7, la7, rfl⟩
          rw [show (hs.set s0 l0).take hs.length = hs.set s0 l0 from List.take_of_length_le (by rw [List.length_set]; exact Nat.le_refl _)] at hD7
          have k7 := k6.same z7
          have mD2 := k6.2.fresh nD2
          refine ⟨_, rfl, _, rfl, _, rfl, q, c, D2, b, hs.set s0 l0, zs, rfl, k7.2, hD7, mD2, k7.at hb mb, mb, by rw [List.length_set]; omega, z40, by omega, fun H8 p8 rows kd8 hst hrl hfit hperm => ?_⟩
          have k8 := k7.trans kd8
          rw [List.length_set] at hrl
          have fit2 : ∀ (i : Nat) (r : List Str) (h : Nat), rows[i]? = some r → hs[i]? = some h → r.length ≤ h := by
            intro i r h' e1 e2
            by_cases hc : s0 = i
            · subst hc
              rw [g1] at e2
              cases e2
              have := hfit s0 r l0 e1 (by rw [List.getElem?_set, if_pos rfl, if_pos (get_lt g1)])
              omega
            · exact hfit i r h' e1 (by rw [List.getElem?_set, if_neg hc]; exact e2)
          have so : StOk hs rows := st_of hrl fit2 hperm nd nok
          have hbx := boxes_perm hperm
          have hy8 := hy.kd dh k8
          refine ⟨_, rfl, _, rfl, y, hs, _, rows, rfl, hy8, hst, so, fun H9 s9 => ?_⟩
          have k9 := k8.same s9
          refine ⟨_, rfl, a, _, rfl, SqL.of (by rw [← vi_ints]; exact k9.at ha ma), ?_⟩
          rw [sum_cast]
          refine ⟨_, rfl, _, _, rfl, rfl, rfl, true, by rw [hbx]; simp, iteT ?_⟩
          obtain ⟨qq, qs, eq, hq, hqs⟩ := st_inv (Has.to (TupK.same s9) hst)
          cases eq
          have hlt : s0 < qs.length := by
            rw [hqs.length, List.length_map, hrl]
            exact get_lt g1
          obtain ⟨r', u, e4, e5, e6⟩ := row_at hqs (List.getElem?_eq_getElem hlt)
          have hr' := hfit s0 r' l0 e4 (by rw [List.getElem?_set, if_pos rfl, if_pos (get_lt g1)])
          refine ⟨_, rfl, _, rfl, p8, _, _, .ref u, rfl, rfl, SqT.of hq, atI_nat (by rw [List.getElem?_eq_getElem hlt, e5]), _, (r'.map V.str).length, rfl, .inr ⟨_, SqT.of e6, rfl⟩, _, rfl, _, _, rfl, rfl, ?_⟩
          refine Qbl (k H9 k9) ?_
          rw [List.length_map]
          exact decide_eq_true (by omega)
theorem bd_filled (T : Txt K mg) : L2.Binds K (fdOf K (He.ga K "_law_filled_right")) pFil [] := T.F__law_filled_right.bindsN fun _ _ _ _ _ _ us hl => match us, hl with | [_, _, _, _], _ => rfl
end
end K3
set_option maxHeartbeats 6000000
/-! the law's word of a refusal. -/
namespace K3
open PySem PySem.Spec PyProof.Rows L2
/-- isinstance(e, c), e the exception of the class C with a dict that the suite holds -/
def rIsX (K : PySem.W.Frag) (C a : Addr) (cls : Value) (d : Option Addr) : List V → Hp → VK → Prop := fun xs H Q => ∃ (dd : Addr) (fs : List (Str × V)) (c : V) (cv : Value) (b : Bool), cls = .ref C ∧ d = some dd ∧ H dd = some (.xd fs) ∧ xs = [.ref a, c] ∧ (∀ u, RelV c u → u = cv) ∧ PySem.W.kitOne K (.ref C) cv = some b ∧ Q (.bl b) H
theorem call_isX {X : Cx} {a C : Addr} {oe : Obj} {cls : Value} {d : Option Addr} {pn : List (Addr × Obj)} (T : ExcC X.K C) (hz : Zc cls d oe) (hf : ∃ vs, oe.data = .fields vs) : CallR (X.suite a ((a, oe) :: pn)) (.builtin "isinstance") (rIsX X.K C a cls d) := by
  intro pins s σ H xs us Q I r h
  obtain ⟨dd, fs, c, cv, b, rfl, rfl, ea, rfl, hcv, e, q⟩ := h
  cases r with
  | cons rx rr =>
    cases rr with
    | cons rt rr =>
      cases rr
      cases rx
      have ec := hcv _ rt
      subst ec
      obtain ⟨hget, _⟩ := I.pin (a, oe) (List.mem_append.mpr (.inl List.mem_cons_self))
      obtain ⟨vs, hv⟩ := hf
      have hx : ObjOk X.prog X.w H s.heap dd (.xd fs) := I.hok dd _ ea
      obtain ⟨mA, hns, hr⟩ := hx
      obtain ⟨od, ho, hl⟩ := lookIn_ns hns
      have J : PySem.W.InstAt s.heap a oe C (some od) := ⟨hget, hz.1, by unfold PySem.W.notCls; rw [hv] <;> rfl, by rw [hz.2]; exact ho⟩
      have hcl : (PySem.W.clsIn X.K C).isSome = true := by
        obtain ⟨cd, h1, _⟩ := PySem.W.any_some T.hd
        rw [h1]
        rfl
      exact PySem.W.kia_one (PySem.W.kitx_exc hcl T.hg T.hk T.hs T.ha T.hn T.ht T.hm) I.kIn J e (fun z => nomatch z) fun tk => ⟨.bl b, H, I.kept (t' := tk) fun _ _ z => z, rfl, q⟩
section
variable {w : World} {K : PySem.W.Frag} {mg : Str → Option Value} {base : Heap}
/-- what _law_word makes of the lambda's reading -/
def TWord (C : Addr) : (XK → Hp → VK → Prop) → Hp → VK → Prop := fun tl H Q => tl (fun cls d H' => ∃ (dd : Addr) (v : V), cls = .ref C ∧ d = some dd ∧ H' dd = some (.xd [(("word" : Str), v)]) ∧ Q v H') H (fun _ H' => Q .non H')
theorem scWord : FnScope ["_law_work", "wrong"] ["_law_work"] (defScope sLWord) := ⟨rfl, rfl, rfl, by decide +kernel, rfl, by decide +kernel, by decide +kernel⟩
theorem word_gives (T : Txt K mg) {X : Cx} (hK : X.K = K) (hmg : X.mg = mg) {q : Str} {cdg : Value} : LamX.GivesTo X ["_law_work", "wrong"] "_law_word" (defScope sLWord) (He.ga K "_law_word") cdg (defBody sLWord) "_law_work" q (TWord (cSize K)) := by
  subst hK hmg
  intro f c' s H Q tl act hc h
  refine ⟨_, pss_cons (ps_try_as (X := (cxOf C8.CX0 X.prog X.w X.K X.mg X.base ["_law_work", "wrong"] "_law_word" (defScope sLWord) (He.ga X.K "_law_word") cdg X.A X.stack s H C8.E0).nox) (i := 1) (c := .ref (cSize X.K)) (n := "wrong")
      (tb := fun W D σ H => ∃ Ech : XK, (∀ cls d (σ' : L2.St) H', σ'.length = 2 → Ech cls d H' → W cls d σ' H') ∧ σ[0]? = some (some (.ref f)) ∧ H c' = some (LamX.CodeO c' q) ∧ tl Ech H (fun _ H' => D.nx σ H'))
      rfl rfl scWord.nd rfl rfl ⟨by rfl, by decide, .inl T.sz.gC⟩ LamX.takes0 (fun W pn xe tk _ => ?_)
      (fun a oe cls d pn hz hf => pss_one (ps_ret (pe_ifExp (pt_val (pe_callB (call_isX (excC_size T.sz) hz hf) (by rfl) T.n_isinstance (by decide +kernel) (pa_cons (pe_var (i := 1) rfl (.inl rfl)) (pa_cons (pe_glob (v := .ref (cYErr X.K)) (by rfl) T.sz.gY rfl) pa_nil))))
        (pe_xf (xfC_size T.sz) T.sz.noW hz hf (pe_var (i := 1) rfl (.inl rfl))) pe_str)))) (pss_one (ps_ret pe_non)), ?_⟩
  · refine ⟨fun pins s' σ H' D I h' => ?_⟩
    obtain ⟨Ech, hW, h1, h2, h3⟩ := h'
    have tk' : Takes ((cxOf C8.CX0 X.prog X.w X.K X.mg X.base ["_law_work", "wrong"] "_law_word" (defScope sLWord) (He.ga X.K "_law_word") cdg X.A X.stack s H C8.E0).tr pn xe) (fun cls d σ H => σ.length = 2 → W cls d σ H) := fun u s' x => by
      obtain ⟨a, B, sI, pins', σ', H', cls, d, e, J, nb, up, sky, na, os, ag, z⟩ := x
      exact tk u s' ⟨a, B, sI, pins', σ', H', cls, d, e, J, nb, up, sky, na, os, ag, z J.len⟩
    exact (pss_one (ps_expr (act (fun cls d σ H => σ.length = 2 → W cls d σ H) pn xe Ech _ _ tk' fun cls d σ' H' e hl => hW cls d σ' H' hl e))).run pins s' σ H' D I ⟨h1, h2, h3⟩
  · refine ⟨_, fun cls d σ' H' hl hh => ?_, rfl, hc, h⟩
    obtain ⟨dd, v, rfl, rfl, hd, q⟩ := hh
    match σ', hl with
    | [o0, o1], _ =>
      refine ⟨true, T.sz.te, fun _ a na => ?_, fun z => by cases z⟩
      refine ⟨_, rfl, dd, _, _, _, true, rfl, rfl, hd, rfl, fun u r => r, T.sz.ky, _, rfl, iteT ?_⟩
      exact ⟨_, rfl, rfl, rfl, dd, _, v, rfl, hd, by simp [List.lookup], q⟩
end
end K3
set_option maxHeartbeats 6000000
/-! the law's refusals. -/
namespace K3
open PySem PySem.Spec PyProof.Rows L2
/-- all but the draws' two lists and the tables is kept; the draws stand -/
def KT (q c : Addr) (H H' : Hp) : Prop := (∀ b o, H b = some o → b ≠ q → b ≠ c → (∀ ps, o ≠ .tbl ps) → H' b = some o) ∧ DH q c H'
theorem KT.of {q c : Addr} {H H' : Hp} (k : KD q c H H') : KT q c H H' := ⟨fun b o e n m _ => k.1 b o e n m, k.2⟩
theorem KT.trans {q c : Addr} {H H1 H2 : Hp} (a : KT q c H H1) (b : KT q c H1 H2) : KT q c H H2 := ⟨fun x o e n m t => b.1 x o (a.1 x o e n m t) n m t, b.2⟩
theorem KT.at {q c : Addr} {H H1 : Hp} (a : KT q c H H1) {p : Addr} {o : HO} (h : H p = some o) (m : p ≠ q ∧ p ≠ c) (t : ∀ ps, o ≠ .tbl ps := by (intro _ z; cases z)) : H1 p = some o := a.1 p o h m.1 m.2 t
theorem KT.ext {q c : Addr} {H H1 : Hp} (d : DH q c H) (e : LamX.ExtN H H1) : KT q c H H1 := by
  refine ⟨fun b o h _ _ t => e b o h t, ?_⟩
  obtain ⟨ne, cells, stir, h1, h2, r⟩ := d
  exact ⟨ne, cells, stir, e _ _ h1 (fun _ z => by cases z), e _ _ h2 (fun _ z => by cases z), r⟩
theorem YardAt.kt {K : PySem.W.Frag} {q c : Addr} {H H' : Hp} {y : Addr} {hs : List Nat} (h : YardAt K H y hs) (d : DH q c H) (k : KT q c H H') : YardAt K H' y hs := by
  obtain ⟨o, dx, ht, h1, h2⟩ := h
  exact ⟨o, dx, ht, k.at h1 (d.ne h1 (fun _ _ z => by cases z) (fun _ z => by cases z)), k.at h2 (d.ne h2 (fun _ _ z => by cases z) (fun _ z => by cases z))⟩
theorem tabs_kd {q c : Addr} {H H' : Hp} {T : List (Addr × Str)} (d : DH q c H) (k : KD q c H H') (t : LamX.Tabs T H) : LamX.Tabs T H' := by
  intro p hp
  obtain ⟨ps, h1, h2, h3⟩ := t p hp
  refine ⟨ps, k.1.at d h1 (fun _ _ z => by cases z) (fun _ z => by cases z), h2, fun pos cv hc => ?_⟩
  obtain ⟨c', e1, e2⟩ := h3 pos cv hc
  exact ⟨c', e1, k.1.at d e2 (fun _ _ z => by unfold LamX.CodeO at z; cases z) (fun _ z => by unfold LamX.CodeO at z; cases z)⟩
/-- the state of the law's refusals -/
def RS (q c : Addr) (T : List (Addr × Str)) (H H' : Hp) : Prop := KT q c H H' ∧ LamX.Tabs T H'
theorem RS.kd {q c : Addr} {T : List (Addr × Str)} {H H1 H2 : Hp} (r : RS q c T H H1) (k : KD q c H1 H2) : RS q c T H H2 := ⟨r.1.trans (.of k), tabs_kd r.1.2 k r.2⟩
theorem RS.new {q c : Addr} {T : List (Addr × Str)} {H H1 : Hp} (r : RS q c T H H1) {p : Addr} {o : HO} (n : H1 p = none) : RS q c T H (upd H1 p o) := r.kd ((KD.refl r.1.2).new n)
theorem RS.lam {q c : Addr} {T : List (Addr × Str)} {H H1 H2 : Hp} (r : RS q c T H H1) (e : LamX.ExtN H1 H2) (t : LamX.Tabs T H2) : RS q c T H H2 := ⟨r.1.trans (.ext r.1.2 e), t⟩
abbrev qRef : Str := "_law_refused_right.<locals>.<lambda>"
/-- the table of code objects that the lambdas' making writes -/
abbrev cRef (K : PySem.W.Frag) : Addr := (He.cT K ("_law_refused_right", none)).1
abbrev pRef (K : PySem.W.Frag) : Addr := (He.cT K ("_law_refused_right", none)).2
abbrev TRef (K : PySem.W.Frag) : List (Addr × Str) := [(pRef K, qRef)]
theorem FnOk_byC {P : Program} {w : World} {K : PySem.W.Frag} {mg : Str → Option Value} {base : Heap} {x qual : Str} {params : Arguments} {body : List Stmt} {scope : Scope} {dvs : List V} {kws : List (Str × V)} {f : Addr} {fd : FuncData} {CX : CXT} {N ps : List Str} {k : Nat} {sp : Sp} {p : He.Defn}
    (F : FunD K x qual params body scope dvs kws f fd) (hp : He.fAd K p = f) (S : FnScope N ps scope) (len : ∀ vs H Q E, sp vs H Q E → vs.length = ps.length)
    (hbody : ∀ (A : Around) (outer : List Env) (s : Shared) (H : Hp) (vs : List V) (Q : VK) (E : XK), Room k (A.deeper (envOfC qual scope s.heap.objs.size f (.ref (He.codeOf K p)))) → sp vs H Q E →
      ∃ t, PSs (cxOf CX P w K mg base N qual scope f (.ref (He.codeOf K p)) A outer s H E) body t ∧ t { nx := fun _ H' => Q .non H', rt := Q } (L2.start N vs) H) : FnOk P w K mg base CX (k + 1) f fd ps sp := by
  obtain ⟨oc, od, dV, kV, doc, pm, an, cdv, ct, osl, rfl, lk, hcd, _, _⟩ := F.ex
  obtain ⟨cc, rfl⟩ := He.codeIn_ref hcd
  have ec : He.codeOf K p = cc := He.codeOf_eq (by rw [hp]; exact lk) rfl
  subst ec
  exact fn_of lk hcd S len fun A outer s H vs Q E hr hsp => hbody A outer s H vs Q E hr hsp
section
variable {w : World} {K : PySem.W.Frag} {mg : Str → Option Value} {base : Heap}
theorem bd_word (T : Txt K mg) : L2.Binds K (fdOf K (He.ga K "_law_word")) ["_law_work"] [] := T.F__law_word.bindsN fun _ _ _ _ _ _ us hl => match us, hl with | [_], _ => rfl
def spRefused (K : PySem.W.Frag) : Sp := fun vs H Q _ => ∃ (q c y a : Addr) (hs : List Nat), vs = [.ref q, .ref y, .ref a] ∧ DH q c H ∧ H a = some (.lst (vi hs)) ∧ (a ≠ q ∧ a ≠ c) ∧ YardAt K H y hs ∧ LamX.Tabs (TRef K) H ∧ ∀ H', RS q c (TRef K) H H' → Q (.bl true) H'
abbrev nRef : List Str := ["_law_heap_here", "_law_yard", "_law_heights_here", "_law_total", "_law_many_here", "_law_stack", "_law_level", "_law_bad", "_law_low", "_law_boxes"]
abbrev psRef : List Str := ["_law_heap_here", "_law_yard", "_law_heights_here"]
theorem scRef : FnScope nRef psRef (defScope sLRefusedRight) := ⟨rfl, rfl, rfl, by decide +kernel, rfl, by decide +kernel, by decide +kernel⟩
theorem ok_refused (T : Txt K mg) (TB : LamX.TabB base mg (cRef K) (pRef K)) : FnOk PP w K mg base CX0 9 (He.ga K "_law_refused_right") (fdOf K (He.ga K "_law_refused_right")) psRef (spRefused K) := by
  obtain ⟨oc, od, dV, kV, doc, pm, an, cdW, ct, osl, efd, lkW, hcdW, _, _⟩ := T.F__law_word.ex
  have hbW := bd_word T
  rw [efd] at hbW lkW
  refine FnOk_byC (p := ("_law_refused_right", none)) T.F__law_refused_right rfl scRef (fun vs H Q E h => ?_) (fun A outer s H vs Q E hr h => ?_)
  · obtain ⟨q, c, y, a, hs, rfl, _⟩ := h
    rfl
  · obtain ⟨q, c, y, a, hs, rfl, dh, ha, ma, hy, hT, k⟩ := h
    refine ⟨_, PSs.nox (pss_cons (ps_par (i := 3) (j := 4) rfl scRef.nd rfl rfl (by decide) rfl rfl (pa_cons (pe_callB (cr_sum rfl) (by rfl) T.n_sum (by decide +kernel) (pa_cons (pv 2) pa_nil)) (pa_cons (pe_callB call_len (by rfl) T.n_len (by decide +kernel) (pa_cons (pv 2) pa_nil)) pa_nil)) (by rfl))
      (pss_cons (ps_asg (pe_tup (pa_cons (pe_callP (ok_draw T) (hr.mono (by decide)) (by rfl) T.g__law_draw T.F__law_draw.kp (bd_draw T) pass0 (pa_cons (pv 0) (pa_cons (pv 4) pa_nil))) (pa_cons (pe_callP (ok_draw T) (hr.mono (by decide)) (by rfl) T.g__law_draw T.F__law_draw.kp (bd_draw T) pass0 (pa_cons (pv 0) (pa_cons pe_int pa_nil))) pa_nil)))
        (pg_tup rfl (pgs_cons (pg_name (i := 5) scRef.nd rfl (Or.inr rfl)) (pgs_cons (pg_name (i := 6) scRef.nd rfl (Or.inl rfl)) pgs_nil))))
      (pss_cons (ps_set (i := 7) scRef.nd rfl (Or.inr rfl) (pe_callP (ok_pick T) (hr.mono (by decide)) (by rfl) T.g__law_pick T.F__law_pick.kp (bd_pick T) pass0 (pa_cons (pv 0) (pa_cons (pe_lst (pa_cons (pv 4) (pa_cons (pe_un un_neg pe_int)
          (pa_cons (pe_op op_add (pv 4) (pe_callP (ok_draw T) (hr.mono (by decide)) (by rfl) T.g__law_draw T.F__law_draw.kp (bd_draw T) pass0 (pa_cons (pv 0) (pa_cons pe_int pa_nil))))
          (pa_cons (pe_op op_sub (pe_un un_neg pe_int) (pe_callP (ok_draw T) (hr.mono (by decide)) (by rfl) T.g__law_draw T.F__law_draw.kp (bd_draw T) pass0 (pa_cons (pv 0) (pa_cons pe_int pa_nil)))) pa_nil))))) pa_nil))))
      (pss_cons (ps_if (pt_cmpR op_ne (LamX.pe_lamcall (k := 6) (T := TRef K) (t := fun E => tCallG (spOthers K) E (tCons (tVar 1) (tCons (tVar 7) tNil))) (by rfl) T.g__law_word T.F__law_word.kp lkW hcdW hbW scWord rfl (.inl rfl) (word_gives T rfl rfl) TB rfl (List.mem_singleton.mpr rfl) (fun p hp _ => by rw [List.mem_singleton.mp hp]; rfl) hr
            (LamX.lamS_by (sc := defScope sLRefusedRight) (by decide +kernel)) rfl (fun _ _ _ _ _ => rfl) (fun A outer s H E f c' hr2 => pe_callP (E := E) (ok_others T) (hr2.mono (by decide)) (by rfl) T.g_others T.F_others.kp (bd_others T) (passes_call (takes_of rfl rfl rfl rfl) fun _ _ _ _ z => z) (pa_cons (pv 1) (pa_cons (pv 7) pa_nil)))) pe_str (nomark _)) (pss_one (ps_ret pe_bl)) pss_nil)
      (pss_cons (ps_if (pt_cmpR op_ne (LamX.pe_lamcall (k := 6) (T := TRef K) (t := fun E => tCallG (spCover K) E (tCons (tVar 1) (tCons (tVar 7) (tCons (tUn (rU fun i => .int (-i)) (tC (.int 1))) tNil)))) (by rfl) T.g__law_word T.F__law_word.kp lkW hcdW hbW scWord rfl (.inl rfl) (word_gives T rfl rfl) TB rfl (List.mem_singleton.mpr rfl) (fun p hp _ => by rw [List.mem_singleton.mp hp]; rfl) hr
            (LamX.lamS_by (sc := defScope sLRefusedRight) (by decide +kernel)) rfl (fun _ _ _ _ _ => rfl) (fun A outer s H E f c' hr2 => pe_callP (E := E) (ok_cover_of T) (hr2.mono (by decide)) (by rfl) T.g_cover_of T.F_cover_of.kp (bd_cover_of T) (passes_call (takes_of rfl rfl rfl rfl) fun _ _ _ _ z => z) (pa_cons (pv 1) (pa_cons (pv 7) (pa_cons (pe_un un_neg pe_int) pa_nil))))) pe_str (nomark _)) (pss_one (ps_ret pe_bl)) pss_nil)
      (pss_cons (ps_set (i := 8) scRef.nd rfl (Or.inr rfl) (pe_callP (ok_pick T) (hr.mono (by decide)) (by rfl) T.g__law_pick T.F__law_pick.kp (bd_pick T) pass0 (pa_cons (pv 0) (pa_cons (pe_lst (pa_cons (pe_un un_neg pe_int) (pa_cons (pe_ix ix_list (pv 2) (pv 5) (fun _ _ => rfl)) (pa_cons (pe_op op_add (pe_ix ix_list (pv 2) (pv 5) (fun _ _ => rfl)) (pv 6)) pa_nil)))) pa_nil))))
      (pss_cons (ps_if (pt_cmpR op_ne (LamX.pe_lamcall (k := 6) (T := TRef K) (t := fun E => tCallG (spCover K) E (tCons (tVar 1) (tCons (tVar 5) (tCons (tVar 8) tNil)))) (by rfl) T.g__law_word T.F__law_word.kp lkW hcdW hbW scWord rfl (.inl rfl) (word_gives T rfl rfl) TB rfl (List.mem_singleton.mpr rfl) (fun p hp _ => by rw [List.mem_singleton.mp hp]; rfl) hr
            (LamX.lamS_by (sc := defScope sLRefusedRight) (by decide +kernel)) rfl (fun _ _ _ _ _ => rfl) (fun A outer s H E f c' hr2 => pe_callKW (E := E) (ok_cover_of T) (hr2.mono (by decide)) (by rfl) T.g_cover_of T.F_cover_of.kp (kw_cover_of T) (passes_call (takes_of rfl rfl rfl rfl) fun _ _ _ _ z => z) (pk_cons (pv 1) (pk_cons (pv 5) (pk_cons (pv 8) pk_nil))))) pe_str (nomark _)) (pss_one (ps_ret pe_bl)) pss_nil)
      (pss_cons (ps_set (i := 9) scRef.nd rfl (Or.inr rfl) (pe_callP (ok_pick T) (hr.mono (by decide)) (by rfl) T.g__law_pick T.F__law_pick.kp (bd_pick T) pass0 (pa_cons (pv 0) (pa_cons (pe_lst (pa_cons (pe_un un_neg pe_int) (pa_cons (pe_op op_add (pv 3) pe_int) (pa_cons (pe_op op_add (pe_op op_add (pv 3) pe_int) (pv 6)) (pa_cons (pe_op op_sub (pe_un un_neg pe_int) (pv 6)) pa_nil))))) pa_nil))))
      (pss_cons (ps_if (pt_cmpR op_ne (LamX.pe_lamcall (k := 6) (T := TRef K) (t := fun E => tCallG (spDeepRow K) E (tCons (tVar 1) (tCons (tVar 9) tNil))) (by rfl) T.g__law_word T.F__law_word.kp lkW hcdW hbW scWord rfl (.inl rfl) (word_gives T rfl rfl) TB rfl (List.mem_singleton.mpr rfl) (fun p hp _ => by rw [List.mem_singleton.mp hp]; rfl) hr
            (LamX.lamS_by (sc := defScope sLRefusedRight) (by decide +kernel)) rfl (fun _ _ _ _ _ => rfl) (fun A outer s H E f c' hr2 => pe_callP (E := E) (ok_deep_row T) (hr2.mono (by decide)) (by rfl) T.g_deep_row T.F_deep_row.kp (bd_deep_row T) (passes_call (takes_of rfl rfl rfl rfl) fun _ _ _ _ z => z) (pa_cons (pv 1) (pa_cons (pv 9) pa_nil)))) pe_str (nomark _)) (pss_one (ps_ret pe_bl)) pss_nil)
      (pss_cons (ps_if (pt_cmpR op_ne (LamX.pe_lamcall (k := 6) (T := TRef K) (t := fun E => tCallG (spDeepPlaces K) E (tCons (tVar 1) (tCons (tVar 9) tNil))) (by rfl) T.g__law_word T.F__law_word.kp lkW hcdW hbW scWord rfl (.inl rfl) (word_gives T rfl rfl) TB rfl (List.mem_singleton.mpr rfl) (fun p hp _ => by rw [List.mem_singleton.mp hp]; rfl) hr
            (LamX.lamS_by (sc := defScope sLRefusedRight) (by decide +kernel)) rfl (fun _ _ _ _ _ => rfl) (fun A outer s H E f c' hr2 => pe_callP (E := E) (ok_deep_places T) (hr2.mono (by decide)) (by rfl) T.g_deep_places T.F_deep_places.kp (bd_deep_places T) (passes_call (takes_of rfl rfl rfl rfl) fun _ _ _ _ z => z) (pa_cons (pv 1) (pa_cons (pv 9) pa_nil)))) pe_str (nomark _)) (pss_one (ps_ret pe_bl)) pss_nil)
      (pss_cons (ps_if (pt_not (pt_cmpR op_eq (LamX.pe_lamcall (k := 6) (T := TRef K) (t := fun E => tCallG (spDeepCount K) E (tCons (tVar 1) (tCons (tVar 9) tNil))) (by rfl) T.g__law_word T.F__law_word.kp lkW hcdW hbW scWord rfl (.inl rfl) (word_gives T rfl rfl) TB rfl (List.mem_singleton.mpr rfl) (fun p hp _ => by rw [List.mem_singleton.mp hp]; rfl) hr
            (LamX.lamS_by (sc := defScope sLRefusedRight) (by decide +kernel)) rfl (fun _ _ _ _ _ => rfl) (fun A outer s H E f c' hr2 => pe_callP (E := E) (ok_deep_count T) (hr2.mono (by decide)) (by rfl) T.g_deep_count T.F_deep_count.kp (bd_deep_count T) (passes_call (takes_of rfl rfl rfl rfl) fun _ _ _ _ z => z) (pa_cons (pv 1) (pa_cons (pv 9) pa_nil)))) pe_str (nomark _))) (pss_one (ps_ret pe_bl)) pss_nil)
      (pss_one (ps_ret (pe_cmpR op_isN (LamX.pe_lamcall (k := 6) (T := TRef K) (t := fun E => tCallG (spOthers K) E (tCons (tVar 1) (tCons (tVar 5) tNil))) (by rfl) T.g__law_word T.F__law_word.kp lkW hcdW hbW scWord rfl (.inl rfl) (word_gives T rfl rfl) TB rfl (List.mem_singleton.mpr rfl) (fun p hp _ => by rw [List.mem_singleton.mp hp]; rfl) hr
            (LamX.lamS_by (sc := defScope sLRefusedRight) (by decide +kernel)) rfl (fun _ _ _ _ _ => rfl) (fun A outer s H E f c' hr2 => pe_callP (E := E) (ok_others T) (hr2.mono (by decide)) (by rfl) T.g_others T.F_others.kp (bd_others T) (passes_call (takes_of rfl rfl rfl rfl) fun _ _ _ _ z => z) (pa_cons (pv 1) (pa_cons (pv 5) pa_nil)))) pe_non (nomark _))))))))))))))), ?_⟩
    have ho := hy.1
    have h12 := ho.hi
    have h3 := ho.lo
    have htot := ho.tot
    refine ⟨_, rfl, a, _, rfl, SqL.of (by rw [← vi_ints]; exact ha), ?_⟩
    rw [sum_cast]
    refine ⟨_, rfl, _, (vi hs).length, rfl, .inl ⟨_, SqL.of ha, rfl⟩, _, _, rfl, ?_⟩
    rw [vi_len]
    refine ⟨_, rfl, _, rfl, q, c, _, rfl, dh, by omega, by omega, fun H1 r1 kp1 d1 r10 r11 => ?_⟩
    obtain ⟨st, n, rfl, hn⟩ := nat_at r10 r11
    have hnb := ho.each n (get_mem hn)
    refine ⟨_, rfl, q, c, _, rfl, d1, by decide, by decide, fun H2 lv kp2 d2 r20 r21 => ⟨(by show 2 ≤ sizeLine; decide), fun t nt => ?_⟩⟩
    have k2 : KD q c H H2 := ⟨kp1.trans kp2, d2⟩
    have k3 := k2.new (o := .tup [.int (st : Int), .int lv]) nt
    refine ⟨t, _, rfl, SqT.of upd_same, rfl, _, _, rfl, _, _, rfl, rfl, ?_⟩
    refine ⟨_, rfl, _, rfl, _, rfl, _, rfl, _, rfl, q, c, _, rfl, k3.2, by decide, by decide, fun H4 r4 kp4 d4 r40 r41 => ?_⟩
    have k4 := k3.trans ⟨kp4, d4⟩
    refine ⟨_, _, rfl, rfl, _, rfl, _, rfl, q, c, _, rfl, d4, by decide, by decide, fun H5 r5 kp5 d5 r50 r51 => ?_⟩
    have k5 := k4.trans ⟨kp5, d5⟩
    refine ⟨_, _, rfl, rfl, (by show 4 ≤ sizeLine; decide), fun p6 n6 => ?_⟩
    have k6 := k5.new (o := .lst [.int (hs.length : Int), .int (-1), .int ((hs.length : Int) + r4), .int (-1 - r5)]) n6
    refine ⟨q, c, _, rfl, k6.2, .inl ⟨p6, _, rfl, upd_same, k5.2.fresh n6, (by show 0 < 4; decide), (by show 4 < 1000000; decide), fun H7 i7 v7 kd7 e7 => ?_⟩⟩
    have k7 := k6.trans kd7
    obtain ⟨bd, rfl, hbd⟩ : ∃ b : Int, v7 = .int b ∧ ¬ (0 ≤ b ∧ b < (hs.length : Int)) := by
      have hm := get_mem e7
      simp only [List.mem_cons, List.not_mem_nil, or_false] at hm
      rcases hm with h | h | h | h
      · exact ⟨_, h, by omega⟩
      · exact ⟨_, h, by omega⟩
      · exact ⟨_, h, by omega⟩
      · exact ⟨_, h, by omega⟩
    have R7 : RS q c (TRef K) H H7 := (show RS q c (TRef K) H H from ⟨.of (KD.refl dh), hT⟩).kd k7
    -- others(yard, bad)
    refine ⟨R7.2, fun H8 e8 T8 => ?_⟩
    have R8 := R7.lam e8 T8
    refine ⟨_, rfl, _, rfl, y, hs, bd, rfl, hy.kt dh R8.1, fun s h e1 e2 => (hbd ⟨by omega, by have := get_lt e2; omega⟩).elim, fun _ d nd => ⟨d, _, rfl, rfl, upd_same, rfl, false, by simp, iteF ?_⟩⟩
    have R9 := R8.new (o := .xd [(("word" : Str), .str "stack")]) nd
    -- cover_of(yard, bad, -1)
    refine ⟨R9.2, fun H10 e10 T10 => ?_⟩
    have R10 := R9.lam e10 T10
    refine ⟨_, rfl, _, rfl, _, rfl, y, hs, bd, _, rfl, hy.kt dh R10.1, fun _ d nd => ⟨d, _, rfl, rfl, upd_same, rfl, false, by simp, iteF ?_⟩, fun s h e1 e2 => (hbd ⟨by omega, by have := get_lt e2; omega⟩).elim⟩
    have R11 := R10.new (o := .xd [(("word" : Str), .str "stack")]) nd
    -- low
    have ha11 := R11.1.at ha ma
    refine ⟨_, rfl, _, rfl, _, rfl, _, rfl, a, _, _, _, rfl, rfl, SqL.of ha11, atI_nat (vi_at hn), _, rfl, _, rfl, a, _, _, _, rfl, rfl, SqL.of ha11, atI_nat (vi_at hn), _, rfl, _, _, rfl, rfl, (by show 3 ≤ sizeLine; decide), fun p12 n12 => ?_⟩
    have R12 := R11.new (o := .lst [.int (-1), .int ((n : Nat) : Int), .int (((n : Nat) : Int) + lv)]) n12
    refine ⟨q, c, _, rfl, R12.1.2, .inl ⟨p12, _, rfl, upd_same, R11.1.2.fresh n12, (by show 0 < 3; decide), (by show 3 < 1000000; decide), fun H13 i13 v13 kd13 e13 => ?_⟩⟩
    have R13 := R12.kd kd13
    obtain ⟨lw, rfl, hlw⟩ : ∃ b : Int, v13 = .int b ∧ ¬ (0 ≤ b ∧ b < ((n : Nat) : Int)) := by
      have hm := get_mem e13
      simp only [List.mem_cons, List.not_mem_nil, or_false] at hm
      rcases hm with h | h | h
      · exact ⟨_, h, by omega⟩
      · exact ⟨_, h, by omega⟩
      · exact ⟨_, h, by omega⟩
    -- cover_of(yard=, stack=, level=)
    refine ⟨R13.2, fun H14 e14 T14 => ?_⟩
    have R14 := R13.lam e14 T14
    refine ⟨_, rfl, _, rfl, _, rfl, y, hs, (st : Int), lw, rfl, hy.kt dh R14.1, fun z => (z ⟨by omega, by omega⟩).elim, fun s h e1 e2 => ?_⟩
    obtain rfl : st = s := by omega
    rw [hn] at e2
    cases e2
    refine ⟨fun _ d nd => ⟨d, _, rfl, rfl, upd_same, rfl, false, by simp, iteF ?_⟩, fun z => (hlw z).elim⟩
    have R15 := R14.new (o := .xd [(("word" : Str), .str "level")]) nd
    -- boxes
    refine ⟨_, rfl, _, rfl, _, rfl, _, _, rfl, rfl, _, rfl, _, _, rfl, rfl, _, rfl, _, _, rfl, rfl, _, rfl, _, rfl, _, _, rfl, rfl, (by show 4 ≤ sizeLine; decide), fun p16 n16 => ?_⟩
    have R16 := R15.new (o := .lst [.int (-1), .int (((hs.sum : Nat) : Int) + 1), .int (((hs.sum : Nat) : Int) + 1 + lv), .int (-1 - lv)]) n16
    refine ⟨q, c, _, rfl, R16.1.2, .inl ⟨p16, _, rfl, upd_same, R15.1.2.fresh n16, (by show 0 < 4; decide), (by show 4 < 1000000; decide), fun H17 i17 v17 kd17 e17 => ?_⟩⟩
    have R17 := R16.kd kd17
    obtain ⟨bx, rfl, hbx⟩ : ∃ b : Int, v17 = .int b ∧ ¬ (0 ≤ b ∧ b ≤ ((hs.sum : Nat) : Int)) := by
      have hm := get_mem e17
      simp only [List.mem_cons, List.not_mem_nil, or_false] at hm
      rcases hm with h | h | h | h
      · exact ⟨_, h, by omega⟩
      · exact ⟨_, h, by omega⟩
      · exact ⟨_, h, by omega⟩
      · exact ⟨_, h, by omega⟩
    refine ⟨R17.2, fun H18 e18 T18 => ?_⟩
    have R18 := R17.lam e18 T18
    refine ⟨_, rfl, _, rfl, y, hs, bx, rfl, hy.kt dh R18.1, fun _ d nd => ⟨d, _, rfl, rfl, upd_same, rfl, false, by simp, iteF ?_⟩, fun m e hm => (hbx ⟨by omega, by omega⟩).elim⟩
    have R19 := R18.new (o := .xd [(("word" : Str), .str "boxes")]) nd
    refine ⟨R19.2, fun H20 e20 T20 => ?_⟩
    have R20 := R19.lam e20 T20
    refine ⟨_, rfl, _, rfl, y, hs, bx, rfl, hy.kt dh R20.1, fun _ d nd => ⟨d, _, rfl, rfl, upd_same, rfl, false, by simp, iteF ?_⟩, fun m e hm => (hbx ⟨by omega, by omega⟩).elim⟩
    have R21 := R20.new (o := .xd [(("word" : Str), .str "boxes")]) nd
    refine ⟨R21.2, fun H22 e22 T22 => ?_⟩
    have R22 := R21.lam e22 T22
    refine ⟨_, rfl, _, rfl, y, hs, bx, rfl, hy.kt dh R22.1, fun _ d nd => ⟨d, _, rfl, rfl, upd_same, rfl, true, by simp, iteF ?_⟩, fun m e hm => (hbx ⟨by omega, by omega⟩).elim⟩
    have R23 := R22.new (o := .xd [(("word" : Str), .str "boxes")]) nd
    refine ⟨R23.2, fun H24 e24 T24 => ?_⟩
    have R24 := R23.lam e24 T24
    refine ⟨_, rfl, _, rfl, y, hs, (st : Int), rfl, hy.kt dh R24.1, fun s h e1 e2 => ⟨rfl, ?_⟩, fun z => (z ⟨by omega, by omega⟩).elim⟩
    exact Qbl (k H24 R24) (by simp)
theorem bd_refused (T : Txt K mg) : L2.Binds K (fdOf K (He.ga K "_law_refused_right")) psRef [] := T.F__law_refused_right.bindsN fun _ _ _ _ _ _ us hl => match us, hl with | [_, _, _], _ => rfl
end
end K3
set_option maxHeartbeats 6000000
/-! the law. -/
namespace K3
open PySem PySem.Spec PyProof.Rows L2
theorem RS.refl {q c : Addr} {T : List (Addr × Str)} {H : Hp} (d : DH q c H) (t : LamX.Tabs T H) : RS q c T H H := ⟨.of (KD.refl d), t⟩
theorem RS.trans {q c : Addr} {T : List (Addr × Str)} {H H1 H2 : Hp} (a : RS q c T H H1) (b : RS q c T H1 H2) : RS q c T H H2 := ⟨a.1.trans b.1, b.2⟩
theorem RS.same {q c : Addr} {T : List (Addr × Str)} {H H1 H2 : Hp} (r : RS q c T H H1) (s : Same H1 H2) : RS q c T H H2 := r.kd ((KD.refl r.1.2).same s)
section
variable {w : World} {K : PySem.W.Frag} {mg : Str → Option Value} {base : Heap}
def spLaw (K : PySem.W.Frag) : Sp := fun vs H Q _ => ∃ (s : Addr) (ns : List Int), vs = [.ref s] ∧ SqL K H s (ns.map V.int) ∧ ns.length ≤ 63 ∧ LamX.Tabs (TRef K) H ∧ ∀ H', Q (.bl true) H'
abbrev nLaw : List Str := ["_law_script", "_law_heap_here", "_law_turn", "_law_heights_here", "_law_yard", "_law_many_here", "_law_count", "_law_few"]
theorem scLaw : FnScope nLaw ["_law_script"] (defScope sLaw) := ⟨rfl, rfl, rfl, by decide +kernel, rfl, by decide +kernel, by decide +kernel⟩
theorem ok_law (T : Txt K mg) (TB : LamX.TabB base mg (cRef K) (pRef K)) : FnG PP w K mg base CX0 10 (He.ga K "law") (fdOf K (He.ga K "law")) ["_law_script"] (spLaw K) := by
  refine FnG.by T.F_law scLaw (fun vs H Q E h => ?_) (fun cdv A outer s H vs Q E gd hr h => ?_)
  · obtain ⟨s, ns, rfl, _⟩ := h
    rfl
  · obtain ⟨s0, ns, rfl, hs0, n63, hT, k⟩ := h
    refine ⟨_, PSs.nox (pss_cons (ps_set (i := 1) scLaw.nd rfl (Or.inl rfl) (pe_callP (ok_heap T) (hr.mono (by decide)) (by rfl) T.g__law_heap T.F__law_heap.kp (bd_heap T) pass0 (pa_cons (pv 0) (pa_cons pe_int pa_nil))))
      (pss_cons (ps_for PassesOwn.never rfl (pi_range1 (by rfl) T.n_range (pa_cons pe_int pa_nil)) (pg_name (i := 2) scLaw.nd rfl (Or.inl rfl))
        (pss_cons (ps_set (i := 3) scLaw.nd rfl (Or.inl rfl) (pe_callP (ok_heights T) (hr.mono (by decide)) (by rfl) T.g__law_heights T.F__law_heights.kp (bd_heights T) pass0 (pa_cons (pv 1) pa_nil)))
        (pss_cons (ps_par (i := 4) (j := 5) rfl scLaw.nd rfl rfl (by decide) rfl rfl (pa_cons (pe_make T.mkY (ok_yard T) (hr.mono (by decide)) (by rfl) T.g_Yard (bd_yard T) .nil pass0 (pa_cons (pv 3) pa_nil))
            (pa_cons (pe_callP (ok_many T) (hr.mono (by decide)) (by rfl) T.g__law_many T.F__law_many.kp (bd_many T) pass0 (pa_cons (pv 1) (pa_cons (pv 3) (pa_cons pe_int pa_nil)))) pa_nil)) (by rfl))
        (pss_cons (ps_if (PW.pt (pw_or (pt_not (pt_val (pe_callG (ok_covers T) gd (hr.mono (by decide)) (by rfl) T.g__law_covers_right T.F__law_covers_right.kp (bd_covers T) pass0 (pa_cons (pv 1) (pa_cons (pv 4) (pa_cons (pv 3) pa_nil))))))
            (pw_or1 (pt_not (pt_val (pe_callP (ok_refused T TB) hr (by rfl) T.g__law_refused_right T.F__law_refused_right.kp (bd_refused T) pass0 (pa_cons (pv 1) (pa_cons (pv 4) (pa_cons (pv 3) pa_nil))))))))) (pss_one (ps_ret pe_bl)) pss_nil)
        (pss_cons (ps_for PassesOwn.never rfl (pi_list (pe_lst (pa_cons (pv 5) (pa_cons (pe_callP (ok_draw T) (hr.mono (by decide)) (by rfl) T.g__law_draw T.F__law_draw.kp (bd_draw T) pass0 (pa_cons (pv 1) (pa_cons (pe_op op_add (pe_callB (cr_sum rfl) (by rfl) T.n_sum (by decide +kernel) (pa_cons (pv 3) pa_nil)) pe_int) pa_nil))) (pa_cons (pv 5) pa_nil))))) (pg_name (i := 6) scLaw.nd rfl (Or.inl rfl))
          (pss_one (ps_if (pt_not (pt_val (pe_callG (ok_deep_right T) gd (hr.mono (by decide)) (by rfl) T.g__law_deep_right T.F__law_deep_right.kp (bd_deep_right T) pass0 (pa_cons (pv 1) (pa_cons (pv 4) (pa_cons (pv 3) (pa_cons (pv 6) pa_nil))))))) (pss_one (ps_ret pe_bl)) pss_nil)))
        (pss_cons (ps_set (i := 7) scLaw.nd rfl (Or.inl rfl) (pe_callP (ok_many T) (hr.mono (by decide)) (by rfl) T.g__law_many T.F__law_many.kp (bd_many T) pass0 (pa_cons (pv 1) (pa_cons (pv 3) (pa_cons pe_int pa_nil)))))
        (pss_one (ps_if (pt_not (pt_val (pe_callG (ok_filled T) gd (hr.mono (by decide)) (by rfl) T.g__law_filled_right T.F__law_filled_right.kp (bd_filled T) pass0 (pa_cons (pv 1) (pa_cons (pv 4) (pa_cons (pv 3) (pa_cons
            (pe_callP (ok_names T) (hr.mono (by decide)) (by rfl) T.g__law_names T.F__law_names.kp (bd_names T) pass0 (pa_cons (pv 1) (pa_cons (pv 7) pa_nil))) pa_nil))))))) (pss_one (ps_ret pe_bl)) pss_nil))))))))
      (pss_one (ps_ret pe_bl)))), ?_⟩
    refine ⟨_, rfl, s0, ns, 3, rfl, hs0, n63, by decide, by decide, fun H1 q c s1 nq nc d1 => ?_⟩
    refine ⟨_, rfl, by decide, by decide, ?_⟩
    refine for_it walk_range (fun i σ H' => ∃ o2 o3 o4 o5 o6 o7 : Option V, σ = [some (.ref s0), some (.ref q), o2, o3, o4, o5, o6, o7] ∧ DH q c H' ∧ LamX.Tabs (TRef K) H') ⟨_, _, _, _, _, _, rfl, d1, hT.ext s1⟩ (fun _ _ _ _ _ => trivial) ?_ ?_
    · rintro i x σ H2 H3 hi ⟨o2, o3, o4, o5, o6, o7, rfl, d2, t2⟩ ⟨rfl, rfl⟩
      refine ⟨_, rfl, q, c, rfl, d2, fun H4 a hs k4 na ha ho => ?_⟩
      have ma := d2.fresh na
      have htot := ho.tot
      refine ⟨_, rfl, fun y dx ny ndx ne => ?_⟩
      have hay : a ≠ y := ne_of_none ha ny
      have hady : a ≠ dx := ne_of_none ha ndx
      refine ⟨y, dx, a, hs, rfl, ho, upd_same, ((upd_ne hay).trans (upd_ne hady)).trans ha, fun H5 ht kp hy5 hht => ⟨rfl, ?_⟩⟩
      have s5 : Same H4 H5 := fun b o e => kp b o (ne_of_none e ny) ((upd_ne (ne_of_none e ny)).trans ((upd_ne (ne_of_none e ndx)).trans e))
      have k5 : KD q c H3 H5 := k4.same s5
      have t5 := tabs_kd d2 k5 t2
      have ha5 := s5 _ _ ha
      have hy : YardAt K H5 y hs := ⟨ho, dx, ht, hy5, hht⟩
      have d5 := k5.2
      refine ⟨_, rfl, _, rfl, q, c, a, hs, 200, rfl, d5, ha5, ma, ho, fun H6 m k6 hm _ => ⟨_, _, rfl, ?_⟩⟩
      have R6 := (RS.refl d5 t5).kd k6
      -- covers, refused
      refine ⟨_, rfl, _, rfl, _, rfl, q, c, y, a, hs, rfl, R6.1.2, R6.1.at ha5 ma, ma, hy.kt d5 R6.1, fun H7 k7 => ⟨true, rfl, iteF ?_⟩⟩
      have R7 := R6.kd k7
      refine ⟨_, rfl, _, rfl, _, rfl, q, c, y, a, hs, rfl, R7.1.2, R7.1.at ha5 ma, ma, hy.kt d5 R7.1, R7.2, fun H8 r8 => ⟨true, rfl, iteF ?_⟩⟩
      have R8 := R7.trans r8
      -- the counts
      refine ⟨_, rfl, _, rfl, _, rfl, a, _, rfl, SqL.of (by rw [← vi_ints]; exact R8.1.at ha5 ma), ?_⟩
      rw [sum_cast]
      refine ⟨_, _, rfl, rfl, q, c, _, rfl, R8.1.2, by omega, by omega, fun H9 r9 kp9 d9 r90 r91 => ?_⟩
      obtain ⟨m2, rfl⟩ : ∃ j : Nat, r9 = (j : Int) := ⟨r9.toNat, by omega⟩
      have R9 := R8.kd ⟨kp9, d9⟩
      refine ⟨_, rfl, (by show 3 ≤ sizeLine; decide), fun p10 n10 => ?_⟩
      have R10 := R9.new (o := .lst [.int (m : Int), .int (m2 : Int), .int (m : Int)]) n10
      refine ⟨p10, rfl, ⟨_, SqL.of upd_same⟩, ?_⟩
      refine for_it (walk_list (xs := [.int (m : Int), .int (m2 : Int), .int (m : Int)])) (fun j σ H' => ∃ o6 : Option V, σ = [some (.ref s0), some (.ref q), some (.int (0 + (i : Int))), some (.ref a), some (.ref y), some (.int (m : Int)), o6, o7] ∧ Same (upd H9 p10 (.lst [.int (m : Int), .int (m2 : Int), .int (m : Int)])) H') ⟨_, rfl, Same.refl _⟩ (fun i σ H' _ ⟨_, _, z⟩ => SqL.of (z _ _ upd_same)) ?_ ?_
      · rintro j x σ H11 H12 hj ⟨o6', rfl, s11⟩ ⟨rfl, e2⟩
        obtain ⟨kk, rfl, hkk⟩ : ∃ kk : Nat, x = .int (kk : Int) ∧ kk ≤ hs.sum := by
          have hmm := get_mem e2
          simp only [List.mem_cons, List.not_mem_nil, or_false] at hmm
          rcases hmm with h | h | h
          · exact ⟨m, h, hm⟩
          · exact ⟨m2, h, by omega⟩
          · exact ⟨m, h, hm⟩
        have R11 := R10.same s11
        refine ⟨_, rfl, _, rfl, _, rfl, _, rfl, q, y, a, hs, kk, rfl, R11.1.at ha5 ma, hy.kt d5 R11.1, hkk, fun H13 s13 => ⟨true, rfl, iteF ⟨_, rfl, s11.trans s13⟩⟩⟩
      · rintro σ H11 ⟨o6', rfl, s11⟩
        have R11 := R10.same s11
        refine ⟨_, rfl, _, rfl, q, c, a, hs, 40, rfl, R11.1.2, R11.1.at ha5 ma, ma, ho, fun H12 few k12 hf1 hf2 => ?_⟩
        have R12 := R11.kd k12
        refine ⟨_, rfl, _, rfl, _, rfl, _, rfl, _, rfl, q, c, few, rfl, hf2, R12.1.2, fun H13 pz zs k13 npz hpz nd nok hzl => ?_⟩
        have R13 := R12.kd k13
        refine ⟨q, c, y, a, pz, hs, zs, rfl, R13.1.2, R13.1.at ha5 ma, ma, hy.kt d5 R13.1, hpz, R12.1.2.fresh npz, nd, nok, by omega, by omega, fun H14 k14 => ⟨true, rfl, iteF ?_⟩⟩
        have R14 := R13.kd k14
        exact ⟨_, _, _, _, _, _, rfl, R14.1.2, R14.2⟩
    · rintro σ H2 _
      exact k H2
theorem bd_law (T : Txt K mg) : L2.Binds K (fdOf K (He.ga K "law")) ["_law_script"] [] := T.F_law.bindsN fun _ _ _ _ _ _ us hl => match us, hl with | [_], _ => rfl
end
end K3
set_option maxHeartbeats 6000000
/-! the end: the law's def is called at the row's caller, where no repr is under way, with one table of code objects. -/
namespace K3
open PySem PySem.Spec PyProof.Rows L2
section
variable {P : Program} {w : World} {K : PySem.W.Frag} {mg mb : Str → Option Value} {k : Nat} {fa a c tb : Addr} {fd : FuncData} {x : Str} {sp : Sp} {s₁ : Shared} {vs : List Value} {ns : List Int}
/-- the script's object -/
abbrev scrO (vs : List Value) : Obj := { cls := .type "list", data := .seq vs.toArray }
abbrev tabO : Obj := { cls := .none, data := .fields #[] }
/-- what is tracked where the law's def is entered: the table, and the script unless the written part holds it -/
def H0 (K : PySem.W.Frag) (a tb : Addr) (vs : List Value) (ns : List Int) : Hp := fun b => if b = tb then some (.tbl #[]) else if b = a then (match K.lookup a with | some _ => none | none => some (.frz (scrO vs) (.lst (ns.map V.int)))) else none
theorem H0_tb : H0 K a tb vs ns tb = some (.tbl #[]) := if_pos rfl
theorem H0_a (n : a ≠ tb) (e : K.lookup a = none) : H0 K a tb vs ns a = some (.frz (scrO vs) (.lst (ns.map V.int))) := by
  unfold H0
  rw [if_neg n, if_pos rfl, e]
theorem H0_aK (n : a ≠ tb) {o : Obj} (e : K.lookup a = some o) : H0 K a tb vs ns a = none := by
  unfold H0
  rw [if_neg n, if_pos rfl, e]
theorem H0_out {b : Addr} (n : b ≠ tb) (m : b ≠ a) : H0 K a tb vs ns b = none := by
  unfold H0
  rw [if_neg n, if_neg m]
theorem H0_inv {b : Addr} {u : HO} (n : a ≠ tb) (e : H0 K a tb vs ns b = some u) : (b = tb ∧ u = .tbl #[]) ∨ (b = a ∧ K.lookup a = none ∧ u = .frz (scrO vs) (.lst (ns.map V.int))) := by
  by_cases h1 : b = tb
  · subst h1
    rw [H0_tb] at e
    exact .inl ⟨rfl, (Option.some.inj e).symm⟩
  · by_cases h2 : b = a
    · subst h2
      cases q : K.lookup b with
      | some o =>
        rw [H0_aK n q] at e
        cases e
      | none =>
        rw [H0_a n q] at e
        exact .inr ⟨rfl, rfl, (Option.some.inj e).symm⟩
    · rw [H0_out h1 h2] at e
      cases e
theorem law_callG (KX : K.In s₁.heap) (hns : s₁.heap.Ns mainGlobals mg) (hb : s₁.heap.Ns builtinsNs mb) (hbb : ∀ x : Str, x ≠ "__name__" → mb x = bootBuiltins x) (hlim : s₁.heap.NoLimit) (hg : s₁.gens = #[])
    (hT : s₁.heap.get? tb = some tabO) (nT : K.lookup tb = none) (C : PySem.W.CodeHd s₁.heap c tb)
    (hbm : ∃ (bm : Addr) (ob : Obj), mg "__builtins__" = some (.ref bm) ∧ bm ≠ builtinsNs ∧ s₁.heap.get? bm = some ob ∧ ob.cls = .type "module" ∧ ob.dict = some builtinsNs ∧ ob.data = .plain)
    (ha : s₁.heap.get? a = some (scrO vs)) (hi : IntsAre vs ns) (hl : ns.length ≤ sizeLine) (hr : Room k callerA)
    (F : ∀ base : Heap, K.In base → base.Ns mainGlobals mg → LamX.TabB base mg c tb → FnG P w K mg base CX0 k fa fd [x] sp) (hbind : ∀ (s : Shared) (u : Value), BindsTo s fd ⟨[u], []⟩ [(x, u)])
    (hsp : ∀ H : Hp, H tb = some (.tbl #[]) → SqL K H a (ns.map V.int) → sp [.ref a] H (fun v _ => v = .bl true) fun _ _ _ => False) :
    codeAny (model P w) callerA (.call (.ref fa) ⟨[.ref a], []⟩) (fun r s' => r = .ok (.ret (.bool true)) ∧ OldK s₁.heap s'.heap ∧ s'.os = s₁.os ∧ AllBare s'.gens) s₁ := by
  have rv := vals_ints hi
  have lenV := hi.length
  have nat : a ≠ tb := fun z => by
    rw [z, hT] at ha
    have z2 : Data.fields #[] = Data.seq vs.toArray _ := congrArg Obj.data (Option.some.inj ha)
    cases z2
  -- what is not tracked
  have out : ∀ {b : Addr} {o : Obj}, s₁.heap.get? b = some o → (∀ v n, o.data ≠ .seq v n) → o.data ≠ .fields #[] → H0 K a tb vs ns b = none := fun {b o} e h1 h2 => by
    refine H0_out (fun z => ?_) (fun z => ?_)
    · rw [z, hT] at e
      cases e
      exact h2 rfl
    · rw [z, ha] at e
      cases e
      exact h1 _ _ rfl
  have outD : ∀ {b : Addr} {o : Obj} {es : Array DictEntry} {ep : Nat}, s₁.heap.get? b = some o → o.data = .dict es ep → H0 K a tb vs ns b = none := fun {b o es ep} e d => out e (fun v n z => by rw [d] at z; cases z) (fun z => by rw [d] at z; cases z)
  have nsK : ∀ {b : Addr} {m : Str → Option Value}, s₁.heap.Ns b m → (hidT s₁.heap (H0 K a tb vs ns)).Ns b m := fun {b m} ⟨o, es, ep, e, d, r⟩ => ⟨o, es, ep, hidT_get e (outD e d), d, r⟩
  have hKb : K.In (hidT s₁.heap (H0 K a tb vs ns)) := fun b o e => hidT_get (KX b o e) (by
    cases q : H0 K a tb vs ns b with
    | none => rfl
    | some u =>
      rcases H0_inv nat q with ⟨rfl, _⟩ | ⟨rfl, e2, _⟩
      · rw [nT] at e
        cases e
      · rw [e2] at e
        cases e)
  have hM : L2.Mod K mg (hidT s₁.heap (H0 K a tb vs ns)) := ⟨hKb, nsK hns, ⟨mb, nsK hb, hbb⟩, let ⟨mc, h1, h2⟩ := hlim; ⟨mc, nsK h1, h2⟩⟩
  have notG : ∀ {b : Addr} {o : Obj}, s₁.heap.get? b = some o → (∀ es ep, o.data ≠ .dict es ep) → b ≠ mainGlobals := fun {b o} e h z => by
    obtain ⟨o', es, ep, e', d, _⟩ := hns
    rw [z, e'] at e
    cases e
    exact h _ _ d
  have TB : LamX.TabB (hidT s₁.heap (H0 K a tb vs ns)) mg c tb := by
    refine ⟨?_, ?_, (notG hT fun es ep z => by cases z).symm⟩
    · obtain ⟨o, us, file, tf, flags, tg, inF, text, tt, e1, r1, r2, r3, rest⟩ := C
      refine ⟨o, us, file, tf, flags, tg, inF, text, tt, hidT_get e1 (out e1 (fun v n z => ?_) fun z => ?_), r1, r2, r3, rest⟩
      · rw [r2] at z
        cases z
      · rw [r2] at z
        cases z
        simp at r3
    · obtain ⟨bm, ob, b1, b2, b3, b4, b5, b6⟩ := hbm
      have nP : bm ≠ tb := fun z => by
        rw [z, hT] at b3
        cases b3
        cases b6
      exact ⟨bm, ob, b1, b2, notG b3 (fun es ep z => by rw [b6] at z; cases z), nP, hidT_get b3 (out b3 (fun v n z => by rw [b6] at z; cases z) fun z => by rw [b6] at z; cases z), b4, b5, b6⟩
  have hok : HOk P w (H0 K a tb vs ns) s₁.heap := fun b u e => by
    rcases H0_inv nat e with ⟨rfl, rfl⟩ | ⟨rfl, _, rfl⟩
    · exact hT
    · exact ⟨ha, by rw [List.length_map]; exact hl, vs, _, rv, ha⟩
  have hS : SqL K (H0 K a tb vs ns) a (ns.map V.int) := by
    cases hk : K.lookup a with
    | some o =>
      have e := KX a o hk
      rw [ha] at e
      cases e
      exact .inr ⟨_, vs.toArray, _, hk, rfl, rfl, rfl, by rw [List.size_toArray, lenV]; exact hl, by simpa using rv⟩
    | none => exact .inl (.inr ⟨scrO vs, H0_a nat hk⟩)
  have e0 : Env0 P w K mg (hidT s₁.heap (H0 K a tb vs ns)) callerA [] s₁ (H0 K a tb vs ns) := ⟨rfl, hM, fun b o e => of_hidT e, Nat.le_of_eq (hidT_size _ _), trivial, fun b hb => absurd (show b ∈ ([] : List Addr) from hb) (by simp), hok, .of_eq hg⟩
  refine codeAny_mono ((F _ hKb (nsK hns) TB).go callerA [] s₁ _ ⟨[.ref a], []⟩ [.ref a] [.ref a] _ _ rfl hr e0 (hbind s₁ (.ref a)) (.cons rfl .nil) (hsp _ H0_tb hS)) fun r s' h => ?_
  match r, h with
  | .ok (.ret u), h =>
    obtain ⟨v, H', os, bare, un, hok', r', q⟩ := h
    have q' : v = .bl true := q
    subst q'
    obtain rfl : u = Value.bool true := r'
    obtain ⟨more, hm⟩ := un.tbls tb #[] H0_tb
    have hm' : s'.heap.get? tb = some { cls := .none, data := .fields more } := by
      have := hok' tb _ hm
      rw [Array.empty_append] at this
      exact this
    have key : ∀ b o, b ≠ tb → s₁.heap.get? b = some o → s'.heap.get? b = some o := fun b o nb e => by
      cases q : H0 K a tb vs ns b with
      | none => exact un.keep b o e q (by intro z; exact absurd (show b ∈ ([] : List Addr) from z) (by simp)) (by simp)
      | some u =>
        rcases H0_inv nat q with ⟨z, _⟩ | ⟨rfl, _, rfl⟩
        · exact absurd z nb
        · obtain ⟨e2, _⟩ := hok' b _ (un.frzs b _ _ q)
          rw [ha] at e
          cases e
          exact e2
    refine ⟨rfl, ⟨fun b o e => ?_, fun b o e => ?_⟩, os, bare⟩
    · by_cases hb2 : b = tb
      · subst hb2
        rw [hT] at e
        cases e
        exact .inr (.inl ⟨(C.tab hT).isCodeTable, rfl, #[], more, rfl, by rw [Array.empty_append]; exact hm'⟩)
      · exact .inl (key b o hb2 e)
    · by_cases hb2 : b = tb
      · subst hb2
        exact ⟨_, hm'⟩
      · exact ⟨o, key b o hb2 e⟩
end
/-- what the head tells gives the law's promise -/
theorem facts {w : World} {K : PySem.W.Frag} {h : Heap} {mg : Str → Option Value} (X : K.In h) (G : h.Ns mainGlobals mg) (c : SaysK h K) : Txt K mg := ⟨c.d, c.i, c.ex, ⟨h, X, G⟩⟩
theorem bdA_law {K : PySem.W.Frag} {mg : Str → Option Value} (T : Txt K mg) (s : Shared) (u : Value) : BindsTo s (fdOf K (He.ga K "law")) ⟨[u], []⟩ [(("_law_script" : Str), u)] :=
  (FunD.bindsA (ps := ["_law_script"]) T.F_law fun _ _ _ _ _ _ us hl => match us, hl with | [_], _ => rfl) s [u] rfl
end K3
open PySem PySem.W PySem.Calls PyProof.Rows
theorem PySem.Challenge.cw_staysdeep_k03_whole_covers_and_deep_plac_holds : PySem.Challenge.rw_staysdeep_k03_whole_covers_and_deep_plac.Holds := by
  w_on; o_law
  refine HandSHeadRun.head_any (r := OpenLaw.row PySem.Challenge.rw_staysdeep_k03_whole_covers_and_deep_plac) (q := view (OpenLaw.row PySem.Challenge.rw_staysdeep_k03_whole_covers_and_deep_plac).prog [45]) (H := K3.hk) (ob := K3.ob) (M := 4000) (loose := K3.loose) (d := HandSHeadRun.topDef (OpenLaw.row PySem.Challenge.rw_staysdeep_k03_whole_covers_and_deep_plac).prog 45) (kwd := []) K3.ob_eq
    (by kernel_rfl) (fun s => by kernel_rfl) K3.run (by kernel_rfl) (by kernel_rfl) (by kernel_rfl) (by rfl) (by first | assumption | decide +kernel) (by decide +kernel) ⟨rfl, rfl, rfl, rfl, rfl, by decide +kernel⟩ ?hw ?hc
  case hw => w_witness2
  case hc =>
    refine Att.attach_callB (n := 63) rfl (by kernel_rfl) fun w s₀ s₁ mg mb fa o pm cd doc a vs ns G Y ho hd hcd hmg0 hobj hints hlen hbits hg => ?_
    obtain ⟨K, KX, c⟩ := Y
    have hmg : mg ("law" : PySem.Str) = some (.ref fa) := by
      have e : (HandSHeadRun.topDef (OpenLaw.row PySem.Challenge.rw_staysdeep_k03_whole_covers_and_deep_plac).prog 45).name = ("law" : PySem.Str) := by kernel_rfl
      rw [← e]
      exact hmg0
    have T : K3.Txt K mg := K3.facts (w := w) KX G.T.g c
    have e := hmg.symm.trans T.g_law
    cases e
    have hin : (("_law_refused_right", none) : He.Defn) ∈ K3.tf := List.mem_singleton.mpr rfl
    exact K3.law_callG (k := 10) (c := K3.cRef K) (tb := K3.pRef K) (fd := K3.fdOf K (He.ga K "law")) (x := "_law_script") (sp := K3.spLaw K) KX G.T.g G.T.b G.T.builtins G.T.nolimit hg (c.empty _ hin) (c.out _ hin) (codeHd_of_K KX (c.hd _ hin)) G.T.bmain hobj hints (Nat.le_trans hlen (by decide)) ⟨rfl, by decide, by decide⟩
      (fun base _ _ TB => K3.ok_law T TB) (fun s u => K3.bdA_law T s u)
      fun H hP hS => ⟨a, ns, rfl, hS, hlen, (fun p hp => by rw [List.mem_singleton.mp hp]; exact LamX.TabS.nil hP), fun _ => rfl⟩
