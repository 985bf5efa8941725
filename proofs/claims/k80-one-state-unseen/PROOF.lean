import PyProof.Rows.All
import Wide.All
import OpenK.AllK
import Wide.FinOn
import HandS.ForMost
import HandS.ForExc
import HandS.Walk
import HandS.IsInst
import HandS.Defaults
import HandS.Star
import HandS.Gcd
import HandS.Wide
import HandS.DictComp
import HandS.Property
import HandS.TryMany
import HandS.WordsExc
import HandS.Zip
import KE.GoesEnum
import KE.GoesMore
import KE.GoesZip
import KE.Datum
import KE.KTupSum
import HandS.Nested
import KE.KSuper
import PySem.Challenge.RW_lastingshares_k80_one_state_unseen
import KE.DatumMore
import HandS.ExcSuper
import HandS.ExcInit
import HandS.ExcField
import HandS.Head0
import HandS.Head1
import HandS.Head2
import HandS.Head3
import HandS.HeadEnd
import HandS.HeadHook1
import HandS.HeadHook2
set_option Elab.async false
set_option linter.all false
set_option maxRecDepth 100000
set_option maxHeartbeats 0
namespace K
open PySem.Spec PySem PyProof.Rows L2
def top (i : Nat) : Stmt := PySem.Challenge.pw_lastingshares_k80_one_state_unseen.main.body.getD i (.Pass ⟨0, 0, 0, 0⟩)
abbrev mBadStateInit : Stmt := inClass (top 5) 0
abbrev mBadRowInit : Stmt := inClass (top 11) 0
abbrev pIsInt : Stmt := top 15
abbrev pFraction : Stmt := top 16
abbrev pIsState : Stmt := top 17
abbrev pCheckStates : Stmt := top 19
abbrev pTableRows : Stmt := top 23
abbrev pArrowsOf : Stmt := top 24
abbrev mTableInit : Stmt := inClass (top 28) 1
abbrev pWalkedTo : Stmt := top 30
abbrev pClosedLot : Stmt := top 31
abbrev mChainInit : Stmt := inClass (top 33) 1
abbrev pShareRow : Stmt := top 35
abbrev pBoundsOf : Stmt := top 37
abbrev pStepsAt : Stmt := top 38
abbrev pTraced : Stmt := top 39
abbrev pWayBySteps : Stmt := top 40
abbrev pSendAlong : Stmt := top 41
abbrev pExcess : Stmt := top 42
abbrev pSettled : Stmt := top 43
abbrev pScaledOf : Stmt := top 44
abbrev pShortLot : Stmt := top 46
abbrev pIsReached : Stmt := top 47
abbrev pWorldWith : Stmt := top 48
abbrev pRatesOfState : Stmt := top 49
abbrev pTableIn : Stmt := top 51
abbrev pFirstCrossed : Stmt := top 52
abbrev pUnlikePairs : Stmt := top 53
abbrev mNotesInit : Stmt := inClass (top 56) 0
abbrev mNotesUnseenMany : Stmt := inClass (top 56) 3
abbrev mNotesUnseen : Stmt := inClass (top 56) 5
abbrev pReachedCurrents : Stmt := top 58
abbrev pMostSent : Stmt := top 59
abbrev pRateSpan : Stmt := top 60
abbrev pRingOver : Stmt := top 61
abbrev pToldPairs : Stmt := top 62
abbrev pTellsRates : Stmt := top 63
abbrev sDraws : Stmt := top 65
abbrev sTake : Stmt := top 66
abbrev sEmpty : Stmt := top 67
abbrev sCopy : Stmt := top 68
abbrev sRate : Stmt := top 69
abbrev sRingGrid : Stmt := top 70
abbrev sHungGrid : Stmt := top 71
abbrev sMoved : Stmt := top 72
abbrev sPair : Stmt := top 73
abbrev sNumbers : Stmt := top 74
abbrev sInt : Stmt := top 75
abbrev sInts : Stmt := top 76
abbrev sFraction : Stmt := top 77
abbrev sSame : Stmt := top 78
abbrev sLowTerms : Stmt := top 79
abbrev sLotGrid : Stmt := top 80
abbrev sLotGcd : Stmt := top 81
abbrev sLotLowest : Stmt := top 82
abbrev sLotShares : Stmt := top 83
abbrev sLotSquare : Stmt := top 84
abbrev sLotHas : Stmt := top 85
abbrev sLotSpoilt : Stmt := top 86
abbrev sLotBalanced : Stmt := top 87
abbrev sWanted : Stmt := top 88
abbrev sRatesRight : Stmt := top 89
abbrev sTold : Stmt := top 90
abbrev sRefusals : Stmt := top 91
abbrev sReachedRight : Stmt := top 92
abbrev sRingSpans : Stmt := top 93
abbrev sLaw : Stmt := top 94
abbrev tabF : List Str := ["rows", "size", "_arrows"]
abbrev ntF : List Str := ["lows", "highs", "size", "_unseen"]
def defsL : List (Str × Stmt) := ([("is_int", pIsInt), ("fraction", pFraction), ("is_state", pIsState), ("table_rows", pTableRows), ("arrows_of", pArrowsOf), ("walked_to", pWalkedTo), ("closed_lot", pClosedLot), ("share_row", pShareRow), ("bounds_of", pBoundsOf), ("steps_at", pStepsAt), ("_traced", pTraced), ("send_along", pSendAlong), ("_excess", pExcess), ("settled", pSettled), ("scaled_of", pScaledOf), ("short_lot", pShortLot), ("is_reached", pIsReached), ("world_with", pWorldWith), ("rates_of_state", pRatesOfState), ("_table_in", pTableIn)] : List (Str × Stmt)) ++ ([("_first_crossed", pFirstCrossed), ("_unlike_pairs", pUnlikePairs), ("_reached_currents", pReachedCurrents), ("_most_sent", pMostSent), ("rate_span", pRateSpan), ("_ring_over", pRingOver), ("told_pairs", pToldPairs), ("tells_rates", pTellsRates), ("_law_draws", sDraws), ("_law_take", sTake), ("_law_empty", sEmpty), ("_law_copy", sCopy), ("_law_rate", sRate), ("_law_ring_grid", sRingGrid), ("_law_hung_grid", sHungGrid), ("_law_moved", sMoved), ("_law_pair", sPair), ("_law_numbers", sNumbers), ("_law_int", sInt), ("_law_ints", sInts)] : List (Str × Stmt)) ++ ([("_law_fraction", sFraction), ("_law_same", sSame), ("_law_low_terms", sLowTerms), ("_law_lot_grid", sLotGrid), ("_law_lot_gcd", sLotGcd), ("_law_lot_lowest", sLotLowest), ("_law_lot_shares", sLotShares), ("_law_lot_square", sLotSquare), ("_law_lot_has", sLotHas), ("_law_lot_spoilt", sLotSpoilt), ("_law_lot_balanced", sLotBalanced), ("_law_wanted", sWanted), ("_law_rates_right", sRatesRight), ("_law_told", sTold), ("_law_refusals", sRefusals), ("_law_reached_right", sReachedRight), ("_law_ring_spans", sRingSpans)] : List (Str × Stmt))
end K
/-! HH: what the head looks at. -/
namespace HS
open PySem.Spec PySem PyProof.Rows L2 K
abbrev R : PySem.W.OpenRow := PySem.W.OpenLaw.row PySem.Challenge.rw_lastingshares_k80_one_state_unseen
/-! ### the part of the heap -/
def valsOf (g : Addr → Option Obj) (a : Addr) : List Addr := match g a with
  | some ⟨_, _, .dict es _, _⟩ => es.toList.flatMap fun e => He.refV e.val
  | _ => []
def itemsOf (g : Addr → Option Obj) (v : Value) : List Addr := match v with
  | .ref t => t :: (match g t with
    | some ⟨_, _, .seq its _, _⟩ => its.toList.flatMap He.refV
    | _ => [])
  | _ => []
def oneF (g : Addr → Option Obj) (a : Addr) : List Addr := match g a with
  | some ⟨_, _, .func fd, _⟩ => a :: (He.refV fd.code ++ (fd.closure.map (·.2) ++ itemsOf g fd.defaults))
  | _ => []
def oneM (g : Addr → Option Obj) (a : Addr) : List Addr := match g a with
  | some ⟨_, _, .fields vs, _⟩ => a :: (vs.toList.flatMap He.refV).flatMap (oneF g)
  | _ => oneF g a
def oneC (g : Addr → Option Obj) (a : Addr) : List Addr := match g a with
  | some ⟨_, _, .cls cd, _⟩ => a :: cd.ns :: (valsOf g cd.ns).flatMap (oneM g)
  | _ => oneF g a
def asH (g : Addr → Option Obj) : List Addr := mainGlobals :: cStatics :: (valsOf g mainGlobals).flatMap (oneC g)
abbrev KH (g : Addr → Option Obj) : PySem.W.Frag := He.frG g (asH g)
/-! ### defs -/
def dd (p : Str × Stmt) : He.DefD := ⟨(p.1, none), p.1, p.1, defArgs p.2, defBody p.2, defScope p.2, [], []⟩
def dWays : He.DefD := ⟨("way_by_steps", none), "way_by_steps", "way_by_steps", defArgs pWayBySteps, defBody pWayBySteps, defScope pWayBySteps, [.non], []⟩
abbrev nilA : PySem.W.Frag → Addr := He.dflAt ("check_states", none) 0
def dChk : He.DefD := ⟨("check_states", none), "check_states", "check_states", defArgs pCheckStates, defBody pCheckStates, defScope pCheckStates, [.adr nilA], []⟩
def dTab : He.DefD := ⟨("Table", some "__init__"), "__init__", "Table.__init__", defArgs mTableInit, defBody mTableInit, defScope mTableInit, [], []⟩
def dNot : He.DefD := ⟨("Notes", some "__init__"), "__init__", "Notes.__init__", defArgs mNotesInit, defBody mNotesInit, defScope mNotesInit, [], []⟩
def dUns : He.DefD := ⟨("Notes", some "unseen"), "unseen", "Notes.unseen", defArgs mNotesUnseen, defBody mNotesUnseen, defScope mNotesUnseen, [], []⟩
def dLaw : He.DefD := ⟨("law", none), "law", "law", defArgs sLaw, defBody sLaw, defScope sLaw, [], []⟩
def fn : List He.DefD := [dWays, dChk, dTab, dNot, dUns, dLaw] ++ defsL.map dd
def frees : List Str := ["len", "isinstance", "int", "bool", "list", "tuple", "range", "enumerate", "zip", "sum", "min", "max", "abs", "all", "sorted", "repr", "super"]
def fa0 : List He.Fa := [.glo "way_by_steps", .glo "check_states", .glo "Table", .glo "Chain", .glo "Notes", .glo "BadState", .glo "BadRow", .glo "law", .int "LEAST_SIZE" 2, .int "MOST_SIZE" 8, .cls "Table", .cls "Chain", .cls "Notes",
  .mkr "Table", .mkr "Chain", .mkr "Notes", .meth "Notes" "unseen", .exm "BadState" "BadState" true, .exm "BadRow" "BadState" false, .exm "BadRow" "BadRow" true]
def fa1 : List He.Fa := tabF.map (He.Fa.noat "Table") ++ (tabF.map (He.Fa.noat "Chain") ++ ntF.map (He.Fa.noat "Notes"))
def fa : List He.Fa := fa0 ++ (fa1 ++ (frees.map He.Fa.free ++ defsL.map fun p => He.Fa.glo p.1))
/-! ### functions with a closure -/
abbrev FnC : Type := Option (Str × Str × Arguments × FuncBody × Scope × Addr × List Str × Value × Addr)
def fnC (K : PySem.W.Frag) (f : Addr) : FnC := match K.lookup f with
  | some ⟨_, _, .func fd, _⟩ => some (fd.name, fd.qualname, fd.params, fd.body, fd.scope, fd.globals, fd.closure.map (·.1), fd.defaults, fd.builtins)
  | _ => none
def valC (nm qual : Str) (cl : List Str) (st : Stmt) : FnC := some (nm, qual, defArgs st, .stmts (defBody st), defScope st, mainGlobals, cl, .none, builtinsNs)
def cdA (K : PySem.W.Frag) (f : Addr) : Addr := match K.lookup f with
  | some ⟨_, _, .func gd, _⟩ => (match gd.code with
    | .ref c => c
    | _ => 0)
  | _ => 0
def ccA (K : PySem.W.Frag) (f : Addr) : Addr := match K.lookup f with
  | some ⟨_, _, .func fd, _⟩ => (match fd.closure with
    | (_, c) :: _ => c
    | _ => 0)
  | _ => 0
def codeB (K : PySem.W.Frag) (f : Addr) (q : Str) : Bool := match K.lookup f with
  | some ⟨_, _, .func gd, _⟩ => PySem.W.codeIn K gd.code q
  | _ => false
def fileB (K : PySem.W.Frag) (c : Addr) : Bool := match K.lookup c with
  | some ⟨_, _, .fields vs, _⟩ => (match (vs[2]? : Option Value) with
    | some (.str file _) => (R.prog.main.file : Str) == file
    | _ => false)
  | _ => false
def cellB (K : PySem.W.Frag) (c D : Addr) : Bool := match K.lookup c with
  | some ⟨_, _, .cell (some (.ref d)), _⟩ => decide (d = D)
  | _ => false
def closB (K : PySem.W.Frag) (f D : Addr) (q : Str) : Bool := codeB K f q && (fileB K (cdA K f) && cellB K (ccA K f) D)
abbrev eqO := He.eqO
abbrev eqB (a b : Option Bool) : Bool := decide (a = b)
def nilB (K : PySem.W.Frag) (e : Addr) : Bool := match K.lookup e with
  | some ⟨.type c, _, .seq its _, _⟩ => decide (c = "tuple") && its.isEmpty
  | _ => false
def isCB (K : PySem.W.Frag) (C : Addr) : Bool := eqO (PySem.W.findIn K (.ref C) "__class__") (some (some (.builtin "object.__class__"))) && (eqO (PySem.W.specialIn K (.builtin "object.__class__") "__get__") (some (some (.builtin "getset_descriptor.__get__"))) &&
  (eqB (PySem.W.takesIn K (.builtin "object.__class__")) (some true) && eqB (PySem.W.mroIn K C (.type "object")) (some true)))
/-- the getter of a property -/
def getA (K : PySem.W.Frag) (p : Addr) : Addr := match PySem.W.recIn K p "property" with
  | some (.ref g :: _) => g
  | _ => 0
def recB (K : PySem.W.Frag) (p : Addr) : Bool := match PySem.W.recIn K p "property" with
  | some (.ref g :: _) => true
  | _ => false
def propB (K : PySem.W.Frag) (C : Addr) (f : Str) : Bool := eqO (PySem.W.findIn K (.ref C) f) (some (some (.ref (He.ma K C f)))) && (eqO (PySem.W.specialIn K (.ref (He.ma K C f)) "__get__") (some (some (.builtin "property.__get__"))) && (eqB (PySem.W.takesIn K (.ref (He.ma K C f))) (some true) && recB K (He.ma K C f)))
def supB (K : PySem.W.Frag) (C : Addr) (f2 : Addr) : Bool := (PySem.W.clsIn K C).isSome && (eqB (PySem.W.mroIn K C (.ref C)) (some true) && (eqO (PySem.W.nsIn K cStatics "thirdparty.any") (some none) && (eqO (PySem.W.ks_superIn K C C "__init__") (some (some (.ref f2))) && (decide (PySem.W.typeIn K (.ref f2) = some (.type "function")) && PySem.W.fnIn K f2))))
def oexB (K : PySem.W.Frag) (C B : Addr) : Bool := match K.lookup C with
  | some ⟨.type t, _, .cls cd, sl⟩ => decide (t = "type") && (decide (cd.mro = .ref C :: .ref B :: ESX.exTail) && (cd.hasDict && (!cd.hasDel && (match sl.toList with
    | [_, _, _, _, some (.builtin n), _] => decide (n = "Exception.__new__")
    | _ => false))))
  | _ => false
def oexB2 (K : PySem.W.Frag) (C : Addr) : Bool := eqO (PySem.W.findIn K (.ref C) "__setattr__") (some (some (.builtin "object.__setattr__"))) && (eqB (PySem.W.subIn K (.ref C) (.type "BaseException")) (some true) && (decide (PySem.W.typeIn K (.ref C) = some (.type "type")) && PySem.W.keepIn K (.ref C)))
def exdB (K : PySem.W.Frag) (C B : Addr) : Bool := eqB (PySem.W.mroIn K C (.ref C)) (some true) && (eqB (PySem.W.mroIn K C (.type "Exception")) (some true) && (eqO (PySem.W.nsIn K cStatics "thirdparty.any") (some none) && (eqO (PySem.W.alongIn K "__init__" (.ref B :: ESX.exTail)) (some (some (.builtin "Exception.__init__"))) &&
  (eqO (PySem.W.findIn K (.ref C) "place") (some none) && (eqO (PySem.W.findIn K (.ref C) "__init__") (some (some (.ref (He.ma K C "__init__")))) && decide (PySem.W.typeIn K (.ref (He.ma K C "__init__")) = some (.type "function")))))))
def excB (K : PySem.W.Frag) (x q : Str) : List Bool := [closB K (He.ma K (He.ga K x) "__init__") (He.ga K x) q, oexB K (He.ga K x) (He.ga K "ChainError"), oexB2 K (He.ga K x), exdB K (He.ga K x) (He.ga K "ChainError"), L2.xfB K (He.ga K x)]
def okG (K : PySem.W.Frag) (f : Addr) (q : Str) : Bool := PySem.W.keepIn K (.ref f) && codeB K f q
def exs (K : PySem.W.Frag) : List Bool := [eqO (PySem.W.nsIn K mainGlobals "gcd") (some (some (.builtin "math.gcd"))), eqO (PySem.W.nsIn K mainGlobals "lcm") (some (some (.builtin "math.lcm"))), nilB K (nilA K), isCB K (He.ga K "Chain"), propB K (He.ga K "Notes") "unseen_many",
  okG K (getA K (He.ma K (He.ga K "Notes") "unseen_many")) "Notes.unseen_many", closB K (He.ma K (He.ga K "Chain") "__init__") (He.ga K "Chain") "Chain.__init__", supB K (He.ga K "Chain") (He.ma K (He.ga K "Table") "__init__")] ++ (excB K "BadState" "BadState.__init__" ++ excB K "BadRow" "BadRow.__init__")
def cls4 (K : PySem.W.Frag) : List FnC := [fnC K (He.ma K (He.ga K "Chain") "__init__"), fnC K (He.ma K (He.ga K "BadState") "__init__"), fnC K (He.ma K (He.ga K "BadRow") "__init__"), fnC K (getA K (He.ma K (He.ga K "Notes") "unseen_many"))]
def val4 : List FnC := [valC "__init__" "Chain.__init__" ["__class__"] mChainInit, valC "__init__" "BadState.__init__" ["__class__"] mBadStateInit, valC "__init__" "BadRow.__init__" ["__class__"] mBadRowInit, valC "unseen_many" "Notes.unseen_many" [] mNotesUnseenMany]
/-! ### the Hook -/
abbrev AlH : Type := He.AlD × List FnC × Bool
def obsK (K : PySem.W.Frag) : AlH := (He.obsD fa fn K, cls4 K, (exs K).all id)
def obsH (g : Addr → Option Obj) : AlH := obsK (KH g)
def valH : AlH := (He.valD fn, val4, true)
def hookH : PySem.W.Hook where
  α := AlH
  obs := fun s₀ => obsH s₀.heap.get?
  val := fun _ => valH
  says := fun _ h₀ => ∃ K : PySem.W.Frag, K.In h₀ ∧ obsK K = valH
  of := fun _ _ e₀ => ⟨_, He.frG_in, e₀⟩
  keeps := fun _ _ _ ⟨K, hK₀, c₀⟩ k₀ => ⟨K, PySem.W.Frag.In.keeps hK₀ k₀, c₀⟩
def ob (s : PySem.W.SharedT) : AlH := obsH (HandSHeadRun.getT s)
theorem ob_eq (s : PySem.W.SharedT) : ob s = hookH.obs s.abs := by
  have e : HandSHeadRun.getT s = s.abs.heap.get? := funext fun a => HandSHeadRun.getT_eq s a
  show obsH (HandSHeadRun.getT s) = obsH s.abs.heap.get?
  rw [e]
def names : List Str := (["gcd", "lcm", "_wall", "ChainError", "BadNumber", "BadState", "SameState", "BadTable", "NotJoined", "OtherSize", "BadPair", "BadRow", "BadNotes", "NotReached", "is_int", "fraction", "is_state", "is_pair", "check_states", "LEAST_SIZE", "MOST_SIZE", "table_rows", "arrows_of", "added_rows", "scaled_rows", "turned_rows", "Table", "walked_to", "closed_lot", "pair_list"] : List Str) ++
  (["Chain", "share_row", "bounds_of", "steps_at", "_traced", "way_by_steps", "send_along", "_excess", "settled", "scaled_of", "short_lot", "is_reached", "world_with", "rates_of_state", "_table_in", "_first_crossed", "_unlike_pairs", "_greater_rows", "_lesser_rows", "Notes", "_reached_currents", "_most_sent", "rate_span", "_ring_over", "told_pairs", "tells_rates"] : List Str) ++
  (["_law_draws", "_law_take", "_law_empty", "_law_copy", "_law_rate", "_law_ring_grid", "_law_hung_grid", "_law_moved", "_law_pair", "_law_numbers", "_law_int", "_law_ints", "_law_fraction", "_law_same", "_law_low_terms", "_law_lot_grid", "_law_lot_gcd", "_law_lot_lowest", "_law_lot_shares", "_law_lot_square", "_law_lot_has", "_law_lot_spoilt", "_law_lot_balanced", "_law_wanted", "_law_rates_right", "_law_told", "_law_refusals", "_law_reached_right", "_law_ring_spans"] : List Str)
end HS
namespace HS
open PySem.Spec PySem PyProof.Rows L2 K
theorem run (w : World) : HandSHeadRun.RunEqI R (PySem.W.view R.prog [0, 94]) hookH ob 20000 names w := by
  unfold HandSHeadRun.RunEqI
  kernel_rfl
end HS
/-! Z0: readings of families of contexts; values that are told by data; a base heap beside the heap. -/
namespace Z
open PySem.Spec PySem PyProof.Rows L2

/-! ### heaps -/
def Ex (H H' : Hp) : Prop := ∀ b u, H b = some u → H' b = some u
theorem Ex.refl (H : Hp) : Ex H H := fun _ _ h₀ => h₀
theorem Ex.trans {H H1 H2 : Hp} (a : Ex H H1) (b : Ex H1 H2) : Ex H H2 := fun x₀ o₀ h₀ => b x₀ o₀ (a x₀ o₀ h₀)
theorem Ex.none {H H' : Hp} {p : Addr} (e : Ex H H') (h : H' p = Option.none) : H p = Option.none := by
  cases q : H p with
  | none => rfl
  | some o => rw [e p o q] at h; cases h
theorem Ex.new {H : Hp} {p : Addr} {o : HO} (h : H p = Option.none) : Ex H (upd H p o) := fun a u e => by
  rw [upd_ne (ne_of_none e h)]; exact e
theorem Ex.mut {H H' : Hp} {p : Addr} {o : HO} (e : Ex H H') (h : H p = Option.none) : Ex H (upd H' p o) := fun a u ha => by
  rw [upd_ne (ne_of_none ha h)]; exact e a u ha
theorem Ex.both {H H' : Hp} {p : Addr} {o : HO} (e : Ex H H') : Ex (upd H p o) (upd H' p o) := fun a u ha => by
  by_cases h : a = p
  · subst h; rw [upd_same] at ha ⊢; exact ha
  · rw [upd_ne h] at ha ⊢; exact e a u ha
theorem some_ne {H : Hp} {p : Addr} {o : HO} (h : H p = some o) : H p ≠ Option.none := by rw [h]; exact fun z => nomatch z

/-- from the base Hb under the heap H1 to the base Hk under H2: what stood stands (but at S); the new base leans on the old one and on new objects alone -/
structure Go (S : Addr → Prop) (Hb H1 Hk H2 : Hp) : Prop where
  real : ∀ b o, ¬ S b → H1 b = some o → H2 b = some o
  live : ∀ b, H1 b ≠ none → H2 b ≠ none
  base : Ex Hb Hk
  on : Ex Hk H2
  fr : ∀ b, H1 b ≠ none → Hb b = none → Hk b = none
abbrev no : Addr → Prop := fun _ => False
section
variable {S S' : Addr → Prop} {Hb H1 Hk H2 Hl H3 : Hp} {p : Addr} {o o' : HO}
theorem Go.refl (e : Ex Hb H1) : Go S Hb H1 Hb H1 := ⟨fun _ _ _ h => h, fun _ h => h, Ex.refl _, e, fun _ _ h => h⟩
theorem Go.trans (a : Go S Hb H1 Hk H2) (b : Go S Hk H2 Hl H3) : Go S Hb H1 Hl H3 :=
  ⟨fun c o s h => b.real c o s (a.real c o s h), fun c h => b.live c (a.live c h), a.base.trans b.base, b.on, fun c h z => b.fr c (a.live c h) (a.fr c h z)⟩
theorem Go.mono (a : Go S Hb H1 Hk H2) (h : ∀ b, S b → S' b) : Go S' Hb H1 Hk H2 := ⟨fun c o s e => a.real c o (fun z => s (h c z)) e, a.live, a.base, a.on, a.fr⟩
theorem Go.more (a : Go no Hb H1 Hk H2) : Go S Hb H1 Hk H2 := a.mono fun _ z => z.elim
theorem Go.ex (a : Go no Hb H1 Hk H2) : Ex H1 H2 := fun b o h => a.real b o (fun z => z) h
/-- a new object, in the base -/
theorem Go.new (e : Ex Hb H1) (h : H1 p = none) : Go S Hb H1 (upd Hb p o) (upd H1 p o) :=
  ⟨fun b o _ q => Ex.new h b o q, fun b q => by
    by_cases z : b = p
    · subst z; exact absurd h q
    · rw [upd_ne z]; exact q, Ex.new (e.none h), e.both, fun b q z => by
    rw [upd_ne (fun w => q (by rw [w]; exact h))]; exact z⟩
/-- a new object that will change -/
theorem Go.newM (e : Ex Hb H1) (h : H1 p = none) : Go S Hb H1 Hb (upd H1 p o) :=
  ⟨fun b o _ q => Ex.new h b o q, fun b q => by
    by_cases z : b = p
    · subst z; exact absurd h q
    · rw [upd_ne z]; exact q, Ex.refl _, Ex.mut e (e.none h), fun b q z => z⟩
/-- an object outside the base changes -/
theorem Go.wr (g : Go S Hb H1 Hk H2) (h : S p ∨ H1 p = none) (hk : Hk p = none) : Go S Hb H1 Hk (upd H2 p o) :=
  ⟨fun b o s q => by
    have : b ≠ p := fun z => by
      subst z
      rcases h with h | h
      · exact s h
      · rw [h] at q; cases q
    rw [upd_ne this]; exact g.real b o s q, fun b q => by
    by_cases z : b = p
    · subst z; rw [upd_same]; exact fun w => nomatch w
    · rw [upd_ne z]; exact g.live b q, g.base, Ex.mut g.on hk, g.fr⟩
/-- an object of one's own goes into the base -/
theorem Go.fix (g : Go S Hb H1 Hk H2) (h : H1 p = none) (hp : H2 p = some o) (hk : Hk p = none) : Go S Hb H1 (upd Hk p o) H2 :=
  ⟨g.real, g.live, g.base.trans (Ex.new hk), fun b u q => by
    by_cases z : b = p
    · subst z; rw [upd_same] at q; rw [← q]; exact hp
    · rw [upd_ne z] at q; exact g.on b u q, fun b q z => by
    rw [upd_ne (fun w => q (by rw [w]; exact h))]; exact g.fr b q z⟩
/-- a smaller base -/
theorem Go.less (g : Go S Hb H1 Hk H2) (e : Ex Hl Hk) (b : Ex Hb Hl) : Go S Hb H1 Hl H2 := ⟨g.real, g.live, b, e.trans g.on, fun c q z => e.none (g.fr c q z)⟩
end

def ovr (H H' : Hp) : Hp := fun b => (H b).or (H' b)
theorem ovr_some {H H' : Hp} {b : Addr} {o : HO} (h : H b = some o) : ovr H H' b = some o := by unfold ovr; rw [h]; rfl
theorem ovr_none {H H' : Hp} {b : Addr} (h : H b = none) : ovr H H' b = H' b := by unfold ovr; rw [h]; rfl
theorem ovr_l {H H' : Hp} : Ex H (ovr H H') := fun _ _ h => ovr_some h

theorem Go.join_r {Hb H1 Hl H Hm H' : Hp} (a : Go no Hb H1 Hl H) (b : Go no Hb H Hm H') : Ex Hm (ovr Hl Hm) := fun c o h => by
  cases z : Hl c with
  | some u => rw [ovr_some z]; have := b.real c u (fun z => z) (a.on c u z); rw [b.on c o h] at this; exact this.symm
  | none => rw [ovr_none z]; exact h
/-- two things that were made over the same base -/
theorem Go.join {Hb H1 Hl H Hm H' : Hp} (a : Go no Hb H1 Hl H) (b : Go no Hb H Hm H') (e : Ex Hb H) : Go no Hb H1 (ovr Hl Hm) H' :=
  ⟨fun c o s h => b.real c o s (a.real c o s h), fun c h => b.live c (a.live c h), a.base.trans ovr_l, fun c o h => by
    cases z : Hl c with
    | some u => rw [ovr_some z] at h; cases h; exact b.real c _ (fun z => z) (a.on c _ z)
    | none => rw [ovr_none z] at h; exact b.on c o h, fun c h z => by
    rw [ovr_none (a.fr c h z)]; exact b.fr c (a.live c h) z⟩

/-! ### values by data -/
structure Rep (α : Type) where
  r : Hp → V → α → Prop
  up : ∀ {H H' v a}, Ex H H' → r H v a → r H' v a
inductive P2 {α : Type} (R : V → α → Prop) : List V → List α → Prop
  | nil : P2 R [] []
  | cons {x a xs l} : R x a → P2 R xs l → P2 R (x :: xs) (a :: l)
section
variable {α β : Type} {R R' : V → α → Prop} {xs ys : List V} {l m : List α}
theorem P2.len (h : P2 R xs l) : xs.length = l.length := by
  induction h with
  | nil => rfl
  | cons _ _ ih => simp [ih]
theorem P2.imp (h : P2 R xs l) (f : ∀ x a, R x a → R' x a) : P2 R' xs l := by
  induction h with
  | nil => exact .nil
  | cons r _ ih => exact .cons (f _ _ r) ih
theorem P2.get (h : P2 R xs l) : ∀ {i : Nat} {a : α}, l[i]? = some a → ∃ x, xs[i]? = some x ∧ R x a := by
  induction h with
  | nil => intro i a e₀; simp at e₀
  | cons r _ ih =>
    intro i a e₀
    cases i with
    | zero => simp at e₀; subst e₀; exact ⟨_, rfl, r⟩
    | succ i => simpa using ih (by simpa using e₀)
theorem P2.get' (h : P2 R xs l) : ∀ {i : Nat} {x : V}, xs[i]? = some x → ∃ a, l[i]? = some a ∧ R x a := by
  induction h with
  | nil => intro i a e₀; simp at e₀
  | cons r _ ih =>
    intro i a e₀
    cases i with
    | zero => simp at e₀; subst e₀; exact ⟨_, rfl, r⟩
    | succ i => simpa using ih (by simpa using e₀)
theorem P2.append (h : P2 R xs l) (k : P2 R ys m) : P2 R (xs ++ ys) (l ++ m) := by
  induction h with
  | nil => exact k
  | cons r _ ih => exact .cons r ih
theorem P2.snoc {x : V} {a : α} (h : P2 R xs l) (r : R x a) : P2 R (xs ++ [x]) (l ++ [a]) := h.append (.cons r .nil)
theorem P2.take (n : Nat) (h : P2 R xs l) : P2 R (xs.take n) (l.take n) := by
  induction h generalizing n with
  | nil => simp; exact .nil
  | cons r _ ih =>
    cases n with
    | zero => exact .nil
    | succ n => exact .cons r (ih n)
theorem P2.drop (n : Nat) (h : P2 R xs l) : P2 R (xs.drop n) (l.drop n) := by
  induction h generalizing n with
  | nil => simp; exact .nil
  | cons r t ih =>
    cases n with
    | zero => exact .cons r t
    | succ n => exact ih n
theorem P2.set {x : V} {a : α} (k : P2 R xs l) (r : R x a) (i : Nat) : P2 R (xs.set i x) (l.set i a) := by
  induction k generalizing i with
  | nil => exact .nil
  | cons q t ih =>
    cases i with
    | zero => exact .cons r t
    | succ i => exact .cons q (ih i)
theorem P2.ints : ∀ {xs : List V} {l : List Int}, P2 (fun v a => v = V.int a) xs l → xs = l.map V.int
  | _, _, .nil => rfl
  | _, _, .cons r t => by subst r; rw [P2.ints t]; rfl
theorem P2.ofInts : ∀ (l : List Int), P2 (fun v a => v = V.int a) (l.map V.int) l
  | [] => .nil
  | _ :: l => .cons rfl (P2.ofInts l)
theorem P2.bls : ∀ {xs : List V} {l : List Bool}, P2 (fun v a => v = V.bl a) xs l → xs = l.map V.bl
  | _, _, .nil => rfl
  | _, _, .cons r t => by subst r; rw [P2.bls t]; rfl
end
def rInt : Rep Int := ⟨fun _ v a => v = .int a, fun _ h => h⟩
def rBl : Rep Bool := ⟨fun _ v a => v = .bl a, fun _ h => h⟩
def rStr : Rep Str := ⟨fun _ v a => v = .str a, fun _ h => h⟩
def rV : Rep V := ⟨fun _ v a => v = a, fun _ h => h⟩
def rL {α : Type} (R : Rep α) : Rep (List α) := ⟨fun H v l => ∃ p xs, v = .ref p ∧ H p = some (.lst xs) ∧ P2 (R.r H) xs l,
  fun e ⟨p, xs, a, b, c⟩ => ⟨p, xs, a, e _ _ b, c.imp fun _ _ => R.up e⟩⟩
def rT {α : Type} (R : Rep α) : Rep (List α) := ⟨fun H v l => ∃ p xs, v = .ref p ∧ H p = some (.tup xs) ∧ P2 (R.r H) xs l,
  fun e ⟨p, xs, a, b, c⟩ => ⟨p, xs, a, e _ _ b, c.imp fun _ _ => R.up e⟩⟩
/-- a list or a tuple -/
def rS {α : Type} (R : Rep α) : Rep (List α) := ⟨fun H v l => ∃ p xs, v = .ref p ∧ (H p = some (.lst xs) ∨ H p = some (.tup xs)) ∧ P2 (R.r H) xs l,
  fun e ⟨p, xs, a, b, c⟩ => ⟨p, xs, a, b.elim (fun b => .inl (e _ _ b)) (fun b => .inr (e _ _ b)), c.imp fun _ _ => R.up e⟩⟩
def rP {α β : Type} (R : Rep α) (T : Rep β) : Rep (α × β) := ⟨fun H v l => ∃ p x y, v = .ref p ∧ H p = some (.tup [x, y]) ∧ R.r H x l.1 ∧ T.r H y l.2,
  fun e ⟨p, x, y, a, b, c, d⟩ => ⟨p, x, y, a, e _ _ b, R.up e c, T.up e d⟩⟩
def rP3 {α β γ : Type} (R : Rep α) (T : Rep β) (U : Rep γ) : Rep (α × β × γ) := ⟨fun H v l => ∃ p x y z, v = .ref p ∧ H p = some (.tup [x, y, z]) ∧ R.r H x l.1 ∧ T.r H y l.2.1 ∧ U.r H z l.2.2,
  fun e ⟨p, x, y, z, a, b, c, d, f⟩ => ⟨p, x, y, z, a, e _ _ b, R.up e c, T.up e d, U.up e f⟩⟩
/-- None or such a value -/
def rO {α : Type} (R : Rep α) : Rep (Option α) := ⟨fun H v l => match l with | none => v = .non | some a => R.r H v a ∧ v ≠ .non, fun {H H' v l} e h => by
  cases l with
  | none => exact h
  | some a => exact ⟨R.up e h.1, h.2⟩⟩
section
variable {α : Type} {R : Rep α} {H : Hp} {v : V} {l : List α}
theorem rL.s (h : (rL R).r H v l) : (rS R).r H v l := let ⟨p, xs, a, b, c⟩ := h; ⟨p, xs, a, .inl b, c⟩
theorem rT.s (h : (rT R).r H v l) : (rS R).r H v l := let ⟨p, xs, a, b, c⟩ := h; ⟨p, xs, a, .inr b, c⟩
theorem rInt.list {H : Hp} {v : V} {l : List Int} (h : (rL rInt).r H v l) : ∃ p, v = .ref p ∧ H p = some (.lst (l.map V.int)) := by
  obtain ⟨p, xs, a, b, c⟩ := h; rw [P2.ints c] at b; exact ⟨p, a, b⟩
theorem rInt.tup {H : Hp} {v : V} {l : List Int} (h : (rT rInt).r H v l) : ∃ p, v = .ref p ∧ H p = some (.tup (l.map V.int)) := by
  obtain ⟨p, xs, a, b, c⟩ := h; rw [P2.ints c] at b; exact ⟨p, a, b⟩
theorem rInt.mkL {H : Hp} {p : Addr} {l : List Int} (h : H p = some (.lst (l.map V.int))) : (rL rInt).r H (.ref p) l := ⟨p, _, rfl, h, P2.ofInts l⟩
theorem rInt.mkT {H : Hp} {p : Addr} {l : List Int} (h : H p = some (.tup (l.map V.int))) : (rT rInt).r H (.ref p) l := ⟨p, _, rfl, h, P2.ofInts l⟩
end
/-- f 0, .., f (n - 1) -/
def tab {α : Type} (n : Nat) (f : Nat → α) : List α := (List.range n).map f
section
variable {α β : Type} {n i : Nat} {f g : Nat → α}
@[simp] theorem tab_len : (tab n f).length = n := by simp [tab]
theorem tab_get (h : i < n) : (tab n f)[i]? = some (f i) := by simp [tab, h]
theorem tab_succ : tab (n + 1) f = tab n f ++ [f n] := by simp [tab, List.range_succ]
@[simp] theorem tab_zero : tab 0 f = [] := rfl
theorem tab_map (k : α → β) : (tab n f).map k = tab n fun i => k (f i) := by simp [tab, Function.comp_def]
theorem tab_congr (h : ∀ i, i < n → f i = g i) : tab n f = tab n g := by
  unfold tab; exact List.map_congr_left fun i hi => h i (List.mem_range.mp hi)
theorem tab_of {l : List α} (hl : l.length = n) (h : ∀ i, i < n → l[i]? = some (f i)) : l = tab n f := by
  apply List.ext_getElem?
  intro i
  by_cases hi : i < n
  · rw [h i hi, tab_get hi]
  · rw [List.getElem?_eq_none (by omega), List.getElem?_eq_none (by simp; omega)]
theorem tab_mem {x : α} : x ∈ tab n f ↔ ∃ i, i < n ∧ f i = x := by simp [tab]
theorem tab_get_inv {x : α} (h : (tab n f)[i]? = some x) : i < n ∧ x = f i := by
  by_cases hi : i < n
  · rw [tab_get hi] at h; exact ⟨hi, (Option.some.inj h).symm⟩
  · rw [List.getElem?_eq_none (by simp; omega)] at h; cases h
theorem tab_set (h : i < n) (x : α) : (tab n f).set i x = tab n fun j => if j = i then x else f j := by
  apply tab_of (by simp)
  intro j hj
  by_cases e : j = i
  · subst e; simp [hj]
  · rw [List.getElem?_set_ne (by omega), tab_get hj]; simp [e]
end

/-! ### the world of a def -/
structure W5 where
  P : Program
  w : World
  K : PySem.W.Frag
  mg : Str → Option Value
  base : Heap
/-- a family of contexts with the same names, globals, room -/
class CtxZ {ι : Type} (X : ι → Cx) (g : outParam W5) (N : outParam (List Str)) (k : outParam Nat) : Prop where
  P : ∀ i, (X i).prog = g.P
  w : ∀ i, (X i).w = g.w
  K : ∀ i, (X i).K = g.K
  mg : ∀ i, (X i).mg = g.mg
  base : ∀ i, (X i).base = g.base
  nm : ∀ i, (X i).N = N
  nd : N.Nodup
  calm : ∀ i, (X i).calm = true
  room : ∀ i, Room k (X i).A
  dbg : ∀ x ∈ N, (x == ("__debug__" : Str)) = false ∧ (x == ("__classdict__" : Str)) = false
abbrev BI (ι : Type) := ι × Shared × Hp × Addr × List (Str × Addr) × List Addr
def bX {ι : Type} (X : ι → Cx) (scope : Scope) : BI ι → Cx := fun q => (X q.1).blk q.2.1 q.2.2.1 scope (compEnvC scope q.2.2.2.2.1 q.2.2.2.1 (X q.1).env) q.2.2.2.2.2
instance {ι : Type} {X : ι → Cx} {g : W5} {N : List Str} {k : Nat} {scope : Scope} [c : CtxZ X g N k] : CtxZ (bX X scope) g N k where
  P := fun i => c.P i.1
  w := fun i => c.w i.1
  K := fun i => c.K i.1
  mg := fun i => c.mg i.1
  base := fun i => c.base i.1
  nm := fun i => c.nm i.1
  nd := c.nd
  calm := fun i => c.calm i.1
  room := fun i => c.room i.1
  dbg := c.dbg

section
variable {ι : Type} (X : ι → Cx)
def wE (e : Expr) : TE := fun σ H Q => ∃ t : TE, (∀ i, PE (X i) e t) ∧ t σ H Q
def wT (e : Expr) : TT := fun σ H Q => ∃ t : TT, (∀ i, PT (X i) e t) ∧ t σ H Q
def wW (e : Expr) : TT := fun σ H Q => ∃ t : TT, (∀ i, PW (X i) e t) ∧ t σ H Q
def wTs (es : List Expr) : TT := fun σ H Q => ∃ t : TT, (∀ i, PTs (X i) es t) ∧ t σ H Q
def wA (es : List Expr) : TA := fun σ H Q => ∃ t : TA, (∀ i, PA (X i) es t) ∧ t σ H Q
def wG (e : Expr) : TG := fun v σ H Q => ∃ (t : TG) (Q0 : L2.St → Hp → Prop), (∀ i, PG (X i) e t) ∧ t v σ H Q0 ∧ ∀ σ' H', Q0 σ' H' → Q σ' H'
def wGs (es : List Expr) : TGs := fun vs σ H Q => ∃ t : TGs, (∀ i, PGs (X i) es t) ∧ t vs σ H Q
def wI (tg e : Expr) : TI := fun σ H R => ∃ t : TI, (∀ i, PI (X i) tg e t) ∧ t σ H R
variable {X}
theorem wE_ok {e : Expr} (i : ι) : PE (X i) e (wE X e) := ⟨fun pins s σ H Q I ⟨t, ht, h⟩ => (ht i).run pins s σ H Q I h⟩
theorem wT_ok {e : Expr} (i : ι) : PT (X i) e (wT X e) := ⟨fun pins s σ H Q I ⟨t, ht, h⟩ => (ht i).run pins s σ H Q I h⟩
theorem wW_ok {e : Expr} (i : ι) : PW (X i) e (wW X e) := ⟨fun wh pins s σ H Q I ⟨t, ht, h⟩ => (ht i).run wh pins s σ H Q I h⟩
theorem wTs_ok {e : List Expr} (i : ι) : PTs (X i) e (wTs X e) := ⟨fun pins s σ H Q I ⟨t, ht, h⟩ => (ht i).run pins s σ H Q I h⟩
theorem wA_ok {e : List Expr} (i : ι) : PA (X i) e (wA X e) := ⟨fun pos pins s σ H Q I ⟨t, ht, h⟩ => (ht i).run pos pins s σ H Q I h⟩
theorem wG_ok {e : Expr} (i : ι) : PG (X i) e (wG X e) := ⟨fun pins s σ H v u Q I r ⟨t, Q0, ht, h, hq⟩ => thn ((ht i).run pins s σ H v u Q0 I r h) fun _ _ ⟨σ', H', I', q⟩ => ⟨σ', H', I', hq σ' H' q⟩⟩
theorem wG_mono {e : Expr} {v : V} {σ : L2.St} {H : Hp} {Q Q' : L2.St → Hp → Prop} (h : wG X e v σ H Q) (f : ∀ σ' H', Q σ' H' → Q' σ' H') : wG X e v σ H Q' := let ⟨t, Q0, a, b, c⟩ := h; ⟨t, Q0, a, b, fun σ' H' q => f _ _ (c _ _ q)⟩
theorem wGs_ok {e : List Expr} (i : ι) : PGs (X i) e (wGs X e) := ⟨fun pins s σ H v u Q I r ⟨t, ht, h⟩ => (ht i).run pins s σ H v u Q I r h⟩
theorem wI_ok {tg e : Expr} (i : ι) : PI (X i) tg e (wI X tg e) := ⟨fun pins s σ H R I ⟨t, ht, h⟩ => (ht i).run pins s σ H R I h⟩
end
def wS (X : Cx) (st : Stmt) : TS := fun D σ H => ∃ t : TS, PS X st t ∧ t D σ H
def wSs (X : Cx) (sts : List Stmt) : TS := fun D σ H => ∃ t : TS, PSs X sts t ∧ t D σ H
theorem wS_ok {X : Cx} {st : Stmt} : PS X st (wS X st) := ⟨fun pins s σ H D I ⟨t, ht, h⟩ => ht.run pins s σ H D I h⟩
theorem wSs_ok {X : Cx} {st : List Stmt} : PSs X st (wSs X st) := ⟨fun pins s σ H D I ⟨t, ht, h⟩ => ht.run pins s σ H D I h⟩
abbrev u1 (X : Cx) : Unit → Cx := fun _ => X

/-! ### evaluations -/
section
variable {ι : Type} (X : ι → Cx)
/-- from any heap over the base: a value that Φ tells over the new base -/
def EP (e : Expr) (σ : L2.St) (Hb : Hp) (Φ : V → Hp → Prop) : Prop := ∀ H1, Ex Hb H1 → ∀ Q : VK, (∀ v Hk H2, Go no Hb H1 Hk H2 → Φ v Hk → Q v H2) → wE X e σ H1 Q
abbrev EV {α : Type} (e : Expr) (σ : L2.St) (Hb : Hp) (R : Rep α) (a : α) : Prop := EP X e σ Hb fun v H => R.r H v a
def ET (e : Expr) (σ : L2.St) (Hb : Hp) (b : Bool) : Prop := ∀ H1, Ex Hb H1 → ∀ Q : Bool → Hp → Prop, (∀ Hk H2, Go no Hb H1 Hk H2 → Q b H2) → wT X e σ H1 Q
def EW (e : Expr) (σ : L2.St) (Hb : Hp) (b : Bool) : Prop := ∀ H1, Ex Hb H1 → ∀ Q : Bool → Hp → Prop, (∀ Hk H2, Go no Hb H1 Hk H2 → Q b H2) → wW X e σ H1 Q
def EA (es : List Expr) (σ : L2.St) (Hb : Hp) (Ψ : List V → Hp → Prop) : Prop := ∀ H1, Ex Hb H1 → ∀ Q : List V → Hp → Prop, (∀ vs Hk H2, Go no Hb H1 Hk H2 → Ψ vs Hk → Q vs H2) → wA X es σ H1 Q
variable {X}
end
section
variable {ι : Type} {X : ι → Cx} {g : W5} {N : List Str} {k : Nat} {α β : Type} {R : Rep α} {T : Rep β} {σ : L2.St} {Hb Hc : Hp} {a : α} {b : β} {v : V} {e e1 e2 : Expr} {pos : Pos} {x : Str} {Φ Φ' : V → Hp → Prop}
theorem EP.imp (h : EP X e σ Hb Φ) (f : ∀ v H, Φ v H → Φ' v H) : EP X e σ Hb Φ' := fun H1 e1 Q q => h H1 e1 Q fun v Hk H2 g p => q v Hk H2 g (f v Hk p)
theorem EP.mono (h : EP X e σ Hb Φ) (c : Ex Hb Hc) : EP X e σ Hc fun v H => ∃ H0, Ex H0 H ∧ Φ v H0 := fun H1 e1 Q q => h H1 (c.trans e1) Q fun v Hk H2 g p =>
  q v (ovr Hc Hk) H2 ⟨g.real, g.live, ovr_l, fun b o h => by
    cases z : Hc b with
    | some u => rw [ovr_some z] at h; cases h; exact g.real b _ (fun z => z) (e1 b _ z)
    | none => rw [ovr_none z] at h; exact g.on b o h, fun b h1 h2 => by
    rw [ovr_none h2]; exact g.fr b h1 (c.none h2)⟩ ⟨Hk, fun b o h => by
    cases z : Hc b with
    | some u => rw [ovr_some z]; have := g.real b u (fun z => z) (e1 b u z); rw [g.on b o h] at this; exact this.symm
    | none => rw [ovr_none z]; exact h, p⟩
theorem EV.mono (h : EV X e σ Hb R a) (c : Ex Hb Hc) : EV X e σ Hc R a := (EP.mono h c).imp fun v H ⟨H0, e, p⟩ => R.up e p
theorem ET.mono {t : Bool} (h : ET X e σ Hb t) (c : Ex Hb Hc) : ET X e σ Hc t := fun H1 e1 Q q => h H1 (c.trans e1) Q fun Hk H2 g => q Hc H2 ⟨g.real, g.live, Ex.refl _, e1.trans g.ex, fun _ _ z => z⟩
theorem EV.is {a' : α} (h : EV X e σ Hb R a) (e1 : a = a') : EV X e σ Hb R a' := e1 ▸ h
theorem ET.is {t t' : Bool} (h : ET X e σ Hb t) (e1 : t = t') : ET X e σ Hb t' := e1 ▸ h
theorem EV.to {S : Rep β} {b : β} (h : EV X e σ Hb R a) (f : ∀ H v, R.r H v a → S.r H v b) : EV X e σ Hb S b := EP.imp h fun v H p => f H v p
/-- a value that needs no new object: the reading at once -/
theorem ev_at (h : ∀ H1, Ex Hb H1 → ∀ Q : VK, Q v H1 → wE X e σ H1 Q) (r : R.r Hb v a) : EV X e σ Hb R a := fun H1 e1 Q q => h H1 e1 Q (q v Hb H1 (Go.refl e1) r)

/-! names, constants -/
theorem nm [c : CtxZ X g N k] (j : Nat) (hN : N[j]? = some x := by rfl) (hv : ∀ i, Vis (X i).env.scope x := by intro _; first | exact Or.inl rfl | exact Or.inr (Or.inl rfl) | exact Or.inr (Or.inr rfl)) (hσ : σ[j]? = some (some v) := by rfl)
    (h : R.r Hb v a := by assumption) : EV X (.Name x pos) σ Hb R a :=
  ev_at (v := v) (fun H1 _ Q q => ⟨_, fun i => pe_var (by rw [c.nm i]; exact hN) (hv i) (c.dbg x (List.mem_of_getElem? hN)).1 (c.dbg x (List.mem_of_getElem? hN)).2, v, hσ, q⟩) h
theorem cI {n : Int} {j pos} : EV X (.Constant (.int n) j pos) σ Hb rInt n := ev_at (v := .int n) (fun H1 _ Q q => ⟨_, fun i => pe_int, q⟩) rfl
theorem cB {n : Bool} {j pos} : EV X (.Constant (.bool n) j pos) σ Hb rBl n := ev_at (v := .bl n) (fun H1 _ Q q => ⟨_, fun i => pe_bl, q⟩) rfl
theorem cS {n : Str} {j pos} : EV X (.Constant (.str n) j pos) σ Hb rStr n := ev_at (v := .str n) (fun H1 _ Q q => ⟨_, fun i => pe_str, q⟩) rfl
theorem cN {j pos} : EV X (.Constant .none j pos) σ Hb rV .non := ev_at (v := .non) (fun H1 _ Q q => ⟨_, fun i => pe_non, q⟩) rfl
theorem cV [c : CtxZ X g N k] {u : Value} (hm : g.mg x = some u) (r : RelV v u) (h : R.r Hb v a) (hg : ∀ i, Gl (X i) x := by intro _; rfl) (hd : (x == ("__debug__" : Str)) = false := by decide) : EV X (.Name x pos) σ Hb R a :=
  ev_at (v := v) (fun H1 _ Q q => ⟨_, fun i => pe_glob (hg i) ((congrFun (c.mg i) x).trans hm) r hd, q⟩) h

/-! two in a row -/
theorem seq2 {Ψ : V → V → Hp → Prop} {E : VK → V → V → Hp → Prop} (h1 : EV X e1 σ Hb R a) (h2 : EV X e2 σ Hb T b)
    {H1 : Hp} (c : Ex Hb H1) {K : V → V → Hp → Prop} (f : ∀ v u Hk H2, Go no Hb H1 Hk H2 → R.r Hk v a → T.r Hk u b → K v u H2) : wE X e1 σ H1 fun v H2 => wE X e2 σ H2 fun u H3 => K v u H3 :=
  h1 H1 c _ fun v Hk H2 g1 r1 => (h2.mono g1.base) H2 g1.on _ fun u Hl H3 g2 r2 => f v u Hl H3 (g1.trans g2) (R.up g2.base r1) r2
/-- an operator on values that makes no object -/
theorem ev_op {γ : Type} {U : Rep γ} {z : γ} {w : V} {op : Operator} {r : R2} (h1 : EV X e1 σ Hb R a) (h2 : EV X e2 σ Hb T b) (ho : ∀ i, OpR (X i) (binaryOp op) r)
    (hr : ∀ v u Hk H2, Ex Hk H2 → R.r Hk v a → T.r Hk u b → ∀ Q : VK, (∀ w, U.r Hk w z → Q w H2) → r v u H2 Q) : EV X (.BinOp e1 op e2 pos) σ Hb U z := fun H1 c Q q =>
  ⟨_, fun i => pe_op (ho i) (wE_ok i) (wE_ok i), seq2 (Ψ := fun _ _ _ => True) (E := fun _ _ _ _ => True) h1 h2 c fun v u Hk H2 g r1 r2 => hr v u Hk H2 g.on r1 r2 Q fun w hw => q w Hk H2 g hw⟩
theorem ev_cmp {γ : Type} {U : Rep γ} {z : γ} {op : CmpOp} {r : R2} (h1 : EV X e1 σ Hb R a) (h2 : EV X e2 σ Hb T b) (ho : ∀ i, OpR (X i) (compareOp op) r) (hm : behindInMarks op e2 = false)
    (hr : ∀ v u Hk H2, Ex Hk H2 → R.r Hk v a → T.r Hk u b → ∀ Q : VK, (∀ w, U.r Hk w z → Q w H2) → r v u H2 Q) : EV X (.Compare e1 [op] [e2] pos) σ Hb U z := fun H1 c Q q =>
  ⟨_, fun i => pe_cmpR (ho i) (wE_ok i) (wE_ok i) hm, seq2 (Ψ := fun _ _ _ => True) (E := fun _ _ _ _ => True) h1 h2 c fun v u Hk H2 g r1 r2 => hr v u Hk H2 g.on r1 r2 Q fun w hw => q w Hk H2 g hw⟩
theorem et_cmp {z : Bool} {op : CmpOp} {r : R2} (h1 : EV X e1 σ Hb R a) (h2 : EV X e2 σ Hb T b) (ho : ∀ i, OpR (X i) (compareOp op) r) (hm : behindInMarks op e2 = false)
    (hr : ∀ v u Hk H2, Ex Hk H2 → R.r Hk v a → T.r Hk u b → ∀ Q : VK, Q (.bl z) H2 → r v u H2 Q) : ET X (.Compare e1 [op] [e2] pos) σ Hb z := fun H1 c Q q =>
  ⟨_, fun i => pt_cmpR (ho i) (wE_ok i) (wE_ok i) hm, seq2 (Ψ := fun _ _ _ => True) (E := fun _ _ _ _ => True) h1 h2 c fun v u Hk H2 g r1 r2 => hr v u Hk H2 g.on r1 r2 _ ⟨z, rfl, q Hk H2 g⟩⟩
theorem hi {g0 : Int → Int → V} {i j : Int} {Hk H2 : Hp} {v u : V} (r1 : rInt.r Hk v i) (r2 : rInt.r Hk u j) {Q : VK} (q : Q (g0 i j) H2) : rI0 g0 v u H2 Q := ⟨i, j, r1, r2, q⟩
theorem hc {C : Int → Int → Prop} {g0 : Int → Int → V} {i j : Int} {Hk H2 : Hp} {v u : V} (hC : C i j) (r1 : rInt.r Hk v i) (r2 : rInt.r Hk u j) {Q : VK} (q : Q (g0 i j) H2) : rI C g0 v u H2 Q := ⟨i, j, r1, r2, hC, q⟩
section
variable {i j : Int}
theorem add (h1 : EV X e1 σ Hb rInt i) (h2 : EV X e2 σ Hb rInt j) : EV X (.BinOp e1 .Add e2 pos) σ Hb rInt (i + j) := ev_op (w := .non) h1 h2 (fun _ => op_add) fun _ _ _ _ _ r1 r2 Q q => hi r1 r2 (q _ rfl)
theorem sub (h1 : EV X e1 σ Hb rInt i) (h2 : EV X e2 σ Hb rInt j) : EV X (.BinOp e1 .Sub e2 pos) σ Hb rInt (i - j) := ev_op (w := .non) h1 h2 (fun _ => op_sub) fun _ _ _ _ _ r1 r2 Q q => hi r1 r2 (q _ rfl)
theorem mul (h1 : EV X e1 σ Hb rInt i) (h2 : EV X e2 σ Hb rInt j) (h : CMul i j) : EV X (.BinOp e1 .Mult e2 pos) σ Hb rInt (i * j) := ev_op (w := .non) h1 h2 (fun _ => op_mul) fun _ _ _ _ _ r1 r2 Q q => hc h r1 r2 (q _ rfl)
theorem md (h1 : EV X e1 σ Hb rInt i) (h2 : EV X e2 σ Hb rInt j) (h : 0 < j) : EV X (.BinOp e1 .Mod e2 pos) σ Hb rInt (i % j) := ev_op (w := .non) h1 h2 (fun _ => op_mod) fun _ _ _ _ _ r1 r2 Q q => hc (C := fun _ j => 0 < j) h r1 r2 (q _ rfl)
theorem dv (h1 : EV X e1 σ Hb rInt i) (h2 : EV X e2 σ Hb rInt j) (h : CDiv i j) : EV X (.BinOp e1 .FloorDiv e2 pos) σ Hb rInt (i / j) := ev_op (w := .non) h1 h2 (fun _ => op_fdiv) fun _ _ _ _ _ r1 r2 Q q => hc h r1 r2 (q _ rfl)
theorem pw (h1 : EV X e1 σ Hb rInt i) (h2 : EV X e2 σ Hb rInt j) (h : CPow i j) : EV X (.BinOp e1 .Pow e2 pos) σ Hb rInt (i ^ j.toNat) := ev_op (w := .non) h1 h2 (fun _ => op_pow) fun _ _ _ _ _ r1 r2 Q q => hc h r1 r2 (q _ rfl)
theorem neg (h1 : EV X e1 σ Hb rInt i) : EV X (.UnaryOp .USub e1 pos) σ Hb rInt (-i) := fun H1 c Q q =>
  ⟨_, fun _ => pe_un un_neg (wE_ok _), h1 H1 c _ fun v Hk H2 g r => ⟨i, r, q _ Hk H2 g rfl⟩⟩
theorem lt (h1 : EV X e1 σ Hb rInt i) (h2 : EV X e2 σ Hb rInt j) : EV X (.Compare e1 [.Lt] [e2] pos) σ Hb rBl (decide (i < j)) := ev_cmp h1 h2 (fun _ => op_lt) (nomark _) fun _ _ _ _ _ r1 r2 Q q => hi r1 r2 (q _ rfl)
theorem le (h1 : EV X e1 σ Hb rInt i) (h2 : EV X e2 σ Hb rInt j) : EV X (.Compare e1 [.LtE] [e2] pos) σ Hb rBl (decide (i ≤ j)) := ev_cmp h1 h2 (fun _ => op_le) (nomark _) fun _ _ _ _ _ r1 r2 Q q => hi r1 r2 (q _ rfl)
theorem gt (h1 : EV X e1 σ Hb rInt i) (h2 : EV X e2 σ Hb rInt j) : EV X (.Compare e1 [.Gt] [e2] pos) σ Hb rBl (decide (j < i)) := ev_cmp h1 h2 (fun _ => op_gt) (nomark _) fun _ _ _ _ _ r1 r2 Q q => hi r1 r2 (q _ rfl)
theorem ge (h1 : EV X e1 σ Hb rInt i) (h2 : EV X e2 σ Hb rInt j) : EV X (.Compare e1 [.GtE] [e2] pos) σ Hb rBl (decide (j ≤ i)) := ev_cmp h1 h2 (fun _ => op_ge) (nomark _) fun _ _ _ _ _ r1 r2 Q q => hi r1 r2 (q _ rfl)
theorem eqI (h1 : EV X e1 σ Hb rInt i) (h2 : EV X e2 σ Hb rInt j) : EV X (.Compare e1 [.Eq] [e2] pos) σ Hb rBl (decide (i = j)) := ev_cmp h1 h2 (fun _ => op_eq) (nomark _) fun _ _ _ _ _ r1 r2 Q q => by
  subst r1 r2; exact ⟨rfl, q _ (by show V.bl _ = V.bl _; congr 1; simp)⟩
theorem neI (h1 : EV X e1 σ Hb rInt i) (h2 : EV X e2 σ Hb rInt j) : EV X (.Compare e1 [.NotEq] [e2] pos) σ Hb rBl (decide (i ≠ j)) := ev_cmp h1 h2 (fun _ => op_ne) (nomark _) fun _ _ _ _ _ r1 r2 Q q => by
  subst r1 r2; exact ⟨rfl, q _ (by show V.bl _ = V.bl _; congr 1; simp)⟩
theorem tlt (h1 : EV X e1 σ Hb rInt i) (h2 : EV X e2 σ Hb rInt j) : ET X (.Compare e1 [.Lt] [e2] pos) σ Hb (decide (i < j)) := et_cmp h1 h2 (fun _ => op_lt) (nomark _) fun _ _ _ _ _ r1 r2 Q q => hi r1 r2 q
theorem tle (h1 : EV X e1 σ Hb rInt i) (h2 : EV X e2 σ Hb rInt j) : ET X (.Compare e1 [.LtE] [e2] pos) σ Hb (decide (i ≤ j)) := et_cmp h1 h2 (fun _ => op_le) (nomark _) fun _ _ _ _ _ r1 r2 Q q => hi r1 r2 q
theorem tgt (h1 : EV X e1 σ Hb rInt i) (h2 : EV X e2 σ Hb rInt j) : ET X (.Compare e1 [.Gt] [e2] pos) σ Hb (decide (j < i)) := et_cmp h1 h2 (fun _ => op_gt) (nomark _) fun _ _ _ _ _ r1 r2 Q q => hi r1 r2 q
theorem tge (h1 : EV X e1 σ Hb rInt i) (h2 : EV X e2 σ Hb rInt j) : ET X (.Compare e1 [.GtE] [e2] pos) σ Hb (decide (j ≤ i)) := et_cmp h1 h2 (fun _ => op_ge) (nomark _) fun _ _ _ _ _ r1 r2 Q q => hi r1 r2 q
theorem teq (h1 : EV X e1 σ Hb rInt i) (h2 : EV X e2 σ Hb rInt j) : ET X (.Compare e1 [.Eq] [e2] pos) σ Hb (decide (i = j)) := et_cmp h1 h2 (fun _ => op_eq) (nomark _) fun _ _ _ _ _ r1 r2 Q q => by
  subst r1 r2; refine ⟨rfl, ?_⟩; rw [show decide (V.int i = V.int j) = decide (i = j) by simp]; exact q
theorem tne (h1 : EV X e1 σ Hb rInt i) (h2 : EV X e2 σ Hb rInt j) : ET X (.Compare e1 [.NotEq] [e2] pos) σ Hb (decide (i ≠ j)) := et_cmp h1 h2 (fun _ => op_ne) (nomark _) fun _ _ _ _ _ r1 r2 Q q => by
  subst r1 r2; refine ⟨rfl, ?_⟩; rw [show (!decide (V.int i = V.int j)) = decide (i ≠ j) by simp]; exact q
theorem is_eq_non {v : V} {R : Rep α} {H : Hp} (h : R.r H v a) : True := trivial
theorem isN {t : Bool} (h1 : EP X e1 σ Hb fun v _ => decide (v = .non) = t) {j0 p0} : EV X (.Compare e1 [.Is] [.Constant .none j0 p0] pos) σ Hb rBl t := fun H1 c Q q =>
  ⟨_, fun i => pe_cmpR op_isN (wE_ok i) pe_non (nomark _), h1 H1 c _ fun v Hk H2 g r => ⟨rfl, q _ Hk H2 g (by show V.bl _ = V.bl _; rw [r])⟩⟩
theorem notN {t : Bool} (h1 : EP X e1 σ Hb fun v _ => decide (v = .non) = t) {j0 p0} : EV X (.Compare e1 [.IsNot] [.Constant .none j0 p0] pos) σ Hb rBl (!t) := fun H1 c Q q =>
  ⟨_, fun i => pe_cmpR op_notN (wE_ok i) pe_non (nomark _), h1 H1 c _ fun v Hk H2 g r => ⟨rfl, q _ Hk H2 g (by show V.bl _ = V.bl _; rw [r])⟩⟩
end
/-! tests -/
theorem tv {t : Bool} (h : EV X e σ Hb rBl t) (he : ∀ i whole, isTrue e (X i).env whole = (do let v ← whole; standAt e.pos; holding [v] (truthy v)) := by intro _ _; rfl) : ET X e σ Hb t := fun H1 c Q q =>
  ⟨_, fun i => pt_val (wE_ok i) (he i), h H1 c _ fun v Hk H2 g r => ⟨t, r, q Hk H2 g⟩⟩
theorem tnot {t : Bool} (h : ET X e σ Hb t) : ET X (.UnaryOp .Not e pos) σ Hb (!t) := fun H1 c Q q => ⟨_, fun i => pt_not (wT_ok i), h H1 c _ q⟩
theorem tW {t : Bool} (h : EW X e σ Hb t) : ET X e σ Hb t := fun H1 c Q q => ⟨_, fun i => (wW_ok i).pt, h H1 c Q q⟩
theorem wand1 {t : Bool} (h : ET X e σ Hb t) : EW X (.BoolOp .And [e] pos) σ Hb t := fun H1 c Q q => ⟨_, fun i => pw_and1 (wT_ok i), h H1 c Q q⟩
theorem wor1 {t : Bool} (h : ET X e σ Hb t) : EW X (.BoolOp .Or [e] pos) σ Hb t := fun H1 c Q q => ⟨_, fun i => pw_or1 (wT_ok i), h H1 c Q q⟩
theorem EW.mono {t : Bool} (h : EW X e σ Hb t) (c : Ex Hb Hc) : EW X e σ Hc t := fun H1 e1 Q q => h H1 (c.trans e1) Q fun Hk H2 g => q Hc H2 ⟨g.real, g.live, Ex.refl _, e1.trans g.ex, fun _ _ z => z⟩
theorem wand {t u : Bool} {rest : List Expr} (h : ET X e σ Hb t) (h2 : t = true → EW X (.BoolOp .And (e1 :: rest) pos) σ Hb u) : EW X (.BoolOp .And (e :: e1 :: rest) pos) σ Hb (t && u) := fun H1 c Q q =>
  ⟨_, fun i => pw_and (wT_ok i) (wW_ok i), h H1 c _ fun Hk H2 g => by
    cases t with
    | true => exact (h2 rfl).mono g.base H2 g.on Q fun Hl H3 g2 => q Hl H3 (g.trans g2)
    | false => exact q Hk H2 g⟩
theorem wor {t u : Bool} {rest : List Expr} (h : ET X e σ Hb t) (h2 : t = false → EW X (.BoolOp .Or (e1 :: rest) pos) σ Hb u) : EW X (.BoolOp .Or (e :: e1 :: rest) pos) σ Hb (t || u) := fun H1 c Q q =>
  ⟨_, fun i => pw_or (wT_ok i) (wW_ok i), h H1 c _ fun Hk H2 g => by
    cases t with
    | true => exact q Hk H2 g
    | false => exact (h2 rfl).mono g.base H2 g.on Q fun Hl H3 g2 => q Hl H3 (g.trans g2)⟩
/-! and, or of truth values as values -/
theorem vone {op : BoolOp} (h : EV X e σ Hb R a) : EV X (.BoolOp op [e] pos) σ Hb R a := fun H1 c Q q => ⟨_, fun i => pe_one (wE_ok i), h H1 c Q q⟩
theorem vand {t u : Bool} {rest : List Expr} (h : EV X e σ Hb rBl t) (h2 : t = true → EV X (.BoolOp .And (e1 :: rest) pos) σ Hb rBl u) : EV X (.BoolOp .And (e :: e1 :: rest) pos) σ Hb rBl (t && u) := fun H1 c Q q =>
  ⟨_, fun i => pe_and (wE_ok i) (wE_ok i), h H1 c _ fun v Hk H2 g r => ⟨t, r, by
    cases t with
    | true => exact (h2 rfl).mono g.base H2 g.on Q fun v Hl H3 g2 => q v Hl H3 (g.trans g2)
    | false => exact q _ Hk H2 g rfl⟩⟩
theorem vor {t u : Bool} {rest : List Expr} (h : EV X e σ Hb rBl t) (h2 : t = false → EV X (.BoolOp .Or (e1 :: rest) pos) σ Hb rBl u) : EV X (.BoolOp .Or (e :: e1 :: rest) pos) σ Hb rBl (t || u) := fun H1 c Q q =>
  ⟨_, fun i => pe_or (wE_ok i) (wE_ok i), h H1 c _ fun v Hk H2 g r => ⟨t, r, by
    cases t with
    | true => exact q _ Hk H2 g rfl
    | false => exact (h2 rfl).mono g.base H2 g.on Q fun v Hl H3 g2 => q v Hl H3 (g.trans g2)⟩⟩
theorem vnot {t : Bool} (h : EV X e σ Hb rBl t) : EV X (.UnaryOp .Not e pos) σ Hb rBl (!t) := fun H1 c Q q =>
  ⟨_, fun i => pe_not (wE_ok i), h H1 c _ fun v Hk H2 g r => ⟨t, r, q _ Hk H2 g rfl⟩⟩
end
/-! ### arguments, calls -/
inductive AL : Type 1
  | nil : AL
  | cons {α : Type} (R : Rep α) (a : α) (rest : AL) : AL
def AL.r : AL → Hp → List V → Prop
  | .nil, _, vs => vs = []
  | .cons R a t, H, vs => ∃ v us, vs = v :: us ∧ R.r H v a ∧ t.r H us
theorem AL.up {H H' : Hp} (e : Ex H H') : ∀ {L : AL} {vs : List V}, L.r H vs → L.r H' vs
  | .nil, _, h => h
  | .cons R _ _, _, ⟨v, us, h, r, t⟩ => ⟨v, us, h, R.up e r, AL.up e t⟩
/-- an argument list -/
def EL {ι : Type} (X : ι → Cx) (es : List Expr) (σ : L2.St) (Hb : Hp) (L : AL) : Prop := ∀ H1, Ex Hb H1 → ∀ Q : List V → Hp → Prop, (∀ vs Hk H2, Go no Hb H1 Hk H2 → L.r Hk vs → Q vs H2) → wA X es σ H1 Q
section
variable {ι : Type} {X : ι → Cx} {g : W5} {N : List Str} {k : Nat} {α β γ : Type} {R : Rep α} {T : Rep β} {σ : L2.St} {Hb Hc : Hp} {a : α} {b : β} {v : V} {e e1 e2 : Expr} {es : List Expr} {pos p : Pos} {x : Str} {Φ Φ' : V → Hp → Prop} {L : AL}
theorem EL.mono (h : EL X es σ Hb L) (c : Ex Hb Hc) : EL X es σ Hc L := fun H1 e1 Q q => h H1 (c.trans e1) Q fun v Hk H2 g p =>
  q v (ovr Hc Hk) H2 ⟨g.real, g.live, ovr_l, fun b o h => by
    cases z : Hc b with
    | some u => rw [ovr_some z] at h; cases h; exact g.real b _ (fun z => z) (e1 b _ z)
    | none => rw [ovr_none z] at h; exact g.on b o h, fun b h1 h2 => by
    rw [ovr_none h2]; exact g.fr b h1 (c.none h2)⟩ (AL.up (fun b o h => by
    cases z : Hc b with
    | some u => rw [ovr_some z]; have := g.real b u (fun z => z) (e1 b u z); rw [g.on b o h] at this; exact this.symm
    | none => rw [ovr_none z]; exact h) p)
/-- no starred argument -/
abbrev NS (e : Expr) : Prop := ∀ (es : List Expr) (env : Env), starEach (e :: es) env = (false, eval e env) :: starEach es env
theorem a0 : EL X [] σ Hb .nil := fun H1 c Q q => ⟨_, fun _ => pa_nil, q [] Hb H1 (Go.refl c) rfl⟩
theorem ac (h : EV X e σ Hb R a) (hr : EL X es σ Hb L) (hs : NS e := by intro _ _; rfl) : EL X (e :: es) σ Hb (.cons R a L) := fun H1 c Q q =>
  ⟨_, fun i => pa_cons (wE_ok i) (wA_ok i) (hs _ _), h H1 c _ fun v Hk H2 g r => hr.mono g.base H2 g.on _ fun us Hl H3 g2 r2 => q _ Hl H3 (g.trans g2) ⟨v, us, rfl, R.up g2.base r, r2⟩⟩
abbrev al1 {α : Type} (R : Rep α) (a : α) : AL := .cons R a .nil
abbrev al2 {α β : Type} (R : Rep α) (a : α) (T : Rep β) (b : β) : AL := .cons R a (.cons T b .nil)
abbrev al3 {α β γ : Type} (R : Rep α) (a : α) (T : Rep β) (b : β) (U : Rep γ) (c : γ) : AL := .cons R a (.cons T b (.cons U c .nil))
abbrev al4 {α β γ δ : Type} (R : Rep α) (a : α) (T : Rep β) (b : β) (U : Rep γ) (c : γ) (W : Rep δ) (d : δ) : AL := .cons R a (.cons T b (.cons U c (.cons W d .nil)))
/-- a def that changes nothing: its arguments, what must hold, what it hands back -/
def spF {τ : Type} (args : τ → AL) (pre : τ → Prop) (post : τ → V → Hp → Prop) : Sp := fun vs H1 Q _ => ∃ (t : τ) (Hb : Hp), Ex Hb H1 ∧ (args t).r Hb vs ∧ pre t ∧ ∀ v Hk H2, Go no Hb H1 Hk H2 → post t v Hk → Q v H2
/-- a module's def as it may be called -/
structure FnB (g : W5) (CX : CXT) (k : Nat) (x : Str) (ps : List Str) (dvs : List V) (sp : Sp) : Prop where
  ex : ∃ (f : Addr) (fd : FuncData) (ds : List Value), g.mg x = some (.ref f) ∧ PySem.W.keepIn g.K (.ref f) = true ∧ Binds g.K fd ps ds ∧ Vals dvs ds ∧ FnOk g.P g.w g.K g.mg g.base CX k f fd ps sp
  pass : ∀ X : Cx, X.prog = g.P → X.w = g.w → Passes CX X E0
theorem FnB.at [c : CtxZ X g N k] {CX : CXT} {k' : Nat} {ps : List Str} {dvs : List V} {sp : Sp} (F : FnB g CX k' x ps dvs sp) (hk : k' ≤ k) (i : ι) :
    ∃ (f : Addr) (fd : FuncData) (ds : List Value), (X i).mg x = some (.ref f) ∧ PySem.W.keepIn (X i).K (.ref f) = true ∧ Binds (X i).K fd ps ds ∧ Vals dvs ds ∧ FnOk (X i).prog (X i).w (X i).K (X i).mg (X i).base CX k' f fd ps sp ∧ Room k' (X i).A ∧ Passes CX (X i) E0 := by
  obtain ⟨f, fd, ds, h1, h2, h3, h4, h5⟩ := F.ex
  rw [c.P i, c.w i, c.K i, c.mg i, c.base i]
  exact ⟨f, fd, ds, h1, h2, h3, h4, h5, (c.room i).mono hk, F.pass _ (c.P i) (c.w i)⟩
/-- the call, its promise at the values -/
theorem wcall [c : CtxZ X g N k] {CX : CXT} {k' : Nat} {ps : List Str} {dvs : List V} {sp : Sp} {H1 : Hp} {Q : VK} (F : FnB g CX k' x ps dvs sp) (hk : k' ≤ k) (h : wA X (e :: es) σ H1 fun vs H2 => sp (vs ++ dvs) H2 Q E0)
    (hg : ∀ i, Gl (X i) x := by intro _; rfl) (hdb : (x == ("__debug__" : Str)) = false := by decide) (he : NS e := by intro _ _; rfl)
    (hpl : ∀ i, (backTo pos (starEach es (X i).env)).any (·.1) = false := by intro _; rfl) : wE X (.Call (.Name x p) (e :: es) [] pos) σ H1 Q :=
  ⟨tCall sp dvs E0 (wA X (e :: es)), fun i => by
    obtain ⟨f, fd, ds, h1, h2, h3, h4, h5, h6, h7⟩ := FnB.at (X := X) F hk i
    exact pe_call h5 h6 (hg i) h1 h2 h3 h4 h7 (wA_ok i) hdb (he _ _) (hpl i), h⟩
theorem call [c : CtxZ X g N k] {CX : CXT} {k' : Nat} {ps : List Str} {τ : Type} {args : τ → AL} {pre : τ → Prop} {post : τ → V → Hp → Prop} (F : FnB g CX k' x ps [] (spF args pre post)) (t : τ) (ha : EL X (e :: es) σ Hb L) (hL : args t = L := by rfl) (hp : pre t := by trivial) (hk : k' ≤ k := by decide)
    (hg : ∀ i, Gl (X i) x := by intro _; rfl) (hdb : (x == ("__debug__" : Str)) = false := by decide) (he : NS e := by intro _ _; rfl)
    (hpl : ∀ i, (backTo pos (starEach es (X i).env)).any (·.1) = false := by intro _; rfl) : EP X (.Call (.Name x p) (e :: es) [] pos) σ Hb (post t) := fun H1 c1 Q q =>
  wcall F hk (ha H1 c1 _ fun vs Hk H2 g1 r => ⟨t, Hk, g1.on, by rw [List.append_nil, hL]; exact r, hp, fun v Hl H3 g2 z => q v Hl H3 (g1.trans g2) z⟩) hg hdb he hpl
/-- a built-in's call that makes no object -/
theorem bcall [c : CtxZ X g N k] {id : String} {r : List V → Hp → VK → Prop} (hc : ∀ i, CallR (X i) (.builtin id) r) (hm : g.mg x = none) (hv : bootBuiltins x = some (.builtin id)) (ha : EL X (e :: es) σ Hb L)
    (hr : ∀ vs Hk H2, Ex Hk H2 → L.r Hk vs → ∀ Q : VK, (∀ v Hl H3, Go no Hk H2 Hl H3 → Φ v Hl → Q v H3) → r vs H2 Q)
    (hg : ∀ i, Gl (X i) x := by intro _; rfl) (hn : x ≠ "__name__" := by decide) (hdb : (x == ("__debug__" : Str)) = false := by decide) (he : NS e := by intro _ _; rfl)
    (hpl : ∀ i, (backTo pos (starEach es (X i).env)).any (·.1) = false := by intro _; rfl) : EP X (.Call (.Name x p) (e :: es) [] pos) σ Hb Φ := fun H1 c1 Q q =>
  ⟨_, fun i => pe_callB (hc i) (hg i) ((congrFun (c.mg i) x).trans hm) hv (wA_ok i) hn hdb (he _ _) (hpl i), ha H1 c1 _ fun vs Hk H2 g1 r1 => hr vs Hk H2 g1.on r1 Q fun v Hl H3 g2 z => q v Hl H3 (g1.trans g2) z⟩
theorem bcallT [c : CtxZ X g N k] {id : String} {r : List V → Hp → VK → Prop} (hc : ∀ i, CallR (X i) (.type id) r) (hm : g.mg x = none) (hv : bootBuiltins x = some (.type id)) (ha : EL X (e :: es) σ Hb L)
    (hr : ∀ vs Hk H2, Ex Hk H2 → L.r Hk vs → ∀ Q : VK, (∀ v Hl H3, Go no Hk H2 Hl H3 → Φ v Hl → Q v H3) → r vs H2 Q)
    (hg : ∀ i, Gl (X i) x := by intro _; rfl) (hn : x ≠ "__name__" := by decide) (hdb : (x == ("__debug__" : Str)) = false := by decide) (he : NS e := by intro _ _; rfl)
    (hpl : ∀ i, (backTo pos (starEach es (X i).env)).any (·.1) = false := by intro _; rfl) : EP X (.Call (.Name x p) (e :: es) [] pos) σ Hb Φ := fun H1 c1 Q q =>
  ⟨_, fun i => pe_callTy (hc i) (hg i) ((congrFun (c.mg i) x).trans hm) hv (wA_ok i) hn hdb (he _ _) (hpl i), ha H1 c1 _ fun vs Hk H2 g1 r1 => hr vs Hk H2 g1.on r1 Q fun v Hl H3 g2 z => q v Hl H3 (g1.trans g2) z⟩
theorem AL.one {R : Rep α} {a : α} {H : Hp} {vs : List V} (h : (al1 R a).r H vs) : ∃ v, vs = [v] ∧ R.r H v a := by
  obtain ⟨v, us, e, r, t⟩ := h; cases (show us = [] from t); exact ⟨v, e, r⟩
theorem AL.two {R : Rep α} {T : Rep β} {a : α} {b : β} {H : Hp} {vs : List V} (h : (al2 R a T b).r H vs) : ∃ v u, vs = [v, u] ∧ R.r H v a ∧ T.r H u b := by
  obtain ⟨v, us, e, r, t⟩ := h; obtain ⟨u, e2, r2⟩ := AL.one t; rw [e2] at e; exact ⟨v, u, e, r, r2⟩
theorem AL.three {R : Rep α} {T : Rep β} {U : Rep γ} {a : α} {b : β} {d : γ} {H : Hp} {vs : List V} (h : (al3 R a T b U d).r H vs) : ∃ v u w, vs = [v, u, w] ∧ R.r H v a ∧ T.r H u b ∧ U.r H w d := by
  obtain ⟨v, us, e, r, t⟩ := h; obtain ⟨u, w, e2, r2⟩ := AL.two t; rw [e2] at e; exact ⟨v, u, w, e, r, r2⟩
theorem AL.four {δ : Type} {W : Rep δ} {R : Rep α} {T : Rep β} {U : Rep γ} {a : α} {b : β} {d : γ} {f : δ} {H : Hp} {vs : List V} (h : (al4 R a T b U d W f).r H vs) : ∃ v u w z, vs = [v, u, w, z] ∧ R.r H v a ∧ T.r H u b ∧ U.r H w d ∧ W.r H z f := by
  obtain ⟨v, us, e, r, t⟩ := h; obtain ⟨u, w, z, e2, r2⟩ := AL.three t; rw [e2] at e; exact ⟨v, u, w, z, e, r, r2⟩

/-! ### lists and tuples -/
theorem atI_of {xs : List V} {i : Int} {j : Nat} {y : V} (hi : i = (j : Int)) (h : xs[j]? = some y) : atI xs i = some y := by subst hi; exact atI_nat h
theorem ix_K [c : CtxZ X g N k] (i : ι) : IxR (X i) (rIx g.K) := by rw [← c.K i]; exact ix_seq
class IsS {α : Type} (S : Rep (List α)) (R : outParam (Rep α)) : Prop where
  to : ∀ H v l, S.r H v l → (rS R).r H v l
instance : IsS (rL R) R := ⟨fun _ _ _ h => rL.s h⟩
instance : IsS (rT R) R := ⟨fun _ _ _ h => rT.s h⟩
instance : IsS (rS R) R := ⟨fun _ _ _ h => h⟩
theorem rS.get {H : Hp} {v : V} {l : List α} {j : Nat} (h : (rS R).r H v l) (hj : l[j]? = some a) : ∃ p xs y, v = .ref p ∧ (H p = some (.lst xs) ∨ H p = some (.tup xs)) ∧ xs[j]? = some y ∧ R.r H y a := by
  obtain ⟨p, xs, e, b, r⟩ := h
  obtain ⟨y, hy, ry⟩ := r.get hj
  exact ⟨p, xs, y, e, b, hy, ry⟩
/-- l[i] -/
theorem ix [c : CtxZ X g N k] {S : Rep (List α)} [hS : IsS S R] {l : List α} {i : Int} (j : Nat) (h1 : EV X e1 σ Hb S l) (h2 : EV X e2 σ Hb rInt i) (hi : i = (j : Int)) (hj : l[j]? = some a) (hs : PlainIx e2 := by intro _ _; rfl) :
    EV X (.Subscript e1 e2 pos) σ Hb R a := fun H1 c1 Q q =>
  ⟨_, fun i => pe_ix (ix_K i) (wE_ok i) (wE_ok i) hs, seq2 (Ψ := fun _ _ _ => True) (E := fun _ _ _ _ => True) h1 h2 c1 fun v u Hk H2 g1 r1 r2 => by
    obtain ⟨p, xs, y, rfl, b, hy, ry⟩ := rS.get (hS.to _ _ _ r1) hj
    have r2 : u = .int i := r2
    subst r2
    have q2 : Q y H2 := q y Hk H2 g1 ry
    rcases b with b | b
    · exact .inl ⟨p, xs, i, y, rfl, rfl, SqL.of (g1.on _ _ b), atI_of hi hy, q2⟩
    · exact .inr (.inl ⟨p, xs, i, y, rfl, rfl, SqT.of (g1.on _ _ b), atI_of hi hy, q2⟩)⟩
/-- l[i] of a table -/
theorem ixt [c : CtxZ X g N k] {S : Rep (List α)} [hS : IsS S R] {n : Nat} {f : Nat → α} {j : Nat} (h1 : EV X e1 σ Hb S (tab n f)) (h2 : EV X e2 σ Hb rInt (j : Int)) (hj : j < n) (hs : PlainIx e2 := by intro _ _; rfl) :
    EV X (.Subscript e1 e2 pos) σ Hb R (f j) := ix j h1 h2 rfl (tab_get hj) hs
/-- the items of a pair -/
theorem pr0 [c : CtxZ X g N k] {a : α} {b : β} {j0 p0} (h1 : EV X e1 σ Hb (rP R T) (a, b)) (hs : PlainIx (.Constant (.int 0) j0 p0) := by intro _ _; rfl) : EV X (.Subscript e1 (.Constant (.int 0) j0 p0) pos) σ Hb R a := fun H1 c1 Q q =>
  ⟨_, fun i => pe_ix (ix_K i) (wE_ok i) pe_int hs, h1 H1 c1 _ fun v Hk H2 g1 ⟨p, x, y, e, b, rx, ry⟩ => .inr (.inl ⟨p, _, 0, x, e, rfl, SqT.of (g1.on _ _ b), rfl, q x Hk H2 g1 rx⟩)⟩
theorem pr1 [c : CtxZ X g N k] {a : α} {b : β} {j0 p0} (h1 : EV X e1 σ Hb (rP R T) (a, b)) (hs : PlainIx (.Constant (.int 1) j0 p0) := by intro _ _; rfl) : EV X (.Subscript e1 (.Constant (.int 1) j0 p0) pos) σ Hb T b := fun H1 c1 Q q =>
  ⟨_, fun i => pe_ix (ix_K i) (wE_ok i) pe_int hs, h1 H1 c1 _ fun v Hk H2 g1 ⟨p, x, y, e, b, rx, ry⟩ => .inr (.inl ⟨p, _, 1, y, e, rfl, SqT.of (g1.on _ _ b), rfl, q y Hk H2 g1 ry⟩)⟩
/-! displays -/
theorem dL {L : AL} {l : List α} (h : EL X es σ Hb L) (hl : ∀ H vs, L.r H vs → P2 (R.r H) vs l) (hz : l.length ≤ 1000 := by decide) : EV X (.List es pos) σ Hb (rL R) l := fun H1 c1 Q q =>
  ⟨_, fun i => pe_lst (wA_ok i), h H1 c1 _ fun vs Hk H2 g1 r => ⟨Nat.le_trans (Nat.le_of_eq (hl _ _ r).len) (Nat.le_trans hz (by decide)), fun p hp => q _ (upd Hk p (.lst vs)) _ (g1.trans (Go.new g1.on hp)) ⟨p, vs, rfl, upd_same, (hl _ _ r).imp fun _ _ => R.up (Ex.new (g1.on.none hp))⟩⟩⟩
theorem dT {L : AL} {l : List α} {j0 : Nat} (h : EL X es σ Hb L) (hl : ∀ H vs, L.r H vs → P2 (R.r H) vs l) (hz : l.length ≤ 1000 := by decide) : EV X (.Tuple es j0 pos) σ Hb (rT R) l := fun H1 c1 Q q =>
  ⟨_, fun i => pe_tup (wA_ok i), h H1 c1 _ fun vs Hk H2 g1 r => ⟨Nat.le_trans (Nat.le_of_eq (hl _ _ r).len) (Nat.le_trans hz (by decide)), fun p hp => q _ (upd Hk p (.tup vs)) _ (g1.trans (Go.new g1.on hp)) ⟨p, vs, rfl, upd_same, (hl _ _ r).imp fun _ _ => R.up (Ex.new (g1.on.none hp))⟩⟩⟩
theorem dP {a : α} {b : β} {j0 : Nat} (h : EL X es σ Hb (al2 R a T b)) : EV X (.Tuple es j0 pos) σ Hb (rP R T) (a, b) := fun H1 c1 Q q =>
  ⟨_, fun i => pe_tup (wA_ok i), h H1 c1 _ fun vs Hk H2 g1 r => by
    obtain ⟨v, u, rfl, r1, r2⟩ := AL.two r
    exact ⟨by show 2 ≤ sizeLine; decide, fun p hp => q _ (upd Hk p (.tup [v, u])) _ (g1.trans (Go.new g1.on hp)) ⟨p, v, u, rfl, upd_same, R.up (Ex.new (g1.on.none hp)) r1, T.up (Ex.new (g1.on.none hp)) r2⟩⟩⟩
theorem dP3 {U : Rep γ} {a : α} {b : β} {d : γ} {j0 : Nat} (h : EL X es σ Hb (al3 R a T b U d)) : EV X (.Tuple es j0 pos) σ Hb (rP3 R T U) (a, b, d) := fun H1 c1 Q q =>
  ⟨_, fun i => pe_tup (wA_ok i), h H1 c1 _ fun vs Hk H2 g1 r => by
    obtain ⟨v, u, w, rfl, r1, r2, r3⟩ := AL.three r
    exact ⟨by show 3 ≤ sizeLine; decide, fun p hp => q _ (upd Hk p (.tup [v, u, w])) _ (g1.trans (Go.new g1.on hp)) ⟨p, v, u, w, rfl, upd_same, R.up (Ex.new (g1.on.none hp)) r1, T.up (Ex.new (g1.on.none hp)) r2, U.up (Ex.new (g1.on.none hp)) r3⟩⟩⟩
/-! built-ins -/
def rLenK (K : PySem.W.Frag) : List V → Hp → VK → Prop := fun xs H Q => ∃ p ys, xs = [.ref p] ∧ (SqL K H p ys ∨ SqT K H p ys) ∧ Q (.int ys.length) H
def rListK (K : PySem.W.Frag) : List V → Hp → VK → Prop := fun xs H Q => ∃ p ys, xs = [.ref p] ∧ (SqL K H p ys ∨ SqT K H p ys) ∧ ∀ l, H l = none → Q (.ref l) (upd H l (.lst ys))
def rTupK (K : PySem.W.Frag) : List V → Hp → VK → Prop := fun xs H Q => ∃ p ys, xs = [.ref p] ∧ ((SqL K H p ys ∧ ∀ l, H l = none → Q (.ref l) (upd H l (.tup ys))) ∨ (SqT K H p ys ∧ Q (.ref p) H))
theorem len_K [c : CtxZ X g N k] (i : ι) : CallR (X i) (.builtin "len") (rLenK g.K) := by rw [← c.K i]; exact call_len_seq
theorem list_K [c : CtxZ X g N k] (i : ι) : CallR (X i) (.type "list") (rListK g.K) := by rw [← c.K i]; exact call_list_of
theorem tup_K [c : CtxZ X g N k] (i : ι) : CallR (X i) (.type "tuple") (rTupK g.K) := by rw [← c.K i]; exact call_tuple_of
theorem len [c : CtxZ X g N k] {S : Rep (List α)} [hS : IsS S R] {l : List α} (hm : g.mg "len" = none) (h : EV X e σ Hb S l) {p pos} (hg : ∀ i, Gl (X i) "len" := by intro _; rfl) (hs : NS e := by intro _ _; rfl) : EV X (.Call (.Name "len" p) [e] [] pos) σ Hb rInt (l.length : Int) :=
  bcall (Φ := fun v H => rInt.r H v (l.length : Int)) len_K hm PySem.boot_len (ac h a0 hs) (fun vs Hk H2 c1 r Q q => by
    obtain ⟨v, rfl, r1⟩ := AL.one r
    obtain ⟨p, xs, rfl, b, r2⟩ := hS.to _ _ _ r1
    refine ⟨p, xs, rfl, b.elim (fun b => .inl (SqL.of (c1 _ _ b))) (fun b => .inr (SqT.of (c1 _ _ b))), ?_⟩
    rw [r2.len]
    exact q _ Hk H2 (Go.refl c1) rfl) hg (he := hs)
theorem sum_K [c : CtxZ X g N k] (i : ι) : CallR (X i) (.builtin "sum") (rSum g.K) := by rw [← c.K i]; exact cr_sum (c.calm i)
theorem max_K [c : CtxZ X g N k] (i : ι) : CallR (X i) (.builtin "max") (rMax g.K) := by rw [← c.K i]; exact cr_max (c.calm i)
theorem min_K [c : CtxZ X g N k] (i : ι) : CallR (X i) (.builtin "min") (rMin g.K) := by rw [← c.K i]; exact cr_min (c.calm i)
theorem all_K [c : CtxZ X g N k] (i : ι) : CallR (X i) (.builtin "all") (rAll g.K) := by rw [← c.K i]; exact cr_all (c.calm i)
theorem sum [c : CtxZ X g N k] {l : List Int} (hm : g.mg "sum" = none) (h : EV X e σ Hb (rL rInt) l) (hg : ∀ i, Gl (X i) "sum" := by intro _; rfl) (hs : NS e := by intro _ _; rfl) : EV X (.Call (.Name "sum" p) [e] [] pos) σ Hb rInt l.sum :=
  bcall (Φ := fun v H => rInt.r H v l.sum) sum_K hm (by decide +kernel) (ac h a0 hs) (fun vs Hk H2 c1 r Q q => by
    obtain ⟨v, rfl, r1⟩ := AL.one r
    obtain ⟨p, rfl, b⟩ := rInt.list r1
    exact ⟨p, l, rfl, SqL.of (c1 _ _ b), q _ Hk H2 (Go.refl c1) rfl⟩) hg (he := hs)
theorem allB [c : CtxZ X g N k] {l : List Bool} (hm : g.mg "all" = none) (h : EV X e σ Hb (rL rBl) l) (hg : ∀ i, Gl (X i) "all" := by intro _; rfl) (hs : NS e := by intro _ _; rfl) : EV X (.Call (.Name "all" p) [e] [] pos) σ Hb rBl (l.all id) :=
  bcall (Φ := fun v H => rBl.r H v (l.all id)) all_K hm (by decide +kernel) (ac h a0 hs) (fun vs Hk H2 c1 r Q q => by
    obtain ⟨v, rfl, r1⟩ := AL.one r
    obtain ⟨p, xs, rfl, b, r2⟩ := r1
    have := P2.bls r2
    subst this
    exact ⟨p, l, rfl, SqL.of (c1 _ _ b), q _ Hk H2 (Go.refl c1) rfl⟩) hg (he := hs)
theorem maxL [c : CtxZ X g N k] {l : List Int} (hm : g.mg "max" = none) (h : EV X e σ Hb (rL rInt) l) (hl : 0 < l.length) (hg : ∀ i, Gl (X i) "max" := by intro _; rfl) (hs : NS e := by intro _ _; rfl) : EP X (.Call (.Name "max" p) [e] [] pos) σ Hb (fun v _ => ∃ m, v = .int m ∧ m ∈ l ∧ ∀ y ∈ l, y ≤ m) :=
  bcall max_K hm (by decide +kernel) (ac h a0 hs) (fun vs Hk H2 c1 r Q q => by
    obtain ⟨v, rfl, r1⟩ := AL.one r
    obtain ⟨p, rfl, b⟩ := rInt.list r1
    exact ⟨p, l, rfl, SqL.of (c1 _ _ b), hl, fun m hm hy => q _ Hk H2 (Go.refl c1) ⟨m, rfl, hm, hy⟩⟩) hg (he := hs)
theorem minL [c : CtxZ X g N k] {l : List Int} (hm : g.mg "min" = none) (h : EV X e σ Hb (rL rInt) l) (hl : 0 < l.length) (hg : ∀ i, Gl (X i) "min" := by intro _; rfl) (hs : NS e := by intro _ _; rfl) : EP X (.Call (.Name "min" p) [e] [] pos) σ Hb (fun v _ => ∃ m, v = .int m ∧ m ∈ l ∧ ∀ y ∈ l, m ≤ y) :=
  bcall min_K hm (by decide +kernel) (ac h a0 hs) (fun vs Hk H2 c1 r Q q => by
    obtain ⟨v, rfl, r1⟩ := AL.one r
    obtain ⟨p, rfl, b⟩ := rInt.list r1
    exact ⟨p, l, rfl, SqL.of (c1 _ _ b), hl, fun m hm hy => q _ Hk H2 (Go.refl c1) ⟨m, rfl, hm, hy⟩⟩) hg (he := hs)
theorem toTup [c : CtxZ X g N k] {l : List α} (hm : g.mg "tuple" = none) (h : EV X e σ Hb (rS R) l) (hg : ∀ i, Gl (X i) "tuple" := by intro _; rfl) (hs : NS e := by intro _ _; rfl) : EV X (.Call (.Name "tuple" p) [e] [] pos) σ Hb (rT R) l :=
  bcallT (Φ := fun v H => (rT R).r H v l) tup_K hm (by decide +kernel) (ac h a0 hs) (fun vs Hk H2 c1 r Q q => by
    obtain ⟨v, rfl, r1⟩ := AL.one r
    obtain ⟨p, xs, rfl, b, r2⟩ := r1
    refine ⟨p, xs, rfl, ?_⟩
    rcases b with b | b
    · exact .inl ⟨SqL.of (c1 _ _ b), fun m hm => q _ _ _ (Go.new c1 hm) ⟨m, xs, rfl, upd_same, r2.imp fun _ _ => R.up (Ex.new (c1.none hm))⟩⟩
    · exact .inr ⟨SqT.of (c1 _ _ b), q _ Hk H2 (Go.refl c1) ⟨p, xs, rfl, b, r2⟩⟩) hg (he := hs)
theorem toList [c : CtxZ X g N k] {S : Rep (List α)} [hS : IsS S R] {l : List α} (hm : g.mg "list" = none) (h : EV X e σ Hb S l) (hg : ∀ i, Gl (X i) "list" := by intro _; rfl) (hs : NS e := by intro _ _; rfl) : EV X (.Call (.Name "list" p) [e] [] pos) σ Hb (rL R) l :=
  bcallT (Φ := fun v H => (rL R).r H v l) list_K hm (by decide +kernel) (ac h a0 hs) (fun vs Hk H2 c1 r Q q => by
    obtain ⟨v, rfl, r1⟩ := AL.one r
    obtain ⟨p, xs, rfl, b, r2⟩ := hS.to _ _ _ r1
    exact ⟨p, xs, rfl, b.elim (fun b => .inl (SqL.of (c1 _ _ b))) (fun b => .inr (SqT.of (c1 _ _ b))), fun m hm => q _ _ _ (Go.new c1 hm) ⟨m, xs, rfl, upd_same, r2.imp fun _ _ => R.up (Ex.new (c1.none hm))⟩⟩) hg (he := hs)
theorem int1 [c : CtxZ X g N k] {n : Int} (hm : g.mg "int" = none) (h : EV X e σ Hb rInt n) (hg : ∀ i, Gl (X i) "int" := by intro _; rfl) (hs : NS e := by intro _ _; rfl) : EV X (.Call (.Name "int" p) [e] [] pos) σ Hb rInt n :=
  bcallT (Φ := fun v H => rInt.r H v n) (fun _ => call_int1) hm (by decide +kernel) (ac h a0 hs) (fun vs Hk H2 c1 r Q q => by
    obtain ⟨v, rfl, r1⟩ := AL.one r
    have r1 : v = .int n := r1
    subst r1
    exact .inl ⟨n, rfl, q _ Hk H2 (Go.refl c1) rfl⟩) hg (he := hs)
theorem abs1 [c : CtxZ X g N k] {n : Int} (hm : g.mg "abs" = none) (h : EV X e σ Hb rInt n) (hg : ∀ i, Gl (X i) "abs" := by intro _; rfl) (hs : NS e := by intro _ _; rfl) : EV X (.Call (.Name "abs" p) [e] [] pos) σ Hb rInt (if n < 0 then -n else n) :=
  bcall (Φ := fun v H => rInt.r H v (if n < 0 then -n else n)) (fun _ => call_abs) hm (by decide +kernel) (ac h a0 hs) (fun vs Hk H2 c1 r Q q => by
    obtain ⟨v, rfl, r1⟩ := AL.one r
    have r1 : v = .int n := r1
    subst r1
    exact ⟨n, rfl, q _ Hk H2 (Go.refl c1) rfl⟩) hg (he := hs)
theorem max2 [c : CtxZ X g N k] {n m : Int} (hm : g.mg "max" = none) (h : EV X e1 σ Hb rInt n) (h2 : EV X e2 σ Hb rInt m) (hg : ∀ i, Gl (X i) "max" := by intro _; rfl) (hs : NS e1 := by intro _ _; rfl) (hs2 : NS e2 := by intro _ _; rfl) (hq : ∀ i, (backTo pos (starEach [e2] (X i).env)).any (·.1) = false := by intro _; rfl) : EV X (.Call (.Name "max" p) [e1, e2] [] pos) σ Hb rInt (if m > n then m else n) :=
  bcall (Φ := fun v H => rInt.r H v (if m > n then m else n)) (fun i => call_max2 (c.calm i)) hm (by decide +kernel) (ac h (ac h2 a0 hs2) hs) (fun vs Hk H2 c1 r Q q => by
    obtain ⟨v, u, rfl, r1, r2⟩ := AL.two r
    have r1 : v = .int n := r1
    have r2 : u = .int m := r2
    subst r1 r2
    exact ⟨n, m, rfl, q _ Hk H2 (Go.refl c1) rfl⟩) hg (he := hs) (hpl := hq)
theorem min2 [c : CtxZ X g N k] {n m : Int} (hm : g.mg "min" = none) (h : EV X e1 σ Hb rInt n) (h2 : EV X e2 σ Hb rInt m) (hg : ∀ i, Gl (X i) "min" := by intro _; rfl) (hs : NS e1 := by intro _ _; rfl) (hs2 : NS e2 := by intro _ _; rfl) (hq : ∀ i, (backTo pos (starEach [e2] (X i).env)).any (·.1) = false := by intro _; rfl) : EV X (.Call (.Name "min" p) [e1, e2] [] pos) σ Hb rInt (if m < n then m else n) :=
  bcall (Φ := fun v H => rInt.r H v (if m < n then m else n)) (fun i => call_min2 (c.calm i)) hm (by decide +kernel) (ac h (ac h2 a0 hs2) hs) (fun vs Hk H2 c1 r Q q => by
    obtain ⟨v, u, rfl, r1, r2⟩ := AL.two r
    have r1 : v = .int n := r1
    have r2 : u = .int m := r2
    subst r1 r2
    exact ⟨n, m, rfl, q _ Hk H2 (Go.refl c1) rfl⟩) hg (he := hs) (hpl := hq)
end
end Z
/-! Z1: enumerate(tuple), zip(tuple, list). -/
namespace ZE
open PySem.Spec PySem PyProof.Rows L2
theorem meets_enum_tup (a : Addr) (items : Array Value) :
    Meets (Builtin.«enumerate.__new__» ⟨[.type "enumerate", .ref a], []⟩) (fun _ R s => s.heap.IsTuple a items ∧
      R (.ok (.ret (.ref (s.heap.push { cls := .type "tuple_iterator", data := .fields #[.ref a, .int 0 0] }).objs.size)))
        { s with heap := (s.heap.push { cls := .type "tuple_iterator", data := .fields #[.ref a, .int 0 0] }).push { cls := .type "enumerate", data := .fields #[.none, .bool false, .ref s.heap.objs.size, rawInt 0, .none, .none] } }) :=
  .of_wp fun prog w A R s told => by
    obtain ⟨hp, g, d, tk, os⟩ := s; obtain ⟨hl, told⟩ := told
    have hsub := sub_enumerate
    have hT : Heap.IsTuple (Shared.heap ⟨hp, g, d, tk, os⟩) a items := hl
    wp_walk using wpAny_pyIter_tuple hT
    refine wpAny_stack_any fun stk => wpAny_pure ?_
    split
    · rename_i c _ _ _ _ _
      cases hcc : (c == Value.type "enumerate")
      · wp_walk using wpAny_pyIter_tuple hT
        exact ⟨_, rfl, told⟩
      · wp_walk using wpAny_pyIter_tuple hT
        exact ⟨_, rfl, told⟩
    · wp_walk using wpAny_pyIter_tuple hT
      exact ⟨_, rfl, told⟩
section
variable {w : World} {prog : Program} {A : Around} {E : Value → Shared → Prop} {s : Shared}
theorem call_enum_tup {a : Addr} {items : Array Value} {Q : Value → Shared → Prop} (hT : s.heap.IsTuple a items)
    (h : ∀ h', IsEnum h' (s.heap.objs.size + 1) s.heap.objs.size 0 .none → h'.IsTupleIter s.heap.objs.size a 0 → h'.objs.size = s.heap.objs.size + 2 →
      (∀ c u, s.heap.get? c = some u → h'.get? c = some u) → Q (.ref (s.heap.objs.size + 1)) { s with heap := h' }) :
    wpAny (model prog w) A (call (.type "enumerate") [.ref a]) Q E s := by
  refine callType_new F.called_enumerate (by decide) (F.typeCall_enumerate_1 _) (F.newCall_enumerate_1 _) (fun obj₀ => F.args_object_init_2 obj₀ _) F.entry_enumerate_new
    (meets_enum_tup a items) ⟨hT, ?_⟩
  have hz₀ : (s.heap.push { cls := .type "tuple_iterator", data := .fields #[.ref a, .int 0 0] }).objs.size = s.heap.objs.size + 1 := Heap.size_push ..
  show _ ∧ _
  rw [hz₀]
  have he₀ : IsEnum ((s.heap.push { cls := .type "tuple_iterator", data := .fields #[.ref a, .int 0 0] }).push
      { data := .fields #[.none, .bool false, .ref s.heap.objs.size, rawInt 0, .none, .none], cls := .type "enumerate" }) (s.heap.objs.size + 1) s.heap.objs.size 0 .none := by
    have := Heap.get?_push_size (s.heap.push { cls := .type "tuple_iterator", data := .fields #[.ref a, .int 0 0] })
      (o := { data := .fields #[.none, .bool false, .ref s.heap.objs.size, rawInt 0, .none, .none], cls := .type "enumerate" }) rfl
    rw [hz₀] at this; exact this
  refine ⟨⟨_, he₀, rfl⟩, h _ he₀ ⟨_, Heap.get?_push_of_some _ (Heap.get?_push_size _ rfl), rfl, rfl⟩ (by rw [Heap.size_push, hz₀]) fun b o x₀ => Heap.get?_push_of_some _ (Heap.get?_push_of_some _ x₀)⟩
end
/-- the tuple at a, each item in a new pair -/
def IteT (K : PySem.W.Frag) (a : Addr) : It :=
  ⟨fun i H => ∃ (xs : List V) (x : V), SqT K H a xs ∧ xs[i]? = some x, fun i H v H' => ∃ T x, v = .ref T ∧ H T = none ∧ H' = upd H T (.tup [.int (i : Nat), x]) ∧ ∀ xs, SqT K H a xs → xs[i]? = some x, fun i H => ∃ xs : List V, SqT K H a xs ∧ xs.length = i⟩
theorem turn_enumT {P : Program} {w : World} {K : PySem.W.Frag} {elts : List Expr} {kk : Nat} {tpos : Pos} (a e it : Addr) (hai : a ≠ it) (hae : a ≠ e) :
    Turn P w K (.Tuple elts kk tpos) (IteT K a) [e, it] e (fun i h => (∃ old, IsEnum h e it ((i : Nat) : Int) old) ∧ h.IsTupleIter it a i ∧ e ≠ it) where
  mem := by simp
  obj := fun i h st₀ b₀ hb₀ => by
    obtain ⟨⟨old, he₀⟩, ⟨o₀, ho₀, hc₀, hd₀⟩, _⟩ := st₀
    have e'₀ : b₀ = e ∨ b₀ = it := by simpa using hb₀
    rcases e'₀ with z₀ | z₀
    · rw [z₀]; exact ⟨_, he₀, fun v₀ q₀ => nomatch q₀⟩
    · rw [z₀]; exact ⟨o₀, ho₀, fun v₀ q₀ => by rw [hd₀] at q₀; cases q₀⟩
  keep := fun i h h'₀ st₀ k₀ => let ⟨⟨old, he₀⟩, hi₀, hne₀⟩ := st₀; ⟨⟨old, k₀ e (by simp) _ he₀⟩, hi₀.at fun o₀ q₀ => k₀ it (by simp) o₀ q₀, hne₀⟩
  item := by
    intro X hP₀ hw₀ hK₀ hc₀ i pins₀ s₀ σ₀ H E I hf₀ st₀ hg₀
    subst hP₀ hw₀ hK₀
    obtain ⟨⟨old, he₀⟩, hit₀, hne₀⟩ := st₀
    obtain ⟨xs₀, x₀, hq₀, hx₀⟩ := hg₀
    obtain ⟨its₀, rv₀, p₀, hz₀⟩ := I.tuple hq₀
    obtain ⟨u₀, hu₀, ru₀⟩ := rv₀.get hx₀
    have hel₀ : e < s₀.heap.objs.size := Heap.lt_size he₀
    have hil₀ : it < s₀.heap.objs.size := by obtain ⟨_, q₀, _⟩ := hit₀; exact Heap.lt_size q₀
    have hlt₀ : i < its₀.toArray.size := by simpa using (List.getElem?_eq_some_iff.mp hu₀).1
    refine wpAny_pyNext_enum_itemC (Draws.tuple (prog := X.prog) (w := X.w) (A := X.A.in1) (show X.A.in1.handled = none from I.ok.hd hc₀) it a hai its₀.toArray) he₀ ⟨hit₀, p₀⟩ hlt₀ hne₀ (by simp [hne₀, Ne.symm hae]) fun y₀ h'₀ tk₀ hy₀ ho₀ st'₀ hT₀ hsz₀ hk₀ => ?_
    have hyu₀ : y₀ = u₀ := by
      have hy₀ : its₀.toArray[i]? = some y₀ := hy₀
      have h2₀ : its₀.toArray[i]? = some u₀ := by simpa using hu₀
      rw [hy₀] at h2₀; exact Option.some.inj h2₀
    subst hyu₀
    have hit'₀ := st'₀.1
    refine ⟨_, rfl, wpAny_letOwnedTupleGo_enum (s := { s₀ with heap := h'₀, toks := tk₀ + 1 }) ho₀ fun h''₀ he'₀ sb₀ => ?_⟩
    have hT2₀ : h''₀.get? s₀.heap.objs.size = some { cls := .type "tuple", data := .seq #[.int i tk₀, y₀] } := (sb₀.2 _ (Nat.ne_of_gt hel₀)).trans hT₀
    have new : ObjOk X.prog X.w (upd H s₀.heap.objs.size (.tup [.int (i : Nat), x₀])) h''₀ s₀.heap.objs.size (.tup [.int (i : Nat), x₀]) :=
      ⟨by show 2 ≤ sizeLine; decide, [.int i tk₀, y₀], .cons ⟨_, rfl⟩ (.cons ru₀ .nil), ⟨_, hT2₀, rfl, _, rfl⟩⟩
    have I1₀ : Inv X pins₀ σ₀ (upd H s₀.heap.objs.size (.tup [.int (i : Nat), x₀])) { s₀ with heap := h''₀, toks := tk₀ + 1 } :=
      I.turnedNew (ch := [e, it]) (fun b₀ ob₀ hb₀ q₀ => (sb₀.2 b₀ (fun z₀ => hb₀ (by simp [z₀]))).trans (hk₀ b₀ ob₀ (fun z₀ => hb₀ (by simp [z₀])) (fun z₀ => hb₀ (by simp [z₀])) q₀)) hf₀ (Nat.le_refl _) new
    refine ⟨.ref s₀.heap.objs.size, _, I1₀, rfl, ⟨_, x₀, rfl, I.hok.fresh (Nat.le_refl _), rfl, fun ys₀ hy₀ => by rw [I.tuple_inj hy₀ hq₀]; exact hx₀⟩, ⟨⟨y₀, ?_⟩, hit'₀.at fun o₀ q₀ => (sb₀.2 it (Ne.symm hne₀)).trans q₀, hne₀⟩, fun b₀ hb₀ => ?_⟩
    · have e1₀ : ((i + 1 : Nat) : Int) = (i : Int) + 1 := by omega
      rw [e1₀]; exact he'₀
    · have hb'₀ : b₀ < s₀.heap.objs.size := by
        have e'₀ : b₀ = e ∨ b₀ = it := by simpa using hb₀
        rcases e'₀ with z₀ | z₀
        · rw [z₀]; exact hel₀
        · rw [z₀]; exact hil₀
      rw [upd_ne (Nat.ne_of_lt hb'₀)]
      exact (hf₀ b₀ hb₀).1
  done := by
    intro X hP₀ hw₀ hK₀ hc₀ i pins₀ s₀ σ₀ H E I hf₀ st₀ hg₀
    subst hP₀ hw₀ hK₀
    obtain ⟨⟨old, he₀⟩, hit₀, hne₀⟩ := st₀
    obtain ⟨xs₀, hq₀, hx₀⟩ := hg₀
    obtain ⟨its₀, rv₀, p₀, hz₀⟩ := I.tuple hq₀
    have hl₀ := rv₀.length
    have hn₀ : i = its₀.toArray.size := by simp; omega
    subst hn₀
    obtain ⟨f0₀, f1₀, f2₀, f3₀, f4₀, f5₀⟩ := hf₀ it (by simp)
    exact wpAny_pyNext_enum_endD (Draws.tuple (prog := X.prog) (w := X.w) (A := X.A.in1) (show X.A.in1.handled = none from I.ok.hd hc₀) it a hai its₀.toArray) he₀ ⟨hit₀, p₀⟩ fun h'₀ eb₀ => ⟨rfl, I.turned (t' := s₀.toks) (fun b₀ o₀ hb₀ q₀ => eb₀ b₀ o₀ hb₀ q₀) f0₀ f1₀ f3₀ f4₀ f5₀⟩
  self := fun A i s₀ Q E st₀ h => let ⟨⟨_, he₀⟩, _⟩ := st₀; wpAny_pyIter_enum he₀ h
def iEnumT (K : PySem.W.Frag) (ta : TA) : TI := fun σ H R => ta σ H fun vs H1 => ∃ a xs, vs = [.ref a] ∧ SqT K H1 a xs ∧ R (IteT K a) H1
theorem pi_enumT {X : Cx} {e : Expr} {ta : TA} {p pos tpos : Pos} {elts : List Expr} {kk : Nat} (hg : Gl X "enumerate") (hm : X.mg "enumerate" = none) (ha : PA X [e] ta) (hs : starEach [e] X.env = [(false, eval e X.env)] := by rfl) :
    PI X (.Tuple elts kk tpos) (.Call (.Name "enumerate" p) [e] [] pos) (iEnumT X.K ta) := by
  refine ⟨fun pins₀ s₀ σ₀ H R I h₀ => ?_⟩
  refine Call_ (ld_blt I hg hm boot_enumerate (PyProof.Rows.callWith_type1 (thn (ha.run pos pins₀ s₀ σ₀ H _ I h₀) fun us₀ s1₀ ⟨vs₀, H1, I1₀, r1₀, q1₀⟩ => ?_) hs rfl))
  obtain ⟨a₀, xs₀, ex, hq₀, q₀⟩ := q1₀
  subst ex
  cases r1₀ with
  | cons r rr =>
    cases rr
    cases r
    obtain ⟨its₀, rv₀, p'₀, hz₀⟩ := I1₀.tuple hq₀
    have hlt₀ : a₀ < s1₀.heap.objs.size := p'₀.lt
    refine call_enum_tup p'₀ fun h'₀ he₀ hit₀ hsz₀ hk₀ => wpAny_pyIter_enum he₀ ?_
    have I2₀ : Inv X pins₀ σ₀ H1 { s1₀ with heap := h'₀ } := I1₀.kept (t' := s1₀.toks) hk₀
    refine ⟨s1₀.heap.objs.size + 1, [s1₀.heap.objs.size + 1, s1₀.heap.objs.size], _, _, H1, rfl, I2₀, turn_enumT a₀ (s1₀.heap.objs.size + 1) s1₀.heap.objs.size (Nat.ne_of_lt hlt₀) (Nat.ne_of_lt (Nat.lt_succ_of_lt hlt₀)), ⟨⟨.none, he₀⟩, hit₀, Nat.succ_ne_self _⟩, fun b₀ hb₀ => ?_, q₀⟩
    have e'₀ : b₀ = s1₀.heap.objs.size + 1 ∨ b₀ = s1₀.heap.objs.size := by simpa using hb₀
    have hle₀ : s1₀.heap.objs.size ≤ b₀ := by
      rcases e'₀ with z₀ | z₀
      · rw [z₀]; exact Nat.le_add_right _ _
      · rw [z₀]; exact Nat.le_refl _
    exact I1₀.fpOk hle₀ (I1₀.hok.fresh hle₀)
/-! ### zip(tuple, list) -/
def ItzM (K : PySem.W.Frag) (a b : Addr) : It :=
  ⟨fun i H => ∃ (xs ys : List V) (x y : V), SqT K H a xs ∧ SqL K H b ys ∧ xs[i]? = some x ∧ ys[i]? = some y,
    fun i H v H' => ∃ T x y, v = .ref T ∧ H T = none ∧ H' = upd H T (.tup [x, y]) ∧ (∀ xs, SqT K H a xs → xs[i]? = some x) ∧ ∀ ys, SqL K H b ys → ys[i]? = some y,
    fun i H => ∃ xs ys : List V, SqT K H a xs ∧ SqL K H b ys ∧ xs.length = i ∧ ys.length = i⟩
theorem nin2 {x a b : Nat} (h : x ≠ a) (k : x ≠ b) : (x : Addr) ∉ ([a, b] : List Addr) := by
  intro z
  rcases List.mem_cons.1 z with z | z
  · exact h z
  · exact k (List.mem_singleton.1 z)
theorem sep5 {n a b : Nat} (ha : a < n) (hb : b < n) : ZipSep2 (n + 4 : Nat) (n + 2 : Nat) (n + 3 : Nat) n (n + 1 : Nat) [n, a] [(n + 1 : Nat), b] where
  TIz := by show (n + 2 : Nat) ≠ n + 4; omega
  TOz := by show (n + 3 : Nat) ≠ n + 4; omega
  TITO := by show (n + 2 : Nat) ≠ n + 3; omega
  TIi1 := by show (n + 2 : Nat) ≠ n; omega
  mem1 := List.mem_cons_self
  zf1 := nin2 (by omega) (by omega)
  Tf1 := nin2 (by omega) (by omega)
  TIi2 := by show (n + 2 : Nat) ≠ n + 1; omega
  mem2 := List.mem_cons_self
  zf2 := nin2 (by omega) (by omega)
  Tf2 := nin2 (by omega) (by omega)
  sep1_2 := nin2 (by omega) (by omega)
  sep2_1 := nin2 (by omega) (by omega)
theorem turn_zipM {P : Program} {w : World} {K : PySem.W.Frag} {elts : List Expr} {kk : Nat} {tpos : Pos} {a b z TI TO i1 i2 : Addr} (D : ZipSep2 z TI TO i1 i2 [i1, a] [i2, b]) (ha1 : a ≠ i1) (hb2 : b ≠ i2) :
    Turn P w K (.Tuple elts kk tpos) (ItzM K a b) [z, TI, TO, i1, i2] z (fun i h => IsZip h z TI TO .none ∧ IsTupOf2 h TI (.ref i1) (.ref i2) ∧ (∃ x y, IsTupOf2 h TO x y) ∧ h.IsTupleIter i1 a i ∧ h.IsListIter i2 b i) where
  mem := by simp
  obj := fun i h st₀ c₀ hc₀ => by
    obtain ⟨hz₀, hTI₀, ⟨x, y, hTO₀⟩, ⟨o1₀, e1₀, _, d1₀⟩, ⟨o2₀, e2₀, _, d2₀⟩⟩ := st₀
    have e'₀ : c₀ = z ∨ c₀ = TI ∨ c₀ = TO ∨ c₀ = i1 ∨ c₀ = i2 := by simpa using hc₀
    rcases e'₀ with q₀ | q₀ | q₀ | q₀ | q₀
    · rw [q₀]; exact ⟨_, hz₀, fun v₀ q₀ => nomatch q₀⟩
    · rw [q₀]; exact ⟨_, hTI₀, fun v₀ q₀ => nomatch q₀⟩
    · rw [q₀]; exact ⟨_, hTO₀, fun v₀ q₀ => nomatch q₀⟩
    · rw [q₀]; exact ⟨o1₀, e1₀, fun v₀ q₀ => by rw [d1₀] at q₀; cases q₀⟩
    · rw [q₀]; exact ⟨o2₀, e2₀, fun v₀ q₀ => by rw [d2₀] at q₀; cases q₀⟩
  keep := fun i h h'₀ st₀ k₀ => by
    obtain ⟨hz₀, hTI₀, ⟨x, y, hTO₀⟩, h1₀, h2₀⟩ := st₀
    exact ⟨k₀ z (by simp) _ hz₀, k₀ TI (by simp) _ hTI₀, ⟨x, y, k₀ TO (by simp) _ hTO₀⟩, h1₀.at fun o₀ q₀ => k₀ i1 (by simp) o₀ q₀, h2₀.at fun o₀ q₀ => k₀ i2 (by simp) o₀ q₀⟩
  item := by
    intro X hP₀ hw₀ hK₀ hc₀ i pins₀ s₀ σ₀ H E I hf₀ st₀ hg₀
    subst hP₀ hw₀ hK₀
    obtain ⟨hz₀, hTI₀, ⟨x0₀, y0₀, hTO₀⟩, h1₀, h2₀⟩ := st₀
    obtain ⟨xs₀, ys₀, x, y, hqx₀, hqy₀, hx₀, hy₀⟩ := hg₀
    obtain ⟨its₀, rv₀, p₀, _⟩ := I.tuple hqx₀
    obtain ⟨its2₀, rv2₀, p2₀, _⟩ := I.list hqy₀
    obtain ⟨u₀, hu₀, ru₀⟩ := rv₀.get hx₀
    obtain ⟨u2₀, hu2₀, ru2₀⟩ := rv2₀.get hy₀
    have hzl₀ : z < s₀.heap.objs.size := Heap.lt_size hz₀
    have hlt1₀ : i < its₀.toArray.size := by simpa using (List.getElem?_eq_some_iff.mp hu₀).1
    have hlt2₀ : i < its2₀.toArray.size := by simpa using (List.getElem?_eq_some_iff.mp hu2₀).1
    have hh₀ : X.A.in1.handled = none := I.ok.hd hc₀
    have hai₀ : a ≠ i1 := ha1
    have hbi₀ : b ≠ i2 := hb2
    refine wpAny_pyNext_zipD2_item D (Draws.tuple (prog := X.prog) (w := X.w) (A := X.A.in1) hh₀ i1 a hai₀ its₀.toArray) (Draws.list (prog := X.prog) (w := X.w) (A := X.A.in1) hh₀ i2 b hbi₀ its2₀.toArray) hz₀ hTI₀ hTO₀ ⟨h1₀, p₀⟩ ⟨h2₀, p2₀.isList⟩ hlt1₀ hlt2₀
      fun v1₀ v2₀ h'₀ tk₀ hv1₀ hv2₀ z'₀ TO' s1'₀ s2'₀ hT₀ hsz₀ hk₀ => ?_
    have e1₀ : v1₀ = u₀ := by
      have hv1₀ : its₀.toArray[i]? = some v1₀ := hv1₀
      have h2₀ : its₀.toArray[i]? = some u₀ := by simpa using hu₀
      rw [hv1₀] at h2₀; exact Option.some.inj h2₀
    have e2₀ : v2₀ = u2₀ := by
      have hv2₀ : its2₀.toArray[i]? = some v2₀ := hv2₀
      have h2₀ : its2₀.toArray[i]? = some u2₀ := by simpa using hu2₀
      rw [hv2₀] at h2₀; exact Option.some.inj h2₀
    subst e1₀ e2₀
    have h1'₀ := s1'₀.1
    have h2'₀ := s2'₀.1
    refine ⟨_, rfl, wpAny_letOwnedTupleGo_zip (s := { s₀ with heap := h'₀, toks := tk₀ }) z'₀ fun h''₀ z''₀ sb₀ => ?_⟩
    have hT2₀ : h''₀.get? s₀.heap.objs.size = some { cls := .type "tuple", data := .seq #[v1₀, v2₀] } := (sb₀.2 _ (Nat.ne_of_gt hzl₀)).trans hT₀
    have new : ObjOk X.prog X.w (upd H s₀.heap.objs.size (.tup [x, y])) h''₀ s₀.heap.objs.size (.tup [x, y]) :=
      ⟨by show 2 ≤ sizeLine; decide, [v1₀, v2₀], .cons ru₀ (.cons ru2₀ .nil), ⟨_, hT2₀, rfl, _, rfl⟩⟩
    have I1₀ : Inv X pins₀ σ₀ (upd H s₀.heap.objs.size (.tup [x, y])) { s₀ with heap := h''₀, toks := tk₀ } :=
      I.turnedNew (t' := tk₀) (ch := [z, TI, TO, i1, i2]) (fun c₀ o₀ hb₀ q₀ => (sb₀.2 c₀ (fun q'₀ => hb₀ (by simp [q'₀]))).trans (hk₀ c₀ o₀ (fun q'₀ => hb₀ (by simp [q'₀])) (fun q'₀ => hb₀ (by simp [q'₀])) (fun q'₀ => hb₀ (by simp [q'₀])) (fun q'₀ => hb₀ (by simp [q'₀])) q₀)) hf₀ (Nat.le_refl _) new
    refine ⟨.ref s₀.heap.objs.size, _, I1₀, rfl, ⟨_, x, y, rfl, I.hok.fresh (Nat.le_refl _), rfl, fun l₀ hl₀ => by rw [I.tuple_inj hl₀ hqx₀]; exact hx₀, fun l₀ hl₀ => by rw [I.list_inj hl₀ hqy₀]; exact hy₀⟩, ⟨z''₀, ?_, ⟨v1₀, v2₀, ?_⟩, ?_, ?_⟩, fun c₀ hcm₀ => ?_⟩
    · exact (sb₀.2 _ D.TIz).trans (hk₀ _ _ D.TIz D.TITO D.TIi1 D.TIi2 hTI₀)
    · exact (sb₀.2 _ D.TOz).trans TO'
    · exact h1'₀.at fun o₀ q₀ => (sb₀.2 _ (Ne.symm D.zi1)).trans q₀
    · exact h2'₀.at fun o₀ q₀ => (sb₀.2 _ (Ne.symm D.zi2)).trans q₀
    · have hlt₀ : c₀ < s₀.heap.objs.size := by
        have e'₀ : c₀ = z ∨ c₀ = TI ∨ c₀ = TO ∨ c₀ = i1 ∨ c₀ = i2 := by simpa using hcm₀
        rcases e'₀ with q₀ | q₀ | q₀ | q₀ | q₀
        · rw [q₀]; exact hzl₀
        · rw [q₀]; exact Heap.lt_size hTI₀
        · rw [q₀]; exact Heap.lt_size hTO₀
        · rw [q₀]; obtain ⟨_, e1₀, _⟩ := h1₀; exact Heap.lt_size e1₀
        · rw [q₀]; obtain ⟨_, e2₀, _⟩ := h2₀; exact Heap.lt_size e2₀
      rw [upd_ne (Nat.ne_of_lt hlt₀)]
      exact (hf₀ c₀ hcm₀).1
  done := by
    intro X hP₀ hw₀ hK₀ hc₀ i pins₀ s₀ σ₀ H E I hf₀ st₀ hg₀
    subst hP₀ hw₀ hK₀
    obtain ⟨hz₀, hTI₀, ⟨x0₀, y0₀, hTO₀⟩, h1₀, h2₀⟩ := st₀
    obtain ⟨xs₀, ys₀, hqx₀, hqy₀, l1₀, l2₀⟩ := hg₀
    obtain ⟨its₀, rv₀, p₀, _⟩ := I.tuple hqx₀
    obtain ⟨its2₀, rv2₀, p2₀, _⟩ := I.list hqy₀
    have k1₀ := rv₀.length
    have k2₀ := rv2₀.length
    have hh₀ : X.A.in1.handled = none := I.ok.hd hc₀
    exact wpAny_pyNext_zipD2_end D (Draws.tuple (prog := X.prog) (w := X.w) (A := X.A.in1) hh₀ i1 a ha1 its₀.toArray) (Draws.list (prog := X.prog) (w := X.w) (A := X.A.in1) hh₀ i2 b hb2 its2₀.toArray) hz₀ hTI₀ hTO₀ ⟨h1₀, p₀⟩ ⟨h2₀, p2₀.isList⟩
      (by simp; omega) (by simp; omega) (.inl (by simp; omega)) fun h'₀ tk₀ hk₀ => ⟨rfl, I.turnedL (t' := tk₀) (ch := [z, TI, TO, i1, i2]) (fun c₀ o₀ hb₀ q₀ =>
      hk₀ c₀ o₀ (fun q'₀ => hb₀ (by simp [q'₀])) (fun q'₀ => hb₀ (by simp [q'₀])) (fun q'₀ => hb₀ (by simp [q'₀])) (fun q'₀ => hb₀ (by simp [q'₀])) q₀) hf₀⟩
  self := fun A i s₀ Q E st₀ h => wpAny_pyIter_zip st₀.1 h
def iZipM (K : PySem.W.Frag) (ta : TA) : TI := fun σ H R => ta σ H fun vs H1 => ∃ a b xs ys, vs = [.ref a, .ref b] ∧ SqT K H1 a xs ∧ SqL K H1 b ys ∧ R (ItzM K a b) H1
theorem pi_zipM {X : Cx} {e e2 : Expr} {ta : TA} {p pos tpos : Pos} {elts : List Expr} {kk : Nat} (hg : Gl X "zip") (hm : X.mg "zip" = none) (ha : PA X [e, e2] ta)
    (hs : starEach [e, e2] X.env = (false, eval e X.env) :: starEach [e2] X.env := by rfl) (hpl : ((backTo pos (starEach [e2] X.env)).any (·.1)) = false := by rfl) :
    PI X (.Tuple elts kk tpos) (.Call (.Name "zip" p) [e, e2] [] pos) (iZipM X.K ta) := by
  refine ⟨fun pins₀ s₀ σ₀ H R I h₀ => ?_⟩
  refine Call_ (ld_blt I hg hm PyProof.Rows.boot_zip (PyProof.Rows.callWith_type1 (thn (ha.run pos pins₀ s₀ σ₀ H _ I h₀) fun us₀ s1₀ ⟨vs₀, H1, I1₀, r1₀, q1₀⟩ => ?_) hs hpl))
  obtain ⟨a₀, b₀, xs₀, ys₀, ex, hqx₀, hqy₀, q₀⟩ := q1₀
  subst ex
  cases r1₀ with
  | cons r rr =>
    cases rr with
    | cons r' rr =>
      cases rr
      cases r
      cases r'
      have fresh5₀ : ∀ c₀, c₀ ∈ [s1₀.heap.objs.size + 4, s1₀.heap.objs.size + 2, s1₀.heap.objs.size + 3, s1₀.heap.objs.size, s1₀.heap.objs.size + 1] → FpOk X pins₀ H1 c₀ := fun c₀ hcm₀ => by
        have e'₀ : c₀ = s1₀.heap.objs.size + 4 ∨ c₀ = s1₀.heap.objs.size + 2 ∨ c₀ = s1₀.heap.objs.size + 3 ∨ c₀ = s1₀.heap.objs.size ∨ c₀ = s1₀.heap.objs.size + 1 := by simpa using hcm₀
        have hle₀ : s1₀.heap.objs.size ≤ c₀ := by
          rcases e'₀ with z₀ | z₀ | z₀ | z₀ | z₀
          · rw [z₀]; exact Nat.le_add_right _ _
          · rw [z₀]; exact Nat.le_add_right _ _
          · rw [z₀]; exact Nat.le_add_right _ _
          · rw [z₀]; exact Nat.le_refl _
          · rw [z₀]; exact Nat.le_add_right _ _
        exact I1₀.fpOk hle₀ (I1₀.hok.fresh hle₀)
      obtain ⟨its₀, rv₀, p1₀, _⟩ := I1₀.tuple hqx₀
      obtain ⟨its2₀, rv2₀, p2₀, _⟩ := I1₀.list hqy₀
      have la₀ : a₀ < s1₀.heap.objs.size := p1₀.lt
      have lb₀ : b₀ < s1₀.heap.objs.size := by obtain ⟨_, e, _⟩ := p2₀.isList; exact Heap.lt_size e
      refine zip_begins2 (begins_tuple a₀ its₀.toArray) (begins_list b₀ its2₀.toArray) p1₀ p2₀.isList fun h'₀ hz₀ hTI₀ hTO₀ h1₀ h2₀ hsz₀ hk₀ => wpAny_pyIter_zip hz₀ ?_
      have I2₀ : Inv X pins₀ σ₀ H1 { s1₀ with heap := h'₀ } := I1₀.kept (t' := s1₀.toks) hk₀
      refine ⟨s1₀.heap.objs.size + 4, [s1₀.heap.objs.size + 4, s1₀.heap.objs.size + 2, s1₀.heap.objs.size + 3, s1₀.heap.objs.size, s1₀.heap.objs.size + 1], _, _, H1, rfl, I2₀,
        turn_zipM (a := a₀) (b := b₀) (z := s1₀.heap.objs.size + 4) (TI := s1₀.heap.objs.size + 2) (TO := s1₀.heap.objs.size + 3) (i1 := s1₀.heap.objs.size) (i2 := s1₀.heap.objs.size + 1) (sep5 la₀ lb₀) (Nat.ne_of_lt la₀) (Nat.ne_of_lt (Nat.lt_succ_of_lt lb₀)), ⟨hz₀, hTI₀, ⟨_, _, hTO₀⟩, ⟨_, h1₀, rfl, rfl⟩, ⟨_, h2₀, rfl, rfl⟩⟩, fresh5₀, q₀⟩
end ZE
/-! Z2: walks, comprehensions, statements, defs. -/
namespace Z
open PySem.Spec PySem PyProof.Rows L2
def EI {ι : Type} (X : ι → Cx) (tg e : Expr) (σ : L2.St) (Hb : Hp) (n : Nat) (Y : Nat → V → Hp → Prop) : Prop := ∀ H1, Ex Hb H1 → ∀ R : It → Hp → Prop,
  (∀ J Hk H2, Go no Hb H1 Hk H2 → (∀ i H, i < n → Ex Hk H → J.go i H) → (∀ H, Ex Hk H → J.stop n H) → (∀ i H x H', i < n → Ex Hk H → J.yld i H x H' → ∃ Hl, Go no Hk H Hl H' ∧ Y i x Hl) → R J H2) → wI X tg e σ H1 R
section
variable {ι : Type} {X : ι → Cx} {g : W5} {N : List Str} {k : Nat} {α β γ : Type} {R : Rep α} {T : Rep β} {σ : L2.St} {Hb Hc : Hp} {a : α} {b : β} {v : V} {e e1 e2 tg : Expr} {es : List Expr} {pos p tpos : Pos} {x : Str} {Φ Φ' : V → Hp → Prop} {L : AL} {n : Nat} {f : Nat → α} {f2 : Nat → β} {elts : List Expr} {kk : Nat}
theorem iR [c : CtxZ X g N k] (hm : g.mg "range" = none) (h : EV X e σ Hb rInt ((n : Nat) : Int)) (hn : n < 2 ^ 62) (hg : ∀ i, Gl (X i) "range" := by intro _; rfl) (hs : NS e := by intro _ _; rfl) : EI X tg (.Call (.Name "range" p) [e] [] pos) σ Hb n (fun i v _ => v = .int (i : Int)) := fun H1 c1 R q =>
  ⟨_, fun i => pi_range1 (hg i) ((congrFun (c.mg i) _).trans hm) (wA_ok i) (hs _ _), ac h a0 hs H1 c1 _ fun vs Hk H2 g1 r => by
    obtain ⟨v, rfl, r1⟩ := AL.one r
    have r1 : v = .int (n : Int) := r1
    subst r1
    refine ⟨(n : Int), rfl, by omega, by omega, q _ Hk H2 g1 (fun i H hi _ => ?_) (fun H _ => ?_) (fun i H x H' hi c2 y => ?_)⟩
    · show i < (n : Int).toNat; omega
    · show (n : Int).toNat ≤ n; omega
    · obtain ⟨rfl, rfl⟩ := y
      exact ⟨Hk, Go.refl c2, by rw [Int.zero_add]⟩⟩
theorem pi_list_K [c : CtxZ X g N k] (i : ι) : PI (X i) tg e (iList g.K (wE X e)) := by rw [← c.K i]; exact pi_list (wE_ok i)
theorem pi_tup_K [c : CtxZ X g N k] (i : ι) : PI (X i) tg e (iTup g.K (wE X e)) := by rw [← c.K i]; exact pi_tup (wE_ok i)
theorem iL [c : CtxZ X g N k] (h : EV X e σ Hb (rL R) (tab n f)) : EI X tg e σ Hb n (fun i v H => R.r H v (f i)) := fun H1 c1 Q q =>
  ⟨_, fun i => pi_list_K i, h H1 c1 _ fun v Hk H2 g1 ⟨p, xs, e1, b, r⟩ => by
    have hl : xs.length = n := by rw [r.len, tab_len]
    refine ⟨p, e1, ⟨xs, SqL.of (g1.on _ _ b)⟩, q _ Hk H2 g1 (fun i H hi c2 => ⟨xs, xs[i], SqL.of (c2 _ _ b), by simp [hl, hi]⟩) (fun H c2 => ⟨xs, SqL.of (c2 _ _ b), by omega⟩) (fun i H x H' hi c2 y => ?_)⟩
    obtain ⟨rfl, y⟩ := y
    refine ⟨Hk, Go.refl c2, ?_⟩
    obtain ⟨z, hz, rz⟩ := r.get (tab_get hi)
    have := y xs (SqL.of (c2 _ _ b))
    rw [hz] at this; cases this; exact rz⟩
theorem iT [c : CtxZ X g N k] (h : EV X e σ Hb (rT R) (tab n f)) : EI X tg e σ Hb n (fun i v H => R.r H v (f i)) := fun H1 c1 Q q =>
  ⟨_, fun i => pi_tup_K i, h H1 c1 _ fun v Hk H2 g1 ⟨p, xs, e1, b, r⟩ => by
    have hl : xs.length = n := by rw [r.len, tab_len]
    refine ⟨p, e1, ⟨xs, SqT.of (g1.on _ _ b)⟩, q _ Hk H2 g1 (fun i H hi c2 => ⟨xs, xs[i], SqT.of (c2 _ _ b), by simp [hl, hi]⟩) (fun H c2 => ⟨xs, SqT.of (c2 _ _ b), by omega⟩) (fun i H x H' hi c2 y => ?_)⟩
    obtain ⟨rfl, y⟩ := y
    refine ⟨Hk, Go.refl c2, ?_⟩
    obtain ⟨z, hz, rz⟩ := r.get (tab_get hi)
    have := y xs (SqT.of (c2 _ _ b))
    rw [hz] at this; cases this; exact rz⟩
/-- a new pair at a turn -/
theorem yp {H Hk H' : Hp} {v u w : V} {T' : Addr} {a : α} {b : β} (c2 : Ex Hk H) (hv : v = .ref T') (hT : H T' = none) (hH : H' = upd H T' (.tup [u, w])) (r1 : R.r Hk u a) (r2 : T.r Hk w b) : ∃ Hl, Go no Hk H Hl H' ∧ (rP R T).r Hl v (a, b) := by
  subst hH
  exact ⟨upd Hk T' (.tup [u, w]), Go.new c2 hT, T', u, w, hv, upd_same, R.up (Ex.new (c2.none hT)) r1, T.up (Ex.new (c2.none hT)) r2⟩
theorem pi_enum_K [c : CtxZ X g N k] (hm : g.mg "enumerate" = none) (hg : ∀ i, Gl (X i) "enumerate") (hs : NS e) (i : ι) : PI (X i) (.Tuple elts kk tpos) (.Call (.Name "enumerate" p) [e] [] pos) (iEnum g.K (wA X [e])) := by
  rw [← c.K i]; exact pi_enum (hg i) ((congrFun (c.mg i) _).trans hm) (wA_ok i) (hs _ _)
theorem pi_enumT_K [c : CtxZ X g N k] (hm : g.mg "enumerate" = none) (hg : ∀ i, Gl (X i) "enumerate") (hs : NS e) (i : ι) : PI (X i) (.Tuple elts kk tpos) (.Call (.Name "enumerate" p) [e] [] pos) (ZE.iEnumT g.K (wA X [e])) := by
  rw [← c.K i]; exact ZE.pi_enumT (hg i) ((congrFun (c.mg i) _).trans hm) (wA_ok i) (hs _ _)
theorem iEL [c : CtxZ X g N k] (hm : g.mg "enumerate" = none) (h : EV X e σ Hb (rL R) (tab n f)) (hg : ∀ i, Gl (X i) "enumerate" := by intro _; rfl) (hs : NS e := by intro _ _; rfl) :
    EI X (.Tuple elts kk tpos) (.Call (.Name "enumerate" p) [e] [] pos) σ Hb n (fun i v H => (rP rInt R).r H v ((i : Int), f i)) := fun H1 c1 Q q =>
  ⟨_, fun i => pi_enum_K hm hg hs i, ac h a0 hs H1 c1 _ fun vs Hk H2 g1 r => by
    obtain ⟨v, rfl, p, xs, rfl, b, r⟩ := AL.one r
    have hl : xs.length = n := by rw [r.len, tab_len]
    refine ⟨p, xs, rfl, SqL.of (g1.on _ _ b), q _ Hk H2 g1 (fun i H hi c2 => ⟨xs, xs[i], SqL.of (c2 _ _ b), by simp [hl, hi]⟩) (fun H c2 => ⟨xs, SqL.of (c2 _ _ b), by omega⟩) (fun i H x H' hi c2 y => ?_)⟩
    obtain ⟨T', z, e1, e2, e3, y⟩ := y
    obtain ⟨z2, hz, rz⟩ := r.get (tab_get hi)
    have := y xs (SqL.of (c2 _ _ b))
    rw [hz] at this; cases this
    exact yp c2 e1 e2 e3 rfl rz⟩
theorem iET [c : CtxZ X g N k] (hm : g.mg "enumerate" = none) (h : EV X e σ Hb (rT R) (tab n f)) (hg : ∀ i, Gl (X i) "enumerate" := by intro _; rfl) (hs : NS e := by intro _ _; rfl) :
    EI X (.Tuple elts kk tpos) (.Call (.Name "enumerate" p) [e] [] pos) σ Hb n (fun i v H => (rP rInt R).r H v ((i : Int), f i)) := fun H1 c1 Q q =>
  ⟨_, fun i => pi_enumT_K hm hg hs i, ac h a0 hs H1 c1 _ fun vs Hk H2 g1 r => by
    obtain ⟨v, rfl, p, xs, rfl, b, r⟩ := AL.one r
    have hl : xs.length = n := by rw [r.len, tab_len]
    refine ⟨p, xs, rfl, SqT.of (g1.on _ _ b), q _ Hk H2 g1 (fun i H hi c2 => ⟨xs, xs[i], SqT.of (c2 _ _ b), by simp [hl, hi]⟩) (fun H c2 => ⟨xs, SqT.of (c2 _ _ b), hl⟩) (fun i H x H' hi c2 y => ?_)⟩
    obtain ⟨T', z, e1, e2, e3, y⟩ := y
    obtain ⟨z2, hz, rz⟩ := r.get (tab_get hi)
    have := y xs (SqT.of (c2 _ _ b))
    rw [hz] at this; cases this
    exact yp c2 e1 e2 e3 rfl rz⟩
theorem pi_zip_K [c : CtxZ X g N k] (hm : g.mg "zip" = none) (hg : ∀ i, Gl (X i) "zip") (hs : NS e) (hq : ∀ i, (backTo pos (starEach [e2] (X i).env)).any (·.1) = false) (i : ι) : PI (X i) (.Tuple elts kk tpos) (.Call (.Name "zip" p) [e, e2] [] pos) (RZ.iZipA g.K (wA X [e, e2])) := by
  rw [← c.K i]; exact RZ.pi_zipA (hg i) ((congrFun (c.mg i) _).trans hm) (wA_ok i) (hs _ _) (hq i)
theorem pi_zipM_K [c : CtxZ X g N k] (hm : g.mg "zip" = none) (hg : ∀ i, Gl (X i) "zip") (hs : NS e) (hq : ∀ i, (backTo pos (starEach [e2] (X i).env)).any (·.1) = false) (i : ι) : PI (X i) (.Tuple elts kk tpos) (.Call (.Name "zip" p) [e, e2] [] pos) (ZE.iZipM g.K (wA X [e, e2])) := by
  rw [← c.K i]; exact ZE.pi_zipM (hg i) ((congrFun (c.mg i) _).trans hm) (wA_ok i) (hs _ _) (hq i)
theorem iZLL [c : CtxZ X g N k] (hm : g.mg "zip" = none) (h : EV X e σ Hb (rL R) (tab n f)) (h2 : EV X e2 σ Hb (rL T) (tab n f2)) (hg : ∀ i, Gl (X i) "zip" := by intro _; rfl) (hs : NS e := by intro _ _; rfl) (hs2 : NS e2 := by intro _ _; rfl) (hq : ∀ i, (backTo pos (starEach [e2] (X i).env)).any (·.1) = false := by intro _; rfl) :
    EI X (.Tuple elts kk tpos) (.Call (.Name "zip" p) [e, e2] [] pos) σ Hb n (fun i v H => (rP R T).r H v (f i, f2 i)) := fun H1 c1 Q q =>
  ⟨_, fun i => pi_zip_K hm hg hs hq i, ac h (ac h2 a0 hs2) hs H1 c1 _ fun vs Hk H2 g1 r0 => by
    obtain ⟨v, u, rfl, ⟨p, xs, rfl, b, r⟩, ⟨p2, xs2, rfl, b2, r2⟩⟩ := AL.two r0
    have hl : xs.length = n := by rw [r.len, tab_len]
    have hl2 : xs2.length = n := by rw [r2.len, tab_len]
    refine ⟨p, p2, xs, xs2, rfl, .inl ⟨SqL.of (g1.on _ _ b), SqL.of (g1.on _ _ b2), q _ Hk H2 g1 (fun i H hi c2 => ⟨xs, xs2, xs[i], xs2[i], SqL.of (c2 _ _ b), SqL.of (c2 _ _ b2), by simp [hl, hi], by simp [hl2, hi]⟩) (fun H c2 => ⟨xs, xs2, SqL.of (c2 _ _ b), SqL.of (c2 _ _ b2), .inl (by omega)⟩) (fun i H x H' hi c2 y => ?_)⟩⟩
    obtain ⟨T', z, w, e1, e2, e3, y, y2⟩ := y
    obtain ⟨z2, hz, rz⟩ := r.get (tab_get hi)
    obtain ⟨w2, hw, rw⟩ := r2.get (tab_get hi)
    have := y xs (SqL.of (c2 _ _ b))
    rw [hz] at this; cases this
    have := y2 xs2 (SqL.of (c2 _ _ b2))
    rw [hw] at this; cases this
    exact yp c2 e1 e2 e3 rz rw⟩
theorem iZTT [c : CtxZ X g N k] (hm : g.mg "zip" = none) (h : EV X e σ Hb (rT R) (tab n f)) (h2 : EV X e2 σ Hb (rT T) (tab n f2)) (hg : ∀ i, Gl (X i) "zip" := by intro _; rfl) (hs : NS e := by intro _ _; rfl) (hs2 : NS e2 := by intro _ _; rfl) (hq : ∀ i, (backTo pos (starEach [e2] (X i).env)).any (·.1) = false := by intro _; rfl) :
    EI X (.Tuple elts kk tpos) (.Call (.Name "zip" p) [e, e2] [] pos) σ Hb n (fun i v H => (rP R T).r H v (f i, f2 i)) := fun H1 c1 Q q =>
  ⟨_, fun i => pi_zip_K hm hg hs hq i, ac h (ac h2 a0 hs2) hs H1 c1 _ fun vs Hk H2 g1 r0 => by
    obtain ⟨v, u, rfl, ⟨p, xs, rfl, b, r⟩, ⟨p2, xs2, rfl, b2, r2⟩⟩ := AL.two r0
    have hl : xs.length = n := by rw [r.len, tab_len]
    have hl2 : xs2.length = n := by rw [r2.len, tab_len]
    refine ⟨p, p2, xs, xs2, rfl, .inr ⟨SqT.of (g1.on _ _ b), SqT.of (g1.on _ _ b2), q _ Hk H2 g1 (fun i H hi c2 => ⟨xs, xs2, xs[i], xs2[i], SqT.of (c2 _ _ b), SqT.of (c2 _ _ b2), by simp [hl, hi], by simp [hl2, hi]⟩) (fun H c2 => ⟨xs, xs2, SqT.of (c2 _ _ b), SqT.of (c2 _ _ b2), .inl (by omega)⟩) (fun i H x H' hi c2 y => ?_)⟩⟩
    obtain ⟨T', z, w, e1, e2, e3, y, y2⟩ := y
    obtain ⟨z2, hz, rz⟩ := r.get (tab_get hi)
    obtain ⟨w2, hw, rw⟩ := r2.get (tab_get hi)
    have := y xs (SqT.of (c2 _ _ b))
    rw [hz] at this; cases this
    have := y2 xs2 (SqT.of (c2 _ _ b2))
    rw [hw] at this; cases this
    exact yp c2 e1 e2 e3 rz rw⟩
theorem iZTL [c : CtxZ X g N k] (hm : g.mg "zip" = none) (h : EV X e σ Hb (rT R) (tab n f)) (h2 : EV X e2 σ Hb (rL T) (tab n f2)) (hg : ∀ i, Gl (X i) "zip" := by intro _; rfl) (hs : NS e := by intro _ _; rfl) (hs2 : NS e2 := by intro _ _; rfl) (hq : ∀ i, (backTo pos (starEach [e2] (X i).env)).any (·.1) = false := by intro _; rfl) :
    EI X (.Tuple elts kk tpos) (.Call (.Name "zip" p) [e, e2] [] pos) σ Hb n (fun i v H => (rP R T).r H v (f i, f2 i)) := fun H1 c1 Q q =>
  ⟨_, fun i => pi_zipM_K hm hg hs hq i, ac h (ac h2 a0 hs2) hs H1 c1 _ fun vs Hk H2 g1 r0 => by
    obtain ⟨v, u, rfl, ⟨p, xs, rfl, b, r⟩, ⟨p2, xs2, rfl, b2, r2⟩⟩ := AL.two r0
    have hl : xs.length = n := by rw [r.len, tab_len]
    have hl2 : xs2.length = n := by rw [r2.len, tab_len]
    refine ⟨p, p2, xs, xs2, rfl, SqT.of (g1.on _ _ b), SqL.of (g1.on _ _ b2), q _ Hk H2 g1 (fun i H hi c2 => ⟨xs, xs2, xs[i], xs2[i], SqT.of (c2 _ _ b), SqL.of (c2 _ _ b2), by simp [hl, hi], by simp [hl2, hi]⟩) (fun H c2 => ⟨xs, xs2, SqT.of (c2 _ _ b), SqL.of (c2 _ _ b2), hl, hl2⟩) (fun i H x H' hi c2 y => ?_)⟩
    obtain ⟨T', z, w, e1, e2, e3, y, y2⟩ := y
    obtain ⟨z2, hz, rz⟩ := r.get (tab_get hi)
    obtain ⟨w2, hw, rw⟩ := r2.get (tab_get hi)
    have := y xs (SqT.of (c2 _ _ b))
    rw [hz] at this; cases this
    have := y2 xs2 (SqL.of (c2 _ _ b2))
    rw [hw] at this; cases this
    exact yp c2 e1 e2 e3 rz rw⟩

/-! targets -/
theorem gn [c : CtxZ X g N k] (j : Nat) {P : L2.St → Hp → Prop} {H : Hp} (q : P (σ.set j (some v)) H) (hN : N[j]? = some x := by rfl) (hx : ∀ i, Loc (X i).env.scope x := by intro _; first | exact .inl rfl | exact .inr rfl)
    (hf : ∀ i, (X i).fn x = true ∨ (X i).env.scope.names.lookup x = some .local := by intro _; first | exact .inl rfl | exact .inr rfl) : wG X (.Name x pos) v σ H P :=
  ⟨_, P, fun i => pg_name (by rw [c.nm i]; exact c.nd) (by rw [c.nm i]; exact hN) (hx i) (hf i), q, fun _ _ z => z⟩
theorem gs0 {P : L2.St → Hp → Prop} {H : Hp} (q : P σ H) : wGs X [] [] σ H P := ⟨_, fun _ => pgs_nil, rfl, q⟩
theorem gsc {P : L2.St → Hp → Prop} {H : Hp} {vs : List V} (q : wG X e v σ H fun σ' H' => wGs X es vs σ' H' P) (hs : ∀ i, (assignEach (e :: es) (X i).env).map (·.2) = assign e (X i).env :: (assignEach es (X i).env).map (·.2) := by intro _; rfl) : wGs X (e :: es) (v :: vs) σ H P :=
  ⟨_, fun i => pgs_cons (wG_ok i) (wGs_ok i) (hs i), v, vs, rfl, q⟩
theorem pg_tup_K [c : CtxZ X g N k] {n : Nat} {kt : Nat} (hn : ∀ i, (assignEach es (X i).env).length = n) (hst : ∀ i, (assignEach es (X i).env).findIdx? (·.1) = none) (i : ι) : PG (X i) (.Tuple es kt pos) (gTup g.K n (wGs X es)) := by
  rw [← c.K i]; exact pg_tup (c.calm i) (wGs_ok i) (hn i) (hst i)
theorem gtu [c : CtxZ X g N k] {P : L2.St → Hp → Prop} {H : Hp} {vs : List V} {p : Addr} {kt : Nat} (h : H p = some (.tup vs)) (q : wGs X es vs σ H P) (hn : ∀ i, (assignEach es (X i).env).length = vs.length := by intro _; rfl) (hst : ∀ i, (assignEach es (X i).env).findIdx? (·.1) = none := by intro _; rfl) :
    wG X (.Tuple es kt pos) (.ref p) σ H P := ⟨_, P, fun i => pg_tup_K hn hst i, ⟨p, vs, rfl, SqT.of h, rfl, q⟩, fun _ _ z => z⟩

/-! comprehensions -/
def ETs {ι : Type} (X : ι → Cx) (es : List Expr) (σ : L2.St) (Hb : Hp) (b : Bool) : Prop := ∀ H1, Ex Hb H1 → ∀ Q : Bool → Hp → Prop, (∀ Hk H2, Go no Hb H1 Hk H2 → Q b H2) → wTs X es σ H1 Q
theorem ts0 : ETs X [] σ Hb true := fun H1 c1 Q q => ⟨_, fun _ => pts_nil, q Hb H1 (Go.refl c1)⟩
theorem ts1 {t : Bool} (h : ET X e σ Hb t) : ETs X [e] σ Hb t := fun H1 c1 Q q => ⟨_, fun i => pts_one (wT_ok i), h H1 c1 Q q⟩
/-- the items so far -/
def got (n : Nat) (f : Nat → Bool) (v : Nat → γ) : List γ := ((List.range n).filter f).map v
theorem got_y {n : Nat} {f : Nat → Bool} {v : Nat → γ} (h : f n = true) : got (n + 1) f v = got n f v ++ [v n] := by simp [got, List.range_succ, List.filter_append, h]
theorem got_n {n : Nat} {f : Nat → Bool} {v : Nat → γ} (h : f n = false) : got (n + 1) f v = got n f v := by simp [got, List.range_succ, List.filter_append, h]
theorem got_le (n : Nat) (f : Nat → Bool) (v : Nat → γ) : (got n f v).length ≤ n := by
  unfold got; rw [List.length_map]; have := List.length_filter_le f (List.range n); simpa using this
theorem got_all (n : Nat) (v : Nat → γ) : got n (fun _ => true) v = tab n v := by
  unfold got tab; rw [List.filter_eq_self.mpr fun _ _ => rfl]
theorem lc_run {S : Rep γ} {ifs : List Expr} {elt : Expr} {scope : Scope} {Y : Nat → V → Hp → Prop} {vs : List Nat} (hi : EI X tg e σ Hb n Y) (f : Nat → Bool) (v : Nat → γ) (hn : n ≤ 1000000)
    (ht : ∀ i x Hk H, i < n → Ex Hb Hk → Ex Hk H → Y i x Hk → wG (bX X scope) tg x (wipe σ vs) H fun σ2 H2 => H2 = H ∧ wipe σ2 vs = wipe σ vs ∧ ETs (bX X scope) ifs σ2 Hk (f i) ∧ (f i = true → EV (bX X scope) elt σ2 Hk S (v i)))
    {H1 : Hp} (c1 : Ex Hb H1) {Q : VK} (q : ∀ D xs Hk H2, H1 D = none → Hk D = none → Go no Hb H1 Hk H2 → H2 D = some (.lst xs) → P2 (S.r Hk) xs (got n f v) → Q (.ref D) H2) :
    tLc (wI X tg e) (wG (bX X scope) tg) (wTs (bX X scope) ifs) (wE (bX X scope) elt) vs σ H1 Q := by
  refine hi H1 c1 _ fun J H0 H2 g1₀ hgo₀ hstop₀ hyld₀ D hD₀ => ?_
  have hD0₀ : H0 D = none := g1₀.on.none hD₀
  -- the invariant
  refine ⟨fun i m₀ H => m₀ = n - i ∧ i ≤ n ∧ ∃ Hl xs, Go no H0 H2 Hl H ∧ Hl D = none ∧ H D = some (.lst xs) ∧ P2 (S.r Hl) xs (got i f v), ⟨n, by simp, Nat.zero_le _, H0, [], Go.newM g1₀.on hD₀, hD0₀, upd_same, by simpa [got] using P2.nil⟩, ?_⟩
  rintro i m₀ H ⟨rfl, hle₀, Hl, xs, gl₀, hl₀, hH₀, hp₀⟩
  have exH₀ : Ex H0 H := gl₀.base.trans gl₀.on
  by_cases hlt : i < n
  · refine .inr ⟨hgo₀ i H hlt exH₀, fun H' => i + 1 ≤ n ∧ ∃ Hl xs, Go no H0 H2 Hl H' ∧ Hl D = none ∧ H' D = some (.lst xs) ∧ P2 (S.r Hl) xs (got (i + 1) f v), fun H' h'₀ => ⟨n - (i + 1), by omega, rfl, h'₀⟩, fun x H' hy₀ => ?_⟩
    obtain ⟨Hm, gm₀, hY₀⟩ := hyld₀ i H x H' hlt exH₀ hy₀
    refine wG_mono (ht i x Hm H' hlt (g1₀.base.trans gm₀.base) gm₀.on hY₀) fun σ2 H3 ⟨eH₀, ew₀, et₀, ee₀⟩ => ⟨ew₀, ?_⟩
    subst eH₀
    have hDm₀ : Hm D = none := gm₀.fr D (some_ne hH₀) hD0₀
    refine et₀ H3 gm₀.on _ fun Hn H4 gn₀ => ?_
    have hDn₀ : Hn D = none := gn₀.fr D (by rw [gm₀.real D _ (fun z₀ => z₀) hH₀]; exact fun z₀ => nomatch z₀) hDm₀
    have hH4₀ : H4 D = some (.lst xs) := gn₀.real D _ (fun z₀ => z₀) (gm₀.real D _ (fun z₀ => z₀) hH₀)
    cases hf : f i with
    | false =>
      rw [if_neg (Bool.false_ne_true)]
      refine ⟨hlt, ovr Hl Hn, xs, gl₀.join (gm₀.trans gn₀) exH₀, by rw [ovr_none hl₀]; exact hDn₀, hH4₀, ?_⟩
      rw [got_n hf]
      exact hp₀.imp fun _ _ => S.up ovr_l
    | true =>
      rw [if_pos rfl]
      refine (ee₀ hf).mono gn₀.base H4 gn₀.on _ fun w₀ Hp H5 gp₀ rw'₀ => ?_
      have hDp₀ : Hp D = none := gp₀.fr D (some_ne hH4₀) hDn₀
      have hH5₀ : H5 D = some (.lst xs) := gp₀.real D _ (fun z₀ => z₀) hH4₀
      have gA₀ := gl₀.join ((gm₀.trans gn₀).trans gp₀) exH₀
      have hDA₀ : ovr Hl Hp D = none := by rw [ovr_none hl₀]; exact hDp₀
      have exA₀ : Ex Hp (ovr Hl Hp) := gl₀.join_r ((gm₀.trans gn₀).trans gp₀)
      refine ⟨xs, hH5₀, ?_, hlt, ovr Hl Hp, xs ++ [w₀], gA₀.wr (.inr hD₀) hDA₀, hDA₀, upd_same, ?_⟩
      · have := hp₀.len; have := got_le i f v; have : (1000000 : Nat) < sizeLine := by decide
        omega
      · rw [got_y hf]
        exact (hp₀.imp fun _ _ => S.up ovr_l).snoc (S.up exA₀ rw'₀)
  · have e : i = n := by omega
    subst e
    refine .inl ⟨hstop₀ H exH₀, ?_⟩
    exact q D xs Hl H (g1₀.ex.none hD₀) hl₀ (g1₀.trans gl₀) hH₀ hp₀
/-- the end of it as a value -/
theorem lc_end {S : Rep γ} {l : List γ} {H1 : Hp} {Q : VK} (q : ∀ w Hk H2, Go no Hb H1 Hk H2 → (rL S).r Hk w l → Q w H2) : ∀ D xs Hk H2, H1 D = none → Hk D = none → Go no Hb H1 Hk H2 → H2 D = some (.lst xs) → P2 (S.r Hk) xs l → Q (.ref D) H2 :=
  fun D xs Hk H2 h1 h2 g1 h3 hp => q _ (upd Hk D (.lst xs)) H2 (g1.fix h1 h3 h2) ⟨D, xs, rfl, upd_same, hp.imp fun _ _ => S.up (Ex.new h2)⟩
theorem blk_hs (scope : Scope) {P : Cx → Prop} (h : ∀ q : BI ι, P (bX X scope q)) (i : ι) (s : Shared) (H : Hp) (C : Addr) (cl : List (Str × Addr)) (fp : List Addr) : P ((X i).blk s H scope (compEnvC scope cl C (X i).env) fp) := h (i, s, H, C, cl, fp)
theorem pe_lc_K [c : CtxZ X g N k] {ifs : List Expr} {elt : Expr} {scope : Scope} (own : List (Str × Nat)) (ok : ∀ i, BlkOk N (X i).env.scope scope own) (hs : ∀ i x, foldedSetIterable e (X i).env x = pure x) (i : ι) :
    PE (X i) (.ListComp elt [⟨tg, e, ifs, 0⟩] scope pos) (tLc (wI X tg e) (wG (bX X scope) tg) (wTs (bX X scope) ifs) (wE (bX X scope) elt) (own.map (·.2))) :=
  pe_lc (c.calm i) (by rw [c.nm i]; exact c.nd) (wI_ok i) (by rw [c.nm i]; exact ok i) (blk_hs (P := fun Y => PG Y tg (wG (bX X scope) tg)) scope (fun q => wG_ok q) i) (blk_hs (P := fun Y => PTs Y ifs (wTs (bX X scope) ifs)) scope (fun q => wTs_ok q) i) (blk_hs (P := fun Y => PE Y elt (wE (bX X scope) elt)) scope (fun q => wE_ok q) i) (hs i)
/-- [elt for tg in e if ..] -/
theorem lcf [c : CtxZ X g N k] {S : Rep γ} {ifs : List Expr} {elt : Expr} {scope : Scope} {Y : Nat → V → Hp → Prop} (own : List (Str × Nat)) (hi : EI X tg e σ Hb n Y) (f : Nat → Bool) (v : Nat → γ) (hn : n ≤ 1000000)
    (ht : ∀ i x Hk H, i < n → Ex Hb Hk → Ex Hk H → Y i x Hk → wG (bX X scope) tg x (wipe σ (own.map (·.2))) H fun σ2 H2 => H2 = H ∧ wipe σ2 (own.map (·.2)) = wipe σ (own.map (·.2)) ∧ ETs (bX X scope) ifs σ2 Hk (f i) ∧ (f i = true → EV (bX X scope) elt σ2 Hk S (v i)))
    (ok : ∀ i, BlkOk N (X i).env.scope scope own := by intro _; exact blkOk_by (by kernel_rfl)) (hs : ∀ i x, foldedSetIterable e (X i).env x = pure x := by intro _ _; rfl) :
    EV X (.ListComp elt [⟨tg, e, ifs, 0⟩] scope pos) σ Hb (rL S) (got n f v) := fun H1 c1 Q q =>
  ⟨_, fun i => pe_lc_K own ok hs i, lc_run hi f v hn ht c1 (lc_end q)⟩
theorem lc [c : CtxZ X g N k] {S : Rep γ} {elt : Expr} {scope : Scope} {Y : Nat → V → Hp → Prop} (own : List (Str × Nat)) (hi : EI X tg e σ Hb n Y) (v : Nat → γ) (hn : n ≤ 1000000)
    (ht : ∀ i x Hk H, i < n → Ex Hb Hk → Ex Hk H → Y i x Hk → wG (bX X scope) tg x (wipe σ (own.map (·.2))) H fun σ2 H2 => H2 = H ∧ wipe σ2 (own.map (·.2)) = wipe σ (own.map (·.2)) ∧ EV (bX X scope) elt σ2 Hk S (v i))
    (ok : ∀ i, BlkOk N (X i).env.scope scope own := by intro _; exact blkOk_by (by kernel_rfl)) (hs : ∀ i x, foldedSetIterable e (X i).env x = pure x := by intro _ _; rfl) :
    EV X (.ListComp elt [⟨tg, e, [], 0⟩] scope pos) σ Hb (rL S) (tab n v) := by
  rw [← got_all]
  exact lcf own hi (fun _ => true) v hn (fun i x Hk H h1 h2 h3 h4 => wG_mono (ht i x Hk H h1 h2 h3 h4) fun _ _ ⟨a, b, d⟩ => ⟨a, b, ts0, fun _ => d⟩) ok hs
end

/-! ### statements -/
section
variable {X : Cx} {g : W5} {N : List Str} {k : Nat} {α β γ : Type} {R : Rep α} {T : Rep β} {σ : L2.St} {H Hb Hc : Hp} {a : α} {b : β} {v : V} {e e1 e2 tg : Expr} {es : List Expr} {pos p tpos : Pos} {x : Str} {Φ Φ' : V → Hp → Prop} {n : Nat} {D : Ends} {st : Stmt} {sts rest : List Stmt}
theorem s_cons (h : wS X st { D with nx := wSs X rest D } σ H) : wSs X (st :: rest) D σ H := ⟨_, pss_cons wS_ok wSs_ok, h⟩
theorem s_nil (h : D.nx σ H) : wSs X [] D σ H := ⟨_, pss_nil, h⟩
theorem s_one (h : wS X st D σ H) : wSs X [st] D σ H := ⟨_, pss_one wS_ok, h⟩
theorem s_never (h : False) : wSs X sts D σ H := h.elim
theorem w_never (h : False) : wS X st D σ H := h.elim
theorem s_set [c : CtxZ (u1 X) g N k] (j : Nat) (h : EP (u1 X) e σ Hb Φ) (cx : Ex Hb H) (q : ∀ v Hk H2, Go no Hb H Hk H2 → Φ v Hk → D.nx (σ.set j (some v)) H2) {pos' : Pos}
    (hN : N[j]? = some x := by rfl) (hx : Loc X.env.scope x := by first | exact .inl rfl | exact .inr rfl) (hs : swapsWith e (some (.Name x pos')) pos.line X.env = pure false := by rfl) (hf : X.fn x = true ∨ X.env.scope.names.lookup x = some .local := by first | exact .inl rfl | exact .inr rfl) :
    wS X (.Assign [.Name x pos'] e pos) D σ H :=
  ⟨_, ps_set (i := j) (by have := c.nm (); rw [show X.N = N from this]; exact c.nd) (by have := c.nm (); rw [show X.N = N from this]; exact hN) hx (wE_ok (X := u1 X) ()) hs hf, h H cx _ q⟩
/-- the same, by the value's wp -/
theorem s_setw [c : CtxZ (u1 X) g N k] (j : Nat) (h : wE (u1 X) e σ H fun v H2 => D.nx (σ.set j (some v)) H2) {pos' : Pos}
    (hN : N[j]? = some x := by rfl) (hx : Loc X.env.scope x := by first | exact .inl rfl | exact .inr rfl) (hs : swapsWith e (some (.Name x pos')) pos.line X.env = pure false := by rfl) (hf : X.fn x = true ∨ X.env.scope.names.lookup x = some .local := by first | exact .inl rfl | exact .inr rfl) :
    wS X (.Assign [.Name x pos'] e pos) D σ H :=
  ⟨_, ps_set (i := j) (by have := c.nm (); rw [show X.N = N from this]; exact c.nd) (by have := c.nm (); rw [show X.N = N from this]; exact hN) hx (wE_ok (X := u1 X) ()) hs hf, h⟩
/-- name = [elt for ..] -/
theorem s_setLc [c : CtxZ (u1 X) g N k] {S : Rep γ} {elt : Expr} {ifs : List Expr} {scope : Scope} {Y : Nat → V → Hp → Prop} (j : Nat) (own : List (Str × Nat)) (hi : EI (u1 X) tg e σ Hb n Y) (f : Nat → Bool) (v : Nat → γ) (hn : n ≤ 1000000) (cx : Ex Hb H)
    (ht : ∀ i x Hk H, i < n → Ex Hb Hk → Ex Hk H → Y i x Hk → wG (bX (u1 X) scope) tg x (wipe σ (own.map (·.2))) H fun σ2 H2 => H2 = H ∧ wipe σ2 (own.map (·.2)) = wipe σ (own.map (·.2)) ∧ ETs (bX (u1 X) scope) ifs σ2 Hk (f i) ∧ (f i = true → EV (bX (u1 X) scope) elt σ2 Hk S (v i)))
    (q : ∀ w Hk H2, Go no Hb H Hk H2 → (rL S).r Hk w (got n f v) → D.nx (σ.set j (some w)) H2) {pos' spos : Pos}
    (hN : N[j]? = some x := by rfl) (hyl : X.env.scope.names.lookup x = some .local := by rfl) (hsw : swapsWith (.ListComp elt [⟨tg, e, ifs, 0⟩] scope pos) (some (.Name x pos')) spos.line X.env = pure true := by exact sw_true rfl rfl rfl (by kernel_rfl))
    (ok : BlkOk N X.env.scope scope own := by exact blkOk_by (by kernel_rfl)) (hs : ∀ x, foldedSetIterable e X.env x = pure x := by intro _; rfl) :
    wS X (.Assign [.Name x pos'] (.ListComp elt [⟨tg, e, ifs, 0⟩] scope pos) spos) D σ H := by
  have hn0 : X.N = N := c.nm ()
  exact ⟨_, ps_setLc (i := j) (c.calm ()) (by rw [hn0]; exact c.nd) (by rw [hn0]; exact hN) hyl hsw (wI_ok (X := u1 X) ()) (by rw [hn0]; exact ok) (blk_hs (X := u1 X) (P := fun Y => PG Y tg (wG (bX (u1 X) scope) tg)) scope (fun q => wG_ok q) ()) (blk_hs (X := u1 X) (P := fun Y => PTs Y ifs (wTs (bX (u1 X) scope) ifs)) scope (fun q => wTs_ok q) ()) (blk_hs (X := u1 X) (P := fun Y => PE Y elt (wE (bX (u1 X) scope) elt)) scope (fun q => wE_ok q) ()) hs,
    lc_run hi f v hn ht cx (lc_end q)⟩
theorem s_asg (h : EP (u1 X) e σ Hb Φ) (cx : Ex Hb H) (q : ∀ v Hk H2, Go no Hb H Hk H2 → Φ v Hk → wG (u1 X) tg v σ H2 D.nx) (hs : swapsWithSole [tg] e pos.line X.env = pure false := by rfl) (hw : swappedStores [tg] e X.env = pure none := by rfl)
    (h1 : (assignEach [tg] X.env).map (·.2) = [assign tg X.env] := by rfl) : wS X (.Assign [tg] e pos) D σ H :=
  ⟨_, ps_asg (wE_ok (X := u1 X) ()) (wG_ok (X := u1 X) ()) hs hw h1, h H cx _ q⟩
theorem s_asgw (h : wE (u1 X) e σ H fun v H2 => wG (u1 X) tg v σ H2 D.nx) (hs : swapsWithSole [tg] e pos.line X.env = pure false := by rfl) (hw : swappedStores [tg] e X.env = pure none := by rfl)
    (h1 : (assignEach [tg] X.env).map (·.2) = [assign tg X.env] := by rfl) : wS X (.Assign [tg] e pos) D σ H :=
  ⟨_, ps_asg (wE_ok (X := u1 X) ()) (wG_ok (X := u1 X) ()) hs hw h1, h⟩
theorem s_ret (h : EP (u1 X) e σ Hb Φ) (cx : Ex Hb H) (q : ∀ v Hk H2, Go no Hb H Hk H2 → Φ v Hk → D.rt v H2) : wS X (.Return (some e) pos) D σ H := ⟨_, ps_ret (wE_ok (X := u1 X) ()), h H cx _ q⟩
theorem s_retw (h : wE (u1 X) e σ H D.rt) : wS X (.Return (some e) pos) D σ H := ⟨_, ps_ret (wE_ok (X := u1 X) ()), h⟩
theorem s_expr (h : EP (u1 X) e σ Hb Φ) (cx : Ex Hb H) (q : ∀ v Hk H2, Go no Hb H Hk H2 → Φ v Hk → D.nx σ H2) (hs : swapsWith e none pos.line X.env = pure false := by rfl) : wS X (.Expr e pos) D σ H := ⟨_, ps_expr (wE_ok (X := u1 X) ()) hs, h H cx _ q⟩
theorem s_exprw (h : wE (u1 X) e σ H fun _ H2 => D.nx σ H2) (hs : swapsWith e none pos.line X.env = pure false := by rfl) : wS X (.Expr e pos) D σ H := ⟨_, ps_expr (wE_ok (X := u1 X) ()) hs, h⟩
theorem s_if {t : Bool} {as bs : List Stmt} (h : ET (u1 X) e σ Hb t) (cx : Ex Hb H) (h1 : t = true → ∀ Hk H2, Go no Hb H Hk H2 → wSs X as D σ H2) (h2 : t = false → ∀ Hk H2, Go no Hb H Hk H2 → wSs X bs D σ H2) : wS X (.If e as bs pos) D σ H :=
  ⟨_, ps_if (wT_ok (X := u1 X) ()) wSs_ok wSs_ok, h H cx _ fun Hk H2 g1 => by
    cases t with
    | true => exact h1 rfl Hk H2 g1
    | false => exact h2 rfl Hk H2 g1⟩
theorem s_ifw {as bs : List Stmt} (h : wT (u1 X) e σ H fun t H2 => if t = true then wSs X as D σ H2 else wSs X bs D σ H2) : wS X (.If e as bs pos) D σ H := ⟨_, ps_if (wT_ok (X := u1 X) ()) wSs_ok wSs_ok, h⟩
theorem s_for [c : CtxZ (u1 X) g N k] {body : List Stmt} {Y : Nat → V → Hp → Prop} (hi : EI (u1 X) tg e σ Hb n Y) (cx : Ex Hb H) (Pv : Hp → Nat → L2.St → Hp → Prop) (h0 : ∀ Hk H2, Go no Hb H Hk H2 → Pv Hk 0 σ H2) (hG : ∀ Hk i σ' H', Ex Hb Hk → Pv Hk i σ' H' → Ex Hk H')
    (hs : ∀ Hk i σ' H' v Hl H2, Ex Hb Hk → i < n → Pv Hk i σ' H' → Go no Hk H' Hl H2 → Y i v Hl → wG (u1 X) tg v σ' H2 fun σ2 H3 => wSs X body { D with nx := Pv Hk (i + 1), ct := Pv Hk (i + 1), bk := D.nx } σ2 H3) (hd : ∀ Hk σ' H', Ex Hb Hk → Pv Hk n σ' H' → D.nx σ' H')
    (hp : PassesOwn (model X.prog X.w) X.A X.env X.xe := by exact PassesOwn.never) (hf : ∀ x, foldedSetIterable e X.env x = pure x := by intro _; rfl) : wS X (.For tg e body [] pos) D σ H :=
  ⟨_, ps_for hp (c.calm ()) (wI_ok (X := u1 X) ()) (wG_ok (X := u1 X) ()) wSs_ok hf, hi H cx _ fun J Hk H2 g1 hgo hstop hyld => ⟨fun i m σ' H' => m = n - i ∧ i ≤ n ∧ Pv Hk i σ' H', ⟨n, by simp, Nat.zero_le _, h0 Hk H2 g1⟩, by
    rintro i m σ' H' ⟨rfl, hle, hP⟩
    have ex := hG Hk i σ' H' g1.base hP
    by_cases hlt : i < n
    · exact .inr ⟨hgo i H' hlt ex, Pv Hk (i + 1), fun σ2 H3 q => ⟨n - (i + 1), by omega, rfl, hlt, q⟩, fun v H3 hy => by
        obtain ⟨Hl, gl, hY⟩ := hyld i H' v H3 hlt ex hy
        exact hs Hk i σ' H' v Hl H3 g1.base hlt hP gl hY⟩
    · have e : i = n := by omega
      subst e
      exact .inl ⟨hstop H' ex, hd Hk σ' H' g1.base hP⟩⟩⟩
theorem s_while {body : List Stmt} (Pv : Nat → L2.St → Hp → Prop) (h0 : ∃ m, Pv m σ H)
    (hs : ∀ m σ' H', Pv m σ' H' → wT (u1 X) e σ' H' fun t H2 => if t = true then wSs X body { D with nx := fun σ2 H3 => ∃ m', m' < m ∧ Pv m' σ2 H3, ct := fun σ2 H3 => ∃ m', m' < m ∧ Pv m' σ2 H3, bk := D.nx } σ' H2 else D.nx σ' H2)
    (hp : PassesOwn (model X.prog X.w) X.A X.env X.xe := by exact PassesOwn.never) : wS X (.While e body [] pos) D σ H :=
  ⟨tWhile (fun σ H Q => ∃ Q0, wT (u1 X) e σ H Q0 ∧ ∀ b H', Q0 b H' → Q b H') (wSs X body), ps_while hp ⟨fun pins s σ H Q I ⟨Q0, h, hq⟩ => thn ((wT_ok (X := u1 X) ()).run pins s σ H Q0 I h) fun b s' ⟨H', I', q⟩ => ⟨H', I', hq b H' q⟩⟩ wSs_ok, Pv, h0, fun m σ' H' hP => ⟨_, hs m σ' H' hP, fun b H2 q => by
    cases b with
    | true => exact ⟨_, fun _ _ z => z, q⟩
    | false => exact q⟩⟩
end

/-! ### defs -/
abbrev DefOf (g : W5) (x : Str) (st : Stmt) : Prop := ∃ f fd, FunD g.K x x (defArgs st) (defBody st) (defScope st) [] [] f fd ∧ g.mg x = some (.ref f)
/-- no name of these is one of the two odd ones -/
def namesOk (N : List Str) : Bool := N.all fun x => !(x == ("__debug__" : Str)) && !(x == ("__classdict__" : Str))
theorem namesOk_ok {N : List Str} (h : namesOk N = true) : ∀ x ∈ N, (x == ("__debug__" : Str)) = false ∧ (x == ("__classdict__" : Str)) = false := fun x hx => by
  have := List.all_eq_true.mp h x hx
  simpa using this
theorem def_ok {g : W5} {x : Str} {st : Stmt} {N ps : List Str} {k : Nat} {sp : Sp} (D : DefOf g x st) (S : FnScope N ps (defScope st)) (dbg : namesOk N = true) (len : ∀ vs H Q E, sp vs H Q E → vs.length = ps.length)
    (hb : ∀ (kV doc pm : Value) (an : Option Addr) (cdv ct : Value) (us : List Value), us.length = ps.length → bindArgs (PySem.W.fnOf x x (defArgs st) (defBody st) (defScope st) .none kV doc pm an cdv ct) ⟨us, []⟩ = pure (ps.zip us))
    (hbody : ∀ (f : Addr) (cdv : Value) (A : Around) (outer : List Env) (s : Shared) (H : Hp) (vs : List V) (Q : VK) (E : XK), CtxZ (u1 (cxOf CX0 g.P g.w g.K g.mg g.base N x (defScope st) f cdv A outer s H E).nox) g N k → sp vs H Q E →
      wSs (cxOf CX0 g.P g.w g.K g.mg g.base N x (defScope st) f cdv A outer s H E).nox (defBody st) { nx := fun _ H' => Q .non H', rt := Q } (start N vs) H) : FnB g CX0 (k + 1) x ps [] sp := by
  obtain ⟨f, fd, F, hm⟩ := D
  refine ⟨⟨f, fd, [], hm, F.kp, F.bindsN hb, .nil, F.ok S len fun cdv A outer s H vs Q E hr h => ?_⟩, fun X h1 h2 => pass0⟩
  obtain ⟨t, ht, hq⟩ := hbody f cdv A outer s H vs Q E ⟨fun _ => rfl, fun _ => rfl, fun _ => rfl, fun _ => rfl, fun _ => rfl, fun _ => rfl, S.nd, fun _ => rfl, fun _ => hr, namesOk_ok dbg⟩ h
  exact ⟨t, ht.nox, hq⟩
theorem len_of {τ : Type} {args : τ → AL} {pre : τ → Prop} {post : τ → V → Hp → Prop} {n : Nat} (h : ∀ t H vs, (args t).r H vs → vs.length = n) : ∀ vs H Q E, spF args pre post vs H Q E → vs.length = n := fun vs H Q E ⟨t, Hb, _, r, _⟩ => h t Hb vs r
end Z
/-! Z3: new lists, matrices that change, stores. -/
namespace Z
open PySem.Spec PySem PyProof.Rows L2
/-- a new list of ints -/
def EN {ι : Type} (X : ι → Cx) (e : Expr) (σ : L2.St) (Hb : Hp) (l : List Int) : Prop := ∀ H1, Ex Hb H1 → ∀ Q : VK, (∀ p H2, H1 p = none → Ex H1 H2 → H2 p = some (.lst (l.map .int)) → Q (.ref p) H2) → wE X e σ H1 Q
/-- a matrix: its list at p, the rows at as, all apart -/
structure Mx (H : Hp) (p : Addr) (as : List Addr) (n : Nat) (f : Nat → Nat → Int) : Prop where
  len : as.length = n
  nd : as.Nodup
  out : p ∉ as
  top : H p = some (.lst (as.map .ref))
  row : ∀ i a, as[i]? = some a → H a = some (.lst ((tab n (f i)).map .int))
/-- a new matrix -/
def EM {ι : Type} (X : ι → Cx) (e : Expr) (σ : L2.St) (Hb : Hp) (n : Nat) (f : Nat → Nat → Int) : Prop := ∀ H1, Ex Hb H1 → ∀ Q : VK, (∀ p as H2, (∀ b ∈ p :: as, H1 b = none) → Ex H1 H2 → Mx H2 p as n f → Q (.ref p) H2) → wE X e σ H1 Q
theorem Go.ofEx {Hb H1 H2 : Hp} (c : Ex Hb H1) (e : Ex H1 H2) : Go no Hb H1 Hb H2 := ⟨fun b o _ h => e b o h, fun b h z => h (e.none z), Ex.refl _, c.trans e, fun _ _ z => z⟩
section
variable {ι : Type} {X : ι → Cx} {g : W5} {N : List Str} {k : Nat} {α β γ : Type} {R : Rep α} {T : Rep β} {σ : L2.St} {Hb Hc : Hp} {a : α} {b : β} {v : V} {e e1 e2 tg : Expr} {es : List Expr} {pos p tpos : Pos} {x : Str} {n m : Nat} {f : Nat → Nat → Int} {l : List Int}
theorem EN.mono (h : EN X e σ Hb l) (c : Ex Hb Hc) : EN X e σ Hc l := fun H1 e1 Q q => h H1 (c.trans e1) Q q
theorem EN.ev (h : EN X e σ Hb l) : EV X e σ Hb (rL rInt) l := fun H1 c1 Q q => h H1 c1 Q fun p H2 hp ex hq =>
  q _ _ H2 ((Go.ofEx c1 ex).fix hp hq (c1.none hp)) ⟨p, _, rfl, upd_same, P2.ofInts l⟩
theorem Mx.mono {H H' : Hp} {p : Addr} {as : List Addr} (h : Mx H p as n f) (e : Ex H H') : Mx H' p as n f := ⟨h.len, h.nd, h.out, e _ _ h.top, fun i a ha => e _ _ (h.row i a ha)⟩
theorem Mx.rep {H : Hp} {p : Addr} {as : List Addr} (h : Mx H p as n f) : (rL (rL rInt)).r H (.ref p) (tab n fun x => tab n (f x)) := by
  refine ⟨p, _, rfl, h.top, ?_⟩
  have key : ∀ (bs : List Addr) (o : Nat), (∀ i a, bs[i]? = some a → H a = some (.lst ((tab n (f (o + i))).map .int))) → P2 ((rL rInt).r H) (bs.map V.ref) ((List.range bs.length).map fun i => tab n (f (o + i))) := by
    intro bs
    induction bs with
    | nil => intro o _; exact .nil
    | cons b bs ih =>
      intro o hr
      rw [List.length_cons, List.range_succ_eq_map, List.map_cons, List.map_cons, List.map_map]
      refine .cons ?_ ?_
      · exact rInt.mkL (hr 0 b rfl)
      · have := ih (o + 1) fun i a ha => by
          have := hr (i + 1) a (by simpa using ha)
          rwa [show o + (i + 1) = o + 1 + i by omega] at this
        have e : (List.range bs.length).map ((fun i => tab n (f (o + i))) ∘ Nat.succ) = (List.range bs.length).map fun i => tab n (f (o + 1 + i)) := by
          apply List.map_congr_left
          intro i _
          show tab n (f (o + (i + 1))) = _
          rw [show o + (i + 1) = o + 1 + i by omega]
        rw [e]; exact this
  have := key as 0 fun i a ha => by rw [Nat.zero_add]; exact h.row i a ha
  rw [h.len] at this
  simpa [tab] using this
/-- list(line): new -/
theorem toListN [c : CtxZ X g N k] {S : Rep (List Int)} [hS : IsS S rInt] (hm : g.mg "list" = none) (h : EV X e σ Hb S l) (hg : ∀ i, Gl (X i) "list" := by intro _; rfl) (hs : NS e := by intro _ _; rfl)
    (hpl : ∀ i, (backTo pos (starEach [] (X i).env)).any (·.1) = false := by intro _; rfl) : EN X (.Call (.Name "list" p) [e] [] pos) σ Hb l := fun H1 c1 Q q =>
  ⟨_, fun i => pe_callTy (list_K i) (hg i) ((congrFun (c.mg i) _).trans hm) (by decide +kernel) (wA_ok i) (by decide) (by decide) (hs _ _) (hpl i), ac h a0 hs H1 c1 _ fun vs Hk H2 g1 r => by
    obtain ⟨v, rfl, r1⟩ := AL.one r
    obtain ⟨p, xs, rfl, b, r2⟩ := hS.to _ _ _ r1
    have := P2.ints r2
    subst this
    exact ⟨p, _, rfl, b.elim (fun b => .inl (SqL.of (g1.on _ _ b))) (fun b => .inr (SqT.of (g1.on _ _ b))), fun m hm => q m _ (g1.ex.none hm) (g1.ex.trans (Ex.new hm)) upd_same⟩⟩
/-- a new list of ints by a comprehension -/
theorem lcN [c : CtxZ X g N k] {elt : Expr} {scope : Scope} {Y : Nat → V → Hp → Prop} (own : List (Str × Nat)) (hi : EI X tg e σ Hb n Y) (v : Nat → Int) (hn : n ≤ 1000000)
    (ht : ∀ i x Hk H, i < n → Ex Hb Hk → Ex Hk H → Y i x Hk → wG (bX X scope) tg x (wipe σ (own.map (·.2))) H fun σ2 H2 => H2 = H ∧ wipe σ2 (own.map (·.2)) = wipe σ (own.map (·.2)) ∧ EV (bX X scope) elt σ2 Hk rInt (v i))
    (ok : ∀ i, BlkOk N (X i).env.scope scope own := by intro _; exact blkOk_by (by kernel_rfl)) (hs : ∀ i x, foldedSetIterable e (X i).env x = pure x := by intro _ _; rfl) :
    EN X (.ListComp elt [⟨tg, e, [], 0⟩] scope pos) σ Hb (tab n v) := fun H1 c1 Q q =>
  ⟨_, fun i => pe_lc_K own ok hs i, lc_run hi (fun _ => true) v hn (fun i x Hk H h1 h2 h3 h4 => wG_mono (ht i x Hk H h1 h2 h3 h4) fun _ _ ⟨a, b, d⟩ => ⟨a, b, ts0, fun _ => d⟩) c1 fun D xs Hk H2 h1 h2 g1 h3 hp => by
    rw [got_all] at hp
    have := P2.ints hp
    subst this
    exact q D H2 h1 g1.ex h3⟩
/-- a new matrix by a comprehension of new lists -/
theorem lcM_run {elt : Expr} {scope : Scope} {Y : Nat → V → Hp → Prop} {vs : List Nat} (hi : EI X tg e σ Hb n Y) (hn : n ≤ 1000000)
    (ht : ∀ i x Hk H, i < n → Ex Hb Hk → Ex Hk H → Y i x Hk → wG (bX X scope) tg x (wipe σ vs) H fun σ2 H2 => H2 = H ∧ wipe σ2 vs = wipe σ vs ∧ EN (bX X scope) elt σ2 Hk (tab n (f i)))
    {H1 : Hp} (c1 : Ex Hb H1) {Q : VK} (q : ∀ p as H2, (∀ b ∈ p :: as, H1 b = none) → Ex H1 H2 → Mx H2 p as n f → Q (.ref p) H2) :
    tLc (wI X tg e) (wG (bX X scope) tg) (wTs (bX X scope) []) (wE (bX X scope) elt) vs σ H1 Q := by
  refine hi H1 c1 _ fun J H0 H2 g1 hgo hstop hyld D hD => ?_
  have hD0 : H0 D = none := g1.on.none hD
  refine ⟨fun i m H => m = n - i ∧ i ≤ n ∧ ∃ as : List Addr, Ex H2 H ∧ H D = some (.lst (as.map .ref)) ∧ as.length = i ∧ as.Nodup ∧ (∀ a ∈ as, a ≠ D ∧ H2 a = none ∧ H a ≠ none) ∧ ∀ j a, as[j]? = some a → H a = some (.lst ((tab n (f j)).map .int)),
    ⟨n, by simp, Nat.zero_le _, [], Ex.new hD, upd_same, rfl, List.nodup_nil, by simp, by simp⟩, ?_⟩
  rintro i m H ⟨rfl, hle, as, ex, hH, hl, hnd, hfr, hrow⟩
  have exH : Ex H0 H := g1.on.trans ex
  by_cases hlt : i < n
  · refine .inr ⟨hgo i H hlt exH, fun H' => i + 1 ≤ n ∧ ∃ as : List Addr, Ex H2 H' ∧ H' D = some (.lst (as.map .ref)) ∧ as.length = i + 1 ∧ as.Nodup ∧ (∀ a ∈ as, a ≠ D ∧ H2 a = none ∧ H' a ≠ none) ∧ ∀ j a, as[j]? = some a → H' a = some (.lst ((tab n (f j)).map .int)),
      fun H' h' => ⟨n - (i + 1), by omega, rfl, h'⟩, fun x H' hy => ?_⟩
    obtain ⟨Hm, gm, hY⟩ := hyld i H x H' hlt exH hy
    refine wG_mono (ht i x Hm H' hlt (g1.base.trans gm.base) gm.on hY) fun σ2 H3 ⟨eH, ew, ee⟩ => ⟨ew, ?_⟩
    subst eH
    refine ts0 (σ := σ2) H3 gm.on _ fun Hn H4 gn => ?_
    rw [if_pos rfl]
    have e34 : Ex H3 H4 := gn.ex
    refine (ee.mono gn.base) H4 gn.on _ fun p H5 hp e45 hq => ?_
    have e5 : Ex H H5 := (gm.ex.trans e34).trans e45
    have hpH : H p = none := (gm.ex.trans e34).none hp
    refine ⟨as.map .ref, e5 _ _ hH, Nat.lt_of_lt_of_le (by rw [List.length_map, hl]; exact hlt) (Nat.le_trans hn (by decide)), hlt, as ++ [p], ?_, ?_, by simp [hl], ?_, ?_, ?_⟩
    · exact (ex.trans e5).mut hD
    · rw [upd_same]; simp
    · rw [List.nodup_append]
      refine ⟨hnd, by simp, fun a ha b hb z => ?_⟩
      rw [List.mem_singleton.1 hb] at z
      rw [z] at ha
      exact (hfr p ha).2.2 hpH
    · intro b hb
      rcases List.mem_append.1 hb with hb | hb
      · refine ⟨(hfr b hb).1, (hfr b hb).2.1, ?_⟩
        rw [upd_ne (hfr b hb).1]
        exact fun z => (hfr b hb).2.2 (e5.none z)
      · rw [List.mem_singleton.1 hb]
        have hpD : p ≠ D := fun z => by rw [z, hH] at hpH; cases hpH
        exact ⟨hpD, ex.none hpH, by rw [upd_ne hpD, hq]; exact fun z => nomatch z⟩
    · intro j b hb
      by_cases hj : j < as.length
      · rw [List.getElem?_append_left hj] at hb
        rw [upd_ne (hfr b (List.mem_of_getElem? hb)).1]
        exact e5 _ _ (hrow j b hb)
      · have : j = i := by
          have := (List.getElem?_eq_some_iff.mp hb).1
          simp at this; omega
        subst this
        rw [List.getElem?_append_right (by omega)] at hb
        simp [hl] at hb
        subst hb
        have hpD : p ≠ D := fun z => by rw [z, hH] at hpH; cases hpH
        rw [upd_ne hpD]; exact hq
  · have e : i = n := by omega
    subst e
    refine .inl ⟨hstop H exH, q D as H (fun b hb => ?_) (g1.ex.trans ex) ⟨hl, hnd, fun z => (hfr D z).1 rfl, hH, hrow⟩⟩
    rcases List.mem_cons.1 hb with z | z
    · rw [z]; exact g1.ex.none hD
    · exact g1.ex.none (hfr b z).2.1
theorem lcM [c : CtxZ X g N k] {elt : Expr} {scope : Scope} {Y : Nat → V → Hp → Prop} (own : List (Str × Nat)) (hi : EI X tg e σ Hb n Y) (hn : n ≤ 1000000)
    (ht : ∀ i x Hk H, i < n → Ex Hb Hk → Ex Hk H → Y i x Hk → wG (bX X scope) tg x (wipe σ (own.map (·.2))) H fun σ2 H2 => H2 = H ∧ wipe σ2 (own.map (·.2)) = wipe σ (own.map (·.2)) ∧ EN (bX X scope) elt σ2 Hk (tab n (f i)))
    (ok : ∀ i, BlkOk N (X i).env.scope scope own := by intro _; exact blkOk_by (by kernel_rfl)) (hs : ∀ i x, foldedSetIterable e (X i).env x = pure x := by intro _ _; rfl) :
    EM X (.ListComp elt [⟨tg, e, [], 0⟩] scope pos) σ Hb n f := fun H1 c1 Q q => ⟨_, fun i => pe_lc_K own ok hs i, lcM_run hi hn ht c1 q⟩
/-- a def that hands back a new matrix -/
def spM {τ : Type} (args : τ → AL) (pre : τ → Prop) (n : τ → Nat) (f : τ → Nat → Nat → Int) : Sp := fun vs H1 Q _ => ∃ (t : τ) (Hb : Hp), Ex Hb H1 ∧ (args t).r Hb vs ∧ pre t ∧ ∀ p as H2, (∀ b ∈ p :: as, H1 b = none) → Ex H1 H2 → Mx H2 p as (n t) (f t) → Q (.ref p) H2
theorem callM [c : CtxZ X g N k] {CX : CXT} {k' : Nat} {ps : List Str} {τ : Type} {args : τ → AL} {pre : τ → Prop} {n : τ → Nat} {f : τ → Nat → Nat → Int} {L : AL} (F : FnB g CX k' x ps [] (spM args pre n f)) (t : τ) (ha : EL X (e :: es) σ Hb L) (hL : args t = L := by rfl) (hp : pre t := by trivial) (hk : k' ≤ k := by decide)
    (hg : ∀ i, Gl (X i) x := by intro _; rfl) (hdb : (x == ("__debug__" : Str)) = false := by decide) (he : NS e := by intro _ _; rfl)
    (hpl : ∀ i, (backTo pos (starEach es (X i).env)).any (·.1) = false := by intro _; rfl) : EM X (.Call (.Name x p) (e :: es) [] pos) σ Hb (n t) (f t) := fun H1 c1 Q q =>
  wcall F hk (ha H1 c1 _ fun vs Hk H2 g1 r => ⟨t, Hk, g1.on, by rw [List.append_nil, hL]; exact r, hp, fun v as H3 h1 h2 h3 => q v as H3 (fun b hb => g1.ex.none (h1 b hb)) (g1.ex.trans h2) h3⟩) hg hdb he hpl
theorem len_ofM {τ : Type} {args : τ → AL} {pre : τ → Prop} {n : τ → Nat} {f : τ → Nat → Nat → Int} {m : Nat} (h : ∀ t H vs, (args t).r H vs → vs.length = m) : ∀ vs H Q E, spM args pre n f vs H Q E → vs.length = m := fun vs H Q E ⟨t, Hb, _, r, _⟩ => h t Hb vs r
end
section
variable {X : Cx} {g : W5} {N : List Str} {k : Nat} {σ : L2.St} {H Hb Hc : Hp} {v : V} {e : Expr} {pos : Pos} {x : Str} {n : Nat} {f : Nat → Nat → Int} {l : List Int} {D : Ends}
theorem s_retM (h : EM (u1 X) e σ Hb n f) (cx : Ex Hb H) (q : ∀ p as H2, (∀ b ∈ p :: as, H b = none) → Ex H H2 → Mx H2 p as n f → D.rt (.ref p) H2) : wS X (.Return (some e) pos) D σ H := ⟨_, ps_ret (wE_ok (X := u1 X) ()), h H cx _ q⟩
theorem s_setM [c : CtxZ (u1 X) g N k] (j : Nat) (h : EM (u1 X) e σ Hb n f) (cx : Ex Hb H) (q : ∀ p as H2, (∀ b ∈ p :: as, H b = none) → Ex H H2 → Mx H2 p as n f → D.nx (σ.set j (some (.ref p))) H2) {pos' : Pos}
    (hN : N[j]? = some x := by rfl) (hx : Loc X.env.scope x := by first | exact .inl rfl | exact .inr rfl) (hs : swapsWith e (some (.Name x pos')) pos.line X.env = pure false := by rfl) (hf : X.fn x = true ∨ X.env.scope.names.lookup x = some .local := by first | exact .inl rfl | exact .inr rfl) :
    wS X (.Assign [.Name x pos'] e pos) D σ H := s_setw j (h H cx _ q) hN hx hs hf
theorem s_setN [c : CtxZ (u1 X) g N k] (j : Nat) (h : EN (u1 X) e σ Hb l) (cx : Ex Hb H) (q : ∀ p H2, H p = none → Ex H H2 → H2 p = some (.lst (l.map .int)) → D.nx (σ.set j (some (.ref p))) H2) {pos' : Pos}
    (hN : N[j]? = some x := by rfl) (hx : Loc X.env.scope x := by first | exact .inl rfl | exact .inr rfl) (hs : swapsWith e (some (.Name x pos')) pos.line X.env = pure false := by rfl) (hf : X.fn x = true ∨ X.env.scope.names.lookup x = some .local := by first | exact .inl rfl | exact .inr rfl) :
    wS X (.Assign [.Name x pos'] e pos) D σ H := s_setw j (h H cx _ q) hN hx hs hf
end
end Z
/-! Z4: more operators and built-ins. -/
namespace Z
open PySem.Spec PySem PyProof.Rows L2
section
variable {ι : Type} {X : ι → Cx} {g : W5} {N : List Str} {k : Nat} {α β γ : Type} {R : Rep α} {T : Rep β} {σ : L2.St} {Hb Hc : Hp} {a : α} {b : β} {v : V} {e e1 e2 e3 tg : Expr} {es : List Expr} {pos p p1 p2 p3 tpos : Pos} {x : Str} {n m : Nat} {l : List Int} {Φ : V → Hp → Prop}
/-! great numbers -/
/-- small enough for every operation -/
def Bd (i : Int) : Prop := i.natAbs < 2 ^ 2000
theorem mulB {i j : Int} (h1 : EV X e1 σ Hb rInt i) (h2 : EV X e2 σ Hb rInt j) (hi : Bd i) (hj : Bd j) : EV X (.BinOp e1 .Mult e2 pos) σ Hb rInt (i * j) := ev_op (w := .non) h1 h2 (fun _ => op_mulW) fun _ _ _ _ _ r1 r2 Q q => hc (wide_mul hi hj (by decide) (by decide) (by decide)) r1 r2 (q _ rfl)
theorem dvB {i j : Int} (h1 : EV X e1 σ Hb rInt i) (h2 : EV X e2 σ Hb rInt j) (h0 : 0 < j) (hj : Bd j) : EV X (.BinOp e1 .FloorDiv e2 pos) σ Hb rInt (i / j) := ev_op (w := .non) h1 h2 (fun _ => op_fdivW) fun _ _ _ _ _ r1 r2 Q q => hc (wide_div h0 hj (by decide) (by decide)) r1 r2 (q _ rfl)
theorem Bd.of {i : Int} (h : -(10 ^ 300) ≤ i) (h2 : i ≤ 10 ^ 300) : Bd i := by
  unfold Bd
  have : (10 ^ 300 : Nat) < 2 ^ 2000 := by decide +kernel
  have e : ((10 ^ 300 : Nat) : Int) = 10 ^ 300 := by decide +kernel
  rw [← e] at h h2
  omega
/-! isinstance -/
def TyN (H : Hp) (v : V) (t : String) : Prop := match v with
  | .int _ => t = "int"
  | .bl _ => t = "bool"
  | .non => t = "NoneType"
  | .str _ => t = "str"
  | .ref p => (∃ xs, H p = some (.lst xs) ∧ t = "list") ∨ (∃ xs, H p = some (.tup xs) ∧ t = "tuple")
  | _ => False
theorem TyN.ty {K : PySem.W.Frag} {H : Hp} {v : V} {t : String} (h : TyN H v t) : TyX K H v (.type t) := by
  cases v with
  | int i => cases (show t = "int" from h); exact .base (.int i)
  | bl i => cases (show t = "bool" from h); exact .base (.bl i)
  | non => cases (show t = "NoneType" from h); exact .base .non
  | str i => cases (show t = "str" from h); exact .base (.str i)
  | ref p =>
    rcases (show (∃ xs, H p = some (.lst xs) ∧ t = "list") ∨ (∃ xs, H p = some (.tup xs) ∧ t = "tuple") from h) with ⟨xs, e, rfl⟩ | ⟨xs, e, rfl⟩
    · exact .base (.lst e)
    · exact .base (.tup e)
  | _ => cases h
theorem TyN.up {H H' : Hp} {v : V} {t : String} (e : Ex H H') (h : TyN H v t) : TyN H' v t := by
  cases v with
  | ref p =>
    rcases (show (∃ xs, H p = some (.lst xs) ∧ t = "list") ∨ (∃ xs, H p = some (.tup xs) ∧ t = "tuple") from h) with ⟨xs, e', rfl⟩ | ⟨xs, e', rfl⟩
    · exact Or.inl ⟨xs, e _ _ e', rfl⟩
    · exact Or.inr ⟨xs, e _ _ e', rfl⟩
  | _ => exact h
def rTy (n : String) : Rep Unit := ⟨fun _ v _ => v = .ty n, fun _ h => h⟩
/-- a built-in class by its name -/
theorem tyv [c : CtxZ X g N k] {T : String} (hm : g.mg x = none) (hv : bootBuiltins x = some (.type T)) (hg : ∀ i, Gl (X i) x := by intro _; rfl) (hn : x ≠ "__name__" := by decide) (hd : (x == ("__debug__" : Str)) = false := by decide) : EV X (.Name x pos) σ Hb (rTy T) () :=
  ev_at (v := .ty T) (fun H1 _ Q q => ⟨_, fun i => pe_bltn (v := .ty T) (hg i) ((congrFun (c.mg i) x).trans hm) hv rfl hn hd, q⟩) rfl
theorem isi_K [c : CtxZ X g N k] (i : ι) : CallR (X i) (.builtin "isinstance") (rIsi g.K) := by rw [← c.K i]; exact call_isi
theorem isiT_K [c : CtxZ X g N k] (i : ι) : CallR (X i) (.builtin "isinstance") (rIsiT g.K) := by rw [← c.K i]; exact call_isiT
/-- any value of a known type -/
def rTyp (t : String) : Rep Unit := ⟨fun H v _ => TyN H v t, fun e h => h.up e⟩
theorem isi [c : CtxZ X g N k] {t T : String} {r : Bool} (hm : g.mg "isinstance" = none) (h : EV X e σ Hb (rTyp t) ()) (h2 : EV X e2 σ Hb (rTy T) ()) (hk : kitB t T = some r) (hg : ∀ i, Gl (X i) "isinstance" := by intro _; rfl) (hs : NS e := by intro _ _; rfl) (hs2 : NS e2 := by intro _ _; rfl)
    (hq : ∀ i, (backTo pos (starEach [e2] (X i).env)).any (·.1) = false := by intro _; rfl) : EV X (.Call (.Name "isinstance" p) [e, e2] [] pos) σ Hb rBl r :=
  bcall (Φ := fun v H => rBl.r H v r) isi_K hm (by decide +kernel) (ac h (ac h2 a0 hs2) hs) (fun vs Hk H2 c1 r Q q => by
    obtain ⟨v, u, rfl, r1, r2⟩ := AL.two r
    have r2 : u = .ty T := r2
    subst r2
    exact ⟨v, _, _, _, _, rfl, .ty T, (TyN.up c1 r1).ty, kit_ty hk, q _ Hk H2 (Go.refl c1) rfl⟩) hg (he := hs) (hpl := hq)
theorem isi2 [c : CtxZ X g N k] {t T T' : String} {r r' : Bool} {j0 : Nat} (hm : g.mg "isinstance" = none) (h : EV X e σ Hb (rTyp t) ()) (h2 : EV X e2 σ Hb (rTy T) ()) (h3 : EV X e3 σ Hb (rTy T') ()) (hk : kitB t T = some r) (hk' : kitB t T' = some r') (hg : ∀ i, Gl (X i) "isinstance" := by intro _; rfl) (hs : NS e := by intro _ _; rfl)
    (hs2 : NS e2 := by intro _ _; rfl) (hs3 : NS e3 := by intro _ _; rfl) (hq : ∀ i, (backTo pos (starEach [.Tuple [e2, e3] j0 tpos] (X i).env)).any (·.1) = false := by intro _; rfl) : EV X (.Call (.Name "isinstance" p) [e, .Tuple [e2, e3] j0 tpos] [] pos) σ Hb rBl (r || r') :=
  bcall (Φ := fun v H => rBl.r H v (r || r')) isiT_K hm (by decide +kernel) (ac h (ac (dP (j0 := j0) (ac h2 (ac h3 a0 hs3) hs2)) a0 (by intro _ _; rfl)) hs) (fun vs Hk H2 c1 r0 Q q => by
    obtain ⟨v, u, rfl, r1, ⟨tp, y, z, rfl, hb, r2, r3⟩⟩ := AL.two r0
    have r2 : y = .ty T := r2
    have r3 : z = .ty T' := r3
    subst r2 r3
    refine ⟨v, tp, _, _, _, r || r', rfl, c1 _ _ hb, .cons (.ty T) (.cons (.ty T') .nil), (TyN.up c1 r1).ty, ?_, q _ Hk H2 (Go.refl c1) rfl⟩
    refine kitAny_cons (kit_ty hk) (fun hr => ?_) (fun hr => by rw [hr]; rfl)
    refine kitAny_cons (kit_ty hk') (fun hr' => ?_) (fun hr' => by rw [hr']; simp)
    rw [hr, hr']; exact kitAny_nil) hg (he := hs) (hpl := hq)
/-! gcd, lcm -/
theorem bfun [c : CtxZ X g N k] {id : String} {r : List V → Hp → VK → Prop} {L : AL} (hc : ∀ i, CallR (X i) (.builtin id) r) (hm : g.mg x = some (.builtin id)) (ha : EL X (e :: es) σ Hb L)
    (hr : ∀ vs Hk H2, Ex Hk H2 → L.r Hk vs → ∀ Q : VK, (∀ v Hl H3, Go no Hk H2 Hl H3 → Φ v Hl → Q v H3) → r vs H2 Q)
    (hg : ∀ i, Gl (X i) x := by intro _; rfl) (hdb : (x == ("__debug__" : Str)) = false := by decide) (he : NS e := by intro _ _; rfl)
    (hpl : ∀ i, (backTo pos (starEach es (X i).env)).any (·.1) = false := by intro _; rfl) : EP X (.Call (.Name x p) (e :: es) [] pos) σ Hb Φ := fun H1 c1 Q q =>
  ⟨_, fun i => pe_callBfun (hc i) (hg i) ((congrFun (c.mg i) x).trans hm) (wA_ok i) hdb (he _ _) (hpl i), ha H1 c1 _ fun vs Hk H2 g1 r1 => hr vs Hk H2 g1.on r1 Q fun v Hl H3 g2 z => q v Hl H3 (g1.trans g2) z⟩
theorem gcd2 [c : CtxZ X g N k] {i j : Int} (hm : g.mg "gcd" = some (.builtin "math.gcd")) (h : EV X e1 σ Hb rInt i) (h2 : EV X e2 σ Hb rInt j) (hg : ∀ i, Gl (X i) "gcd" := by intro _; rfl) (hs : NS e1 := by intro _ _; rfl) (hs2 : NS e2 := by intro _ _; rfl) (hq : ∀ i, (backTo pos (starEach [e2] (X i).env)).any (·.1) = false := by intro _; rfl) :
    EV X (.Call (.Name "gcd" p) [e1, e2] [] pos) σ Hb rInt ((Nat.gcd i.natAbs j.natAbs : Nat) : Int) :=
  bfun (Φ := fun v H => rInt.r H v ((Nat.gcd i.natAbs j.natAbs : Nat) : Int)) (fun _ => cr_gcd) hm (ac h (ac h2 a0 hs2) hs) (fun vs Hk H2 c1 r Q q => by
    obtain ⟨v, u, rfl, r1, r2⟩ := AL.two r
    have r1 : v = .int i := r1
    have r2 : u = .int j := r2
    subst r1 r2
    exact ⟨i, j, rfl, q _ Hk H2 (Go.refl c1) rfl⟩) hg (he := hs) (hpl := hq)
def rLcm : List V → Hp → VK → Prop := fun vs H Q => ∃ a b : Int, vs = [.int a, .int b] ∧ a.natAbs < 2 ^ 2000 ∧ b.natAbs < 2 ^ 2000 ∧ Q (.int ((Nat.lcm a.natAbs b.natAbs : Nat) : Int)) H
theorem log_lt {z m : Nat} (h : z < 2 ^ (m + 1)) : z.log2 ≤ m := PySem.W.mg_log h
theorem lcm_le (a b : Nat) : Nat.lcm a b ≤ a * b := by
  unfold Nat.lcm; exact Nat.div_le_self _ _
theorem cr_lcm {X : Cx} : CallR X (.builtin "math.lcm") rLcm := by
  intro pins₀ s₀ σ₀ H vs₀ us₀ Q I r₀ h₀
  obtain ⟨a₀, b₀, rfl, la₀, lb₀, q₀⟩ := h₀
  obtain ⟨t₀, u₀, rfl⟩ := Vals.int2 r₀
  have e1₀ : (Nat.lcm 1 a₀.natAbs) = a₀.natAbs := Nat.lcm_one_left _
  have h1₀ : (max 1 a₀.natAbs).log2 ≤ 1999 := log_lt (Nat.max_lt.mpr ⟨by decide +kernel, la₀⟩)
  have h2₀ : (max a₀.natAbs b₀.natAbs).log2 ≤ 1999 := log_lt (Nat.max_lt.mpr ⟨la₀, lb₀⟩)
  have h3₀ : ((((Nat.lcm 1 a₀.natAbs).lcm b₀.natAbs : Nat) : Int)).natAbs.log2 < bitsLine := by
    rw [e1₀, Int.natAbs_natCast]
    have : (Nat.lcm a₀.natAbs b₀.natAbs) < 2 ^ (3999 + 1) := by
      refine Nat.lt_of_le_of_lt (lcm_le _ _) ?_
      rw [show 3999 + 1 = 2000 + 2000 from rfl, Nat.pow_add]
      exact Nat.mul_lt_mul'' la₀ lb₀
    exact Nat.lt_of_le_of_lt (log_lt this) (by decide +kernel)
  refine call_function_meets PySem.W.MGF.kind_lcm PySem.W.MGF.plain_lcm PySem.W.MGF.entry_lcm (PySem.W.MGF.args_lcm _ _) (PySem.W.mg_run_lcm a₀ t₀ b₀ u₀ (by omega) (by omega) h3₀).meets ?_
  rw [e1₀]
  exact ⟨.int _, H, I.tok _, ⟨_, rfl⟩, q₀⟩
theorem lcm2 [c : CtxZ X g N k] {i j : Int} (hm : g.mg "lcm" = some (.builtin "math.lcm")) (h : EV X e1 σ Hb rInt i) (h2 : EV X e2 σ Hb rInt j) (hi : Bd i) (hj : Bd j) (hg : ∀ i, Gl (X i) "lcm" := by intro _; rfl) (hs : NS e1 := by intro _ _; rfl) (hs2 : NS e2 := by intro _ _; rfl) (hq : ∀ i, (backTo pos (starEach [e2] (X i).env)).any (·.1) = false := by intro _; rfl) :
    EV X (.Call (.Name "lcm" p) [e1, e2] [] pos) σ Hb rInt ((Nat.lcm i.natAbs j.natAbs : Nat) : Int) :=
  bfun (Φ := fun v H => rInt.r H v ((Nat.lcm i.natAbs j.natAbs : Nat) : Int)) (fun _ => cr_lcm) hm (ac h (ac h2 a0 hs2) hs) (fun vs Hk H2 c1 r Q q => by
    obtain ⟨v, u, rfl, r1, r2⟩ := AL.two r
    have r1 : v = .int i := r1
    have r2 : u = .int j := r2
    subst r1 r2
    exact ⟨i, j, rfl, hi, hj, q _ Hk H2 (Go.refl c1) rfl⟩) hg (he := hs) (hpl := hq)
/-! sorted of ints -/
theorem sorted_K [c : CtxZ X g N k] (i : ι) : CallR (X i) (.builtin "sorted") (rSorted g.K) := by rw [← c.K i]; exact cr_sorted
theorem sorted1 [c : CtxZ X g N k] (hm : g.mg "sorted" = none) (h : EV X e σ Hb (rL rInt) l) (hl : l.length < 64) (hg : ∀ i, Gl (X i) "sorted" := by intro _; rfl) (hs : NS e := by intro _ _; rfl) : EP X (.Call (.Name "sorted" p) [e] [] pos) σ Hb (fun v H => ∃ l', (rL rInt).r H v l' ∧ l'.Perm l ∧ l'.Pairwise (· ≤ ·)) :=
  bcall sorted_K hm (by decide +kernel) (ac h a0 hs) (fun vs Hk H2 c1 r Q q => by
    obtain ⟨v, rfl, r1⟩ := AL.one r
    obtain ⟨p, rfl, b⟩ := rInt.list r1
    exact ⟨p, l, rfl, SqL.of (c1 _ _ b), hl, fun l' m h1 h2 hm => q _ _ _ (Go.new c1 hm) ⟨l', rInt.mkL upd_same, h1, h2⟩⟩) hg (he := hs)
/-! in -/
theorem inV_ints (i : Int) (l : List Int) : inV (.int i) (l.map .int) = decide (i ∈ l) := by
  unfold inV
  rw [List.any_map]
  induction l with
  | nil => simp
  | cons y l ih =>
    rw [List.any_cons, ih]
    have : (((fun y => eqV y (V.int i)) ∘ V.int) y) = decide (y = i) := by
      show eqV (.int y) (.int i) = _
      unfold eqV; first | rfl | simp [Value.isInt]
    rw [this]
    simp [eq_comm]
theorem flat_ints (l : List Int) : (l.map V.int).all flatV = true := by
  rw [List.all_map]; exact List.all_eq_true.mpr fun _ _ => rfl
theorem inI_K [c : CtxZ X g N k] (i : ι) : OpR (X i) (compareOp .In) (rIn g.K false) := by rw [← c.K i]; exact op_in_seq
theorem niI_K [c : CtxZ X g N k] (i : ι) : OpR (X i) (compareOp .NotIn) (rIn g.K true) := by rw [← c.K i]; exact op_notIn_seq
theorem inI [c : CtxZ X g N k] {S : Rep (List Int)} [hS : IsS S rInt] {i : Int} (h1 : EV X e1 σ Hb rInt i) (h2 : EV X e2 σ Hb S l) (hm : behindInMarks .In e2 = false := by rfl) : EV X (.Compare e1 [.In] [e2] pos) σ Hb rBl (decide (i ∈ l)) :=
  ev_cmp h1 h2 inI_K hm fun v u Hk H2 c1 r1 r2 Q q => by
    have r1 : v = .int i := r1
    subst r1
    obtain ⟨p, xs, rfl, b, r⟩ := hS.to _ _ _ r2
    have := P2.ints r
    subst this
    refine ⟨p, _, rfl, b.elim (fun b => .inl (SqL.of (c1 _ _ b))) (fun b => .inr (SqT.of (c1 _ _ b))), rfl, flat_ints l, ?_⟩
    rw [inV_ints]
    exact q _ rfl
theorem niI [c : CtxZ X g N k] {S : Rep (List Int)} [hS : IsS S rInt] {i : Int} (h1 : EV X e1 σ Hb rInt i) (h2 : EV X e2 σ Hb S l) (hm : behindInMarks .NotIn e2 = false := by rfl) : EV X (.Compare e1 [.NotIn] [e2] pos) σ Hb rBl (decide (i ∉ l)) :=
  ev_cmp h1 h2 niI_K hm fun v u Hk H2 c1 r1 r2 Q q => by
    have r1 : v = .int i := r1
    subst r1
    obtain ⟨p, xs, rfl, b, r⟩ := hS.to _ _ _ r2
    have := P2.ints r
    subst this
    refine ⟨p, _, rfl, b.elim (fun b => .inl (SqL.of (c1 _ _ b))) (fun b => .inr (SqT.of (c1 _ _ b))), rfl, flat_ints l, ?_⟩
    rw [inV_ints]
    exact q _ (by show V.bl _ = V.bl _; simp)
/-! list + list -/
theorem cat {l m : List α} (h1 : EV X e1 σ Hb (rL R) l) (h2 : EV X e2 σ Hb (rL R) m) (hz : l.length + m.length ≤ 100000) : EV X (.BinOp e1 .Add e2 pos) σ Hb (rL R) (l ++ m) := fun H1 c1 Q q =>
  ⟨_, fun i => pe_op op_cat (wE_ok i) (wE_ok i), seq2 (Ψ := fun _ _ _ => True) (E := fun _ _ _ _ => True) h1 h2 c1 fun v u Hk H2 g1 ⟨p, xs, e1, b1, r1⟩ ⟨p2, ys, e2, b2, r2⟩ =>
    ⟨p, p2, xs, ys, e1, e2, g1.on _ _ b1, g1.on _ _ b2, by rw [r1.len, r2.len]; exact Nat.le_trans hz (by decide), fun d hd => q _ (upd Hk d (.lst (xs ++ ys))) _ (g1.trans (Go.new g1.on hd)) ⟨d, _, rfl, upd_same, (r1.append r2).imp fun _ _ => R.up (Ex.new (g1.on.none hd))⟩⟩⟩
/-! slices of a list -/
theorem sl_list_K [c : CtxZ X g N k] (i : ι) : SlR (X i) (rSlL g.K) := by rw [← c.K i]; exact sl_list
theorem cutV_take (xs : List V) (j : Nat) : cutV xs none (some (j : Int)) = xs.take j := by
  unfold cutV
  rw [HT.sIx_none, HT.sIx_nat, List.drop_zero, Nat.sub_zero]
  by_cases hj : j ≤ xs.length
  · rw [Nat.min_eq_left hj]
  · rw [Nat.min_eq_right (by omega), List.take_of_length_le (by omega), List.take_of_length_le (by omega)]
theorem cutV_drop (xs : List V) (j : Nat) : cutV xs (some (j : Int)) none = xs.drop j := by
  unfold cutV
  rw [HT.sIx_none, HT.sIx_nat]
  by_cases hj : j ≤ xs.length
  · rw [Nat.min_eq_left hj, List.take_of_length_le (by simp)]
  · rw [Nat.min_eq_right (by omega)]; simp; omega
/-- l[:j] -/
theorem slT [c : CtxZ X g N k] {l : List α} {i : Int} (j : Nat) (h1 : EV X e1 σ Hb (rL R) l) (h2 : EV X e2 σ Hb rInt i) (hi : i = (j : Int)) : EV X (.Subscript e1 (.Slice none (some e2) none p2) pos) σ Hb (rL R) (l.take j) := fun H1 c1 Q q =>
  ⟨_, fun i => pe_slice (sl_list_K i) (wE_ok i) po_none (po_some (wE_ok i)), h1 H1 c1 _ fun v Hk H2 g1 ⟨p, xs, e, b, r⟩ => (h2.mono g1.base) H2 g1.on _ fun u Hl H3 g2 r2 => ⟨i, r2, p, xs, e, SqL.of (g2.ex _ _ (g1.on _ _ b)), fun d hd => by
    rw [hi, cutV_take]
    exact q _ _ _ ((g1.trans g2).trans (Go.new g2.on hd)) ⟨d, _, rfl, upd_same, (r.imp fun _ _ => R.up (g2.base.trans (Ex.new (g2.on.none hd)))).take j⟩⟩⟩
/-- l[j:] -/
theorem slD [c : CtxZ X g N k] {l : List α} {i : Int} (j : Nat) (h1 : EV X e1 σ Hb (rL R) l) (h2 : EV X e2 σ Hb rInt i) (hi : i = (j : Int)) : EV X (.Subscript e1 (.Slice (some e2) none none p2) pos) σ Hb (rL R) (l.drop j) := fun H1 c1 Q q =>
  ⟨_, fun i => pe_slice (sl_list_K i) (wE_ok i) (po_some (wE_ok i)) po_none, h1 H1 c1 _ fun v Hk H2 g1 ⟨p, xs, e, b, r⟩ => (h2.mono g1.base) H2 g1.on _ fun u Hl H3 g2 r2 => ⟨i, r2, p, xs, e, SqL.of (g2.ex _ _ (g1.on _ _ b)), fun d hd => by
    rw [hi, cutV_drop]
    exact q _ _ _ ((g1.trans g2).trans (Go.new g2.on hd)) ⟨d, _, rfl, upd_same, (r.imp fun _ _ => R.up (g2.base.trans (Ex.new (g2.on.none hd)))).drop j⟩⟩⟩
/-! sum of a tuple; repr of a truth value -/
def rSumT (K : PySem.W.Frag) : List V → Hp → VK → Prop := fun vs H Q => ∃ (a : Addr) (ns : List Int), vs = [V.ref a] ∧ SqT K H a (ns.map V.int) ∧ Q (.int ns.sum) H
theorem cr_sumT {X : Cx} (hc : X.calm = true) : CallR X (.builtin "sum") (rSumT X.K) := by
  intro pins₀ s₀ σ₀ H vs₀ us₀ Q I r₀ h₀
  obtain ⟨a₀, ns₀, rfl, hs₀, q₀⟩ := h₀
  obtain ⟨its₀, rv₀, hl₀, _⟩ := I.tuple hs₀
  rw [Vals.ref1 r₀]
  have hi₀ := rv₀.ints
  obtain ⟨xs₀, e₀⟩ := hi₀.allInts.items
  have hn₀ : numsOf (intItems xs₀).toList = ns₀ := by rw [← e₀]; exact hi₀.numsOf
  rw [nums_intItems] at hn₀
  rw [e₀] at hl₀
  refine PySem.W.ktm_sumG (I.ok.hd hc) hl₀ fun h'₀ tk₀ t'₀ hk₀ => ?_
  rw [preSum_eq, List.take_of_length_le (by simp), hn₀]; exact ⟨.int _, H, I.kept hk₀, ⟨_, rfl⟩, q₀⟩
theorem sumT_K [c : CtxZ X g N k] (i : ι) : CallR (X i) (.builtin "sum") (rSumT g.K) := by rw [← c.K i]; exact cr_sumT (c.calm i)
theorem sumT [c : CtxZ X g N k] {l : List Int} (hm : g.mg "sum" = none) (h : EV X e σ Hb (rT rInt) l) (hg : ∀ i, Gl (X i) "sum" := by intro _; rfl) (hs : NS e := by intro _ _; rfl) : EV X (.Call (.Name "sum" p) [e] [] pos) σ Hb rInt l.sum :=
  bcall (Φ := fun v H => rInt.r H v l.sum) sumT_K hm (by decide +kernel) (ac h a0 hs) (fun vs Hk H2 c1 r Q q => by
    obtain ⟨v, rfl, r1⟩ := AL.one r
    obtain ⟨p, rfl, b⟩ := rInt.tup r1
    exact ⟨p, l, rfl, SqT.of (c1 _ _ b), q _ Hk H2 (Go.refl c1) rfl⟩) hg (he := hs)
def reprB (b : Bool) : Str := if b then "True" else "False"
theorem cr_reprB {X : Cx} : CallR X (.builtin "repr") (fun xs H Q => ∃ b, xs = [.bl b] ∧ Q (.str (reprB b)) H) := by
  intro pins₀ s₀ σ₀ H xs us₀ Q I r₀ h₀
  obtain ⟨b, rfl, q₀⟩ := h₀
  obtain ⟨u₀, rfl, rfl⟩ := vals1 r₀
  exact PySem.P.repr_of_bool ⟨.str (reprB b), H, I.tok _, ⟨_, rfl⟩, q₀⟩
theorem repB [c : CtxZ X g N k] {b : Bool} (hm : g.mg "repr" = none) (h : EV X e σ Hb rBl b) (hg : ∀ i, Gl (X i) "repr" := by intro _; rfl) (hs : NS e := by intro _ _; rfl) : EV X (.Call (.Name "repr" p) [e] [] pos) σ Hb rStr (reprB b) :=
  bcall (Φ := fun v H => rStr.r H v (reprB b)) (fun _ => cr_reprB) hm (by decide +kernel) (ac h a0 hs) (fun vs Hk H2 c1 r Q q => by
    obtain ⟨v, rfl, r1⟩ := AL.one r
    have r1 : v = .bl b := r1
    subst r1
    exact ⟨b, rfl, q _ Hk H2 (Go.refl c1) rfl⟩) hg (he := hs)
theorem reprB_inj (a b : Bool) : decide (reprB a = reprB b) = (a == b) := by cases a <;> cases b <;> decide +kernel
theorem eqS {s t : Str} (h1 : EV X e1 σ Hb rStr s) (h2 : EV X e2 σ Hb rStr t) : EV X (.Compare e1 [.Eq] [e2] pos) σ Hb rBl (decide (s = t)) := ev_cmp h1 h2 (fun _ => op_eq) (nomark _) fun _ _ _ _ _ r1 r2 Q q => by
  subst r1 r2; exact ⟨rfl, q _ (by show V.bl _ = V.bl _; congr 1; simp)⟩
theorem neS {s t : Str} (h1 : EV X e1 σ Hb rStr s) (h2 : EV X e2 σ Hb rStr t) : EV X (.Compare e1 [.NotEq] [e2] pos) σ Hb rBl (!decide (s = t)) := ev_cmp h1 h2 (fun _ => op_ne) (nomark _) fun _ _ _ _ _ r1 r2 Q q => by
  subst r1 r2; exact ⟨rfl, q _ (by show V.bl _ = V.bl _; congr 1; simp)⟩
/-! chains of comparisons -/
theorem chLL {i j m : Int} (h1 : EV X e1 σ Hb rInt i) (h2 : EV X e2 σ Hb rInt j) (h3 : i ≤ j → EV X e3 σ Hb rInt m) (hm : lastMarks [.LtE, .LtE] [e2, e3] = false := by with_unfolding_all rfl) : EV X (.Compare e1 [.LtE, .LtE] [e2, e3] pos) σ Hb rBl (decide (i ≤ j) && decide (j ≤ m)) := fun H1 c1 Q q =>
  ⟨_, fun i => pe_chain op_le op_le (wE_ok i) (wE_ok i) (wE_ok i) hm, seq2 (Ψ := fun _ _ _ => True) (E := fun _ _ _ _ => True) h1 h2 c1 fun v u Hk H2 g1 r1 r2 => ⟨i, j, r1, r2, decide (i ≤ j), rfl, by
    by_cases hij : i ≤ j
    · rw [if_pos (decide_eq_true hij)]
      refine ((h3 hij).mono g1.base) H2 g1.on _ fun w Hl H3 g2 r3 => ⟨j, m, r2, r3, ?_⟩
      refine q _ Hl H3 (g1.trans g2) ?_
      show V.bl _ = V.bl _
      rw [decide_eq_true hij, Bool.true_and]
    · rw [if_neg (by simp [hij])]
      exact q _ Hk H2 g1 (by show V.bl _ = V.bl _; simp [hij])⟩⟩
theorem chLl {i j m : Int} (h1 : EV X e1 σ Hb rInt i) (h2 : EV X e2 σ Hb rInt j) (h3 : i ≤ j → EV X e3 σ Hb rInt m) (hm : lastMarks [.LtE, .Lt] [e2, e3] = false := by with_unfolding_all rfl) : EV X (.Compare e1 [.LtE, .Lt] [e2, e3] pos) σ Hb rBl (decide (i ≤ j) && decide (j < m)) := fun H1 c1 Q q =>
  ⟨_, fun i => pe_chain op_le op_lt (wE_ok i) (wE_ok i) (wE_ok i) hm, seq2 (Ψ := fun _ _ _ => True) (E := fun _ _ _ _ => True) h1 h2 c1 fun v u Hk H2 g1 r1 r2 => ⟨i, j, r1, r2, decide (i ≤ j), rfl, by
    by_cases hij : i ≤ j
    · rw [if_pos (decide_eq_true hij)]
      refine ((h3 hij).mono g1.base) H2 g1.on _ fun w Hl H3 g2 r3 => ⟨j, m, r2, r3, ?_⟩
      refine q _ Hl H3 (g1.trans g2) ?_
      show V.bl _ = V.bl _
      rw [decide_eq_true hij, Bool.true_and]
    · rw [if_neg (by simp [hij])]
      exact q _ Hk H2 g1 (by show V.bl _ = V.bl _; simp [hij])⟩⟩
theorem tchLL {i j m : Int} (h1 : EV X e1 σ Hb rInt i) (h2 : EV X e2 σ Hb rInt j) (h3 : i ≤ j → EV X e3 σ Hb rInt m) (hm : lastMarks [.LtE, .LtE] [e2, e3] = false := by with_unfolding_all rfl) : ET X (.Compare e1 [.LtE, .LtE] [e2, e3] pos) σ Hb (decide (i ≤ j) && decide (j ≤ m)) := fun H1 c1 Q q =>
  ⟨_, fun i => pt_chain op_le op_le (wE_ok i) (wE_ok i) (wE_ok i) hm, seq2 (Ψ := fun _ _ _ => True) (E := fun _ _ _ _ => True) h1 h2 c1 fun v u Hk H2 g1 r1 r2 => ⟨i, j, r1, r2, decide (i ≤ j), rfl, by
    by_cases hij : i ≤ j
    · rw [if_pos (decide_eq_true hij)]
      refine ((h3 hij).mono g1.base) H2 g1.on _ fun w Hl H3 g2 r3 => ⟨j, m, r2, r3, _, rfl, ?_⟩
      have := q Hl H3 (g1.trans g2)
      rwa [decide_eq_true hij, Bool.true_and] at this
    · rw [if_neg (by simp [hij])]
      have := q Hk H2 g1
      rw [decide_eq_false hij, Bool.false_and] at this
      exact ⟨false, rfl, this⟩⟩⟩
/-! ==, != of data -/
class DR {α : Type} (R : Rep α) [DecidableEq α] [PySem.W.Datum α] : Prop where
  dp : ∀ {K : PySem.W.Frag} {H : Hp} {v : V} {a : α}, R.r H v a → Dp K H v (PySem.W.Datum.toD a)
  cl : ∀ a : α, (PySem.W.Datum.toD a).canLay0 = true
instance : DR rInt := ⟨fun {K H v a} h => by cases (show v = .int a from h); exact .int a, fun _ => rfl⟩
theorem dpAll {α : Type} {R : Rep α} [DecidableEq α] [PySem.W.Datum α] [h : DR R] {K : PySem.W.Frag} {H : Hp} : ∀ {xs : List V} {l : List α}, P2 (R.r H) xs l → DpAll K H xs (l.map PySem.W.Datum.toD)
  | _, _, .nil => .nil
  | _, _, .cons r t => .cons (h.dp r) (dpAll t)
theorem clAll {α : Type} {R : Rep α} [DecidableEq α] [PySem.W.Datum α] [h : DR R] : ∀ (l : List α), PyData.canLayAll0 (l.map PySem.W.Datum.toD) = true
  | [] => rfl
  | a :: l => by rw [List.map_cons, PyData.canLayAll0, h.cl a, clAll (R := R) l]; rfl
instance {α : Type} {R : Rep α} [DecidableEq α] [PySem.W.Datum α] [h : DR R] : DR (rL R) :=
  ⟨fun {K H v a} ⟨p, xs, e, b, r⟩ => by subst e; exact .lst (SqL.of b) (dpAll r), fun a => by show PyData.canLay0 (.list _) = true; rw [PyData.canLay0]; exact clAll (R := R) a⟩
/-- a tuple of any length -/
def rTu {α : Type} (R : Rep α) : Rep (PySem.W.Tup α) := ⟨fun H v t => (rT R).r H v t.items, fun e h => (rT R).up e h⟩
theorem tu {α : Type} {R : Rep α} {l : List α} (h : EV X e σ Hb (rT R) l) : EV X e σ Hb (rTu R) ⟨l⟩ := h
instance {α : Type} {R : Rep α} [DecidableEq α] [PySem.W.Datum α] [h : DR R] : DR (rTu R) :=
  ⟨fun {K H v a} ⟨p, xs, e, b, r⟩ => by subst e; exact .tup (SqT.of b) (dpAll r), fun a => by show PyData.canLay0 (.tuple _) = true; rw [PyData.canLay0]; exact clAll (R := R) a.items⟩
instance {α β : Type} {R : Rep α} {T : Rep β} [DecidableEq α] [PySem.W.Datum α] [DecidableEq β] [PySem.W.Datum β] [h : DR R] [h2 : DR T] : DR (rP R T) :=
  ⟨fun {K H v a} ⟨p, x, y, e, b, r1, r2⟩ => by subst e; exact .tup (SqT.of b) (.cons (h.dp r1) (.cons (h2.dp r2) .nil)), fun a => by
    show PyData.canLay0 (.tuple _) = true
    rw [PyData.canLay0, PyData.canLayAll0, PyData.canLayAll0, h.cl, h2.cl]; rfl⟩
theorem shaped_of {α : Type} {R : Rep α} [DecidableEq α] [PySem.W.Datum α] [h : DR R] (hd : PySem.W.Datum.depth α ≤ 64) (a : α) : SeqAt.shaped (PySem.W.Datum.toD a) = true := by
  unfold SeqAt.shaped
  rw [h.cl, decide_eq_true (Nat.le_trans (PySem.W.Datum.depth_le a) hd)]; rfl
theorem eqD_K [c : CtxZ X g N k] (i : ι) : OpR (X i) (compareOp .Eq) (rEqD g.K) := by rw [← c.K i]; exact op_eqD (c.room i).units
theorem neD_K [c : CtxZ X g N k] (i : ι) : OpR (X i) (compareOp .NotEq) (rNeD g.K) := by rw [← c.K i]; exact op_neD (c.room i).units
theorem eqD [c : CtxZ X g N k] [DecidableEq α] [PySem.W.Datum α] [h : DR R] {b : α} (h1 : EV X e1 σ Hb R a) (h2 : EV X e2 σ Hb R b) (hd : PySem.W.Datum.depth α ≤ 64 := by decide) : EV X (.Compare e1 [.Eq] [e2] pos) σ Hb rBl (decide (a = b)) :=
  ev_cmp h1 h2 eqD_K (nomark _) fun v u Hk H2 c1 r1 r2 Q q => ⟨_, _, h.dp (R.up c1 r1), h.dp (R.up c1 r2), shaped_of (R := R) hd a, shaped_of (R := R) hd b, by rw [PySem.W.Datum.eqv]; exact q _ rfl⟩
theorem neD [c : CtxZ X g N k] [DecidableEq α] [PySem.W.Datum α] [h : DR R] {b : α} (h1 : EV X e1 σ Hb R a) (h2 : EV X e2 σ Hb R b) (hd : PySem.W.Datum.depth α ≤ 64 := by decide) : EV X (.Compare e1 [.NotEq] [e2] pos) σ Hb rBl (!decide (a = b)) :=
  ev_cmp h1 h2 neD_K (nomark _) fun v u Hk H2 c1 r1 r2 Q q => ⟨_, _, h.dp (R.up c1 r1), h.dp (R.up c1 r2), shaped_of (R := R) hd a, shaped_of (R := R) hd b, by rw [PySem.W.Datum.eqv]; exact q _ rfl⟩
/-! the same as tests -/
theorem tIsN {t : Bool} (h1 : Z.EP X e1 σ Hb fun v _ => decide (v = .non) = t) {j0 p0} : ET X (.Compare e1 [.Is] [.Constant .none j0 p0] pos) σ Hb t := fun H1 c Q q =>
  ⟨_, fun i => pt_cmpR op_isN (wE_ok i) pe_non (nomark _), h1 H1 c _ fun v Hk H2 g r => ⟨rfl, t, by rw [r], q Hk H2 g⟩⟩
theorem tNotN {t : Bool} (h1 : Z.EP X e1 σ Hb fun v _ => decide (v = .non) = t) {j0 p0} : ET X (.Compare e1 [.IsNot] [.Constant .none j0 p0] pos) σ Hb (!t) := fun H1 c Q q =>
  ⟨_, fun i => pt_cmpR op_notN (wE_ok i) pe_non (nomark _), h1 H1 c _ fun v Hk H2 g r => ⟨rfl, !t, by rw [r], q Hk H2 g⟩⟩
theorem tIn [c : CtxZ X g N k] {S : Rep (List Int)} [hS : IsS S rInt] {i : Int} (h1 : EV X e1 σ Hb rInt i) (h2 : EV X e2 σ Hb S l) (hm : behindInMarks .In e2 = false := by rfl) : ET X (.Compare e1 [.In] [e2] pos) σ Hb (decide (i ∈ l)) :=
  et_cmp h1 h2 inI_K hm fun v u Hk H2 c1 r1 r2 Q q => by
    have r1 : v = .int i := r1
    subst r1
    obtain ⟨p, xs, rfl, b, r⟩ := hS.to _ _ _ r2
    have := P2.ints r
    subst this
    refine ⟨p, _, rfl, b.elim (fun b => .inl (SqL.of (c1 _ _ b))) (fun b => .inr (SqT.of (c1 _ _ b))), rfl, flat_ints l, ?_⟩
    rw [inV_ints]
    exact q
theorem tNIn [c : CtxZ X g N k] {S : Rep (List Int)} [hS : IsS S rInt] {i : Int} (h1 : EV X e1 σ Hb rInt i) (h2 : EV X e2 σ Hb S l) (hm : behindInMarks .NotIn e2 = false := by rfl) : ET X (.Compare e1 [.NotIn] [e2] pos) σ Hb (decide (i ∉ l)) :=
  et_cmp h1 h2 niI_K hm fun v u Hk H2 c1 r1 r2 Q q => by
    have r1 : v = .int i := r1
    subst r1
    obtain ⟨p, xs, rfl, b, r⟩ := hS.to _ _ _ r2
    have := P2.ints r
    subst this
    refine ⟨p, _, rfl, b.elim (fun b => .inl (SqL.of (c1 _ _ b))) (fun b => .inr (SqT.of (c1 _ _ b))), rfl, flat_ints l, ?_⟩
    rw [inV_ints, show V.bl (if true = true then !decide (i ∈ l) else decide (i ∈ l)) = V.bl (decide (i ∉ l)) by simp]
    exact q
theorem tEqD [c : CtxZ X g N k] [DecidableEq α] [PySem.W.Datum α] [h : DR R] {b : α} (h1 : EV X e1 σ Hb R a) (h2 : EV X e2 σ Hb R b) (hd : PySem.W.Datum.depth α ≤ 64 := by decide) : ET X (.Compare e1 [.Eq] [e2] pos) σ Hb (decide (a = b)) :=
  et_cmp h1 h2 eqD_K (nomark _) fun v u Hk H2 c1 r1 r2 Q q => ⟨_, _, h.dp (R.up c1 r1), h.dp (R.up c1 r2), shaped_of (R := R) hd a, shaped_of (R := R) hd b, by rw [PySem.W.Datum.eqv]; exact q⟩
theorem tNeD [c : CtxZ X g N k] [DecidableEq α] [PySem.W.Datum α] [h : DR R] {b : α} (h1 : EV X e1 σ Hb R a) (h2 : EV X e2 σ Hb R b) (hd : PySem.W.Datum.depth α ≤ 64 := by decide) : ET X (.Compare e1 [.NotEq] [e2] pos) σ Hb (!decide (a = b)) :=
  et_cmp h1 h2 neD_K (nomark _) fun v u Hk H2 c1 r1 r2 Q q => ⟨_, _, h.dp (R.up c1 r1), h.dp (R.up c1 r2), shaped_of (R := R) hd a, shaped_of (R := R) hd b, by rw [PySem.W.Datum.eqv]; exact q⟩
theorem tNeS {s t : Str} (h1 : EV X e1 σ Hb rStr s) (h2 : EV X e2 σ Hb rStr t) : ET X (.Compare e1 [.NotEq] [e2] pos) σ Hb (!decide (s = t)) := et_cmp h1 h2 (fun _ => op_ne) (nomark _) fun _ _ _ _ _ r1 r2 Q q => by
  subst r1 r2; refine ⟨rfl, ?_⟩; rw [show (!decide (V.str s = V.str t)) = !decide (s = t) by simp]; exact q
theorem tchLl {i j m : Int} (h1 : EV X e1 σ Hb rInt i) (h2 : EV X e2 σ Hb rInt j) (h3 : i ≤ j → EV X e3 σ Hb rInt m) (hm : lastMarks [.LtE, .Lt] [e2, e3] = false := by with_unfolding_all rfl) : ET X (.Compare e1 [.LtE, .Lt] [e2, e3] pos) σ Hb (decide (i ≤ j) && decide (j < m)) := fun H1 c1 Q q =>
  ⟨_, fun i => pt_chain op_le op_lt (wE_ok i) (wE_ok i) (wE_ok i) hm, seq2 (Ψ := fun _ _ _ => True) (E := fun _ _ _ _ => True) h1 h2 c1 fun v u Hk H2 g1 r1 r2 => ⟨i, j, r1, r2, decide (i ≤ j), rfl, by
    by_cases hij : i ≤ j
    · rw [if_pos (decide_eq_true hij)]
      refine ((h3 hij).mono g1.base) H2 g1.on _ fun w Hl H3 g2 r3 => ⟨j, m, r2, r3, _, rfl, ?_⟩
      have := q Hl H3 (g1.trans g2)
      rwa [decide_eq_true hij, Bool.true_and] at this
    · rw [if_neg (by simp [hij])]
      have := q Hk H2 g1
      rw [decide_eq_false hij, Bool.false_and] at this
      exact ⟨false, rfl, this⟩⟩⟩
end
end Z
/-! Z5: loops and stores over a base. -/
namespace Z
open PySem.Spec PySem PyProof.Rows L2
/-- an object of one's own, outside the base -/
structure Mu (H0 Hk H : Hp) (l : Addr) (o : HO) : Prop where
  new : H0 l = none
  off : Hk l = none
  at_ : H l = some o
section
variable {S : Addr → Prop} {H0 Hb H1 Hk H2 Hl Hm H3 H H' : Hp} {l p : Addr} {o o' : HO}
theorem Mu.go (m : Mu H0 Hk H l o) (g : Go S Hk H Hm H') (hs : ¬ S l) : Mu H0 Hm H' l o := ⟨m.new, g.fr l (some_ne m.at_) m.off, g.real l o hs m.at_⟩
theorem Mu.go0 (m : Mu H0 Hk H l o) (g : Go no Hk H Hm H') : Mu H0 Hm H' l o := m.go g fun z => z
theorem Mu.ex (m : Mu H0 Hk H l o) (e : Ex H H') : Mu H0 Hk H' l o := ⟨m.new, m.off, e _ _ m.at_⟩
theorem Mu.wr (m : Mu H0 Hk H l o) : Mu H0 Hk (upd H l o') l o' := ⟨m.new, m.off, upd_same⟩
theorem Mu.wr' (m : Mu H0 Hk H l o) (h : l ≠ p) : Mu H0 Hk (upd H p o') l o := ⟨m.new, m.off, by rw [upd_ne h]; exact m.at_⟩
theorem Go.mu (g : Go S Hb H0 Hk H) (m : Mu H0 Hk H l o) : Go S Hb H0 Hk (upd H l o') := g.wr (.inr m.new) m.off
theorem Go.fixm (g : Go S Hb H0 Hk H) (m : Mu H0 Hk H l o) : Go S Hb H0 (upd Hk l o) H := g.fix m.new m.at_ m.off
theorem Go.step (g : Go S Hb H1 Hk H2) (e : Ex H2 H3) : Go S Hb H1 Hk H3 := ⟨fun b o s h => e _ _ (g.real b o s h), fun b h z => g.live b h (e.none z), g.base, g.on.trans e, g.fr⟩
/-- a new object of one's own -/
theorem Go.own (g : Go S Hb H1 Hk H2) (h : H2 l = none) : Go S Hb H1 Hk (upd H2 l o) ∧ Mu H1 Hk (upd H2 l o) l o :=
  ⟨g.step (Ex.new h), by
    cases z : H1 l with
    | none => rfl
    | some u => exact absurd h (g.live l (some_ne z)), g.on.none h, upd_same⟩
theorem Go.new_of (g : Go S Hb H1 Hk H2) (h : H2 l = none) : H1 l = none := by
  cases z : H1 l with
  | none => rfl
  | some u => exact absurd h (g.live l (some_ne z))
/-- from a base below -/
theorem Go.over (b : Go no Hb H Hm H') (e : Ex Hb Hk) (c : Ex Hk H) : Go no Hk H (ovr Hk Hm) H' ∧ Ex Hm (ovr Hk Hm) :=
  ⟨⟨b.real, b.live, ovr_l, fun x o h => by
    cases z : Hk x with
    | some u => rw [ovr_some z] at h; cases h; exact b.real x _ (fun z => z) (c x _ z)
    | none => rw [ovr_none z] at h; exact b.on x o h, fun x h z => by rw [ovr_none z]; exact b.fr x h (e.none z)⟩, fun x o h => by
    cases z : Hk x with
    | some u => rw [ovr_some z]; have := b.real x u (fun z => z) (c x u z); rw [b.on x o h] at this; exact this.symm
    | none => rw [ovr_none z]; exact h⟩
end
/-- a matrix of one's own -/
structure MxM (H0 Hk H : Hp) (p : Addr) (as : List Addr) (n : Nat) (f : Nat → Nat → Int) : Prop extends Mx H p as n f where
  new : ∀ b ∈ p :: as, H0 b = none
  off : ∀ b ∈ p :: as, Hk b = none
section
variable {S : Addr → Prop} {H0 Hb H1 Hk H2 Hl Hm H3 H H' : Hp} {l p : Addr} {o o' : HO} {as : List Addr} {n : Nat} {f f' : Nat → Nat → Int}
theorem MxM.live (m : MxM H0 Hk H p as n f) : ∀ b ∈ p :: as, H b ≠ none := fun b hb => by
  rcases List.mem_cons.1 hb with z | z
  · rw [z, m.top]; exact fun z => nomatch z
  · obtain ⟨i, hi⟩ := List.getElem?_of_mem z
    rw [m.row i b hi]; exact fun z => nomatch z
theorem MxM.go (m : MxM H0 Hk H p as n f) (g : Go S Hk H Hm H') (hs : ∀ b ∈ p :: as, ¬ S b) : MxM H0 Hm H' p as n f :=
  ⟨⟨m.len, m.nd, m.out, g.real _ _ (hs p (List.mem_cons_self ..)) m.top, fun i a ha => g.real _ _ (hs a (List.mem_cons_of_mem _ (List.mem_of_getElem? ha))) (m.row i a ha)⟩, m.new, fun b hb => g.fr b (m.live b hb) (m.off b hb)⟩
theorem MxM.go0 (m : MxM H0 Hk H p as n f) (g : Go no Hk H Hm H') : MxM H0 Hm H' p as n f := m.go g fun _ _ z => z
theorem MxM.ex (m : MxM H0 Hk H p as n f) (e : Ex H H') : MxM H0 Hk H' p as n f := ⟨m.toMx.mono e, m.new, m.off⟩
theorem Go.ownM (g : Go S Hb H1 Hk H2) (e : Ex H2 H3) (h : ∀ b ∈ p :: as, H2 b = none) (m : Mx H3 p as n f) : Go S Hb H1 Hk H3 ∧ MxM H1 Hk H3 p as n f :=
  ⟨g.step e, m, fun b hb => g.new_of (h b hb), fun b hb => g.on.none (h b hb)⟩
/-- the matrix goes into the base -/
theorem Go.fixM (g : Go S Hb H1 Hk H) (m : MxM H1 Hk H p as n f) : ∃ Hn, Go S Hb H1 Hn H ∧ Ex Hk Hn ∧ Mx Hn p as n f := by
  refine ⟨fun b => if b ∈ p :: as then H b else Hk b, ⟨g.real, g.live, fun b o h => ?_, fun b o h => ?_, fun b h z => ?_⟩, fun b o h => ?_, m.len, m.nd, m.out, ?_, fun i a ha => ?_⟩
  · have : ¬ b ∈ p :: as := fun z => by have := m.off b z; rw [g.base b o h] at this; cases this
    simp only [this, if_false]; exact g.base b o h
  · by_cases z : b ∈ p :: as
    · simp only [z, if_true] at h; exact h
    · simp only [z, if_false] at h; exact g.on b o h
  · have : ¬ b ∈ p :: as := fun z => h (m.new b z)
    simp only [this, if_false]; exact g.fr b h z
  · have : ¬ b ∈ p :: as := fun z => by have := m.off b z; rw [h] at this; cases this
    simp only [this, if_false]; exact h
  · simp only [List.mem_cons, true_or, if_true]; exact m.top
  · have : a ∈ p :: as := List.mem_cons_of_mem _ (List.mem_of_getElem? ha)
    simp only [this, if_true]; exact m.row i a ha
/-- a store in it -/
theorem Mx.store (m : Mx H p as n f) {a b : Nat} {r : Addr} {v : Int} (ha : as[a]? = some r) (hb : b < n) : Mx (upd H r (.lst (((tab n (f a)).map V.int).set b (.int v)))) p as n (fun x y => if x = a ∧ y = b then v else f x y) := by
  have hpr : p ≠ r := fun z => m.out (z ▸ List.mem_of_getElem? ha)
  refine ⟨m.len, m.nd, m.out, by rw [upd_ne hpr]; exact m.top, fun i c hc => ?_⟩
  by_cases e : c = r
  · subst e
    have hi : i = a := by
      have h1 := (List.getElem?_eq_some_iff.mp hc).1
      have h2 := (List.getElem?_eq_some_iff.mp ha).1
      exact (List.getElem_inj (h₀ := h1) (h₁ := h2) m.nd).mp ((List.getElem?_eq_some_iff.mp hc).2.trans (List.getElem?_eq_some_iff.mp ha).2.symm)
    subst hi
    rw [upd_same, show V.int v = V.int v from rfl, ← List.map_set, tab_set hb]
    congr 3
    apply tab_congr
    intro j _
    by_cases z : j = b <;> simp [z]
  · rw [upd_ne e, m.row i c hc]
    have hia : i ≠ a := fun z => e (by rw [z, ha] at hc; exact (Option.some.inj hc).symm)
    congr 3
    apply tab_congr
    intro j _
    simp [hia]
end
section
variable {X : Cx} {g : W5} {N : List Str} {k : Nat} {α β γ : Type} {R : Rep α} {T : Rep β} {σ : L2.St} {H H0 Hb Hc Hk : Hp} {a : α} {b : β} {v : V} {e e1 e2 tg : Expr} {es : List Expr} {pos p p1 p2 p3 p4 tpos : Pos} {x : Str} {Φ Φ' : V → Hp → Prop} {n : Nat} {D : Ends} {st : Stmt} {sts rest : List Stmt}
/-- found.append(e) -/
theorem s_app [c : CtxZ (u1 X) g N k] {j : Nat} {l : Addr} {xs : List V} (h : EP (u1 X) e σ Hb Φ) (cx : Ex Hb H) (hH : H l = some (.lst xs)) (hz : xs.length ≤ 1000000) (q : ∀ v Hk H2, Go no Hb H Hk H2 → Φ v Hk → H2 l = some (.lst xs) → D.nx σ (upd H2 l (.lst (xs ++ [v]))))
    (hN : N[j]? = some x := by rfl) (hl : σ[j]? = some (some (.ref l)) := by rfl) (hv : Vis X.env.scope x := by first | exact Or.inl rfl | exact Or.inr (Or.inl rfl) | exact Or.inr (Or.inr rfl)) (hbase : attributeBase (.Name x p1) ("append" : Str) X.env (eval (.Name x p1) X.env) = eval (.Name x p1) X.env := by rfl)
    (hfew : ((backTo p3 (starEach [e] X.env)).all (fun x => !x.1) && (backToKw p3 (keywordEach [] X.env)).all (fun x => x.1.isSome) && decide ([e].length + ([] : List Keyword).length + (if ([] : List Keyword).isEmpty then 0 else 1) < 30)) = true := by rfl)
    (hline : (p2.endLine == p3.line) = true := by rfl) (he : NS e := by intro _ _; rfl) (hs : swapsWith (.Call (.Attribute (.Name x p1) "append" p2) [e] [] p3) none pos.line X.env = pure false := by rfl) : wS X (.Expr (.Call (.Attribute (.Name x p1) "append" p2) [e] [] p3) pos) D σ H := by
  have hn0 : X.N = N := c.nm ()
  refine ⟨_, ps_expr (pe_bm PySem.F.plainAttrs_list PySem.F.slot_list_append PySem.F.type_list_append mt_append (pe_var (i := j) (by rw [hn0]; exact hN) hv (c.dbg x (List.mem_of_getElem? hN)).1 (c.dbg x (List.mem_of_getElem? hN)).2) (wA_ok (X := u1 X) ()) hbase hfew hline (he _ _)) hs, ?_⟩
  refine ⟨_, hl, .inl ⟨rfl, xs, SqL.of hH⟩, ?_⟩
  refine ⟨tCons (wE (u1 X) e) tNil, fun _ => pa_cons (wE_ok _) pa_nil (he _ _), ?_⟩
  refine h H cx _ fun v Hk H2 g1 r => ?_
  have h2 := g1.real l _ (fun z => z) hH
  exact ⟨l, xs, v, rfl, rfl, h2, Nat.lt_of_le_of_lt hz (by decide), q v Hk H2 g1 r h2⟩
/-- found = [] -/
theorem s_nilL [c : CtxZ (u1 X) g N k] (j : Nat) (q : ∀ l, H l = none → D.nx (σ.set j (some (.ref l))) (upd H l (.lst []))) {pos' : Pos}
    (hN : N[j]? = some x := by rfl) (hx : Loc X.env.scope x := by first | exact .inl rfl | exact .inr rfl) (hs : swapsWith (.List [] p1) (some (.Name x pos')) pos.line X.env = pure false := by rfl) (hf : X.fn x = true ∨ X.env.scope.names.lookup x = some .local := by first | exact .inl rfl | exact .inr rfl) :
    wS X (.Assign [.Name x pos'] (.List [] p1) pos) D σ H :=
  s_setw j ⟨_, fun _ => pe_lst pa_nil, Nat.zero_le _, fun l hl => q l hl⟩ hN hx hs hf
/-- for name in range(e): any invariant of turn, slots, heap -/
theorem s_forR [c : CtxZ (u1 X) g N k] {body : List Stmt} (hm : g.mg "range" = none) (j : Nat) (h : EV (u1 X) e σ Hb rInt ((n : Nat) : Int)) (cx : Ex Hb H) (hn : n < 2 ^ 62) (Iv : Nat → L2.St → Hp → Prop) (h0 : ∀ Hk H2, Go no Hb H Hk H2 → Iv 0 σ H2)
    (hs : ∀ i σ' H', i < n → Iv i σ' H' → wSs X body { D with nx := Iv (i + 1), ct := Iv (i + 1), bk := D.nx } (σ'.set j (some (.int (i : Int)))) H') (hd : ∀ σ' H', Iv n σ' H' → D.nx σ' H') {pos' : Pos}
    (hp : PassesOwn (model X.prog X.w) X.A X.env X.xe := by exact PassesOwn.never) (hf : ∀ x, foldedSetIterable (.Call (.Name "range" p) [e] [] pos) X.env x = pure x := by intro _; rfl)
    (hg : Gl X "range" := by rfl) (hns : NS e := by intro _ _; rfl) (hN : N[j]? = some x := by rfl) (hx : Loc X.env.scope x := by first | exact .inl rfl | exact .inr rfl) (hfn : X.fn x = true ∨ X.env.scope.names.lookup x = some .local := by first | exact .inl rfl | exact .inr rfl) :
    wS X (.For (.Name x pos') (.Call (.Name "range" p) [e] [] pos) body [] tpos) D σ H :=
  ⟨_, ps_for hp (c.calm ()) (pi_range1 hg ((congrFun (c.mg ()) _).trans hm) (wA_ok (X := u1 X) ()) (hns _ _)) (pg_name (i := j) (by have := c.nm (); rw [show X.N = N from this]; exact c.nd) (by have := c.nm (); rw [show X.N = N from this]; exact hN) hx hfn) wSs_ok hf, by
    refine ac h a0 hns H cx _ fun vs Hk H2 g1 r => ?_
    obtain ⟨v, rfl, r1⟩ := AL.one r
    have r1 : v = .int (n : Int) := r1
    subst r1
    refine ⟨(n : Int), rfl, by omega, by omega, fun i m σ' H' => m = n - i ∧ i ≤ n ∧ Iv i σ' H', ⟨n, by simp, Nat.zero_le _, h0 _ _ g1⟩, ?_⟩
    rintro i m σ' H' ⟨rfl, hle, hI⟩
    by_cases hlt : i < n
    · refine .inr ⟨by show i < ((n : Nat) : Int).toNat; omega, Iv (i + 1), fun σ2 H3 q => ⟨n - (i + 1), by omega, rfl, hlt, q⟩, fun v H3 hy => ?_⟩
      obtain ⟨rfl, rfl⟩ := hy
      rw [Int.zero_add]
      exact hs i σ' _ hlt hI
    · have e : i = n := by omega
      subst e
      exact .inl ⟨by show ((_ : Nat) : Int).toNat ≤ _; omega, hd _ _ hI⟩⟩
/-- the statements' readings are monotone in what may follow -/
theorem wSs_mono {D' : Ends} (h : wSs X sts D σ H) (n1 : ∀ s h, D.nx s h → D'.nx s h) (n2 : ∀ s h, D.ct s h → D'.ct s h) (n3 : ∀ s h, D.bk s h → D'.bk s h) (n4 : ∀ v h, D.rt v h → D'.rt v h) : wSs X sts D' σ H := by
  obtain ⟨t, ht, h⟩ := h
  exact ⟨fun D' σ H => ∃ D0 : Ends, t D0 σ H ∧ (∀ s h, D0.nx s h → D'.nx s h) ∧ (∀ s h, D0.ct s h → D'.ct s h) ∧ (∀ s h, D0.bk s h → D'.bk s h) ∧ (∀ v h, D0.rt v h → D'.rt v h), ⟨fun pins s σ H D' I ⟨D0, h, a1, a2, a3, a4⟩ => thn (ht.run pins s σ H D0 I h) fun f s' q => by
      cases f with
      | next => obtain ⟨s1, h1, I1, q1⟩ := q; exact ⟨s1, h1, I1, a1 _ _ q1⟩
      | brk => obtain ⟨s1, h1, I1, q1⟩ := q; exact ⟨s1, h1, I1, a3 _ _ q1⟩
      | cont => obtain ⟨s1, h1, I1, q1⟩ := q; exact ⟨s1, h1, I1, a2 _ _ q1⟩
      | ret u => obtain ⟨v1, s1, h1, I1, r1, q1⟩ := q; exact ⟨v1, s1, h1, I1, r1, a4 _ _ q1⟩⟩, _, h, n1, n2, n3, n4⟩
/-- a for over a base: Iv turn slots base heap -/
theorem s_forB [c : CtxZ (u1 X) g N k] {body : List Stmt} {Y : Nat → V → Hp → Prop} (hi : EI (u1 X) tg e σ Hb n Y) (cx : Ex Hb H) (Iv : Nat → L2.St → Hp → Hp → Prop) (h0 : Iv 0 σ Hb H)
    (up : ∀ i σ' Hk Hm H1 H2, Iv i σ' Hk H1 → Go no Hk H1 Hm H2 → Iv i σ' Hm H2) (ex : ∀ i σ' Hk H', Iv i σ' Hk H' → Ex Hk H')
    (hs : ∀ i σ' Hk H' v, i < n → Ex Hb Hk → Iv i σ' Hk H' → (∃ H0, Ex H0 Hk ∧ Y i v H0) → wG (u1 X) tg v σ' H' fun σ2 H3 => wSs X body { D with nx := fun σ3 H4 => ∃ Hm, Ex Hk Hm ∧ Iv (i + 1) σ3 Hm H4, ct := fun σ3 H4 => ∃ Hm, Ex Hk Hm ∧ Iv (i + 1) σ3 Hm H4, bk := D.nx } σ2 H3)
    (hd : ∀ σ' Hk H', Ex Hb Hk → Iv n σ' Hk H' → D.nx σ' H') (hp : PassesOwn (model X.prog X.w) X.A X.env X.xe := by exact PassesOwn.never) (hf : ∀ x, foldedSetIterable e X.env x = pure x := by intro _; rfl) : wS X (.For tg e body [] pos) D σ H := by
  refine s_for hi cx (fun H0 i σ' H' => ∃ Hk, Ex H0 Hk ∧ Iv i σ' Hk H') (fun Hk H2 g1 => ⟨Hk, Ex.refl _, up _ _ _ _ _ _ h0 g1⟩) (fun Hk i σ' H' _ ⟨Hl, e, h⟩ => e.trans (ex _ _ _ _ h)) (fun H0 i σ' H' v Hl H2 eb hin ⟨Hk, e, h⟩ gl hY => ?_) (fun H0 σ' H' eb ⟨Hk, e, h⟩ => hd σ' Hk H' (eb.trans e) h) hp hf
  obtain ⟨g2, e2⟩ := gl.over e (ex _ _ _ _ h)
  refine wG_mono (hs i σ' (ovr Hk Hl) H2 v hin ((eb.trans e).trans g2.base) (up _ _ _ _ _ _ h g2) ⟨Hl, e2, hY⟩) fun σ2 H3 hb => ?_
  exact wSs_mono hb (fun s h ⟨Hz, ez, hz⟩ => ⟨Hz, (e.trans g2.base).trans ez, hz⟩) (fun s h ⟨Hz, ez, hz⟩ => ⟨Hz, (e.trans g2.base).trans ez, hz⟩) (fun _ _ z => z) fun _ _ z => z
/-! stores -/
/-- l[i] = an int, in a list of ints of one's own -/
theorem gL [c : CtxZ (u1 X) g N k] {j : Nat} {l : Addr} {xs : List V} {i : Int} (t : Nat) {P : L2.St → Hp → Prop} (h2 : EV (u1 X) e2 σ Hb rInt i) (cx : Ex Hb H) (hi : i = (t : Int)) (ht : t < xs.length) (hH : H l = some (.lst xs)) (q : ∀ Hk H2, Go no Hb H Hk H2 → H2 l = some (.lst xs) → P σ (upd H2 l (.lst (xs.set t v))))
    (hN : N[j]? = some x := by rfl) (hl : σ[j]? = some (some (.ref l)) := by rfl) (hv : Vis X.env.scope x := by first | exact Or.inl rfl | exact Or.inr (Or.inl rfl) | exact Or.inr (Or.inr rfl))
    (ha : ∀ v, assign (.Subscript (.Name x p1) e2 pos) X.env v = (do
      let ov₀ ← holding [v] (eval (.Name x p1) X.env)
      let iv₀ ← holding [v, ov₀] (eval e2 X.env)
      standAt pos
      holding [v, ov₀, iv₀] (setItem ov₀ iv₀ v)
      release [v, ov₀, iv₀] []) := by intro _; rfl) : wG (u1 X) (.Subscript (.Name x p1) e2 pos) v σ H P :=
  ⟨_, P, fun _ => pg_sub (pe_var (i := j) (by have := c.nm (); rw [show X.N = N from this]; exact hN) hv (c.dbg x (List.mem_of_getElem? hN)).1 (c.dbg x (List.mem_of_getElem? hN)).2) (wE_ok (X := u1 X) ()) set_list ha, ⟨_, hl, h2 H cx _ fun u₀ Hk H2 g1₀ r₀ => by
    have h2 := g1₀.real l _ (fun z₀ => z₀) hH
    exact ⟨l, xs, i, t, rfl, r₀, h2, by rw [hi]; unfold ixN; simp; omega, q Hk H2 g1₀ h2⟩⟩, fun _ _ z₀ => z₀⟩
/-- M[a][b] = an int, M a matrix of one's own -/
theorem gM [c : CtxZ (u1 X) g N k] {j : Nat} {pa : Addr} {as : List Addr} {m : Nat} {f : Nat → Nat → Int} {w ia ib : Int} (ta tb : Nat) {P : L2.St → Hp → Prop} (M : Mx H pa as m f) (h1 : EV (u1 X) e1 σ H rInt ia) (h2 : EV (u1 X) e2 σ H rInt ib) (hia : ia = (ta : Int)) (hib : ib = (tb : Int)) (hta : ta < m) (htb : tb < m)
    (q : ∀ H2 H3 r, Ex H H2 → r ∈ as → (∃ o, H3 = upd H2 r o) → Mx H3 pa as m (fun x y => if x = ta ∧ y = tb then w else f x y) → P σ H3)
    (hN : N[j]? = some x := by rfl) (hl : σ[j]? = some (some (.ref pa)) := by rfl) (hv : Vis X.env.scope x := by first | exact Or.inl rfl | exact Or.inr (Or.inl rfl) | exact Or.inr (Or.inr rfl)) (hp1 : PlainIx e1 := by intro _ _; rfl)
    (ha : ∀ v, assign (.Subscript (.Subscript (.Name x p1) e1 p2) e2 pos) X.env v = (do
      let ov₀ ← holding [v] (eval (.Subscript (.Name x p1) e1 p2) X.env)
      let iv₀ ← holding [v, ov₀] (eval e2 X.env)
      standAt pos
      holding [v, ov₀, iv₀] (setItem ov₀ iv₀ v)
      release [v, ov₀, iv₀] []) := by intro _; rfl) : wG (u1 X) (.Subscript (.Subscript (.Name x p1) e1 p2) e2 pos) (.int w) σ H P :=
  ⟨_, P, fun _ => pg_sub (pe_ix (ix_K (X := u1 X) ()) (pe_var (i := j) (by have := c.nm (); rw [show X.N = N from this]; exact hN) hv (c.dbg x (List.mem_of_getElem? hN)).1 (c.dbg x (List.mem_of_getElem? hN)).2) (wE_ok (X := u1 X) ()) hp1) (wE_ok (X := u1 X) ()) set_list ha, by
    refine ⟨_, hl, h1 H (Ex.refl _) _ fun u₀ Hk H2 g1₀ r1₀ => ?_⟩
    have r1₀ : u₀ = .int ia := r1₀
    subst r1₀
    have hta'₀ : ta < as.length := by rw [M.len]; exact hta
    refine .inl ⟨pa, as.map .ref, ia, .ref as[ta], rfl, rfl, SqL.of (g1₀.ex _ _ M.top), atI_of hia (by simp [hta'₀]), ?_⟩
    refine (h2.mono g1₀.base) H2 g1₀.on _ fun u2₀ Hl H3 g2₀ r2₀ => ?_
    have r2₀ : u2₀ = .int ib := r2₀
    subst r2₀
    have e3₀ : Ex H H3 := g1₀.ex.trans g2₀.ex
    have hrow₀ := e3₀ _ _ (M.row ta as[ta] (by simp [hta'₀]))
    refine ⟨as[ta], _, ib, tb, rfl, rfl, hrow₀, by rw [hib]; unfold ixN; simp; omega, ?_⟩
    exact q H3 _ as[ta] e3₀ (by simp) ⟨_, rfl⟩ ((M.mono e3₀).store (by simp [hta'₀]) htb), fun _ _ z₀ => z₀⟩
end
end Z
/-! Z6: expressions that take from the draws; starred displays. -/
namespace Z
open PySem.Spec PySem PyProof.Rows L2
/-- the draws at d -/
def Dw (H : Hp) (d : Addr) : Prop := ∃ l : List Int, l.length ≤ 5000 ∧ H d = some (.lst (l.map .int))
theorem Dw.live {H : Hp} {d : Addr} (h : Dw H d) : H d ≠ none := by obtain ⟨l, _, e⟩ := h; rw [e]; exact fun z => nomatch z
theorem Dw.go {S : Addr → Prop} {Hb H Hk H2 : Hp} {d : Addr} (h : Dw H d) (g : Go S Hb H Hk H2) (hs : ¬ S d) : Dw H2 d := by obtain ⟨l, z, e⟩ := h; exact ⟨l, z, g.real d _ hs e⟩
theorem Dw.ex {H H2 : Hp} {d : Addr} (h : Dw H d) (e : Ex H H2) : Dw H2 d := by obtain ⟨l, z, q⟩ := h; exact ⟨l, z, e _ _ q⟩
theorem Dw.ne {H0 Hk H : Hp} {d l : Addr} {o : HO} (h : Dw H0 d) (m : Mu H0 Hk H l o) : l ≠ d := fun z => h.live (z ▸ m.new)
theorem Dw.neM {H0 Hk H : Hp} {d p : Addr} {as : List Addr} {n : Nat} {f : Nat → Nat → Int} (h : Dw H0 d) (m : MxM H0 Hk H p as n f) : ∀ b ∈ p :: as, ¬ b = d := fun b hb z => h.live (z ▸ m.new b hb)
/-- changes of the draws alone, the base as it was -/
abbrev Gd (d : Addr) (Hb H H2 : Hp) : Prop := Go (· = d) Hb H Hb H2
/-- an int by an expression that may take from the draws -/
def ED {ι : Type} (X : ι → Cx) (d : Addr) (e : Expr) (σ : L2.St) (Hb : Hp) (P : Int → Prop) : Prop := Hb d = none → ∀ H1, Ex Hb H1 → Dw H1 d → ∀ Q : VK, (∀ i H2, Gd d Hb H1 H2 → Dw H2 d → P i → Q (.int i) H2) → wE X e σ H1 Q
def EDT {ι : Type} (X : ι → Cx) (d : Addr) (e : Expr) (σ : L2.St) (Hb : Hp) (P : Bool → Prop) : Prop := Hb d = none → ∀ H1, Ex Hb H1 → Dw H1 d → ∀ Q : Bool → Hp → Prop, (∀ b H2, Gd d Hb H1 H2 → Dw H2 d → P b → Q b H2) → wT X e σ H1 Q
def EDW {ι : Type} (X : ι → Cx) (d : Addr) (e : Expr) (σ : L2.St) (Hb : Hp) (P : Bool → Prop) : Prop := Hb d = none → ∀ H1, Ex Hb H1 → Dw H1 d → ∀ Q : Bool → Hp → Prop, (∀ b H2, Gd d Hb H1 H2 → Dw H2 d → P b → Q b H2) → wW X e σ H1 Q
theorem Gd.of {d : Addr} {Hb H H2 : Hp} (c : Ex Hb H) (e : Ex H H2) : Gd d Hb H H2 := (Go.ofEx c e).more
section
variable {ι : Type} {X : ι → Cx} {g : W5} {N : List Str} {k : Nat} {α β γ : Type} {R : Rep α} {T : Rep β} {σ : L2.St} {Hb Hc : Hp} {a : α} {b : β} {v : V} {e e1 e2 tg : Expr} {es : List Expr} {pos p tpos : Pos} {x : Str} {n m : Nat} {f : Nat → Nat → Int} {l : List Int} {d : Addr} {P P1 P2 : Int → Prop} {i j : Int} {PB : Bool → Prop}
theorem ED.imp (h : ED X d e σ Hb P) (f : ∀ i, P i → P1 i) : ED X d e σ Hb P1 := fun hd H1 c h1 Q q => h hd H1 c h1 Q fun i H2 a b r => q i H2 a b (f i r)
/-- without a draw -/
theorem edP (h : EV X e σ Hb rInt i) : ED X d e σ Hb (· = i) := fun hd H1 c h1 Q q => h H1 c Q fun v Hk H2 g1 r => by
  cases (show v = .int i from r)
  exact q i H2 (Gd.of c g1.ex) (h1.ex g1.ex) rfl
theorem edPT {t : Bool} (h : ET X e σ Hb t) : EDT X d e σ Hb (· = t) := fun hd H1 c h1 Q q => h H1 c Q fun Hk H2 g1 => q t H2 (Gd.of c g1.ex) (h1.ex g1.ex) rfl
theorem ed_op {op : Operator} {g0 : Int → Int → Int} (h1 : ED X d e1 σ Hb P1) (h2 : ED X d e2 σ Hb P2) (ho : ∀ i, OpR (X i) (binaryOp op) (rI0 fun a b => .int (g0 a b))) : ED X d (.BinOp e1 op e2 pos) σ Hb (fun z => ∃ a b, P1 a ∧ P2 b ∧ z = g0 a b) := fun hd H1 c dw Q q =>
  ⟨_, fun i => pe_op (ho i) (wE_ok i) (wE_ok i), h1 hd H1 c dw _ fun a H2 g1 d1 p1 => h2 hd H2 g1.on d1 _ fun b H3 g2 d2 p2 => ⟨a, b, rfl, rfl, q _ H3 (g1.trans g2) d2 ⟨a, b, p1, p2, rfl⟩⟩⟩
theorem ed_add (h1 : ED X d e1 σ Hb P1) (h2 : ED X d e2 σ Hb P2) : ED X d (.BinOp e1 .Add e2 pos) σ Hb (fun z => ∃ a b, P1 a ∧ P2 b ∧ z = a + b) := ed_op h1 h2 fun _ => op_add
theorem ed_sub (h1 : ED X d e1 σ Hb P1) (h2 : ED X d e2 σ Hb P2) : ED X d (.BinOp e1 .Sub e2 pos) σ Hb (fun z => ∃ a b, P1 a ∧ P2 b ∧ z = a - b) := ed_op h1 h2 fun _ => op_sub
theorem ed_mul (h1 : ED X d e1 σ Hb P1) (h2 : ED X d e2 σ Hb P2) (hb : ∀ a b, P1 a → P2 b → Bd a ∧ Bd b) : ED X d (.BinOp e1 .Mult e2 pos) σ Hb (fun z => ∃ a b, P1 a ∧ P2 b ∧ z = a * b) := fun hd H1 c dw Q q =>
  ⟨_, fun i => pe_op op_mulW (wE_ok i) (wE_ok i), h1 hd H1 c dw _ fun a H2 g1 d1 p1 => h2 hd H2 g1.on d1 _ fun b H3 g2 d2 p2 => ⟨a, b, rfl, rfl, wide_mul (hb a b p1 p2).1 (hb a b p1 p2).2 (by decide) (by decide) (by decide), q _ H3 (g1.trans g2) d2 ⟨a, b, p1, p2, rfl⟩⟩⟩
theorem ed_md (h1 : ED X d e1 σ Hb P1) (h2 : ED X d e2 σ Hb P2) (hb : ∀ b, P2 b → 0 < b) : ED X d (.BinOp e1 .Mod e2 pos) σ Hb (fun z => ∃ a b, P1 a ∧ P2 b ∧ z = a % b) := fun hd H1 c dw Q q =>
  ⟨_, fun i => pe_op op_mod (wE_ok i) (wE_ok i), h1 hd H1 c dw _ fun a H2 g1 d1 p1 => h2 hd H2 g1.on d1 _ fun b H3 g2 d2 p2 => ⟨a, b, rfl, rfl, hb b p2, q _ H3 (g1.trans g2) d2 ⟨a, b, p1, p2, rfl⟩⟩⟩
theorem ed_dv (h1 : ED X d e1 σ Hb P1) (h2 : ED X d e2 σ Hb P2) (hb : ∀ b, P2 b → 0 < b ∧ Bd b) : ED X d (.BinOp e1 .FloorDiv e2 pos) σ Hb (fun z => ∃ a b, P1 a ∧ P2 b ∧ z = a / b) := fun hd H1 c dw Q q =>
  ⟨_, fun i => pe_op op_fdivW (wE_ok i) (wE_ok i), h1 hd H1 c dw _ fun a H2 g1 d1 p1 => h2 hd H2 g1.on d1 _ fun b H3 g2 d2 p2 => ⟨a, b, rfl, rfl, wide_div (hb b p2).1 (hb b p2).2 (by decide) (by decide), q _ H3 (g1.trans g2) d2 ⟨a, b, p1, p2, rfl⟩⟩⟩
theorem ed_ge (h1 : ED X d e1 σ Hb P1) (h2 : ED X d e2 σ Hb P2) : EDT X d (.Compare e1 [.GtE] [e2] pos) σ Hb (fun z => ∃ a b, P1 a ∧ P2 b ∧ z = decide (b ≤ a)) := fun hd H1 c dw Q q =>
  ⟨_, fun i => pt_cmpR op_ge (wE_ok i) (wE_ok i) (nomark _), h1 hd H1 c dw _ fun a H2 g1 d1 p1 => h2 hd H2 g1.on d1 _ fun b H3 g2 d2 p2 => ⟨a, b, rfl, rfl, _, rfl, q _ H3 (g1.trans g2) d2 ⟨a, b, p1, p2, rfl⟩⟩⟩
theorem ed_eq (h1 : ED X d e1 σ Hb P1) (h2 : ED X d e2 σ Hb P2) : EDT X d (.Compare e1 [.Eq] [e2] pos) σ Hb (fun z => ∃ a b, P1 a ∧ P2 b ∧ z = decide (a = b)) := fun hd H1 c dw Q q =>
  ⟨_, fun i => pt_cmpR op_eq (wE_ok i) (wE_ok i) (nomark _), h1 hd H1 c dw _ fun a H2 g1 d1 p1 => h2 hd H2 g1.on d1 _ fun b H3 g2 d2 p2 => ⟨rfl, decide (a = b), by show V.bl (decide (V.int a = V.int b)) = _; congr 1; simp, q _ H3 (g1.trans g2) d2 ⟨a, b, p1, p2, rfl⟩⟩⟩
theorem edW (h : EDW X d e σ Hb PB) : EDT X d e σ Hb PB := fun hd H1 c dw Q q => ⟨_, fun i => (wW_ok i).pt, h hd H1 c dw Q q⟩
theorem ed_and1 (h : EDT X d e σ Hb PB) : EDW X d (.BoolOp .And [e] pos) σ Hb PB := fun hd H1 c dw Q q => ⟨_, fun i => pw_and1 (wT_ok i), h hd H1 c dw Q q⟩
/-- c and e, c without a draw -/
theorem ed_and {t : Bool} {rest : List Expr} (h : ET X e σ Hb t) (h2 : t = true → EDW X d (.BoolOp .And (e1 :: rest) pos) σ Hb PB) : EDW X d (.BoolOp .And (e :: e1 :: rest) pos) σ Hb (fun b => if t = true then PB b else b = false) := fun hd H1 c dw Q q =>
  ⟨_, fun i => pw_and (wT_ok i) (wW_ok i), h H1 c _ fun Hk H2 g1 => by
    cases t with
    | true => exact h2 rfl hd H2 (c.trans g1.ex) (dw.ex g1.ex) Q fun b H3 g2 d2 p => q b H3 ((Gd.of c g1.ex).trans g2) d2 (by simpa using p)
    | false => exact q false H2 (Gd.of c g1.ex) (dw.ex g1.ex) (by simp)⟩
/-- int(..) -/
theorem ed_int [c : CtxZ X g N k] (hm : g.mg "int" = none) (h : ED X d e σ Hb P) (hg : ∀ i, Gl (X i) "int" := by intro _; rfl) (hs : NS e := by intro _ _; rfl) (hpl : ∀ i, (backTo pos (starEach [] (X i).env)).any (·.1) = false := by intro _; rfl) : ED X d (.Call (.Name "int" p) [e] [] pos) σ Hb P := fun hd H1 c1 dw Q q =>
  ⟨_, fun i => pe_callTy call_int1 (hg i) ((congrFun (c.mg i) _).trans hm) (by decide +kernel) (wA_ok i) (by decide) (by decide) (hs _ _) (hpl i), ⟨_, fun i => pa_cons (wE_ok i) pa_nil (hs _ _), h hd H1 c1 dw _ fun i H2 g1 d1 p1 => .inl ⟨i, rfl, q i H2 g1 d1 p1⟩⟩⟩
/-- l[e], l a list of ints -/
theorem ed_ix [c : CtxZ X g N k] {S : Rep (List Int)} [hS : IsS S rInt] {l : List Int} (h1 : EV X e1 σ Hb S l) (h2 : ED X d e2 σ Hb P) (hP : ∀ i, P i → 0 ≤ i ∧ i < l.length) (hs : PlainIx e2 := by intro _ _; rfl) : ED X d (.Subscript e1 e2 pos) σ Hb (fun z => z ∈ l) := fun hd H1 c1 dw Q q =>
  ⟨_, fun i => pe_ix (ix_K i) (wE_ok i) (wE_ok i) hs, h1 H1 c1 _ fun v Hk H2 g1 r1 => (h2 hd) H2 (c1.trans g1.ex) (dw.ex g1.ex) _ fun i H3 g2 d2 p2 => by
    have hi := hP i p2
    have hj : i.toNat < l.length := by omega
    have r1' : S.r Hk v l := r1
    obtain ⟨p, xs, y, rfl, b, hy, ry⟩ := rS.get (hS.to _ _ _ r1') (List.getElem?_eq_getElem hj)
    have ry : y = .int l[i.toNat] := ry
    subst ry
    have ne : p ≠ d := fun z => by
      subst z
      obtain ⟨w, _, hw⟩ := dw.ex g1.ex
      have hk : Hk p ≠ none := by rcases b with b | b <;> (rw [b]; exact fun z => nomatch z)
      exact hk (g1.fr p dw.live hd)
    have q2 := q l[i.toNat] H3 ((Gd.of c1 g1.ex).trans g2) d2 (by simp)
    have hi2 : i = ((i.toNat : Nat) : Int) := by omega
    rcases b with b | b
    · exact .inl ⟨p, xs, i, _, rfl, rfl, SqL.of (g2.real _ _ ne (g1.on _ _ b)), atI_of hi2 hy, q2⟩
    · exact .inr (.inl ⟨p, xs, i, _, rfl, rfl, SqT.of (g2.real _ _ ne (g1.on _ _ b)), atI_of hi2 hy, q2⟩)⟩
/-- a def that takes from the draws (its first argument), and hands back an int -/
def spD {τ : Type} (args : τ → AL) (pre : τ → Prop) (post : τ → Int → Prop) : Sp := fun vs H1 Q _ => ∃ (t : τ) (Hb : Hp) (d : Addr) (us : List V), vs = .ref d :: us ∧ Ex Hb H1 ∧ Hb d = none ∧ Dw H1 d ∧ (args t).r Hb us ∧ pre t ∧ ∀ i H2, Gd d Hb H1 H2 → Dw H2 d → post t i → Q (.int i) H2
theorem len_ofD {τ : Type} {args : τ → AL} {pre : τ → Prop} {post : τ → Int → Prop} {n : Nat} (h : ∀ t H vs, (args t).r H vs → vs.length = n) : ∀ vs H Q E, spD args pre post vs H Q E → vs.length = n + 1 := fun vs H Q E ⟨t, Hb, d, us, e, _, _, _, r, _⟩ => by rw [e, List.length_cons, h t Hb us r]
theorem callD [c : CtxZ X g N k] {CX : CXT} {k' : Nat} {ps : List Str} {τ : Type} {args : τ → AL} {pre : τ → Prop} {post : τ → Int → Prop} {L : AL} {jd : Nat} {xd : Str} {pd : Pos} (F : FnB g CX k' x ps [] (spD args pre post)) (t : τ) (ha : EL X es σ Hb L) (hL : args t = L := by rfl) (hp : pre t := by trivial) (hk : k' ≤ k := by decide)
    (hN : N[jd]? = some xd := by rfl) (hσ : σ[jd]? = some (some (.ref d)) := by rfl) (hv : ∀ i, Vis (X i).env.scope xd := by intro _; first | exact Or.inl rfl | exact Or.inr (Or.inl rfl) | exact Or.inr (Or.inr rfl))
    (hg : ∀ i, Gl (X i) x := by intro _; rfl) (hdb : (x == ("__debug__" : Str)) = false := by decide)
    (hpl : ∀ i, (backTo pos (starEach es (X i).env)).any (·.1) = false := by intro _; rfl) : ED X d (.Call (.Name x p) (.Name xd pd :: es) [] pos) σ Hb (post t) := fun hd H1 c1 dw Q q =>
  wcall F hk ⟨_, fun i => pa_cons (pe_var (i := jd) (by rw [c.nm i]; exact hN) (hv i) (c.dbg xd (List.mem_of_getElem? hN)).1 (c.dbg xd (List.mem_of_getElem? hN)).2) (wA_ok i) (by rfl), _, hσ, by
    refine ha H1 c1 _ fun vs Hk H2 g1 r => ?_
    have e2 : Ex H1 H2 := g1.ex
    refine ⟨t, Hk, d, vs, by rw [List.append_nil], g1.on, g1.fr d dw.live hd, dw.ex e2, by rw [hL]; exact r, hp, fun i H3 g2 d2 p2 => ?_⟩
    exact q i H3 ⟨fun b o s h => g2.real b o s (e2 b o h), fun b h => g2.live b fun z => h (e2.none z), Ex.refl _, g1.base.trans g2.on, fun _ _ z => z⟩ d2 p2⟩ hg hdb (by intro _ _; rfl) hpl
/-- a new list of ints by a comprehension whose element may take from the draws -/
theorem lcD_run {elt : Expr} {scope : Scope} {Y : Nat → V → Hp → Prop} {vs : List Nat} (hi : EI X tg e σ Hb n Y) (hn : n ≤ 1000000) (hd0 : Hb d = none) (Pe : Nat → Int → Prop)
    (ht : ∀ i x Hk H, i < n → Ex Hb Hk → Ex Hk H → Y i x Hk → wG (bX X scope) tg x (wipe σ vs) H fun σ2 H2 => H2 = H ∧ wipe σ2 vs = wipe σ vs ∧ ED (bX X scope) d elt σ2 Hk (Pe i))
    {H1 : Hp} (c1 : Ex Hb H1) (dw : Dw H1 d) {Q : VK} (q : ∀ D (l : List Int) H2, H1 D = none → Gd d Hb H1 H2 → Dw H2 d → H2 D = some (.lst (l.map .int)) → l.length = n → (∀ i (h : i < l.length), Pe i l[i]) → Q (.ref D) H2) :
    tLc (wI X tg e) (wG (bX X scope) tg) (wTs (bX X scope) []) (wE (bX X scope) elt) vs σ H1 Q := by
  refine hi H1 c1 _ fun J H0 H2 g1 hgo hstop hyld D hD => ?_
  have hD0 : H0 D = none := g1.on.none hD
  have hd00 : H0 d = none := g1.fr d dw.live hd0
  have hDd : d ≠ D := fun z => (dw.ex g1.ex).live (z ▸ hD)
  refine ⟨fun i m H => m = n - i ∧ i ≤ n ∧ ∃ l : List Int, Gd d H0 H2 H ∧ Dw H d ∧ H D = some (.lst (l.map .int)) ∧ l.length = i ∧ ∀ j (h : j < l.length), Pe j l[j],
    ⟨n, by simp, Nat.zero_le _, [], (Go.newM g1.on hD).more, (dw.ex g1.ex).ex (Ex.new hD), upd_same, rfl, by simp⟩, ?_⟩
  rintro i m H ⟨rfl, hle, l, gl, dwH, hH, hl, hP⟩
  have exH : Ex H0 H := gl.on
  by_cases hlt : i < n
  · refine .inr ⟨hgo i H hlt exH, fun H' => i + 1 ≤ n ∧ ∃ l : List Int, Gd d H0 H2 H' ∧ Dw H' d ∧ H' D = some (.lst (l.map .int)) ∧ l.length = i + 1 ∧ ∀ j (h : j < l.length), Pe j l[j],
      fun H' h' => ⟨n - (i + 1), by omega, rfl, h'⟩, fun x H' hy => ?_⟩
    obtain ⟨Hm, gm, hY⟩ := hyld i H x H' hlt exH hy
    refine wG_mono (ht i x Hm H' hlt (g1.base.trans gm.base) gm.on hY) fun σ2 H3 ⟨eH, ew, ee⟩ => ⟨ew, ?_⟩
    subst eH
    refine ts0 (σ := σ2) H3 gm.on _ fun Hn H4 gn => ?_
    rw [if_pos rfl]
    have e4 : Ex H H4 := gm.ex.trans gn.ex
    have dw3 : Dw H3 d := dwH.ex gm.ex
    have hdm : Hm d = none := gm.fr d dwH.live hd00
    refine ee hdm H4 (gm.on.trans gn.ex) (dw3.ex gn.ex) _ fun w H5 g5 d5 p5 => ?_
    have hD5 : H5 D = some (.lst (l.map .int)) := g5.real D _ (fun z => hDd z.symm) (e4 _ _ hH)
    have g6 : Gd d H0 H2 H5 := gl.trans ⟨fun b o s h => g5.real b o s (e4 b o h), fun b h => g5.live b fun z => h (e4.none z), Ex.refl _, gm.base.trans g5.on, fun _ _ z => z⟩
    refine ⟨l.map .int, hD5, Nat.lt_of_lt_of_le (by rw [List.length_map, hl]; exact hlt) (Nat.le_trans hn (by decide)), hlt, l ++ [w], g6.wr (.inr hD) hD0, ?_, ?_, by simp [hl], ?_⟩
    · obtain ⟨u, zu, hu⟩ := d5
      exact ⟨u, zu, by rw [upd_ne hDd]; exact hu⟩
    · rw [upd_same]; simp
    · intro j hj
      by_cases hjl : j < l.length
      · rw [List.getElem_append_left hjl]; exact hP j hjl
      · have : j = i := by simp at hj; omega
        subst this
        rw [List.getElem_append_right (by omega)]
        simpa using p5
  · have e : i = n := by omega
    subst e
    refine .inl ⟨hstop H exH, ?_⟩
    have g7 : Gd d Hb _ H2 := Gd.of c1 g1.ex
    exact q D l H (g1.ex.none hD) (g7.trans ⟨gl.real, gl.live, Ex.refl _, g1.base.trans gl.on, fun _ _ z => z⟩) dwH hH hl hP
end
section
variable {X : Cx} {g : W5} {N : List Str} {k : Nat} {σ : L2.St} {H Hb Hc : Hp} {v : V} {e : Expr} {pos : Pos} {x : Str} {D : Ends} {d : Addr} {P : Int → Prop} {PB : Bool → Prop}
theorem s_setD [c : CtxZ (u1 X) g N k] (j : Nat) (h : ED (u1 X) d e σ Hb P) (cx : Ex Hb H) (hd : Hb d = none) (dw : Dw H d) (q : ∀ i H2, Gd d Hb H H2 → Dw H2 d → P i → D.nx (σ.set j (some (.int i))) H2) {pos' : Pos}
    (hN : N[j]? = some x := by rfl) (hx : Loc X.env.scope x := by first | exact .inl rfl | exact .inr rfl) (hs : swapsWith e (some (.Name x pos')) pos.line X.env = pure false := by rfl) (hf : X.fn x = true ∨ X.env.scope.names.lookup x = some .local := by first | exact .inl rfl | exact .inr rfl) :
    wS X (.Assign [.Name x pos'] e pos) D σ H := s_setw j (h hd H cx dw _ q) hN hx hs hf
theorem s_retD (h : ED (u1 X) d e σ Hb P) (cx : Ex Hb H) (hd : Hb d = none) (dw : Dw H d) (q : ∀ i H2, Gd d Hb H H2 → Dw H2 d → P i → D.rt (.int i) H2) : wS X (.Return (some e) pos) D σ H := s_retw (h hd H cx dw _ q)
theorem s_ifD {as bs : List Stmt} (h : EDT (u1 X) d e σ Hb PB) (cx : Ex Hb H) (hd : Hb d = none) (dw : Dw H d) (h1 : ∀ H2, Gd d Hb H H2 → Dw H2 d → PB true → wSs X as D σ H2) (h2 : ∀ H2, Gd d Hb H H2 → Dw H2 d → PB false → wSs X bs D σ H2) : wS X (.If e as bs pos) D σ H :=
  s_ifw (h hd H cx dw _ fun b H2 g1 d1 p => by
    cases b with
    | true => exact h1 H2 g1 d1 p
    | false => exact h2 H2 g1 d1 p)
end
/-! starred displays -/
def ES {ι : Type} {α : Type} (X : ι → Cx) (es : List Expr) (σ : L2.St) (Hb : Hp) (R : Rep α) (l : List α) : Prop := ∀ H1, Ex Hb H1 → ∀ Q : List V → Hp → Prop, (∀ vs Hk H2, Go no Hb H1 Hk H2 → P2 (R.r Hk) vs l → Q vs H2) → wA X es σ H1 Q
section
variable {ι : Type} {X : ι → Cx} {g : W5} {N : List Str} {k : Nat} {α β γ : Type} {R : Rep α} {σ : L2.St} {Hb Hc : Hp} {a : α} {v : V} {e e1 e2 tg : Expr} {es : List Expr} {pos p tpos : Pos} {l l2 : List α}
theorem ES.mono (h : ES X es σ Hb R l) (c : Ex Hb Hc) : ES X es σ Hc R l := fun H1 e1 Q q => h H1 (c.trans e1) Q fun v Hk H2 g p =>
  q v (ovr Hc Hk) H2 (g.over c e1).1 (p.imp fun _ _ => R.up (g.over c e1).2)
theorem es0 : ES X [] σ Hb R [] := fun H1 c Q q => ⟨_, fun _ => pa_nil, q [] Hb H1 (Go.refl c) .nil⟩
theorem esc (h : EV X e σ Hb R a) (hr : ES X es σ Hb R l) (hs : NS e := by intro _ _; rfl) : ES X (e :: es) σ Hb R (a :: l) := fun H1 c Q q =>
  ⟨_, fun i => pa_cons (wE_ok i) (wA_ok i) (hs _ _), h H1 c _ fun v Hk H2 g r => hr.mono g.base H2 g.on _ fun us Hl H3 g2 r2 => q _ Hl H3 (g.trans g2) (.cons (R.up g2.base r) r2)⟩
theorem pa_star_K [c : CtxZ X g N k] (hs : ∀ i, starEach (.Starred e p :: es) (X i).env = (true, eval e (X i).env) :: starEach es (X i).env) (i : ι) : PA (X i) (.Starred e p :: es) (StX.tStar g.K (wE X e) (wA X es)) := by
  rw [← c.K i]; exact StX.pa_star (wE_ok i) (wA_ok i) (hs i)
theorem esS [c : CtxZ X g N k] {S : Rep (List α)} [hS : IsS S R] (h : EV X e σ Hb S l) (hr : ES X es σ Hb R l2) (hs : ∀ i, starEach (.Starred e p :: es) (X i).env = (true, eval e (X i).env) :: starEach es (X i).env := by intro _; rfl) : ES X (.Starred e p :: es) σ Hb R (l ++ l2) := fun H1 c1 Q q =>
  ⟨_, fun i => pa_star_K hs i, h H1 c1 _ fun v Hk H2 g1 r => by
    obtain ⟨p, xs, rfl, b, r2⟩ := hS.to _ _ _ r
    refine ⟨p, xs, rfl, b.elim (fun b => .inr (SqL.of (g1.on _ _ b))) (fun b => .inl (SqT.of (g1.on _ _ b))), hr.mono g1.base H2 g1.on _ fun us Hl H3 g2 r3 => q _ Hl H3 (g1.trans g2) ((r2.imp fun _ _ => R.up g2.base).append r3)⟩⟩
/-- a list display -/
theorem dLs (h : ES X es σ Hb R l) (hz : l.length ≤ 1000) : EV X (.List es pos) σ Hb (rL R) l := fun H1 c1 Q q =>
  ⟨_, fun i => pe_lst (wA_ok i), h H1 c1 _ fun vs Hk H2 g1 r => ⟨Nat.le_trans (Nat.le_of_eq r.len) (Nat.le_trans hz (by decide)), fun p hp => q _ (upd Hk p (.lst vs)) _ (g1.trans (Go.new g1.on hp)) ⟨p, vs, rfl, upd_same, r.imp fun _ _ => R.up (Ex.new (g1.on.none hp))⟩⟩⟩
theorem dTs {j0 : Nat} (h : ES X es σ Hb R l) (hz : l.length ≤ 1000) : EV X (.Tuple es j0 pos) σ Hb (rT R) l := fun H1 c1 Q q =>
  ⟨_, fun i => pe_tup (wA_ok i), h H1 c1 _ fun vs Hk H2 g1 r => ⟨Nat.le_trans (Nat.le_of_eq r.len) (Nat.le_trans hz (by decide)), fun p hp => q _ (upd Hk p (.tup vs)) _ (g1.trans (Go.new g1.on hp)) ⟨p, vs, rfl, upd_same, r.imp fun _ _ => R.up (Ex.new (g1.on.none hp))⟩⟩⟩
end
end Z
/-! Z7: an __init__ that starts by super().__init__(..). -/
namespace Z
open PySem.Spec PySem PyProof.Rows L2 NdefX
/-- what the written part tells of the def at f, whose first statement is super().__init__(..): D its class, C the class of self, f2 the __init__ above -/
structure SupD (P : Program) (K : PySem.W.Frag) (name qual : Str) (params : Arguments) (body : List Stmt) (scope : Scope) (f cda cc D C f2 : Addr) (fd : FuncData) : Prop where
  fn : ∃ oc od osl dV kV doc pm an ct, K.lookup f = some ⟨oc, od, .func fd, osl⟩ ∧ fd = PySem.W.fnX name qual params body scope [("__class__", cc)] dV kV doc pm an (.ref cda) ct
  cd : PySem.W.codeIn K (.ref cda) qual = true
  code : ∃ c d vs sl file tf, K.lookup cda = some ⟨c, d, .fields vs, sl⟩ ∧ vs[2]? = some (.str file tf) ∧ ((P.main.file : Str) == file) = true
  cell : ∃ c d sl, K.lookup cc = some ⟨c, d, .cell (some (.ref D)), sl⟩
  cls : (PySem.W.clsIn K D).isSome = true
  sub : PySem.W.mroIn K C (.ref D) = some true
  ho : PySem.W.nsIn K cStatics "thirdparty.any" = some none
  up : PySem.W.ks_superIn K C D "__init__" = some (some (.ref f2))
  ty : PySem.W.typeIn K (.ref f2) = some (.type "function")
  fn2 : PySem.W.fnIn K f2 = true
  top : (P.main.scope.names.lookup ("super" : Str)).isSome = false
  boot : bootBuiltins ("super" : Str) = some (.type "super")
abbrev supN (name qual : Str) (params : Arguments) (body : List Stmt) (scope : Scope) (cda cc : Addr) : NF := ⟨name, qual, params, body, scope, [("__class__", cc)], cda⟩
section
variable {P : Program} {w : World} {K : PySem.W.Frag} {mg : Str → Option Value} {base : Heap} {name qual : Str} {params : Arguments} {rest : List Stmt} {scope : Scope} {f cda cc D C f2 : Addr} {fd fd2 : FuncData} {CX CX2 : CXT} {N ps ps2 : List Str} {sp sp2 : Sp} {k : Nat} {e : Expr} {es : List Expr} {p0 p1 p2 p3 p4 : Pos} {pl : Env → Sem Bool}
theorem sup_fn (S0 : SupD P K name qual params (.Expr (.Call (.Attribute (.Call (.Name "super" p0) [] [] p1) "__init__" p2) (e :: es) [] p3) p4 :: rest) scope f cda cc D C f2 fd)
    (S : NScope N (("self" : Str) :: ps) ["__class__"] scope) (hm : mg "super" = none) (hsg : scope.names.lookup ("super" : Str) = some .globalImplicit) (hself : ∃ ar, (params.posonlyargs ++ params.args).head? = some ar ∧ ar.arg = "self")
    (F2 : FnOk P w K mg base CX2 k f2 fd2 ps2 sp2) (hb2 : Binds K fd2 ps2 [])
    (len : ∀ vs H Q E, sp vs H Q E → vs.length = (("self" : Str) :: ps).length)
    (hbody : ∀ (A : Around) (outer : List Env) (s : Shared) (H : Hp) (vs : List V) (Q : VK) (E : XK), Room k (A.deeper (envF (supN name qual params (.Expr (.Call (.Attribute (.Call (.Name "super" p0) [] [] p1) "__init__" p2) (e :: es) [] p3) p4 :: rest) scope cda cc) f s.heap.objs.size)) → sp vs H Q E →
      ∃ (x dx : Addr) (fs : List (Str × V)) (us : List V) (ta : TA) (t : TS) (E2 : XK), vs = .ref x :: us ∧ H x = some (.ins C dx fs) ∧
        PA (ncx CX P w K mg base N (supN name qual params (.Expr (.Call (.Attribute (.Call (.Name "super" p0) [] [] p1) "__init__" p2) (e :: es) [] p3) p4 :: rest) scope cda cc) f A outer s H E) (e :: es) ta ∧
        PSs (ncx CX P w K mg base N (supN name qual params (.Expr (.Call (.Attribute (.Call (.Name "super" p0) [] [] p1) "__init__" p2) (e :: es) [] p3) p4 :: rest) scope cda cc) f A outer s H E) rest t ∧
        Passes CX2 (ncx CX P w K mg base N (supN name qual params (.Expr (.Call (.Attribute (.Call (.Name "super" p0) [] [] p1) "__init__" p2) (e :: es) [] p3) p4 :: rest) scope cda cc) f A outer s H E) E2 ∧
        ta (startF N vs [none]) H fun ws H1 => sp2 (.ref x :: ws) H1 (fun _ H2 => t { nx := fun _ H' => Q .non H', rt := Q } (startF N vs [none]) H2) E2)
    (hb₀ : Binds K fd (("self" : Str) :: ps) [])
    (he : ∀ env : Env, eval (.Call (.Attribute (.Call (.Name "super" p0) [] [] p1) "__init__" p2) (e :: es) [] p3) env = (do
      let ov₀ ← attributeBase (.Call (.Name "super" p0) [] [] p1) "__init__" env (eval (.Call (.Name "super" p0) [] [] p1) env)
      standAt p2.atName
      let (f, first) ← holding [ov₀] (getMethod ov₀ "__init__" (pl env))
      callWith p3 f first (backTo p3 (starEach (e :: es) env)) []) := by intro _; rfl)
    (hse : ∀ env : Env, starEach (e :: es) env = (false, eval e env) :: starEach es env := by intro _; rfl) (hpl : ∀ env : Env, (backTo p3 (starEach es env)).any (·.1) = false := by intro _; rfl)
    (hin : ∀ L : Addr, interactive (envF (supN name qual params (.Expr (.Call (.Attribute (.Call (.Name "super" p0) [] [] p1) "__init__" p2) (e :: es) [] p3) p4 :: rest) scope cda cc) f L) = false := by intro _; rfl) (hsw : ∀ env : Env, swapsWith (.Call (.Attribute (.Call (.Name "super" p0) [] [] p1) "__init__" p2) (e :: es) [] p3) none p4.line env = pure false := by intro _; rfl) :
    FnOk P w K mg base CX (k + 1) f fd (("self" : Str) :: ps) sp := by
  refine ⟨len, fun A outer s H args us vs Q E hr₀ e0₀ hbd₀ r₀ hsp₀ => ?_⟩
  obtain ⟨oc₀, od₀, osl₀, dV₀, kV₀, doc₀, pm₀, an₀, ct₀, lk₀, hfd₀⟩ := S0.fn
  have hl₀ := len _ _ _ _ hsp₀
  have bk₀ : ∀ b₀ o₀, base.get? b₀ = some o₀ → s.heap.get? b₀ = some o₀ := fun b₀ o₀ e => (e0₀.bs b₀ o₀ e).1
  have KX : K.In s.heap := e0₀.mod.kin.keeps bk₀
  have lim₀ : s.heap.NoLimit := e0₀.mod.nolimit.keeps bk₀
  obtain ⟨x, dx, fs, ws, ta, t, E2, hvs₀, hx₀, hta₀, ht1₀, ht2₀, hq₀⟩ := hbody A outer s H vs Q E (hr₀.deeper _) hsp₀
  subst hfd₀
  refine codeAny_call_function hr₀.depth (KX _ _ lk₀) rfl S.co S.gen rfl (PySem.W.codeRec_of KX S0.cd) (hbd₀ _ _ _ _ ?_)
  refine wpAny_newFunctionEnv S.nocell (fun ⟨n₀, _⟩ hy₀ => S.par n₀ (List.of_mem_zip hy₀).1) (fun h₁₀ hns₀ hsb₀ => ⟨lim₀.fresh _ hsb₀, ?_⟩) S.kind
  refine PySem.ks_codeAny_funcAt ?_
  have kp₀ : ∀ b₀ o₀, s.heap.get? b₀ = some o₀ → h₁₀.get? b₀ = some o₀ := fun b₀ o₀ e => hsb₀.extBut b₀ o₀ (Nat.ne_of_lt (Heap.lt_size e)) (Heap.get?_push_of_some _ e)
  have ht₀ := And.intro ht1₀ ht2₀
  obtain ⟨c1₀, c2₀, c3₀, hcell₀⟩ := S0.cell
  have ccb₀ := e0₀.mod.kin _ _ hcell₀
  have Cc : CellsAt [(("__class__" : Str), cc)] ["__class__"] [none] s.heap H := by
    refine ⟨rfl, fun y₀ c₀ h₀ => ?_, fun a₀ b₀ c₀ h1₀ h2₀ => ?_, fun i₀ y₀ h₀ => ?_⟩
    · have : c₀ = cc := by
        simp [List.lookup] at h₀
        split at h₀ <;> simp_all
      subst this
      exact ⟨(e0₀.bs _ _ ccb₀).2, _, _, bk₀ _ _ ccb₀, rfl⟩
    · simp [List.lookup] at h1₀ h2₀
      split at h1₀ <;> split at h2₀ <;> simp_all
    · cases i₀ with
      | zero => simp at h₀; subst h₀; exact ⟨cc, by simp [List.lookup], fun v₀ h₀ => by simp at h₀⟩
      | succ i₀ => simp at h₀
  have I : Inv (ncx CX P w K mg base N (supN name qual params (.Expr (.Call (.Attribute (.Call (.Name "super" p0) [] [] p1) "__init__" p2) (e :: es) [] p3) p4 :: rest) scope cda cc) f A outer s H E) [] (startF N vs [none]) H _ := inv_startN (tk := s.toks + ((("self" : Str) :: ps).zip us).length) S hr₀.hd e0₀ hl₀ r₀ Cc hns₀ kp₀
  refine PySem.ks_wpAt_execs_cons (PySem.ks_wpAt_Expr_any (PySem.ks_wpAt_MethodCall (pl := pl _) ?_ (he _)) (hin _) (hsw _))
  obtain ⟨ar, har₀, hsn₀⟩ := hself
  obtain ⟨d1₀, d2₀, pvs₀, d3₀, file₀, tf₀, hcode₀, hpv₀, hfile₀⟩ := S0.code
  obtain ⟨cdD₀, hcdD₀⟩ := Option.isSome_iff_exists.mp S0.cls
  have KX1 : K.In h₁₀ := KX.keeps kp₀
  obtain ⟨oD₀, hD1₀, hD2₀⟩ : ∃ oD₀, h₁₀.get? D = some oD₀ ∧ oD₀.data = .cls cdD₀ := by
    have hD₀ := hcdD₀
    unfold PySem.W.clsIn at hD₀
    split at hD₀
    · rename_i c₀ d₀ cd'₀ sl₀ ho₀
      cases hD₀
      exact ⟨_, KX1 _ _ ho₀, rfl⟩
    · cases hD₀
  obtain ⟨mb₀, hmb₀, hmb2₀⟩ := e0₀.mod.blt
  have bk1₀ : ∀ b₀ o₀, base.get? b₀ = some o₀ → h₁₀.get? b₀ = some o₀ := fun b₀ o₀ e => kp₀ _ _ (bk₀ _ _ e)
  have hkind₀ : scope.names.lookup (("self" : Str)) = some .local := S.par _ (List.mem_cons_self ..)
  subst hvs₀
  have huse₀ : ∃ us'₀, us = .ref x :: us'₀ := by
    cases r₀ with
    | cons a₀ b₀ => exact ⟨_, by rw [show _ = Value.ref x from a₀]⟩
  obtain ⟨us'₀, rfl⟩ := huse₀
  have hxs₀ : ((("self" : Str) :: ps).zip (Value.ref x :: us'₀)).reverse.lookup ("self" : Str) = some (.ref x) := zip_look (i := 0) (by
    have q₀ := S.nd.sublist (List.take_sublist ((("self" : Str) :: ps).length + [("__class__" : Str)].length) N)
    rw [S.pre] at q₀
    exact (List.nodup_append.mp q₀).1) rfl rfl
  refine PySem.ks_wpAt_super_base (f := f) (cc := cda) (ar := ar) hsg (S.frk _ (List.mem_singleton.mpr rfl)) (by decide) rfl (KX1 _ _ lk₀) rfl har₀ rfl (KX1 _ _ hcode₀) rfl hpv₀ hfile₀ S0.top ?_
  refine PySem.W.ks_loadName_global S.kind hsg (Calls.loadGlobal_builtin (e0₀.mod.glob.keeps bk1₀) hm (hmb₀.keeps bk1₀) ((hmb2₀ _ (by decide)).trans S0.boot) ⟨rfl, ?_⟩)
  refine wpAny_loadName_free S.kind (S.frk _ (List.mem_singleton.mpr rfl)) (c := cc) rfl ⟨_, KX1 _ _ hcell₀, rfl⟩ ?_
  refine wpAny_loadName_local S.kind (by rw [hsn₀]; exact hkind₀) hns₀ (by rw [hsn₀]; exact hxs₀) ?_
  refine PySem.ks_wpAny_isType_cls hD1₀ hD2₀ ⟨rfl, ?_⟩
  obtain ⟨mA₀, OM, _, _, _, _⟩ := ins_get I.hok hx₀
  obtain ⟨od2₀, J, _⟩ := OM.look
  refine PySem.ks_wpAny_call_super hD1₀ hD2₀ J.at_ J.cls (fun c₀ e => ?_) (PySem.W.looks_mroIn KX1 S0.sub) (fun h2₀ hso₀ kp2₀ => ?_)
  · have := J.no
    unfold PySem.W.notCls at this
    rw [e] at this
    exact Bool.noConfusion this
  have I2₀ := I.kept (h' := h2₀) (t' := s.toks + ((("self" : Str) :: ps).zip (Value.ref x :: us'₀)).length) kp2₀
  have KX2 : K.In h2₀ := KX1.keeps kp2₀
  obtain ⟨mA2₀, OM2, _, _, _, _⟩ := ins_get I2₀.hok hx₀
  obtain ⟨od3₀, J2, _⟩ := OM2.look
  have hup₀ := S0.up
  unfold PySem.W.ks_superIn at hup₀
  obtain ⟨cdC₀, hcdC₀, hup₀⟩ := Option.bind_eq_some_iff.mp hup₀
  obtain ⟨of, hof₀, hofc₀⟩ : ∃ of, K.lookup f2 = some of ∧ of.cls = .type "function" := by
    have ht'₀ : (K.lookup f2).map (·.cls) = some (.type "function") := S0.ty
    cases z₀ : K.lookup f2 with
    | none => rw [z₀] at ht'₀; cases ht'₀
    | some of => rw [z₀] at ht'₀; exact ⟨of, rfl, Option.some.inj ht'₀⟩
  refine PySem.ks_wpAny_getMethod_super hso₀ (PySem.W.looks_opaque KX2 S0.ho) (l₀ := cdC₀.mro) (fun A Q E s k q₀ => wpAny_bind ((PySem.W.looks_clsIn KX2 hcdC₀) A _ E s k (wpAny_pure q₀))) rfl KX2 hup₀ (KX2 _ _ hof₀) hofc₀ (PySem.W.ks_ne KX2 J2 hcdC₀) (by decide) ?_
  have I3₀ := I2₀.kept (h' := h2₀.push { cls := .type "method", data := .fields #[.ref f2, .ref x] }) (t' := s.toks + ((("self" : Str) :: ps).zip (Value.ref x :: us'₀)).length + 1) fun b₀ o₀ e => Heap.get?_push_of_some _ e
  have hq3₀ : (h2₀.push { cls := .type "method", data := .fields #[.ref f2, .ref x] }).get? h2₀.objs.size = some (PySem.W.methodObj (.ref f2) (.ref x)) := Heap.get?_push_at rfl rfl
  have hsz₀ : s.heap.objs.size ≤ h2₀.objs.size := I2₀.sz
  have qH₀ : H h2₀.objs.size = none := I2₀.hok.fresh (Nat.le_refl _)
  have I4₀ := I3₀.pinned (fp := [h2₀.objs.size]) (fun b₀ hb₀ => by
    obtain rfl := List.mem_singleton.1 hb₀
    exact I2₀.fpOk (Nat.le_refl _) qH₀) (fun b₀ hb₀ => by
    obtain rfl := List.mem_singleton.1 hb₀
    exact ⟨_, hq3₀, fun v₀ z₀ => by cases z₀⟩)
  have hpn₀ : (h2₀.objs.size, PySem.W.methodObj (.ref f2) (.ref x)) ∈ pinsAt [h2₀.objs.size] (h2₀.push { cls := .type "method", data := .fields #[.ref f2, .ref x] }) := mem_pinsAt (List.mem_singleton.mpr rfl) hq3₀
  generalize pinsAt [h2₀.objs.size] (h2₀.push { cls := .type "method", data := .fields #[.ref f2, .ref x] }) = pl at I4₀ hpn₀
  have hpl0₀ := hpl (envF (supN name qual params (.Expr (.Call (.Attribute (.Call (.Name "super" p0) [] [] p1) "__init__" p2) (e :: es) [] p3) p4 :: rest) scope cda cc) f s.heap.objs.size)
  have hse0₀ := hse (envF (supN name qual params (.Expr (.Call (.Attribute (.Call (.Name "super" p0) [] [] p1) "__init__" p2) (e :: es) [] p3) p4 :: rest) scope cda cc) f s.heap.objs.size)
  show wpAny _ _ (callWith p3 (.ref h2₀.objs.size) [] (backTo p3 (starEach (e :: es) (envF (supN name qual params (.Expr (.Call (.Attribute (.Call (.Name "super" p0) [] [] p1) "__init__" p2) (e :: es) [] p3) p4 :: rest) scope cda cc) f s.heap.objs.size))) []) _ _ _
  have hargs₀ := hta₀.run p3 _ _ _ H _ I4₀ hq₀
  refine PySem.W.callWith_of (by rw [hse0₀]; show ((false || (backTo p3 (starEach es _)).any (·.1)) || false) = false; rw [hpl0₀]; rfl) (PySem.W.keeps_M (q := h2₀.objs.size) (self := .ref x) S0.fn2) ?_
  rw [hse0₀]
  refine Calls.evalArgs_plain ?_
  show wpAny _ _ (spliced (backTo p3 ((false, eval e _) :: starEach es _))) _ _ _
  rw [← hse0₀]
  refine thn hargs₀ fun us2₀ s5₀ ⟨vs2₀, H5, I5, r5₀, q5₀⟩ => ?_
  have hq5₀ := (I5.pin _ (List.mem_append_right _ (List.mem_append_right _ hpn₀))).1
  refine ⟨⟨hq5₀, I5.kIn⟩, wpAny_call (PySem.ks_codeAny_call_bound hq5₀ ?_)⟩
  have r6₀ : Vals (V.ref x :: vs2₀) (Value.ref x :: us2₀) := .cons rfl r5₀
  have hl6₀ : (Value.ref x :: us2₀).length = ps2.length := by rw [← r6₀.length]; exact F2.len _ _ _ _ q5₀
  have hb6₀ := hb2 s5₀ (Value.ref x :: us2₀) I5.kIn (by rw [List.append_nil]; exact hl6₀)
  rw [List.append_nil] at hb6₀
  refine codeAny_mono (F2.run _ _ s5₀ H5 ⟨Value.ref x :: us2₀, []⟩ (Value.ref x :: us2₀) (V.ref x :: vs2₀) _ E2 (hr₀.deeper _) I5.env0 hb6₀ r6₀ q5₀) fun rr₀ s6₀ hrr₀ => ?_
  cases rr₀ with
  | error er => exact ht₀.2 _ _ _ _ _ _ I5 hrr₀
  | ok fl₀ =>
    cases fl₀ with
    | next => exact False.elim hrr₀
    | brk => exact False.elim hrr₀
    | cont => exact False.elim hrr₀
    | ret u₀ =>
      obtain ⟨v6₀, H6, I6, r7₀, q6₀⟩ := I5.after hrr₀
      refine wpAt_of_wpAny (wpAny_mono (ht₀.1.run [] s6₀ _ H6 _ (I6.unpinned (pins := []) (pl := pl)) q6₀) (fun fl₀ s'₀ hs₀ => ?_) fun _ _ z₀ => z₀)
      have fin₀ : ∀ {σ'₀ : L2.St} {H' : Hp} {v₀ : V} {u₀ : Value}, Inv (ncx CX P w K mg base N (supN name qual params (.Expr (.Call (.Attribute (.Call (.Name "super" p0) [] [] p1) "__init__" p2) (e :: es) [] p3) p4 :: rest) scope cda cc) f A outer s H E) [] σ'₀ H' s'₀ → L2.RelV v₀ u₀ → Q v₀ H' → CE outer P w H s Q u₀ s'₀ :=
        fun {σ'₀ H' v₀ u₀} J rv₀ q₀ => ⟨v₀, H', J.os, J.bare, J.base, J.hok, rv₀, q₀⟩
      cases fl₀ with
      | ret u₀ =>
        obtain ⟨v₀, σ'₀, H', J, rv₀, q₀⟩ := hs₀
        exact fin₀ J rv₀ q₀
      | next =>
        obtain ⟨σ'₀, H', J, q₀⟩ := hs₀
        exact fin₀ (v₀ := V.non) (u₀ := Value.none) J rfl q₀
      | brk =>
        obtain ⟨_, _, _, q₀⟩ := hs₀
        exact False.elim q₀
      | cont =>
        obtain ⟨_, _, _, q₀⟩ := hs₀
        exact False.elim q₀
end
end Z
/-! Z8: instances. -/
namespace Z
open PySem.Spec PySem PyProof.Rows L2
section
variable {ι : Type} {X : ι → Cx} {g : W5} {N : List Str} {k : Nat} {σ : L2.St} {Hb : Hp} {e : Expr} {es : List Expr} {pos p : Pos} {f x : Str} {C : Addr} {Φ : V → Hp → Prop} {L : AL}
theorem pe_fld_K [c : CtxZ X g N k] (hb : ∀ i, attributeBase e f (X i).env (eval e (X i).env) = eval e (X i).env) (i : ι) : PE (X i) (.Attribute e f pos) (tFld g.K (wE X e) f) := by rw [← c.K i]; exact pe_fld (wE_ok i) (hb i)
/-- e.f -/
theorem fld [c : CtxZ X g N k] (hc : Cls g.K C) (hn : NoAttr g.K C f) (h : Z.EP X e σ Hb fun v H => ∃ a dx fs u, v = .ref a ∧ H a = some (.ins C dx fs) ∧ fs.lookup f = some u ∧ Φ u H)
    (hb : ∀ i, attributeBase e f (X i).env (eval e (X i).env) = eval e (X i).env := by intro _; rfl) : Z.EP X (.Attribute e f pos) σ Hb Φ := fun H1 c1 Q q =>
  ⟨_, fun i => pe_fld_K hb i, h H1 c1 _ fun v Hk H2 g1 ⟨a, dx, fs, u, e1, e2, e3, r⟩ => ⟨a, C, dx, fs, u, e1, g1.on _ _ e2, hc, hn, e3, q u Hk H2 g1 r⟩⟩
/-- a class of the module that may be made -/
structure ClB (g : W5) (CX : CXT) (k : Nat) (x : Str) (C : Addr) (ps : List Str) (sp : Sp) : Prop where
  mg : g.mg x = some (.ref C)
  ex : ∃ (f : Addr) (fd : FuncData), Mk g.K C f ∧ Binds g.K fd ps [] ∧ FnOk g.P g.w g.K g.mg g.base CX k f fd ps sp
  pass : ∀ X : Cx, X.prog = g.P → X.w = g.w → Passes CX X E0
/-- an __init__: self is x, made of C, without a field as yet; fs its fields at the end -/
def spInit {τ : Type} (C : Addr) (args : τ → AL) (pre : τ → Prop) (post : τ → List (Str × V) → Hp → Prop) : Sp := fun vs H1 Q _ => ∃ (t : τ) (Hb : Hp) (x dx : Addr) (us : List V), vs = .ref x :: us ∧ Ex Hb H1 ∧ Hb x = none ∧ H1 x = some (.ins C dx []) ∧ (args t).r Hb us ∧ pre t ∧
  ∀ fs Hk H2, Go (· = x) Hb H1 Hk H2 → Hk x = none → H2 x = some (.ins C dx fs) → post t fs Hk → Q .non H2
theorem len_ofI {τ : Type} {C : Addr} {args : τ → AL} {pre : τ → Prop} {post : τ → List (Str × V) → Hp → Prop} {n : Nat} (h : ∀ t H vs, (args t).r H vs → vs.length = n) : ∀ vs H Q E, spInit C args pre post vs H Q E → vs.length = n + 1 := fun vs H Q E ⟨t, Hb, x, dx, us, e, _, _, _, r, _⟩ => by rw [e, List.length_cons, h t Hb us r]
theorem wmake [c : CtxZ X g N k] {CX : CXT} {k' : Nat} {ps : List Str} {sp : Sp} {H1 : Hp} {Q : VK} (F : ClB g CX k' x C ps sp) (hk : k' + 1 ≤ k) (h : wA X (e :: es) σ H1 fun vs H2 => ∀ x dx, H2 x = none → H2 dx = none → dx ≠ x → sp (.ref x :: vs) (upd (upd H2 dx (.own x)) x (.ins C dx [])) (fun v H3 => v = .non ∧ Q (.ref x) H3) E0)
    (hg : ∀ i, Gl (X i) x := by intro _; rfl) (hdb : (x == ("__debug__" : Str)) = false := by decide) (he : NS e := by intro _ _; rfl)
    (hpl : ∀ i, (backTo pos (starEach es (X i).env)).any (·.1) = false := by intro _; rfl) : wE X (.Call (.Name x p) (e :: es) [] pos) σ H1 Q :=
  ⟨tMake C sp [] E0 (wA X (e :: es)), fun i => by
    obtain ⟨f, fd, hM, hB, hF⟩ := F.ex
    have hm := F.mg
    refine pe_make (X := X i) (f := f) (fd := fd) (ps := ps) (ds := []) (dvs := []) (CX := CX) (k := k') ?_ ?_ ((c.room i).mono hk) (hg i) ?_ ?_ .nil (F.pass _ (c.P i) (c.w i)) (wA_ok i) hdb (he _ _) (hpl i)
    · rw [c.K i]; exact hM
    · rw [c.P i, c.w i, c.K i, c.mg i, c.base i]; exact hF
    · rw [c.mg i]; exact hm
    · rw [c.K i]; exact hB, by
    obtain ⟨t, ht, h⟩ := h
    exact ⟨fun σ H Q' => ∃ Q0 : List V → Hp → Prop, t σ H Q0 ∧ ∀ vs H, Q0 vs H → Q' vs H, fun i => ⟨fun pos pins s σ H Q' I ⟨Q0, h0, hq⟩ => thn ((ht i).run pos pins s σ H Q0 I h0) fun us s' ⟨vs, H', I', r, q⟩ => ⟨vs, H', I', r, hq _ _ q⟩⟩, _, h, fun vs H q => by simpa using q⟩⟩
/-- C(..) -/
theorem make [c : CtxZ X g N k] {CX : CXT} {k' : Nat} {ps : List Str} {τ : Type} {args : τ → AL} {pre : τ → Prop} {post : τ → List (Str × V) → Hp → Prop} (F : ClB g CX k' x C ps (spInit C args pre post)) (t : τ) (ha : EL X (e :: es) σ Hb L) (hL : args t = L := by rfl) (hp : pre t := by trivial)
    (hup : ∀ fs H H', Ex H H' → post t fs H → post t fs H') (hk : k' + 1 ≤ k := by decide)
    (hg : ∀ i, Gl (X i) x := by intro _; rfl) (hdb : (x == ("__debug__" : Str)) = false := by decide) (he : NS e := by intro _ _; rfl)
    (hpl : ∀ i, (backTo pos (starEach es (X i).env)).any (·.1) = false := by intro _; rfl) : Z.EP X (.Call (.Name x p) (e :: es) [] pos) σ Hb (fun v H => ∃ a dx fs, v = .ref a ∧ H a = some (.ins C dx fs) ∧ post t fs H) := fun H1 c1 Q q =>
  wmake F hk (ha H1 c1 _ fun vs Hk H2 g1 r y dx hy hdx hne => by
    have e2 : Ex H2 (upd (upd H2 dx (.own y)) y (.ins C dx [])) := fun b o h => by
      rw [upd_ne (ne_of_none h hy), upd_ne (ne_of_none h hdx)]; exact h
    refine ⟨t, Hk, y, dx, vs, rfl, g1.on.trans e2, g1.on.none hy, upd_same, by rw [hL]; exact r, hp, fun fs Hm H3 g3 h1 h2 h3 => ⟨rfl, ?_⟩⟩
    have g4 : Go no Hk H2 Hm H3 := ⟨fun b o _ h => g3.real b o (fun z => by rw [z, hy] at h; cases h) (e2 _ _ h), fun b h => g3.live b fun z => h (e2.none z), g3.base, g3.on, fun b h z => g3.fr b (fun w => h (e2.none w)) z⟩
    exact q _ (upd Hm y (.ins C dx fs)) H3 (g1.trans (g4.fix hy h2 h1)) ⟨y, dx, fs, rfl, upd_same, hup _ _ _ (Ex.new h1) h3⟩) hg hdb he hpl
end
section
variable {X : Cx} {g : W5} {N : List Str} {k : Nat} {σ : L2.St} {H Hb Hc : Hp} {v : V} {e : Expr} {pos p1 p2 : Pos} {x f : Str} {D : Ends} {Φ : V → Hp → Prop} {C a dx : Addr} {fs : List (Str × V)}
/-- self.f = e -/
theorem s_fld [c : CtxZ (u1 X) g N k] (j : Nat) (h : Z.EP (u1 X) e σ Hb Φ) (cx : Ex Hb H) (hc : Cls g.K C) (hn : NoAttr g.K C f) (hH : H a = some (.ins C dx fs)) (hl : fs.length < 1000) (q : ∀ v Hk H2, Go no Hb H Hk H2 → Φ v Hk → H2 a = some (.ins C dx fs) → D.nx σ (upd H2 a (.ins C dx (putF f v fs))))
    (hN : N[j]? = some x := by rfl) (hσ : σ[j]? = some (some (.ref a)) := by rfl) (hv : Vis X.env.scope x := by first | exact Or.inl rfl | exact Or.inr (Or.inl rfl) | exact Or.inr (Or.inr rfl)) (hs : swapsWith e (some (.Attribute (.Name x p1) f p2)) pos.line X.env = pure false := by rfl) :
    wS X (.Assign [.Attribute (.Name x p1) f p2] e pos) D σ H := by
  have hn0 : X.N = N := c.nm ()
  have hK : X.K = g.K := c.K ()
  refine ⟨_, ps_fld (pe_var (i := j) (by rw [hn0]; exact hN) hv (c.dbg x (List.mem_of_getElem? hN)).1 (c.dbg x (List.mem_of_getElem? hN)).2) (wE_ok (X := u1 X) ()) hs, ?_⟩
  refine h H cx _ fun v Hk H2 g1 r => ⟨_, hσ, a, C, dx, fs, rfl, g1.real _ _ (fun z => z) hH, hK ▸ hc, hK ▸ hn, hl, q v Hk H2 g1 r (g1.real _ _ (fun z => z) hH)⟩
end
theorem lk_put {fs : List (Str × V)} {f g : Str} {v : V} : (putF f v fs).lookup g = if g = f then some v else fs.lookup g := lookup_putF ..
end Z
/-! Z9: a comprehension with two fors over ranges. -/
namespace Z
open PySem.Spec PySem PyProof.Rows L2
section
variable {ι : Type} {X : ι → Cx} {g : W5} {N : List Str} {k : Nat} {γ : Type} {S : Rep γ} {σ : L2.St} {Hb : Hp} {e e1 elt : Expr} {ifs : List Expr} {scope : Scope} {p q p1 q1 r r1 pos : Pos} {x y : Str} {n : Nat}
/-- the items of the first i rows -/
def gots (n : Nat) (f : Nat → Nat → Bool) (v : Nat → Nat → γ) (i : Nat) : List γ := (List.range i).flatMap fun x => got n (f x) (v x)
theorem gots_succ {n i : Nat} {f : Nat → Nat → Bool} {v : Nat → Nat → γ} : gots n f v (i + 1) = gots n f v i ++ got n (f i) (v i) := by simp [gots, List.range_succ, List.flatMap_append]
theorem gots_le {n i : Nat} {f : Nat → Nat → Bool} {v : Nat → Nat → γ} : (gots n f v i).length ≤ i * n := by
  induction i with
  | zero => simp [gots]
  | succ i ih =>
    rw [gots_succ, List.length_append, Nat.succ_mul]
    have := got_le n (f i) (v i)
    omega
theorem pe_lc2_K [c : CtxZ X g N k] (own : List (Str × Nat)) (vs1 : List Nat) (ok : ∀ i, BlkOk N (X i).env.scope scope own) (hv : ∀ i ∈ vs1, i ∈ own.map (·.2)) {tg iter tg1 iter1 : Expr} (hs : ∀ i x, foldedSetIterable iter (X i).env x = pure x) (hs1 : ∀ env x, foldedSetIterable iter1 env x = pure x) (i : ι) :
    PE (X i) (.ListComp elt [⟨tg, iter, [], 0⟩, ⟨tg1, iter1, ifs, 0⟩] scope pos) (tLc2 (wI X tg iter) (wG (bX X scope) tg) (wTs (bX X scope) []) (wI (bX X scope) tg1 iter1) (wG (bX X scope) tg1) (wTs (bX X scope) ifs) (wE (bX X scope) elt) (own.map (·.2)) vs1) :=
  pe_lc2 (c.calm i) (by rw [c.nm i]; exact c.nd) (wI_ok i) (by rw [c.nm i]; exact ok i) hv (blk_hs (P := fun Y => PG Y tg (wG (bX X scope) tg)) scope (fun q => wG_ok q) i) (blk_hs (P := fun Y => PTs Y [] (wTs (bX X scope) [])) scope (fun q => wTs_ok q) i)
    (blk_hs (P := fun Y => PI Y tg1 iter1 (wI (bX X scope) tg1 iter1)) scope (fun q => wI_ok q) i) (blk_hs (P := fun Y => PG Y tg1 (wG (bX X scope) tg1)) scope (fun q => wG_ok q) i) (blk_hs (P := fun Y => PTs Y ifs (wTs (bX X scope) ifs)) scope (fun q => wTs_ok q) i) (blk_hs (P := fun Y => PE Y elt (wE (bX X scope) elt)) scope (fun q => wE_ok q) i) (hs i) hs1
/-- [elt for x in range(e) for y in range(e1) if ..] -/
theorem lc2R [c : CtxZ X g N k] (own : List (Str × Nat)) (vs1 : List Nat) (jx jy : Nat) (hm : g.mg "range" = none) (h : EV X e σ Hb rInt (n : Int)) (hn : n ≤ 1000) (f : Nat → Nat → Bool) (v : Nat → Nat → γ)
    (h1 : ∀ i Hk, i < n → Ex Hb Hk → wipe ((wipe σ (own.map (·.2))).set jx (some (.int (i : Int)))) (own.map (·.2)) = wipe σ (own.map (·.2)) ∧ EV (bX X scope) e1 ((wipe σ (own.map (·.2))).set jx (some (.int (i : Int)))) Hk rInt (n : Int))
    (h2 : ∀ i j Hk, i < n → j < n → Ex Hb Hk → wipe ((wipe ((wipe σ (own.map (·.2))).set jx (some (.int (i : Int)))) vs1).set jy (some (.int (j : Int)))) vs1 = wipe ((wipe σ (own.map (·.2))).set jx (some (.int (i : Int)))) vs1 ∧
      ETs (bX X scope) ifs ((wipe ((wipe σ (own.map (·.2))).set jx (some (.int (i : Int)))) vs1).set jy (some (.int (j : Int)))) Hk (f i j) ∧ (f i j = true → EV (bX X scope) elt ((wipe ((wipe σ (own.map (·.2))).set jx (some (.int (i : Int)))) vs1).set jy (some (.int (j : Int)))) Hk S (v i j)))
    (hv : ∀ i ∈ vs1, i ∈ own.map (·.2) := by decide) (ok : ∀ i, BlkOk N (X i).env.scope scope own := by intro _; exact blkOk_by (by kernel_rfl)) (hg : ∀ i, Gl (X i) "range" := by intro _; rfl) (hg1 : ∀ i, Gl (bX X scope i) "range" := by intro _; rfl) (hns : NS e := by intro _ _; rfl) (hns1 : NS e1 := by intro _ _; rfl)
    (hN : N[jx]? = some x := by rfl) (hN1 : N[jy]? = some y := by rfl) (hx : ∀ i, Loc (bX X scope i).env.scope x := by intro _; first | exact .inl rfl | exact .inr rfl) (hy : ∀ i, Loc (bX X scope i).env.scope y := by intro _; first | exact .inl rfl | exact .inr rfl)
    (hf : ∀ i, (bX X scope i).fn x = true ∨ (bX X scope i).env.scope.names.lookup x = some .local := by intro _; first | exact .inl rfl | exact .inr rfl) (hf1 : ∀ i, (bX X scope i).fn y = true ∨ (bX X scope i).env.scope.names.lookup y = some .local := by intro _; first | exact .inl rfl | exact .inr rfl)
    (hs : ∀ i z, foldedSetIterable (.Call (.Name "range" p) [e] [] q) (X i).env z = pure z := by intro _ _; rfl) (hs1 : ∀ env z, foldedSetIterable (.Call (.Name "range" p1) [e1] [] q1) env z = pure z := by intro _ _; rfl) :
    EV X (.ListComp elt [⟨.Name x r, .Call (.Name "range" p) [e] [] q, [], 0⟩, ⟨.Name y r1, .Call (.Name "range" p1) [e1] [] q1, ifs, 0⟩] scope pos) σ Hb (rL S) (gots n f v n) := fun H1 c1₀ Q qq₀ =>
  ⟨_, fun i => pe_lc2_K own vs1 ok hv hs hs1 i, by
    refine iR (n := n) hm h (by omega) hg hns H1 c1₀ _ fun J H0 H2 g1₀ hgo₀ hstop₀ hyld₀ D hD₀ => ?_
    have hD0₀ : H0 D = none := g1₀.on.none hD₀
    refine ⟨fun i m₀ H => m₀ = n - i ∧ i ≤ n ∧ ∃ Hl xs₀, Go no H0 H2 Hl H ∧ Hl D = none ∧ H D = some (.lst xs₀) ∧ P2 (S.r Hl) xs₀ (gots n f v i), ⟨n, by simp, Nat.zero_le _, H0, [], Go.newM g1₀.on hD₀, hD0₀, upd_same, by simpa [gots] using P2.nil⟩, ?_⟩
    rintro i m₀ H ⟨rfl, hle₀, Hl, xs₀, gl₀, hl₀, hH₀, hp₀⟩
    have exH₀ : Ex H0 H := gl₀.base.trans gl₀.on
    by_cases hlt : i < n
    · refine .inr ⟨hgo₀ i H hlt exH₀, fun H' => i + 1 ≤ n ∧ ∃ Hl xs₀, Go no H0 H2 Hl H' ∧ Hl D = none ∧ H' D = some (.lst xs₀) ∧ P2 (S.r Hl) xs₀ (gots n f v (i + 1)), fun H' h'₀ => ⟨n - (i + 1), by omega, rfl, h'₀⟩, fun xv₀ H' hy0₀ => ?_⟩
      obtain ⟨Hm, gm₀, hY₀⟩ := hyld₀ i H xv₀ H' hlt exH₀ hy0₀
      subst hY₀
      have e2₀ := gl₀.on.trans gm₀.ex
      have gl2₀ : Go no H0 H2 Hl H' := gl₀.step gm₀.ex
      have hH2₀ : H' D = some (.lst xs₀) := gm₀.ex _ _ hH₀
      refine gn (X := bX X scope) jx ⟨(h1 i Hl hlt (g1₀.base.trans gl₀.base)).1, ?_⟩ hN hx hf
      refine ts0 H' gl2₀.on _ fun Hn H4 gn'₀ => ?_
      rw [if_pos rfl]
      have gl4₀ := gl2₀.step gn'₀.ex
      have hH4₀ := gn'₀.ex _ _ hH2₀
      refine iR (X := bX X scope) (n := n) hm (h1 i Hl hlt (g1₀.base.trans gl₀.base)).2 (by omega) hg1 hns1 H4 gl4₀.on _ fun J1₀ H05 H5 g5₀ hgo1₀ hstop1₀ hyld1₀ => ?_
      have gl5₀ := gl4₀.step g5₀.ex
      have hH5₀ := g5₀.ex _ _ hH4₀
      have h05D₀ : H05 D = none := g5₀.fr D (some_ne hH4₀) hl₀
      refine ⟨fun j m₀ H => m₀ = n - j ∧ j ≤ n ∧ ∃ Hl2 xs₀, Go no H0 H2 Hl2 H ∧ Hl2 D = none ∧ Ex H05 H ∧ H D = some (.lst xs₀) ∧ P2 (S.r Hl2) xs₀ (gots n f v i ++ got j (f i) (v i)), ⟨n, by simp, Nat.zero_le _, Hl, xs₀, gl5₀, hl₀, g5₀.on, hH5₀, by simpa [got] using hp₀⟩, ?_⟩
      rintro j m₀ H6 ⟨rfl, hle1₀, Hl2, xs₀, gl6₀, hl6₀, ex6₀, hH6₀, hp6₀⟩
      by_cases hlt1 : j < n
      · refine .inr ⟨hgo1₀ j H6 hlt1 ex6₀, fun H' => j + 1 ≤ n ∧ ∃ Hl2 xs₀, Go no H0 H2 Hl2 H' ∧ Hl2 D = none ∧ Ex H05 H' ∧ H' D = some (.lst xs₀) ∧ P2 (S.r Hl2) xs₀ (gots n f v i ++ got (j + 1) (f i) (v i)), fun H' h'₀ => ⟨n - (j + 1), by omega, rfl, h'₀⟩, fun yv₀ H7 hy7₀ => ?_⟩
        obtain ⟨Hm7, gm7₀, hY7₀⟩ := hyld1₀ j H6 yv₀ H7 hlt1 ex6₀ hy7₀
        subst hY7₀
        have gl7₀ : Go no H0 H2 Hl2 H7 := gl6₀.step gm7₀.ex
        have ex7₀ := ex6₀.trans gm7₀.ex
        have hH7₀ : H7 D = some (.lst xs₀) := gm7₀.ex _ _ hH6₀
        have hh₀ := h2 i j Hl2 hlt hlt1 (g1₀.base.trans gl7₀.base)
        refine gn (X := bX X scope) jy ⟨hh₀.1, ?_⟩ hN1 hy hf1
        refine hh₀.2.1 H7 gl7₀.on _ fun Hn8 H8 gn8₀ => ?_
        have gl8₀ := gl7₀.step gn8₀.ex
        have ex8₀ := ex7₀.trans gn8₀.ex
        have hH8₀ := gn8₀.ex _ _ hH7₀
        cases hf0 : f i j with
        | false =>
          rw [if_neg (Bool.false_ne_true)]
          refine ⟨hlt1, Hl2, xs₀, gl8₀, hl6₀, ex8₀, hH8₀, ?_⟩
          rw [got_n hf0]; exact hp6₀
        | true =>
          rw [if_pos rfl]
          refine (hh₀.2.2 hf0) H8 gl8₀.on _ fun w₀ Hp H9 gp₀ rw'₀ => ?_
          have hH9₀ := gp₀.ex _ _ hH8₀
          have hDp₀ : Hp D = none := gp₀.fr D (some_ne hH8₀) hl6₀
          refine ⟨xs₀, hH9₀, ?_, hlt1, Hp, xs₀ ++ [w₀], (gl8₀.trans gp₀).wr (.inr hD₀) hDp₀, hDp₀, (ex8₀.trans gp₀.ex).mut h05D₀, upd_same, ?_⟩
          · have h3₀ := hp6₀.len
            have h4₀ := got_le j (f i) (v i)
            have h5₀ := gots_le (n := n) (i := i) (f := f) (v := v)
            rw [List.length_append] at h3₀
            have h6₀ : i * n ≤ 1000 * 1000 := Nat.mul_le_mul (by omega) hn
            have : (2000000 : Nat) < sizeLine := by decide
            omega
          · rw [got_y hf0, ← List.append_assoc]
            exact (hp6₀.imp fun _ _ => S.up gp₀.base).snoc rw'₀
      · have e : j = n := by omega
        subst e
        refine .inl ⟨hstop1₀ H6 ex6₀, hlt, Hl2, xs₀, gl6₀, hl6₀, hH6₀, ?_⟩
        rw [gots_succ]; exact hp6₀
    · have e : i = n := by omega
      subst e
      exact .inl ⟨hstop₀ H exH₀, lc_end (l := gots _ f v _) qq₀ D xs₀ Hl H (g1₀.ex.none hD₀) hl₀ (g1₀.trans gl₀) hH₀ hp₀⟩⟩
end
end Z
/-! ZA: evaluations at one heap: what is asked of objects that change. -/
namespace Z
open PySem.Spec PySem PyProof.Rows L2
/-- a value over the base Hb, asked at H -/
def EVa {ι : Type} {α : Type} (X : ι → Cx) (e : Expr) (σ : L2.St) (Hb H : Hp) (R : Rep α) (a : α) : Prop := ∀ Q : VK, (∀ v Hk H2, Go no Hb H Hk H2 → R.r Hk v a → Q v H2) → wE X e σ H Q
def EIa {ι : Type} (X : ι → Cx) (tg e : Expr) (σ : L2.St) (Hb H : Hp) (n : Nat) (Y : Nat → V → Hp → Prop) : Prop := ∀ R : It → Hp → Prop,
  (∀ J Hk H2, Go no Hb H Hk H2 → (∀ i H, i < n → Ex Hk H → J.go i H) → (∀ H, Ex Hk H → J.stop n H) → (∀ i H x H', i < n → Ex Hk H → J.yld i H x H' → ∃ Hl, Go no Hk H Hl H' ∧ Y i x Hl) → R J H2) → wI X tg e σ H R
section
variable {ι : Type} {X : ι → Cx} {g : W5} {N : List Str} {k : Nat} {α β : Type} {R : Rep α} {T : Rep β} {σ : L2.St} {Hb H : Hp} {a : α} {e e1 e2 tg : Expr} {elts : List Expr} {kk : Nat} {pos p tpos : Pos} {n : Nat} {f : Nat → α} {f2 : Nat → β}
theorem EV.at_ (h : EV X e σ Hb R a) (cx : Ex Hb H) : EVa X e σ Hb H R a := fun Q q => h H cx Q q
theorem EI.at_ {Y : Nat → V → Hp → Prop} (h : EI X tg e σ Hb n Y) (cx : Ex Hb H) : EIa X tg e σ Hb H n Y := fun R q => h H cx R q
/-- xs[i], xs over the base, i asked of the heap -/
theorem ixa [c : CtxZ X g N k] {S : Rep (List α)} [hS : IsS S R] {l : List α} {i : Int} (j : Nat) (h1 : EV X e1 σ Hb S l) (cx : Ex Hb H) (h2 : EV X e2 σ H rInt i) (hi : i = (j : Int)) (hj : l[j]? = some a) (hs : PlainIx e2 := by intro _ _; rfl) : EVa X (.Subscript e1 e2 pos) σ Hb H R a := fun Q q =>
  ⟨_, fun i => pe_ix (ix_K i) (wE_ok i) (wE_ok i) hs, h1 H cx _ fun v Hk H2 g1 r1 => h2 H2 g1.ex _ fun u Hg H3 g2 r2 => by
    have r1' : S.r Hk v l := r1
    obtain ⟨p, xs, y, rfl, b, hy, ry⟩ := rS.get (hS.to _ _ _ r1') hj
    have r2 : u = .int i := r2
    subst r2
    have q2 : Q y H3 := q y Hk H3 (g1.step g2.ex) ry
    rcases b with b | b
    · exact .inl ⟨p, xs, i, y, rfl, rfl, SqL.of (g2.ex _ _ (g1.on _ _ b)), atI_of hi hy, q2⟩
    · exact .inr (.inl ⟨p, xs, i, y, rfl, rfl, SqT.of (g2.ex _ _ (g1.on _ _ b)), atI_of hi hy, q2⟩)⟩
theorem iETa [c : CtxZ X g N k] (hm : g.mg "enumerate" = none) (h : EVa X e σ Hb H (rT R) (tab n f)) (hg : ∀ i, Gl (X i) "enumerate" := by intro _; rfl) (hs : NS e := by intro _ _; rfl) :
    EIa X (.Tuple elts kk tpos) (.Call (.Name "enumerate" p) [e] [] pos) σ Hb H n (fun i v H => (rP rInt R).r H v ((i : Int), f i)) := fun Q q =>
  ⟨_, fun i => pi_enumT_K hm hg hs i, ⟨_, fun i => pa_cons (wE_ok i) pa_nil (hs _ _), h _ fun v Hk H2 g1 r => by
    obtain ⟨p, xs, rfl, b, r⟩ := r
    have hl : xs.length = n := by rw [r.len, tab_len]
    refine ⟨p, xs, rfl, SqT.of (g1.on _ _ b), q _ Hk H2 g1 (fun i H hi c2 => ⟨xs, xs[i], SqT.of (c2 _ _ b), by simp [hl, hi]⟩) (fun H c2 => ⟨xs, SqT.of (c2 _ _ b), hl⟩) (fun i H x H' hi c2 y => ?_)⟩
    obtain ⟨T', z, e1, e2, e3, y⟩ := y
    obtain ⟨z2, hz, rz⟩ := r.get (tab_get hi)
    have := y xs (SqT.of (c2 _ _ b))
    rw [hz] at this; cases this
    exact yp c2 e1 e2 e3 rfl rz⟩⟩
theorem iLa [c : CtxZ X g N k] (h : EVa X e σ Hb H (rL R) (tab n f)) : EIa X tg e σ Hb H n (fun i v H => R.r H v (f i)) := fun Q q =>
  ⟨_, fun i => pi_list_K i, h _ fun v Hk H2 g1 ⟨p, xs, e1, b, r⟩ => by
    have hl : xs.length = n := by rw [r.len, tab_len]
    refine ⟨p, e1, ⟨xs, SqL.of (g1.on _ _ b)⟩, q _ Hk H2 g1 (fun i H hi c2 => ⟨xs, xs[i], SqL.of (c2 _ _ b), by simp [hl, hi]⟩) (fun H c2 => ⟨xs, SqL.of (c2 _ _ b), by omega⟩) (fun i H x H' hi c2 y => ?_)⟩
    obtain ⟨rfl, y⟩ := y
    refine ⟨Hk, Go.refl c2, ?_⟩
    obtain ⟨z, hz, rz⟩ := r.get (tab_get hi)
    have := y xs (SqL.of (c2 _ _ b))
    rw [hz] at this; cases this; exact rz⟩
end
section
variable {X : Cx} {g : W5} {N : List Str} {k : Nat} {σ : L2.St} {H Hb : Hp} {e tg : Expr} {pos : Pos} {n : Nat} {D : Ends}
/-- s_forB, the walk asked at the heap -/
theorem s_forA [c : CtxZ (u1 X) g N k] {body : List Stmt} {Y : Nat → V → Hp → Prop} (hi : EIa (u1 X) tg e σ Hb H n Y) (Iv : Nat → L2.St → Hp → Hp → Prop) (h0 : Iv 0 σ Hb H)
    (up : ∀ i σ' Hk Hm H1 H2, Iv i σ' Hk H1 → Go no Hk H1 Hm H2 → Iv i σ' Hm H2) (ex : ∀ i σ' Hk H', Iv i σ' Hk H' → Ex Hk H')
    (hs : ∀ i σ' Hk H' v, i < n → Ex Hb Hk → Iv i σ' Hk H' → (∃ H0, Ex H0 Hk ∧ Y i v H0) → wG (u1 X) tg v σ' H' fun σ2 H3 => wSs X body { D with nx := fun σ3 H4 => ∃ Hm, Ex Hk Hm ∧ Iv (i + 1) σ3 Hm H4, ct := fun σ3 H4 => ∃ Hm, Ex Hk Hm ∧ Iv (i + 1) σ3 Hm H4, bk := D.nx } σ2 H3)
    (hd : ∀ σ' Hk H', Ex Hb Hk → Iv n σ' Hk H' → D.nx σ' H') (hp : PassesOwn (model X.prog X.w) X.A X.env X.xe := by exact PassesOwn.never) (hf : ∀ x, foldedSetIterable e X.env x = pure x := by intro _; rfl) : wS X (.For tg e body [] pos) D σ H :=
  ⟨_, ps_for hp (c.calm ()) (wI_ok (X := u1 X) ()) (wG_ok (X := u1 X) ()) wSs_ok hf, hi _ fun J H0 H2 g1 hgo hstop hyld => ⟨fun i m σ' H' => m = n - i ∧ i ≤ n ∧ ∃ Hk, Ex H0 Hk ∧ Iv i σ' Hk H', ⟨n, by simp, Nat.zero_le _, H0, Ex.refl _, up _ _ _ _ _ _ h0 g1⟩, by
    rintro i m σ' H' ⟨rfl, hle, Hk, ek, hP⟩
    have exk := ex i σ' Hk H' hP
    by_cases hlt : i < n
    · refine .inr ⟨hgo i H' hlt (ek.trans exk), fun σ2 H3 => i + 1 ≤ n ∧ ∃ Hm, Ex H0 Hm ∧ Iv (i + 1) σ2 Hm H3, fun σ2 H3 q => ⟨n - (i + 1), by omega, rfl, q⟩, fun v H3 hy => ?_⟩
      obtain ⟨Hl, gl, hY⟩ := hyld i H' v H3 hlt (ek.trans exk) hy
      obtain ⟨g2, e2⟩ := gl.over ek exk
      refine wG_mono (hs i σ' (ovr Hk Hl) H3 v hlt ((g1.base.trans ek).trans g2.base) (up _ _ _ _ _ _ hP g2) ⟨Hl, e2, hY⟩) fun σ2 H4 hb => ?_
      exact wSs_mono hb (fun s h ⟨Hz, ez, hz⟩ => ⟨hlt, Hz, (ek.trans g2.base).trans ez, hz⟩) (fun s h ⟨Hz, ez, hz⟩ => ⟨hlt, Hz, (ek.trans g2.base).trans ez, hz⟩) (fun _ _ z => z) fun _ _ z => z
    · have e : i = n := by omega
      subst e
      exact .inl ⟨hstop H' (ek.trans exk), hd σ' Hk H' (g1.base.trans ek) hP⟩⟩⟩
end
end Z
/-! ZB: dicts with int keys. -/
namespace Z
open PySem.Spec PySem PyProof.Rows L2
section
variable {ι : Type} {X : ι → Cx} {g : W5} {N : List Str} {k : Nat} {σ : L2.St} {H Hb : Hp} {e e1 e2 tg : Expr} {pos p p1 : Pos} {x : Str} {d : Addr} {kvs : List (Key × V)} {z : Int} {v : V} {n : Nat}
theorem dun [c : CtxZ X g N k] (i : ι) : (X i).A.units + 1 < cLine := by have := (c.room i).un; omega
/-- d[e], there -/
theorem dg [c : CtxZ X g N k] (j : Nat) (hd : Hb d = some (.dK kvs)) (h2 : EV X e2 σ Hb rInt z) (hv : valV kvs (.inl z) = some v) (hs : NoSl e2 := by intro _ _; rfl)
    (hN : N[j]? = some x := by rfl) (hσ : σ[j]? = some (some (.ref d)) := by rfl) (hvis : ∀ i, Vis (X i).env.scope x := by intro _; first | exact Or.inl rfl | exact Or.inr (Or.inl rfl) | exact Or.inr (Or.inr rfl)) : Z.EP X (.Subscript (.Name x p) e2 pos) σ Hb (fun u _ => u = v) := fun H1 c1 Q q =>
  ⟨_, fun i => pe_dget (dun i) (pe_var (i := j) (by rw [c.nm i]; exact hN) (hvis i) (c.dbg x (List.mem_of_getElem? hN)).1 (c.dbg x (List.mem_of_getElem? hN)).2) (wE_ok i) hs, ⟨_, hσ, h2 H1 c1 _ fun u Hk H2 g1 r => ⟨d, v, rfl, .inl ⟨kvs, .inl z, .inl (g1.ex _ _ (c1 _ _ hd)), r, hv.symm⟩, q v Hk H2 g1 rfl⟩⟩⟩
/-- e not in d -/
theorem dni [c : CtxZ X g N k] (j : Nat) (hd : Hb d = some (.dK kvs)) (h2 : EV X e2 σ Hb rInt z)
    (hN : N[j]? = some x := by rfl) (hσ : σ[j]? = some (some (.ref d)) := by rfl) (hvis : ∀ i, Vis (X i).env.scope x := by intro _; first | exact Or.inl rfl | exact Or.inr (Or.inl rfl) | exact Or.inr (Or.inr rfl)) (hm : behindInMarks .NotIn (.Name x p) = false := by rfl) : ET X (.Compare e2 [.NotIn] [.Name x p] pos) σ Hb (!(valV kvs (.inl z)).isSome) := fun H1 c1 Q q =>
  ⟨_, fun i => pt_cmp (pc_dnotin (dun i) (wE_ok i) (pe_var (i := j) (by rw [c.nm i]; exact hN) (hvis i) (c.dbg x (List.mem_of_getElem? hN)).1 (c.dbg x (List.mem_of_getElem? hN)).2)) hm, by
    refine h2 H1 c1 _ fun u Hk H2 g1 r => ⟨_, hσ, d, valV kvs (.inl z), rfl, .inl ⟨kvs, .inl z, .inl (g1.ex _ _ (c1 _ _ hd)), r, rfl⟩, _, rfl, q Hk H2 g1⟩⟩
/-- {name: None for name in a list of ints} -/
theorem dcN_run [c : CtxZ X g N k] {scope : Scope} {l : List Int} {j0 : Nat} {pn : Pos} {xt : Str} {p2 p3 : Pos} (jt : Nat) (own : List (Str × Nat)) (h : EV X e σ Hb (rL rInt) l) (hz : l.length ≤ 1000)
    (hw : ∀ i : Int, wipe ((wipe σ (own.map (·.2))).set jt (some (.int i))) (own.map (·.2)) = wipe σ (own.map (·.2))) (hj : ∀ i : Int, ((wipe σ (own.map (·.2))).set jt (some (.int i)))[jt]? = some (some (.int i)))
    {H1 : Hp} (c1 : Ex Hb H1) {Q : VK} (q : ∀ D kvs H2, H1 D = none → Ex H1 H2 → H2 D = some (.dK kvs) → (∀ z : Int, valV kvs (.inl z) = if z ∈ l then some .non else none) → kvs.length ≤ l.length → Q (.ref D) H2)
    (hN : N[jt]? = some xt := by rfl) (hx : ∀ i, Loc (bX X scope i).env.scope xt := by intro _; first | exact .inl rfl | exact .inr rfl) (hf : ∀ i, (bX X scope i).fn xt = true ∨ (bX X scope i).env.scope.names.lookup xt = some .local := by intro _; first | exact .inl rfl | exact .inr rfl)
    (hvis : ∀ i, Vis (bX X scope i).env.scope xt := by intro _; first | exact Or.inl rfl | exact Or.inr (Or.inl rfl) | exact Or.inr (Or.inr rfl)) :
    tDc (wI X (.Name xt p3) e) (wG (bX X scope) (.Name xt p3)) (wTs (bX X scope) []) (wE (bX X scope) (.Name xt p2)) (wE (bX X scope) (.Constant .none j0 pn)) (own.map (·.2)) σ H1 Q := by
  have hl : l = tab l.length fun i => l.getD i 0 := tab_of rfl fun i hi => by simp [hi]
  refine iL (n := l.length) (f := fun i => l.getD i 0) (hl ▸ h) H1 c1 _ fun J H0 H2 g1 hgo hstop hyld D hD => ?_
  have hD0 : H0 D = none := g1.on.none hD
  refine ⟨fun i m H => m = l.length - i ∧ i ≤ l.length ∧ ∃ kvs, Ex H2 H ∧ H D = some (.dK kvs) ∧ (∀ z : Int, valV kvs (.inl z) = if z ∈ l.take i then some .non else none) ∧ kvs.length ≤ i, ⟨l.length, by simp, Nat.zero_le _, [], Ex.new hD, upd_same, fun z => by simp [valV_nil], Nat.le_refl _⟩, ?_⟩
  rintro i m H ⟨rfl, hle, kvs, ex, hH, hv, hlen⟩
  have exH : Ex H0 H := g1.on.trans ex
  by_cases hlt : i < l.length
  · refine .inr ⟨hgo i H hlt exH, fun H' => i + 1 ≤ l.length ∧ ∃ kvs, Ex H2 H' ∧ H' D = some (.dK kvs) ∧ (∀ z : Int, valV kvs (.inl z) = if z ∈ l.take (i + 1) then some .non else none) ∧ kvs.length ≤ i + 1, fun H' h' => ⟨l.length - (i + 1), by omega, rfl, h'⟩, fun xv H' hy => ?_⟩
    obtain ⟨Hm, gm, hY⟩ := hyld i H xv H' hlt exH hy
    obtain rfl : xv = .int l[i] := by have : xv = .int (l.getD i 0) := hY; rw [this]; simp [hlt]
    have ex2 := ex.trans gm.ex
    refine gn (X := bX X scope) jt ⟨hw _, ?_⟩ hN hx hf
    refine ts0 H' gm.on _ fun Hn H4 gn' => ?_
    rw [if_pos rfl]
    refine ⟨_, fun i => pe_var (by show (X i.1).N[jt]? = some xt; rw [c.nm i.1]; exact hN) (hvis i) (c.dbg xt (List.mem_of_getElem? hN)).1 (c.dbg xt (List.mem_of_getElem? hN)).2, _, hj _, _, fun i => pe_non, kvs, .inl l[i], rfl, gn'.ex _ _ (gm.ex _ _ hH), Nat.lt_of_le_of_lt (Nat.le_trans hlen (Nat.le_trans hle hz)) (by decide), hlt, _, (ex2.trans gn'.ex).mut hD, upd_same, fun z => ?_, ?_⟩
    · have htk : l.take (i + 1) = l.take i ++ [l[i]] := (List.take_append_getElem hlt).symm
      rw [valV_put, hv, htk]
      by_cases hz1 : z = l[i]
      · rw [if_pos (by rw [hz1]), if_pos (List.mem_append_right _ (List.mem_singleton.mpr hz1))]
      · rw [if_neg fun w => hz1 (Sum.inl.inj w)]
        simp only [List.mem_append, List.mem_singleton, hz1, or_false]
    · have := length_putK kvs (.inl l[i]) V.non
      omega
  · have e : i = l.length := by omega
    subst e
    refine .inl ⟨hstop H exH, ?_⟩
    rw [List.take_length] at hv
    exact q D kvs H (g1.ex.none hD) (g1.ex.trans ex) hH hv hlen
end
section
variable {X : Cx} {g : W5} {N : List Str} {k : Nat} {σ : L2.St} {H Hb Hk : Hp} {e e2 : Expr} {pos p p2 : Pos} {x : Str} {D : Ends} {Φ : V → Hp → Prop} {d : Addr} {kvs : List (Key × V)} {z : Int}
/-- d[e2] = e -/
theorem s_dput [c : CtxZ (u1 X) g N k] (j : Nat) (h : Z.EP (u1 X) e σ Hb Φ) (cx : Ex Hb H) (h2 : EV (u1 X) e2 σ H rInt z) (hd : H d = some (.dK kvs)) (hl : kvs.length < 1000) (q : ∀ v Hk H2 H3, Go no Hb H Hk H2 → Φ v Hk → Ex H2 H3 → H3 d = some (.dK kvs) → D.nx σ (upd H3 d (.dK (putK kvs (.inl z) v))))
    (hs : swapsWith e (some (.Subscript (.Name x p) e2 p2)) pos.line X.env = pure false := by rfl) (hN : N[j]? = some x := by rfl) (hσ : σ[j]? = some (some (.ref d)) := by rfl) (hvis : Vis X.env.scope x := by first | exact Or.inl rfl | exact Or.inr (Or.inl rfl) | exact Or.inr (Or.inr rfl)) : wS X (.Assign [.Subscript (.Name x p) e2 p2] e pos) D σ H := by
  have hn0 : X.N = N := c.nm ()
  refine ⟨_, ps_dput (dun (X := u1 X) ()) (pe_var (i := j) (by rw [hn0]; exact hN) hvis (c.dbg x (List.mem_of_getElem? hN)).1 (c.dbg x (List.mem_of_getElem? hN)).2) (wE_ok (X := u1 X) ()) (wE_ok (X := u1 X) ()) hs, ?_⟩
  refine h H cx _ fun v Hk H2 g1 r => ⟨_, hσ, (h2.mono g1.ex) H2 (Ex.refl _) _ fun u Hg H3 g3 r3 => ?_⟩
  have hd3 := g3.ex _ _ (g1.ex _ _ hd)
  exact ⟨d, _, rfl, .inl ⟨kvs, .inl z, hd3, r3, Nat.lt_trans hl (by decide), rfl⟩, q v Hk H2 H3 g1 r g3.ex hd3⟩
end
section
variable {X : Cx} {i : Nat} {y : Str} {py : Pos} {kx vx tg iter : Expr} {ifs : List Expr} {scope : Scope} {own : List (Str × Nat)} {pos spos : Pos} {wi : TI} {gt : TG} {tt : TT} {tk tv : TE}
/-- name = {k: v for ..}, the name a local: the dict goes into the slot at once -/
theorem ps_setDc (cal : X.calm = true) (ndN : X.N.Nodup) (atN : X.N[i]? = some y) (loc : X.env.scope.names.lookup y = some .local)
    (used : swapsWith (.DictComp kx vx [⟨tg, iter, ifs, 0⟩] scope pos) (some (.Name y py)) spos.line X.env = pure true) (walk : PI X tg iter wi) (blk : BlkOk X.N X.env.scope scope own)
    (pgt : ∀ (s : Shared) (H : Hp) (C : Addr) (cl : List (Str × Addr)) (fp : List Addr), PG (X.blk s H scope (compEnvC scope cl C X.env) fp) tg gt) (ptt : ∀ (s : Shared) (H : Hp) (C : Addr) (cl : List (Str × Addr)) (fp : List Addr), PTs (X.blk s H scope (compEnvC scope cl C X.env) fp) ifs tt)
    (pek : ∀ (s : Shared) (H : Hp) (C : Addr) (cl : List (Str × Addr)) (fp : List Addr), PE (X.blk s H scope (compEnvC scope cl C X.env) fp) kx tk) (pev : ∀ (s : Shared) (H : Hp) (C : Addr) (cl : List (Str × Addr)) (fp : List Addr), PE (X.blk s H scope (compEnvC scope cl C X.env) fp) vx tv)
    (fold : ∀ x, foldedSetIterable iter X.env x = pure x) : PS X (.Assign [.Name y py] (.DictComp kx vx [⟨tg, iter, ifs, 0⟩] scope pos) spos) (tAsg (tDc wi gt tt tk tv (own.map (·.2))) (gName i)) := by
  constructor
  intro pins₀ s σ₀ H D I w₀
  have w₀ : tDc wi gt tt tk tv (own.map (·.2)) σ₀ H (fun x H1 => gName i x σ₀ H1 D.nx) := w₀
  rw [exec_Assign_Name_used _ _ _ _ used]
  refine (wpAny_bind (wpAny_standAt (wpAny_bind ?_)))
  have core₀ := dc_core (pos := pos) (pos' := firstIterPos [⟨tg, iter, ifs, 0⟩] pos) (use := some (assign (.Name y py) X.env)) (Qf := fun _ s'₀ => SP X pins₀ D .next s'₀) cal ndN I walk blk pgt ptt pek pev fold w₀ fun D0 C0 s1₀ m1₀ H1 I1₀ q1₀ n1₀ f1₀ => by
    obtain ⟨k0₀, k1₀, k2₀, k3₀, k4₀, k5₀⟩ := f1₀
    show wpAny _ _ (assign (.Name y py) X.env (.ref D0)) _ _ _
    refine wpAny_assign_Name (store_ok2 (v := V.ref D0) I1₀ ndN atN (.inl loc) rfl (fun s2₀ I2₀ ⟨a₀, sb₀, ha₀⟩ => ?_) (.inr loc))
    have apart₀ : C0 ≠ a₀ := ha₀.elim (fun z₀ => by rw [z₀]; exact k1₀) fun z₀ w₀ => k4₀ y a₀ z₀ w₀.symm
    exact ⟨m1₀, n1₀.sameBut sb₀ apart₀, fun h3₀ sb3₀ => ⟨_, H1, I2₀.turned (t' := s2₀.toks) (fun b₀ o₀ hb₀ e₀ => (sb3₀.2 b₀ hb₀).trans e₀) k0₀ k1₀ k3₀ k4₀ k5₀, q1₀⟩⟩
  show wpAny _ X.A (do let _ ← comprehension (.DictComp kx vx [⟨tg, iter, ifs, 0⟩] scope pos) scope X.env (firstIterPos [⟨tg, iter, ifs, 0⟩] pos) newDict false (eval iter X.env) (some (assign (.Name y py) X.env))) _ _ s
  exact wpAny_bind (thn core₀ fun _ s'₀ hq₀ => wpAny_pure (wpAny_pure hq₀))
theorem sw_dict {gs : List Comprehension} {l : Nat} {env : Env} (hk : env.scope.kind = .function) (hy : env.scope.names.lookup y = some .local) (hl : (py.line == pos.line) = true)
    (ha : (scope.names.any fun (n, k) => n == y && (k == .local || k == .cell)) = false) : swapsWith (.DictComp kx vx gs scope pos) (some (.Name y py)) l env = pure true := by
  have kind : env.kindOf y = some .local := hy
  have blk : env.blockKind = .function := by unfold Env.blockKind; rw [hk]; rfl
  unfold swapsWith
  simp only [blk, kind, ha, Expr.pos, hl]
  rfl
end
section
variable {X : Cx} {g : W5} {N : List Str} {k : Nat} {σ : L2.St} {H Hb : Hp} {e : Expr} {pos spos p2 p3 py : Pos} {x xt : Str} {D : Ends} {l : List Int} {scope : Scope} {j0 : Nat} {pn : Pos}
/-- name = {t: None for t in a list of ints} -/
theorem s_setDc [c : CtxZ (u1 X) g N k] (j jt : Nat) (own : List (Str × Nat)) (h : EV (u1 X) e σ Hb (rL rInt) l) (hz : l.length ≤ 1000)
    (hw : ∀ i : Int, wipe ((wipe σ (own.map (·.2))).set jt (some (.int i))) (own.map (·.2)) = wipe σ (own.map (·.2))) (hj : ∀ i : Int, ((wipe σ (own.map (·.2))).set jt (some (.int i)))[jt]? = some (some (.int i)))
    (cx : Ex Hb H) (q : ∀ d kvs H2, H d = none → Ex H H2 → H2 d = some (.dK kvs) → (∀ z : Int, valV kvs (.inl z) = if z ∈ l then some .non else none) → kvs.length ≤ l.length → D.nx (σ.set j (some (.ref d))) H2)
    (hN0 : N[j]? = some x := by rfl) (hyl : X.env.scope.names.lookup x = some .local := by rfl) (hsw : swapsWith (.DictComp (.Name xt p2) (.Constant .none j0 pn) [⟨.Name xt p3, e, [], 0⟩] scope pos) (some (.Name x py)) spos.line X.env = pure true := by exact sw_dict rfl rfl rfl (by kernel_rfl))
    (ok : BlkOk N X.env.scope scope own := by exact blkOk_by (by kernel_rfl)) (hs : ∀ x, foldedSetIterable e X.env x = pure x := by intro _; rfl)
    (hN : N[jt]? = some xt := by rfl) (hx : ∀ i, Loc (bX (u1 X) scope i).env.scope xt := by intro _; first | exact .inl rfl | exact .inr rfl) (hf : ∀ i, (bX (u1 X) scope i).fn xt = true ∨ (bX (u1 X) scope i).env.scope.names.lookup xt = some .local := by intro _; first | exact .inl rfl | exact .inr rfl)
    (hvis : ∀ i, Vis (bX (u1 X) scope i).env.scope xt := by intro _; first | exact Or.inl rfl | exact Or.inr (Or.inl rfl) | exact Or.inr (Or.inr rfl)) :
    wS X (.Assign [.Name x py] (.DictComp (.Name xt p2) (.Constant .none j0 pn) [⟨.Name xt p3, e, [], 0⟩] scope pos) spos) D σ H := by
  have hn0 : X.N = N := c.nm ()
  refine ⟨_, ps_setDc (i := j) (c.calm ()) (by rw [hn0]; exact c.nd) (by rw [hn0]; exact hN0) hyl hsw (wI_ok (X := u1 X) ()) (by rw [hn0]; exact ok) (blk_hs (X := u1 X) (P := fun Y => PG Y _ (wG (bX (u1 X) scope) (.Name xt p3))) scope (fun q => wG_ok q) ()) (blk_hs (X := u1 X) (P := fun Y => PTs Y [] (wTs (bX (u1 X) scope) [])) scope (fun q => wTs_ok q) ()) (blk_hs (X := u1 X) (P := fun Y => PE Y _ (wE (bX (u1 X) scope) (.Name xt p2))) scope (fun q => wE_ok q) ()) (blk_hs (X := u1 X) (P := fun Y => PE Y _ (wE (bX (u1 X) scope) (.Constant .none j0 pn))) scope (fun q => wE_ok q) ()) hs, ?_⟩
  exact dcN_run jt own h hz hw hj cx q hN hx hf hvis
end
end Z
/-! ZC: a range kept under a name; an item of a list asked for +=. -/
namespace Z
open PySem.Spec PySem PyProof.Rows L2
def rRng : Rep Nat := ⟨fun H v n => ∃ p, v = .ref p ∧ H p = some (.rng 0 (n : Int)), fun e ⟨p, a, b⟩ => ⟨p, a, e _ _ b⟩⟩
theorem cr_range1 {X : Cx} : CallR X (.type "range") (fun vs H Q => ∃ i, vs = [V.int i] ∧ ∀ p, H p = none → Q (.ref p) (upd H p (.rng 0 i))) := by
  intro pins₀ s₀ σ₀ H vs us₀ Q I r₀ ⟨i, e₀, q₀⟩
  subst e₀
  obtain ⟨u₀, rfl, t₀, rfl⟩ := vals1 r₀
  refine call_range_1 ⟨.ref s₀.heap.objs.size, _, I.laid (o := .rng 0 i) (t' := s₀.toks + 1 + 1) (fun b₀ o₀ e₀ => Heap.get?_push_of_some _ e₀) (Nat.le_refl _) ⟨_, t₀, _, Heap.get?_push_size _ rfl⟩, rfl, q₀ _ (I.hok.fresh (Nat.le_refl _))⟩
def iRngV (te : TE) : TI := fun σ H R => te σ H fun v H1 => ∃ (p : Addr) (n : Nat), v = .ref p ∧ H1 p = some (.rng 0 (n : Int)) ∧ n < 2 ^ 62 ∧ R (Itr 0 n) H1
theorem pi_rngV {X : Cx} {tg e : Expr} {te : TE} (he : PE X e te) : PI X tg e (iRngV te) := by
  constructor
  intro pins₀ s₀ σ₀ H R I h₀
  refine thn (he.run pins₀ s₀ σ₀ H _ I h₀) fun v₀ s1₀ ⟨x₀, H1, I1₀, r1₀, p₀, n₀, ex, hp₀, hn₀, q₀⟩ => ?_
  subst ex
  obtain rfl : v₀ = Value.ref p₀ := r1₀
  obtain ⟨t₀, u₀, w₀, ho₀⟩ := I1₀.hok p₀ _ hp₀
  refine wpAny_pyIter_range ho₀ (small_one (by omega) (by omega) (by omega) (by omega)) ?_
  have ez₀ : Builtin.Range.rangeSize 0 (n₀ : Int) 1 = (n₀ : Int) := by rw [rangeSize_one]; split <;> omega
  refine ⟨s1₀.heap.objs.size, [s1₀.heap.objs.size], _, _, H1, rfl, I1₀.kept (t' := s1₀.toks) fun b₀ o₀ e => Heap.get?_push_of_some _ e, turn_range s1₀.heap.objs.size 0 n₀, ?_, fun b₀ hb₀ => ?_, q₀⟩
  · show IsRangeIter _ _ (0 + ((0 : Nat) : Int) * 1) ((n₀ : Int) - ((0 : Nat) : Int)) 1
    rw [show (0 : Int) + ((0 : Nat) : Int) * 1 = 0 by simp, show (n₀ : Int) - ((0 : Nat) : Int) = Builtin.Range.rangeSize 0 (n₀ : Int) 1 by rw [ez₀]; simp]
    exact (Heap.get?_push_size _ rfl)
  · obtain rfl := List.mem_singleton.1 hb₀
    exact I1₀.fpOk (Nat.le_refl _) (I1₀.hok.fresh (Nat.le_refl _))
section
variable {ι : Type} {X : ι → Cx} {g : W5} {N : List Str} {k : Nat} {σ : L2.St} {Hb : Hp} {e tg : Expr} {pos p : Pos} {n : Nat}
/-- range(e) -/
theorem rng1 [c : CtxZ X g N k] (hm : g.mg "range" = none) (h : EV X e σ Hb rInt ((n : Nat) : Int)) (hg : ∀ i, Gl (X i) "range" := by intro _; rfl) (hs : NS e := by intro _ _; rfl) : EV X (.Call (.Name "range" p) [e] [] pos) σ Hb rRng n :=
  bcallT (Φ := fun v H => rRng.r H v n) (fun _ => cr_range1) hm (by decide +kernel) (ac h a0 hs) (fun vs Hk H2 c1 r Q q => by
    obtain ⟨v, rfl, r1⟩ := AL.one r
    have r1 : v = .int (n : Int) := r1
    subst r1
    exact ⟨_, rfl, fun m hm => q _ _ _ (Go.new c1 hm) ⟨m, rfl, upd_same⟩⟩) hg (he := hs)
/-- the walk over it -/
theorem iRv [c : CtxZ X g N k] (h : EV X e σ Hb rRng n) (hn : n < 2 ^ 62) : EI X tg e σ Hb n (fun i v _ => v = .int (i : Int)) := fun H1 c1 R q =>
  ⟨_, fun i => pi_rngV (wE_ok i), h H1 c1 _ fun v Hk H2 g1 ⟨p, e1, hp⟩ => ⟨p, n, e1, g1.on _ _ hp, hn, q _ Hk H2 g1 (fun i H hi _ => hi) (fun H _ => Nat.le_refl _) (fun i H x H' hi c2 y => by
    obtain ⟨rfl, rfl⟩ := y
    exact ⟨Hk, Go.refl c2, by rw [Int.zero_add]⟩)⟩⟩
end
/-- an item of a list, by its place -/
def rGetL (K : PySem.W.Frag) : V → V → Hp → VK → Prop := fun o i H Q => ∃ (p : Addr) (xs : List V) (j : Nat) (y : V), o = .ref p ∧ i = .int (j : Int) ∧ SqL K H p xs ∧ xs[j]? = some y ∧ Q y H
theorem get_list {X : Cx} : PGet X (rGetL X.K) := by
  intro pins₀ s₀ σ₀ H o₀ i₀ ov₀ iv₀ Q I ro₀ ri₀ ⟨p₀, xs₀, j₀, y₀, eo₀, ei₀, hq₀, hy₀, q₀⟩
  subst eo₀ ei₀
  obtain rfl : ov₀ = Value.ref p₀ := ro₀
  obtain ⟨t₀, rfl⟩ := ri₀
  obtain ⟨its₀, rv₀, pl₀, hz₀⟩ := I.list hq₀
  obtain ⟨u₀, hu₀, ru₀⟩ := rv₀.get hy₀
  have hl₀ := rv₀.length
  have hn₀ := line63
  have hj₀ : j₀ < xs₀.length := (List.getElem?_eq_some_iff.mp hy₀).1
  exact wpAny_getItem_list (x := u₀) pl₀.isList (by omega) (by omega) (by simpa using hu₀) ⟨y₀, H, I, ru₀, q₀⟩
section
variable {X : Cx} {g : W5} {N : List Str} {k : Nat} {σ : L2.St} {H : Hp} {e e1 e2 : Expr} {pos p1 p2 p3 : Pos} {x : Str} {D : Ends}
theorem get_list_K [c : CtxZ (u1 X) g N k] : PGet X (rGetL g.K) := by have := c.K (); rw [← show X.K = g.K from this]; exact get_list
/-- M[e1][e2] += e -/
theorem s_augM [c : CtxZ (u1 X) g N k] (j : Nat) {pa : Addr} {as : List Addr} {m : Nat} {f : Nat → Nat → Int} {ia ib b : Int} (ta tb : Nat) (Mx0 : Mx H pa as m f) (h1 : EV (u1 X) e1 σ H rInt ia) (h2 : EV (u1 X) e2 σ H rInt ib) (h : EV (u1 X) e σ H rInt b) (hia : ia = (ta : Int)) (hib : ib = (tb : Int)) (hta : ta < m) (htb : tb < m)
    (q : ∀ H2 H3 r, Ex H H2 → r ∈ as → (∃ o, H3 = upd H2 r o) → Mx H3 pa as m (fun x y => if x = ta ∧ y = tb then f x y + b else f x y) → D.nx σ H3)
    (hN : N[j]? = some x := by rfl) (hl : σ[j]? = some (some (.ref pa)) := by rfl) (hv : Vis X.env.scope x := by first | exact Or.inl rfl | exact Or.inr (Or.inl rfl) | exact Or.inr (Or.inr rfl)) (hp1 : PlainIx e1 := by intro _ _; rfl)
    (ha : ∀ ov iv new, augStore e2 ov iv new = (do holding [new, ov, iv] (setItem ov iv new); release [new, ov, iv] []; pure .next) := by intros; rfl) : wS X (.AugAssign (.Subscript (.Subscript (.Name x p1) e1 p2) e2 p3) .Add e pos) D σ H := by
  refine ⟨_, ps_augS (pe_ix (ix_K (X := u1 X) ()) (pe_var (i := j) (by have := c.nm (); rw [show X.N = N from this]; exact hN) hv (c.dbg x (List.mem_of_getElem? hN)).1 (c.dbg x (List.mem_of_getElem? hN)).2) (wE_ok (X := u1 X) ()) hp1) (wE_ok (X := u1 X) ()) get_list_K (wE_ok (X := u1 X) ()) ip_add set_list ha, ?_⟩
  refine ⟨_, hl, h1 H (Ex.refl _) _ fun u Hk H2 g1 r1 => ?_⟩
  have r1 : u = .int ia := r1
  subst r1
  have hta' : ta < as.length := by rw [Mx0.len]; exact hta
  refine .inl ⟨pa, as.map .ref, ia, .ref as[ta], rfl, rfl, SqL.of (g1.ex _ _ Mx0.top), atI_of hia (by simp [hta']), ?_⟩
  refine (h2.mono g1.base) H2 g1.on _ fun u2 Hl H3 g2 r2 => ?_
  have r2 : u2 = .int ib := r2
  subst r2
  have e3 : Ex H H3 := g1.ex.trans g2.ex
  have hrow := Mx0.row ta as[ta] (by simp [hta'])
  refine ⟨as[ta], _, tb, .int (f ta tb), rfl, by rw [hib], SqL.of (e3 _ _ hrow), by rw [List.getElem?_map, tab_get htb]; rfl, ?_⟩
  refine (h.mono (g1.base.trans g2.base)) H3 g2.on _ fun u3 Hm H4 g3 r3 => ?_
  have r3 : u3 = .int b := r3
  subst r3
  have e4 : Ex H H4 := e3.trans g3.ex
  refine ⟨f ta tb, b, rfl, rfl, as[ta], _, ib, tb, rfl, rfl, e4 _ _ hrow, by rw [hib]; unfold ixN; simp; omega, ?_⟩
  refine q H4 _ as[ta] e4 (by simp) ⟨_, rfl⟩ ?_
  have hs := (Mx0.mono e4).store (v := f ta tb + b) (show as[ta]? = some as[ta] by simp [hta']) htb
  refine ⟨hs.len, hs.nd, hs.out, hs.top, fun i a hi => ?_⟩
  rw [hs.row i a hi]
  congr 3
  apply tab_congr
  intro y _
  by_cases z : i = ta ∧ y = tb
  · obtain ⟨rfl, rfl⟩ := z; simp
  · simp [z]
end
end Z
/-! M0: grids and lots of states. -/
namespace M
abbrev Mat := Nat → Nat → Int
/-- a lot of states that no arrow leaves, with one state below m, has all states below m -/
def Jn (N m : Nat) (f : Mat) : Prop := ∀ S : Nat → Prop, (∀ x y, x < N → y < N → S x → 0 < f x y → S y) → ∀ x, x < m → S x → ∀ y, y < m → S y
abbrev Joined (n : Nat) (f : Mat) : Prop := Jn n n f
structure GridOk (n : Nat) (f : Mat) : Prop where
  dg : ∀ a, a < n → f a a = 0
  nn : ∀ a b, a < n → b < n → 0 ≤ f a b
  le : ∀ a b, a < n → b < n → f a b ≤ 1000003
theorem GridOk.congr {n : Nat} {f g : Mat} (h : GridOk n f) (e : ∀ a b, a < n → b < n → g a b = f a b) : GridOk n g :=
  ⟨fun a ha => by rw [e a a ha ha]; exact h.dg a ha, fun a b ha hb => by rw [e a b ha hb]; exact h.nn a b ha hb, fun a b ha hb => by rw [e a b ha hb]; exact h.le a b ha hb⟩
theorem GridOk.set {n : Nat} {f : Mat} (h : GridOk n f) {x y : Nat} {v : Int} (hxy : x ≠ y) (h0 : 0 ≤ v) (h1 : v ≤ 1000003) : GridOk n (fun a b => if a = x ∧ b = y then v else f a b) :=
  ⟨fun a ha => by
    split
    · rename_i h; omega
    · exact h.dg a ha, fun a b ha hb => by
    split
    · exact h0
    · exact h.nn a b ha hb, fun a b ha hb => by
    split
    · exact h1
    · exact h.le a b ha hb⟩
theorem Jn.more {N m : Nat} {f g : Mat} (h : Jn N m f) (e : ∀ x y, x < N → y < N → 0 < f x y → 0 < g x y) : Jn N m g :=
  fun S hS => h S fun x y hx hy sx hf => hS x y hx hy sx (e x y hx hy hf)
theorem Jn.congr {N m : Nat} {f g : Mat} (h : Jn N m f) (e : ∀ a b, a < N → b < N → g a b = f a b) : Jn N m g := h.more fun x y hx hy hf => by rw [e x y hx hy]; exact hf
theorem jn_one {N : Nat} {f : Mat} : Jn N 1 f := fun S _ x hx sx y hy => by
  have : x = y := by omega
  exact this ▸ sx
/-- a ring of arrows -/
theorem ring_joined {n : Nat} {f : Mat} (h : ∀ x, x < n → 0 < f x ((x + 1) % n)) : Joined n f := by
  intro S hS x hx sx y hy
  have step : ∀ k, S ((x + k) % n) := by
    intro k
    induction k with
    | zero => rw [Nat.add_zero, Nat.mod_eq_of_lt hx]; exact sx
    | succ k ih =>
      have h1 : (x + k) % n < n := Nat.mod_lt _ (by omega)
      have := hS _ _ h1 (Nat.mod_lt _ (by omega)) ih (h _ h1)
      rwa [Nat.mod_add_mod] at this
  have := step (y + n - x)
  rwa [show x + (y + n - x) = y + n by omega, Nat.add_mod_right, Nat.mod_eq_of_lt hy] at this
/-- a state hung on old: there and back -/
theorem Jn.hang {N m old : Nat} {f : Mat} (h : Jn N m f) (hm : m < N) (ho : old < m) (h1 : 0 < f old m) (h2 : 0 < f m old) : Jn N (m + 1) f := by
  intro S hS x hx sx y hy
  have sold : S old := by
    by_cases e : x = m
    · subst e; exact hS _ _ hm (by omega) sx h2
    · exact h S hS x (by omega) sx old ho
  by_cases e : y = m
  · subst e; exact hS _ _ (by omega) hm sold h1
  · exact h S hS old ho sold y (by omega)
/-- two states hung on old, one behind the other -/
theorem Jn.hang2 {N m old : Nat} {f : Mat} (h : Jn N m f) (hm : m + 1 < N) (ho : old < m) (h1 : 0 < f old m) (h2 : 0 < f m (m + 1)) (h3 : 0 < f (m + 1) old) : Jn N (m + 2) f := by
  intro S hS x hx sx y hy
  have sold : S old := by
    by_cases e : x = m + 1
    · subst e; exact hS _ _ hm (by omega) sx h3
    · by_cases e : x = m
      · subst e; exact hS _ _ hm (by omega) (hS _ _ (by omega) hm sx h2) h3
      · exact h S hS x (by omega) sx old ho
  have sm : S m := hS _ _ (by omega) (by omega) sold h1
  by_cases e : y = m + 1
  · subst e; exact hS _ _ (by omega) hm sm h2
  · by_cases e : y = m
    · subst e; exact sm
    · exact h S hS old ho sold y (by omega)
/-- the grid with its states moved on by s -/
theorem joined_moved {n s : Nat} {f g : Mat} (hs : s < n) (h : Joined n f) (e : ∀ x y, x < n → y < n → g ((x + s) % n) ((y + s) % n) = f x y) : Joined n g := by
  intro S hS x hx sx y hy
  have back : ∀ z, z < n → ((z + n - s) % n + s) % n = z := fun z hz => by
    rw [Nat.mod_add_mod, show z + n - s + s = z + n by omega, Nat.add_mod_right, Nat.mod_eq_of_lt hz]
  have hl : ∀ z, z % n < n := fun z => Nat.mod_lt _ (by omega)
  have := h (fun z => S ((z + s) % n)) (fun a b ha hb sa hf => hS _ _ (hl _) (hl _) sa (by rw [e a b ha hb]; exact hf)) ((x + n - s) % n) (hl _) (by rw [back x hx]; exact sx) ((y + n - s) % n) (hl _)
  rwa [back y hy] at this
theorem gridOk_moved {n s : Nat} {f g : Mat} (hs : s < n) (h : GridOk n f) (e : ∀ x y, x < n → y < n → g ((x + s) % n) ((y + s) % n) = f x y) : GridOk n g := by
  have back : ∀ z, z < n → ((z + n - s) % n + s) % n = z := fun z hz => by
    rw [Nat.mod_add_mod, show z + n - s + s = z + n by omega, Nat.add_mod_right, Nat.mod_eq_of_lt hz]
  have hl : ∀ z, z % n < n := fun z => Nat.mod_lt _ (by omega)
  have key : ∀ a b, a < n → b < n → g a b = f ((a + n - s) % n) ((b + n - s) % n) := fun a b ha hb => by
    have := e ((a + n - s) % n) ((b + n - s) % n) (hl _) (hl _)
    rwa [back a ha, back b hb] at this
  exact ⟨fun a ha => by rw [key a a ha ha]; exact h.dg _ (hl _), fun a b ha hb => by rw [key a b ha hb]; exact h.nn _ _ (hl _) (hl _), fun a b ha hb => by rw [key a b ha hb]; exact h.le _ _ (hl _) (hl _)⟩
end M
/-! M1: sums, Euclid by steps, shares by elimination (what is computed). -/
namespace M
/-- g 0 + .. + g (n - 1) -/
def sm : Nat → (Nat → Int) → Int
  | 0, _ => 0
  | n + 1, g => sm n g + g n
theorem sm_congr {n : Nat} {f g : Nat → Int} (h : ∀ i, i < n → f i = g i) : sm n f = sm n g := by
  induction n with
  | zero => rfl
  | succ n ih => rw [sm, sm, ih fun i hi => h i (by omega), h n (by omega)]
/-- k steps of Euclid's rule -/
def eu : Nat → Int → Int → Int
  | 0, a, _ => a
  | k + 1, a, b => if 0 < b then eu k b (a % b) else eu k a b
/-- the state last is taken out -/
def elim (last : Nat) (W : Mat) : Mat := fun x y => if x < last ∧ y < last ∧ x ≠ y then W x y * sm last (W last) + W x last * W last y else W x y
/-- behind s steps, of n states -/
def WK (n : Nat) (f : Mat) : Nat → Mat
  | 0 => f
  | s + 1 => elim (n - 1 - s) (WK n f s)
/-- the work when the state m is taken out; what leaves it -/
def Wm (n : Nat) (f : Mat) (m : Nat) : Mat := WK n f (n - 1 - m)
def Lm (n : Nat) (f : Mat) (m : Nat) : Int := sm m (Wm n f m m)
/-- the shares of the first m states -/
def shr (n : Nat) (f : Mat) : Nat → Nat → Int
  | 0, _ => 1
  | m + 1, x => if x < m + 1 then shr n f m x * Lm n f (m + 1) else sm (m + 1) fun y => shr n f m y * Wm n f (m + 1) y (m + 1)
/-- the common divisor as the rule finds it -/
def euAll (l : List Int) : Int := l.foldl (fun c x => eu 400 x c) 0
def lowest (l : List Int) : List Int := l.map fun x => x / (if euAll l > 1 then euAll l else 1)
/-! bounds -/
theorem sm_le {n : Nat} {g : Nat → Int} {B : Int} (h : ∀ i, i < n → 0 ≤ g i ∧ g i ≤ B) : 0 ≤ sm n g ∧ sm n g ≤ n * B := by
  induction n with
  | zero => exact ⟨Int.le_refl _, by simp [sm]⟩
  | succ n ih =>
    have h1 := ih fun i hi => h i (by omega)
    have h2 := h n (by omega)
    have e : ((n + 1 : Nat) : Int) * B = n * B + B := by rw [Int.natCast_succ, Int.add_mul, Int.one_mul]
    rw [sm, e]; omega
def Bk : Nat → Int
  | 0 => 1000003
  | s + 1 => 5 * (Bk s * Bk s)
theorem Bk_pos : ∀ s, 1 ≤ Bk s
  | 0 => by decide
  | s + 1 => by
    have h := Bk_pos s
    have : 1 * 1 ≤ Bk s * Bk s := Int.mul_le_mul h h (by decide) (by omega)
    show 1 ≤ 5 * (Bk s * Bk s); omega
structure Bdd (n : Nat) (W : Mat) (B : Int) : Prop where
  nn : ∀ x y, x < n → y < n → 0 ≤ W x y
  le : ∀ x y, x < n → y < n → W x y ≤ B
theorem elim_bdd {n last s : Nat} {W : Mat} (hn : n ≤ 5) (hl : last < n) (h : Bdd n W (Bk s)) : Bdd n (elim last W) (Bk (s + 1)) := by
  have hB := Bk_pos s
  have hL := sm_le (n := last) (g := W last) (B := Bk s) fun i hi => ⟨h.nn _ _ hl (by omega), h.le _ _ hl (by omega)⟩
  have hL2 : sm last (W last) ≤ 4 * Bk s := by
    have : (last : Int) * Bk s ≤ 4 * Bk s := Int.mul_le_mul_of_nonneg_right (by omega) (by omega)
    omega
  have hBB : Bk s ≤ Bk s * Bk s := by
    have : Bk s * 1 ≤ Bk s * Bk s := Int.mul_le_mul_of_nonneg_left hB (by omega)
    omega
  constructor
  · intro x y hx hy
    unfold elim
    split
    · have a := Int.mul_nonneg (h.nn x y hx hy) hL.1
      have b := Int.mul_nonneg (h.nn x last hx hl) (h.nn last y hl hy)
      omega
    · exact h.nn x y hx hy
  · intro x y hx hy
    unfold elim
    show _ ≤ 5 * (Bk s * Bk s)
    split
    · have a : W x y * sm last (W last) ≤ Bk s * (4 * Bk s) := Int.mul_le_mul (h.le x y hx hy) hL2 hL.1 (by omega)
      have b : W x last * W last y ≤ Bk s * Bk s := Int.mul_le_mul (h.le x last hx hl) (h.le last y hl hy) (h.nn last y hl hy) (by omega)
      have c : Bk s * (4 * Bk s) = 4 * (Bk s * Bk s) := by rw [Int.mul_left_comm]
      omega
    · have := h.le x y hx hy; omega
theorem WK_bdd {n : Nat} {f : Mat} (hn : n ≤ 5) (h : GridOk n f) : ∀ s, s < n → Bdd n (WK n f s) (Bk s)
  | 0, _ => ⟨h.nn, h.le⟩
  | s + 1, hs => elim_bdd hn (by omega) (WK_bdd hn h s (by omega))
theorem Bk_mono {s t : Nat} (h : s ≤ t) : Bk s ≤ Bk t := by
  induction h with
  | refl => exact Int.le_refl _
  | step _ ih =>
    rename_i t _
    have := Bk_pos t
    have : Bk t * 1 ≤ Bk t * Bk t := Int.mul_le_mul_of_nonneg_left this (by omega)
    show _ ≤ 5 * (Bk t * Bk t); omega
theorem Wm_bdd {n m : Nat} {f : Mat} (hn : n ≤ 5) (h : GridOk n f) (hm : m < n) (h1 : 1 ≤ m) : Bdd n (Wm n f m) (Bk 3) := by
  have := WK_bdd hn h (n - 1 - m) (by omega)
  exact ⟨this.nn, fun x y hx hy => Int.le_trans (this.le x y hx hy) (Bk_mono (by omega))⟩
theorem Lm_bdd {n m : Nat} {f : Mat} (hn : n ≤ 5) (h : GridOk n f) (hm : m < n) (h1 : 1 ≤ m) : 0 ≤ Lm n f m ∧ Lm n f m ≤ 4 * Bk 3 := by
  have b := Wm_bdd hn h hm h1
  have := sm_le (n := m) (g := Wm n f m m) (B := Bk 3) fun i hi => ⟨b.nn _ _ hm (by omega), b.le _ _ hm (by omega)⟩
  have : (m : Int) * Bk 3 ≤ 4 * Bk 3 := Int.mul_le_mul_of_nonneg_right (by omega) (by have := Bk_pos 3; omega)
  unfold Lm; omega
theorem shr_bdd {n : Nat} {f : Mat} (hn : n ≤ 5) (h : GridOk n f) : ∀ m, m < n → ∀ x, x ≤ m → 0 ≤ shr n f m x ∧ shr n f m x ≤ (4 * Bk 3) ^ m
  | 0, _, x, _ => by simp [shr]
  | m + 1, hm, x, hx => by
    have hB := Bk_pos 3
    have L := Lm_bdd hn h hm (by omega)
    have b := Wm_bdd hn h hm (by omega)
    have ih := shr_bdd hn h m (by omega)
    have hp : (0 : Int) ≤ (4 * Bk 3) ^ m := Int.le_trans (ih 0 (by omega)).1 (ih 0 (by omega)).2
    unfold shr
    rw [Int.pow_succ]
    split
    · have := ih x (by omega)
      exact ⟨Int.mul_nonneg this.1 L.1, Int.mul_le_mul this.2 L.2 L.1 hp⟩
    · have := sm_le (n := m + 1) (g := fun y => shr n f m y * Wm n f (m + 1) y (m + 1)) (B := (4 * Bk 3) ^ m * Bk 3) fun i hi =>
        ⟨Int.mul_nonneg (ih i (by omega)).1 (b.nn _ _ (by omega) hm), Int.mul_le_mul (ih i (by omega)).2 (b.le _ _ (by omega) hm) (b.nn _ _ (by omega) hm) hp⟩
      have e : ((m + 1 : Nat) : Int) * ((4 * Bk 3) ^ m * Bk 3) ≤ 4 * ((4 * Bk 3) ^ m * Bk 3) := Int.mul_le_mul_of_nonneg_right (by omega) (Int.mul_nonneg hp (by omega))
      have e2 : (4 * Bk 3) ^ m * (4 * Bk 3) = 4 * ((4 * Bk 3) ^ m * Bk 3) := by rw [Int.mul_left_comm]
      omega
/-- Euclid's rule stays below -/
theorem eu_bdd {B : Int} : ∀ k a b, 0 ≤ a → a ≤ B → b ≤ B → 0 ≤ eu k a b ∧ eu k a b ≤ B
  | 0, a, b, h0, h1, _ => ⟨h0, h1⟩
  | k + 1, a, b, h0, h1, h2 => by
    unfold eu
    split
    · rename_i hb
      have := Int.emod_lt_of_pos a hb
      exact eu_bdd k b (a % b) (by omega) h2 (by omega)
    · exact eu_bdd k a b h0 h1 h2
theorem euAll_bdd {B : Int} : ∀ (l : List Int) (c : Int), 0 ≤ c → c ≤ B → (∀ x ∈ l, 0 ≤ x ∧ x ≤ B) → 0 ≤ l.foldl (fun c x => eu 400 x c) c ∧ l.foldl (fun c x => eu 400 x c) c ≤ B
  | [], c, h0, h1, _ => ⟨h0, h1⟩
  | x :: l, c, h0, h1, h => by
    have hx := h x (List.mem_cons_self ..)
    have := eu_bdd 400 x c hx.1 hx.2 h1
    exact euAll_bdd l _ this.1 this.2 fun y hy => h y (List.mem_cons_of_mem _ hy)
/-- a part of it is taken out -/
def part (m : Nat) (W : Mat) (x y : Nat) : Mat := fun a b => if a < x ∨ (a = x ∧ b < y) then elim m W a b else W a b
theorem part_zero (m : Nat) (W : Mat) : part m W 0 0 = W := by
  funext a b; unfold part; rw [if_neg (by omega)]
theorem part_end (m : Nat) (W : Mat) : part m W m 0 = elim m W := by
  funext a b; unfold part
  split
  · rfl
  · unfold elim; rw [if_neg (by omega)]
theorem part_row (m : Nat) (W : Mat) (x : Nat) : part m W x m = part m W (x + 1) 0 := by
  funext a b; unfold part
  by_cases h : a < x ∨ (a = x ∧ b < m)
  · rw [if_pos h]; rw [if_pos (by omega)]
  · rw [if_neg h]
    split
    · unfold elim; rw [if_neg (by omega)]
    · rfl
theorem part_skip (m : Nat) (W : Mat) (x : Nat) : part m W x (x + 1) = part m W x x := by
  funext a b; unfold part
  by_cases h : a = x ∧ b = x
  · obtain ⟨rfl, rfl⟩ := h
    rw [if_pos (by omega), if_neg (by omega)]; unfold elim; rw [if_neg (by omega)]
  · by_cases h2 : a < x ∨ (a = x ∧ b < x)
    · rw [if_pos h2, if_pos (by omega)]
    · rw [if_neg h2, if_neg (by omega)]
theorem part_step (m : Nat) (W : Mat) (x y : Nat) (hx : x < m) (hy : y < m) (h : y ≠ x) : (fun a b => if a = x ∧ b = y then W x y * sm m (W m) + W x m * W m y else part m W x y a b) = part m W x (y + 1) := by
  funext a b; unfold part
  by_cases h1 : a = x ∧ b = y
  · obtain ⟨rfl, rfl⟩ := h1
    rw [if_pos ⟨rfl, rfl⟩, if_pos (by omega)]; unfold elim; rw [if_pos (by omega)]
  · rw [if_neg h1]
    by_cases h2 : a < x ∨ (a = x ∧ b < y)
    · rw [if_pos h2, if_pos (by omega)]
    · rw [if_neg h2, if_neg (by omega)]
theorem part_at (m : Nat) (W : Mat) (x y b : Nat) (h : y ≤ b) : part m W x y x b = W x b := by unfold part; rw [if_neg (by omega)]
theorem part_last (m : Nat) (W : Mat) (x y b : Nat) (h : x < m) : part m W x y m b = W m b := by unfold part; rw [if_neg (by omega)]
/-- what is kept of the state m -/
def lineOf (n : Nat) (f : Mat) (m : Nat) : List Int := Lm n f m :: (List.range m).map fun x => Wm n f m x m
end M
/-! M2: lists of states. -/
namespace M
theorem sub_len : ∀ (a b : List Nat), a.Nodup → (∀ x ∈ a, x ∈ b) → a.length ≤ b.length
  | [], _, _, _ => Nat.zero_le (_)
  | x :: a, b, hn, h => by
    have hx := h x (List.mem_cons_self ..)
    have hl := List.length_erase_of_mem hx
    have := sub_len a (b.erase x) (List.nodup_cons.mp hn).2 fun y hy => by
      have hyb := h y (List.mem_cons_of_mem _ hy)
      have hne : y ≠ x := fun z₀ => (List.nodup_cons.mp hn).1 (z₀ ▸ hy)
      exact (List.mem_erase_of_ne hne).mpr hyb
    have : 0 < b.length := List.length_pos_of_mem hx
    rw [List.length_cons]; omega
theorem len_le {n : Nat} {l : List Nat} (hn : l.Nodup) (h : ∀ x ∈ l, x < n) : l.length ≤ n := by
  have := sub_len l (List.range n) hn fun x hx => List.mem_range.mpr (h x hx)
  simpa using this
theorem le_len {n : Nat} {l : List Nat} (h : ∀ y, y < n → y ∈ l) : n ≤ l.length := by
  have := sub_len (List.range n) l List.nodup_range fun x hx => h x (List.mem_range.mp hx)
  simpa using this
theorem nodup_snoc {l : List Nat} {y : Nat} (h : l.Nodup) (hy : y ∉ l) : (l ++ [y]).Nodup := by
  rw [List.nodup_append]
  exact ⟨h, by simp, fun a ha b hb => by rw [List.mem_singleton.1 hb]; exact fun z => hy (z ▸ ha)⟩
end M
/-! M3: flows between bounds; ways by steps. -/
namespace M
abbrev Cl := Option (Int × Int)
/-- a step from z to w over a flow F within lo and hi, the pair cl closed -/
inductive StepOk (lo hi F : Mat) (cl : Cl) (z w : Nat) : List Int → Prop
  | fwd : w ≠ z → some ((z : Int), (w : Int)) ≠ cl → F z w < hi z w → StepOk lo hi F cl z w [(w : Int), (z : Int), (w : Int), 1, hi z w - F z w]
  | bwd : w ≠ z → some ((w : Int), (z : Int)) ≠ cl → lo w z < F w z → StepOk lo hi F cl z w [(w : Int), (w : Int), (z : Int), -1, F w z - lo w z]
def Res (lo hi F : Mat) (cl : Cl) (z w : Nat) : Prop := w ≠ z ∧ ((some ((z : Int), (w : Int)) ≠ cl ∧ F z w < hi z w) ∨ (some ((w : Int), (z : Int)) ≠ cl ∧ lo w z < F w z))
theorem StepOk.head {lo hi F : Mat} {cl : Cl} {z w : Nat} {s : List Int} (h : StepOk lo hi F cl z w s) : s[0]? = some (w : Int) := by cases h <;> rfl
theorem StepOk.res {lo hi F : Mat} {cl : Cl} {z w : Nat} {s : List Int} (h : StepOk lo hi F cl z w s) : Res lo hi F cl z w := by
  cases h with
  | fwd a b c => exact ⟨a, .inl ⟨b, c⟩⟩
  | bwd a b c => exact ⟨a, .inr ⟨b, c⟩⟩
theorem StepOk.cap {lo hi F : Mat} {cl : Cl} {z w : Nat} {s : List Int} (h : StepOk lo hi F cl z w s) : ∃ c, s[4]? = some c ∧ 1 ≤ c := by
  cases h with
  | fwd a b c => exact ⟨_, rfl, by omega⟩
  | bwd a b c => exact ⟨_, rfl, by omega⟩
/-- what steps_at hands back -/
structure StepsAt (n : Nat) (lo hi F : Mat) (cl : Cl) (z : Nat) (l : List (List Int)) : Prop where
  ok : ∀ s ∈ l, ∃ w, w < n ∧ StepOk lo hi F cl z w s
  all : ∀ w, w < n → Res lo hi F cl z w → ∃ s ∈ l, StepOk lo hi F cl z w s
  len : l.length ≤ 2 * n
/-- how a state was come to: none: not; some none: a start; some (b, s): from b by the step s -/
abbrev Came := Nat → Option (Option (Nat × List Int))
/-- from z back to the start a: the steps, latest first -/
inductive Tr (cm : Came) : Nat → Nat → List (List Int) → Prop
  | root {z : Nat} : cm z = some none → Tr cm z z []
  | step {z b a : Nat} {s : List Int} {ss : List (List Int)} : cm z = some (some (b, s)) → Tr cm b a ss → Tr cm z a (s :: ss)
/-- a way from a to b by steps, latest first; vs: the states on it, latest first -/
inductive Way (SO : Nat → Nat → List Int → Prop) (a : Nat) : List Nat → Nat → List (List Int) → Prop
  | nil : Way SO a [a] a []
  | snoc {vs : List Nat} {b c : Nat} {ss : List (List Int)} {s : List Int} : Way SO a vs b ss → SO b c s → c ∉ vs → Way SO a (c :: vs) c (s :: ss)
theorem Tr.grow {cm : Came} {c : Nat} {o : Option (Nat × List Int)} (hc : cm c = none) {z a : Nat} {ss : List (List Int)} (h : Tr cm z a ss) : Tr (fun y => if y = c then some o else cm y) z a ss := by
  induction h with
  | root h => exact .root (by rw [if_neg (fun e => by rw [e, hc] at h; cases h)]; exact h)
  | step h _ ih => exact .step (by rw [if_neg (fun e => by rw [e, hc] at h; cases h)]; exact h) ih
theorem Way.len {SO : Nat → Nat → List Int → Prop} {a b : Nat} {vs : List Nat} {ss : List (List Int)} (h : Way SO a vs b ss) : vs.length = ss.length + 1 := by
  induction h with
  | nil => rfl
  | snoc _ _ _ ih => simp [ih]
theorem Way.nodup {SO : Nat → Nat → List Int → Prop} {a b : Nat} {vs : List Nat} {ss : List (List Int)} (h : Way SO a vs b ss) : vs.Nodup := by
  induction h with
  | nil => simp
  | snoc _ _ h ih => exact List.nodup_cons.mpr ⟨h, ih⟩
/-- what the search knows: every state of the queue is come to by a way from a start -/
structure Srch (n : Nat) (SO : Nat → Nat → List Int → Prop) (st : List Nat) (cm : Came) (ql : List Nat) : Prop where
  nd : ql.Nodup
  lt : ∀ y ∈ ql, y < n
  dom : ∀ y, (cm y).isSome = true ↔ y ∈ ql
  sts : ∀ y ∈ st, y ∈ ql
  way : ∀ y ∈ ql, ∃ a ss vs, a ∈ st ∧ Tr cm y a ss ∧ Way SO a vs y ss ∧ ∀ v ∈ vs, v ∈ ql
theorem Srch.start {n : Nat} {SO : Nat → Nat → List Int → Prop} {st : List Nat} (nd : st.Nodup) (lt : ∀ y ∈ st, y < n) : Srch n SO st (fun y => if y ∈ st then some none else none) st :=
  ⟨nd, lt, fun y => by by_cases h : y ∈ st <;> simp [h], fun _ h => h, fun y h => ⟨y, [], [y], h, .root (by simp [h]), .nil, by simpa using h⟩⟩
theorem Srch.add {n : Nat} {SO : Nat → Nat → List Int → Prop} {st ql : List Nat} {cm : Came} (S : Srch n SO st cm ql) {z c : Nat} {s : List Int} (hz : z ∈ ql) (hc : c ∉ ql) (hcn : c < n) (hs : SO z c s) : Srch n SO st (fun y => if y = c then some (some (z, s)) else cm y) (ql ++ [c]) := by
  have hcm : cm c = none := by
    cases h : cm c with
    | none => rfl
    | some o => exact absurd ((S.dom c).mp (by rw [h]; rfl)) hc
  refine ⟨nodup_snoc S.nd hc, fun y hy => ?_, fun y => ?_, fun y hy => List.mem_append_left _ (S.sts y hy), fun y hy => ?_⟩
  · rcases List.mem_append.1 hy with h | h
    · exact S.lt y h
    · rw [List.mem_singleton.1 h]; exact hcn
  · by_cases e : y = c
    · subst e; simp
    · simp only [e, if_false, List.mem_append, List.mem_singleton, or_false]; exact S.dom y
  · rcases List.mem_append.1 hy with h | h
    · obtain ⟨a, ss, vs, h1, h2, h3, h4⟩ := S.way y h
      exact ⟨a, ss, vs, h1, h2.grow hcm, h3, fun v hv => List.mem_append_left _ (h4 v hv)⟩
    · rw [List.mem_singleton.1 h]
      obtain ⟨a, ss, vs, h1, h2, h3, h4⟩ := S.way z hz
      refine ⟨a, s :: ss, c :: vs, h1, .step (by simp) (h2.grow hcm), .snoc h3 hs fun w => hc (h4 c w), fun v hv => ?_⟩
      rcases List.mem_cons.1 hv with e | e
      · rw [e]; simp
      · exact List.mem_append_left _ (h4 v e)
end M
/-! M4: sending along a way. -/
namespace M
def exc (n : Nat) (F : Mat) (z : Nat) : Int := sm n (fun x => F x z) - sm n (fun y => F z y)
def addS (amt : Int) (F : Mat) : List Int → Mat
  | [_, x, y, c, _] => fun a b => if (a : Int) = x ∧ (b : Int) = y then F a b + c * amt else F a b
  | _ => F
def send (F : Mat) (ss : List (List Int)) (amt : Int) : Mat := ss.foldl (addS amt) F
/-- a step's form -/
def Form (n : Nat) (s : List Int) : Prop := ∃ (x y : Nat) (c u v : Int), x < n ∧ y < n ∧ (c = 1 ∨ c = -1) ∧ s = [u, (x : Int), (y : Int), c, v]
theorem StepOk.form {n : Nat} {lo hi F : Mat} {cl : Cl} {z w : Nat} {s : List Int} (h : StepOk lo hi F cl z w s) (hz : z < n) (hw : w < n) : Form n s := by
  cases h with
  | fwd a b c => exact ⟨z, w, 1, _, _, hz, hw, .inl rfl, rfl⟩
  | bwd a b c => exact ⟨w, z, -1, _, _, hw, hz, .inr rfl, rfl⟩
/-! sums -/
theorem sm_add {n : Nat} {f g : Nat → Int} : sm n (fun i => f i + g i) = sm n f + sm n g := by
  induction n with
  | zero => rfl
  | succ n ih => simp only [sm, ih]; omega
theorem sm_zero {n : Nat} : sm n (fun _ => 0) = 0 := by
  induction n with
  | zero => rfl
  | succ n ih => simp only [sm, ih]; rfl
theorem sm_neg {n : Nat} {f : Nat → Int} : sm n (fun i => -f i) = -sm n f := by
  induction n with
  | zero => rfl
  | succ n ih => simp only [sm, ih]; omega
theorem sm_sub {n : Nat} {f g : Nat → Int} : sm n (fun i => f i - g i) = sm n f - sm n g := by
  induction n with
  | zero => rfl
  | succ n ih => simp only [sm, ih]; omega
theorem sm_mul {n : Nat} {f : Nat → Int} {k : Int} : sm n (fun i => k * f i) = k * sm n f := by
  induction n with
  | zero => simp [sm]
  | succ n ih => simp only [sm, ih, Int.mul_add]
theorem sm_at {n z : Nat} {v : Int} (hz : z < n) : sm n (fun i => if i = z then v else 0) = v := by
  induction n with
  | zero => omega
  | succ n ih =>
    rw [sm]
    by_cases h : n = z
    · subst h
      rw [if_pos rfl, sm_congr (g := fun _ => 0) fun i hi => if_neg (by omega), sm_zero]; omega
    · rw [ih (by omega), if_neg h]; omega
theorem sm_none {n : Nat} {f : Nat → Int} (h : ∀ i, i < n → f i = 0) : sm n f = 0 := by rw [sm_congr h, sm_zero]
theorem sm_swap {n m : Nat} {f : Nat → Nat → Int} : sm n (fun x => sm m fun y => f x y) = sm m (fun y => sm n fun x => f x y) := by
  induction n with
  | zero => exact (sm_none fun _ _ => rfl).symm
  | succ n ih =>
    rw [sm, ih, ← sm_add]
    exact sm_congr fun y _ => rfl
theorem sm_mono {n : Nat} {f g : Nat → Int} (h : ∀ i, i < n → f i ≤ g i) : sm n f ≤ sm n g := by
  induction n with
  | zero => exact Int.le_refl _
  | succ n ih =>
    have := ih fun i hi => h i (by omega)
    have := h n (by omega)
    simp only [sm]; omega
theorem sm_lt {n z : Nat} {f g : Nat → Int} (h : ∀ i, i < n → f i ≤ g i) (hz : z < n) (hs : f z < g z) : sm n f < sm n g := by
  induction n with
  | zero => omega
  | succ n ih =>
    have h1 := h n (by omega)
    by_cases e : n = z
    · subst e
      have := sm_mono (n := n) fun i hi => h i (show i < n + 1 by omega)
      simp only [sm]; omega
    · have := ih (fun i hi => h i (by omega)) (by omega)
      simp only [sm]; omega
theorem exc_sum {n : Nat} {F : Mat} : sm n (exc n F) = 0 := by
  unfold exc
  rw [sm_sub, sm_swap]; omega
/-! one step -/
theorem exc_addS {n : Nat} {lo hi F0 F : Mat} {cl : Cl} {b c : Nat} {s : List Int} {amt : Int} (h : StepOk lo hi F0 cl b c s) (hb : b < n) (hc : c < n) (z : Nat) (hz : z < n) :
    exc n (addS amt F s) z = exc n F z + (if z = c then amt else 0) - (if z = b then amt else 0) := by
  have key : ∀ (x0 y0 : Nat) (d : Int), x0 < n → y0 < n → x0 ≠ y0 → exc n (fun a b => if (a : Int) = (x0 : Int) ∧ (b : Int) = (y0 : Int) then F a b + d else F a b) z = exc n F z + (if z = y0 then d else 0) - (if z = x0 then d else 0) := by
    intro x0 y0 d hx hy hne
    unfold exc
    have e1 : sm n (fun x => if (x : Int) = (x0 : Int) ∧ (z : Int) = (y0 : Int) then F x z + d else F x z) = sm n (fun x => F x z) + (if z = y0 then d else 0) := by
      by_cases hzy : z = y0
      · subst hzy
        have hd := sm_at (v := d) hx
        rw [if_pos rfl]
        conv => rhs; rw [← hd]
        rw [← sm_add]
        refine sm_congr fun i _ => ?_
        by_cases hi : i = x0
        · rw [if_pos (by rw [hi]; exact ⟨rfl, rfl⟩), if_pos hi]
        · rw [if_neg (by omega), if_neg hi, Int.add_zero]
      · rw [if_neg hzy, Int.add_zero]
        refine sm_congr fun i _ => if_neg ?_
        omega
    have e2 : sm n (fun y => if (z : Int) = (x0 : Int) ∧ (y : Int) = (y0 : Int) then F z y + d else F z y) = sm n (fun y => F z y) + (if z = x0 then d else 0) := by
      by_cases hzx : z = x0
      · subst hzx
        have hd := sm_at (v := d) hy
        rw [if_pos rfl]
        conv => rhs; rw [← hd]
        rw [← sm_add]
        refine sm_congr fun i _ => ?_
        by_cases hi : i = y0
        · rw [if_pos (by rw [hi]; exact ⟨rfl, rfl⟩), if_pos hi]
        · rw [if_neg (by omega), if_neg hi, Int.add_zero]
      · rw [if_neg hzx, Int.add_zero]
        refine sm_congr fun i _ => if_neg ?_
        omega
    rw [e1, e2]; omega
  cases h with
  | fwd h1 h2 h3 =>
    show exc n (fun a b' => if (a : Int) = (b : Int) ∧ (b' : Int) = (c : Int) then F a b' + 1 * amt else F a b') z = _
    rw [key b c _ hb hc (by omega), Int.one_mul]
  | bwd h1 h2 h3 =>
    show exc n (fun a b' => if (a : Int) = (c : Int) ∧ (b' : Int) = (b : Int) then F a b' + -1 * amt else F a b') z = _
    rw [key c b _ hc hb (by omega)]
    split <;> split <;> omega
def dl (amt : Int) (a b : Nat) : List Int → Int
  | [_, x, y, c, _] => if (a : Int) = x ∧ (b : Int) = y then c * amt else 0
  | _ => 0
theorem addS_eq {amt : Int} {F : Mat} {s : List Int} {a b : Nat} : addS amt F s a b = F a b + dl amt a b s := by
  unfold addS dl
  split
  · show (if _ then _ else _) = _ + (if _ then _ else _)
    split
    · rfl
    · rw [Int.add_zero]
  · rw [Int.add_zero]
theorem addS_comm {amt : Int} {F : Mat} {s t : List Int} : addS amt (addS amt F s) t = addS amt (addS amt F t) s := by
  funext a b
  rw [addS_eq, addS_eq, addS_eq, addS_eq]; omega
theorem send_cons {F : Mat} {s : List Int} {ss : List (List Int)} {amt : Int} : send F (s :: ss) amt = addS amt (send F ss amt) s := by
  unfold send
  rw [List.foldl_cons]
  induction ss generalizing F with
  | nil => rfl
  | cons t ss ih => rw [List.foldl_cons, List.foldl_cons, addS_comm, ih]
/-- along a way: bounds kept, the excess moved -/
theorem send_way {n : Nat} {lo hi F : Mat} {cl : Cl} {a b : Nat} {vs : List Nat} {ss : List (List Int)} {amt : Int} (h : Way (StepOk lo hi F cl) a vs b ss) (hvs : ∀ v ∈ vs, v < n) (h0 : 0 ≤ amt) (hcap : ∀ s ∈ ss, ∀ c, s[4]? = some c → amt ≤ c)
    (hF : ∀ x y, x < n → y < n → lo x y ≤ F x y ∧ F x y ≤ hi x y) :
    b ∈ vs ∧ a ∈ vs ∧ (∀ x y, x < n → y < n → lo x y ≤ send F ss amt x y ∧ send F ss amt x y ≤ hi x y) ∧ (∀ x y, (x ∉ vs ∨ y ∉ vs) → send F ss amt x y = F x y) ∧ (∀ z, z < n → exc n (send F ss amt) z = exc n F z + (if z = b then amt else 0) - (if z = a then amt else 0)) ∧
      (∀ x y : Nat, cl = some ((x : Int), (y : Int)) → send F ss amt x y = F x y) := by
  induction h with
  | nil => exact ⟨by simp, by simp, hF, fun _ _ _ => rfl, fun z _ => by show exc n F z = _; omega, fun _ _ _ => rfl⟩
  | snoc hw hs hc ih =>
    rename_i ws b c ss s
    have ih := ih (fun v hv => hvs v (List.mem_cons_of_mem _ hv)) fun s hs => hcap s (List.mem_cons_of_mem _ hs)
    obtain ⟨i1, i1a, i2, i3, i4, i5⟩ := ih
    have hbn : b < n := hvs b (List.mem_cons_of_mem _ i1)
    have hcn : c < n := hvs c (List.mem_cons_self ..)
    have hcs := hcap s (List.mem_cons_self ..)
    refine ⟨List.mem_cons_self .., List.mem_cons_of_mem _ i1a, fun x y hx hy => ?_, fun x y hxy => ?_, fun z hz => ?_, fun x y hcl => ?_⟩
    · rw [send_cons]
      have hb := i2 x y hx hy
      cases hs with
      | fwd h1 h2 h3 =>
        show lo x y ≤ (if (x : Int) = (b : Int) ∧ (y : Int) = (c : Int) then _ else _) ∧ (if (x : Int) = (b : Int) ∧ (y : Int) = (c : Int) then _ else _) ≤ _
        split
        · rename_i hxy
          have hxb : x = b := by omega
          have hyc : y = c := by omega
          subst hxb hyc
          rw [i3 x y (.inr hc)]
          have := hcs _ rfl
          have := hF x y hx hy
          omega
        · exact hb
      | bwd h1 h2 h3 =>
        show lo x y ≤ (if (x : Int) = (c : Int) ∧ (y : Int) = (b : Int) then _ else _) ∧ (if (x : Int) = (c : Int) ∧ (y : Int) = (b : Int) then _ else _) ≤ _
        split
        · rename_i hxy
          have hxb : x = c := by omega
          have hyc : y = b := by omega
          subst hxb hyc
          rw [i3 x y (.inl hc)]
          have := hcs _ rfl
          have := hF x y hx hy
          omega
        · exact hb
    · rw [send_cons]
      have h' : x ∉ ws ∨ y ∉ ws := hxy.imp (fun h w => h (List.mem_cons_of_mem _ w)) fun h w => h (List.mem_cons_of_mem _ w)
      have hbx : ¬ ((x = b ∧ y = c) ∨ (x = c ∧ y = b)) := by
        rintro (⟨rfl, rfl⟩ | ⟨rfl, rfl⟩)
        · rcases hxy with h | h
          · exact h (List.mem_cons_of_mem _ i1)
          · exact h (List.mem_cons_self ..)
        · rcases hxy with h | h
          · exact h (List.mem_cons_self ..)
          · exact h (List.mem_cons_of_mem _ i1)
      cases hs with
      | fwd h1 h2 h3 =>
        show (if (x : Int) = (b : Int) ∧ (y : Int) = (c : Int) then _ else _) = _
        rw [if_neg (by omega), i3 x y h']
      | bwd h1 h2 h3 =>
        show (if (x : Int) = (c : Int) ∧ (y : Int) = (b : Int) then _ else _) = _
        rw [if_neg (by omega), i3 x y h']
    · rw [send_cons, exc_addS hs hbn hcn z hz, i4 z hz]; omega
    · rw [send_cons]
      cases hs with
      | fwd h1 h2 h3 =>
        show (if (x : Int) = (b : Int) ∧ (y : Int) = (c : Int) then _ else _) = _
        rw [if_neg (by rintro ⟨h4, h5⟩; exact h2 (by rw [hcl, h4, h5])), i5 x y hcl]
      | bwd h1 h2 h3 =>
        show (if (x : Int) = (c : Int) ∧ (y : Int) = (b : Int) then _ else _) = _
        rw [if_neg (by rintro ⟨h4, h5⟩; exact h2 (by rw [hcl, h4, h5])), i5 x y hcl]
theorem way_cap {lo hi F : Mat} {cl : Cl} {a b : Nat} {vs : List Nat} {ss : List (List Int)} (h : Way (StepOk lo hi F cl) a vs b ss) : ∀ s ∈ ss, ∃ c, s[4]? = some c ∧ 1 ≤ c := by
  induction h with
  | nil => intro s hs; cases hs
  | snoc _ hs _ ih =>
    intro s h
    rcases List.mem_cons.1 h with e | e
    · rw [e]; exact hs.cap
    · exact ih s e
theorem Way.mem {SO : Nat → Nat → List Int → Prop} {a b : Nat} {vs : List Nat} {ss : List (List Int)} (h : Way SO a vs b ss) : b ∈ vs := by
  cases h <;> simp
theorem way_form {n : Nat} {lo hi F : Mat} {cl : Cl} {a b : Nat} {vs : List Nat} {ss : List (List Int)} (h : Way (StepOk lo hi F cl) a vs b ss) (hvs : ∀ v ∈ vs, v < n) : ∀ s ∈ ss, Form n s := by
  induction h with
  | nil => intro s hs; cases hs
  | snoc hw hs _ ih =>
    intro s h
    rcases List.mem_cons.1 h with e | e
    · rw [e]; exact hs.form (hvs _ (List.mem_cons_of_mem _ hw.mem)) (hvs _ (List.mem_cons_self ..))
    · exact ih (fun v hv => hvs v (List.mem_cons_of_mem _ hv)) s e
/-! what settled seeks -/
structure Circ (n : Nat) (lo hi F : Mat) : Prop where
  bd : ∀ x y, x < n → y < n → lo x y ≤ F x y ∧ F x y ≤ hi x y
  bal : ∀ z, z < n → exc n F z = 0
/-- all that is too much -/
def over (n : Nat) (F : Mat) : Int := sm n fun z => if 0 < exc n F z then exc n F z else 0
theorem over_nn {n : Nat} {F : Mat} : 0 ≤ over n F := by
  have := sm_mono (n := n) (f := fun _ => 0) (g := fun z => if 0 < exc n F z then exc n F z else 0) fun i _ => by split <;> omega
  rw [sm_zero] at this; exact this
theorem circ_of {n : Nat} {lo hi F : Mat} (bd : ∀ x y, x < n → y < n → lo x y ≤ F x y ∧ F x y ≤ hi x y) (h : ∀ z, z < n → exc n F z ≤ 0) : Circ n lo hi F := by
  refine ⟨bd, fun z hz => ?_⟩
  by_cases e : exc n F z = 0
  · exact e
  · have h1 := h z hz
    have := sm_lt (n := n) (z := z) (f := exc n F) (g := fun _ => 0) h hz (by show exc n F z < 0; omega)
    rw [exc_sum, sm_zero] at this; omega
theorem over_less {n : Nat} {F F' : Mat} {a b : Nat} {amt : Int} (ha : a < n) (hb : b < n) (h1 : 1 ≤ amt) (hea : amt ≤ exc n F a) (heb : amt ≤ -exc n F b) (he : ∀ z, z < n → exc n F' z = exc n F z + (if z = b then amt else 0) - (if z = a then amt else 0)) : over n F' < over n F := by
  unfold over
  have hab : a ≠ b := by intro e; subst e; omega
  refine sm_lt (z := a) (fun i hi => ?_) ha ?_
  · have := he i hi
    by_cases e1 : i = a
    · subst e1
      rw [if_pos rfl, if_neg hab] at this
      split <;> split <;> omega
    · rw [if_neg e1] at this
      by_cases e2 : i = b
      · subst e2
        rw [if_pos rfl] at this
        split <;> split <;> omega
      · rw [if_neg e2] at this
        split <;> split <;> omega
  · have := he a ha
    rw [if_pos rfl, if_neg hab] at this
    show (if 0 < exc n F' a then _ else _) < (if 0 < exc n F a then _ else _)
    split <;> split <;> omega
end M
/-! M5: where no way is, no flow is. -/
namespace M
/-- the sum over the states of a lot -/
def smS (n : Nat) (S : Nat → Bool) (f : Nat → Int) : Int := sm n fun z => if S z then f z else 0
theorem cut_bal {n : Nat} {S : Nat → Bool} {F : Mat} : smS n S (exc n F) = sm n fun x => sm n fun y => if S x = false ∧ S y = true then F x y else if S x = true ∧ S y = false then -F x y else 0 := by
  unfold smS exc
  have e1 : (sm n fun z => if S z = true then sm n (fun x => F x z) - sm n (fun y => F z y) else 0) = sm n fun z => sm n fun x => if S z = true then F x z - F z x else 0 := by
    refine sm_congr fun z _ => ?_
    by_cases h : S z = true
    · simp only [h, if_true]; rw [← sm_sub]
    · simp only [h]; exact (sm_none fun _ _ => rfl).symm
  rw [e1]
  -- sums of the two parts
  have e2 : (sm n fun z => sm n fun x => if S z = true then F x z - F z x else 0) = (sm n fun z => sm n fun x => if S z = true then F x z else 0) - sm n fun z => sm n fun x => if S z = true then F z x else 0 := by
    rw [← sm_sub]
    refine sm_congr fun z _ => ?_
    rw [← sm_sub]
    refine sm_congr fun x _ => ?_
    split <;> omega
  rw [e2, sm_swap (f := fun z x => if S z = true then F x z else 0), ← sm_sub]
  refine sm_congr fun x _ => ?_
  rw [← sm_sub]
  refine sm_congr fun y _ => ?_
  cases hx : S x <;> cases hy : S y <;> simp <;> omega
/-- a lot that no step leaves, nothing lacking in it, too much somewhere: no flow -/
theorem no_circ {n : Nat} {lo hi F G : Mat} {S : Nat → Bool} (hF : ∀ x y, x < n → y < n → lo x y ≤ F x y ∧ F x y ≤ hi x y) (hS : ∀ x y, x < n → y < n → S x = true → S y = false → hi x y ≤ F x y ∧ F y x ≤ lo y x)
    (hn : ∀ z, z < n → S z = true → 0 ≤ exc n F z) {a : Nat} (ha : a < n) (hSa : S a = true) (hea : 0 < exc n F a) (C : Circ n lo hi G) : False := by
  have h1 : smS n S (exc n G) = 0 := by
    unfold smS
    exact sm_none fun z hz => by
      split
      · exact C.bal z hz
      · rfl
  have h2 : 0 < smS n S (exc n F) := by
    have := sm_lt (n := n) (z := a) (f := fun _ => 0) (g := fun z => if S z then exc n F z else 0) (fun z hz => by
      show 0 ≤ if S z = true then _ else _
      split
      · rename_i h; exact hn z hz h
      · exact Int.le_refl _) ha (by show 0 < if S a = true then _ else _; rw [if_pos hSa]; exact hea)
    rw [sm_zero] at this; exact this
  rw [cut_bal] at h1 h2
  have : (sm n fun x => sm n fun y => if S x = false ∧ S y = true then F x y else if S x = true ∧ S y = false then -F x y else 0) ≤ sm n fun x => sm n fun y => if S x = false ∧ S y = true then G x y else if S x = true ∧ S y = false then -G x y else 0 := by
    refine sm_mono fun x hx => sm_mono fun y hy => ?_
    cases hsx : S x <;> cases hsy : S y
    · simp
    · simp only [and_self, if_true]
      have := (hS y x hy hx hsy hsx).2
      have := (C.bd x y hx hy).1
      omega
    · simp
      have := (hS x y hx hy hsx hsy).1
      have := (C.bd x y hx hy).2
      omega
    · simp
  omega
end M
/-! M6: the least common multiple of a row; rates by it. -/
namespace M
def lcmR (r : Nat → Int) : Nat → Nat
  | 0 => 1
  | i + 1 => Nat.lcm (lcmR r i) (r i).natAbs
theorem lcmR_pos {r : Nat → Int} : ∀ {n : Nat}, (∀ x, x < n → 1 ≤ r x) → 0 < lcmR r n
  | 0, _ => by simp [lcmR]
  | n + 1, h => Nat.lcm_pos (lcmR_pos fun x hx => h x (by omega)) (by have := h n (by omega); omega)
theorem lcmR_dvd {r : Nat → Int} {x : Nat} : ∀ {n : Nat}, x < n → (r x).natAbs ∣ lcmR r n
  | 0, h => by omega
  | n + 1, h => by
    by_cases e : x = n
    · subst e; exact Nat.dvd_lcm_right _ _
    · exact Nat.dvd_trans (lcmR_dvd (show x < n by omega)) (Nat.dvd_lcm_left _ _)
theorem lcmR_le {r : Nat → Int} : ∀ {n : Nat}, (∀ x, x < n → 1 ≤ r x ∧ r x ≤ 1000000) → lcmR r n ≤ 1000000 ^ n
  | 0, _ => by simp [lcmR]
  | n + 1, h => by
    have h1 := lcmR_le (n := n) fun x hx => h x (by omega)
    have h2 := h n (by omega)
    have hp : 0 < lcmR r n * (r n).natAbs := Nat.mul_pos (lcmR_pos fun x hx => (h x (by omega)).1) (by omega)
    have h3 : Nat.lcm (lcmR r n) (r n).natAbs ≤ lcmR r n * (r n).natAbs := Nat.le_of_dvd hp (Nat.lcm_dvd (Nat.dvd_mul_right _ _) (Nat.dvd_mul_left _ _))
    have h4 : lcmR r n * (r n).natAbs ≤ 1000000 ^ n * 1000000 := Nat.mul_le_mul h1 (by omega)
    show Nat.lcm (lcmR r n) (r n).natAbs ≤ 1000000 ^ (n + 1)
    rw [Nat.pow_succ]; omega
/-- the rates that a flow asks -/
def ratesOf (n : Nat) (r : Nat → Int) (F : Mat) : Mat := fun x y => F x y * (lcmR r n : Int) / r x
end M
/-! M7: as much as may be sent; rings over a pair. -/
namespace M
/-- no step leaves the states met, no goal among them -/
structure Met (n : Nat) (lo hi F : Mat) (cl : Cl) (st gl ql : List Nat) : Prop where
  nd : ql.Nodup
  lt : ∀ y ∈ ql, y < n
  sts : ∀ y ∈ st, y ∈ ql
  gls : ∀ y ∈ ql, y ∉ gl
  cls : ∀ y ∈ ql, ∀ w, w < n → Res lo hi F cl y w → w ∈ ql
theorem Met.way {n : Nat} {lo hi F : Mat} {cl : Cl} {st gl ql : List Nat} (M : Met n lo hi F cl st gl ql) {a b : Nat} {vs : List Nat} {ss : List (List Int)} (h : Way (StepOk lo hi F cl) a vs b ss) (hvs : ∀ v ∈ vs, v < n) (ha : a ∈ st) : b ∈ ql := by
  induction h with
  | nil => exact M.sts _ ha
  | snoc hw hs _ ih => exact M.cls _ (ih fun v hv => hvs v (List.mem_cons_of_mem _ hv)) _ (hvs _ (List.mem_cons_self ..)) hs.res
/-- what _most_sent hands back -/
def Most (n : Nat) (lo hi F : Mat) (cl : Cl) (a b : Nat) (lim s : Int) : Prop := ∃ W : Mat, 0 ≤ s ∧ s ≤ lim ∧ (∀ x y, x < n → y < n → lo x y ≤ W x y ∧ W x y ≤ hi x y) ∧ (∀ x y : Nat, cl = some ((x : Int), (y : Int)) → W x y = F x y) ∧
  (∀ z, z < n → exc n W z = exc n F z + (if z = b then s else 0) - (if z = a then s else 0)) ∧ (s = lim ∨ ∃ ql, Met n lo hi W cl [a] [b] ql)
/-- there is a ring over the pair (x, y) -/
def Ringed (n : Nat) (lo hi F : Mat) (x y : Nat) : Prop :=
  (F x y < hi x y ∧ ∃ vs ss, Way (StepOk lo hi F (some ((x : Int), (y : Int)))) y vs x ss ∧ ∀ v ∈ vs, v < n) ∨ (lo x y < F x y ∧ ∃ vs ss, Way (StepOk lo hi F (some ((x : Int), (y : Int)))) x vs y ss ∧ ∀ v ∈ vs, v < n)
theorem Met.none {n : Nat} {lo hi F : Mat} {cl : Cl} {a b : Nat} {ql : List Nat} (M : Met n lo hi F cl [a] [b] ql) : ¬ ∃ vs ss, Way (StepOk lo hi F cl) a vs b ss ∧ ∀ v ∈ vs, v < n := fun ⟨vs, ss, h, hv⟩ => M.gls b (M.way h hv (List.mem_singleton.mpr rfl)) (List.mem_singleton.mpr rfl)
end M
/-! M8: what the law wants. -/
namespace M
/-- the rates due out of x, times the share of x -/
def due (n : Nat) (f : Mat) (x : Nat) (r : Nat → Int) (b : Nat) : Int := if b = x then 0 else r b * sm n (f b) - sm n fun y => if y = x then 0 else r y * f y b
/-- the row balances the rates -/
def Bal (n : Nat) (r : Nat → Int) (R : Mat) : Prop := ∀ x, x < n → sm n (fun y => r x * R x y) = sm n fun y => r y * R y x
structure GridBd (n : Nat) (f : Mat) : Prop where
  nn : ∀ a b, a < n → b < n → 0 ≤ f a b
  le : ∀ a b, a < n → b < n → f a b ≤ 10 ^ 60
end M
/-! K0: the text by places; what the top leaves of the built-in names. -/
namespace K
open PySem.Spec PySem PyProof.Rows L2 Z
/-- the built-in names stand -/
structure TX (g : W5) : Prop where
  len : g.mg "len" = none
  isinstance : g.mg "isinstance" = none
  int : g.mg "int" = none
  bool : g.mg "bool" = none
  list : g.mg "list" = none
  tuple : g.mg "tuple" = none
  range : g.mg "range" = none
  enumerate : g.mg "enumerate" = none
  zip : g.mg "zip" = none
  sum : g.mg "sum" = none
  min : g.mg "min" = none
  max : g.mg "max" = none
  abs : g.mg "abs" = none
  all : g.mg "all" = none
  sorted : g.mg "sorted" = none
  repr : g.mg "repr" = none
  super : g.mg "super" = none
  gcd : g.mg "gcd" = some (.builtin "math.gcd")
  lcm : g.mg "lcm" = some (.builtin "math.lcm")
-- printed by wip/gendefs.py
/-! BadState.__init__: self 0, place 1 -/
abbrev mBadStateInitN : List Str := ["self", "place"]
/-! BadRow.__init__: self 0, place 1 -/
abbrev mBadRowInitN : List Str := ["self", "place"]
/-! is_int: thing 0 -/
abbrev pIsIntN : List Str := ["thing"]
theorem pIsIntS : FnScope pIsIntN ["thing"] (defScope pIsInt) := ⟨rfl, rfl, rfl, by decide +kernel, rfl, by decide +kernel, by decide +kernel⟩
/-! fraction: u 0, v 1, common 2 -/
abbrev pFractionN : List Str := ["u", "v", "common"]
theorem pFractionS : FnScope pFractionN ["u", "v"] (defScope pFraction) := ⟨rfl, rfl, rfl, by decide +kernel, rfl, by decide +kernel, by decide +kernel⟩
/-! is_state: size 0, thing 1 -/
abbrev pIsStateN : List Str := ["size", "thing"]
theorem pIsStateS : FnScope pIsStateN ["size", "thing"] (defScope pIsState) := ⟨rfl, rfl, rfl, by decide +kernel, rfl, by decide +kernel, by decide +kernel⟩
/-! check_states: size 0, states 1, unlike 2, place 3, state 4, first 5, second 6 -/
abbrev pCheckStatesN : List Str := ["size", "states", "unlike", "place", "state", "first", "second"]
theorem pCheckStatesS : FnScope pCheckStatesN ["size", "states", "unlike"] (defScope pCheckStates) := ⟨rfl, rfl, rfl, by decide +kernel, rfl, by decide +kernel, by decide +kernel⟩
/-! table_rows: rows 0, size 1, x 2, row 3, y 4, rate 5 -/
abbrev pTableRowsN : List Str := ["rows", "size", "x", "row", "y", "rate"]
theorem pTableRowsS : FnScope pTableRowsN ["rows"] (defScope pTableRows) := ⟨rfl, rfl, rfl, by decide +kernel, rfl, by decide +kernel, by decide +kernel⟩
/-! arrows_of: rows 0, size 1, x 2, y 3 -/
abbrev pArrowsOfN : List Str := ["rows", "size", "x", "y"]
theorem pArrowsOfS : FnScope pArrowsOfN ["rows"] (defScope pArrowsOf) := ⟨rfl, rfl, rfl, by decide +kernel, rfl, by decide +kernel, by decide +kernel⟩
/-! Table.__init__: self 0, rows 1 -/
abbrev mTableInitN : List Str := ["self", "rows"]
theorem mTableInitS : FnScope mTableInitN ["self", "rows"] (defScope mTableInit) := ⟨rfl, rfl, rfl, by decide +kernel, rfl, by decide +kernel, by decide +kernel⟩
/-! walked_to: rows 0, x 1, found 2, at 3, y 4, rate 5 -/
abbrev pWalkedToN : List Str := ["rows", "x", "found", "at", "y", "rate"]
theorem pWalkedToS : FnScope pWalkedToN ["rows", "x"] (defScope pWalkedTo) := ⟨rfl, rfl, rfl, by decide +kernel, rfl, by decide +kernel, by decide +kernel⟩
/-! closed_lot: rows 0, x 1, found 2 -/
abbrev pClosedLotN : List Str := ["rows", "x", "found"]
theorem pClosedLotS : FnScope pClosedLotN ["rows"] (defScope pClosedLot) := ⟨rfl, rfl, rfl, by decide +kernel, rfl, by decide +kernel, by decide +kernel⟩
/-! Chain.__init__: self 0, rows 1, lot 2 -/
abbrev mChainInitN : List Str := ["self", "rows", "lot"]
/-! share_row: size 0, thing 1, place 2, entry 3 -/
abbrev pShareRowN : List Str := ["size", "thing", "place", "entry"]
theorem pShareRowS : FnScope pShareRowN ["size", "thing"] (defScope pShareRow) := ⟨rfl, rfl, rfl, by decide +kernel, rfl, by decide +kernel, by decide +kernel⟩
/-! bounds_of: notes 0, row 1, least 2, rate 3, entry 4, rates 5, most 6 -/
abbrev pBoundsOfN : List Str := ["notes", "row", "least", "rate", "entry", "rates", "most"]
theorem pBoundsOfS : FnScope pBoundsOfN ["notes", "row"] (defScope pBoundsOf) := ⟨rfl, rfl, rfl, by decide +kernel, rfl, by decide +kernel, by decide +kernel⟩
/-! steps_at: bounds 0, flows 1, z 2, closed 3, least 4, most 5, found 6, w 7 -/
abbrev pStepsAtN : List Str := ["bounds", "flows", "z", "closed", "least", "most", "found", "w"]
theorem pStepsAtS : FnScope pStepsAtN ["bounds", "flows", "z", "closed"] (defScope pStepsAt) := ⟨rfl, rfl, rfl, by decide +kernel, rfl, by decide +kernel, by decide +kernel⟩
/-! _traced: came 0, goal 1, steps 2, z 3, before 4, step 5 -/
abbrev pTracedN : List Str := ["came", "goal", "steps", "z", "before", "step"]
theorem pTracedS : FnScope pTracedN ["came", "goal"] (defScope pTraced) := ⟨rfl, rfl, rfl, by decide +kernel, rfl, by decide +kernel, by decide +kernel⟩
/-! way_by_steps: bounds 0, flows 1, starts 2, goals 3, closed 4, came 5, z 6, queue 7, at 8, step 9 -/
abbrev pWayByStepsN : List Str := ["bounds", "flows", "starts", "goals", "closed", "came", "z", "queue", "at", "step"]
theorem pWayByStepsS : FnScope pWayByStepsN ["bounds", "flows", "starts", "goals", "closed"] (defScope pWayBySteps) := ⟨rfl, rfl, rfl, by decide +kernel, rfl, by decide +kernel, by decide +kernel⟩
/-! send_along: flows 0, steps 1, amount 2, _ 3, x 4, y 5, change 6 -/
abbrev pSendAlongN : List Str := ["flows", "steps", "amount", "_", "x", "y", "change"]
theorem pSendAlongS : FnScope pSendAlongN ["flows", "steps", "amount"] (defScope pSendAlong) := ⟨rfl, rfl, rfl, by decide +kernel, rfl, by decide +kernel, by decide +kernel⟩
/-! _excess: flows 0, states 1, x 2, z 3 -/
abbrev pExcessN : List Str := ["flows", "states", "x", "z"]
theorem pExcessS : FnScope pExcessN ["flows"] (defScope pExcess) := ⟨rfl, rfl, rfl, by decide +kernel, rfl, by decide +kernel, by decide +kernel⟩
/-! settled: notes 0, row 1, bounds 2, flows 3, line 4, excess 5, starts 6, z 7, over 8, goals 9, way 10, met 11, start 12, goal 13, steps 14, step 15 -/
abbrev pSettledN : List Str := ["notes", "row", "bounds", "flows", "line", "excess", "starts", "z", "over", "goals", "way", "met", "start", "goal", "steps", "step"]
theorem pSettledS : FnScope pSettledN ["notes", "row"] (defScope pSettled) := ⟨rfl, rfl, rfl, by decide +kernel, rfl, by decide +kernel, by decide +kernel⟩
/-! scaled_of: row 0, currents 1, number 2, entry 3, rates 4, flow 5, line 6 -/
abbrev pScaledOfN : List Str := ["row", "currents", "number", "entry", "rates", "flow", "line"]
theorem pScaledOfS : FnScope pScaledOfN ["row", "currents"] (defScope pScaledOf) := ⟨rfl, rfl, rfl, by decide +kernel, rfl, by decide +kernel, by decide +kernel⟩
/-! short_lot: notes 0, row 1, _ 2, lot 3 -/
abbrev pShortLotN : List Str := ["notes", "row", "_", "lot"]
theorem pShortLotS : FnScope pShortLotN ["notes", "row"] (defScope pShortLot) := ⟨rfl, rfl, rfl, by decide +kernel, rfl, by decide +kernel, by decide +kernel⟩
/-! is_reached: notes 0, row 1 -/
abbrev pIsReachedN : List Str := ["notes", "row"]
theorem pIsReachedS : FnScope pIsReachedN ["notes", "row"] (defScope pIsReached) := ⟨rfl, rfl, rfl, by decide +kernel, rfl, by decide +kernel, by decide +kernel⟩
/-! world_with: notes 0, row 1, wanted 2, flows 3, _ 4 -/
abbrev pWorldWithN : List Str := ["notes", "row", "wanted", "flows", "_"]
theorem pWorldWithS : FnScope pWorldWithN ["notes", "row"] (defScope pWorldWith) := ⟨rfl, rfl, rfl, by decide +kernel, rfl, by decide +kernel, by decide +kernel⟩
/-! rates_of_state: chain 0, x 1, row 2, wanted 3, found 4, b 5, rates 6, others 7, y 8, entry 9, lacking 10 -/
abbrev pRatesOfStateN : List Str := ["chain", "x", "row", "wanted", "found", "b", "rates", "others", "y", "entry", "lacking"]
theorem pRatesOfStateS : FnScope pRatesOfStateN ["chain", "x", "row"] (defScope pRatesOfState) := ⟨rfl, rfl, rfl, by decide +kernel, rfl, by decide +kernel, by decide +kernel⟩
/-! _table_in: rows 0, bad 1 -/
abbrev pTableInN : List Str := ["rows", "bad"]
theorem pTableInS : FnScope pTableInN ["rows"] (defScope pTableIn) := ⟨rfl, rfl, rfl, by decide +kernel, rfl, by decide +kernel, by decide +kernel⟩
/-! _first_crossed: lows 0, highs 1, x 2, row 3, y 4, low 5 -/
abbrev pFirstCrossedN : List Str := ["lows", "highs", "x", "row", "y", "low"]
theorem pFirstCrossedS : FnScope pFirstCrossedN ["lows", "highs"] (defScope pFirstCrossed) := ⟨rfl, rfl, rfl, by decide +kernel, rfl, by decide +kernel, by decide +kernel⟩
/-! _unlike_pairs: lows 0, highs 1, size 2, x 3, y 4 -/
abbrev pUnlikePairsN : List Str := ["lows", "highs", "size", "x", "y"]
theorem pUnlikePairsS : FnScope pUnlikePairsN ["lows", "highs"] (defScope pUnlikePairs) := ⟨rfl, rfl, rfl, by decide +kernel, rfl, by decide +kernel, by decide +kernel⟩
/-! Notes.__init__: self 0, lows 1, highs 2, low 3, high 4, crossed 5 -/
abbrev mNotesInitN : List Str := ["self", "lows", "highs", "low", "high", "crossed"]
theorem mNotesInitS : FnScope mNotesInitN ["self", "lows", "highs"] (defScope mNotesInit) := ⟨rfl, rfl, rfl, by decide +kernel, rfl, by decide +kernel, by decide +kernel⟩
/-! Notes.unseen_many: self 0 -/
abbrev mNotesUnseenManyN : List Str := ["self"]
theorem mNotesUnseenManyS : FnScope mNotesUnseenManyN ["self"] (defScope mNotesUnseenMany) := ⟨rfl, rfl, rfl, by decide +kernel, rfl, by decide +kernel, by decide +kernel⟩
/-! Notes.unseen: self 0 -/
abbrev mNotesUnseenN : List Str := ["self"]
theorem mNotesUnseenS : FnScope mNotesUnseenN ["self"] (defScope mNotesUnseen) := ⟨rfl, rfl, rfl, by decide +kernel, rfl, by decide +kernel, by decide +kernel⟩
/-! _reached_currents: notes 0, row 1, flows 2, lot 3 -/
abbrev pReachedCurrentsN : List Str := ["notes", "row", "flows", "lot"]
theorem pReachedCurrentsS : FnScope pReachedCurrentsN ["notes", "row"] (defScope pReachedCurrents) := ⟨rfl, rfl, rfl, by decide +kernel, rfl, by decide +kernel, by decide +kernel⟩
/-! _most_sent: bounds 0, flows 1, start 2, goal 3, closed 4, limit 5, work 6, line 7, sent 8, way 9, _ 10, amount 11, step 12 -/
abbrev pMostSentN : List Str := ["bounds", "flows", "start", "goal", "closed", "limit", "work", "line", "sent", "way", "_", "amount", "step"]
theorem pMostSentS : FnScope pMostSentN ["bounds", "flows", "start", "goal", "closed", "limit"] (defScope pMostSent) := ⟨rfl, rfl, rfl, by decide +kernel, rfl, by decide +kernel, by decide +kernel⟩
/-! rate_span: notes 0, row 1, x 2, y 3, wanted 4, flows 5, lows 6, highs 7, flow 8, down 9, up 10 -/
abbrev pRateSpanN : List Str := ["notes", "row", "x", "y", "wanted", "flows", "lows", "highs", "flow", "down", "up"]
theorem pRateSpanS : FnScope pRateSpanN ["notes", "row", "x", "y"] (defScope pRateSpan) := ⟨rfl, rfl, rfl, by decide +kernel, rfl, by decide +kernel, by decide +kernel⟩
/-! _ring_over: bounds 0, flows 1, x 2, y 3, lows 4, highs 5, way 6, _ 7 -/
abbrev pRingOverN : List Str := ["bounds", "flows", "x", "y", "lows", "highs", "way", "_"]
theorem pRingOverS : FnScope pRingOverN ["bounds", "flows", "x", "y"] (defScope pRingOver) := ⟨rfl, rfl, rfl, by decide +kernel, rfl, by decide +kernel, by decide +kernel⟩
/-! told_pairs: notes 0, row 1, wanted 2, flows 3, bounds 4, x 5, y 6 -/
abbrev pToldPairsN : List Str := ["notes", "row", "wanted", "flows", "bounds", "x", "y"]
theorem pToldPairsS : FnScope pToldPairsN ["notes", "row"] (defScope pToldPairs) := ⟨rfl, rfl, rfl, by decide +kernel, rfl, by decide +kernel, by decide +kernel⟩
/-! tells_rates: notes 0, row 1 -/
abbrev pTellsRatesN : List Str := ["notes", "row"]
theorem pTellsRatesS : FnScope pTellsRatesN ["notes", "row"] (defScope pTellsRates) := ⟨rfl, rfl, rfl, by decide +kernel, rfl, by decide +kernel, by decide +kernel⟩
/-! _law_draws: script 0, drawn 1, seed 2, at 3, cell 4, turn 5 -/
abbrev sDrawsN : List Str := ["_law_script", "_law_drawn", "_law_seed", "_law_at", "_law_cell", "_law_turn"]
theorem sDrawsS : FnScope sDrawsN ["_law_script"] (defScope sDraws) := ⟨rfl, rfl, rfl, by decide +kernel, rfl, by decide +kernel, by decide +kernel⟩
/-! _law_take: draws_here 0, many 1 -/
abbrev sTakeN : List Str := ["_law_draws_here", "_law_many"]
theorem sTakeS : FnScope sTakeN ["_law_draws_here", "_law_many"] (defScope sTake) := ⟨rfl, rfl, rfl, by decide +kernel, rfl, by decide +kernel, by decide +kernel⟩
/-! _law_empty: size 0, y 1, x 2 -/
abbrev sEmptyN : List Str := ["_law_size", "_law_y", "_law_x"]
theorem sEmptyS : FnScope sEmptyN ["_law_size"] (defScope sEmpty) := ⟨rfl, rfl, rfl, by decide +kernel, rfl, by decide +kernel, by decide +kernel⟩
/-! _law_copy: grid 0, line 1 -/
abbrev sCopyN : List Str := ["_law_grid", "_law_line"]
theorem sCopyS : FnScope sCopyN ["_law_grid"] (defScope sCopy) := ⟨rfl, rfl, rfl, by decide +kernel, rfl, by decide +kernel, by decide +kernel⟩
/-! _law_rate: draws_here 0, style 1, rate_here 2 -/
abbrev sRateN : List Str := ["_law_draws_here", "_law_style", "_law_rate_here"]
theorem sRateS : FnScope sRateN ["_law_draws_here", "_law_style"] (defScope sRate) := ⟨rfl, rfl, rfl, by decide +kernel, rfl, by decide +kernel, by decide +kernel⟩
/-! _law_ring_grid: draws_here 0, size 1, style 2, thick 3, grid 4, x 5, y 6 -/
abbrev sRingGridN : List Str := ["_law_draws_here", "_law_size", "_law_style", "_law_thick", "_law_grid", "_law_x", "_law_y"]
theorem sRingGridS : FnScope sRingGridN ["_law_draws_here", "_law_size", "_law_style", "_law_thick"] (defScope sRingGrid) := ⟨rfl, rfl, rfl, by decide +kernel, rfl, by decide +kernel, by decide +kernel⟩
/-! _law_hung_grid: draws_here 0, size 1, style 2, grid 3, at 4, step 5, old 6 -/
abbrev sHungGridN : List Str := ["_law_draws_here", "_law_size", "_law_style", "_law_grid", "_law_at", "_law_step", "_law_old"]
theorem sHungGridS : FnScope sHungGridN ["_law_draws_here", "_law_size", "_law_style"] (defScope sHungGrid) := ⟨rfl, rfl, rfl, by decide +kernel, rfl, by decide +kernel, by decide +kernel⟩
/-! _law_moved: grid 0, shift 1, size 2, moved_here 3, x 4, y 5 -/
abbrev sMovedN : List Str := ["_law_grid", "_law_shift", "_law_size", "_law_moved_here", "_law_x", "_law_y"]
theorem sMovedS : FnScope sMovedN ["_law_grid", "_law_shift"] (defScope sMoved) := ⟨rfl, rfl, rfl, by decide +kernel, rfl, by decide +kernel, by decide +kernel⟩
/-! _law_pair: draws_here 0, size 1, x 2 -/
abbrev sPairN : List Str := ["_law_draws_here", "_law_size", "_law_x"]
theorem sPairS : FnScope sPairN ["_law_draws_here", "_law_size"] (defScope sPair) := ⟨rfl, rfl, rfl, by decide +kernel, rfl, by decide +kernel, by decide +kernel⟩
/-! _law_numbers: draws_here 0, size 1, low 2, high 3, x 4 -/
abbrev sNumbersN : List Str := ["_law_draws_here", "_law_size", "_law_low", "_law_high", "_law_x"]
theorem sNumbersS : FnScope sNumbersN ["_law_draws_here", "_law_size", "_law_low", "_law_high"] (defScope sNumbers) := ⟨rfl, rfl, rfl, by decide +kernel, rfl, by decide +kernel, by decide +kernel⟩
/-! _law_int: value 0 -/
abbrev sIntN : List Str := ["_law_value"]
theorem sIntS : FnScope sIntN ["_law_value"] (defScope sInt) := ⟨rfl, rfl, rfl, by decide +kernel, rfl, by decide +kernel, by decide +kernel⟩
/-! _law_ints: value 0, size 1, one 2 -/
abbrev sIntsN : List Str := ["_law_value", "_law_size", "_law_one"]
theorem sIntsS : FnScope sIntsN ["_law_value", "_law_size"] (defScope sInts) := ⟨rfl, rfl, rfl, by decide +kernel, rfl, by decide +kernel, by decide +kernel⟩
/-! _law_fraction: value 0 -/
abbrev sFractionN : List Str := ["_law_value"]
theorem sFractionS : FnScope sFractionN ["_law_value"] (defScope sFraction) := ⟨rfl, rfl, rfl, by decide +kernel, rfl, by decide +kernel, by decide +kernel⟩
/-! _law_same: value 0, over 1, under 2 -/
abbrev sSameN : List Str := ["_law_value", "_law_over", "_law_under"]
theorem sSameS : FnScope sSameN ["_law_value", "_law_over", "_law_under"] (defScope sSame) := ⟨rfl, rfl, rfl, by decide +kernel, rfl, by decide +kernel, by decide +kernel⟩
/-! _law_low_terms: value 0, one 1, other 2, step 3, rest 4 -/
abbrev sLowTermsN : List Str := ["_law_value", "_law_one", "_law_other", "_law_step", "_law_rest"]
theorem sLowTermsS : FnScope sLowTermsN ["_law_value"] (defScope sLowTerms) := ⟨rfl, rfl, rfl, by decide +kernel, rfl, by decide +kernel, by decide +kernel⟩
/-! _law_lot_grid: draws_here 0, sizes 1, size 2, style 3, maker 4, thick 5, grid 6 -/
abbrev sLotGridN : List Str := ["_law_draws_here", "_law_sizes", "_law_size", "_law_style", "_law_maker", "_law_thick", "_law_grid"]
theorem sLotGridS : FnScope sLotGridN ["_law_draws_here"] (defScope sLotGrid) := ⟨rfl, rfl, rfl, by decide +kernel, rfl, by decide +kernel, by decide +kernel⟩
/-! _law_lot_gcd: one 0, other 1, step 2, rest 3 -/
abbrev sLotGcdN : List Str := ["_law_one", "_law_other", "_law_step", "_law_rest"]
theorem sLotGcdS : FnScope sLotGcdN ["_law_one", "_law_other"] (defScope sLotGcd) := ⟨rfl, rfl, rfl, by decide +kernel, rfl, by decide +kernel, by decide +kernel⟩
/-! _law_lot_lowest: sums 0, common 1, one 2 -/
abbrev sLotLowestN : List Str := ["_law_sums", "_law_common", "_law_one"]
theorem sLotLowestS : FnScope sLotLowestN ["_law_sums"] (defScope sLotLowest) := ⟨rfl, rfl, rfl, by decide +kernel, rfl, by decide +kernel, by decide +kernel⟩
/-! _law_lot_shares: grid 0, work 1, kept 2, step 3, last 4, leaves 5, x 6, y 7, row 8, line 9, more 10, one 11 -/
abbrev sLotSharesN : List Str := ["_law_grid", "_law_work", "_law_kept", "_law_step", "_law_last", "_law_leaves", "_law_x", "_law_y", "_law_row", "_law_line", "_law_more", "_law_one"]
theorem sLotSharesS : FnScope sLotSharesN ["_law_grid"] (defScope sLotShares) := ⟨rfl, rfl, rfl, by decide +kernel, rfl, by decide +kernel, by decide +kernel⟩
/-! _law_lot_square: thing 0, size 1, x 2 -/
abbrev sLotSquareN : List Str := ["_law_thing", "_law_size", "_law_x"]
theorem sLotSquareS : FnScope sLotSquareN ["_law_thing", "_law_size"] (defScope sLotSquare) := ⟨rfl, rfl, rfl, by decide +kernel, rfl, by decide +kernel, by decide +kernel⟩
/-! _law_lot_has: lows 0, highs 1, row 2, scaled 3, rates 4, x 5, y 6, leaves 7 -/
abbrev sLotHasN : List Str := ["_law_lows", "_law_highs", "_law_row", "_law_scaled", "_law_rates", "_law_x", "_law_y", "_law_leaves"]
theorem sLotHasS : FnScope sLotHasN ["_law_lows", "_law_highs", "_law_row", "_law_scaled"] (defScope sLotHas) := ⟨rfl, rfl, rfl, by decide +kernel, rfl, by decide +kernel, by decide +kernel⟩
/-! _law_lot_spoilt: draws_here 0, row 1, bad 2, turn 3, bent 4, first 5, second 6 -/
abbrev sLotSpoiltN : List Str := ["_law_draws_here", "_law_row", "_law_bad", "_law_turn", "_law_bent", "_law_first", "_law_second"]
theorem sLotSpoiltS : FnScope sLotSpoiltN ["_law_draws_here", "_law_row"] (defScope sLotSpoilt) := ⟨rfl, rfl, rfl, by decide +kernel, rfl, by decide +kernel, by decide +kernel⟩
/-! _law_lot_balanced: row 0, rates 1, x 2, leaves 3, y 4 -/
abbrev sLotBalancedN : List Str := ["_law_row", "_law_rates", "_law_x", "_law_leaves", "_law_y"]
theorem sLotBalancedS : FnScope sLotBalancedN ["_law_row", "_law_rates"] (defScope sLotBalanced) := ⟨rfl, rfl, rfl, by decide +kernel, rfl, by decide +kernel, by decide +kernel⟩
/-! _law_wanted: grid 0, x 1, row 2, found 3, b 4, others 5, y 6 -/
abbrev sWantedN : List Str := ["_law_grid", "_law_x", "_law_row", "_law_found", "_law_b", "_law_others", "_law_y"]
theorem sWantedS : FnScope sWantedN ["_law_grid", "_law_x", "_law_row"] (defScope sWanted) := ⟨rfl, rfl, rfl, by decide +kernel, rfl, by decide +kernel, by decide +kernel⟩
/-! _law_rates_right: grid 0, x 1, row 2, told_here 3, due 4, b 5, rates 6, rate_here 7, line 8 -/
abbrev sRatesRightN : List Str := ["_law_grid", "_law_x", "_law_row", "_law_told_here", "_law_due", "_law_b", "_law_rates", "_law_rate_here", "_law_line"]
theorem sRatesRightS : FnScope sRatesRightN ["_law_grid", "_law_x", "_law_row", "_law_told_here"] (defScope sRatesRight) := ⟨rfl, rfl, rfl, by decide +kernel, rfl, by decide +kernel, by decide +kernel⟩
/-! _law_told: chain 0, x 1, row 2, told_here 3, error 4 -/
abbrev sToldN : List Str := ["_law_chain", "_law_x", "_law_row", "_law_told_here", "error"]
theorem sToldS : FnScope sToldN ["_law_chain", "_law_x", "_law_row"] (defScope sTold) := ⟨rfl, rfl, rfl, by decide +kernel, rfl, by decide +kernel, by decide +kernel⟩
/-! _law_refusals: draws_here 0, chain 1, x 2, row 3, bad 4, spoilt 5 -/
abbrev sRefusalsN : List Str := ["_law_draws_here", "_law_chain", "_law_x", "_law_row", "_law_bad", "_law_spoilt"]
theorem sRefusalsS : FnScope sRefusalsN ["_law_draws_here", "_law_chain", "_law_x", "_law_row"] (defScope sRefusals) := ⟨rfl, rfl, rfl, by decide +kernel, rfl, by decide +kernel, by decide +kernel⟩
/-! _law_reached_right: grid 0, x 1, row 2, line 3, tops 4, lows 5, highs 6, held 7, due 8, inside 9, b 10, scaled 11, rate_here 12, one 13 -/
abbrev sReachedRightN : List Str := ["_law_grid", "_law_x", "_law_row", "_law_line", "_law_tops", "_law_lows", "_law_highs", "_law_held", "_law_due", "_law_inside", "_law_b", "_law_scaled", "_law_rate_here", "_law_one"]
theorem sReachedRightS : FnScope sReachedRightN ["_law_grid", "_law_x", "_law_row", "_law_line", "_law_tops"] (defScope sReachedRight) := ⟨rfl, rfl, rfl, by decide +kernel, rfl, by decide +kernel, by decide +kernel⟩
/-! _law_ring_spans: draws_here 0, size 1, row 2, lows 3, highs 4, x 5, y 6, held 7, least 8, most 9, span 10 -/
abbrev sRingSpansN : List Str := ["_law_draws_here", "_law_size", "_law_row", "_law_lows", "_law_highs", "_law_x", "_law_y", "_law_held", "_law_least", "_law_most", "_law_span"]
theorem sRingSpansS : FnScope sRingSpansN ["_law_draws_here"] (defScope sRingSpans) := ⟨rfl, rfl, rfl, by decide +kernel, rfl, by decide +kernel, by decide +kernel⟩
/-! law: script 0, draws_here 1, grid 2, size 3, chain 4, x 5, other 6, b 7, own 8, had 9, row 10, rows 11, told_here 12, rate_here 13, tops 14, pair_here 15, one 16, given 17 -/
abbrev sLawN : List Str := ["_law_script", "_law_draws_here", "_law_grid", "_law_size", "_law_chain", "_law_x", "_law_other", "_law_b", "_law_own", "_law_had", "_law_row", "_law_rows", "_law_told_here", "_law_rate_here", "_law_tops", "_law_pair_here", "_law_one", "_law_given"]
theorem sLawS : FnScope sLawN ["_law_script"] (defScope sLaw) := ⟨rfl, rfl, rfl, by decide +kernel, rfl, by decide +kernel, by decide +kernel⟩
end K
namespace K
open PySem.Spec PySem PyProof.Rows L2 Z
section
variable {ι : Type} {X : ι → Cx} {σ : L2.St} {Hb : Hp} {e : Expr} {α : Type} {R : Rep α}
theorem tyI {i : Int} (h : EV X e σ Hb rInt i) : EV X e σ Hb (Z.rTyp "int") () := EV.to (S := Z.rTyp "int") h fun H v r => by cases (show v = .int i from r); rfl
theorem tyL {l : List α} (h : EV X e σ Hb (rL R) l) : EV X e σ Hb (Z.rTyp "list") () := EV.to (S := Z.rTyp "list") h fun H v ⟨p, xs, e, b, _⟩ => by subst e; exact Or.inl ⟨xs, b, rfl⟩
theorem tyT {l : List α} (h : EV X e σ Hb (rT R) l) : EV X e σ Hb (Z.rTyp "tuple") () := EV.to (S := Z.rTyp "tuple") h fun H v ⟨p, xs, e, b, _⟩ => by subst e; exact Or.inr ⟨xs, b, rfl⟩
theorem tyP {β : Type} {T : Rep β} {l : α × β} (h : EV X e σ Hb (rP R T) l) : EV X e σ Hb (Z.rTyp "tuple") () := EV.to (S := Z.rTyp "tuple") h fun H v ⟨p, x, y, e, b, _⟩ => by subst e; exact Or.inr ⟨_, b, rfl⟩
end
theorem bt_int : bootBuiltins ("int" : Str) = some (.type "int") := by decide +kernel
theorem bt_bool : bootBuiltins ("bool" : Str) = some (.type "bool") := by decide +kernel
theorem bt_list : bootBuiltins ("list" : Str) = some (.type "list") := by decide +kernel
theorem bt_tuple : bootBuiltins ("tuple" : Str) = some (.type "tuple") := by decide +kernel
abbrev kinds : List String := ["int", "bool", "NoneType", "str", "list", "tuple"]
/-! is_int -/
abbrev spIsInt : Sp := spF (fun t : String => al1 (Z.rTyp t) ()) (fun t => t ∈ kinds) (fun t v H => rBl.r H v (t == "int"))
theorem len1 {α τ : Type} {R : τ → Rep α} {a : τ → α} {pre : τ → Prop} {post : τ → V → Hp → Prop} : ∀ vs H Q E, spF (fun t => al1 (R t) (a t)) pre post vs H Q E → vs.length = 1 := len_of fun t H vs h => by obtain ⟨v, rfl, _⟩ := AL.one h; rfl
theorem kit_pair {t : String} (h : t ∈ kinds) : ∃ r1 r2, kitB t "int" = some r1 ∧ kitB t "bool" = some r2 ∧ (r1 && !r2) = (t == "int") := by
  simp only [kinds, List.mem_cons, List.not_mem_nil, or_false] at h
  rcases h with rfl | rfl | rfl | rfl | rfl | rfl
  · exact ⟨true, false, by decide +kernel, by decide +kernel, by decide +kernel⟩
  · exact ⟨true, true, by decide +kernel, by decide +kernel, by decide +kernel⟩
  all_goals exact ⟨false, false, by decide +kernel, by decide +kernel, by decide +kernel⟩
theorem ok_isInt {g : W5} (D : DefOf g "is_int" pIsInt) (T : TX g) : FnB g CX0 1 "is_int" ["thing"] [] spIsInt := by
  refine def_ok D pIsIntS (by decide +kernel) len1 (fun _ _ _ _ _ _ us hl => match us, hl with | [_], _ => rfl) fun f cdv A outer s H vs Q E cx ⟨t, Hb, e, h0, ht, q⟩ => ?_
  obtain ⟨v, rfl, hv⟩ := AL.one h0
  obtain ⟨r1, r2, k1, k2, k3⟩ := kit_pair ht
  exact s_one (s_ret (EV.is (vand (isi T.isinstance (nm 0) (tyv T.int bt_int) k1) fun _ => vone (vnot (isi T.isinstance (nm 0) (tyv T.bool bt_bool) k2))) k3) e q)
/-! _law_int: the same -/
theorem ok_lint {g : W5} (D : DefOf g "_law_int" sInt) (T : TX g) : FnB g CX0 1 "_law_int" ["_law_value"] [] spIsInt := by
  refine def_ok D sIntS (by decide +kernel) len1 (fun _ _ _ _ _ _ us hl => match us, hl with | [_], _ => rfl) fun f cdv A outer s H vs Q E cx ⟨t, Hb, e, h0, ht, q⟩ => ?_
  obtain ⟨v, rfl, hv⟩ := AL.one h0
  obtain ⟨r1, r2, k1, k2, k3⟩ := kit_pair ht
  exact s_one (s_ret (EV.is (vand (isi T.isinstance (nm 0) (tyv T.int bt_int) k1) fun _ => vone (vnot (isi T.isinstance (nm 0) (tyv T.bool bt_bool) k2))) k3) e q)
section
variable {ι : Type} {X : ι → Cx} {g : W5} {N : List Str} {k : Nat} {σ : L2.St} {Hb : Hp} {e : Expr} {pos p : Pos} {i j : Int}
/-- is_int of an int -/
theorem isInt [c : CtxZ X g N k] (F : FnB g CX0 1 "is_int" ["thing"] [] spIsInt) (h : EV X e σ Hb rInt i) (hk : 1 ≤ k := by decide) (hg : ∀ i, Gl (X i) "is_int" := by intro _; rfl) (hs : NS e := by intro _ _; rfl) : EV X (.Call (.Name "is_int" p) [e] [] pos) σ Hb rBl true :=
  call F "int" (ac (tyI h) a0 hs) rfl (by decide) hk hg (by decide) hs
theorem lInt [c : CtxZ X g N k] (F : FnB g CX0 1 "_law_int" ["_law_value"] [] spIsInt) (h : EV X e σ Hb rInt i) (hk : 1 ≤ k := by decide) (hg : ∀ i, Gl (X i) "_law_int" := by intro _; rfl) (hs : NS e := by intro _ _; rfl) : EV X (.Call (.Name "_law_int" p) [e] [] pos) σ Hb rBl true :=
  call F "int" (ac (tyI h) a0 hs) rfl (by decide) hk hg (by decide) hs
end
/-! fraction(u, v), v positive -/
def frU (u v : Int) : Int := u / ((Nat.gcd u.natAbs v.natAbs : Nat) : Int)
def frV (u v : Int) : Int := v / ((Nat.gcd u.natAbs v.natAbs : Nat) : Int)
abbrev spFrac : Sp := spF (fun t : Int × Int => al2 rInt t.1 rInt t.2) (fun t => 0 < t.2 ∧ Bd t.2) (fun t v H => (rP rInt rInt).r H v (frU t.1 t.2, frV t.1 t.2))
theorem len2 {α β τ : Type} {R : τ → Rep α} {a : τ → α} {S : τ → Rep β} {b : τ → β} {pre : τ → Prop} {post : τ → V → Hp → Prop} : ∀ vs H Q E, spF (fun t => al2 (R t) (a t) (S t) (b t)) pre post vs H Q E → vs.length = 2 := len_of fun t H vs h => by obtain ⟨v, u, rfl, _⟩ := AL.two h; rfl
theorem ok_fraction {g : W5} (D : DefOf g "fraction" pFraction) (T : TX g) (FI : FnB g CX0 1 "is_int" ["thing"] [] spIsInt) : FnB g CX0 2 "fraction" ["u", "v"] [] spFrac := by
  refine def_ok D pFractionS (by decide +kernel) len2 (fun _ _ _ _ _ _ us hl => match us, hl with | [_, _], _ => rfl) fun f cdv A outer s H vs Q E cx ⟨⟨i, j⟩, Hb, e, h0, ⟨hj, hB⟩, q⟩ => ?_
  obtain ⟨v, u, rfl, hv, hu⟩ := AL.two h0
  dsimp only at hv hu hj hB q
  have hj0 : j ≠ 0 := by omega
  -- if not is_int(u): raise
  refine s_cons (s_if (tnot (tv (isInt FI (nm 0)))) e (fun h => nomatch h) fun _ H1 H2 g1 => s_nil ?_)
  have hv := rInt.up g1.base hv
  have hu := rInt.up g1.base hu
  -- if not is_int(v) or v == 0: raise
  refine s_cons (s_if (ET.is (t' := false) (tW (wor (tnot (tv (isInt FI (nm 1)))) fun _ => wor1 (teq (nm 1) cI))) (by simp [hj0])) g1.on (fun h => nomatch h) fun _ H3 H4 g2 => s_nil ?_)
  have hv := rInt.up g2.base hv
  have hu := rInt.up g2.base hu
  -- common = gcd(u, v)
  refine s_cons (s_set 2 (gcd2 T.gcd (nm 0) (nm 1)) g2.on fun w H5 H6 g3 hw => ?_)
  have hv := rInt.up g3.base hv
  have hu := rInt.up g3.base hu
  -- if v < 0
  refine s_cons (s_if (ET.is (t' := false) (tlt (nm 1) cI) (by simp; omega)) g3.on (fun h => nomatch h) fun _ H7 H8 g4 => s_nil ?_)
  have hv := rInt.up g4.base hv
  have hu := rInt.up g4.base hu
  have hw := rInt.up g4.base hw
  have hg : 0 < Nat.gcd i.natAbs j.natAbs := Nat.gcd_pos_of_pos_right _ (by omega)
  have hgB : Bd ((Nat.gcd i.natAbs j.natAbs : Nat) : Int) := by
    unfold Bd at hB ⊢
    rw [Int.natAbs_natCast]
    exact Nat.lt_of_le_of_lt (Nat.gcd_le_right _ (by omega)) hB
  refine s_one (s_ret (dP (ac (dvB (nm 0) (nm 2) (by omega) hgB) (ac (dvB (nm 1) (nm 2) (by omega) hgB) a0))) g4.on fun z H9 H10 g5 hz => q z H9 H10 (((g1.trans g2).trans g3).trans (g4.trans g5)) hz)
end K
/-! K2: the draws and what is made of them. -/
namespace K
open PySem.Spec PySem PyProof.Rows L2 Z
/-- x.reverse() -/
theorem s_rev {X : Cx} {g : W5} {N : List Str} {k : Nat} {σ : L2.St} {H : Hp} {x : Str} {p1 p2 p3 pos : Pos} {D : Ends} [c : CtxZ (u1 X) g N k] {j : Nat} {l : Addr} {xs : List V} (hH : H l = some (.lst xs)) (q : D.nx σ (upd H l (.lst xs.reverse)))
    (hN : N[j]? = some x := by rfl) (hl : σ[j]? = some (some (.ref l)) := by rfl) (hv : Vis X.env.scope x := by first | exact Or.inl rfl | exact Or.inr (Or.inl rfl) | exact Or.inr (Or.inr rfl)) (hbase : attributeBase (.Name x p1) ("reverse" : Str) X.env (eval (.Name x p1) X.env) = eval (.Name x p1) X.env := by rfl)
    (hline : (p2.endLine == p3.line) = true := by rfl) (hs : swapsWith (.Call (.Attribute (.Name x p1) "reverse" p2) [] [] p3) none pos.line X.env = pure false := by rfl) : wS X (.Expr (.Call (.Attribute (.Name x p1) "reverse" p2) [] [] p3) pos) D σ H := by
  have hn0 : X.N = N := c.nm ()
  refine ⟨_, ps_expr (pe_bm0 PySem.F.plainAttrs_list PySem.F.slot_list_reverse PySem.F.type_list_reverse mt_reverse (pe_var (i := j) (by rw [hn0]; exact hN) hv (c.dbg x (List.mem_of_getElem? hN)).1 (c.dbg x (List.mem_of_getElem? hN)).2) hbase hline) hs, ?_⟩
  exact ⟨_, hl, .inl ⟨rfl, xs, SqL.of hH⟩, l, xs, rfl, rfl, hH, q⟩
/-- an if whose ways meet in J -/
theorem s_ifJ {X : Cx} {σ : L2.St} {H Hb : Hp} {e : Expr} {pos : Pos} {D : Ends} {t : Bool} {as bs : List Stmt} (J : L2.St → Hp → Prop) (h : ET (u1 X) e σ Hb t) (cx : Ex Hb H) (h1 : t = true → ∀ H2, Ex H H2 → wSs X as { D with nx := J } σ H2) (h2 : t = false → ∀ H2, Ex H H2 → wSs X bs { D with nx := J } σ H2) (hJ : ∀ σ' H', J σ' H' → D.nx σ' H') : wS X (.If e as bs pos) D σ H :=
  s_if h cx (fun ht Hk H2 g1 => wSs_mono (h1 ht H2 g1.ex) hJ (fun _ _ z => z) (fun _ _ z => z) fun _ _ z => z) (fun ht Hk H2 g1 => wSs_mono (h2 ht H2 g1.ex) hJ (fun _ _ z => z) (fun _ _ z => z) fun _ _ z => z)
theorem pow18 : ((10 : Int) ^ (18 : Int).toNat) = 1000000000000000000 := by decide +kernel
end K
/-! K3: take, rate, the grids. -/
namespace K
open PySem.Spec PySem PyProof.Rows L2 Z
theorem Gd.step {d : Addr} {Hb H H1 H2 : Hp} (g : Gd d Hb H H1) (e : Ex H1 H2) : Gd d Hb H H2 := Go.step g e
/-! take -/
abbrev spTake : Sp := spD (fun m : Int => al1 rInt m) (fun _ => True) (fun m i => 0 ≤ i ∧ (i < m ∨ i = 0))
theorem ok_take {g : W5} (D : DefOf g "_law_take" sTake) (T : TX g) : FnB g CX0 1 "_law_take" ["_law_draws_here", "_law_many"] [] spTake := by
  refine def_ok D sTakeS (by decide +kernel) (len_ofD (n := 1) fun t H vs h => by obtain ⟨v, rfl, _⟩ := AL.one h; rfl) (fun _ _ _ _ _ _ us hl => match us, hl with | [_, _], _ => rfl) fun f cdv A outer s H vs Q E cx ⟨m, Hb, d, us, e1, e, hd, dw, h0, _, q⟩ => ?_
  obtain ⟨v, rfl, hv⟩ := AL.one h0
  subst e1
  obtain rfl : v = .int m := hv
  obtain ⟨l, hl, hH⟩ := dw
  refine s_cons (s_if (tW (wor (tlt (nm 1 (h := rfl)) cI) fun _ => wor1 (teq (len T.len (nm 0 (h := rInt.mkL hH))) cI))) (Ex.refl H) (fun ht Hk H2 g1 => ?_) fun ht Hk H2 g1 => ?_)
  · refine s_one (s_ret (cI (n := 0)) (Ex.refl H2) fun v Hk H3 g2 hv => ?_)
    obtain rfl : v = .int 0 := hv
    have e3 : Ex H H3 := g1.ex.trans g2.ex
    exact q 0 H3 (Gd.of e e3) ⟨l, hl, e3 _ _ hH⟩ ⟨Int.le_refl _, .inr rfl⟩
  · have ht : ¬ m < 2 ∧ ¬ ((l.length : Nat) : Int) = 0 := by simpa using ht
    refine s_nil (s_one (s_retw ⟨_, fun _ => pe_op op_mod (pe_callTy call_int1 rfl ((congrFun (cx.mg ()) _).trans T.int) (by decide +kernel) (wA_ok (X := u1 _) ()) (by decide) (by decide) rfl rfl) (pe_var (i := 1) rfl (.inl rfl) (by decide) (by decide)), ?_⟩))
    refine ⟨tCons (tBM0 g.K "list" rPop (tVar 0)) tNil, fun _ => pa_cons (pe_bm0 PySem.F.plainAttrs_list PySem.F.slot_list_pop PySem.F.type_list_pop mt_pop (pe_var (x := "_law_draws_here") (i := 0) rfl (.inl rfl) (by decide) (by decide)) rfl rfl) pa_nil rfl, ?_⟩
    have hH2 := g1.ex _ _ hH
    have hne : l ≠ [] := fun z => ht.2 (by rw [z]; rfl)
    refine ⟨_, rfl, .inl ⟨rfl, _, SqL.of hH2⟩, d, l.map .int, .int (l.getLast hne), rfl, rfl, hH2, ?_, ?_⟩
    · rw [List.length_map, List.getElem?_map, List.getLast_eq_getElem]
      have : l.length - 1 < l.length := by have := List.length_pos_iff.mpr hne; omega
      rw [List.getElem?_eq_getElem this]; rfl
    · refine .inl ⟨_, rfl, _, rfl, _, m, rfl, rfl, by omega, ?_⟩
      have g2 : Gd d Hb H (upd H2 d (.lst (l.map V.int).dropLast)) := (Gd.of e g1.ex).wr (.inl rfl) hd
      refine q _ _ g2 ⟨l.dropLast, by rw [List.length_dropLast]; omega, by rw [upd_same, List.map_dropLast]⟩ ⟨Int.emod_nonneg _ (by omega), .inl (Int.emod_lt_of_pos _ (by omega))⟩
section
variable {ι : Type} {X : ι → Cx} {g : W5} {N : List Str} {k : Nat} {σ : L2.St} {Hb : Hp} {e : Expr} {p pd pos : Pos} {d : Addr} {m : Int} {xd : Str} {P : Int → Prop}
/-- take(draws, e) -/
theorem take [c : CtxZ X g N k] (jd : Nat) (F : FnB g CX0 1 "_law_take" ["_law_draws_here", "_law_many"] [] spTake) (h : EV X e σ Hb rInt m) (hk : 1 ≤ k := by decide) (hs : NS e := by intro _ _; rfl)
    (hN : N[jd]? = some xd := by rfl) (hσ : σ[jd]? = some (some (.ref d)) := by rfl) (hv : ∀ i, Vis (X i).env.scope xd := by intro _; first | exact Or.inl rfl | exact Or.inr (Or.inl rfl) | exact Or.inr (Or.inr rfl))
    (hg : ∀ i, Gl (X i) "_law_take" := by intro _; rfl) (hpl : ∀ i, (backTo pos (starEach [e] (X i).env)).any (·.1) = false := by intro _; rfl) : ED X d (.Call (.Name "_law_take" p) [.Name xd pd, e] [] pos) σ Hb (fun i => 0 ≤ i ∧ (i < m ∨ i = 0)) :=
  callD (jd := jd) F m (ac h a0 hs) rfl trivial hk hN hσ hv hg (by decide) hpl
end
/-! empty, copy -/
abbrev spEmpty : Sp := spM (fun n : Nat => al1 rInt (n : Int)) (fun n => n ≤ 1000) (fun n => n) (fun _ _ _ => 0)
theorem ok_empty {g : W5} (D : DefOf g "_law_empty" sEmpty) (T : TX g) : FnB g CX0 1 "_law_empty" ["_law_size"] [] spEmpty := by
  refine def_ok D sEmptyS (by decide +kernel) (len_ofM (m := 1) fun t H vs h => by obtain ⟨v, rfl, _⟩ := AL.one h; rfl) (fun _ _ _ _ _ _ us hl => match us, hl with | [_], _ => rfl) fun f cdv A outer s H vs Q E cx hsp => ?_
  obtain ⟨n, Hb, e, h0, hn, q⟩ := hsp
  obtain ⟨v, rfl, hv⟩ := AL.one h0
  dsimp only at hn q
  refine s_one (s_retM (lcM [("_law_x", 2), ("_law_y", 1)] (iR T.range (nm 0) (by omega)) (by omega) fun i x Hk H1 hi e1 e2 hx => gn 2 ⟨rfl, rfl, ?_⟩) e q)
  have hv' := rInt.up e1 hv
  exact lcN [("_law_y", 1)] (iR T.range (nm 0) (by omega)) _ (by omega) (fun j y Hl H2 hj e3 e4 hy => gn 1 ⟨rfl, rfl, cI⟩)
abbrev mat (n : Nat) (f : Nat → Nat → Int) : List (List Int) := tab n fun x => tab n (f x)
abbrev spCopy : Sp := spM (fun t : Nat × (Nat → Nat → Int) => al1 (rL (rL rInt)) (mat t.1 t.2)) (fun t => t.1 ≤ 1000) (fun t => t.1) (fun t => t.2)
theorem ok_copy {g : W5} (D : DefOf g "_law_copy" sCopy) (T : TX g) : FnB g CX0 1 "_law_copy" ["_law_grid"] [] spCopy := by
  refine def_ok D sCopyS (by decide +kernel) (len_ofM (m := 1) fun t H vs h => by obtain ⟨v, rfl, _⟩ := AL.one h; rfl) (fun _ _ _ _ _ _ us hl => match us, hl with | [_], _ => rfl) fun f cdv A outer s H vs Q E cx hsp => ?_
  obtain ⟨⟨n, F⟩, Hb, e, h0, hn, q⟩ := hsp
  obtain ⟨v, rfl, hv⟩ := AL.one h0
  dsimp only at hn q hv
  exact s_one (s_retM (lcM [("_law_line", 1)] (iL (nm 0)) (by omega) fun i x Hk H1 hi e1 e2 hx => gn 1 ⟨rfl, rfl, toListN T.list (nm 1 (h := hx))⟩) e q)
/-! rate -/
def RateV (i : Int) : Prop := 1 ≤ i ∧ i ≤ 1000003
abbrev spRate : Sp := spD (fun m : Int => al1 rInt m) (fun _ => True) (fun m i => RateV i)
theorem ok_rate {g : W5} (D : DefOf g "_law_rate" sRate) (T : TX g) (FT : FnB g CX0 1 "_law_take" ["_law_draws_here", "_law_many"] [] spTake) : FnB g CX0 2 "_law_rate" ["_law_draws_here", "_law_style"] [] spRate := by
  refine def_ok D sRateS (by decide +kernel) (len_ofD (n := 1) fun t H vs h => by obtain ⟨v, rfl, _⟩ := AL.one h; rfl) (fun _ _ _ _ _ _ us hl => match us, hl with | [_, _], _ => rfl) fun f cdv A outer s H vs Q E cx ⟨m, Hb, d, us, e1, e, hd, dw, h0, _, q⟩ => ?_
  obtain ⟨v, rfl, hv⟩ := AL.one h0
  subst e1
  obtain rfl : v = .int m := hv
  refine s_cons (s_if (teq (nm 1 (h := rfl)) cI) e (fun ht Hk H2 g1 => ?_) fun ht Hk H2 g1 => s_nil ?_)
  · refine s_one (s_ret (cI (n := 1)) (e.trans g1.ex) fun v Hk H3 g2 hv => ?_)
    obtain rfl : v = .int 1 := hv
    exact q 1 H3 (Gd.of e (g1.ex.trans g2.ex)) (dw.ex (g1.ex.trans g2.ex)) ⟨by decide, by decide⟩
  · have G : Gd d Hb H H2 := Gd.of e g1.ex
    refine s_cons (s_setD 2 (ed_add (edP (cI (n := 1))) (take 0 FT (cI (n := 9)))) G.on hd (dw.ex g1.ex) fun i H3 g3 d3 ⟨a, b, ha, hb, hi⟩ => ?_)
    have G := G.trans g3
    refine s_cons (s_if (tW (wand (teq (nm 1 (h := rfl)) cI) fun _ => wand1 (teq (nm 2 (h := rfl)) cI))) G.on (fun ht Hk H4 g4 => ?_) fun ht Hk H4 g4 => s_nil ?_)
    · refine s_one (s_ret (EV.is (a' := (1000003 : Int)) (add (pw (cI (n := 10)) (cI (n := 6)) ⟨by decide, by decide, by decide⟩) (cI (n := 3))) (by decide +kernel)) (G.step g4.ex).on fun v Hk H5 g5 hv => ?_)
      obtain rfl : v = .int 1000003 := hv
      exact q _ H5 ((G.step g4.ex).step g5.ex) (d3.ex (g4.ex.trans g5.ex)) ⟨by decide, by decide⟩
    · refine s_one (s_ret (nm 2 (R := rInt) (a := i) (h := rfl)) (G.step g4.ex).on fun v Hk H5 g5 hv => ?_)
      obtain rfl : v = .int i := hv
      exact q _ H5 ((G.step g4.ex).step g5.ex) (d3.ex (g4.ex.trans g5.ex)) ⟨by omega, by omega⟩
section
variable {ι : Type} {X : ι → Cx} {g : W5} {N : List Str} {k : Nat} {σ : L2.St} {Hb : Hp} {e : Expr} {p pd pos : Pos} {d : Addr} {m : Int} {xd : Str} {P : Int → Prop}
theorem rate [c : CtxZ X g N k] (jd : Nat) (F : FnB g CX0 2 "_law_rate" ["_law_draws_here", "_law_style"] [] spRate) (h : EV X e σ Hb rInt m) (hk : 2 ≤ k := by decide) (hs : NS e := by intro _ _; rfl)
    (hN : N[jd]? = some xd := by rfl) (hσ : σ[jd]? = some (some (.ref d)) := by rfl) (hv : ∀ i, Vis (X i).env.scope xd := by intro _; first | exact Or.inl rfl | exact Or.inr (Or.inl rfl) | exact Or.inr (Or.inr rfl))
    (hg : ∀ i, Gl (X i) "_law_rate" := by intro _; rfl) (hpl : ∀ i, (backTo pos (starEach [e] (X i).env)).any (·.1) = false := by intro _; rfl) : ED X d (.Call (.Name "_law_rate" p) [.Name xd pd, e] [] pos) σ Hb RateV :=
  callD (jd := jd) F m (ac h a0 hs) rfl trivial hk hN hσ hv hg (by decide) hpl
end
end K
/-! K4: the grids. -/
namespace K
open PySem.Spec PySem PyProof.Rows L2 Z M
/-- a def that takes from the draws and hands back a new matrix -/
def spDM {τ : Type} (args : τ → AL) (pre : τ → Prop) (n : τ → Nat) (post : τ → Mat → Prop) : Sp := fun vs H1 Q _ => ∃ (t : τ) (Hb : Hp) (d : Addr) (us : List V), vs = .ref d :: us ∧ Ex Hb H1 ∧ Hb d = none ∧ Dw H1 d ∧ (args t).r Hb us ∧ pre t ∧
  ∀ p as f H2, (∀ b ∈ p :: as, H1 b = none) → Gd d Hb H1 H2 → Dw H2 d → Mx H2 p as (n t) f → post t f → Q (.ref p) H2
theorem len_ofDM {τ : Type} {args : τ → AL} {pre : τ → Prop} {nn : τ → Nat} {post : τ → Mat → Prop} {n : Nat} (h : ∀ t H vs, (args t).r H vs → vs.length = n) : ∀ vs H Q E, spDM args pre nn post vs H Q E → vs.length = n + 1 := fun vs H Q E ⟨t, Hb, d, us, e, _, _, _, r, _⟩ => by rw [e, List.length_cons, h t Hb us r]
theorem natMod {x n : Nat} {i : Int} (h : i = ((x : Nat) : Int)) : i % (n : Int) = ((x % n : Nat) : Int) := by subst h; exact (Int.natCast_emod x n).symm
/-- a store in a matrix of one's own, the draws aside -/
theorem stored {d : Addr} {Hb H H2 H3 H4 : Hp} {p r : Addr} {as : List Addr} {n : Nat} {f f' : Mat} (dw : Dw H d) (G : Gd d Hb H H2) (d1 : Dw H2 d) (Mm : MxM H Hb H2 p as n f) (e3 : Ex H2 H3) (hr : r ∈ as) (ho : ∃ o, H4 = upd H3 r o) (m4 : Mx H4 p as n f') :
    Gd d Hb H H4 ∧ Dw H4 d ∧ MxM H Hb H4 p as n f' := by
  obtain ⟨o, eo⟩ := ho
  subst eo
  have hrd : r ≠ d := fun z => (dw.neM Mm) r (List.mem_cons_of_mem _ hr) z
  refine ⟨(G.step e3).wr (.inr (Mm.new r (List.mem_cons_of_mem _ hr))) (Mm.off r (List.mem_cons_of_mem _ hr)), ?_, ⟨m4, Mm.new, Mm.off⟩⟩
  obtain ⟨l, z, hh⟩ := d1.ex e3
  exact ⟨l, z, by rw [upd_ne (fun z => hrd z.symm)]; exact hh⟩
/-- an if over the draws whose ways meet in J -/
theorem s_ifDJ {X : Cx} {σ : L2.St} {H Hb : Hp} {e : Expr} {pos : Pos} {D : Ends} {d : Addr} {PB : Bool → Prop} {as bs : List Stmt} (J : L2.St → Hp → Prop) (h : EDT (u1 X) d e σ Hb PB) (cx : Ex Hb H) (hd : Hb d = none) (dw : Dw H d) (h1 : ∀ H2, Gd d Hb H H2 → Dw H2 d → PB true → wSs X as { D with nx := J } σ H2)
    (h2 : ∀ H2, Gd d Hb H H2 → Dw H2 d → PB false → wSs X bs { D with nx := J } σ H2) (hJ : ∀ σ' H', J σ' H' → D.nx σ' H') : wS X (.If e as bs pos) D σ H :=
  s_ifD h cx hd dw (fun H2 g1 d1 p => wSs_mono (h1 H2 g1 d1 p) hJ (fun _ _ z => z) (fun _ _ z => z) fun _ _ z => z) (fun H2 g1 d1 p => wSs_mono (h2 H2 g1 d1 p) hJ (fun _ _ z => z) (fun _ _ z => z) fun _ _ z => z)
/-! ring_grid -/
abbrev spRing : Sp := spDM (fun t : Nat × Int × Int => al3 rInt (t.1 : Int) rInt t.2.1 rInt t.2.2) (fun t => 2 ≤ t.1 ∧ t.1 ≤ 8) (fun t => t.1) (fun t f => GridOk t.1 f ∧ Joined t.1 f)
def RingTo (n x y : Nat) (f : Mat) : Prop := GridOk n f ∧ ∀ a, a < n → (a < x ∨ (a = x ∧ (a + 1) % n < y)) → 0 < f a ((a + 1) % n)
theorem ok_ring {g : W5} (D : DefOf g "_law_ring_grid" sRingGrid) (T : TX g) (FT : FnB g CX0 1 "_law_take" ["_law_draws_here", "_law_many"] [] spTake) (FR : FnB g CX0 2 "_law_rate" ["_law_draws_here", "_law_style"] [] spRate) (FE : FnB g CX0 1 "_law_empty" ["_law_size"] [] spEmpty) :
    FnB g CX0 3 "_law_ring_grid" ["_law_draws_here", "_law_size", "_law_style", "_law_thick"] [] spRing := by
  refine def_ok D sRingGridS (by decide +kernel) (len_ofDM (n := 3) fun t H vs h => by obtain ⟨v, u, w, rfl, _⟩ := AL.three h; rfl) (fun _ _ _ _ _ _ us hl => match us, hl with | [_, _, _, _], _ => rfl) fun f cdv A outer s H vs Q E cx ⟨⟨n, st, th⟩, Hb, d, us, e1, e, hd, dw, h0, ⟨hn, hn2⟩, q⟩ => ?_
  obtain ⟨v, u, w, rfl, hv, hu, hw⟩ := AL.three h0
  subst e1
  obtain rfl : v = .int (n : Int) := hv
  obtain rfl : u = .int st := hu
  obtain rfl : w = .int th := hw
  dsimp only at hn hn2 q
  refine s_cons (s_setM 4 (callM FE n (ac (nm 1 (h := rfl)) a0) rfl (by omega)) e fun p as H1 hf e1 m => ?_)
  obtain ⟨G, Mm⟩ := (Go.refl (S := (· = d)) e).ownM e1 hf m
  have d1 := dw.ex e1
  refine s_cons (s_forR (n := n) T.range 5 (nm 1 (h := rfl)) G.on (by omega)
    (fun x σ H' => ∃ (o5 o6 : Option V) (f : Mat), σ = [some (.ref d), some (.int n), some (.int st), some (.int th), some (.ref p), o5, o6] ∧ Gd d Hb H H' ∧ Dw H' d ∧ MxM H Hb H' p as n f ∧ RingTo n x 0 f)
    (fun Hk H2 g2 => ⟨none, none, _, rfl, G.step g2.ex, d1.ex g2.ex, Mm.ex g2.ex, ⟨fun _ _ => rfl, fun _ _ _ _ => Int.le_refl _, fun _ _ _ _ => by decide⟩, fun a ha h => by omega⟩) (fun x σ' H' hx hI => ?_) fun σ' H' hI => ?_)
  · obtain ⟨o5, o6, f, rfl, G, d1, Mm, hf⟩ := hI
    show wSs _ _ _ [some (.ref d), some (.int n), some (.int st), some (.int th), some (.ref p), some (.int (x : Int)), o6] H'
    refine s_one (s_forR (n := n) T.range 6 (nm 1 (h := rfl)) G.on (by omega)
      (fun y σ H' => ∃ (o6 : Option V) (f : Mat), σ = [some (.ref d), some (.int n), some (.int st), some (.int th), some (.ref p), some (.int (x : Int)), o6] ∧ Gd d Hb H H' ∧ Dw H' d ∧ MxM H Hb H' p as n f ∧ RingTo n x y f)
      (fun Hk H2 g2 => ⟨_, _, rfl, G.step g2.ex, d1.ex g2.ex, Mm.ex g2.ex, hf⟩) (fun y σ' H' hy hI => ?_) fun σ' H' hI => ?_)
    · obtain ⟨o6, f, rfl, G, d1, Mm, hf⟩ := hI
      show wSs _ _ _ [some (.ref d), some (.int n), some (.int st), some (.int th), some (.ref p), some (.int (x : Int)), some (.int (y : Int))] H'
      have hn0 : (0 : Int) < (n : Int) := by omega
      -- the store
      have store : ∀ {D : Ends} (i : Int) (H2 : Hp), Gd d Hb H H2 → Dw H2 d → MxM H Hb H2 p as n f → RateV i → x ≠ y → ∀ H3 H4 r, Ex H2 H3 → r ∈ as → (∃ o, H4 = upd H3 r o) → Mx H4 p as n (fun a b => if a = x ∧ b = y then i else f a b) →
          Gd d Hb H H4 ∧ Dw H4 d ∧ MxM H Hb H4 p as n (fun a b => if a = x ∧ b = y then i else f a b) ∧ RingTo n x (y + 1) (fun a b => if a = x ∧ b = y then i else f a b) := by
        intro _ i H2 G d1 Mm hi hxy H3 H4 r e3 hr ho m4
        obtain ⟨b1, b2, b3⟩ := stored dw G d1 Mm e3 hr ho m4
        refine ⟨b1, b2, b3, hf.1.set hxy (by have := hi.1; omega) hi.2, fun a ha h => ?_⟩
        · by_cases h2 : a = x ∧ (a + 1) % n = y
          · show 0 < (if a = x ∧ (a + 1) % n = y then i else f a ((a + 1) % n))
            rw [if_pos h2]; have := hi.1; omega
          · show 0 < (if a = x ∧ (a + 1) % n = y then i else f a ((a + 1) % n))
            rw [if_neg h2]; exact hf.2 a ha (by omega)
      refine s_one (s_if (teq (nm 6 (h := rfl)) (EV.is (md (int1 T.int (add (nm 5 (h := rfl)) (cI (n := 1)))) (nm 1 (h := rfl)) hn0) (natMod (x := x + 1) (by omega)))) G.on (fun ht Hk H2 g2 => ?_) fun ht Hk H2 g2 => ?_)
      · have hy1 : y = (x + 1) % n := by have := of_decide_eq_true ht; omega
        have hxy : x ≠ y := by
          intro z
          by_cases h : x + 1 < n
          · rw [Nat.mod_eq_of_lt h] at hy1; omega
          · have : x + 1 = n := by omega
            rw [this, Nat.mod_self] at hy1; omega
        have G := G.step g2.ex
        have Mm := Mm.ex g2.ex
        refine s_one (s_asgw ((rate 0 FR (nm 2 (h := rfl))) hd H2 G.on (d1.ex g2.ex) _ fun i H3 g3 d3 hi => ?_))
        refine gM (j := 4) x y (Mm.go g3 (dw.neM Mm)).toMx (nm 5 (h := rfl)) (nm 6 (h := rfl)) rfl rfl hx hy fun H4 H5 r e4 hr ho m5 => ?_
        obtain ⟨a1, a2, a3, a4⟩ := store (D := { nx := fun _ _ => True, rt := fun _ _ => True }) i H3 (G.trans g3) d3 (Mm.go g3 (dw.neM Mm)) hi hxy H4 H5 r e4 hr ho m5
        exact ⟨_, _, rfl, a1, a2, a3, a4⟩
      · have hy1 : y ≠ (x + 1) % n := by
          intro z
          have : ¬ ((y : Nat) : Int) = (((x + 1) % n : Nat) : Int) := by simpa using ht
          omega
        have G := G.step g2.ex
        have Mm := Mm.ex g2.ex
        have rest : RingTo n x (y + 1) f := ⟨hf.1, fun a ha h => hf.2 a ha (by
          rcases h with h | ⟨rfl, h⟩
          · exact .inl h
          · exact .inr ⟨rfl, by omega⟩)⟩
        refine s_one (s_ifD (edW (ed_and (tne (nm 6 (h := rfl)) (nm 5 (h := rfl))) fun _ => ed_and1 (ed_ge (take 0 FT (cI (n := 4))) (edP (sub (cI (n := 4)) (nm 3 (h := rfl))))))) G.on hd (d1.ex g2.ex) (fun H3 g3 d3 hp => ?_) fun H3 g3 d3 hp => s_nil ⟨_, _, rfl, G.trans g3, d3, Mm.go g3 (dw.neM Mm), rest⟩)
        have hxy : x ≠ y := by
          intro z
          subst z
          simp at hp
        have G := G.trans g3
        have Mm := Mm.go g3 (dw.neM Mm)
        refine s_one (s_asgw ((rate 0 FR (nm 2 (h := rfl))) hd H3 G.on d3 _ fun i H4 g4 d4 hi => ?_))
        refine gM (j := 4) x y (Mm.go g4 (dw.neM Mm)).toMx (nm 5 (h := rfl)) (nm 6 (h := rfl)) rfl rfl hx hy fun H5 H6 r e4 hr ho m5 => ?_
        obtain ⟨a1, a2, a3, a4⟩ := store (D := { nx := fun _ _ => True, rt := fun _ _ => True }) i H4 (G.trans g4) d4 (Mm.go g4 (dw.neM Mm)) hi hxy H5 H6 r e4 hr ho m5
        exact ⟨_, _, rfl, a1, a2, a3, a4⟩
    · obtain ⟨o6, f, rfl, G, d1, Mm, hf⟩ := hI
      refine ⟨_, _, f, rfl, G, d1, Mm, hf.1, fun a ha h => hf.2 a ha ?_⟩
      have : (a + 1) % n < n := Nat.mod_lt _ (by omega)
      omega
  · obtain ⟨o5, o6, f, rfl, G, d1, Mm, hf⟩ := hI
    refine s_one (s_retw ⟨_, fun _ => pe_var (i := 4) rfl (.inl rfl) (by decide) (by decide), _, rfl, ?_⟩)
    exact q p as f _ Mm.new G d1 Mm.toMx ⟨hf.1, ring_joined fun x hx => hf.2 x hx (.inl hx)⟩
/-! hung_grid -/
abbrev spHung : Sp := spDM (fun t : Nat × Int => al2 rInt (t.1 : Int) rInt t.2) (fun t => 2 ≤ t.1 ∧ t.1 ≤ 8) (fun t => t.1) (fun t f => GridOk t.1 f ∧ Joined t.1 f)
theorem upd_more {n : Nat} {f : Mat} {x y : Nat} {v : Int} (hv : 0 < v) : ∀ a b, a < n → b < n → 0 < f a b → 0 < (fun a b => if a = x ∧ b = y then v else f a b) a b := fun a b _ _ h => by
  show 0 < (if a = x ∧ b = y then v else f a b)
  split
  · exact hv
  · exact h
theorem ok_hung {g : W5} (D : DefOf g "_law_hung_grid" sHungGrid) (T : TX g) (FT : FnB g CX0 1 "_law_take" ["_law_draws_here", "_law_many"] [] spTake) (FR : FnB g CX0 2 "_law_rate" ["_law_draws_here", "_law_style"] [] spRate) (FE : FnB g CX0 1 "_law_empty" ["_law_size"] [] spEmpty) :
    FnB g CX0 3 "_law_hung_grid" ["_law_draws_here", "_law_size", "_law_style"] [] spHung := by
  refine def_ok D sHungGridS (by decide +kernel) (len_ofDM (n := 2) fun t H vs h => by obtain ⟨v, u, rfl, _⟩ := AL.two h; rfl) (fun _ _ _ _ _ _ us hl => match us, hl with | [_, _, _], _ => rfl) fun f cdv A outer s H vs Q E cx ⟨⟨n, st⟩, Hb, d, us, e1, e, hd, dw, h0, ⟨hn, hn2⟩, q⟩ => ?_
  obtain ⟨v, u, rfl, hv, hu⟩ := AL.two h0
  subst e1
  obtain rfl : v = .int (n : Int) := hv
  obtain rfl : u = .int st := hu
  dsimp only at hn hn2 q
  refine s_cons (s_setM 3 (callM FE n (ac (nm 1 (h := rfl)) a0) rfl (by omega)) e fun p as H1 hf e1 m => ?_)
  obtain ⟨G, Mm⟩ := (Go.refl (S := (· = d)) e).ownM e1 hf m
  have d1 := dw.ex e1
  refine s_cons (s_set 4 (cI (n := 1)) G.on fun w Hk H2 g2 hw => ?_)
  obtain rfl : w = .int 1 := hw
  have G := G.step g2.ex
  have d1 := d1.ex g2.ex
  have Mm := Mm.ex g2.ex
  refine s_cons (s_forR (n := n) T.range 5 (nm 1 (h := rfl)) G.on (by omega)
    (fun x σ H' => ∃ (o5 o6 : Option V) (at_ : Nat) (f : Mat), σ = [some (.ref d), some (.int n), some (.int st), some (.ref p), some (.int (at_ : Int)), o5, o6] ∧ Gd d Hb H H' ∧ Dw H' d ∧ MxM H Hb H' p as n f ∧ GridOk n f ∧ 1 ≤ at_ ∧ at_ ≤ n ∧ (x < at_ ∨ at_ = n) ∧ Jn n at_ f)
    (fun Hk H3 g3 => ⟨none, none, 1, _, rfl, G.step g3.ex, d1.ex g3.ex, Mm.ex g3.ex, ⟨fun _ _ => rfl, fun _ _ _ _ => Int.le_refl _, fun _ _ _ _ => by decide⟩, by omega, by omega, by omega, jn_one⟩) (fun x σ' H' hx hI => ?_) fun σ' H' hI => ?_)
  · obtain ⟨o5, o6, at_, f, rfl, G, d1, Mm, gf, ha1, ha2, hxa, jf⟩ := hI
    show wSs _ _ _ [some (.ref d), some (.int n), some (.int st), some (.ref p), some (.int (at_ : Int)), some (.int (x : Int)), o6] H'
    refine s_one (s_if (tlt (nm 4 (h := rfl)) (nm 1 (h := rfl))) G.on (fun ht Hk H2 g2 => ?_) fun ht Hk H2 g2 => s_nil ⟨_, _, at_, f, rfl, G.step g2.ex, d1.ex g2.ex, Mm.ex g2.ex, gf, ha1, ha2, by have := of_decide_eq_false ht; omega, jf⟩)
    have hat : at_ < n := by have := of_decide_eq_true ht; omega
    have G := G.step g2.ex
    have d1 := d1.ex g2.ex
    have Mm := Mm.ex g2.ex
    -- old
    refine s_cons (s_setD 6 (take 0 FT (nm 4 (h := rfl))) G.on hd d1 fun i H3 g3 d3 hi0 => ?_)
    have hi0 : 0 ≤ i ∧ (i < (at_ : Int) ∨ i = 0) := hi0
    obtain ⟨i0, i1⟩ := hi0
    obtain ⟨old, rfl⟩ : ∃ old : Nat, i = (old : Int) := ⟨i.toNat, by omega⟩
    have hold : old < at_ := by omega
    have Mm := Mm.go g3 (dw.neM Mm)
    have G := G.trans g3
    have d1 := d3
    show wSs _ _ _ [some (.ref d), some (.int n), some (.int st), some (.ref p), some (.int (at_ : Int)), some (.int (x : Int)), some (.int (old : Int))] H3
    -- grid[old][at] = rate
    refine s_cons (s_asgw ((rate 0 FR (nm 2 (h := rfl))) hd H3 G.on d1 _ fun i H4 g4 d4 hi => ?_))
    refine gM (j := 3) old at_ (Mm.go g4 (dw.neM Mm)).toMx (nm 6 (h := rfl)) (nm 4 (h := rfl)) rfl rfl (by omega) hat fun H5 H6 r e4 hr ho m5 => ?_
    obtain ⟨G, d1, Mm⟩ := stored dw (G.trans g4) d4 (Mm.go g4 (dw.neM Mm)) e4 hr ho m5
    have gf := gf.set (x := old) (y := at_) (v := i) (by omega) (by have := hi.1; omega) hi.2
    have jf := jf.more (upd_more (n := n) (x := old) (y := at_) (v := i) (by have := hi.1; omega))
    have h1 : 0 < (fun a b => if a = old ∧ b = at_ then i else f a b) old at_ := by simp; have := hi.1; omega
    generalize (fun a b => if a = old ∧ b = at_ then i else f a b) = f1 at *
    show wSs _ _ _ [some (.ref d), some (.int n), some (.int st), some (.ref p), some (.int (at_ : Int)), some (.int (x : Int)), some (.int (old : Int))] H6
    -- the way on
    refine s_cons (s_ifDJ (fun σ H7 => ∃ (ax : Nat) (f2 : Mat), σ = [some (.ref d), some (.int n), some (.int st), some (.ref p), some (.int (ax : Int)), some (.int (x : Int)), some (.int (old : Int))] ∧ Gd d Hb H H7 ∧ Dw H7 d ∧ MxM H Hb H7 p as n f2 ∧ GridOk n f2 ∧ old < ax ∧ ax < n ∧ at_ ≤ ax ∧ (∀ f3 : Mat, (∀ a b, a < n → b < n → 0 < f2 a b → 0 < f3 a b) → 0 < f3 ax old → Jn n (ax + 1) f3))
      (edW (ed_and (tlt (add (nm 4 (h := rfl)) (cI (n := 1))) (nm 1 (h := rfl))) fun _ => ed_and1 (ed_eq (take 0 FT (cI (n := 3))) (edP (cI (n := 2)))))) G.on hd d1 (fun H7 g7 d7 hp => ?_) (fun H7 g7 d7 hp => s_nil ⟨at_, f1, rfl, G.trans g7, d7, Mm.go g7 (dw.neM Mm), gf, hold, hat, Nat.le_refl _, fun f3 h3 h4 => (jf.more h3).hang hat hold (h3 _ _ (by omega) hat h1) h4⟩) fun σ2 H7 hJ => ?_)
    · have hat2 : at_ + 1 < n := by
        by_cases z : ((at_ : Nat) : Int) + 1 < (n : Int)
        · omega
        · simp [z] at hp
      have Mm := Mm.go g7 (dw.neM Mm)
      have G := G.trans g7
      refine s_cons (s_asgw ((rate 0 FR (nm 2 (h := rfl))) hd H7 G.on d7 _ fun i H8 g8 d8 hi => ?_))
      refine gM (j := 3) at_ (at_ + 1) (Mm.go g8 (dw.neM Mm)).toMx (nm 4 (h := rfl)) (add (nm 4 (h := rfl)) (cI (n := 1))) rfl (by omega) hat hat2 fun H9 H10 r e9 hr ho m5 => ?_
      obtain ⟨G, d1, Mm⟩ := stored dw (G.trans g8) d8 (Mm.go g8 (dw.neM Mm)) e9 hr ho m5
      have gf := gf.set (x := at_) (y := at_ + 1) (v := i) (by omega) (by have := hi.1; omega) hi.2
      have mo := upd_more (f := f1) (n := n) (x := at_) (y := at_ + 1) (v := i) (by have := hi.1; omega)
      have h2 : 0 < (fun a b => if a = at_ ∧ b = at_ + 1 then i else f1 a b) at_ (at_ + 1) := by simp; have := hi.1; omega
      generalize (fun a b => if a = at_ ∧ b = at_ + 1 then i else f1 a b) = f2 at *
      refine s_one (s_set 4 (add (nm 4 (h := rfl)) (cI (n := 1))) G.on fun w Hk H11 g11 hw => ?_)
      obtain rfl : w = .int ((at_ : Int) + 1) := hw
      exact ⟨at_ + 1, f2, rfl, G.step g11.ex, d1.ex g11.ex, Mm.ex g11.ex, gf, by omega, hat2, by omega, fun f3 h3 h4 => (jf.more fun a b ha hb h => h3 _ _ ha hb (mo a b ha hb h)).hang2 hat2 hold (h3 _ _ (by omega) hat (mo _ _ (by omega) hat h1)) (h3 _ _ hat hat2 h2) h4⟩
    · obtain ⟨ax, f2, rfl, G, d1, Mm, gf, hox, hax, hle, jx⟩ := hJ
      refine s_cons (s_asgw ((rate 0 FR (nm 2 (h := rfl))) hd H7 G.on d1 _ fun i H8 g8 d8 hi => ?_))
      refine gM (j := 3) ax old (Mm.go g8 (dw.neM Mm)).toMx (nm 4 (h := rfl)) (nm 6 (h := rfl)) rfl rfl hax (by omega) fun H9 H10 r e9 hr ho m5 => ?_
      obtain ⟨G, d1, Mm⟩ := stored dw (G.trans g8) d8 (Mm.go g8 (dw.neM Mm)) e9 hr ho m5
      have gf := gf.set (x := ax) (y := old) (v := i) (by omega) (by have := hi.1; omega) hi.2
      have jf := jx _ (upd_more (f := f2) (n := n) (x := ax) (y := old) (v := i) (by have := hi.1; omega)) (by simp; have := hi.1; omega)
      generalize (fun a b => if a = ax ∧ b = old then i else f2 a b) = f3 at *
      refine s_one (s_set 4 (add (nm 4 (h := rfl)) (cI (n := 1))) G.on fun w Hk H11 g11 hw => ?_)
      obtain rfl : w = .int ((ax : Int) + 1) := hw
      exact ⟨_, _, ax + 1, f3, rfl, G.step g11.ex, d1.ex g11.ex, Mm.ex g11.ex, gf, by omega, by omega, by omega, jf⟩
  · obtain ⟨o5, o6, at_, f, rfl, G, d1, Mm, gf, ha1, ha2, hxa, jf⟩ := hI
    refine s_one (s_retw ⟨_, fun _ => pe_var (i := 3) rfl (.inl rfl) (by decide) (by decide), _, rfl, ?_⟩)
    have : at_ = n := by omega
    subst this
    exact q p as f _ Mm.new G d1 Mm.toMx ⟨gf, jf⟩
end K
/-! K5: moved, pair, numbers, the judgements of fractions, Euclid. -/
namespace K
open PySem.Spec PySem PyProof.Rows L2 Z M
/-- a def that hands back a new matrix told by post -/
def spMN {τ : Type} (args : τ → AL) (pre : τ → Prop) (n : τ → Nat) (post : τ → Mat → Prop) : Sp := fun vs H1 Q _ => ∃ (t : τ) (Hb : Hp), Ex Hb H1 ∧ (args t).r Hb vs ∧ pre t ∧ ∀ p as f H2, (∀ b ∈ p :: as, H1 b = none) → Ex H1 H2 → Mx H2 p as (n t) f → post t f → Q (.ref p) H2
theorem len_ofMN {τ : Type} {args : τ → AL} {pre : τ → Prop} {nn : τ → Nat} {post : τ → Mat → Prop} {n : Nat} (h : ∀ t H vs, (args t).r H vs → vs.length = n) : ∀ vs H Q E, spMN args pre nn post vs H Q E → vs.length = n := fun vs H Q E ⟨t, Hb, _, r, _⟩ => h t Hb vs r
/-- a store in a matrix of one's own -/
theorem storedN {Hb Hk H H2 H3 H4 : Hp} {p r : Addr} {as : List Addr} {n : Nat} {f f' : Mat} (G : Go no Hb H Hk H2) (Mm : MxM H Hk H2 p as n f) (e3 : Ex H2 H3) (hr : r ∈ as) (ho : ∃ o, H4 = upd H3 r o) (m4 : Mx H4 p as n f') :
    Go no Hb H Hk H4 ∧ MxM H Hk H4 p as n f' := by
  obtain ⟨o, eo⟩ := ho
  subst eo
  exact ⟨(G.step e3).wr (.inr (Mm.new r (List.mem_cons_of_mem _ hr))) (Mm.off r (List.mem_cons_of_mem _ hr)), ⟨m4, Mm.new, Mm.off⟩⟩
/-! moved -/
abbrev spMoved : Sp := spMN (fun t : Nat × Mat × Nat => al2 (rL (rL rInt)) (mat t.1 t.2.1) rInt (t.2.2 : Int)) (fun t => t.2.2 < t.1 ∧ t.1 ≤ 8) (fun t => t.1) (fun t g => ∀ x y, x < t.1 → y < t.1 → g ((x + t.2.2) % t.1) ((y + t.2.2) % t.1) = t.2.1 x y)
theorem mod_inj {n s a b : Nat} (ha : a < n) (hb : b < n) (h : (a + s) % n = (b + s) % n) : a = b := by
  have h1 : (a + s) % n % n = (b + s) % n % n := by rw [h]
  have e : ∀ z, z < n → ((z + s) % n + (n - s % n)) % n = z := fun z hz => by
    rw [Nat.mod_add_mod]
    have hs : s % n < n := Nat.mod_lt _ (by omega)
    have : z + s + (n - s % n) = z + n + n * (s / n) := by
      have := Nat.div_add_mod s n; omega
    rw [this, Nat.add_mul_mod_self_left, Nat.add_mod_right, Nat.mod_eq_of_lt hz]
  rw [← e a ha, ← e b hb, h]
theorem ok_moved {g : W5} (D : DefOf g "_law_moved" sMoved) (T : TX g) (FE : FnB g CX0 1 "_law_empty" ["_law_size"] [] spEmpty) : FnB g CX0 2 "_law_moved" ["_law_grid", "_law_shift"] [] spMoved := by
  refine def_ok D sMovedS (by decide +kernel) (len_ofMN (n := 2) fun t H vs h => by obtain ⟨v, u, rfl, _⟩ := AL.two h; rfl) (fun _ _ _ _ _ _ us hl => match us, hl with | [_, _], _ => rfl) fun f0 cdv A outer s H vs Q E cx ⟨⟨n, f, sh⟩, Hb, e, h0, ⟨hs, hn⟩, q⟩ => ?_
  obtain ⟨v, u, rfl, hv, hu⟩ := AL.two h0
  obtain rfl : u = .int (sh : Int) := hu
  dsimp only at hv hs hn q
  refine s_cons (s_set 2 (len T.len (nm 0 (h := hv))) e fun w Hk H1 g1 hw => ?_)
  obtain rfl : w = .int (n : Int) := by have : w = .int ((mat n f).length : Int) := hw; rw [this, tab_len]
  refine s_cons (s_setM 3 (callM FE n (ac (nm 2 (h := rfl)) a0) rfl (by omega)) (e.trans g1.ex) fun p as H2 hf e2 m => ?_)
  have G : Go no Hb H Hb H2 := Go.ofEx e (g1.ex.trans e2)
  have Mm : MxM H Hb H2 p as n fun _ _ => 0 := ⟨m, fun b hb => g1.ex.none (hf b hb), fun b hb => (e.trans g1.ex).none (hf b hb)⟩
  refine s_cons (s_forR (n := n) T.range 4 (nm 2 (h := rfl)) G.on (by omega)
    (fun x σ H' => ∃ (o4 o5 : Option V) (k : Mat), σ = [some v, some (.int sh), some (.int n), some (.ref p), o4, o5] ∧ Go no Hb H Hb H' ∧ MxM H Hb H' p as n k ∧ ∀ a b, a < n → b < n → a < x → k ((a + sh) % n) ((b + sh) % n) = f a b)
    (fun Hk H2 g2 => ⟨none, none, _, rfl, G.step g2.ex, Mm.ex g2.ex, fun a b ha hb h => by omega⟩) (fun x σ' H' hx hI => ?_) fun σ' H' hI => ?_)
  · obtain ⟨o4, o5, k, rfl, G, Mm, hk⟩ := hI
    show wSs _ _ _ [some v, some (.int sh), some (.int n), some (.ref p), some (.int (x : Int)), o5] H'
    refine s_one (s_forR (n := n) T.range 5 (nm 2 (h := rfl)) G.on (by omega)
      (fun y σ H' => ∃ (o5 : Option V) (k : Mat), σ = [some v, some (.int sh), some (.int n), some (.ref p), some (.int (x : Int)), o5] ∧ Go no Hb H Hb H' ∧ MxM H Hb H' p as n k ∧ ∀ a b, a < n → b < n → (a < x ∨ (a = x ∧ b < y)) → k ((a + sh) % n) ((b + sh) % n) = f a b)
      (fun Hk H2 g2 => ⟨_, k, rfl, G.step g2.ex, Mm.ex g2.ex, fun a b ha hb h => hk a b ha hb (by omega)⟩) (fun y σ' H' hy hI => ?_) fun σ' H' hI => ?_)
    · obtain ⟨o5, k, rfl, G, Mm, hk⟩ := hI
      show wSs _ _ _ [some v, some (.int sh), some (.int n), some (.ref p), some (.int (x : Int)), some (.int (y : Int))] H'
      have hn0 : (0 : Int) < (n : Int) := by omega
      have hv' : (rL (rL rInt)).r H' v (mat n f) := (rL (rL rInt)).up G.on hv
      refine s_one (s_asg (ixt (ixt (nm 0 (h := hv')) (nm 4 (h := rfl)) hx) (nm 5 (h := rfl)) hy) (Ex.refl _) fun w Hk H3 g3 hw => ?_)
      obtain rfl : w = .int (f x y) := hw
      refine gM (j := 3) ((x + sh) % n) ((y + sh) % n) (Mm.ex g3.ex).toMx (md (int1 T.int (add (nm 4 (h := rfl)) (nm 1 (h := rfl)))) (nm 2 (h := rfl)) hn0) (md (int1 T.int (add (nm 5 (h := rfl)) (nm 1 (h := rfl)))) (nm 2 (h := rfl)) hn0) (natMod (by omega)) (natMod (by omega)) (Nat.mod_lt _ (by omega)) (Nat.mod_lt _ (by omega)) fun H4 H5 r e4 hr ho m5 => ?_
      obtain ⟨G, Mm⟩ := storedN (G.step g3.ex) (Mm.ex g3.ex) e4 hr ho m5
      refine ⟨_, _, rfl, G, Mm, fun a b ha hb h => ?_⟩
      show (if (a + sh) % n = (x + sh) % n ∧ (b + sh) % n = (y + sh) % n then f x y else k ((a + sh) % n) ((b + sh) % n)) = f a b
      split
      · rename_i h2
        rw [mod_inj ha hx h2.1, mod_inj hb hy h2.2]
      · rename_i h2
        refine hk a b ha hb ?_
        rcases h with h | ⟨rfl, h⟩
        · exact .inl h
        · refine .inr ⟨rfl, ?_⟩
          have : b ≠ y := fun z => h2 ⟨rfl, by rw [z]⟩
          omega
    · obtain ⟨o5, k, rfl, G, Mm, hk⟩ := hI
      exact ⟨_, _, k, rfl, G, Mm, fun a b ha hb h => hk a b ha hb (by omega)⟩
  · obtain ⟨o4, o5, k, rfl, G, Mm, hk⟩ := hI
    refine s_one (s_retw ⟨_, fun _ => pe_var (i := 3) rfl (.inl rfl) (by decide) (by decide), _, rfl, ?_⟩)
    exact q p as k _ Mm.new (Go.ex G) Mm.toMx fun x y hx hy => hk x y hx hy hx
/-! numbers, pair -/
abbrev spNumbers : Sp := fun vs H1 Q _ => ∃ (t : Nat × Int × Int) (Hb : Hp) (d : Addr) (us : List V), vs = .ref d :: us ∧ Ex Hb H1 ∧ Hb d = none ∧ Dw H1 d ∧ (al3 rInt (t.1 : Int) rInt t.2.1 rInt t.2.2).r Hb us ∧ (t.1 ≤ 1000 ∧ t.2.1 ≤ t.2.2) ∧
  ∀ p (l : List Int) H2, H1 p = none → Gd d Hb H1 H2 → Dw H2 d → H2 p = some (.lst (l.map .int)) → l.length = t.1 → (∀ x ∈ l, t.2.1 ≤ x ∧ x ≤ t.2.2) → Q (.ref p) H2
theorem ok_numbers {g : W5} (D : DefOf g "_law_numbers" sNumbers) (T : TX g) (FT : FnB g CX0 1 "_law_take" ["_law_draws_here", "_law_many"] [] spTake) : FnB g CX0 2 "_law_numbers" ["_law_draws_here", "_law_size", "_law_low", "_law_high"] [] spNumbers := by
  refine def_ok D sNumbersS (by decide +kernel) (fun vs₀ H Q E ⟨t₀, Hb, d₀, us₀, e1₀, _, _, _, h₀, _⟩ => by obtain ⟨v₀, u₀, w₀, rfl, _⟩ := AL.three h₀; rw [e1₀]; rfl) (fun _ _ _ _ _ _ us₀ hl₀ => match us₀, hl₀ with | [_, _, _, _], _ => rfl) fun f0₀ cdv₀ A outer₀ s₀ H vs₀ Q E cx₀ ⟨⟨n₀, lo₀, hi₀⟩, Hb, d₀, us₀, e1₀, e₀, hd₀, dw₀, h0₀, ⟨hn₀, hlo₀⟩, q₀⟩ => ?_
  obtain ⟨v₀, u₀, w₀, rfl, hv₀, hu₀, hw₀⟩ := AL.three h0₀
  subst e1₀
  obtain rfl : v₀ = .int (n₀ : Int) := hv₀
  obtain rfl : u₀ = .int lo₀ := hu₀
  obtain rfl : w₀ = .int hi₀ := hw₀
  dsimp only at hn₀ hlo₀ q₀
  refine s_one (s_retw ⟨_, fun i₀ => pe_lc_K (X := u1 _) [("_law_x", 4)] (fun _ => blkOk_by (by kernel_rfl)) (fun _ _ => rfl) i₀, lcD_run (iR T.range (nm 1 (h := rfl)) (by omega)) (by omega) hd₀ (fun _ i₀ => lo₀ ≤ i₀ ∧ i₀ ≤ hi₀) (fun i₀ x₀ Hk H1 hin₀ e1₀ e2₀ hx₀ => gn 4 ⟨rfl, rfl, ?_⟩) e₀ dw₀ fun D l₀ H2 h1₀ h2₀ h3₀ h4₀ h5₀ h6₀ => ?_⟩)
  · refine ED.imp (ed_add (edP (nm 2 (h := rfl))) (take 0 FT (add (sub (nm 3 (h := rfl)) (nm 2 (h := rfl))) (cI (n := 1))))) fun i₀ hh₀ => ?_
    obtain ⟨a₀, b₀, ha₀, hb₀, hi'₀⟩ := hh₀
    have ha₀ : a₀ = lo₀ := ha₀
    have hb₀ : 0 ≤ b₀ ∧ (b₀ < hi₀ - lo₀ + 1 ∨ b₀ = 0) := hb₀
    omega
  · exact q₀ D l₀ H2 h1₀ h2₀ h3₀ h4₀ h5₀ fun x₀ hx₀ => by
      obtain ⟨i₀, hi₀, rfl⟩ := List.getElem_of_mem hx₀
      exact h6₀ i₀ hi₀
abbrev spPair : Sp := fun vs H1 Q _ => ∃ (n : Nat) (Hb : Hp) (d : Addr) (us : List V), vs = .ref d :: us ∧ Ex Hb H1 ∧ Hb d = none ∧ Dw H1 d ∧ (al1 rInt (n : Int)).r Hb us ∧ (2 ≤ n ∧ n ≤ 8) ∧
  ∀ p (a b : Nat) H2, H1 p = none → Gd d Hb H1 H2 → Dw H2 d → H2 p = some (.tup [.int (a : Int), .int (b : Int)]) → a < n → b < n → a ≠ b → Q (.ref p) H2
theorem ok_pair {g : W5} (D : DefOf g "_law_pair" sPair) (T : TX g) (FT : FnB g CX0 1 "_law_take" ["_law_draws_here", "_law_many"] [] spTake) : FnB g CX0 2 "_law_pair" ["_law_draws_here", "_law_size"] [] spPair := by
  refine def_ok D sPairS (by decide +kernel) (fun vs₀ H Q E ⟨t₀, Hb, d₀, us₀, e1₀, _, _, _, h₀, _⟩ => by obtain ⟨v₀, rfl, _⟩ := AL.one h₀; rw [e1₀]; rfl) (fun _ _ _ _ _ _ us₀ hl₀ => match us₀, hl₀ with | [_, _], _ => rfl) fun f0₀ cdv₀ A outer₀ s₀ H vs₀ Q E cx₀ ⟨n₀, Hb, d₀, us₀, e1₀, e₀, hd₀, dw₀, h0₀, ⟨hn₀, hn2₀⟩, q₀⟩ => ?_
  obtain ⟨v₀, rfl, hv₀⟩ := AL.one h0₀
  subst e1₀
  obtain rfl : v₀ = .int (n₀ : Int) := hv₀
  refine s_cons (s_setD 2 (take 0 FT (nm 1 (h := rfl))) e₀ hd₀ dw₀ fun i₀ H1 g1₀ d1₀ hi₀ => ?_)
  have hi₀ : 0 ≤ i₀ ∧ (i₀ < (n₀ : Int) ∨ i₀ = 0) := hi₀
  obtain ⟨x₀, rfl⟩ : ∃ x₀ : Nat, i₀ = (x₀ : Int) := ⟨i₀.toNat, by omega⟩
  show wSs _ _ _ [some (.ref d₀), some (.int (n₀ : Int)), some (.int (x₀ : Int))] H1
  have hn0₀ : (0 : Int) < (n₀ : Int) := by omega
  refine s_one (s_retw ⟨_, fun _ => pe_tup (wA_ok (X := u1 _) ()), ⟨_, fun _ => pa_cons (pe_var (i := 2) rfl (.inl rfl) (by decide) (by decide)) (pa_cons (wE_ok _) pa_nil rfl) rfl, _, rfl, ?_⟩⟩)
  refine ed_md (ed_int T.int (ed_add (edP (add (nm 2 (h := rfl)) (cI (n := 1)))) (take 0 FT (sub (nm 1 (h := rfl)) (cI (n := 1)))))) (edP (nm 1 (h := rfl))) (fun b₀ hb₀ => by subst hb₀; exact hn0₀) hd₀ H1 g1₀.on d1₀ _ fun i₀ H2 g2₀ d2₀ hh₀ => ?_
  obtain ⟨a₀, b₀, ⟨a1₀, b1₀, ha1₀, hb1₀, hab₀⟩, hb₀, hi2₀⟩ := hh₀
  have hb₀ : b₀ = (n₀ : Int) := hb₀
  have ha1₀ : a1₀ = (x₀ : Int) + 1 := ha1₀
  have hb1₀ : 0 ≤ b1₀ ∧ (b1₀ < (n₀ : Int) - 1 ∨ b1₀ = 0) := hb1₀
  refine ⟨by show 2 ≤ sizeLine; decide, fun p₀ hp₀ => ?_⟩
  have hi3₀ : i₀ = (((x₀ + 1 + b1₀.toNat) % n₀ : Nat) : Int) := by rw [hi2₀, hb₀]; exact natMod (by omega)
  refine q₀ p₀ x₀ ((x₀ + 1 + b1₀.toNat) % n₀) _ ((g1₀.trans g2₀).new_of hp₀) ((g1₀.trans g2₀).step (Ex.new hp₀)) (d2₀.ex (Ex.new hp₀)) (by rw [upd_same, hi3₀]) (by omega) (Nat.mod_lt _ (by omega)) ?_
  intro z₀
  by_cases h₀ : x₀ + 1 + b1₀.toNat < n₀
  · rw [Nat.mod_eq_of_lt h₀] at z₀; omega
  · rw [Nat.mod_eq_sub_mod (by omega), Nat.mod_eq_of_lt (by omega)] at z₀; omega
/-! ints, fraction, same -/
abbrev spInts : Sp := spF (fun t : List Int × Int => al2 (rT rInt) t.1 rInt t.2) (fun t => t.1.length ≤ 1000) (fun t v H => rBl.r H v (decide ((t.1.length : Int) = t.2)))
theorem ok_ints {g : W5} (D : DefOf g "_law_ints" sInts) (T : TX g) (FI : FnB g CX0 1 "_law_int" ["_law_value"] [] spIsInt) : FnB g CX0 2 "_law_ints" ["_law_value", "_law_size"] [] spInts := by
  refine def_ok D sIntsS (by decide +kernel) len2 (fun _ _ _ _ _ _ us hl => match us, hl with | [_, _], _ => rfl) fun f cdv A outer s H vs Q E cx ⟨⟨l, n⟩, Hb, e, h0, hz, q⟩ => ?_
  obtain ⟨v, u, rfl, hv, hu⟩ := AL.two h0
  obtain rfl : u = .int n := hu
  dsimp only at hv hz q
  have k1 : kitB "tuple" "tuple" = some true := by decide +kernel
  refine s_cons (s_if (tW (wor (tnot (tv (isi T.isinstance (tyT (nm 0 (h := hv))) (tyv T.tuple bt_tuple) k1))) fun _ => wor1 (tne (len T.len (nm 0 (h := hv))) (nm 1 (h := rfl))))) e (fun ht Hk H2 g1 => ?_) fun ht Hk H2 g1 => s_nil ?_)
  · refine s_one (s_ret (cB (n := false)) (e.trans g1.ex) fun v Hk H3 g2 hv => ?_)
    have ht : ¬ ((l.length : Nat) : Int) = n := by simpa using ht
    refine q v _ H3 ((Go.ofEx e g1.ex).trans (g2)) ?_
    rw [decide_eq_false ht]; exact hv
  · have ht : ((l.length : Nat) : Int) = n := by simpa using ht
    have hv' : (rT rInt).r Hb v (tab l.length fun i => l.getD i 0) := by
      have : l = tab l.length fun i => l.getD i 0 := tab_of rfl fun i hi => by simp [hi]
      rw [← this]; exact hv
    refine s_one (s_ret (EV.is (allB T.all (lc [("_law_one", 2)] (iT (nm 0 (h := hv'))) (fun _ => true) (by omega) fun i x Hk H hi e1 e2 hx => gn 2 ⟨rfl, rfl, lInt FI (nm 2 (h := hx))⟩)) (show _ = true by simp [tab])) (e.trans g1.ex) fun w Hk H3 g2 hw => ?_)
    refine q w _ H3 ((Go.ofEx e g1.ex).trans g2) ?_
    rw [decide_eq_true ht]; exact hw
theorem rP_rT {H : Hp} {v : V} {a b : Int} (h : (rP rInt rInt).r H v (a, b)) : (rT rInt).r H v [a, b] := by
  obtain ⟨p, x, y, e, b, r1, r2⟩ := h
  exact ⟨p, _, e, b, .cons r1 (.cons r2 .nil)⟩
abbrev spFraction : Sp := spF (fun t : Int × Int => al1 (rP rInt rInt) t) (fun t => True) (fun t v H => rBl.r H v (decide (1 ≤ t.2)))
theorem ok_lfraction {g : W5} (D : DefOf g "_law_fraction" sFraction) (T : TX g) (FI : FnB g CX0 2 "_law_ints" ["_law_value", "_law_size"] [] spInts) : FnB g CX0 3 "_law_fraction" ["_law_value"] [] spFraction := by
  refine def_ok D sFractionS (by decide +kernel) len1 (fun _ _ _ _ _ _ us hl => match us, hl with | [_], _ => rfl) fun f cdv A outer s H vs Q E cx ⟨⟨a, b⟩, Hb, e, h0, _, q⟩ => ?_
  obtain ⟨v, rfl, hv⟩ := AL.one h0
  dsimp only at hv q
  exact s_one (s_ret (EV.is (vand (call FI ([a, b], 2) (ac (nm 0 (R := rT rInt) (a := [a, b]) (h := rP_rT hv)) (ac cI a0)) rfl (by show 2 ≤ 1000; decide)) fun _ => vone (ge (pr1 (nm 0 (h := hv))) (cI (n := 1)))) (by simp)) e q)
abbrev spSame : Sp := spF (fun t : (Int × Int) × Int × Int => al3 (rP rInt rInt) t.1 rInt t.2.1 rInt t.2.2) (fun t => 1 ≤ t.1.2 ∧ 0 < t.2.2 ∧ Bd t.1.1 ∧ Bd t.1.2 ∧ Bd t.2.1 ∧ Bd t.2.2) (fun t v H => rBl.r H v (decide (t.1.1 * t.2.2 = t.1.2 * t.2.1)))
theorem len3 {α β γ τ : Type} {R : τ → Rep α} {a : τ → α} {S : τ → Rep β} {b : τ → β} {U : τ → Rep γ} {c : τ → γ} {pre : τ → Prop} {post : τ → V → Hp → Prop} : ∀ vs H Q E, spF (fun t => al3 (R t) (a t) (S t) (b t) (U t) (c t)) pre post vs H Q E → vs.length = 3 := len_of fun t H vs h => by obtain ⟨v, u, w, rfl, _⟩ := AL.three h; rfl
theorem ok_same {g : W5} (D : DefOf g "_law_same" sSame) (T : TX g) (FF : FnB g CX0 3 "_law_fraction" ["_law_value"] [] spFraction) : FnB g CX0 4 "_law_same" ["_law_value", "_law_over", "_law_under"] [] spSame := by
  refine def_ok D sSameS (by decide +kernel) len3 (fun _ _ _ _ _ _ us hl => match us, hl with | [_, _, _], _ => rfl) fun f cdv A outer s H vs Q E cx ⟨⟨⟨a, b⟩, o, un⟩, Hb, e, h0, ⟨hb, hun, b1, b2, b3, b4⟩, q⟩ => ?_
  obtain ⟨v, u, w, rfl, hv, hu, hw⟩ := AL.three h0
  dsimp only at hv hu hw hb hun b1 b2 b3 b4 q
  obtain rfl : u = .int o := hu
  obtain rfl : w = .int un := hw
  refine s_cons (s_if (ET.is (t' := false) (tW (wor (tnot (tv (EV.is (a' := true) (call FF (a, b) (ac (nm 0 (h := hv)) a0) rfl trivial) (decide_eq_true hb)))) fun _ => wor1 (teq (nm 2 (h := rfl)) cI))) (by simp; omega)) e (fun h => nomatch h) fun _ Hk H2 g1 => s_nil ?_)
  refine s_cons (s_if (ET.is (t' := false) (tlt (nm 2 (h := rfl)) cI) (by simp; omega)) (e.trans g1.ex) (fun h => nomatch h) fun _ Hk H3 g2 => s_nil ?_)
  refine s_one (s_ret (eqI (mulB (pr0 (nm 0 (h := hv))) (nm 2 (h := rfl)) b1 b4) (mulB (pr1 (nm 0 (h := hv))) (nm 1 (h := rfl)) b2 b3)) (e.trans (g1.ex.trans g2.ex)) fun z Hk H4 g3 hz => ?_)
  exact q z _ H4 ((Go.ofEx e (g1.ex.trans g2.ex)).trans g3) hz
end K
/-! K6: Euclid, the shares of a chain. -/
namespace K
open PySem.Spec PySem PyProof.Rows L2 Z M
theorem tab_sum {n : Nat} {g : Nat → Int} : (tab n g).sum = sm n g := by
  induction n with
  | zero => rfl
  | succ n ih => rw [tab_succ, List.sum_append, ih]; simp [sm]
theorem tab_take {α : Type} {n m : Nat} {g : Nat → α} (h : m ≤ n) : (tab n g).take m = tab m g := tab_of (by simp; omega) fun i hi => by
  rw [List.getElem?_take, if_pos hi, tab_get (by omega)]
theorem tab_self (l : List Int) : l = tab l.length fun i => l.getD i 0 := tab_of rfl fun i hi => by simp [hi]
section
variable {ι : Type} {X : ι → Cx} {g : W5} {N : List Str} {k : Nat} {σ : L2.St} {Hb : Hp} {e e1 e2 : Expr} {pos : Pos} {l m : List Int}
/-- a new list of ints by + -/
theorem catN (h1 : EV X e1 σ Hb (rL rInt) l) (h2 : EV X e2 σ Hb (rL rInt) m) (hz : l.length + m.length ≤ 100000) : EN X (.BinOp e1 .Add e2 pos) σ Hb (l ++ m) := fun H1 c1 Q q =>
  ⟨_, fun i => pe_op op_cat (wE_ok i) (wE_ok i), seq2 (Ψ := fun _ _ _ => True) (E := fun _ _ _ _ => True) h1 h2 c1 fun v u Hk H2 g1 ⟨p, xs, e1, b1, r1⟩ ⟨p2, ys, e2, b2, r2⟩ => by
    have z1 := P2.ints r1
    have z2 := P2.ints r2
    subst z1 z2
    exact ⟨p, p2, _, _, e1, e2, g1.on _ _ b1, g1.on _ _ b2, by simp only [List.length_map]; exact Nat.le_trans hz (by decide), fun d hd => q d _ (g1.ex.none hd) (g1.ex.trans (Ex.new hd)) (by rw [upd_same, List.map_append])⟩⟩
theorem EN.ep (h : EN X e σ Hb l) : EP X e σ Hb fun v Hg => ∃ p, v = .ref p ∧ Hb p = none ∧ Hg p = some (.lst (l.map .int)) := fun H1 c1 Q q => h H1 c1 Q fun p H2 hp ex hq =>
  q _ _ H2 ((Go.ofEx c1 ex).fix hp hq (c1.none hp)) ⟨p, rfl, c1.none hp, upd_same⟩
end
theorem MxM.wr' {H0 Hk H : Hp} {p r : Addr} {as : List Addr} {n : Nat} {f : Mat} {o : HO} (m : MxM H0 Hk H p as n f) (h : r ∉ p :: as) : MxM H0 Hk (upd H r o) p as n f :=
  ⟨⟨m.len, m.nd, m.out, by rw [upd_ne (fun z => h (by rw [← z]; exact List.mem_cons_self ..))]; exact m.top, fun i a ha => by rw [upd_ne (fun z => h (by rw [← z]; exact List.mem_cons_of_mem _ (List.mem_of_getElem? ha)))]; exact m.row i a ha⟩, m.new, m.off⟩
/-! low_terms, gcd -/
abbrev spLow : Sp := spF (fun t : Int × Int => al1 (rP rInt rInt) t) (fun t => True) (fun t v H => rBl.r H v (decide (eu 400 (if t.1 < 0 then -t.1 else t.1) t.2 = 1)))
theorem ok_low {g : W5} (D : DefOf g "_law_low_terms" sLowTerms) (T : TX g) : FnB g CX0 1 "_law_low_terms" ["_law_value"] [] spLow := by
  refine def_ok D sLowTermsS (by decide +kernel) len1 (fun _ _ _ _ _ _ us hl => match us, hl with | [_], _ => rfl) fun f cdv A outer s H vs Q E cx ⟨⟨a, b⟩, Hb, e, h0, _, q⟩ => ?_
  obtain ⟨v, rfl, hv⟩ := AL.one h0
  dsimp only at hv q
  refine s_cons (s_set 1 (abs1 T.abs (pr0 (nm 0 (h := hv)))) e fun w Hk H1 g1 hw => ?_)
  obtain rfl : w = .int (if a < 0 then -a else a) := hw
  generalize (if a < 0 then -a else a) = a' at *
  have e1 := e.trans g1.ex
  refine s_cons (s_set 2 (pr1 (nm 0 (h := hv))) e1 fun w Hk H2 g2 hw => ?_)
  obtain rfl : w = .int b := hw
  have E2 := g1.ex.trans g2.ex
  show wSs _ _ _ [some v, some (.int a'), some (.int b), none, none] H2
  refine s_cons (s_forR (n := 400) T.range 3 (cI (n := 400)) (e.trans E2) (by decide) (fun i σ H' => ∃ (x y : Int) (o3 o4 : Option V), σ = [some v, some (.int x), some (.int y), o3, o4] ∧ Ex H H' ∧ ∃ j, i + j = 400 ∧ eu j x y = eu 400 a' b)
    (fun Hk H3 g3 => ⟨a', b, none, none, rfl, E2.trans g3.ex, 400, rfl, rfl⟩) (fun i σ' H' hi hI => ?_) fun σ' H' hI => ?_)
  · obtain ⟨x, y, o3, o4, rfl, ex, j, hj, he⟩ := hI
    show wSs _ _ _ [some v, some (.int x), some (.int y), some (.int (i : Int)), o4] H'
    obtain ⟨j, rfl⟩ : ∃ j', j = j' + 1 := ⟨j - 1, by omega⟩
    refine s_one (s_if (tgt (nm 2 (h := rfl)) cI) (e.trans ex) (fun ht Hk H3 g3 => ?_) fun ht Hk H3 g3 => s_nil ⟨x, y, _, _, rfl, ex.trans g3.ex, j, by omega, ?_⟩)
    · have hy : 0 < y := of_decide_eq_true ht
      have ex := ex.trans g3.ex
      refine s_cons (s_set 4 (md (int1 T.int (nm 1 (h := rfl))) (nm 2 (h := rfl)) hy) (e.trans ex) fun w Hk H4 g4 hw => ?_)
      obtain rfl : w = .int (x % y) := hw
      have ex := ex.trans g4.ex
      refine s_cons (s_set 1 (nm 2 (R := rInt) (a := y) (h := rfl)) (e.trans ex) fun w Hk H5 g5 hw => ?_)
      obtain rfl : w = .int y := hw
      have ex := ex.trans g5.ex
      refine s_one (s_set 2 (nm 4 (R := rInt) (a := x % y) (h := rfl)) (e.trans ex) fun w Hk H6 g6 hw => ?_)
      obtain rfl : w = .int (x % y) := hw
      refine ⟨y, x % y, _, _, rfl, ex.trans g6.ex, j, by omega, ?_⟩
      rw [← he]; show _ = (if 0 < y then _ else _); rw [if_pos hy]
    · have hy : ¬ 0 < y := of_decide_eq_false ht
      rw [← he]; show _ = (if 0 < y then _ else _); rw [if_neg hy]
  · obtain ⟨x, y, o3, o4, rfl, ex, j, hj, he⟩ := hI
    obtain rfl : j = 0 := by omega
    have he : x = eu 400 a' b := he
    refine s_one (s_ret (eqI (nm 1 (h := rfl)) (cI (n := 1))) (e.trans ex) fun w Hk H3 g3 hw => ?_)
    exact q w _ H3 ((Go.ofEx e ex).trans g3) (by rw [← he]; exact hw)
abbrev spGcd : Sp := spF (fun t : Int × Int => al2 rInt t.1 rInt t.2) (fun t => True) (fun t v H => rInt.r H v (eu 400 t.1 t.2))
theorem ok_lotGcd {g : W5} (D : DefOf g "_law_lot_gcd" sLotGcd) (T : TX g) : FnB g CX0 1 "_law_lot_gcd" ["_law_one", "_law_other"] [] spGcd := by
  refine def_ok D sLotGcdS (by decide +kernel) len2 (fun _ _ _ _ _ _ us hl => match us, hl with | [_, _], _ => rfl) fun f cdv A outer s H vs Q E cx ⟨⟨a, b⟩, Hb, e, h0, _, q⟩ => ?_
  obtain ⟨v, u, rfl, hv, hu⟩ := AL.two h0
  dsimp only at hv hu q
  obtain rfl : v = .int a := hv
  obtain rfl : u = .int b := hu
  refine s_cons (s_forR (n := 400) T.range 2 (cI (n := 400)) e (by decide) (fun i σ H' => ∃ (x y : Int) (o3 o4 : Option V), σ = [some (.int x), some (.int y), o3, o4] ∧ Ex H H' ∧ ∃ j, i + j = 400 ∧ eu j x y = eu 400 a b)
    (fun Hk H3 g3 => ⟨a, b, none, none, rfl, g3.ex, 400, rfl, rfl⟩) (fun i σ' H' hi hI => ?_) fun σ' H' hI => ?_)
  · obtain ⟨x, y, o3, o4, rfl, ex, j, hj, he⟩ := hI
    show wSs _ _ _ [some (.int x), some (.int y), some (.int (i : Int)), o4] H'
    obtain ⟨j, rfl⟩ : ∃ j', j = j' + 1 := ⟨j - 1, by omega⟩
    refine s_one (s_if (tgt (nm 1 (h := rfl)) cI) (e.trans ex) (fun ht Hk H3 g3 => ?_) fun ht Hk H3 g3 => s_nil ⟨x, y, _, _, rfl, ex.trans g3.ex, j, by omega, ?_⟩)
    · have hy : 0 < y := of_decide_eq_true ht
      have ex := ex.trans g3.ex
      refine s_cons (s_set 3 (md (int1 T.int (nm 0 (h := rfl))) (nm 1 (h := rfl)) hy) (e.trans ex) fun w Hk H4 g4 hw => ?_)
      obtain rfl : w = .int (x % y) := hw
      have ex := ex.trans g4.ex
      refine s_cons (s_set 0 (nm 1 (R := rInt) (a := y) (h := rfl)) (e.trans ex) fun w Hk H5 g5 hw => ?_)
      obtain rfl : w = .int y := hw
      have ex := ex.trans g5.ex
      refine s_one (s_set 1 (nm 3 (R := rInt) (a := x % y) (h := rfl)) (e.trans ex) fun w Hk H6 g6 hw => ?_)
      obtain rfl : w = .int (x % y) := hw
      refine ⟨y, x % y, _, _, rfl, ex.trans g6.ex, j, by omega, ?_⟩
      rw [← he]; show _ = (if 0 < y then _ else _); rw [if_pos hy]
    · have hy : ¬ 0 < y := of_decide_eq_false ht
      rw [← he]; show _ = (if 0 < y then _ else _); rw [if_neg hy]
  · obtain ⟨x, y, o3, o4, rfl, ex, j, hj, he⟩ := hI
    obtain rfl : j = 0 := by omega
    have he : x = eu 400 a b := he
    refine s_one (s_ret (nm 0 (R := rInt) (a := x) (h := rfl)) (e.trans ex) fun w Hk H3 g3 hw => ?_)
    exact q w _ H3 ((Go.ofEx e ex).trans g3) (by rw [← he]; exact hw)
/-! lowest -/
abbrev spLowest : Sp := spF (fun l : List Int => al1 (rL rInt) l) (fun l => l.length ≤ 100 ∧ ∀ x ∈ l, 0 ≤ x ∧ x ≤ 10 ^ 300) (fun l v H => (rL rInt).r H v (lowest l))
theorem ok_lowest {g : W5} (D : DefOf g "_law_lot_lowest" sLotLowest) (T : TX g) (FG : FnB g CX0 1 "_law_lot_gcd" ["_law_one", "_law_other"] [] spGcd) : FnB g CX0 2 "_law_lot_lowest" ["_law_sums"] [] spLowest := by
  refine def_ok D sLotLowestS (by decide +kernel) len1 (fun _ _ _ _ _ _ us hl => match us, hl with | [_], _ => rfl) fun f cdv A outer s H vs Q E cx ⟨l, Hb, e, h0, ⟨hz, hl⟩, q⟩ => ?_
  obtain ⟨v, rfl, hv⟩ := AL.one h0
  have hv' : (rL rInt).r Hb v (tab l.length fun i => l.getD i 0) := tab_self l ▸ hv
  refine s_cons (s_set 1 (cI (n := 0)) e fun w Hk H1 g1 hw => ?_)
  obtain rfl : w = .int 0 := hw
  refine s_cons (s_forB (iL (nm 0 (h := hv'))) (e.trans g1.ex) (fun i σ Hk H' => ∃ o2 : Option V, σ = [some v, some (.int (euAll (l.take i))), o2] ∧ Go no Hb H Hk H') ⟨none, rfl, Go.ofEx e g1.ex⟩ (fun i σ' Hk Hm H1 H2 ⟨o2, hσ, G⟩ g2 => ⟨o2, hσ, G.trans g2⟩) (fun i σ' Hk H' ⟨o2, hσ, G⟩ => G.on) (fun i σ' Hk H' x hi ebk hI hx => gn 2 ?_) fun σ' Hk H' ebk hI => ?_)
  · obtain ⟨o2, rfl, G⟩ := hI
    obtain ⟨H0, e0, hx⟩ := hx
    obtain rfl : x = .int l[i] := by have : x = .int (l.getD i 0) := hx; rw [this]; simp [hi]
    show wSs _ _ _ [some v, some (.int (euAll (l.take i))), some (.int l[i])] H'
    refine s_one (s_set 1 (call FG (l[i], euAll (l.take i)) (ac (nm 2 (h := rfl)) (ac (nm 1 (h := rfl)) a0)) rfl trivial) G.on fun w Hm H2 g2 hw => ?_)
    obtain rfl : w = .int (eu 400 l[i] (euAll (l.take i))) := hw
    refine ⟨Hm, g2.base, some (.int l[i]), ?_, G.trans g2⟩
    show [some v, some (V.int (eu 400 l[i] (euAll (l.take i)))), some (V.int l[i])] = _
    rw [show euAll (l.take (i + 1)) = eu 400 l[i] (euAll (l.take i)) by unfold euAll; rw [← List.take_append_getElem hi, List.foldl_append]; rfl]
  · obtain ⟨o2, rfl, G⟩ := hI
    rw [List.take_length] 
    have hb : 0 ≤ euAll l ∧ euAll l ≤ 10 ^ 300 := euAll_bdd l 0 (Int.le_refl _) (by decide +kernel) hl
    refine s_one (s_ret (lc [("_law_one", 2)] (iL (nm 0 (h := (rL rInt).up ebk hv'))) (fun i => l.getD i 0 / (if euAll l > 1 then euAll l else 1)) (by omega) fun i x Hk H1 hi e1 e2 hx => gn 2 ⟨rfl, rfl, dvB (nm 2 (h := hx)) (max2 T.max (cI (n := 1)) (nm 1 (h := rfl))) (by split <;> omega) (Bd.of (by split <;> omega) (by split <;> first | exact hb.2 | decide +kernel))⟩) G.on fun w Hm H2 g2 hw => ?_)
    refine q w Hm H2 (G.trans g2) ?_
    have : lowest l = tab l.length fun i => l.getD i 0 / (if euAll l > 1 then euAll l else 1) := by
      unfold lowest
      exact tab_of (by simp) fun i hi => by simp [hi]
    show (rL rInt).r Hm w (lowest l)
    rw [this]; exact hw
/-! shares -/
abbrev spShares : Sp := spF (fun t : Nat × Mat => al1 (rL (rL rInt)) (mat t.1 t.2)) (fun t => 2 ≤ t.1 ∧ t.1 ≤ 5 ∧ GridOk t.1 t.2) (fun t v H => (rL rInt).r H v (lowest (tab t.1 (shr t.1 t.2 (t.1 - 1)))))
theorem bd3 {i : Int} (h0 : 0 ≤ i) (h : i ≤ Bk 3) : Bd i := Bd.of (Int.le_trans (by decide +kernel) h0) (Int.le_trans h (by decide +kernel))
theorem pow_mono {B : Int} (hB : 1 ≤ B) : ∀ {m k : Nat}, m ≤ k → B ^ m ≤ B ^ k
  | m, k, h => by
    induction h with
    | refl => exact Int.le_refl _
    | step _ ih =>
      rename_i k _
      rw [Int.pow_succ]
      have h0 : (0 : Int) ≤ B ^ k := Int.pow_nonneg (by omega)
      have : B ^ k * 1 ≤ B ^ k * B := Int.mul_le_mul_of_nonneg_left hB h0
      omega
theorem shr_big {n m x : Nat} {f : Mat} (hn : n ≤ 5) (h : GridOk n f) (hm : m < n) (hx : x ≤ m) : 0 ≤ shr n f m x ∧ shr n f m x ≤ 10 ^ 300 := by
  have := shr_bdd hn h m hm x hx
  refine ⟨this.1, Int.le_trans this.2 (Int.le_trans (pow_mono (by decide +kernel) (show m ≤ 4 by omega)) (by decide +kernel))⟩
theorem ok_shares {g : W5} (D : DefOf g "_law_lot_shares" sLotShares) (T : TX g) (FC : FnB g CX0 1 "_law_copy" ["_law_grid"] [] spCopy) (FL : FnB g CX0 2 "_law_lot_lowest" ["_law_sums"] [] spLowest) : FnB g CX0 3 "_law_lot_shares" ["_law_grid"] [] spShares := by
  refine def_ok D sLotSharesS (by decide +kernel) len1 (fun _ _ _ _ _ _ us hl => match us, hl with | [_], _ => rfl) fun f0 cdv A outer s H vs Q E cx ⟨⟨n, f⟩, Hb, e, h0, ⟨hn2, hn5, hf⟩, q⟩ => ?_
  obtain ⟨v, rfl, hv⟩ := AL.one h0
  dsimp only at hv hn2 hn5 hf q
  refine s_cons (s_setM 1 (callM FC (n, f) (ac (nm 0 (h := hv)) a0) rfl (by show n ≤ 1000; omega)) e fun p as H1 hfr e1 m => ?_)
  obtain ⟨G, Mm⟩ := (Go.refl (S := no) e).ownM e1 hfr m
  refine s_cons (s_nilL 2 fun kp hkp => ?_)
  obtain ⟨G, Km⟩ := G.own hkp (o := .lst [])
  have hkn : kp ∉ p :: as := fun z => Mm.live kp z hkp
  have Mm := Mm.ex (Ex.new hkp (o := .lst []))
  refine s_cons (s_forR (n := n - 1) T.range 3 (EV.is (sub (len T.len (nm 0 (h := hv))) (cI (n := 1))) (show ((mat n f).length : Int) - 1 = ((n - 1 : Nat) : Int) by rw [tab_len]; omega)) G.on (by omega)
    (fun s σ H' => ∃ (Hk : Hp) (o3 o4 o5 o6 o7 : Option V) (ks : List V), σ = [some v, some (.ref p), some (.ref kp), o3, o4, o5, o6, o7, none, none, none, none] ∧ Go no Hb H Hk H' ∧ MxM H Hk H' p as n (WK n f s) ∧ Mu H Hk H' kp (.lst ks) ∧ P2 ((rL rInt).r Hk) ks (tab s fun t => lineOf n f (n - 1 - t)))
    (fun Hk H2 g2 => ⟨Hb, none, none, none, none, none, [], rfl, G.step g2.ex, Mm.ex g2.ex, Km.ex g2.ex, .nil⟩) (fun s σ' H' hs hI => ?_) fun σ' H' hI => ?_)
  · obtain ⟨Hk, o3, o4, o5, o6, o7, ks, rfl, G, Mm, Km, hks⟩ := hI
    show wSs _ _ _ [some v, some (.ref p), some (.ref kp), some (.int (s : Int)), o4, o5, o6, o7, none, none, none, none] H'
    obtain ⟨m, hm⟩ : ∃ m, m = n - 1 - s := ⟨_, rfl⟩
    have hmn : m < n := by omega
    have hm1 : 1 ≤ m := by omega
    have hW : WK n f s = Wm n f m := by unfold Wm; rw [show n - 1 - m = s by omega]
    have hb := Wm_bdd hn5 hf hmn hm1
    have hL := Lm_bdd hn5 hf hmn hm1
    have hLd : Lm n f m = sm m (Wm n f m m) := rfl
    -- last
    refine s_cons (s_set 4 (EV.is (a' := (m : Int)) (sub (sub (len T.len (nm 0 (h := (rL (rL rInt)).up (G.base.trans G.on) hv))) (cI (n := 1))) (nm 3 (h := rfl))) (by rw [tab_len]; omega)) (Ex.refl H') fun w Hg H2 g2 hw => ?_)
    obtain rfl : w = .int (m : Int) := hw
    have G := G.step g2.ex
    have Mm := Mm.ex g2.ex
    have Km := Km.ex g2.ex
    rw [hW] at Mm
    show wSs _ _ _ [some v, some (.ref p), some (.ref kp), some (.int (s : Int)), some (.int (m : Int)), o5, o6, o7, none, none, none, none] H2
    -- leaves
    refine s_cons (s_set 5 (EV.is (a' := Lm n f m) (sum T.sum (slT m (ixt (nm 1 (h := Mm.toMx.rep)) (nm 4 (h := rfl)) hmn) (nm 4 (h := rfl)) rfl)) (by rw [tab_take (by omega), tab_sum]; rfl)) (Ex.refl H2) fun w Hg H3 g3 hw => ?_)
    obtain rfl : w = .int (Lm n f m) := hw
    have G := G.step g3.ex
    have Mm := Mm.ex g3.ex
    have Km := Km.ex g3.ex
    show wSs _ _ _ [some v, some (.ref p), some (.ref kp), some (.int (s : Int)), some (.int (m : Int)), some (.int (Lm n f m)), o6, o7, none, none, none, none] H3
    -- kept.append
    refine s_cons (s_app (j := 2) (EN.ep (catN (l := [Lm n f m]) (m := tab m fun x => Wm n f m x m) (dL (ac (nm 5 (R := rInt) (a := Lm n f m) (h := rfl)) a0) (fun H vs h => by obtain ⟨v, rfl, r⟩ := AL.one h; exact .cons r .nil) (by show 1 ≤ 1000; decide))
      (lc [("_law_x", 6)] (iR T.range (nm 4 (h := rfl)) (by omega)) _ (by omega) fun x vx Hc H4 hx ec ed hvx => gn 6 ⟨rfl, rfl, ixt (ixt (nm 1 (h := (rL (rL rInt)).up ec Mm.toMx.rep)) (nm 6 (h := hvx)) (by omega)) (nm 4 (h := rfl)) hmn⟩) (by simp; omega))) (Ex.refl H3) Km.at_ (by rw [hks.len, tab_len]; omega) fun w Hg H4 g4 hw h4 => ?_)
    obtain ⟨r, rfl, hr3, hrg⟩ := hw
    have gq : Go no Hk H3 (upd Hk r (.lst ((lineOf n f m).map .int))) H4 := (Go.ofEx G.on g4.ex).fix hr3 (by
      have := g4.on _ _ hrg
      rw [this]; rfl) (G.on.none hr3)
    generalize hHm : upd Hk r (.lst ((lineOf n f m).map .int)) = Hm at gq
    have hrep : (rL rInt).r Hm (.ref r) (lineOf n f m) := rInt.mkL (by rw [← hHm, upd_same])
    have Mm := K.MxM.wr' (o := .lst (ks ++ [.ref r])) (Mm.go0 gq) hkn
    have G := (G.trans gq).mu (Km.go0 gq) (o' := .lst (ks ++ [.ref r]))
    have Km := (Km.go0 gq).wr (o' := .lst (ks ++ [.ref r]))
    have hks : P2 ((rL rInt).r Hm) (ks ++ [.ref r]) (tab (s + 1) fun t => lineOf n f (n - 1 - t)) := by
      rw [tab_succ, ← hm]
      exact (hks.imp fun _ _ => (rL rInt).up gq.base).snoc hrep
    show wSs _ _ _ [some v, some (.ref p), some (.ref kp), some (.int (s : Int)), some (.int (m : Int)), some (.int (Lm n f m)), o6, o7, none, none, none, none] _
    -- the two loops
    refine s_one (s_forR (n := m) T.range 6 (nm 4 (h := rfl)) G.on (by omega)
      (fun x σ H' => ∃ (o6 o7 : Option V), σ = [some v, some (.ref p), some (.ref kp), some (.int (s : Int)), some (.int (m : Int)), some (.int (Lm n f m)), o6, o7, none, none, none, none] ∧ Go no Hb H Hm H' ∧ MxM H Hm H' p as n (part m (Wm n f m) x 0) ∧ Mu H Hm H' kp (.lst (ks ++ [.ref r])))
      (fun Hg H5 g5 => ⟨_, _, rfl, G.step g5.ex, by rw [part_zero]; exact Mm.ex g5.ex, Km.ex g5.ex⟩) (fun x σ' H' hx hI => ?_) fun σ' H' hI => ?_)
    · obtain ⟨o6, o7, rfl, G, Mm, Km⟩ := hI
      show wSs _ _ _ [some v, some (.ref p), some (.ref kp), some (.int (s : Int)), some (.int (m : Int)), some (.int (Lm n f m)), some (.int (x : Int)), o7, none, none, none, none] _
      refine s_one (s_forR (n := m) T.range 7 (nm 4 (h := rfl)) G.on (by omega)
        (fun y σ H' => ∃ (o7 : Option V), σ = [some v, some (.ref p), some (.ref kp), some (.int (s : Int)), some (.int (m : Int)), some (.int (Lm n f m)), some (.int (x : Int)), o7, none, none, none, none] ∧ Go no Hb H Hm H' ∧ MxM H Hm H' p as n (part m (Wm n f m) x y) ∧ Mu H Hm H' kp (.lst (ks ++ [.ref r])))
        (fun Hg H5 g5 => ⟨_, rfl, G.step g5.ex, Mm.ex g5.ex, Km.ex g5.ex⟩) (fun y σ' H' hy hI => ?_) fun σ' H' hI => ?_)
      · obtain ⟨o7, rfl, G, Mm, Km⟩ := hI
        show wSs _ _ _ [some v, some (.ref p), some (.ref kp), some (.int (s : Int)), some (.int (m : Int)), some (.int (Lm n f m)), some (.int (x : Int)), some (.int (y : Int)), none, none, none, none] _
        refine s_one (s_if (tne (nm 7 (h := rfl)) (nm 6 (h := rfl))) (Ex.refl H') (fun ht Hg H5 g5 => ?_) fun ht Hg H5 g5 => s_nil ⟨_, rfl, G.step g5.ex, ?_, Km.ex g5.ex⟩)
        · have hyx : y ≠ x := by have := of_decide_eq_true ht; omega
          have G := G.step g5.ex
          have Mm := Mm.ex g5.ex
          have Km := Km.ex g5.ex
          have c1 := hb.le x y (by omega) (by omega)
          have c2 := hb.le x m (by omega) (by omega)
          have c3 := hb.le m y (by omega) (by omega)
          have d1 := hb.nn x y (by omega) (by omega)
          have d2 := hb.nn x m (by omega) (by omega)
          have d3 := hb.nn m y (by omega) (by omega)
          refine s_one (s_asg (EV.is (a' := Wm n f m x y * sm m (Wm n f m m) + Wm n f m x m * Wm n f m m y)
            (add (mulB (EV.is (a' := Wm n f m x y) (ixt (ixt (nm 1 (h := Mm.toMx.rep)) (nm 6 (h := rfl)) (by omega)) (nm 7 (h := rfl)) (by omega)) (part_at _ _ _ _ _ (Nat.le_refl _))) (nm 5 (h := rfl)) (bd3 d1 c1) (Bd.of (Int.le_trans (by decide +kernel) hL.1) (Int.le_trans hL.2 (by decide +kernel))))
              (mulB (EV.is (a' := Wm n f m x m) (ixt (ixt (nm 1 (h := Mm.toMx.rep)) (nm 6 (h := rfl)) (by omega)) (nm 4 (h := rfl)) (by omega)) (part_at _ _ _ _ _ (by omega))) (EV.is (a' := Wm n f m m y) (ixt (ixt (nm 1 (h := Mm.toMx.rep)) (nm 4 (h := rfl)) (by omega)) (nm 7 (h := rfl)) (by omega)) (part_last _ _ _ _ _ hx)) (bd3 d2 c2) (bd3 d3 c3)))
            (by rw [hLd])) (Ex.refl H5) fun w Hg H6 g6 hw => ?_)
          obtain rfl : w = .int _ := hw
          refine gM (j := 1) x y (Mm.ex g6.ex).toMx (nm 6 (h := rfl)) (nm 7 (h := rfl)) rfl rfl (by omega) (by omega) fun H7 H8 rr e7 hr ho m8 => ?_
          obtain ⟨oo, ho'⟩ := ho
          have hkr : kp ≠ rr := fun z => hkn (by rw [z]; exact List.mem_cons_of_mem _ hr)
          obtain ⟨G, Mm⟩ := storedN (G.step g6.ex) (Mm.ex g6.ex) e7 hr ⟨oo, ho'⟩ m8
          rw [part_step m (Wm n f m) x y hx hy hyx] at Mm
          refine ⟨_, rfl, G, Mm, ?_⟩
          subst ho'
          exact ((Km.ex g6.ex).ex e7).wr' hkr
        · have hyx : y = x := by have := of_decide_eq_false ht; omega
          subst hyx
          rw [part_skip]; exact Mm.ex g5.ex
      · obtain ⟨o7, rfl, G, Mm, Km⟩ := hI
        rw [part_row] at Mm
        exact ⟨_, _, rfl, G, Mm, Km⟩
    · obtain ⟨o6, o7, rfl, G, Mm, Km⟩ := hI
      refine ⟨Hm, _, _, _, _, _, _, rfl, G, ?_, Km, hks⟩
      rw [part_end] at Mm
      show MxM H Hm H' p as n (elim (n - 1 - s) (WK n f s))
      rw [hW, ← hm]; exact Mm
  · obtain ⟨Hk, o3, o4, o5, o6, o7, ks, rfl, G, Mm, Km, hks⟩ := hI
    have G2 := G.fixm Km
    have hkr : (rL (rL rInt)).r (upd Hk kp (.lst ks)) (.ref kp) (tab (n - 1) fun t => lineOf n f (n - 1 - t)) := ⟨kp, ks, rfl, upd_same, hks.imp fun _ _ => (rL rInt).up (Ex.new Km.off)⟩
    have ebk : Ex Hb (upd Hk kp (.lst ks)) := G.base.trans (Ex.new Km.off)
    generalize upd Hk kp (.lst ks) = Hm at G2 hkr ebk
    -- row = [1]
    refine s_cons (s_set 8 (dL (R := rInt) (l := [1]) (ac (cI (n := 1)) a0) (fun H vs h => by obtain ⟨v, rfl, r⟩ := AL.one h; exact .cons r .nil)) G2.on fun w Hg H2 g2 hw => ?_)
    have G2 := G2.trans g2
    refine s_cons (s_forR (n := n - 1) T.range 3 (EV.is (len T.len (nm 2 (h := (rL (rL rInt)).up g2.base hkr))) (by rw [tab_len])) G2.on (by omega)
      (fun s σ H' => ∃ (Hk : Hp) (o3 o4 o5 o6 o7 o9 o10 o11 : Option V) (w : V), σ = [some v, some (.ref p), some (.ref kp), o3, o4, o5, o6, o7, some w, o9, o10, o11] ∧ Go no Hb H Hk H' ∧ (rL (rL rInt)).r Hk (.ref kp) (tab (n - 1) fun t => lineOf n f (n - 1 - t)) ∧ (rL rInt).r Hk w (tab (s + 1) (shr n f s)))
      (fun Hk H3 g3 => ⟨Hk, _, _, _, _, _, none, none, none, w, rfl, G2.trans g3, (rL (rL rInt)).up (g2.base.trans g3.base) hkr, (rL rInt).up g3.base hw⟩) (fun s σ' H' hs hI => ?_) fun σ' H' hI => ?_)
    · obtain ⟨Hk, o3, o4, o5, o6, o7, o9, o10, o11, w, rfl, G, hkr, hw⟩ := hI
      show wSs _ _ _ [some v, some (.ref p), some (.ref kp), some (.int (s : Int)), o4, o5, o6, o7, some w, o9, o10, o11] H'
      have hm1 : 1 ≤ s + 1 := by omega
      have hmn : s + 1 < n := by omega
      have hb := Wm_bdd hn5 hf hmn hm1
      have hL := Lm_bdd hn5 hf hmn hm1
      -- line
      refine s_cons (s_set 9 (ix (n - 2 - s) (nm 2 (h := hkr)) (sub (sub (len T.len (nm 2 (h := hkr))) (cI (n := 1))) (nm 3 (h := rfl))) (by rw [tab_len]; omega) (tab_get (show n - 2 - s < n - 1 by omega))) G.on fun lv Hg H2 g2 hlv => ?_)
      rw [show n - 1 - (n - 2 - s) = s + 1 by omega] at hlv
      have G := G.trans g2
      have hw := (rL rInt).up g2.base hw
      have hkr := (rL (rL rInt)).up g2.base hkr
      show wSs _ _ _ [some v, some (.ref p), some (.ref kp), some (.int (s : Int)), o4, o5, o6, o7, some w, some lv, o10, o11] H2
      -- more
      refine s_cons (s_set 10 (EV.is (a' := sm (s + 1) fun y => shr n f s y * Wm n f (s + 1) y (s + 1)) (sum T.sum (lc [("_law_x", 6)] (n := s + 1) (iR T.range (EV.is (len T.len (nm 8 (h := hw))) (by rw [tab_len])) (by omega)) (fun y => shr n f s y * Wm n f (s + 1) y (s + 1)) (by omega) fun x vx Hc H4 hx ec ed hvx => gn 6 ⟨rfl, rfl,
        mulB (ixt (nm 8 (h := (rL rInt).up ec hw)) (nm 6 (h := hvx)) hx) (ix (x + 1) (nm 9 (h := (rL rInt).up ec hlv)) (add (nm 6 (h := hvx)) (cI (n := 1))) (by omega) (by show (Lm n f (s + 1) :: _)[x + 1]? = _; rw [List.getElem?_cons_succ]; exact tab_get (f := fun x => Wm n f (s + 1) x (s + 1)) hx))
          (Bd.of (Int.le_trans (by decide +kernel) (shr_big hn5 hf (by omega) (by omega)).1) (shr_big hn5 hf (by omega) (by omega)).2) (bd3 (hb.nn _ _ (by omega) hmn) (hb.le _ _ (by omega) hmn))⟩)) tab_sum) G.on fun mv Hg H3 g3 hmv => ?_)
      obtain rfl : mv = .int _ := hmv
      have G := G.trans g3
      have hw := (rL rInt).up g3.base hw
      have hlv := (rL rInt).up g3.base hlv
      have hkr := (rL (rL rInt)).up g3.base hkr
      generalize hmo : sm (s + 1) (fun y => shr n f s y * Wm n f (s + 1) y (s + 1)) = mo at *
      show wSs _ _ _ [some v, some (.ref p), some (.ref kp), some (.int (s : Int)), o4, o5, o6, o7, some w, some lv, some (.int mo), o11] H3
      -- row
      refine s_one (s_set 8 (cat (lc [("_law_one", 11)] (iL (nm 8 (h := hw))) (fun x => shr n f s x * Lm n f (s + 1)) (by omega) fun x vx Hc H4 hx ec ed hvx => gn 11 ⟨rfl, rfl,
        mulB (nm 11 (h := hvx)) (ix 0 (nm 9 (h := (rL rInt).up ec hlv)) (cI (n := 0)) rfl (a := Lm n f (s + 1)) rfl) (Bd.of (Int.le_trans (by decide +kernel) (shr_big hn5 hf (by omega) (by omega)).1) (shr_big hn5 hf (by omega) (by omega)).2) (Bd.of (Int.le_trans (by decide +kernel) hL.1) (Int.le_trans hL.2 (by decide +kernel)))⟩)
        (dL (ac (nm 10 (R := rInt) (a := mo) (h := rfl)) a0) (l := [mo]) (fun H vs h => by obtain ⟨v, rfl, r⟩ := AL.one h; exact .cons r .nil) (by show 1 ≤ 1000; decide)) (by simp; omega)) G.on fun w2 Hg H4 g4 hw2 => ?_)
      refine ⟨Hg, _, _, _, _, _, _, _, _, w2, rfl, G.trans g4, (rL (rL rInt)).up g4.base hkr, ?_⟩
      have e2 : tab (s + 1 + 1) (shr n f (s + 1)) = (tab (s + 1) fun x => shr n f s x * Lm n f (s + 1)) ++ [mo] := by
        rw [tab_succ]
        congr 1
        · exact tab_congr fun x hx => by show (if x < s + 1 then _ else _) = _; rw [if_pos hx]
        · show [(if s + 1 < s + 1 then _ else _)] = _; rw [if_neg (by omega), hmo]
      rw [e2]; exact hw2
    · obtain ⟨Hk, o3, o4, o5, o6, o7, o9, o10, o11, w, rfl, G, hkr, hw⟩ := hI
      rw [show n - 1 + 1 = n by omega] at hw
      refine s_one (s_ret (call FL (tab n (shr n f (n - 1))) (ac (nm 8 (h := hw)) a0) rfl ⟨by rw [tab_len]; omega, fun x hx => by
        obtain ⟨i, hi, rfl⟩ := tab_mem.mp hx
        exact shr_big hn5 hf (by omega) (by omega)⟩) G.on fun w2 Hg H4 g4 hw2 => q w2 Hg H4 (G.trans g4) hw2)
end K
/-! K7: tables, chains. -/
namespace K
open PySem.Spec PySem PyProof.Rows L2 Z M
/-- a, b = a pair -/
theorem gpair {ι : Type} {X : ι → Cx} {g : W5} {N : List Str} {k : Nat} {α β : Type} {R : Rep α} {T : Rep β} {σ : L2.St} {Hk H : Hp} {a : α} {b : β} {v : V} {x y : Str} {p1 p2 pos : Pos} {kt : Nat} {P : L2.St → Hp → Prop} [c : CtxZ X g N k] (i j : Nat) (h : (rP R T).r Hk v (a, b)) (e : Ex Hk H)
    (q : ∀ u w, R.r Hk u a → T.r Hk w b → P ((σ.set i (some u)).set j (some w)) H) (hN : N[i]? = some x := by rfl) (hN2 : N[j]? = some y := by rfl) (hx : ∀ i, Loc (X i).env.scope x := by intro _; first | exact .inl rfl | exact .inr rfl) (hy : ∀ i, Loc (X i).env.scope y := by intro _; first | exact .inl rfl | exact .inr rfl)
    (hf : ∀ i, (X i).fn x = true ∨ (X i).env.scope.names.lookup x = some .local := by intro _; first | exact .inl rfl | exact .inr rfl) (hf2 : ∀ i, (X i).fn y = true ∨ (X i).env.scope.names.lookup y = some .local := by intro _; first | exact .inl rfl | exact .inr rfl)
    (h1 : ∀ i, (assignEach [.Name x p1, .Name y p2] (X i).env).map (·.2) = assign (.Name x p1) (X i).env :: (assignEach [.Name y p2] (X i).env).map (·.2) := by intro _; rfl) (h2 : ∀ i, (assignEach [.Name y p2] (X i).env).map (·.2) = assign (.Name y p2) (X i).env :: (assignEach [] (X i).env).map (·.2) := by intro _; rfl)
    (h3 : ∀ i, (assignEach [.Name x p1, .Name y p2] (X i).env).length = 2 := by intro _; rfl) (h4 : ∀ i, (assignEach [.Name x p1, .Name y p2] (X i).env).findIdx? (·.1) = none := by intro _; rfl) : wG X (.Tuple [.Name x p1, .Name y p2] kt pos) v σ H P := by
  obtain ⟨p, u, w, rfl, hp, ru, rw'⟩ := h
  exact gtu (e _ _ hp) (gsc (gn i (gsc (gn j (gs0 (q u w ru rw')) hN2 hy hf2) h2) hN hx hf) h1) h3 h4
structure TX2 (g : W5) : Prop where
  least : ∃ u, g.mg "LEAST_SIZE" = some u ∧ RelV (.int 2) u
  most : ∃ u, g.mg "MOST_SIZE" = some u ∧ RelV (.int 8) u
/-- a matrix of lists, or of tuples -/
def rM : Bool → Rep (List (List Int))
  | true => rL (rL rInt)
  | false => rT (rT rInt)
structure TabOk (n : Nat) (f : Mat) : Prop where
  lo : 2 ≤ n
  hi : n ≤ 8
  nn : ∀ a b, a < n → b < n → 0 ≤ f a b
  dg : ∀ a, a < n → f a a = 0
abbrev spRows : Sp := spF (fun t : Bool × Nat × Mat => al1 (rM t.1) (mat t.2.1 t.2.2)) (fun t => TabOk t.2.1 t.2.2) (fun t v H => (rT (rT rInt)).r H v (mat t.2.1 t.2.2))
theorem rows_L {g : W5} {f0 : Addr} {cdv : Value} {A : Around} {outer : List Env} {s : Shared} {H : Hp} {v : V} {Q : VK} {E : XK} {n : Nat} {f : Mat} {Hb : Hp} (T : TX g) (T2 : TX2 g) (FI : FnB g CX0 1 "is_int" ["thing"] [] spIsInt)
    (cx : CtxZ (u1 (cxOf CX0 g.P g.w g.K g.mg g.base pTableRowsN "table_rows" (defScope pTableRows) f0 cdv A outer s H E).nox) g pTableRowsN 1) (e : Ex Hb H) (hv : (rL (rL rInt)).r Hb v (mat n f)) (ok : TabOk n f)
    (q : ∀ v Hk H2, Go no Hb H Hk H2 → (rT (rT rInt)).r Hk v (mat n f) → Q v H2) :
    wSs (cxOf CX0 g.P g.w g.K g.mg g.base pTableRowsN "table_rows" (defScope pTableRows) f0 cdv A outer s H E).nox (defBody pTableRows) { nx := fun _ H' => Q .non H', rt := Q } (start pTableRowsN [v]) H := by
  have k1 : kitB "list" "list" = some true := by decide +kernel
  have k2 : kitB "list" "tuple" = some false := by decide +kernel
  have k3 : kitB "tuple" "list" = some false := by decide +kernel
  have k4 : kitB "tuple" "tuple" = some true := by decide +kernel
  obtain ⟨ul, hl, rl⟩ := T2.least
  obtain ⟨um, hm, rm⟩ := T2.most
  have lo := ok.lo
  have hi := ok.hi
  refine s_cons (s_if (ET.is (t' := false) (tW (wor (tnot (tv (isi2 T.isinstance (tyL (nm 0 (h := hv))) (tyv T.list bt_list) (tyv T.tuple bt_tuple) k1 k2))) fun _ => wor1 (tnot (tchLL (cV hl rl (R := rInt) (a := 2) rfl) (len T.len (nm 0 (h := hv))) fun _ => cV hm rm (R := rInt) (a := 8) rfl)))) (by simp [tab_len]; omega)) e (fun h => nomatch h) fun _ Hk H1 g1 => s_nil ?_)
  have hv1 := (rL (rL rInt)).up g1.base hv
  refine s_cons (s_set 1 (EV.is (a' := (n : Int)) (len T.len (nm 0 (h := hv1))) (by rw [tab_len])) g1.on fun w Hk2 H2 g2 hw => ?_)
  obtain rfl : w = .int (n : Int) := hw
  have G := g1.trans g2
  have hv2 := (rL (rL rInt)).up g2.base hv1
  refine s_cons (s_forB (iEL T.enumerate (nm 0 (h := hv2))) G.on (fun i σ Hk H' => ∃ o2 o3 o4 o5 : Option V, σ = [some v, some (.int (n : Int)), o2, o3, o4, o5] ∧ Go no Hb H Hk H') ⟨none, none, none, none, rfl, G⟩ (fun i σ' Hk Hm H1 H2 ⟨o2, o3, o4, o5, hσ, G⟩ g2 => ⟨o2, o3, o4, o5, hσ, G.trans g2⟩) (fun i σ' Hk H' ⟨_, _, _, _, _, G⟩ => G.on) (fun i σ' Hk H' w hi' ebk hI hx => ?_) fun σ' Hk H' ebk hI => ?_)
  · obtain ⟨o2, o3, o4, o5, rfl, G⟩ := hI
    obtain ⟨H0, e0, hx⟩ := hx
    refine gpair 2 3 ((rP rInt (rL rInt)).up e0 hx) G.on fun u w hu hw => ?_
    obtain rfl : u = .int (i : Int) := hu
    show wSs _ _ _ [some v, some (.int (n : Int)), some (.int (i : Int)), some w, o4, o5] H'
    refine s_cons (s_if (ET.is (t' := false) (tW (wor (tnot (tv (isi2 T.isinstance (tyL (nm 3 (h := hw))) (tyv T.list bt_list) (tyv T.tuple bt_tuple) k1 k2))) fun _ => wor1 (tne (len T.len (nm 3 (h := hw))) (nm 1 (h := rfl))))) (by simp [tab_len])) G.on (fun h => nomatch h) fun _ Hk3 H3 g3 => s_nil ?_)
    have hw3 := (rL rInt).up g3.base hw
    have G3 := G.trans g3
    refine s_one (s_forB (iEL T.enumerate (nm 3 (h := hw3))) G3.on (fun j σ Hm H'' => ∃ o4 o5 : Option V, σ = [some v, some (.int (n : Int)), some (.int (i : Int)), some w, o4, o5] ∧ Go no Hb H Hm H'' ∧ Ex Hk Hm) ⟨_, _, rfl, G3, g3.base⟩ (fun j σ' Hk Hm H1 H2 ⟨o4, o5, hσ, G, e5⟩ g2 => ⟨o4, o5, hσ, G.trans g2, e5.trans g2.base⟩) (fun j σ' Hk H' ⟨_, _, _, G, _⟩ => G.on) (fun j σ' Hm H4 w2 hj ebm hI hx => ?_) fun σ' Hm H4 ebm hI => ?_)
    · obtain ⟨o4, o5, rfl, G4, e4⟩ := hI
      obtain ⟨H0, e0, hx⟩ := hx
      refine gpair 4 5 ((rP rInt rInt).up e0 hx) G4.on fun u w' hu hw' => ?_
      obtain rfl : u = .int (j : Int) := hu
      obtain rfl : w' = .int (f i j) := hw'
      show wSs _ _ _ [some v, some (.int (n : Int)), some (.int (i : Int)), some w, some (.int (j : Int)), some (.int (f i j))] H4
      have nn := ok.nn i j hi' hj
      refine s_one (s_if (ET.is (t' := false) (tW (wor (tnot (tv (isInt FI (nm 5 (h := rfl))))) fun _ => wor (tlt (nm 5 (h := rfl)) cI) fun _ => wor1 (tW (wand (teq (nm 2 (h := rfl)) (nm 4 (h := rfl))) fun _ => wand1 (tne (nm 5 (h := rfl)) cI))))) (by
        by_cases hij : i = j
        · subst hij; rw [ok.dg i hi']; simp
        · have : ¬ (i : Int) = (j : Int) := by omega
          simp [this]; omega)) G4.on (fun h => nomatch h) fun _ Hk5 H5 g5 => s_nil ?_)
      exact ⟨Hk5, g5.base, _, _, rfl, G4.trans g5, e4.trans g5.base⟩
    · obtain ⟨o4, o5, rfl, G4, e4⟩ := hI
      exact ⟨Hm, e4, _, _, _, _, rfl, G4⟩
  · obtain ⟨o2, o3, o4, o5, rfl, G5⟩ := hI
    have hv5 := (rL (rL rInt)).up ebk hv2
    refine s_one (s_ret (toTup T.tuple (EV.to (S := rS (rT rInt)) (lc [("row", 3)] (iL (nm 0 (h := hv5))) (fun i => tab n (f i)) (by omega) fun i x Hk H hi e1 e2 hx => gn 3 ⟨rfl, rfl, toTup T.tuple (EV.to (S := rS rInt) (nm 3 (h := hx)) fun _ _ h => rL.s h)⟩) fun _ _ h => rL.s h)) G5.on fun z Hk6 H6 g6 hz => q z Hk6 H6 (G5.trans g6) hz)
theorem rows_T {g : W5} {f0 : Addr} {cdv : Value} {A : Around} {outer : List Env} {s : Shared} {H : Hp} {v : V} {Q : VK} {E : XK} {n : Nat} {f : Mat} {Hb : Hp} (T : TX g) (T2 : TX2 g) (FI : FnB g CX0 1 "is_int" ["thing"] [] spIsInt)
    (cx : CtxZ (u1 (cxOf CX0 g.P g.w g.K g.mg g.base pTableRowsN "table_rows" (defScope pTableRows) f0 cdv A outer s H E).nox) g pTableRowsN 1) (e : Ex Hb H) (hv : (rT (rT rInt)).r Hb v (mat n f)) (ok : TabOk n f)
    (q : ∀ v Hk H2, Go no Hb H Hk H2 → (rT (rT rInt)).r Hk v (mat n f) → Q v H2) :
    wSs (cxOf CX0 g.P g.w g.K g.mg g.base pTableRowsN "table_rows" (defScope pTableRows) f0 cdv A outer s H E).nox (defBody pTableRows) { nx := fun _ H' => Q .non H', rt := Q } (start pTableRowsN [v]) H := by
  have k1 : kitB "list" "list" = some true := by decide +kernel
  have k2 : kitB "list" "tuple" = some false := by decide +kernel
  have k3 : kitB "tuple" "list" = some false := by decide +kernel
  have k4 : kitB "tuple" "tuple" = some true := by decide +kernel
  obtain ⟨ul, hl, rl⟩ := T2.least
  obtain ⟨um, hm, rm⟩ := T2.most
  have lo := ok.lo
  have hi := ok.hi
  refine s_cons (s_if (ET.is (t' := false) (tW (wor (tnot (tv (isi2 T.isinstance (tyT (nm 0 (h := hv))) (tyv T.list bt_list) (tyv T.tuple bt_tuple) k3 k4))) fun _ => wor1 (tnot (tchLL (cV hl rl (R := rInt) (a := 2) rfl) (len T.len (nm 0 (h := hv))) fun _ => cV hm rm (R := rInt) (a := 8) rfl)))) (by simp [tab_len]; omega)) e (fun h => nomatch h) fun _ Hk H1 g1 => s_nil ?_)
  have hv1 := (rT (rT rInt)).up g1.base hv
  refine s_cons (s_set 1 (EV.is (a' := (n : Int)) (len T.len (nm 0 (h := hv1))) (by rw [tab_len])) g1.on fun w Hk2 H2 g2 hw => ?_)
  obtain rfl : w = .int (n : Int) := hw
  have G := g1.trans g2
  have hv2 := (rT (rT rInt)).up g2.base hv1
  refine s_cons (s_forB (iET T.enumerate (nm 0 (h := hv2))) G.on (fun i σ Hk H' => ∃ o2 o3 o4 o5 : Option V, σ = [some v, some (.int (n : Int)), o2, o3, o4, o5] ∧ Go no Hb H Hk H') ⟨none, none, none, none, rfl, G⟩ (fun i σ' Hk Hm H1 H2 ⟨o2, o3, o4, o5, hσ, G⟩ g2 => ⟨o2, o3, o4, o5, hσ, G.trans g2⟩) (fun i σ' Hk H' ⟨_, _, _, _, _, G⟩ => G.on) (fun i σ' Hk H' w hi' ebk hI hx => ?_) fun σ' Hk H' ebk hI => ?_)
  · obtain ⟨o2, o3, o4, o5, rfl, G⟩ := hI
    obtain ⟨H0, e0, hx⟩ := hx
    refine gpair 2 3 ((rP rInt (rT rInt)).up e0 hx) G.on fun u w hu hw => ?_
    obtain rfl : u = .int (i : Int) := hu
    show wSs _ _ _ [some v, some (.int (n : Int)), some (.int (i : Int)), some w, o4, o5] H'
    refine s_cons (s_if (ET.is (t' := false) (tW (wor (tnot (tv (isi2 T.isinstance (tyT (nm 3 (h := hw))) (tyv T.list bt_list) (tyv T.tuple bt_tuple) k3 k4))) fun _ => wor1 (tne (len T.len (nm 3 (h := hw))) (nm 1 (h := rfl))))) (by simp [tab_len])) G.on (fun h => nomatch h) fun _ Hk3 H3 g3 => s_nil ?_)
    have hw3 := (rT rInt).up g3.base hw
    have G3 := G.trans g3
    refine s_one (s_forB (iET T.enumerate (nm 3 (h := hw3))) G3.on (fun j σ Hm H'' => ∃ o4 o5 : Option V, σ = [some v, some (.int (n : Int)), some (.int (i : Int)), some w, o4, o5] ∧ Go no Hb H Hm H'' ∧ Ex Hk Hm) ⟨_, _, rfl, G3, g3.base⟩ (fun j σ' Hk Hm H1 H2 ⟨o4, o5, hσ, G, e5⟩ g2 => ⟨o4, o5, hσ, G.trans g2, e5.trans g2.base⟩) (fun j σ' Hk H' ⟨_, _, _, G, _⟩ => G.on) (fun j σ' Hm H4 w2 hj ebm hI hx => ?_) fun σ' Hm H4 ebm hI => ?_)
    · obtain ⟨o4, o5, rfl, G4, e4⟩ := hI
      obtain ⟨H0, e0, hx⟩ := hx
      refine gpair 4 5 ((rP rInt rInt).up e0 hx) G4.on fun u w' hu hw' => ?_
      obtain rfl : u = .int (j : Int) := hu
      obtain rfl : w' = .int (f i j) := hw'
      show wSs _ _ _ [some v, some (.int (n : Int)), some (.int (i : Int)), some w, some (.int (j : Int)), some (.int (f i j))] H4
      have nn := ok.nn i j hi' hj
      refine s_one (s_if (ET.is (t' := false) (tW (wor (tnot (tv (isInt FI (nm 5 (h := rfl))))) fun _ => wor (tlt (nm 5 (h := rfl)) cI) fun _ => wor1 (tW (wand (teq (nm 2 (h := rfl)) (nm 4 (h := rfl))) fun _ => wand1 (tne (nm 5 (h := rfl)) cI))))) (by
        by_cases hij : i = j
        · subst hij; rw [ok.dg i hi']; simp
        · have : ¬ (i : Int) = (j : Int) := by omega
          simp [this]; omega)) G4.on (fun h => nomatch h) fun _ Hk5 H5 g5 => s_nil ?_)
      exact ⟨Hk5, g5.base, _, _, rfl, G4.trans g5, e4.trans g5.base⟩
    · obtain ⟨o4, o5, rfl, G4, e4⟩ := hI
      exact ⟨Hm, e4, _, _, _, _, rfl, G4⟩
  · obtain ⟨o2, o3, o4, o5, rfl, G5⟩ := hI
    have hv5 := (rT (rT rInt)).up ebk hv2
    refine s_one (s_ret (toTup T.tuple (EV.to (S := rS (rT rInt)) (lc [("row", 3)] (iT (nm 0 (h := hv5))) (fun i => tab n (f i)) (by omega) fun i x Hk H hi e1 e2 hx => gn 3 ⟨rfl, rfl, toTup T.tuple (EV.to (S := rS rInt) (nm 3 (h := hx)) fun _ _ h => rT.s h)⟩) fun _ _ h => rL.s h)) G5.on fun z Hk6 H6 g6 hz => q z Hk6 H6 (G5.trans g6) hz)
theorem ok_rows {g : W5} (D : DefOf g "table_rows" pTableRows) (T : TX g) (T2 : TX2 g) (FI : FnB g CX0 1 "is_int" ["thing"] [] spIsInt) : FnB g CX0 2 "table_rows" ["rows"] [] spRows := by
  refine def_ok D pTableRowsS (by decide +kernel) len1 (fun _ _ _ _ _ _ us hl => match us, hl with | [_], _ => rfl) fun f0 cdv A outer s H vs Q E cx ⟨⟨b, n, f⟩, Hb, e, h0, ok, q⟩ => ?_
  obtain ⟨v, rfl, hv⟩ := AL.one h0
  cases b with
  | true => exact rows_L T T2 FI cx e hv ok q
  | false => exact rows_T T T2 FI cx e hv ok q
end K
/-! K8: Table, Chain. -/
namespace K
open PySem.Spec PySem PyProof.Rows L2 Z M
/-- a name's value, told by any words -/
theorem nmP {ι : Type} {X : ι → Cx} {g : W5} {N : List Str} {k : Nat} {σ : L2.St} {Hb : Hp} {x : Str} {v : V} {Φ : V → Hp → Prop} {pos : Pos} [c : CtxZ X g N k] (j : Nat) (h : Φ v Hb) (hN : N[j]? = some x := by rfl) (hσ : σ[j]? = some (some v) := by rfl) (hv : ∀ i, Vis (X i).env.scope x := by intro _; first | exact Or.inl rfl | exact Or.inr (Or.inl rfl) | exact Or.inr (Or.inr rfl)) : Z.EP X (.Name x pos) σ Hb Φ :=
  fun H1 c1 Q q => ⟨_, fun i => pe_var (by rw [c.nm i]; exact hN) (hv i) (c.dbg x (List.mem_of_getElem? hN)).1 (c.dbg x (List.mem_of_getElem? hN)).2, v, hσ, q v Hb H1 (Go.refl c1) h⟩
abbrev prs (n : Nat) (f : Nat → Nat → Bool) : List (Int × Int) := gots n f (fun x y => ((x : Int), (y : Int))) n
abbrev spArrows : Sp := spF (fun t : Nat × Mat => al1 (rT (rT rInt)) (mat t.1 t.2)) (fun t => t.1 ≤ 8) (fun t v H => (rT (rP rInt rInt)).r H v (prs t.1 fun x y => decide (0 < t.2 x y)))
theorem ok_arrows {g : W5} (D : DefOf g "arrows_of" pArrowsOf) (T : TX g) : FnB g CX0 1 "arrows_of" ["rows"] [] spArrows := by
  refine def_ok D pArrowsOfS (by decide +kernel) len1 (fun _ _ _ _ _ _ us hl => match us, hl with | [_], _ => rfl) fun f0 cdv A outer s H vs Q E cx ⟨⟨n, f⟩, Hb, e, h0, hn, q⟩ => ?_
  obtain ⟨v, rfl, hv⟩ := AL.one h0
  dsimp only at hv hn q
  refine s_cons (s_set 1 (EV.is (a' := (n : Int)) (len T.len (nm 0 (h := hv))) (by rw [tab_len])) e fun w Hk2 H2 g2 hw => ?_)
  obtain rfl : w = .int (n : Int) := hw
  have hv2 := (rT (rT rInt)).up g2.base hv
  refine s_one (s_ret (toTup T.tuple (EV.to (S := rS (rP rInt rInt)) (lc2R [("x", 2), ("y", 3)] [3] 2 3 T.range (nm 1 (h := rfl)) (by omega) (fun x y => decide (0 < f x y)) (fun x y => ((x : Int), (y : Int)))
    (fun i Hk hi e1 => ⟨rfl, nm 1 (h := rfl)⟩) (fun i j Hk hi hj e1 => ⟨rfl, ts1 (tgt (ixt (ixt (nm 0 (h := (rT (rT rInt)).up e1 hv2)) (nm 2 (h := rfl)) hi) (nm 3 (h := rfl)) hj) cI), fun _ => dP (ac (nm 2 (h := rfl)) (ac (nm 3 (h := rfl)) a0))⟩)) fun _ _ h => rL.s h)) g2.on fun z Hk3 H3 g3 hz => q z Hk3 H3 (g2.trans g3) hz)
abbrev spUnlike : Sp := spF (fun t : Nat × Mat × Mat => al2 (rT (rT rInt)) (mat t.1 t.2.1) (rT (rT rInt)) (mat t.1 t.2.2)) (fun t => t.1 ≤ 8) (fun t v H => (rT (rP rInt rInt)).r H v (prs t.1 fun x y => decide (t.2.1 x y ≠ t.2.2 x y)))
theorem ok_unlike {g : W5} (D : DefOf g "_unlike_pairs" pUnlikePairs) (T : TX g) : FnB g CX0 1 "_unlike_pairs" ["lows", "highs"] [] spUnlike := by
  refine def_ok D pUnlikePairsS (by decide +kernel) len2 (fun _ _ _ _ _ _ us hl => match us, hl with | [_, _], _ => rfl) fun f0 cdv A outer s H vs Q E cx ⟨⟨n, f, f'⟩, Hb, e, h0, hn, q⟩ => ?_
  obtain ⟨v, u, rfl, hv, hu⟩ := AL.two h0
  dsimp only at hv hu hn q
  refine s_cons (s_set 2 (EV.is (a' := (n : Int)) (len T.len (nm 0 (h := hv))) (by rw [tab_len])) e fun w Hk2 H2 g2 hw => ?_)
  obtain rfl : w = .int (n : Int) := hw
  have hv2 := (rT (rT rInt)).up g2.base hv
  have hu2 := (rT (rT rInt)).up g2.base hu
  refine s_one (s_ret (toTup T.tuple (EV.to (S := rS (rP rInt rInt)) (lc2R [("x", 3), ("y", 4)] [4] 3 4 T.range (nm 2 (h := rfl)) (by omega) (fun x y => decide (f x y ≠ f' x y)) (fun x y => ((x : Int), (y : Int)))
    (fun i Hk hi e1 => ⟨rfl, nm 2 (h := rfl)⟩) (fun i j Hk hi hj e1 => ⟨rfl, ts1 (tne (ixt (ixt (nm 0 (h := (rT (rT rInt)).up e1 hv2)) (nm 3 (h := rfl)) hi) (nm 4 (h := rfl)) hj) (ixt (ixt (nm 1 (h := (rT (rT rInt)).up e1 hu2)) (nm 3 (h := rfl)) hi) (nm 4 (h := rfl)) hj)), fun _ => dP (ac (nm 3 (h := rfl)) (ac (nm 4 (h := rfl)) a0))⟩)) fun _ _ h => rL.s h)) g2.on fun z Hk3 H3 g3 hz => q z Hk3 H3 (g2.trans g3) hz)
theorem fldR {ι : Type} {X : ι → Cx} {g : W5} {N : List Str} {k : Nat} {σ : L2.St} {Hb : Hp} {e : Expr} {pos : Pos} {f : Str} {C : Addr} {α : Type} {R : Rep α} {a : α} [c : CtxZ X g N k] (hc : Cls g.K C) (hn : NoAttr g.K C f) (h : Z.EP X e σ Hb fun v H => ∃ a' dx fs u, v = .ref a' ∧ H a' = some (.ins C dx fs) ∧ fs.lookup f = some u ∧ R.r H u a)
    (hb : ∀ i, attributeBase e f (X i).env (eval e (X i).env) = eval e (X i).env := by intro _; rfl) : EV X (.Attribute e f pos) σ Hb R a := fld hc hn h hb
theorem lpt {f : Str} {v : V} {fs : List (Str × V)} {n : Nat} (h : fs.length ≤ n) : (putF f v fs).length ≤ n + 1 := Nat.le_trans (length_putF ..) (by omega)
/-! Table.__init__, self of the class at C -/
structure ClOk (g : W5) (C : Addr) (fs : List Str) : Prop where
  cls : Cls g.K C
  no : ∀ f ∈ fs, NoAttr g.K C f
def tabPost (t : Bool × Nat × Mat) (fs : List (Str × V)) (H : Hp) : Prop := (∃ vr, fs.lookup ("rows" : Str) = some vr ∧ (rT (rT rInt)).r H vr (mat t.2.1 t.2.2)) ∧ fs.lookup ("size" : Str) = some (.int (t.2.1 : Int))
theorem tabPost_up {t : Bool × Nat × Mat} : ∀ (fs : List (Str × V)) (H H' : Hp), Ex H H' → tabPost t fs H → tabPost t fs H' := fun fs H H' e ⟨⟨vr, h1, h2⟩, h3⟩ => ⟨⟨vr, h1, (rT (rT rInt)).up e h2⟩, h3⟩
abbrev spTabInit (C : Addr) : Sp := spInit C (fun t : Bool × Nat × Mat => al1 (rM t.1) (mat t.2.1 t.2.2)) (fun t => TabOk t.2.1 t.2.2) tabPost
/-- the fields of a table or a chain -/
def rCh (C : Addr) : Rep (Nat × Mat) := ⟨fun H v t => ∃ a dx fs, v = .ref a ∧ H a = some (.ins C dx fs) ∧ tabPost (true, t) fs H, fun e ⟨a, dx, fs, h1, h2, h3⟩ => ⟨a, dx, fs, h1, e _ _ h2, tabPost_up _ _ _ e h3⟩⟩
theorem go_self {S : Addr → Prop} {Hb H Hk H2 : Hp} {a : Addr} {o : HO} (G : Go (· = a) Hb H Hk H2) (h : Hk a = none) : Go (· = a) Hb H Hk (upd H2 a o) := G.wr (.inl rfl) h
theorem tabInit_body {g : W5} {C : Addr} {f0 : Addr} {cdv : Value} {A : Around} {outer : List Env} {s : Shared} {H : Hp} {v : V} {Q : VK} {E : XK} {t : Bool × Nat × Mat} {Hb : Hp} {a dx : Addr} (T : TX g) (c : ClOk g C tabF) (FR : FnB g CX0 2 "table_rows" ["rows"] [] spRows) (FA : FnB g CX0 1 "arrows_of" ["rows"] [] spArrows)
    (cx : CtxZ (u1 (cxOf CX0 g.P g.w g.K g.mg g.base mTableInitN "Table.__init__" (defScope mTableInit) f0 cdv A outer s H E).nox) g mTableInitN 2) (e : Ex Hb H) (ha : Hb a = none) (hH : H a = some (.ins C dx [])) (hv : (rM t.1).r Hb v (mat t.2.1 t.2.2)) (ok : TabOk t.2.1 t.2.2)
    (q : ∀ fs Hk H2, Go (· = a) Hb H Hk H2 → Hk a = none → H2 a = some (.ins C dx fs) → tabPost t fs Hk → Q .non H2) :
    wSs (cxOf CX0 g.P g.w g.K g.mg g.base mTableInitN "Table.__init__" (defScope mTableInit) f0 cdv A outer s H E).nox (defBody mTableInit) { nx := fun _ H' => Q .non H', rt := Q } (start mTableInitN [.ref a, v]) H := by
  have hi := ok.hi
  refine s_cons (s_fld 0 (call FR t (ac (nm 1 (h := hv)) a0) rfl ok) e c.cls (c.no _ (by decide)) hH (by decide) fun vr Hk H2 g2 hr h2 => ?_)
  have hr : (rT (rT rInt)).r Hk vr (mat t.2.1 t.2.2) := hr
  have hka : Hk a = none := g2.fr a (some_ne hH) ha
  have G := go_self (S := no) (o := .ins C dx (putF "rows" vr [])) (g2.more (S := (· = a))) hka
  have self : ∀ (H : Hp) (fs : List (Str × V)), Ex Hk H → H a = some (.ins C dx fs) → fs.lookup ("rows" : Str) = some vr → ∃ a' dx' fs' u, V.ref a = .ref a' ∧ H a' = some (.ins C dx' fs') ∧ fs'.lookup ("rows" : Str) = some u ∧ (rT (rT rInt)).r H u (mat t.2.1 t.2.2) := fun H fs e h h' => ⟨a, dx, fs, vr, rfl, h, h', (rT (rT rInt)).up e hr⟩
  refine s_cons (s_fld 0 (EV.is (a' := (t.2.1 : Int)) (len T.len (fldR (R := rT (rT rInt)) c.cls (c.no "rows" (by decide)) (nmP 0 (self _ _ G.on upd_same (by rw [lk_put]; rfl))))) (by rw [tab_len])) (Ex.refl _) c.cls (c.no _ (by decide)) upd_same (Nat.lt_of_le_of_lt (lpt (Nat.zero_le 0)) (by decide)) fun vs Hg H3 g3 hs h3 => ?_)
  obtain rfl : vs = .int (t.2.1 : Int) := hs
  have G := go_self (S := no) (o := .ins C dx (putF "size" (.int (t.2.1 : Int)) (putF "rows" vr []))) (G.step g3.ex) hka
  refine s_one (s_fld 0 (call FA (t.2.1, t.2.2) (ac (fldR (R := rT (rT rInt)) c.cls (c.no "rows" (by decide)) (nmP 0 (self _ _ G.on upd_same (by rw [lk_put, lk_put]; rfl)))) a0) rfl hi) (Ex.refl _) c.cls (c.no _ (by decide)) upd_same (Nat.lt_of_le_of_lt (lpt (lpt (Nat.zero_le 0))) (by decide)) fun va Hg H4 g4 hs h4 => ?_)
  have G := go_self (S := no) (o := .ins C dx (putF "_arrows" va (putF "size" (.int (t.2.1 : Int)) (putF "rows" vr [])))) (G.step g4.ex) hka
  exact q _ Hk _ G hka upd_same ⟨⟨vr, by rw [lk_put, lk_put, lk_put]; rfl, hr⟩, by rw [lk_put, lk_put]; rfl⟩
end K
/-! K9: walked_to, closed_lot, Chain. -/
namespace K
open PySem.Spec PySem PyProof.Rows L2 Z M NdefX
abbrev vN (l : List Nat) : List V := l.map fun (x : Nat) => V.int (x : Int)
abbrev natL (l : List Nat) : List Int := l.map fun (x : Nat) => (x : Int)
theorem vN_eq (l : List Nat) : vN l = (natL l).map V.int := by simp [vN, natL, Function.comp_def]
theorem vN_rep {H : Hp} {p : Addr} {l : List Nat} (h : H p = some (.lst (vN l))) : (rL rInt).r H (.ref p) (natL l) := rInt.mkL (by rw [← vN_eq]; exact h)
theorem mem_natL {y : Nat} {l : List Nat} : ((y : Nat) : Int) ∈ natL l ↔ y ∈ l := by
  unfold natL
  rw [List.mem_map]
  constructor
  · rintro ⟨a, ha, e⟩
    have : a = y := by omega
    exact this ▸ ha
  · exact fun h => ⟨y, h, rfl⟩
/-- name += e -/
theorem s_aug {X : Cx} {g : W5} {N : List Str} {k : Nat} {σ : L2.St} {H Hb : Hp} {e : Expr} {x : Str} {p pos : Pos} {D : Ends} {a b : Int} [c : CtxZ (u1 X) g N k] (j : Nat) (h : EV (u1 X) e σ Hb rInt b) (cx : Ex Hb H) (q : ∀ Hk H2, Go no Hb H Hk H2 → D.nx (σ.set j (some (.int (a + b)))) H2)
    (hN : N[j]? = some x := by rfl) (hσ : σ[j]? = some (some (.int a)) := by rfl) (hx : Loc X.env.scope x := by first | exact .inl rfl | exact .inr rfl) (hf : X.fn x = true ∨ X.env.scope.names.lookup x = some .local := by first | exact .inl rfl | exact .inr rfl) : wS X (.AugAssign (.Name x p) .Add e pos) D σ H :=
  ⟨_, ps_aug (i := j) (by have := c.nm (); rw [show X.N = N from this]; exact c.nd) (by have := c.nm (); rw [show X.N = N from this]; exact hN) hx (wE_ok (X := u1 X) ()) ip_add hf, ⟨_, hσ, h H cx _ fun v Hk H2 g1 r => ⟨a, b, rfl, r, q Hk H2 g1⟩⟩⟩
/-- tuple(e), e a list of ints told by P -/
theorem tupP {ι : Type} {X : ι → Cx} {g : W5} {N : List Str} {k : Nat} {σ : L2.St} {Hb : Hp} {e : Expr} {p pos : Pos} {P : List Int → Prop} [c : CtxZ X g N k] (hm : g.mg "tuple" = none) (h : Z.EP X e σ Hb fun v H => ∃ l, (rL rInt).r H v l ∧ P l) (hg : ∀ i, Gl (X i) "tuple" := by intro _; rfl) (hs : NS e := by intro _ _; rfl)
    (hpl : ∀ i, (backTo pos (starEach [] (X i).env)).any (·.1) = false := by intro _; rfl) : Z.EP X (.Call (.Name "tuple" p) [e] [] pos) σ Hb (fun v H => ∃ l, (rT rInt).r H v l ∧ P l) := fun H1 c1 Q q =>
  ⟨_, fun i => pe_callTy (tup_K i) (hg i) ((congrFun (c.mg i) _).trans hm) (by decide +kernel) (wA_ok i) (by decide) (by decide) (hs _ _) (hpl i), ⟨_, fun i => pa_cons (wE_ok i) pa_nil (hs _ _), h H1 c1 _ fun v Hk H2 g1 ⟨l, r, hp⟩ => by
    obtain ⟨p, rfl, b⟩ := rInt.list r
    exact ⟨p, _, rfl, .inl ⟨SqL.of (g1.on _ _ b), fun m hm => q _ _ _ (g1.trans (Go.new g1.on hm)) ⟨l, rInt.mkT upd_same, hp⟩⟩⟩⟩⟩
/-- found so far: no state twice, all below n, x among them -/
structure Fnd (n x : Nat) (fl : List Nat) : Prop where
  nd : fl.Nodup
  lt : ∀ y ∈ fl, y < n
  x0 : x ∈ fl
abbrev spWalked : Sp := spF (fun t : Nat × Mat × Nat => al2 (rT (rT rInt)) (mat t.1 t.2.1) rInt (t.2.2 : Int)) (fun t => t.1 ≤ 8 ∧ Joined t.1 t.2.1 ∧ t.2.2 < t.1) (fun t v H => ∃ l : List Int, l.length = t.1 ∧ (rT rInt).r H v l)
theorem ok_walked {g : W5} (D : DefOf g "walked_to" pWalkedTo) (T : TX g) : FnB g CX0 1 "walked_to" ["rows", "x"] [] spWalked := by
  refine def_ok D pWalkedToS (by decide +kernel) len2 (fun _ _ _ _ _ _ us hl => match us, hl with | [_, _], _ => rfl) fun f0 cdv A outer s H vs Q E cx ⟨⟨n, f, x⟩, Hb, e, h0, ⟨hn, hj, hx⟩, q⟩ => ?_
  obtain ⟨v, u, rfl, hv, hu⟩ := AL.two h0
  obtain rfl : u = .int (x : Int) := hu
  dsimp only at hv hn hj hx q
  -- found = [x]
  refine s_cons (s_setw 2 ⟨_, fun _ => pe_lst (pa_cons (pe_var (i := 1) rfl (.inl rfl) (by decide) (by decide)) pa_nil rfl), ⟨_, rfl, by show 1 ≤ sizeLine; decide, fun l hl => ?_⟩⟩)
  obtain ⟨G, Fm⟩ := (Go.refl (S := no) e).own hl (o := .lst (vN [x]))
  refine s_cons (s_set 3 (cI (n := 0)) G.on fun w Hk H2 g2 hw => ?_)
  obtain rfl : w = .int 0 := hw
  refine s_cons (s_while (fun m σ H' => ∃ (Hk : Hp) (fl : List Nat) (a : Nat) (o4 o5 : Option V), m = n - a ∧ a ≤ n ∧ σ = [some v, some (.int (x : Int)), some (.ref l), some (.int (a : Int)), o4, o5] ∧ Go no Hb H Hk H' ∧ Mu H Hk H' l (.lst (vN fl)) ∧ Fnd n x fl ∧ a ≤ fl.length ∧ ∀ i, i < a → ∀ y, y < n → 0 < f (fl.getD i 0) y → y ∈ fl)
    ⟨_, Hb, [x], 0, none, none, rfl, by omega, rfl, G.step g2.ex, Fm.ex g2.ex, ⟨by simp, by simpa using hx, by simp⟩, by simp, fun i hi => by omega⟩ fun m σ' H' hI => ?_)
  obtain ⟨Hk, fl, a, o4, o5, rfl, han, rfl, G, Fm, fn, hal, hcl⟩ := hI
  have hfl : fl.length ≤ n := len_le fn.nd fn.lt
  refine tlt (nm 3 (h := rfl)) (len T.len (nm 2 (h := vN_rep Fm.at_))) H' (Ex.refl _) _ fun Hg H3 g3 => ?_
  have hlen : (natL fl).length = fl.length := by simp
  rw [hlen]
  have G := G.step g3.ex
  have Fm := Fm.ex g3.ex
  by_cases hlt : a < fl.length
  · rw [if_pos (by simp; omega)]
    have hz : fl[a] < n := fn.lt _ (List.getElem_mem hlt)
    refine s_cons (s_forA (iETa T.enumerate (ixa (a := tab n (f fl[a])) fl[a] (nm 0 (h := (rT (rT rInt)).up G.base hv)) G.on (ix a (nm 2 (h := vN_rep Fm.at_)) (nm 3 (h := rfl)) rfl (by simp [natL, hlt])) rfl (tab_get hz))) (fun j σ Hm H'' => ∃ (fl2 : List Nat) (o4 o5 : Option V), σ = [some v, some (.int (x : Int)), some (.ref l), some (.int (a : Int)), o4, o5] ∧ Go no Hb H Hm H'' ∧ Mu H Hm H'' l (.lst (vN fl2)) ∧ Fnd n x fl2 ∧ ∃ r, fl2 = fl ++ r ∧ ∀ y, y < j → 0 < f fl[a] y → y ∈ fl2)
      ⟨fl, _, _, rfl, G, Fm, fn, [], by simp, fun y hy => by omega⟩ (fun j σ' Hk Hm H1 H2 ⟨fl2, o4, o5, hσ, G, Fm, fn, hr⟩ g2 => ⟨fl2, o4, o5, hσ, G.trans g2, Fm.go0 g2, fn, hr⟩) (fun j σ' Hk H' ⟨_, _, _, _, G, _⟩ => G.on) (fun j σ' Hm H4 w hj ebm hI hx => ?_) fun σ' Hm H4 ebm hI => ?_)
    · obtain ⟨fl2, o4, o5, rfl, G, Fm, fn, r, hr, hcl2⟩ := hI
      obtain ⟨H0, e0, hx⟩ := hx
      refine gpair 4 5 ((rP rInt rInt).up e0 hx) G.on fun u w' hu hw' => ?_
      obtain rfl : u = .int (j : Int) := hu
      obtain rfl : w' = .int (f fl[a] j) := hw'
      have hfl2 : fl2.length ≤ n := len_le fn.nd fn.lt
      show wSs _ _ _ [some v, some (.int (x : Int)), some (.ref l), some (.int (a : Int)), some (.int (j : Int)), some (.int (f fl[a] j))] H4
      refine s_one (s_if (tW (wand (tgt (nm 5 (h := rfl)) cI) fun _ => wand1 (tNIn (nm 4 (h := rfl)) (nm 2 (h := vN_rep Fm.at_))))) (Ex.refl H4) (fun ht Hg H5 g5 => ?_) fun ht Hg H5 g5 => s_nil ⟨Hm, Ex.refl _, fl2, _, _, rfl, G.step g5.ex, Fm.ex g5.ex, fn, r, hr, fun y hy hf => ?_⟩)
      · have ht : 0 < f fl[a] j ∧ j ∉ fl2 := by
          simp only [Bool.and_eq_true, decide_eq_true_eq] at ht
          exact ⟨ht.1, fun z => ht.2 (mem_natL.mpr z)⟩
        have G := G.step g5.ex
        have Fm := Fm.ex g5.ex
        refine s_one (s_app (j := 2) (nm 4 (R := rInt) (a := (j : Int)) (h := rfl)) G.on Fm.at_ (by rw [List.length_map]; omega) fun w Hg H6 g6 hw h6 => ?_)
        obtain rfl : w = .int (j : Int) := hw
        have e7 : vN fl2 ++ [V.int (j : Int)] = vN (fl2 ++ [j]) := by simp [vN]
        rw [e7]
        refine ⟨Hg, g6.base, fl2 ++ [j], _, _, rfl, (G.trans g6).mu (Fm.go0 g6), (Fm.go0 g6).wr, ⟨nodup_snoc fn.nd ht.2, fun y hy => ?_, List.mem_append_left _ fn.x0⟩, r ++ [j], by rw [hr, List.append_assoc], fun y hy hf => ?_⟩
        · rcases List.mem_append.1 hy with h | h
          · exact fn.lt y h
          · rw [List.mem_singleton.1 h]; exact hj
        · by_cases h : y = j
          · subst h; simp
          · exact List.mem_append_left _ (hcl2 y (by omega) hf)
      · by_cases h : y = j
        · subst h
          simp only [Bool.and_eq_false_iff, decide_eq_false_iff_not] at ht
          rcases ht with h | h
          · exact absurd hf h
          · exact Classical.byContradiction fun z => h fun z2 => z (mem_natL.mp z2)
        · exact hcl2 y (by omega) hf
    · obtain ⟨fl2, o4, o5, rfl, G, Fm, fn2, r, hr, hcl2⟩ := hI
      refine s_one (s_aug 3 (cI (n := 1)) G.on fun Hg H5 g5 => ?_)
      have G := G.step g5.ex
      have Fm := Fm.ex g5.ex
      have hfl2 : fl2.length ≤ n := len_le fn2.nd fn2.lt
      refine ⟨n - (a + 1), by omega, Hm, fl2, a + 1, _, _, rfl, by omega, rfl, G, Fm, fn2, by rw [hr, List.length_append]; omega, fun i hi y hy hf => ?_⟩
      have hgi : fl2.getD i 0 = fl.getD i 0 := by
        rw [hr, List.getD_eq_getElem?_getD, List.getD_eq_getElem?_getD, List.getElem?_append_left (by omega)]
      rw [hgi] at hf
      by_cases h : i = a
      · subst h
        refine hcl2 y hy ?_
        simpa [hlt] using hf
      · rw [hr]; exact List.mem_append_left _ (hcl i (by omega) y hy hf)
  · rw [if_neg (by simp; omega)]
    have hae : a = fl.length := by omega
    subst hae
    have hall : ∀ y, y < n → y ∈ fl := hj (fun z => z ∈ fl) (fun y z hy hz sy hf => by
      obtain ⟨i, hi, rfl⟩ := List.getElem_of_mem sy
      exact hcl i hi z hz (by simpa [hi] using hf)) x hx fn.x0
    have hl2 : n ≤ fl.length := le_len hall
    have hln : fl.length = n := by omega
    -- found goes into the base
    have G2 := G.fixm Fm
    have hfr : (rL rInt).r (upd Hk l (.lst (vN fl))) (.ref l) (natL fl) := vN_rep upd_same
    refine s_one (s_ret (tupP T.tuple (EP.imp (sorted1 T.sorted (nm 2 (h := hfr)) (by rw [hlen]; omega)) fun v H ⟨l', h1, h2, _⟩ => ⟨l', h1, (show l'.length = n by rw [h2.length_eq, hlen, hln])⟩)) G2.on fun w Hg4 H4 g4 ⟨l', h1, h2⟩ => q w _ H4 (G2.trans g4) ⟨l', h2, h1⟩)
abbrev spClosed : Sp := spF (fun t : Nat × Mat => al1 (rT (rT rInt)) (mat t.1 t.2)) (fun t => t.1 ≤ 8 ∧ Joined t.1 t.2) (fun t v H => v = .non)
theorem ok_closed {g : W5} (D : DefOf g "closed_lot" pClosedLot) (T : TX g) (FW : FnB g CX0 1 "walked_to" ["rows", "x"] [] spWalked) : FnB g CX0 2 "closed_lot" ["rows"] [] spClosed := by
  refine def_ok D pClosedLotS (by decide +kernel) len1 (fun _ _ _ _ _ _ us hl => match us, hl with | [_], _ => rfl) fun f0 cdv A outer s H vs Q E cx ⟨⟨n, f⟩, Hb, e, h0, ⟨hn, hj⟩, q⟩ => ?_
  obtain ⟨v, rfl, hv⟩ := AL.one h0
  dsimp only at hv hn hj q
  refine s_cons (s_forR (n := n) T.range 1 (EV.is (len T.len (nm 0 (h := hv))) (by rw [tab_len])) e (by omega) (fun i σ H' => ∃ o1 o2 : Option V, σ = [some v, o1, o2] ∧ Ex H H') (fun Hk H2 g2 => ⟨none, none, rfl, g2.ex⟩) (fun i σ' H' hi hI => ?_) fun σ' H' hI => ?_)
  · obtain ⟨o1, o2, rfl, ex⟩ := hI
    show wSs _ _ _ [some v, some (.int (i : Int)), o2] H'
    refine s_cons (s_set 2 (call FW (n, f, i) (ac (nm 0 (h := hv)) (ac (nm 1 (h := rfl)) a0)) rfl ⟨hn, hj, hi⟩) (e.trans ex) fun w Hk H2 g2 hw => ?_)
    obtain ⟨l, hl, hw⟩ := hw
    refine s_one (s_if (ET.is (t' := false) (tlt (len T.len (nm 2 (h := hw))) (len T.len (nm 0 (h := (rT (rT rInt)).up g2.base hv)))) (by rw [tab_len, hl]; simp)) g2.on (fun h => nomatch h) fun _ Hk H3 g3 => s_nil ⟨_, _, rfl, (ex.trans g2.ex).trans g3.ex⟩)
  · obtain ⟨o1, o2, rfl, ex⟩ := hI
    refine s_one (s_ret (cN) (e.trans ex) fun w Hk H2 g2 hw => q w Hk H2 ((Go.ofEx e ex).trans g2) hw)
end K
/-! KA: the classes Table, Chain. -/
namespace K
open PySem.Spec PySem PyProof.Rows L2 Z M NdefX
/-- a method's function -/
theorem fun_ok {g : W5} {x qual : Str} {st : Stmt} {N ps : List Str} {k : Nat} {sp : Sp} {f : Addr} {fd : FuncData} (F : FunD g.K x qual (defArgs st) (defBody st) (defScope st) [] [] f fd) (S : FnScope N ps (defScope st)) (dbg : namesOk N = true) (len : ∀ vs H Q E, sp vs H Q E → vs.length = ps.length)
    (hb : ∀ (kV doc pm : Value) (an : Option Addr) (cdv ct : Value) (us : List Value), us.length = ps.length → bindArgs (PySem.W.fnOf x qual (defArgs st) (defBody st) (defScope st) .none kV doc pm an cdv ct) ⟨us, []⟩ = pure (ps.zip us))
    (hbody : ∀ (f : Addr) (cdv : Value) (A : Around) (outer : List Env) (s : Shared) (H : Hp) (vs : List V) (Q : VK) (E : XK), CtxZ (u1 (cxOf CX0 g.P g.w g.K g.mg g.base N qual (defScope st) f cdv A outer s H E).nox) g N k → sp vs H Q E →
      wSs (cxOf CX0 g.P g.w g.K g.mg g.base N qual (defScope st) f cdv A outer s H E).nox (defBody st) { nx := fun _ H' => Q .non H', rt := Q } (start N vs) H) : FnOk g.P g.w g.K g.mg g.base CX0 (k + 1) f fd ps sp ∧ Binds g.K fd ps [] := by
  refine ⟨F.ok S len fun cdv A outer s H vs Q E hr h => ?_, F.bindsN hb⟩
  obtain ⟨t, ht, hq⟩ := hbody f cdv A outer s H vs Q E ⟨fun _ => rfl, fun _ => rfl, fun _ => rfl, fun _ => rfl, fun _ => rfl, fun _ => rfl, S.nd, fun _ => rfl, fun _ => hr, namesOk_ok dbg⟩ h
  exact ⟨t, ht.nox, hq⟩
theorem ok_tabInit {g : W5} {C : Addr} {f : Addr} {fd : FuncData} (F : FunD g.K "__init__" "Table.__init__" (defArgs mTableInit) (defBody mTableInit) (defScope mTableInit) [] [] f fd) (T : TX g) (c : ClOk g C tabF) (FR : FnB g CX0 2 "table_rows" ["rows"] [] spRows) (FA : FnB g CX0 1 "arrows_of" ["rows"] [] spArrows) :
    FnOk g.P g.w g.K g.mg g.base CX0 3 f fd ["self", "rows"] (spTabInit C) ∧ Binds g.K fd ["self", "rows"] [] := by
  refine fun_ok F mTableInitS (by decide +kernel) (len_ofI (n := 1) fun t H vs h => by obtain ⟨v, rfl, _⟩ := AL.one h; rfl) (fun _ _ _ _ _ _ us hl => match us, hl with | [_, _], _ => rfl) fun f0 cdv A outer s H vs Q E cx ⟨t, Hb, a, dx, us, e1, e, ha, hH, h0, ok, q⟩ => ?_
  obtain ⟨v, rfl, hv⟩ := AL.one h0
  subst e1
  exact tabInit_body T c FR FA cx e ha hH hv ok q
/-! Chain.__init__ -/
abbrev chN : List Str := ["self", "rows", "__class__", "lot"]
theorem chS : NScope chN ["self", "rows"] ["__class__"] (defScope mChainInit) := nscope_by (by decide +kernel)
abbrev spChInit (C : Addr) : Sp := spInit C (fun t : Bool × Nat × Mat => al1 (rM t.1) (mat t.2.1 t.2.2)) (fun t => TabOk t.2.1 t.2.2 ∧ Joined t.2.1 t.2.2) tabPost
theorem ok_chInit {g : W5} {C f f2 cda cc : Addr} {fd fd2 : FuncData} (S0 : SupD g.P g.K "__init__" "Chain.__init__" (defArgs mChainInit) (defBody mChainInit) (defScope mChainInit) f cda cc C C f2 fd) (hb : Binds g.K fd ["self", "rows"] [])
    (F2 : FnOk g.P g.w g.K g.mg g.base CX0 3 f2 fd2 ["self", "rows"] (spTabInit C)) (hb2 : Binds g.K fd2 ["self", "rows"] []) (T : TX g) (c : ClOk g C tabF) (FC : FnB g CX0 2 "closed_lot" ["rows"] [] spClosed) : FnOk g.P g.w g.K g.mg g.base CX0 4 f fd ["self", "rows"] (spChInit C) := by
  refine sup_fn S0 chS T.super rfl ⟨_, rfl, rfl⟩ F2 hb2 (len_ofI (n := 1) fun t H vs h => by obtain ⟨v, rfl, _⟩ := AL.one h; rfl) (fun A outer s H vs Q E hr ⟨t, Hb, a, dx, us, e1, e, ha, hH, h0, ok, q⟩ => ?_) hb
  obtain ⟨v, rfl, hv⟩ := AL.one h0
  subst e1
  refine ⟨a, dx, [], [v], _, _, E0, rfl, hH, pa_cons (pe_var (i := 1) rfl (.inl rfl) (by decide) (by decide)) pa_nil rfl, (wSs_ok (X := (ncx CX0 g.P g.w g.K g.mg g.base chN (supN "__init__" "Chain.__init__" (defArgs mChainInit) (defBody mChainInit) (defScope mChainInit) cda cc) f A outer s H E).nox)).nox, pass0, ?_⟩
  have cx : CtxZ (u1 (ncx CX0 g.P g.w g.K g.mg g.base chN (supN "__init__" "Chain.__init__" (defArgs mChainInit) (defBody mChainInit) (defScope mChainInit) cda cc) f A outer s H E).nox) g chN 3 := ⟨fun _ => rfl, fun _ => rfl, fun _ => rfl, fun _ => rfl, fun _ => rfl, fun _ => rfl, chS.nd, fun _ => rfl, fun _ => hr, namesOk_ok (by decide +kernel)⟩
  refine ⟨v, rfl, t, Hb, a, dx, [v], rfl, e, ha, hH, ⟨v, [], rfl, hv, rfl⟩, ok.1, fun fs Hk H2 G hk h2 hp => ?_⟩
  obtain ⟨⟨vr, hl, hr2⟩, hs⟩ := hp
  have hcl := FC
  refine s_cons (s_set 3 (call hcl (t.2.1, t.2.2) (ac (fldR (R := rT (rT rInt)) (a := mat t.2.1 t.2.2) c.cls (c.no "rows" (by decide)) (nmP 0 ⟨a, dx, fs, vr, rfl, h2, hl, (rT (rT rInt)).up G.on hr2⟩)) a0) rfl ⟨ok.1.hi, ok.2⟩) (Ex.refl H2) fun w Hg H3 g3 hw => ?_)
  obtain rfl : w = .non := hw
  refine s_one (s_if (ET.is (t' := false) (tNotN (t := true) (nmP (v := V.non) 3 (by simp))) rfl) (Ex.refl H3) (fun h => nomatch h) fun _ Hg H4 g4 => s_nil ?_)
  exact q fs Hk H4 ((G.step g3.ex).step g4.ex) hk (g4.ex _ _ (g3.ex _ _ h2)) ⟨⟨vr, hl, hr2⟩, hs⟩
end K
/-! KB: Notes. -/
namespace K
open PySem.Spec PySem PyProof.Rows L2 Z M
instance {X : Cx} {g : W5} {N : List Str} {k : Nat} [c : CtxZ (u1 X) g N k] : CtxZ (u1 X.nox) g N k := ⟨fun _ => c.P (), fun _ => c.w (), fun _ => c.K (), fun _ => c.mg (), fun _ => c.base (), fun _ => c.nm (), c.nd, fun _ => c.calm (), fun _ => c.room (), c.dbg⟩
/-- a try that raises nothing -/
theorem s_try {X : Cx} {σ : L2.St} {H : Hp} {body : List Stmt} {h0 : ExceptHandler} {hs : List ExceptHandler} {pos : Pos} {D : Ends} (h : wSs X.nox body D σ H) : wS X (.Try body (h0 :: hs) [] [] pos) D σ H := ⟨_, ps_try_thru0 wSs_ok, h⟩
section
variable {ι : Type} {X : ι → Cx} {g : W5} {N : List Str} {k : Nat} {σ : L2.St} {Hb : Hp} {e : Expr} {pos : Pos} {C CC : Addr} {t : Nat × Mat}
theorem chRows [c : CtxZ X g N k] (o : ClOk g C tabF) (h : EV X e σ Hb (rCh C) t) (hb : ∀ i, attributeBase e "rows" (X i).env (eval e (X i).env) = eval e (X i).env := by intro _; rfl) : EV X (.Attribute e "rows" pos) σ Hb (rT (rT rInt)) (mat t.1 t.2) :=
  fldR o.cls (o.no "rows" (by decide)) (EP.imp h fun v H ⟨a, dx, fs, h1, h2, ⟨vr, h3, h4⟩, _⟩ => ⟨a, dx, fs, vr, h1, h2, h3, h4⟩) hb
theorem chSize [c : CtxZ X g N k] (o : ClOk g C tabF) (h : EV X e σ Hb (rCh C) t) (hb : ∀ i, attributeBase e "size" (X i).env (eval e (X i).env) = eval e (X i).env := by intro _; rfl) : EV X (.Attribute e "size" pos) σ Hb rInt (t.1 : Int) :=
  fldR o.cls (o.no "size" (by decide)) (EP.imp h fun v H ⟨a, dx, fs, h1, h2, _, h3⟩ => ⟨a, dx, fs, _, h1, h2, h3, rfl⟩) hb
theorem mkCh {b : Bool} : ∀ v H, (∃ a dx fs, v = V.ref a ∧ H a = some (.ins C dx fs) ∧ tabPost (b, t) fs H) → (rCh C).r H v t := fun v H ⟨a, dx, fs, h1, h2, h3, h4⟩ => ⟨a, dx, fs, h1, h2, h3, h4⟩
/-! notes -/
def ntPost (CC : Addr) (t : Nat × Mat × Mat) (fs : List (Str × V)) (H : Hp) : Prop := (∃ v, fs.lookup ("lows" : Str) = some v ∧ (rCh CC).r H v (t.1, t.2.1)) ∧ (∃ v, fs.lookup ("highs" : Str) = some v ∧ (rCh CC).r H v (t.1, t.2.2)) ∧
  fs.lookup ("size" : Str) = some (.int (t.1 : Int)) ∧ (∃ v, fs.lookup ("_unseen" : Str) = some v ∧ (rT (rP rInt rInt)).r H v (prs t.1 fun x y => decide (t.2.1 x y ≠ t.2.2 x y))) ∧ fs.lookup ("unseen" : Str) = none
theorem ntPost_up {t : Nat × Mat × Mat} : ∀ (fs : List (Str × V)) (H H' : Hp), Ex H H' → ntPost CC t fs H → ntPost CC t fs H' := fun fs H H' e ⟨⟨v, h1, h2⟩, ⟨u, h3, h4⟩, h5, ⟨w, h6, h7⟩, h8⟩ => ⟨⟨v, h1, (rCh CC).up e h2⟩, ⟨u, h3, (rCh CC).up e h4⟩, h5, ⟨w, h6, (rT (rP rInt rInt)).up e h7⟩, h8⟩
def rNt (CN CC : Addr) : Rep (Nat × Mat × Mat) := ⟨fun H v t => ∃ a dx fs, v = .ref a ∧ H a = some (.ins CN dx fs) ∧ ntPost CC t fs H, fun e ⟨a, dx, fs, h1, h2, h3⟩ => ⟨a, dx, fs, h1, e _ _ h2, ntPost_up _ _ _ e h3⟩⟩
variable {CN : Addr} {u : Nat × Mat × Mat}
theorem ntLows [c : CtxZ X g N k] (o : ClOk g CN ntF) (h : EV X e σ Hb (rNt CN CC) u) (hb : ∀ i, attributeBase e "lows" (X i).env (eval e (X i).env) = eval e (X i).env := by intro _; rfl) : EV X (.Attribute e "lows" pos) σ Hb (rCh CC) (u.1, u.2.1) :=
  fldR o.cls (o.no "lows" (by decide)) (EP.imp h fun v H ⟨a, dx, fs, h1, h2, ⟨w, h3, h4⟩, _⟩ => ⟨a, dx, fs, w, h1, h2, h3, h4⟩) hb
theorem ntHighs [c : CtxZ X g N k] (o : ClOk g CN ntF) (h : EV X e σ Hb (rNt CN CC) u) (hb : ∀ i, attributeBase e "highs" (X i).env (eval e (X i).env) = eval e (X i).env := by intro _; rfl) : EV X (.Attribute e "highs" pos) σ Hb (rCh CC) (u.1, u.2.2) :=
  fldR o.cls (o.no "highs" (by decide)) (EP.imp h fun v H ⟨a, dx, fs, h1, h2, _, ⟨w, h3, h4⟩, _⟩ => ⟨a, dx, fs, w, h1, h2, h3, h4⟩) hb
theorem ntSize [c : CtxZ X g N k] (o : ClOk g CN ntF) (h : EV X e σ Hb (rNt CN CC) u) (hb : ∀ i, attributeBase e "size" (X i).env (eval e (X i).env) = eval e (X i).env := by intro _; rfl) : EV X (.Attribute e "size" pos) σ Hb rInt (u.1 : Int) :=
  fldR o.cls (o.no "size" (by decide)) (EP.imp h fun v H ⟨a, dx, fs, h1, h2, _, _, h3, _⟩ => ⟨a, dx, fs, _, h1, h2, h3, rfl⟩) hb
theorem ntUns [c : CtxZ X g N k] (o : ClOk g CN ntF) (h : EV X e σ Hb (rNt CN CC) u) (hb : ∀ i, attributeBase e "_unseen" (X i).env (eval e (X i).env) = eval e (X i).env := by intro _; rfl) : EV X (.Attribute e "_unseen" pos) σ Hb (rT (rP rInt rInt)) (prs u.1 fun x y => decide (u.2.1 x y ≠ u.2.2 x y)) :=
  fldR o.cls (o.no "_unseen" (by decide)) (EP.imp h fun v H ⟨a, dx, fs, h1, h2, _, _, _, ⟨w, h3, h4⟩, _⟩ => ⟨a, dx, fs, w, h1, h2, h3, h4⟩) hb
end
/-! _table_in -/
abbrev spTabIn (CT : Addr) : Sp := spF (fun t : Nat × Mat => al1 (rL (rL rInt)) (mat t.1 t.2)) (fun t => TabOk t.1 t.2) (fun t v H => (rCh CT).r H v t)
theorem ok_tabIn {g : W5} {CT : Addr} (D : DefOf g "_table_in" pTableIn) (FT : ClB g CX0 3 "Table" CT ["self", "rows"] (spTabInit CT)) : FnB g CX0 5 "_table_in" ["rows"] [] (spTabIn CT) := by
  refine def_ok D pTableInS (by decide +kernel) len1 (fun _ _ _ _ _ _ us hl => match us, hl with | [_], _ => rfl) fun f0 cdv A outer s H vs Q E cx ⟨t, Hb, e, h0, ok, q⟩ => ?_
  obtain ⟨v, rfl, hv⟩ := AL.one h0
  exact s_one (s_try (s_one (s_ret (make FT (true, t) (ac (nm 0 (R := rL (rL rInt)) (a := mat t.1 t.2) (h := hv)) a0) rfl ok tabPost_up) e fun w Hk H2 g2 hw => q w Hk H2 g2 (mkCh w Hk hw))))
/-! _first_crossed -/
abbrev spCrossed : Sp := spF (fun t : Nat × Mat × Mat => al2 (rT (rT rInt)) (mat t.1 t.2.1) (rT (rT rInt)) (mat t.1 t.2.2)) (fun t => t.1 ≤ 8 ∧ ∀ x y, x < t.1 → y < t.1 → t.2.1 x y ≤ t.2.2 x y) (fun t v H => v = .non)
theorem ok_crossed {g : W5} (D : DefOf g "_first_crossed" pFirstCrossed) (T : TX g) : FnB g CX0 1 "_first_crossed" ["lows", "highs"] [] spCrossed := by
  refine def_ok D pFirstCrossedS (by decide +kernel) len2 (fun _ _ _ _ _ _ us hl => match us, hl with | [_, _], _ => rfl) fun f0 cdv A outer s H vs Q E cx ⟨⟨n, f, f'⟩, Hb, e, h0, ⟨hn, hle⟩, q⟩ => ?_
  obtain ⟨v, u, rfl, hv, hu⟩ := AL.two h0
  dsimp only at hv hu hn hle q
  refine s_cons (s_forB (iET T.enumerate (nm 0 (h := hv))) e (fun i σ Hk H' => ∃ o2 o3 o4 o5 : Option V, σ = [some v, some u, o2, o3, o4, o5] ∧ Go no Hb H Hk H') ⟨none, none, none, none, rfl, Go.refl e⟩ (fun i σ' Hk Hm H1 H2 ⟨o2, o3, o4, o5, hσ, G⟩ g2 => ⟨o2, o3, o4, o5, hσ, G.trans g2⟩) (fun i σ' Hk H' ⟨_, _, _, _, _, G⟩ => G.on) (fun i σ' Hk H' w hi ebk hI hx => ?_) fun σ' Hk H' ebk hI => ?_)
  · obtain ⟨o2, o3, o4, o5, rfl, G⟩ := hI
    obtain ⟨H0, e0, hx⟩ := hx
    refine gpair 2 3 ((rP rInt (rT rInt)).up e0 hx) G.on fun z w hz hw => ?_
    obtain rfl : z = .int (i : Int) := hz
    show wSs _ _ _ [some v, some u, some (.int (i : Int)), some w, o4, o5] H'
    refine s_one (s_forB (iET T.enumerate (nm 3 (h := hw))) G.on (fun j σ Hm H'' => ∃ o4 o5 : Option V, σ = [some v, some u, some (.int (i : Int)), some w, o4, o5] ∧ Go no Hb H Hm H'' ∧ Ex Hk Hm) ⟨_, _, rfl, G, Ex.refl _⟩ (fun j σ' Hk Hm H1 H2 ⟨o4, o5, hσ, G, e5⟩ g2 => ⟨o4, o5, hσ, G.trans g2, e5.trans g2.base⟩) (fun j σ' Hk H' ⟨_, _, _, G, _⟩ => G.on) (fun j σ' Hm H4 w2 hj ebm hI hx => ?_) fun σ' Hm H4 ebm hI => ?_)
    · obtain ⟨o4, o5, rfl, G4, e4⟩ := hI
      obtain ⟨H0, e0, hx⟩ := hx
      refine gpair 4 5 ((rP rInt rInt).up e0 hx) G4.on fun z w' hz hw' => ?_
      obtain rfl : z = .int (j : Int) := hz
      obtain rfl : w' = .int (f i j) := hw'
      show wSs _ _ _ [some v, some u, some (.int (i : Int)), some w, some (.int (j : Int)), some (.int (f i j))] H4
      refine s_one (s_if (ET.is (t' := false) (tgt (nm 5 (h := rfl)) (ixt (ixt (nm 1 (h := (rT (rT rInt)).up (ebk.trans e4) hu)) (nm 2 (h := rfl)) hi) (nm 4 (h := rfl)) hj)) (by have := hle i j hi hj; simp; omega)) G4.on (fun h => nomatch h) fun _ Hk5 H5 g5 => s_nil ⟨Hk5, g5.base, _, _, rfl, G4.trans g5, e4.trans g5.base⟩)
    · obtain ⟨o4, o5, rfl, G4, e4⟩ := hI
      exact ⟨Hm, e4, _, _, _, _, rfl, G4⟩
  · obtain ⟨o2, o3, o4, o5, rfl, G⟩ := hI
    exact s_one (s_ret cN G.on fun w Hk6 H6 g6 hw => q w Hk6 H6 (G.trans g6) hw)
/-! Notes.__init__ -/
structure NtOk (n : Nat) (f f' : Mat) : Prop where
  lo : TabOk n f
  hi : TabOk n f'
  jl : Joined n f
  jh : Joined n f'
  le : ∀ x y, x < n → y < n → f x y ≤ f' x y
abbrev spNtInit (CN CC : Addr) : Sp := spInit CN (fun t : Nat × Mat × Mat => al2 (rL (rL rInt)) (mat t.1 t.2.1) (rL (rL rInt)) (mat t.1 t.2.2)) (fun t => NtOk t.1 t.2.1 t.2.2) (ntPost CC)
theorem ok_ntInit {g : W5} {CT CC CN : Addr} {f : Addr} {fd : FuncData} (F : FunD g.K "__init__" "Notes.__init__" (defArgs mNotesInit) (defBody mNotesInit) (defScope mNotesInit) [] [] f fd) (T : TX g) (ct : ClOk g CT tabF) (cc : ClOk g CC tabF) (cn : ClOk g CN ntF) (FTI : FnB g CX0 5 "_table_in" ["rows"] [] (spTabIn CT))
    (FX : FnB g CX0 1 "_first_crossed" ["lows", "highs"] [] spCrossed) (FU : FnB g CX0 1 "_unlike_pairs" ["lows", "highs"] [] spUnlike) (FC : ClB g CX0 4 "Chain" CC ["self", "rows"] (spChInit CC)) :
    FnOk g.P g.w g.K g.mg g.base CX0 6 f fd ["self", "lows", "highs"] (spNtInit CN CC) ∧ Binds g.K fd ["self", "lows", "highs"] [] := by
  refine fun_ok F mNotesInitS (by decide +kernel) (len_ofI (n := 2) fun t H vs h => by obtain ⟨v, u, rfl, _⟩ := AL.two h; rfl) (fun _ _ _ _ _ _ us hl => match us, hl with | [_, _, _], _ => rfl) fun f0 cdv A outer s H vs Q E cx ⟨⟨n, lo, hi⟩, Hb, a, dx, us, e1, e, ha, hH, h0, ok, q⟩ => ?_
  obtain ⟨v, u, rfl, hv, hu⟩ := AL.two h0
  subst e1
  dsimp only at hv hu ok q
  have hn8 := ok.lo.hi
  refine s_cons (s_set 3 (call FTI (n, lo) (ac (nm 1 (h := hv)) a0) rfl ok.lo) e fun vl Hk H2 g2 hvl => ?_)
  have hu := (rL (rL rInt)).up g2.base hu
  refine s_cons (s_set 4 (call FTI (n, hi) (ac (nm 2 (h := hu)) a0) rfl ok.hi) g2.on fun vh Hk3 H3 g3 hvh => ?_)
  have G := g2.trans g3
  have hvl : (rCh CT).r Hk3 vl (n, lo) := (rCh CT).up g3.base hvl
  have hvh : (rCh CT).r Hk3 vh (n, hi) := hvh
  refine s_cons (s_if (ET.is (t' := false) (tne (chSize ct (nm 3 (h := hvl))) (chSize ct (nm 4 (h := hvh)))) (by simp)) G.on (fun h => nomatch h) fun _ Hk4 H4 g4 => s_nil ?_)
  have G := G.trans g4
  have hvl := (rCh CT).up g4.base hvl
  have hvh := (rCh CT).up g4.base hvh
  refine s_cons (s_set 5 (call FX (n, lo, hi) (ac (chRows ct (nm 3 (h := hvl))) (ac (chRows ct (nm 4 (h := hvh))) a0)) rfl ⟨hn8, ok.le⟩) G.on fun w Hk5 H5 g5 hw => ?_)
  obtain rfl : w = .non := hw
  have G := G.trans g5
  have hvl := (rCh CT).up g5.base hvl
  have hvh := (rCh CT).up g5.base hvh
  refine s_cons (s_if (ET.is (t' := false) (tNotN (t := true) (nmP (v := V.non) 5 (by simp))) rfl) G.on (fun h => nomatch h) fun _ Hk6 H6 g6 => s_nil ?_)
  have G := G.trans g6
  have hvl := (rCh CT).up g6.base hvl
  have hvh := (rCh CT).up g6.base hvh
  have hk6 : Hk6 a = none := G.fr a (some_ne hH) ha
  have h6 := G.real a _ (fun z => z) hH
  -- the fields
  refine s_cons (s_fld 0 (make FC (false, n, lo) (ac (EV.to (S := rM false) (chRows ct (nm 3 (h := hvl))) fun _ _ h => h) a0) rfl ⟨ok.lo, ok.jl⟩ tabPost_up) G.on cn.cls (cn.no _ (by decide)) h6 (by decide) fun w1 Hk7 H7 g7 hw1 h7 => ?_)
  have hw1 := mkCh w1 Hk7 hw1
  have hk7 : Hk7 a = none := g7.fr a (some_ne h6) hk6
  have G := go_self (S := no) (o := .ins CN dx (putF "lows" w1 [])) ((G.trans g7).more (S := (· = a))) hk7
  have hvl := (rCh CT).up g7.base hvl
  have hvh := (rCh CT).up g7.base hvh
  refine s_cons (s_fld 0 (make FC (false, n, hi) (ac (EV.to (S := rM false) (chRows ct (nm 4 (h := hvh))) fun _ _ h => h) a0) rfl ⟨ok.hi, ok.jh⟩ tabPost_up) G.on cn.cls (cn.no _ (by decide)) upd_same (Nat.lt_of_le_of_lt (lpt (Nat.zero_le 0)) (by decide)) fun w2 Hk8 H8 g8 hw2 h8 => ?_)
  have hw2 := mkCh w2 Hk8 hw2
  have hk8 : Hk8 a = none := g8.fr a (some_ne upd_same) hk7
  have G := go_self (S := no) (o := .ins CN dx (putF "highs" w2 (putF "lows" w1 []))) (G.trans (g8.more (S := (· = a)))) hk8
  have hvl := (rCh CT).up g8.base hvl
  have hvh := (rCh CT).up g8.base hvh
  have hw1 := (rCh CC).up g8.base hw1
  refine s_cons (s_fld 0 (chSize ct (nm 3 (h := hvl))) G.on cn.cls (cn.no _ (by decide)) upd_same (Nat.lt_of_le_of_lt (lpt (lpt (Nat.zero_le 0))) (by decide)) fun w3 Hk9 H9 g9 hw3 h9 => ?_)
  obtain rfl : w3 = .int (n : Int) := hw3
  have hk9 : Hk9 a = none := g9.fr a (some_ne upd_same) hk8
  have G := go_self (S := no) (o := .ins CN dx (putF "size" (.int (n : Int)) (putF "highs" w2 (putF "lows" w1 [])))) (G.trans (g9.more (S := (· = a)))) hk9
  have hvl := (rCh CT).up g9.base hvl
  have hvh := (rCh CT).up g9.base hvh
  have hw1 := (rCh CC).up g9.base hw1
  have hw2 := (rCh CC).up g9.base hw2
  refine s_one (s_fld 0 (call FU (n, lo, hi) (ac (chRows ct (nm 3 (h := hvl))) (ac (chRows ct (nm 4 (h := hvh))) a0)) rfl hn8) G.on cn.cls (cn.no _ (by decide)) upd_same (Nat.lt_of_le_of_lt (lpt (lpt (lpt (Nat.zero_le 0)))) (by decide)) fun w4 Hk10 H10 g10 hw4 h10 => ?_)
  have hk10 : Hk10 a = none := g10.fr a (some_ne upd_same) hk9
  have G := go_self (S := no) (o := .ins CN dx (putF "_unseen" w4 (putF "size" (.int (n : Int)) (putF "highs" w2 (putF "lows" w1 []))))) (G.trans (g10.more (S := (· = a)))) hk10
  exact q _ Hk10 _ G hk10 upd_same ⟨⟨w1, by rw [lk_put, lk_put, lk_put, lk_put]; rfl, (rCh CC).up g10.base hw1⟩, ⟨w2, by rw [lk_put, lk_put, lk_put]; rfl, (rCh CC).up g10.base hw2⟩, by rw [lk_put, lk_put]; rfl, ⟨w4, by rw [lk_put]; rfl, hw4⟩, by rw [lk_put, lk_put, lk_put, lk_put]; rfl⟩
end K
/-! KC: bounds_of, steps_at. -/
namespace K
open PySem.Spec PySem PyProof.Rows L2 Z M
/-- a new object goes into the base -/
theorem bring {Hk H' Hg H2 : Hp} {p : Addr} {o : HO} (c : Ex Hk H') (g : Go no H' H' Hg H2) (hr : H' p = none) (hg : Hg p = some o) : Go no Hk H' (upd Hk p o) H2 := (Go.ofEx c g.ex).fix hr (g.on _ _ hg) (c.none hr)
/-- a new tuple of ints -/
theorem dTn {ι : Type} {X : ι → Cx} {σ : L2.St} {Hb : Hp} {es : List Expr} {l : List Int} {j0 : Nat} {pos : Pos} (h : ES X es σ Hb rInt l) (hz : l.length ≤ 1000) : Z.EP X (.Tuple es j0 pos) σ Hb (fun v Hg => ∃ p, v = .ref p ∧ Hb p = none ∧ Hg p = some (.tup (l.map .int))) := fun H1 c1 Q q =>
  ⟨_, fun i => pe_tup (wA_ok i), h H1 c1 _ fun vs Hk H2 g1 r => ⟨Nat.le_trans (Nat.le_of_eq r.len) (Nat.le_trans hz (by decide)), fun p hp => q _ (upd Hk p (.tup vs)) _ (g1.trans (Go.new g1.on hp)) ⟨p, rfl, c1.none (g1.ex.none hp), by rw [upd_same, P2.ints r]⟩⟩⟩
/-- a matrix outside the base, looked at alone -/
structure MxO (Hb H : Hp) (p : Addr) (as : List Addr) (n : Nat) (f : Mat) : Prop extends Mx H p as n f where
  off : ∀ b ∈ p :: as, Hb b = none
theorem MxO.go {S : Addr → Prop} {Hk H Hm H' : Hp} {p : Addr} {as : List Addr} {n : Nat} {f : Mat} (m : MxO Hk H p as n f) (g : Go S Hk H Hm H') (hs : ∀ b ∈ p :: as, ¬ S b) : MxO Hm H' p as n f :=
  ⟨⟨m.len, m.nd, m.out, g.real _ _ (hs p (List.mem_cons_self ..)) m.top, fun i a ha => g.real _ _ (hs a (List.mem_cons_of_mem _ (List.mem_of_getElem? ha))) (m.row i a ha)⟩, fun b hb => g.fr b (by
    rcases List.mem_cons.1 hb with z | z
    · rw [z, m.top]; exact fun z => nomatch z
    · obtain ⟨i, hi⟩ := List.getElem?_of_mem z
      rw [m.row i b hi]; exact fun z => nomatch z) (m.off b hb)⟩
theorem MxO.go0 {Hk H Hm H' : Hp} {p : Addr} {as : List Addr} {n : Nat} {f : Mat} (m : MxO Hk H p as n f) (g : Go no Hk H Hm H') : MxO Hm H' p as n f := m.go g fun _ _ z => z
theorem Mx.live {H : Hp} {p : Addr} {as : List Addr} {n : Nat} {f : Mat} (m : Mx H p as n f) : ∀ b ∈ p :: as, H b ≠ none := fun b hb => by
  rcases List.mem_cons.1 hb with z | z
  · rw [z, m.top]; exact fun z => nomatch z
  · obtain ⟨i, hi⟩ := List.getElem?_of_mem z
    rw [m.row i b hi]; exact fun z => nomatch z
theorem MxO.wr' {Hk H : Hp} {p r : Addr} {as : List Addr} {n : Nat} {f : Mat} {o : HO} (m : MxO Hk H p as n f) (h : r ∉ p :: as) : MxO Hk (upd H r o) p as n f :=
  ⟨⟨m.len, m.nd, m.out, by rw [upd_ne (fun z => h (by rw [← z]; exact List.mem_cons_self ..))]; exact m.top, fun i a ha => by rw [upd_ne (fun z => h (by rw [← z]; exact List.mem_cons_of_mem _ (List.mem_of_getElem? ha)))]; exact m.row i a ha⟩, m.off⟩
theorem MxO.ex {Hk H H' : Hp} {p : Addr} {as : List Addr} {n : Nat} {f : Mat} (m : MxO Hk H p as n f) (e : Ex H H') : MxO Hk H' p as n f := ⟨m.toMx.mono e, m.off⟩
theorem MxM.o {H0 Hk H : Hp} {p : Addr} {as : List Addr} {n : Nat} {f : Mat} (m : MxM H0 Hk H p as n f) : MxO Hk H p as n f := ⟨m.toMx, m.off⟩
/-- name = [elt for ..], no test -/
theorem s_setLcA {X : Cx} {g : W5} {N : List Str} {k : Nat} {γ : Type} {σ : L2.St} {H Hb : Hp} {e tg : Expr} {pos : Pos} {x : Str} {n : Nat} {D : Ends} [c : CtxZ (u1 X) g N k] {S : Rep γ} {elt : Expr} {scope : Scope} {Y : Nat → V → Hp → Prop} (j : Nat) (own : List (Str × Nat)) (hi : EI (u1 X) tg e σ Hb n Y) (v : Nat → γ) (hn : n ≤ 1000000) (cx : Ex Hb H)
    (ht : ∀ i x Hk H, i < n → Ex Hb Hk → Ex Hk H → Y i x Hk → wG (bX (u1 X) scope) tg x (wipe σ (own.map (·.2))) H fun σ2 H2 => H2 = H ∧ wipe σ2 (own.map (·.2)) = wipe σ (own.map (·.2)) ∧ EV (bX (u1 X) scope) elt σ2 Hk S (v i))
    (q : ∀ w Hk H2, Go no Hb H Hk H2 → (rL S).r Hk w (tab n v) → D.nx (σ.set j (some w)) H2) {pos' spos : Pos}
    (hN : N[j]? = some x := by rfl) (hyl : X.env.scope.names.lookup x = some .local := by rfl) (hsw : swapsWith (.ListComp elt [⟨tg, e, [], 0⟩] scope pos) (some (.Name x pos')) spos.line X.env = pure true := by exact sw_true rfl rfl rfl (by kernel_rfl))
    (ok : BlkOk N X.env.scope scope own := by exact blkOk_by (by kernel_rfl)) (hs : ∀ x, foldedSetIterable e X.env x = pure x := by intro _; rfl) :
    wS X (.Assign [.Name x pos'] (.ListComp elt [⟨tg, e, [], 0⟩] scope pos) spos) D σ H :=
  s_setLc j own hi (fun _ => true) v hn cx (fun i x Hk H h1 h2 h3 h4 => wG_mono (ht i x Hk H h1 h2 h3 h4) fun _ _ ⟨a, b, d⟩ => ⟨a, b, ts0, fun _ => d⟩) (fun w Hk H2 g1 r => q w Hk H2 g1 (by rw [← got_all]; exact r)) hN hyl hsw ok hs
/-! bounds_of -/
abbrev rB2 : Rep (List (List Int) × List (List Int)) := rP (rL (rL rInt)) (rL (rL rInt))
abbrev scl (r : Nat → Int) (f : Mat) : Mat := fun x y => r x * f x y
abbrev spBounds (CN CC : Addr) : Sp := spF (fun t : (Nat × Mat × Mat) × (Nat → Int) => al2 (rNt CN CC) t.1 (rT rInt) (tab t.1.1 t.2)) (fun t => t.1.1 ≤ 8 ∧ ∀ x, x < t.1.1 → 1 ≤ t.2 x ∧ t.2 x ≤ 1000000) (fun t v H => rB2.r H v (mat t.1.1 (scl t.2 t.1.2.1), mat t.1.1 (scl t.2 t.1.2.2)))
theorem ok_bounds {g : W5} {CN CC : Addr} (D : DefOf g "bounds_of" pBoundsOf) (T : TX g) (cn : ClOk g CN ntF) (cc : ClOk g CC tabF) : FnB g CX0 1 "bounds_of" ["notes", "row"] [] (spBounds CN CC) := by
  refine def_ok D pBoundsOfS (by decide +kernel) len2 (fun _ _ _ _ _ _ us hl => match us, hl with | [_, _], _ => rfl) fun f0 cdv A outer s H vs Q E cx ⟨⟨⟨n, lo, hi⟩, r⟩, Hb, e, h0, ⟨hn, hr⟩, q⟩ => ?_
  obtain ⟨v, u, rfl, hv, hu⟩ := AL.two h0
  dsimp only at hv hu hn hr q
  refine s_cons (s_setLcA 2 [("entry", 4), ("rates", 5), ("rate", 3)] (S := rL rInt) (iZTT T.zip (nm 1 (h := hu)) (chRows cc (ntLows cn (nm 0 (h := hv))))) (fun x => tab n fun y => r x * lo x y) (by omega) e (fun i x Hk H hi e1 e2 hx => gpair 4 5 hx e2 fun z w hz hw => ⟨rfl, rfl, ?_⟩) fun w Hk H2 g2 hw => ?_)
  · have hz : z = .int (r i) := hz
    subst hz
    have := hr i hi
    exact lc [("rate", 3)] (iT (nm 5 (h := hw))) (fun y => r i * lo i y) (by omega) fun j y Hk' H' hj e3 e4 hy => gn 3 ⟨rfl, rfl, mul (nm 4 (h := rfl)) (nm 3 (h := hy)) (.inl ⟨by omega, by omega⟩)⟩
  · have hu := (rT rInt).up g2.base hu
    have hv := (rNt CN CC).up g2.base hv
    refine s_cons (s_setLcA 6 [("entry", 4), ("rates", 5), ("rate", 3)] (S := rL rInt) (iZTT T.zip (nm 1 (h := hu)) (chRows cc (ntHighs cn (nm 0 (h := hv))))) (fun x => tab n fun y => r x * hi x y) (by omega) g2.on (fun i x Hk H hi' e1 e2 hx => gpair 4 5 hx e2 fun z w hz hw => ⟨rfl, rfl, ?_⟩) fun w2 Hk3 H3 g3 hw2 => ?_)
    · have hz : z = .int (r i) := hz
      subst hz
      have := hr i hi'
      exact lc [("rate", 3)] (iT (nm 5 (h := hw))) (fun y => r i * hi i y) (by omega) fun j y Hk' H' hj e3 e4 hy => gn 3 ⟨rfl, rfl, mul (nm 4 (h := rfl)) (nm 3 (h := hy)) (.inl ⟨by omega, by omega⟩)⟩
    · have hw := (rL (rL rInt)).up g3.base hw
      exact s_one (s_ret (dP (ac (nm 2 (R := rL (rL rInt)) (a := mat n (scl r lo)) (h := hw)) (ac (nm 6 (R := rL (rL rInt)) (a := mat n (scl r hi)) (h := hw2)) a0))) g3.on fun z Hk4 H4 g4 hz => q z Hk4 H4 ((g2.trans g3).trans g4) hz)
/-! steps_at -/
instance {α : Type} {R : Rep α} [DecidableEq α] [PySem.W.Datum α] [PySem.W.SomeDatum α] [h : DR R] : DR (rO R) := ⟨fun {K H v a} hv => by
  cases a with
  | none => cases (show v = .non from hv); exact .non
  | some a => exact h.dp hv.1, fun a => by
  cases a with
  | none => rfl
  | some a => exact h.cl a⟩
abbrev rCl : Rep Cl := rO (rP rInt rInt)
theorem toCl {H : Hp} {v : V} {a : Int × Int} (h : (rP rInt rInt).r H v a) : rCl.r H v (some a) := ⟨h, by obtain ⟨p, x, y, e, _⟩ := h; rw [e]; exact fun z => nomatch z⟩
/-- its arguments: the flows lie outside the base -/
def spSteps : Sp := fun vs H1 Q _ => ∃ (n : Nat) (lo hi F : Mat) (cl : Cl) (z : Nat) (Hb : Hp) (p : Addr) (as : List Addr) (vb vc : V), vs = [vb, .ref p, .int (z : Int), vc] ∧ Ex Hb H1 ∧ MxO Hb H1 p as n F ∧ rB2.r Hb vb (mat n lo, mat n hi) ∧ rCl.r Hb vc cl ∧ n ≤ 8 ∧ z < n ∧
  ∀ v Hk H2 l, Go no Hb H1 Hk H2 → (rL (rT rInt)).r Hk v l → StepsAt n lo hi F cl z l → Q v H2
theorem ok_steps {g : W5} (D : DefOf g "steps_at" pStepsAt) (T : TX g) : FnB g CX0 1 "steps_at" ["bounds", "flows", "z", "closed"] [] spSteps := by
  refine def_ok D pStepsAtS (by decide +kernel) (fun vs H Q E ⟨n, lo, hi, F, cl, z, Hb, p, as, vb, vc, h, _⟩ => by rw [h]; rfl) (fun _ _ _ _ _ _ us hl => match us, hl with | [_, _, _, _], _ => rfl) fun f0 cdv A outer s H vs Q E cx ⟨n, lo, hi, F, cl, z, Hb, p, as, vb, vc, hvs, e, Mo, hb, hc, hn, hz, q⟩ => ?_
  subst hvs
  obtain ⟨pb, x1, x2, rfl, hpb, hlo, hhi⟩ := hb
  dsimp only at hlo hhi
  -- least, most = bounds
  refine s_cons (s_asg (nmP (v := .ref pb) (Φ := fun v _ => v = .ref pb) 0 rfl) e fun w Hk H2 g2 hw => ?_)
  subst hw
  refine gtu (g2.ex _ _ (e _ _ hpb)) (gsc (gn 4 (gsc (gn 5 (gs0 ?_)))))
  have G := Go.ofEx e g2.ex
  have Mo := Mo.go0 G
  show wSs _ _ _ [some (.ref pb), some (.ref p), some (.int (z : Int)), some vc, some x1, some x2, none, none] H2
  refine s_cons (s_nilL 6 fun fl hfl => ?_)
  have Mo0 := Mo
  obtain ⟨G, Fm⟩ := G.own hfl (o := .lst [])
  have Mo := Mo.ex (Ex.new hfl (o := .lst []))
  have hnp : fl ∉ p :: as := fun h => K.Mx.live Mo0.toMx fl h hfl
  refine s_cons (s_forR (n := n) T.range 7 (EV.is (len T.len (nm 1 (h := Mo.toMx.rep))) (by rw [tab_len])) (Ex.refl _) (by omega)
    (fun i σ H' => ∃ (Hk : Hp) (o7 : Option V) (xs : List V) (l : List (List Int)), σ = [some (.ref pb), some (.ref p), some (.int (z : Int)), some vc, some x1, some x2, some (.ref fl), o7] ∧ Go no Hb H Hk H' ∧ MxO Hk H' p as n F ∧ Mu H Hk H' fl (.lst xs) ∧ P2 ((rT rInt).r Hk) xs l ∧
      (∀ s ∈ l, ∃ w, w < n ∧ StepOk lo hi F cl z w s) ∧ (∀ w, w < i → Res lo hi F cl z w → ∃ s ∈ l, StepOk lo hi F cl z w s) ∧ l.length ≤ 2 * i)
    (fun Hk H3 g3 => ⟨Hb, none, [], [], rfl, G.step g3.ex, Mo.ex g3.ex, Fm.ex g3.ex, .nil, by simp, fun w hw => by omega, by simp⟩) (fun i σ' H' hi' hI => ?_) fun σ' H' hI => ?_)
  · obtain ⟨Hk, o7, xs, l, rfl, G, Mo, Fm, hxs, ok, al, hlen⟩ := hI
    show wSs _ _ _ [some (.ref pb), some (.ref p), some (.int (z : Int)), some vc, some x1, some x2, some (.ref fl), some (.int (i : Int))] H'
    have hlo' : (rL (rL rInt)).r H' x1 (mat n lo) := (rL (rL rInt)).up (G.base.trans G.on) hlo
    have hhi' : (rL (rL rInt)).r H' x2 (mat n hi) := (rL (rL rInt)).up (G.base.trans G.on) hhi
    have hc' : rCl.r H' vc cl := rCl.up (G.base.trans G.on) hc
    refine s_cons (s_ifJ (fun σ H' => ∃ (Hk : Hp) (xs : List V) (l : List (List Int)), σ = [some (.ref pb), some (.ref p), some (.int (z : Int)), some vc, some x1, some x2, some (.ref fl), some (.int (i : Int))] ∧ Go no Hb H Hk H' ∧ MxO Hk H' p as n F ∧ Mu H Hk H' fl (.lst xs) ∧ P2 ((rT rInt).r Hk) xs l ∧
        (∀ s ∈ l, ∃ w, w < n ∧ StepOk lo hi F cl z w s) ∧ (∀ w, w < i → Res lo hi F cl z w → ∃ s ∈ l, StepOk lo hi F cl z w s) ∧ (i ≠ z → some ((z : Int), (i : Int)) ≠ cl → F z i < hi z i → ∃ s ∈ l, StepOk lo hi F cl z i s) ∧ l.length ≤ 2 * i + 1)
      (tW (wand (tne (nm 7 (h := rfl)) (nm 2 (h := rfl))) fun _ => wand (tNeD (R := rCl) (a := some ((z : Int), (i : Int))) (EV.to (dP (ac (nm 2 (h := rfl)) (ac (nm 7 (h := rfl)) a0))) fun _ _ h => toCl h) (nm 3 (h := hc'))) fun _ => wand1 (tlt (ixt (ixt (nm 1 (h := Mo.toMx.rep)) (nm 2 (h := rfl)) hz) (nm 7 (h := rfl)) hi') (ixt (ixt (nm 5 (h := hhi')) (nm 2 (h := rfl)) hz) (nm 7 (h := rfl)) hi')))) (Ex.refl H')
      (fun ht H3 e3 => ?_) (fun ht H3 e3 => s_nil ⟨Hk, xs, l, rfl, G.step e3, Mo.ex e3, Fm.ex e3, hxs, ok, al, fun h1 h2 h3 => by
        have h1' : ¬ (i : Int) = (z : Int) := by omega
        simp [h1', h2] at ht; omega, by omega⟩) fun σ2 H3 hJ => ?_)
    · simp only [Bool.and_eq_true, decide_eq_true_eq, Bool.not_eq_true', decide_eq_false_iff_not] at ht
      obtain ⟨t1, t2, t3⟩ := ht
      have t1 : i ≠ z := fun w => t1 (by rw [w])
      have G := G.step e3
      have Mo := Mo.ex e3
      have Fm := Fm.ex e3
      refine s_one (s_app (j := 6) (dTn (l := [(i : Int), (z : Int), (i : Int), 1, hi z i - F z i]) (esc (nm 7 (h := rfl)) (esc (nm 2 (h := rfl)) (esc (nm 7 (h := rfl)) (esc cI (esc (sub (ixt (ixt (nm 5 (h := (rL (rL rInt)).up e3 hhi')) (nm 2 (h := rfl)) hz) (nm 7 (h := rfl)) hi') (ixt (ixt (nm 1 (h := Mo.toMx.rep)) (nm 2 (h := rfl)) hz) (nm 7 (h := rfl)) hi')) es0))))) (by show 5 ≤ 1000; decide)) (Ex.refl H3) Fm.at_ (by rw [hxs.len]; omega) fun w Hg H4 g4 hw h4 => ?_)
      obtain ⟨r, rfl, hr3, hrg⟩ := hw
      have gq := bring G.on g4 hr3 hrg
      generalize hHm : upd Hk r _ = Hm at gq
      have hrep : (rT rInt).r Hm (.ref r) [(i : Int), (z : Int), (i : Int), 1, hi z i - F z i] := rInt.mkT (by rw [← hHm, upd_same])
      refine ⟨Hm, _, l ++ [[(i : Int), (z : Int), (i : Int), 1, hi z i - F z i]], rfl, (G.trans gq).mu (Fm.go0 gq), (Mo.go0 gq).wr' hnp, (Fm.go0 gq).wr, (hxs.imp fun _ _ => (rT rInt).up gq.base).snoc hrep, fun s hs => ?_, fun w hw hr => ?_, fun _ _ _ => ⟨_, List.mem_append_right _ (List.mem_singleton.mpr rfl), .fwd t1 t2 t3⟩, by rw [List.length_append, List.length_singleton]; omega⟩
      · rcases List.mem_append.1 hs with h | h
        · exact ok s h
        · rw [List.mem_singleton.1 h]; exact ⟨i, hi', .fwd t1 t2 t3⟩
      · obtain ⟨s, hs, h⟩ := al w hw hr
        exact ⟨s, List.mem_append_left _ hs, h⟩
    · obtain ⟨Hk, xs, l, rfl, G, Mo, Fm, hxs, ok, al, fw, hlen⟩ := hJ
      have hlo' : (rL (rL rInt)).r H3 x1 (mat n lo) := (rL (rL rInt)).up (G.base.trans G.on) hlo
      have hc' : rCl.r H3 vc cl := rCl.up (G.base.trans G.on) hc
      refine s_one (s_if (tW (wand (tne (nm 7 (h := rfl)) (nm 2 (h := rfl))) fun _ => wand (tNeD (R := rCl) (a := some ((i : Int), (z : Int))) (EV.to (dP (ac (nm 7 (h := rfl)) (ac (nm 2 (h := rfl)) a0))) fun _ _ h => toCl h) (nm 3 (h := hc'))) fun _ => wand1 (tgt (ixt (ixt (nm 1 (h := Mo.toMx.rep)) (nm 7 (h := rfl)) hi') (nm 2 (h := rfl)) hz) (ixt (ixt (nm 4 (h := hlo')) (nm 7 (h := rfl)) hi') (nm 2 (h := rfl)) hz)))) (Ex.refl H3)
        (fun ht Hg H4 g4 => ?_) (fun ht Hg H4 g4 => s_nil ⟨Hk, _, xs, l, rfl, G.step g4.ex, Mo.ex g4.ex, Fm.ex g4.ex, hxs, ok, fun w hw hr => ?_, by omega⟩))
      · simp only [Bool.and_eq_true, decide_eq_true_eq, Bool.not_eq_true', decide_eq_false_iff_not] at ht
        obtain ⟨t1, t2, t3⟩ := ht
        have t1 : i ≠ z := fun w => t1 (by rw [w])
        have e3 := g4.ex
        have G := G.step e3
        have Mo := Mo.ex e3
        have Fm := Fm.ex e3
        refine s_one (s_app (j := 6) (dTn (l := [(i : Int), (i : Int), (z : Int), -1, F i z - lo i z]) (esc (nm 7 (h := rfl)) (esc (nm 7 (h := rfl)) (esc (nm 2 (h := rfl)) (esc (neg cI) (esc (sub (ixt (ixt (nm 1 (h := Mo.toMx.rep)) (nm 7 (h := rfl)) hi') (nm 2 (h := rfl)) hz) (ixt (ixt (nm 4 (h := (rL (rL rInt)).up e3 hlo')) (nm 7 (h := rfl)) hi') (nm 2 (h := rfl)) hz)) es0))))) (by show 5 ≤ 1000; decide)) (Ex.refl H4) Fm.at_ (by rw [hxs.len]; omega) fun w Hg H5 g5 hw h5 => ?_)
        obtain ⟨r, rfl, hr3, hrg⟩ := hw
        have gq := bring G.on g5 hr3 hrg
        generalize hHm : upd Hk r _ = Hm at gq
        have hrep : (rT rInt).r Hm (.ref r) [(i : Int), (i : Int), (z : Int), -1, F i z - lo i z] := rInt.mkT (by rw [← hHm, upd_same])
        refine ⟨Hm, _, _, l ++ [[(i : Int), (i : Int), (z : Int), -1, F i z - lo i z]], rfl, (G.trans gq).mu (Fm.go0 gq), (Mo.go0 gq).wr' hnp, (Fm.go0 gq).wr, (hxs.imp fun _ _ => (rT rInt).up gq.base).snoc hrep, fun s hs => ?_, fun w hw hr => ?_, by rw [List.length_append, List.length_singleton]; omega⟩
        · rcases List.mem_append.1 hs with h | h
          · exact ok s h
          · rw [List.mem_singleton.1 h]; exact ⟨i, hi', .bwd t1 t2 t3⟩
        · by_cases h : w = i
          · subst h; exact ⟨_, List.mem_append_right _ (List.mem_singleton.mpr rfl), .bwd t1 t2 t3⟩
          · obtain ⟨s, hs, h⟩ := al w (by omega) hr
            exact ⟨s, List.mem_append_left _ hs, h⟩
      · by_cases h : w = i
        · subst h
          obtain ⟨h1, h2⟩ := hr
          rcases h2 with ⟨h2, h3⟩ | ⟨h2, h3⟩
          · exact fw h1 h2 h3
          · have h1' : ¬ (w : Int) = (z : Int) := by omega
            simp [h1', h2] at ht; omega
        · exact al w (by omega) hr
  · obtain ⟨Hk, o7, xs, l, rfl, G, Mo, Fm, hxs, ok, al, hlen⟩ := hI
    have G2 := G.fixm Fm
    refine s_one (s_ret (nm 6 (R := rL (rT rInt)) (a := l) (h := ⟨fl, xs, rfl, upd_same, hxs.imp fun _ _ => (rT rInt).up (Ex.new Fm.off)⟩)) G2.on fun w Hg H3 g3 hw => ?_)
    exact q w Hg H3 l (G2.trans g3) hw ⟨ok, al, hlen⟩
end K
/-! KD: the search. -/
namespace K
open PySem.Spec PySem PyProof.Rows L2 Z M
abbrev rCm : Rep (Option (Int × List Int)) := rO (rP rInt (rT rInt))
/-- the dict that says how the states were come to -/
def CmAt (Hb : Hp) (kvs : List (Key × V)) (cm : Came) : Prop := ∀ z : Nat, match cm z with
  | none => valV kvs (.inl (z : Int)) = none
  | some o => ∃ v, valV kvs (.inl (z : Int)) = some v ∧ rCm.r Hb v (o.map fun b => ((b.1 : Int), b.2))
theorem CmAt.up {H H' : Hp} {kvs : List (Key × V)} {cm : Came} (h : CmAt H kvs cm) (e : Ex H H') : CmAt H' kvs cm := fun z => by
  have := h z
  cases q : cm z with
  | none => rw [q] at this; exact this
  | some o =>
    rw [q] at this
    obtain ⟨v, h1, h2⟩ := this
    exact ⟨v, h1, rCm.up e h2⟩
theorem CmAt.get {H : Hp} {kvs : List (Key × V)} {cm : Came} {z : Nat} {o : Option (Nat × List Int)} (h : CmAt H kvs cm) (e : cm z = some o) : ∃ v, valV kvs (.inl (z : Int)) = some v ∧ rCm.r H v (o.map fun b => ((b.1 : Int), b.2)) := by
  have := h z; rw [e] at this; exact this
theorem CmAt.put {H : Hp} {kvs : List (Key × V)} {cm : Came} {c : Nat} {v : V} {o : Option (Nat × List Int)} (h : CmAt H kvs cm) (r : rCm.r H v (o.map fun b => ((b.1 : Int), b.2))) : CmAt H (putK kvs (.inl (c : Int)) v) (fun y => if y = c then some o else cm y) := fun z => by
  by_cases e : z = c
  · subst e
    simp only [if_true]
    exact ⟨v, by rw [valV_put, if_pos rfl], r⟩
  · have hne : ¬ (Sum.inl (z : Int) : Key) = .inl (c : Int) := fun w => e (by have := Sum.inl.inj w; omega)
    simp only [e, if_false]
    have := h z
    cases q : cm z with
    | none => rw [q] at this; simp only; rw [valV_put, if_neg hne]; exact this
    | some o =>
      rw [q] at this
      obtain ⟨v, h1, h2⟩ := this
      exact ⟨v, by rw [valV_put, if_neg hne]; exact h1, h2⟩
abbrev rSt : Rep (List (List Int)) := rL (rT rInt)
abbrev rWay : Rep (Int × Int × List (List Int)) := rP3 rInt rInt rSt
/-! _traced -/
def spTraced : Sp := fun vs H1 Q _ => ∃ (Hb : Hp) (d : Addr) (kvs : List (Key × V)) (cm : Came) (b a : Nat) (ss : List (List Int)), vs = [.ref d, .int (b : Int)] ∧ Ex Hb H1 ∧ Hb d = none ∧ H1 d = some (.dK kvs) ∧ CmAt Hb kvs cm ∧ Tr cm b a ss ∧ ss.length ≤ 100 ∧
  ∀ v Hk H2, Go no Hb H1 Hk H2 → rWay.r Hk v ((a : Int), (b : Int), ss) → Q v H2
theorem ok_traced {g : W5} (D : DefOf g "_traced" pTraced) (T : TX g) : FnB g CX0 1 "_traced" ["came", "goal"] [] spTraced := by
  refine def_ok D pTracedS (by decide +kernel) (fun vs H Q E ⟨Hb, d, kvs, cm, b, a, ss, h, _⟩ => by rw [h]; rfl) (fun _ _ _ _ _ _ us hl => match us, hl with | [_, _], _ => rfl) fun f0 cdv A outer s H vs Q E cx ⟨Hb, d, kvs, cm, b, a, ss, hvs, e, hbd, hd, hcm, htr, hss, q⟩ => ?_
  subst hvs
  refine s_cons (s_nilL 2 fun fl hfl => ?_)
  obtain ⟨G, Fm⟩ := (Go.refl (S := no) e).own hfl (o := .lst [])
  have hdf : d ≠ fl := fun z => by rw [z, hfl] at hd; cases hd
  have hd : upd H fl (.lst []) d = some (.dK kvs) := by rw [upd_ne hdf]; exact hd
  refine s_cons (s_set 3 (nm 1 (R := rInt) (a := (b : Int)) (h := rfl)) G.on fun w Hk H2 g2 hw => ?_)
  obtain rfl : w = .int (b : Int) := hw
  refine s_cons (s_while (fun m σ H' => ∃ (z : Nat) (s1 s2 : List (List Int)) (xs : List V) (o4 o5 : Option V), m = s2.length ∧ σ = [some (.ref d), some (.int (b : Int)), some (.ref fl), some (.int (z : Int)), o4, o5] ∧ Go no Hb H Hb H' ∧ H' d = some (.dK kvs) ∧ Mu H Hb H' fl (.lst xs) ∧ P2 ((rT rInt).r Hb) xs s1 ∧ Tr cm z a s2 ∧ ss = s1 ++ s2)
    ⟨_, b, [], ss, [], none, none, rfl, rfl, G.step g2.ex, g2.ex _ _ hd, Fm.ex g2.ex, .nil, htr, rfl⟩ fun m σ' H' hI => ?_)
  obtain ⟨z, s1, s2, xs, o4, o5, rfl, rfl, G, hd, Fm, hxs, htr, hss2⟩ := hI
  cases htr with
  | root hz =>
    obtain ⟨v, hv, hr⟩ := hcm.get hz
    have hr : v = .non := hr
    subst hr
    refine tNotN (t := true) (EP.imp (dg 0 hd (nm 3 (h := rfl)) hv) fun u _ hu => by rw [hu]; simp) H' (Ex.refl _) _ fun Hg H3 g3 => ?_
    rw [if_neg (by simp)]
    have G := G.step g3.ex
    have Fm := Fm.ex g3.ex
    have G2 := G.fixm Fm
    have hsr : rSt.r (upd Hb fl (.lst xs)) (.ref fl) ss := ⟨fl, xs, rfl, upd_same, by rw [hss2, List.append_nil]; exact hxs.imp fun _ _ => (rT rInt).up (Ex.new Fm.off)⟩
    exact s_one (s_ret (dP3 (ac (nm 3 (R := rInt) (h := rfl)) (ac (nm 1 (R := rInt) (a := (b : Int)) (h := rfl)) (ac (nm 2 (R := rSt) (a := ss) (h := hsr)) a0)))) G2.on fun w Hk4 H4 g4 hw => q w Hk4 H4 (G2.trans g4) hw)
  | step hz htr =>
    rename_i b' s' s2'
    obtain ⟨v, hv, hr⟩ := hcm.get hz
    have hr : (rP rInt (rT rInt)).r Hb v ((b' : Int), s') ∧ v ≠ .non := hr
    refine tNotN (t := false) (EP.imp (dg 0 hd (nm 3 (h := rfl)) hv) fun u _ hu => by rw [hu]; simp [hr.2]) H' (Ex.refl _) _ fun Hg H3 g3 => ?_
    rw [if_pos (by simp)]
    have G := G.step g3.ex
    have Fm := Fm.ex g3.ex
    have hd := g3.ex _ _ hd
    refine s_cons (s_asg (dg 0 hd (nm 3 (h := rfl)) hv) (Ex.refl H3) fun w Hk4 H4 g4 hw => ?_)
    subst hw
    refine gpair 4 5 hr.1 (G.on.trans g4.ex) fun u w hu hw => ?_
    obtain rfl : u = .int (b' : Int) := hu
    have G := G.step g4.ex
    have Fm := Fm.ex g4.ex
    have hd := g4.ex _ _ hd
    show wSs _ _ _ [some (.ref d), some (.int (b : Int)), some (.ref fl), some (.int (z : Int)), some (.int (b' : Int)), some w] H4
    have hl1 : s1.length ≤ 100 := by have := congrArg List.length hss2; rw [List.length_append] at this; omega
    refine s_cons (s_app (j := 2) (nmP (v := w) (Φ := fun v _ => v = w) 5 rfl) G.on Fm.at_ (by rw [hxs.len]; omega) fun w' Hg5 H5 g5 hw' h5 => ?_)
    subst hw'
    have hdf' : d ≠ fl := hdf
    have hd5 : upd H5 fl (.lst (xs ++ [w'])) d = some (.dK kvs) := by rw [upd_ne hdf']; exact g5.ex _ _ hd
    have G := (G.step g5.ex).mu (Fm.ex g5.ex) (o' := .lst (xs ++ [w']))
    have Fm := (Fm.ex g5.ex).wr (o' := .lst (xs ++ [w']))
    refine s_one (s_set 3 (nm 4 (R := rInt) (a := (b' : Int)) (h := rfl)) G.on fun w2 Hg6 H6 g6 hw2 => ?_)
    obtain rfl : w2 = .int (b' : Int) := hw2
    exact ⟨s2'.length, by simp, b', s1 ++ [s'], s2', _, _, _, rfl, rfl, G.step g6.ex, g6.ex _ _ hd5, Fm.ex g6.ex, hxs.snoc hw, htr, by rw [hss2, List.append_assoc]; rfl⟩
end K
/-! KE1: way_by_steps. -/
namespace K
open PySem.Spec PySem PyProof.Rows L2 Z M
section
variable {X : Cx} {g : W5} {N : List Str} {k : Nat} {σ : L2.St} {H Hb : Hp} {e tg : Expr} {pos : Pos} {D : Ends}
/-- a for over what is told only when it is there -/
theorem s_forT [c : CtxZ (u1 X) g N k] {body : List Stmt} {τ : Type} {P : τ → Prop} {nn : τ → Nat} {Y : τ → Nat → V → Hp → Prop}
    (hi : ∀ R : It → Hp → Prop, (∀ t J Hk H2, P t → Go no Hb H Hk H2 → (∀ i H, i < nn t → Ex Hk H → J.go i H) → (∀ H, Ex Hk H → J.stop (nn t) H) → (∀ i H x H', i < nn t → Ex Hk H → J.yld i H x H' → ∃ Hl, Go no Hk H Hl H' ∧ Y t i x Hl) → R J H2) → wI (u1 X) tg e σ H R)
    (Iv : τ → Nat → L2.St → Hp → Hp → Prop) (h0 : ∀ t Hk H2, P t → Go no Hb H Hk H2 → Iv t 0 σ Hk H2)
    (up : ∀ t i σ' Hk Hm H1 H2, Iv t i σ' Hk H1 → Go no Hk H1 Hm H2 → Iv t i σ' Hm H2) (ex : ∀ t i σ' Hk H', Iv t i σ' Hk H' → Ex Hk H')
    (hs : ∀ t i σ' Hk H' v, P t → i < nn t → Iv t i σ' Hk H' → (∃ H0, Ex H0 Hk ∧ Y t i v H0) → wG (u1 X) tg v σ' H' fun σ2 H3 => wSs X body { D with nx := fun σ3 H4 => ∃ Hm, Ex Hk Hm ∧ Iv t (i + 1) σ3 Hm H4, ct := fun σ3 H4 => ∃ Hm, Ex Hk Hm ∧ Iv t (i + 1) σ3 Hm H4, bk := D.nx } σ2 H3)
    (hd : ∀ t σ' Hk H', P t → Iv t (nn t) σ' Hk H' → D.nx σ' H') (hp : PassesOwn (model X.prog X.w) X.A X.env X.xe := by exact PassesOwn.never) (hf : ∀ x, foldedSetIterable e X.env x = pure x := by intro _; rfl) : wS X (.For tg e body [] pos) D σ H :=
  ⟨_, ps_for hp (c.calm ()) (wI_ok (X := u1 X) ()) (wG_ok (X := u1 X) ()) wSs_ok hf, hi _ fun t J H0 H2 ht g1 hgo hstop hyld => ⟨fun i m σ' H' => m = nn t - i ∧ i ≤ nn t ∧ ∃ Hk, Ex H0 Hk ∧ Iv t i σ' Hk H', ⟨nn t, by simp, Nat.zero_le _, H0, Ex.refl _, h0 t _ _ ht g1⟩, by
    rintro i m σ' H' ⟨rfl, hle, Hk, ek, hP⟩
    have exk := ex t i σ' Hk H' hP
    by_cases hlt : i < nn t
    · refine .inr ⟨hgo i H' hlt (ek.trans exk), fun σ2 H3 => i + 1 ≤ nn t ∧ ∃ Hm, Ex H0 Hm ∧ Iv t (i + 1) σ2 Hm H3, fun σ2 H3 q => ⟨nn t - (i + 1), by omega, rfl, q⟩, fun v H3 hy => ?_⟩
      obtain ⟨Hl, gl, hY⟩ := hyld i H' v H3 hlt (ek.trans exk) hy
      obtain ⟨g2, e2⟩ := gl.over ek exk
      refine wG_mono (hs t i σ' (ovr Hk Hl) H3 v ht hlt (up _ _ _ _ _ _ _ hP g2) ⟨Hl, e2, hY⟩) fun σ2 H4 hb => ?_
      exact wSs_mono hb (fun s h ⟨Hz, ez, hz⟩ => ⟨hlt, Hz, (ek.trans g2.base).trans ez, hz⟩) (fun s h ⟨Hz, ez, hz⟩ => ⟨hlt, Hz, (ek.trans g2.base).trans ez, hz⟩) (fun _ _ z => z) fun _ _ z => z
    · have e : i = nn t := by omega
      subst e
      exact .inl ⟨hstop H' (ek.trans exk), hd t σ' Hk H' ht hP⟩⟩⟩
/-- the walk over a list that is told by P -/
theorem iLt {ι : Type} {X : ι → Cx} {g : W5} {N : List Str} {k : Nat} {α : Type} {R : Rep α} {d0 : α} {P : List α → Prop} [c : CtxZ X g N k] (h : ∀ Q : VK, (∀ v l Hk H2, P l → Go no Hb H Hk H2 → (rL R).r Hk v l → Q v H2) → wE X e σ H Q) :
    ∀ Rr : It → Hp → Prop, (∀ (t : List α) J Hk H2, P t → Go no Hb H Hk H2 → (∀ i H, i < t.length → Ex Hk H → J.go i H) → (∀ H, Ex Hk H → J.stop t.length H) → (∀ i H x H', i < t.length → Ex Hk H → J.yld i H x H' → ∃ Hl, Go no Hk H Hl H' ∧ R.r Hl x (t.getD i d0)) → Rr J H2) → wI X tg e σ H Rr := fun Rr q =>
  ⟨_, fun i => pi_list_K i, h _ fun v l Hk H2 hl g1 ⟨p, xs, e1, b, r⟩ => by
    have hlen : xs.length = l.length := r.len
    refine ⟨p, e1, ⟨xs, SqL.of (g1.on _ _ b)⟩, q l _ Hk H2 hl g1 (fun i H hi c2 => ⟨xs, xs[i], SqL.of (c2 _ _ b), by simp [hlen, hi]⟩) (fun H c2 => ⟨xs, SqL.of (c2 _ _ b), by omega⟩) (fun i H x H' hi c2 y => ?_)⟩
    obtain ⟨rfl, y⟩ := y
    refine ⟨Hk, Go.refl c2, ?_⟩
    obtain ⟨z, hz, rz⟩ := r.get (List.getElem?_eq_getElem hi)
    have := y xs (SqL.of (c2 _ _ b))
    rw [hz] at this; cases this
    simpa [hi] using rz⟩
end
abbrev rRes : Rep (Option (Int × Int × List (List Int)) × List Int) := rP (rO rWay) (rL rInt)
def spWays : Sp := fun vs H1 Q _ => ∃ (n : Nat) (lo hi F : Mat) (cl : M.Cl) (st gl : List Nat) (Hb : Hp) (p : Addr) (as : List Addr) (vb vst vgl vc : V), vs = [vb, .ref p, vst, vgl, vc] ∧ Ex Hb H1 ∧ MxO Hb H1 p as n F ∧ rB2.r Hb vb (mat n lo, mat n hi) ∧ (rL rInt).r Hb vst (natL st) ∧ (rL rInt).r Hb vgl (natL gl) ∧ rCl.r Hb vc cl ∧ (n ≤ 8 ∧ st.Nodup ∧ ∀ y ∈ st, y < n) ∧
  (∀ v Hk H2 ql, Go no Hb H1 Hk H2 → rRes.r Hk v (none, natL ql) → Met n lo hi F cl st gl ql → Q v H2) ∧
  (∀ v Hk H2 (a b : Nat) ss ws ql, Go no Hb H1 Hk H2 → rRes.r Hk v (some ((a : Int), (b : Int), ss), natL ql) → a ∈ st → b ∈ gl → Way (StepOk lo hi F cl) a ws b ss → (∀ y ∈ ws, y < n) → Q v H2)
theorem ways_body {g : W5} {f0 : Addr} {cdv : Value} {A : Around} {outer : List Env} {s : Shared} {H : Hp} {vs : List V} {Q : VK} {E : XK} (T : TX g) (FS : FnB g CX0 1 "steps_at" ["bounds", "flows", "z", "closed"] [] spSteps) (FT : FnB g CX0 1 "_traced" ["came", "goal"] [] spTraced)
    (cx : CtxZ (u1 (cxOf CX0 g.P g.w g.K g.mg g.base pWayByStepsN "way_by_steps" (defScope pWayBySteps) f0 cdv A outer s H E).nox) g pWayByStepsN 1) (h : spWays vs H Q E) :
    wSs (cxOf CX0 g.P g.w g.K g.mg g.base pWayByStepsN "way_by_steps" (defScope pWayBySteps) f0 cdv A outer s H E).nox (defBody pWayBySteps) { nx := fun _ H' => Q .non H', rt := Q } (start pWayByStepsN vs) H := by
  obtain ⟨n₀, lo₀, hi₀, F, cl₀, st₀, gl₀, Hb, p₀, as₀, vb₀, vst₀, vgl₀, vc₀, hvs₀, e₀, Mo, hb₀, hst₀, hgl₀, hc₀, ⟨hn₀, hsd₀, hsl₀⟩, q1₀, q2₀⟩ := h
  subst hvs₀
  have hsn₀ : st₀.length ≤ n₀ := len_le hsd₀ hsl₀
  have hnl₀ : (natL st₀).length = st₀.length := by simp
  -- came
  refine s_cons (s_setDc 5 6 [("z", 6)] (nm 2 (h := hst₀)) (by omega) (fun _ => rfl) (fun _ => rfl) e₀ fun dk₀ kvs₀ H2 hdn₀ ex hdk₀ hkv₀ hkl₀ => ?_)
  have hdp₀ : dk₀ ∉ p₀ :: as₀ := fun h => K.Mx.live Mo.toMx dk₀ h hdn₀
  have G : Go no Hb H Hb H2 := Go.ofEx e₀ ex
  have Dm : Mu H Hb H2 dk₀ (.dK kvs₀) := ⟨hdn₀, e₀.none hdn₀, hdk₀⟩
  have Mo := Mo.go0 G
  -- queue
  refine s_cons (s_setN 7 (l := natL st₀) (toListN T.list (nm 2 (h := hst₀))) G.on fun qd₀ H3 hqn₀ ex3₀ hqd₀ => ?_)
  have hqd₀ : H3 qd₀ = some (.lst (vN st₀)) := by rw [hqd₀, ← vN_eq]
  have Qm : Mu H Hb H3 qd₀ (.lst (vN st₀)) := ⟨G.new_of hqn₀, G.on.none hqn₀, hqd₀⟩
  have hqp₀ : qd₀ ∉ p₀ :: as₀ := fun h => K.Mx.live Mo.toMx qd₀ h hqn₀
  have G := G.step ex3₀
  have Dm := Dm.ex ex3₀
  have Mo := Mo.ex ex3₀
  refine s_cons (s_set 8 (cI (n := 0)) G.on fun w Hk H4 g4₀ hw₀ => ?_)
  obtain rfl : w = .int 0 := hw₀
  have hdq₀ : dk₀ ≠ qd₀ := fun z => by have h1₀ := Dm.at_; have h2₀ := Qm.at_; rw [z, h2₀] at h1₀; cases h1₀
  have hcm0₀ : CmAt Hb kvs₀ (fun y₀ => if y₀ ∈ st₀ then some none else none) := fun z => by
    have h1₀ := hkv₀ (z : Int)
    by_cases h : z ∈ st₀
    · simp only [h, if_true]
      rw [if_pos (mem_natL.mpr h)] at h1₀
      exact ⟨.non, h1₀, rfl⟩
    · simp only [h, if_false]
      rw [if_neg (fun w => h (mem_natL.mp w))] at h1₀
      exact h1₀
  have hkl₀ : kvs₀.length ≤ st₀.length := by rw [← hnl₀]; exact hkl₀
  refine s_cons (s_while (fun m₀ σ₀ H' => ∃ (Hk : Hp) (ql₀ : List Nat) (cm₀ : Came) (kvs₀ : List (Key × V)) (a₀ : Nat) (o6₀ o9₀ : Option V), m₀ = n₀ - a₀ ∧ a₀ ≤ n₀ ∧ σ₀ = [some vb₀, some (.ref p₀), some vst₀, some vgl₀, some vc₀, some (.ref dk₀), o6₀, some (.ref qd₀), some (.int (a₀ : Int)), o9₀] ∧ Go no Hb H Hk H' ∧ MxO Hk H' p₀ as₀ n₀ F ∧ Mu H Hk H' dk₀ (.dK kvs₀) ∧ Mu H Hk H' qd₀ (.lst (vN ql₀)) ∧ CmAt Hk kvs₀ cm₀ ∧ Srch n₀ (StepOk lo₀ hi₀ F cl₀) st₀ cm₀ ql₀ ∧ a₀ ≤ ql₀.length ∧ kvs₀.length ≤ ql₀.length ∧
      ∀ i₀, i₀ < a₀ → ql₀.getD i₀ 0 ∉ gl₀ ∧ ∀ w, w < n₀ → Res lo₀ hi₀ F cl₀ (ql₀.getD i₀ 0) w → w ∈ ql₀)
    ⟨_, Hb, st₀, _, kvs₀, 0, none, none, rfl, by omega, rfl, G.step g4₀.ex, Mo.ex g4₀.ex, Dm.ex g4₀.ex, Qm.ex g4₀.ex, hcm0₀, Srch.start hsd₀ hsl₀, by omega, hkl₀, fun i₀ hi₀ => by omega⟩ fun m₀ σ'₀ H' hI₀ => ?_)
  obtain ⟨Hk, ql₀, cm₀, kvs₀, a₀, o6₀, o9₀, rfl, han₀, rfl, G, Mo, Dm, Qm, hcm₀, S, hal₀, hkl₀, hcl₀⟩ := hI₀
  have hqn2₀ : ql₀.length ≤ n₀ := len_le S.nd S.lt
  have hlen₀ : (natL ql₀).length = ql₀.length := by simp
  refine tlt (nm 8 (h := rfl)) (len T.len (nm 7 (h := vN_rep Qm.at_))) H' (Ex.refl _) _ fun Hg H3 g3₀ => ?_
  rw [hlen₀]
  have G := G.step g3₀.ex
  have Mo := Mo.ex g3₀.ex
  have Dm := Dm.ex g3₀.ex
  have Qm := Qm.ex g3₀.ex
  by_cases hlt : a₀ < ql₀.length
  · rw [if_pos (by simp; omega)]
    have hz₀ : ql₀[a₀] ∈ ql₀ := List.getElem_mem hlt
    have hzn₀ : ql₀[a₀] < n₀ := S.lt _ hz₀
    -- z = queue[at]
    refine s_cons (s_set 6 (ix (a := ((ql₀[a₀] : Nat) : Int)) a₀ (nm 7 (h := vN_rep Qm.at_)) (nm 8 (h := rfl)) rfl (by simp [natL, hlt])) (Ex.refl H3) fun w Hg4 H4 g4₀ hw₀ => ?_)
    obtain rfl : w = .int (ql₀[a₀] : Int) := hw₀
    have G := G.step g4₀.ex
    have Mo := Mo.ex g4₀.ex
    have Dm := Dm.ex g4₀.ex
    have Qm := Qm.ex g4₀.ex
    show wSs _ _ _ [some vb₀, some (.ref p₀), some vst₀, some vgl₀, some vc₀, some (.ref dk₀), some (.int (ql₀[a₀] : Int)), some (.ref qd₀), some (.int (a₀ : Int)), o9₀] H4
    have ebk₀ := G.base
    refine s_cons (s_if (tIn (nm 6 (h := rfl)) (nm 3 (h := (rL rInt).up ebk₀ hgl₀))) G.on (fun ht₀ Hg5 H5 g5₀ => ?_) fun ht₀ Hg5 H5 g5₀ => s_nil ?_)
    · -- the goal is met
      have hgz₀ : ql₀[a₀] ∈ gl₀ := mem_natL.mp (of_decide_eq_true ht₀)
      have G := G.step g5₀.ex
      have Dm := Dm.ex g5₀.ex
      have Qm := Qm.ex g5₀.ex
      obtain ⟨ra₀, ss₀, ws₀, h1₀, h2₀, h3₀, h4₀⟩ := S.way _ hz₀
      have hwl₀ : ss₀.length ≤ 100 := by
        have := h3₀.len
        have := len_le h3₀.nodup fun v₀ hv₀ => S.lt v₀ (h4₀ v₀ hv₀)
        omega
      -- the queue, then the dict, go into the base
      have G2 := G.fixm Qm
      have hqr₀ : (rL rInt).r (upd Hk qd₀ (.lst (vN ql₀))) (.ref qd₀) (natL ql₀) := vN_rep upd_same
      have Dm2 : Mu H (upd Hk qd₀ (.lst (vN ql₀))) H5 dk₀ (.dK kvs₀) := ⟨Dm.new, by rw [upd_ne hdq₀]; exact Dm.off, Dm.at_⟩
      have hcm2₀ := hcm₀.up (Ex.new (o := .lst (vN ql₀)) Qm.off)
      generalize upd Hk qd₀ (.lst (vN ql₀)) = Hq at G2 hqr₀ Dm2 hcm2₀
      have G3 := G2.fixm Dm2
      have htr₀ : ∀ {y1₀ y2₀ y3₀ y4₀ : Pos}, EV (u1 (cxOf CX0 g.P g.w g.K g.mg g.base pWayByStepsN "way_by_steps" (defScope pWayBySteps) f0 cdv A outer s H E).nox) (.Call (.Name "_traced" y1₀) [.Name "came" y2₀, .Name "z" y3₀] [] y4₀) [some vb₀, some (.ref p₀), some vst₀, some vgl₀, some vc₀, some (.ref dk₀), some (.int (ql₀[a₀] : Int)), some (.ref qd₀), some (.int (a₀ : Int)), o9₀] (upd Hq dk₀ (.dK kvs₀)) (rO rWay) (some ((ra₀ : Int), (ql₀[a₀] : Int), ss₀)) := fun {y1₀ y2₀ y3₀ y4₀} H1 c1₀ Q q₀ =>
        wcall FT (by decide) ⟨_, fun _ => pa_cons (pe_var (i := 5) rfl (.inl rfl) (by decide) (by decide)) (pa_cons (pe_var (i := 6) rfl (.inl rfl) (by decide) (by decide)) pa_nil rfl) rfl, _, rfl, _, rfl, Hq, dk₀, kvs₀, cm₀, ql₀[a₀], ra₀, ss₀, rfl, (Ex.new Dm2.off).trans c1₀, Dm2.off, c1₀ _ _ upd_same, hcm2₀, h2₀, hwl₀, fun v₀ Hm H2 gm₀ hr₀ => by
          obtain ⟨ga₀, eb₀⟩ := gm₀.over (Ex.new Dm2.off) c1₀
          have hr'₀ := rWay.up eb₀ hr₀
          exact q₀ v₀ _ H2 ga₀ ⟨hr'₀, by obtain ⟨p₀, x₀, y₀, z, e₀, _⟩ := hr'₀; rw [e₀]; exact fun z => nomatch z⟩⟩
      refine s_one (s_ret (dP (ac htr₀ (ac (nm 7 (R := rL rInt) (a := natL ql₀) (h := (rL rInt).up (Ex.new Dm2.off) hqr₀)) a0))) G3.on fun w Hg6 H6 g6₀ hw₀ => ?_)
      exact q2₀ w Hg6 H6 ra₀ ql₀[a₀] ss₀ ws₀ ql₀ (G3.trans g6₀) hw₀ h1₀ hgz₀ h3₀ fun v₀ hv₀ => S.lt v₀ (h4₀ v₀ hv₀)
    · have hgz₀ : ql₀[a₀] ∉ gl₀ := fun w => of_decide_eq_false ht₀ (mem_natL.mpr w)
      have G := G.step g5₀.ex
      have Mo := Mo.ex g5₀.ex
      have Dm := Dm.ex g5₀.ex
      have Qm := Qm.ex g5₀.ex
      refine s_cons (s_forT (τ := List (List Int)) (P := StepsAt n₀ lo₀ hi₀ F cl₀ ql₀[a₀]) (nn := List.length) (Y := fun l₀ i₀ v₀ H => (rT rInt).r H v₀ (l₀.getD i₀ []))
        (iLt (R := rT rInt) (d0 := []) fun Q q₀ => wcall FS (by decide) ⟨_, fun _ => pa_cons (pe_var (i := 0) rfl (.inl rfl) (by decide) (by decide)) (pa_cons (pe_var (i := 1) rfl (.inl rfl) (by decide) (by decide)) (pa_cons (pe_var (i := 6) rfl (.inl rfl) (by decide) (by decide)) (pa_cons (pe_var (i := 4) rfl (.inl rfl) (by decide) (by decide)) pa_nil rfl) rfl) rfl) rfl,
          _, rfl, _, rfl, _, rfl, _, rfl, n₀, lo₀, hi₀, F, cl₀, ql₀[a₀], Hk, p₀, as₀, vb₀, vc₀, rfl, G.on, Mo, rB2.up ebk₀ hb₀, rCl.up ebk₀ hc₀, hn₀, hzn₀, fun v₀ Hm H2 l₀ gm₀ hr₀ hst₀ => q₀ v₀ l₀ Hm H2 hst₀ gm₀ hr₀⟩)
        (fun l₀ j₀ σ₀ Hm H'' => ∃ (ql2₀ : List Nat) (cm₀ : Came) (kvs₀ : List (Key × V)) (o9₀ : Option V), σ₀ = [some vb₀, some (.ref p₀), some vst₀, some vgl₀, some vc₀, some (.ref dk₀), some (.int (ql₀[a₀] : Int)), some (.ref qd₀), some (.int (a₀ : Int)), o9₀] ∧ Go no Hb H Hm H'' ∧ MxO Hm H'' p₀ as₀ n₀ F ∧ Mu H Hm H'' dk₀ (.dK kvs₀) ∧ Mu H Hm H'' qd₀ (.lst (vN ql2₀)) ∧ CmAt Hm kvs₀ cm₀ ∧ Srch n₀ (StepOk lo₀ hi₀ F cl₀) st₀ cm₀ ql2₀ ∧ kvs₀.length ≤ ql2₀.length ∧ (∃ r₀, ql2₀ = ql₀ ++ r₀) ∧
          ∀ i₀ w, i₀ < j₀ → (∃ s, l₀[i₀]? = some s ∧ StepOk lo₀ hi₀ F cl₀ ql₀[a₀] w s) → w ∈ ql2₀)
        (fun l₀ Hm H2 hl₀ gm₀ => ⟨ql₀, cm₀, kvs₀, o9₀, rfl, G.trans gm₀, Mo.go0 gm₀, Dm.go0 gm₀, Qm.go0 gm₀, hcm₀.up gm₀.base, S, hkl₀, ⟨[], by simp⟩, fun i₀ w h => by omega⟩)
        (fun l₀ j₀ σ'₀ Hm Hm2 H1 H2 ⟨ql2₀, cm₀, kvs₀, o9₀, hσ₀, G, Mo, Dm, Qm, hcm₀, S, hk₀, hr₀, hc₀⟩ gm₀ => ⟨ql2₀, cm₀, kvs₀, o9₀, hσ₀, G.trans gm₀, Mo.go0 gm₀, Dm.go0 gm₀, Qm.go0 gm₀, hcm₀.up gm₀.base, S, hk₀, hr₀, hc₀⟩) (fun l₀ j₀ σ'₀ Hm H'' ⟨_, _, _, _, _, G, _⟩ => G.on) (fun l₀ j₀ σ'₀ Hm H6 w hP₀ hj₀ hI₀ hx₀ => ?_) fun l₀ σ'₀ Hm H6 hP₀ hI₀ => ?_)
      · obtain ⟨ql2₀, cm₀, kvs₀, o9₀, rfl, G, Mo, Dm, Qm, hcm₀, S, hkl₀, ⟨r₀, hr₀⟩, hcl2₀⟩ := hI₀
        obtain ⟨H0, e0₀, hx₀⟩ := hx₀
        have hx₀ := (rT rInt).up e0₀ hx₀
        have hlj₀ : l₀.getD j₀ [] = l₀[j₀] := by simp [hj₀]
        rw [hlj₀] at hx₀
        obtain ⟨y₀, hy₀, hstep₀⟩ := hP₀.ok l₀[j₀] (List.getElem_mem hj₀)
        have hhead₀ := hstep₀.head
        have hq2n₀ : ql2₀.length ≤ n₀ := len_le S.nd S.lt
        have hzq2₀ : ql₀[a₀] ∈ ql2₀ := by rw [hr₀]; exact List.mem_append_left _ hz₀
        have step0₀ : ∀ {y1₀ y2₀ y3₀ : Pos} {j0 : Nat} (H0 : Hp), Ex Hm H0 → EV (u1 (cxOf CX0 g.P g.w g.K g.mg g.base pWayByStepsN "way_by_steps" (defScope pWayBySteps) f0 cdv A outer s H E).nox) (.Subscript (.Name "step" y1₀) (.Constant (.int 0) j0 y2₀) y3₀) [some vb₀, some (.ref p₀), some vst₀, some vgl₀, some vc₀, some (.ref dk₀), some (.int (ql₀[a₀] : Int)), some (.ref qd₀), some (.int (a₀ : Int)), some w] H0 rInt (y₀ : Int) := fun H e₀ => ix 0 (nm 9 (h := (rT rInt).up e₀ hx₀)) (cI (n := 0)) rfl hhead₀
        refine gn 9 ?_
        show wSs _ _ _ [some vb₀, some (.ref p₀), some vst₀, some vgl₀, some vc₀, some (.ref dk₀), some (.int (ql₀[a₀] : Int)), some (.ref qd₀), some (.int (a₀ : Int)), some w] H6
        have hyc₀ : (valV kvs₀ (.inl (y₀ : Int))).isSome = decide (y₀ ∈ ql2₀) := by
          have h1₀ := hcm₀ y₀
          have h2₀ := S.dom y₀
          cases q₀ : cm₀ y₀ with
          | none =>
            rw [q₀] at h1₀ h2₀
            rw [show valV kvs₀ (.inl (y₀ : Int)) = none from h1₀]
            have : y₀ ∉ ql2₀ := fun w => by have := h2₀.mpr w; simp at this
            simp [this]
          | some o =>
            rw [q₀] at h1₀ h2₀
            obtain ⟨v₀, h3₀, _⟩ := h1₀
            rw [h3₀]
            have : y₀ ∈ ql2₀ := h2₀.mp rfl
            simp [this]
        refine s_one (s_if (dni 5 Dm.at_ (step0₀ H6 G.on)) (Ex.refl H6) (fun ht₀ Hg7 H7 g7₀ => ?_) fun ht₀ Hg7 H7 g7₀ => s_nil ⟨Hm, Ex.refl _, ql2₀, cm₀, kvs₀, _, rfl, G.step g7₀.ex, Mo.ex g7₀.ex, Dm.ex g7₀.ex, Qm.ex g7₀.ex, hcm₀, S, hkl₀, ⟨r₀, hr₀⟩, fun i₀ w hi₀ hw₀ => ?_⟩)
        · have hyq₀ : y₀ ∉ ql2₀ := by rw [hyc₀] at ht₀; simpa using ht₀
          have G := G.step g7₀.ex
          have Mo := Mo.ex g7₀.ex
          have Dm := Dm.ex g7₀.ex
          have Qm := Qm.ex g7₀.ex
          refine s_cons (s_dput 5 (dP (R := rInt) (T := rT rInt) (a := ((ql₀[a₀] : Nat) : Int)) (b := l₀[j₀]) (ac (nm 6 (h := rfl)) (ac (nm 9 (h := hx₀)) a0))) G.on (step0₀ H7 G.on) Dm.at_ (by omega) fun v₀ Hm8 H8 H9 g8₀ r8₀ e9₀ hd9₀ => ?_)
          have G := (G.trans g8₀).step e9₀
          have Mo := (Mo.go0 g8₀).ex e9₀
          have Dm := (Dm.go0 g8₀).ex e9₀
          have Qm := (Qm.go0 g8₀).ex e9₀
          have hx8₀ := (rT rInt).up g8₀.base hx₀
          have hcm8₀ := (hcm₀.up g8₀.base).put (c := y₀) (v := v₀) (o := some (ql₀[a₀], l₀[j₀])) ⟨r8₀, by obtain ⟨p₀, x₀, y₀, e₀, _⟩ := r8₀; rw [e₀]; exact fun z => nomatch z⟩
          have G := G.mu Dm (o' := .dK (putK kvs₀ (.inl (y₀ : Int)) v₀))
          have Mo := Mo.wr' (o := .dK (putK kvs₀ (.inl (y₀ : Int)) v₀)) hdp₀
          have Qm := Qm.wr' (p := dk₀) (o' := .dK (putK kvs₀ (.inl (y₀ : Int)) v₀)) (fun z => hdq₀ z.symm)
          have Dm := Dm.wr (o' := .dK (putK kvs₀ (.inl (y₀ : Int)) v₀))
          refine s_one (s_app (j := 7) (ix (a := (y₀ : Int)) 0 (nm 9 (h := (rT rInt).up G.on hx8₀)) (cI (n := 0)) rfl hhead₀) (Ex.refl _) Qm.at_ (by rw [List.length_map]; omega) fun w'₀ HgB HB gB₀ hw'₀ hB₀ => ?_)
          obtain rfl : w'₀ = .int (y₀ : Int) := hw'₀
          have e7₀ : vN ql2₀ ++ [V.int (y₀ : Int)] = vN (ql2₀ ++ [y₀]) := by simp [vN]
          rw [e7₀]
          have hkl2₀ : (putK kvs₀ (.inl (y₀ : Int)) v₀).length ≤ (ql2₀ ++ [y₀]).length := by
            have := length_putK kvs₀ (.inl (y₀ : Int)) v₀
            rw [List.length_append]; rw [List.length_singleton]; omega
          refine ⟨Hm8, g8₀.base, ql2₀ ++ [y₀], _, _, _, rfl, (G.step gB₀.ex).mu (Qm.ex gB₀.ex), (Mo.ex gB₀.ex).wr' hqp₀, (Dm.ex gB₀.ex).wr' hdq₀, (Qm.ex gB₀.ex).wr, hcm8₀, S.add hzq2₀ hyq₀ hy₀ hstep₀, hkl2₀, ⟨r₀ ++ [y₀], by rw [hr₀, List.append_assoc]⟩, fun i₀ w hi₀ ⟨s'₀, hs'₀, hsw₀⟩ => ?_⟩
          by_cases hij : i₀ = j₀
          · subst hij
            rw [List.getElem?_eq_getElem hj₀] at hs'₀
            cases hs'₀
            have := hsw₀.head
            rw [hhead₀] at this
            have : y₀ = w := by have := Option.some.inj this; omega
            subst this; simp
          · exact List.mem_append_left _ (hcl2₀ i₀ w (by omega) ⟨s'₀, hs'₀, hsw₀⟩)
        · have hyq₀ : y₀ ∈ ql2₀ := by rw [hyc₀] at ht₀; simpa using ht₀
          obtain ⟨s'₀, hs'₀, hsw₀⟩ := hw₀
          by_cases hij : i₀ = j₀
          · subst hij
            rw [List.getElem?_eq_getElem hj₀] at hs'₀
            cases hs'₀
            have := hsw₀.head
            rw [hhead₀] at this
            have : y₀ = w := by have := Option.some.inj this; omega
            subst this; exact hyq₀
          · exact hcl2₀ i₀ w (by omega) ⟨s'₀, hs'₀, hsw₀⟩
      · obtain ⟨ql2₀, cm₀, kvs₀, o9₀, rfl, G, Mo, Dm, Qm, hcm₀, S, hkl₀, ⟨r₀, hr₀⟩, hcl2₀⟩ := hI₀
        have hpre₀ : ∀ i₀, i₀ < ql₀.length → ql2₀.getD i₀ 0 = ql₀.getD i₀ 0 := fun i₀ hi₀ => by
          rw [hr₀, List.getD_eq_getElem?_getD, List.getD_eq_getElem?_getD, List.getElem?_append_left hi₀]
        refine s_one (s_aug 8 (cI (n := 1)) G.on fun Hg7 H7 g7₀ => ?_)
        refine ⟨n₀ - (a₀ + 1), by omega, Hm, ql2₀, cm₀, kvs₀, a₀ + 1, _, _, rfl, by omega, rfl, G.step g7₀.ex, Mo.ex g7₀.ex, Dm.ex g7₀.ex, Qm.ex g7₀.ex, hcm₀, S, by rw [hr₀, List.length_append]; omega, hkl₀, fun i₀ hi₀ => ?_⟩
        rw [hpre₀ i₀ (by omega)]
        by_cases hia : i₀ = a₀
        · subst hia
          have hgd₀ : ql₀.getD i₀ 0 = ql₀[i₀] := by simp [hlt]
          rw [hgd₀]
          refine ⟨hgz₀, fun w hw₀ hres₀ => ?_⟩
          obtain ⟨s'₀, hs'₀, hso₀⟩ := hP₀.all w hw₀ hres₀
          obtain ⟨i'₀, hi'₀, he₀⟩ := List.getElem_of_mem hs'₀
          exact hcl2₀ i'₀ w hi'₀ ⟨s'₀, by rw [List.getElem?_eq_getElem hi'₀, he₀], hso₀⟩
        · have := hcl₀ i₀ (by omega)
          exact ⟨this.1, fun w hw₀ hres₀ => by rw [hr₀]; exact List.mem_append_left _ (this.2 w hw₀ hres₀)⟩
  · rw [if_neg (by simp; omega)]
    have hae₀ : a₀ = ql₀.length := by omega
    subst hae₀
    have G2 := G.fixm Qm
    have hqr₀ : (rL rInt).r (upd Hk qd₀ (.lst (vN ql₀))) (.ref qd₀) (natL ql₀) := vN_rep upd_same
    refine s_one (s_ret (dP (R := rO rWay) (T := rL rInt) (a := none) (b := natL ql₀) (ac (EV.to (cN) fun _ _ h => h) (ac (nm 7 (h := hqr₀)) a0))) G2.on fun w Hg6 H6 g6₀ hw₀ => ?_)
    refine q1₀ w Hg6 H6 ql₀ (G2.trans g6₀) hw₀ ⟨S.nd, S.lt, S.sts, fun y₀ hy₀ => ?_, fun y₀ hy₀ w hw₀ hr₀ => ?_⟩
    · obtain ⟨i₀, hi₀, rfl⟩ := List.getElem_of_mem hy₀
      have := (hcl₀ i₀ hi₀).1
      simpa [hi₀] using this
    · obtain ⟨i₀, hi₀, rfl⟩ := List.getElem_of_mem hy₀
      exact (hcl₀ i₀ hi₀).2 w hw₀ (by simpa [hi₀] using hr₀)
end K
/-! KF: send_along, _excess, settled. -/
namespace K
open PySem.Spec PySem PyProof.Rows L2 Z M
theorem EV.run {ι : Type} {α : Type} {X : ι → Cx} {e : Expr} {σ : L2.St} {Hb H1 : Hp} {R : Rep α} {a : α} (h : EV X e σ Hb R a) (c : Ex Hb H1) {Q : VK} (q : ∀ v Hk H2, Go no Hb H1 Hk H2 → R.r Hk v a → Q v H2) : wE X e σ H1 Q := h H1 c Q q
theorem s_retN {X : Cx} {σ : L2.St} {H Hb : Hp} {e : Expr} {l : List Int} {pos : Pos} {D : Ends} (h : EN (u1 X) e σ Hb l) (cx : Ex Hb H) (q : ∀ p H2, H p = none → Ex H H2 → H2 p = some (.lst (l.map .int)) → D.rt (.ref p) H2) : wS X (.Return (some e) pos) D σ H := s_retw (h H cx _ q)
/-! send_along -/
def spSend : Sp := fun vs H1 Q _ => ∃ (n : Nat) (F : Mat) (ss : List (List Int)) (amt : Int) (Hb : Hp) (p : Addr) (as : List Addr) (vst : V), vs = [.ref p, vst, .int amt] ∧ Ex Hb H1 ∧ MxO Hb H1 p as n F ∧ rSt.r Hb vst ss ∧ (∀ s ∈ ss, Form n s) ∧
  ∀ Hk H2, Go (· ∈ as) Hb H1 Hk H2 → MxO Hk H2 p as n (send F ss amt) → Q .non H2
theorem ok_send {g : W5} (D : DefOf g "send_along" pSendAlong) (T : TX g) : FnB g CX0 1 "send_along" ["flows", "steps", "amount"] [] spSend := by
  refine def_ok D pSendAlongS (by decide +kernel) (fun vs₀ H Q E ⟨n₀, F, ss₀, amt₀, Hb, p₀, as₀, vst₀, h₀, _⟩ => by rw [h₀]; rfl) (fun _ _ _ _ _ _ us₀ hl₀ => match us₀, hl₀ with | [_, _, _], _ => rfl) fun f0₀ cdv₀ A outer₀ s₀ H vs₀ Q E cx₀ ⟨n₀, F, ss₀, amt₀, Hb, p₀, as₀, vst₀, hvs₀, e₀, Mo, hst₀, hf₀, q₀⟩ => ?_
  subst hvs₀
  refine s_one (s_forT (τ := List (List Int)) (P := fun l₀ => l₀ = ss₀) (nn := List.length) (Y := fun l₀ i₀ v₀ H => (rT rInt).r H v₀ (l₀.getD i₀ []))
    (iLt (R := rT rInt) (d0 := []) fun Q q₀ => EV.run (nm 1 (R := rSt) (a := ss₀) (h := hst₀)) e₀ fun v₀ Hk H2 g1₀ r₀ => q₀ v₀ ss₀ Hk H2 rfl g1₀ r₀)
    (fun l₀ j₀ σ₀ Hm H'' => ∃ o3₀ o4₀ o5₀ o6₀ : Option V, σ₀ = [some (.ref p₀), some vst₀, some (.int amt₀), o3₀, o4₀, o5₀, o6₀] ∧ Go (· ∈ as₀) Hb H Hm H'' ∧ MxO Hm H'' p₀ as₀ n₀ (send F (ss₀.take j₀) amt₀))
    (fun l₀ Hm H2 hl₀ gm₀ => ⟨none, none, none, none, rfl, gm₀.more, Mo.go0 gm₀⟩) (fun l₀ j₀ σ'₀ Hm Hm2 H1 H2 ⟨o3₀, o4₀, o5₀, o6₀, hσ₀, G, Mo⟩ gm₀ => ⟨o3₀, o4₀, o5₀, o6₀, hσ₀, G.trans gm₀.more, Mo.go0 gm₀⟩) (fun l₀ j₀ σ'₀ Hm H'' ⟨_, _, _, _, _, G, _⟩ => G.on) (fun l₀ j₀ σ'₀ Hm H2 w₀ hl₀ hj₀ hI₀ hx₀ => ?_) fun l₀ σ'₀ Hm H2 hl₀ hI₀ => ?_)
  · subst hl₀
    obtain ⟨o3₀, o4₀, o5₀, o6₀, rfl, G, Mo⟩ := hI₀
    obtain ⟨H0, e0₀, hx₀⟩ := hx₀
    have hlj₀ : l₀.getD j₀ [] = l₀[j₀] := by simp [hj₀]
    rw [hlj₀] at hx₀
    obtain ⟨x₀, y₀, c₀, u₀, v₀, hxn₀, hyn₀, hc₀, hs₀⟩ := hf₀ l₀[j₀] (List.getElem_mem hj₀)
    rw [hs₀] at hx₀
    obtain ⟨pt₀, rfl, hpt₀⟩ := rInt.tup hx₀
    refine gtu (G.on _ _ (e0₀ _ _ hpt₀)) (gsc (gn 3 (gsc (gn 4 (gsc (gn 5 (gsc (gn 6 (gsc (gn 3 (gs0 ?_)))))))))))
    show wSs _ _ _ [some (.ref p₀), some vst₀, some (.int amt₀), some (.int v₀), some (.int (x₀ : Int)), some (.int (y₀ : Int)), some (.int c₀)] H2
    refine s_one (s_augM 0 x₀ y₀ Mo.toMx (nm 4 (h := rfl)) (nm 5 (h := rfl)) (mul (nm 6 (h := rfl)) (nm 2 (h := rfl)) (.inl ⟨by omega, by omega⟩)) rfl rfl hxn₀ hyn₀ fun H3 H4 r₀ e3₀ hr₀ ho₀ m4₀ => ?_)
    have hfun₀ : (fun a₀ b₀ => if a₀ = x₀ ∧ b₀ = y₀ then send F (l₀.take j₀) amt₀ a₀ b₀ + c₀ * amt₀ else send F (l₀.take j₀) amt₀ a₀ b₀) = send F (l₀.take (j₀ + 1)) amt₀ := by
      have htk₀ : l₀.take (j₀ + 1) = l₀.take j₀ ++ [l₀[j₀]] := (List.take_append_getElem hj₀).symm
      unfold send
      rw [htk₀, List.foldl_append, List.foldl_cons, List.foldl_nil, hs₀]
      funext a₀ b₀
      show _ = (if (a₀ : Int) = (x₀ : Int) ∧ (b₀ : Int) = (y₀ : Int) then _ else _)
      by_cases h₀ : a₀ = x₀ ∧ b₀ = y₀
      · rw [if_pos h₀, if_pos (by omega)]
      · rw [if_neg h₀, if_neg (by omega)]
    rw [hfun₀] at m4₀
    obtain ⟨o₀, ho₀⟩ := ho₀
    subst ho₀
    exact ⟨Hm, Ex.refl _, _, _, _, _, rfl, (G.step e3₀).wr (.inl hr₀) (Mo.off r₀ (List.mem_cons_of_mem _ hr₀)), ⟨m4₀, Mo.off⟩⟩
  · subst hl₀
    obtain ⟨o3₀, o4₀, o5₀, o6₀, rfl, G, Mo⟩ := hI₀
    rw [List.take_length] at Mo
    exact q₀ Hm H2 G Mo
/-! _excess -/
def spExcess : Sp := fun vs H1 Q _ => ∃ (n : Nat) (F : Mat) (Hb : Hp) (p : Addr) (as : List Addr), vs = [.ref p] ∧ Ex Hb H1 ∧ MxO Hb H1 p as n F ∧ n ≤ 8 ∧ ∀ v H2, H1 v = none → Ex H1 H2 → H2 v = some (.lst ((tab n (exc n F)).map .int)) → Q (.ref v) H2
theorem ok_excess {g : W5} (D : DefOf g "_excess" pExcess) (T : TX g) : FnB g CX0 1 "_excess" ["flows"] [] spExcess := by
  refine def_ok D pExcessS (by decide +kernel) (fun vs H Q E ⟨n, F, Hb, p, as, h, _⟩ => by rw [h]; rfl) (fun _ _ _ _ _ _ us hl => match us, hl with | [_], _ => rfl) fun f0 cdv A outer s H vs Q E cx ⟨n, F, Hb, p, as, hvs, e, Mo, hn, q⟩ => ?_
  subst hvs
  have hrep := Mo.toMx.rep
  refine s_cons (s_set 1 (rng1 (n := n) T.range (EV.is (len T.len (nm 0 (h := hrep))) (by rw [tab_len]))) (Ex.refl H) fun w Hk H2 g2 hw => ?_)
  have hrep2 := (rL (rL rInt)).up g2.base hrep
  refine s_one (s_retN (lcN [("z", 3), ("x", 2)] (iRv (n := n) (nm 1 (h := hw)) (by omega)) (exc n F) (by omega) (fun z v Hc H' hz e1 e2 hv => gn 3 ⟨rfl, rfl, ?_⟩)) g2.on fun v H3 h1 h2 h3 => q v H3 (g2.ex.none h1) (g2.ex.trans h2) h3)
  have hv : v = .int (z : Int) := hv
  subst hv
  have hr := (rL (rL rInt)).up e1 hrep2
  refine EV.is (sub (sum T.sum (lc [("x", 2)] (iRv (n := n) (nm 1 (h := rRng.up e1 hw)) (by omega)) (fun x => F x z) (by omega) fun x vx Hd H'' hx e3 e4 hvx => gn 2 ⟨rfl, rfl, ?_⟩)) (sum T.sum (ixt (nm 0 (h := hr)) (nm 3 (h := rfl)) hz))) (by rw [tab_sum, tab_sum]; rfl)
  have hvx : vx = .int (x : Int) := hvx
  subst hvx
  exact ixt (ixt (nm 0 (h := (rL (rL rInt)).up e3 hr)) (nm 2 (h := rfl)) hx) (nm 3 (h := rfl)) hz
end K
/-! KG: settled. -/
namespace K
open PySem.Spec PySem PyProof.Rows L2 Z M
theorem EP.run {ι : Type} {X : ι → Cx} {e : Expr} {σ : L2.St} {Hb H1 : Hp} {Φ : V → Hp → Prop} (h : Z.EP X e σ Hb Φ) (c : Ex Hb H1) {Q : VK} (q : ∀ v Hk H2, Go no Hb H1 Hk H2 → Φ v Hk → Q v H2) : wE X e σ H1 Q := h H1 c Q q
theorem tabG {α : Type} (l : List α) (d : α) : l = tab l.length fun i => l.getD i d := tab_of rfl fun i hi => by simp [hi]
theorem ET.run {ι : Type} {X : ι → Cx} {e : Expr} {σ : L2.St} {Hb H1 : Hp} {t : Bool} (h : ET X e σ Hb t) (c : Ex Hb H1) {Q : Bool → Hp → Prop} (q : ∀ Hk H2, Go no Hb H1 Hk H2 → Q t H2) : wT X e σ H1 Q := h H1 c Q q
/-- name = a new matrix by a comprehension -/
theorem s_setLcM {X : Cx} {g : W5} {N : List Str} {k : Nat} {σ : L2.St} {H Hb : Hp} {e tg : Expr} {pos : Pos} {x : Str} {n : Nat} {f : Mat} {D : Ends} [c : CtxZ (u1 X) g N k] {elt : Expr} {scope : Scope} {Y : Nat → V → Hp → Prop} (j : Nat) (own : List (Str × Nat)) (hi : EI (u1 X) tg e σ Hb n Y) (hn : n ≤ 1000000) (cx : Ex Hb H)
    (ht : ∀ i x Hk H, i < n → Ex Hb Hk → Ex Hk H → Y i x Hk → wG (bX (u1 X) scope) tg x (wipe σ (own.map (·.2))) H fun σ2 H2 => H2 = H ∧ wipe σ2 (own.map (·.2)) = wipe σ (own.map (·.2)) ∧ EN (bX (u1 X) scope) elt σ2 Hk (tab n (f i)))
    (q : ∀ p as H2, (∀ b ∈ p :: as, H b = none) → Ex H H2 → Mx H2 p as n f → D.nx (σ.set j (some (.ref p))) H2) {pos' spos : Pos}
    (hN : N[j]? = some x := by rfl) (hyl : X.env.scope.names.lookup x = some .local := by rfl) (hsw : swapsWith (.ListComp elt [⟨tg, e, [], 0⟩] scope pos) (some (.Name x pos')) spos.line X.env = pure true := by exact sw_true rfl rfl rfl (by kernel_rfl))
    (ok : BlkOk N X.env.scope scope own := by exact blkOk_by (by kernel_rfl)) (hs : ∀ x, foldedSetIterable e X.env x = pure x := by intro _; rfl) :
    wS X (.Assign [.Name x pos'] (.ListComp elt [⟨tg, e, [], 0⟩] scope pos) spos) D σ H := by
  have hn0 : X.N = N := c.nm ()
  exact ⟨_, ps_setLc (i := j) (c.calm ()) (by rw [hn0]; exact c.nd) (by rw [hn0]; exact hN) hyl hsw (wI_ok (X := u1 X) ()) (by rw [hn0]; exact ok) (blk_hs (X := u1 X) (P := fun Y => PG Y tg (wG (bX (u1 X) scope) tg)) scope (fun q => wG_ok q) ()) (blk_hs (X := u1 X) (P := fun Y => PTs Y [] (wTs (bX (u1 X) scope) [])) scope (fun q => wTs_ok q) ()) (blk_hs (X := u1 X) (P := fun Y => PE Y elt (wE (bX (u1 X) scope) elt)) scope (fun q => wE_ok q) ()) hs,
    lcM_run hi hn ht cx q⟩
theorem Go.inS {S : Addr → Prop} {Hb H Hk H' Hm H'' : Hp} (G : Go no Hb H Hk H') (g : Go S Hk H' Hm H'') (h : ∀ b, S b → H b = none) : Go no Hb H Hm H'' :=
  ⟨fun b o _ hb => g.real b o (fun z => by rw [h b z] at hb; cases hb) (G.real b o (fun z => z) hb), fun b hb => g.live b (G.live b hb), G.base.trans g.base, g.on, fun b hb z => g.fr b (G.live b hb) (G.fr b hb z)⟩
abbrev stL (n : Nat) (F : Mat) : List Nat := (List.range n).filter fun z => decide (0 < exc n F z)
abbrev glL (n : Nat) (F : Mat) : List Nat := (List.range n).filter fun z => decide (exc n F z < 0)
def spSettled (CN CC : Addr) : Sp := fun vs H1 Q _ => ∃ (n : Nat) (lo hi : Mat) (r : Nat → Int) (Hb : Hp) (v u : V), vs = [v, u] ∧ Ex Hb H1 ∧ (rNt CN CC).r Hb v (n, lo, hi) ∧ (rT rInt).r Hb u (tab n r) ∧ (n ≤ 8 ∧ (∀ x, x < n → 1 ≤ r x ∧ r x ≤ 1000000) ∧ ∀ x y, x < n → y < n → lo x y ≤ hi x y) ∧
  (∀ t p as F H2, (∀ b ∈ t :: p :: as, H1 b = none) → Ex H1 H2 → H2 t = some (.tup [.ref p, .non]) → Mx H2 p as n F → t ∉ p :: as → Circ n (scl r lo) (scl r hi) F → Q (.ref t) H2) ∧
  (∀ t w Hk H2, Go no Hb H1 Hk H2 → H2 t = some (.tup [.non, w]) → w ≠ .non → (∀ F, ¬ Circ n (scl r lo) (scl r hi) F) → Q (.ref t) H2)
theorem ok_settled {g : W5} {CN CC : Addr} (D : DefOf g "settled" pSettled) (T : TX g) (cn : ClOk g CN ntF) (FB : FnB g CX0 1 "bounds_of" ["notes", "row"] [] (spBounds CN CC)) (FE : FnB g CX0 1 "_excess" ["flows"] [] spExcess)
    (FW : FnB g CX0 2 "way_by_steps" ["bounds", "flows", "starts", "goals", "closed"] [.non] spWays) (FS : FnB g CX0 1 "send_along" ["flows", "steps", "amount"] [] spSend) : FnB g CX0 3 "settled" ["notes", "row"] [] (spSettled CN CC) := by
  refine def_ok D pSettledS (by decide +kernel) (fun vs H Q E ⟨n, lo, hi, r, Hb, v, u, h, _⟩ => by rw [h]; rfl) (fun _ _ _ _ _ _ us hl => match us, hl with | [_, _], _ => rfl) fun f0 cdv A outer s H vs Q E cx ⟨n, lo, hi, r, Hb, v, u, hvs, e, hv, hu, ⟨hn, hr, hle⟩, q1, q2⟩ => ?_
  subst hvs
  refine s_cons (s_set 2 (call FB ((n, lo, hi), r) (ac (nm 0 (h := hv)) (ac (nm 1 (h := hu)) a0)) rfl ⟨hn, hr⟩) e fun vb Hk H2 g2 hb => ?_)
  have hb : rB2.r Hk vb (mat n (scl r lo), mat n (scl r hi)) := hb
  refine s_cons (s_setLcM 3 [("line", 4)] (f := scl r lo) (iL (pr0 (nm 2 (h := hb)))) (by omega) g2.on (fun i x Hk H hi e1 e2 hx => gn 4 ⟨rfl, rfl, toListN T.list (nm 4 (h := hx))⟩) fun p as H3 hf e3 m => ?_)
  obtain ⟨G, Mm⟩ := Go.ownM g2 e3 hf m
  have hle2 : ∀ x y, x < n → y < n → scl r lo x y ≤ scl r lo x y ∧ scl r lo x y ≤ scl r hi x y := fun x y hx hy => ⟨Int.le_refl _, Int.mul_le_mul_of_nonneg_left (hle x y hx hy) (by have := hr x hx; omega)⟩
  refine s_one (s_while (fun m σ H' => ∃ (Hk : Hp) (F : Mat) (o4 o5 o6 o7 o8 o9 o10 o11 o12 o13 o14 o15 : Option V), m = (over n F).toNat ∧ σ = [some v, some u, some vb, some (.ref p), o4, o5, o6, o7, o8, o9, o10, o11, o12, o13, o14, o15] ∧ Go no Hb H Hk H' ∧ MxM H Hk H' p as n F ∧ rB2.r Hk vb (mat n (scl r lo), mat n (scl r hi)) ∧ ∀ x y, x < n → y < n → scl r lo x y ≤ F x y ∧ F x y ≤ scl r hi x y)
    ⟨_, Hk, scl r lo, none, none, none, none, none, none, none, none, none, none, none, none, rfl, rfl, G, Mm, hb, hle2⟩ fun m σ' H' hI => ?_)
  obtain ⟨Hk, F, o4, o5, o6, o7, o8, o9, o10, o11, o12, o13, o14, o15, rfl, rfl, G, Mm, hb, hbd⟩ := hI
  refine ET.run (tv (cB (n := true))) (Ex.refl H') fun Hg H1 g1 => ?_
  rw [if_pos rfl]
  have G := G.step g1.ex
  have Mm := Mm.ex g1.ex
  -- excess
  refine s_cons (s_setw 5 (wcall FE (by decide) ⟨_, fun _ => pa_cons (pe_var (i := 3) rfl (.inl rfl) (by decide) (by decide)) pa_nil rfl, _, rfl, n, F, Hk, p, as, rfl, G.on, K.MxM.o Mm, hn, fun ve H4 h1 h2 h3 => ?_⟩))
  have gq : Go no Hk H1 (upd Hk ve (.lst ((tab n (exc n F)).map .int))) H4 := (Go.ofEx G.on h2).fix h1 h3 (G.on.none h1)
  generalize hHm : upd Hk ve _ = Hm at gq
  have hve : (rL rInt).r Hm (.ref ve) (tab n (exc n F)) := rInt.mkL (by rw [← hHm, upd_same])
  have G := G.trans gq
  have Mm := Mm.go0 gq
  have hb := rB2.up gq.base hb
  show wSs _ _ _ [some v, some u, some vb, some (.ref p), o4, some (.ref ve), o6, o7, o8, o9, o10, o11, o12, o13, o14, o15] H4
  -- starts
  refine s_cons (s_setLc 6 [("z", 7), ("over", 8)] (S := rInt) (iEL T.enumerate (nm 5 (h := hve))) (fun z => decide (0 < exc n F z)) (fun z => (z : Int)) (by omega) G.on (fun i x Hc H hi e1 e2 hx => gpair 7 8 hx e2 fun z w hz hw => ⟨rfl, rfl, ts1 (tgt (nm 8 (h := hw)) cI), fun _ => nm 7 (h := hz)⟩) fun vst Hk5 H5 g5 hst => ?_)
  have G := G.trans g5
  have Mm := Mm.go0 g5
  have hb := rB2.up g5.base hb
  have hve := (rL rInt).up g5.base hve
  have hst : (rL rInt).r Hk5 vst (natL (stL n F)) := hst
  show wSs _ _ _ [some v, some u, some vb, some (.ref p), o4, some (.ref ve), some vst, o7, o8, o9, o10, o11, o12, o13, o14, o15] H5
  refine s_cons (s_if (teq (len T.len (nm 6 (h := hst))) cI) G.on (fun ht Hg H6 g6 => ?_) fun ht Hg H6 g6 => s_nil ?_)
  · -- settled
    have hz : (stL n F).length = 0 := by have := of_decide_eq_true ht; simp at this ⊢; exact this
    have G := G.trans g6
    have Mm := Mm.go0 g6
    refine s_one (s_retw ⟨_, fun _ => pe_tup (pa_cons (pe_var (i := 3) rfl (.inl rfl) (by decide) (by decide)) (pa_cons pe_non pa_nil rfl) rfl), _, rfl, by show 2 ≤ sizeLine; decide, fun t ht => ?_⟩)
    have hnt : t ∉ p :: as := fun z => Mm.live t z ht
    refine q1 t p as F _ (fun b hb => ?_) (Go.ex (G.step (Ex.new ht))) upd_same (Mm.ex (Ex.new ht)).toMx hnt (circ_of hbd fun z hz' => ?_)
    · rcases List.mem_cons.1 hb with w | w
      · rw [w]; exact G.new_of ht
      · exact Mm.new b w
    · refine Int.not_lt.mp fun hp => ?_
      have : z ∈ stL n F := List.mem_filter.mpr ⟨List.mem_range.mpr hz', decide_eq_true hp⟩
      rw [List.eq_nil_of_length_eq_zero hz] at this
      cases this
  · have hsne : 0 < (stL n F).length := by have := of_decide_eq_false ht; simp at this ⊢; omega
    have G := G.trans g6
    have Mm := Mm.go0 g6
    have hb := rB2.up g6.base hb
    have hve := (rL rInt).up g6.base hve
    have hst := (rL rInt).up g6.base hst
    -- goals
    refine s_cons (s_setLc 9 [("z", 7), ("over", 8)] (S := rInt) (iEL T.enumerate (nm 5 (h := hve))) (fun z => decide (exc n F z < 0)) (fun z => (z : Int)) (by omega) G.on (fun i x Hc H hi e1 e2 hx => gpair 7 8 hx e2 fun z w hz hw => ⟨rfl, rfl, ts1 (tlt (nm 8 (h := hw)) cI), fun _ => nm 7 (h := hz)⟩) fun vgl Hk7 H7 g7 hgl => ?_)
    have G := G.trans g7
    have Mm := Mm.go0 g7
    have hb := rB2.up g7.base hb
    have hve := (rL rInt).up g7.base hve
    have hst := (rL rInt).up g7.base hst
    have hgl : (rL rInt).r Hk7 vgl (natL (glL n F)) := hgl
    show wSs _ _ _ [some v, some u, some vb, some (.ref p), o4, some (.ref ve), some vst, o7, o8, some vgl, o10, o11, o12, o13, o14, o15] H7
    have hsl : ∀ y ∈ stL n F, y < n := fun y hy => List.mem_range.mp (List.mem_filter.mp hy).1
    -- way, met = ..
    refine s_cons (s_asgw (wcall FW (by decide) ⟨_, fun _ => pa_cons (pe_var (i := 2) rfl (.inl rfl) (by decide) (by decide)) (pa_cons (pe_var (i := 3) rfl (.inl rfl) (by decide) (by decide)) (pa_cons (pe_var (i := 6) rfl (.inl rfl) (by decide) (by decide)) (pa_cons (pe_var (i := 9) rfl (.inl rfl) (by decide) (by decide)) pa_nil rfl) rfl) rfl) rfl,
      _, rfl, _, rfl, _, rfl, _, rfl, n, scl r lo, scl r hi, F, none, stL n F, glL n F, Hk7, p, as, vb, vst, vgl, .non, rfl, G.on, K.MxM.o Mm, hb, hst, hgl, rfl, ⟨hn, List.nodup_range.filter _, hsl⟩, fun vr Hk8 H8 ql g8 hr8 hmet => ?_, fun vr Hk8 H8 a b ss ws ql g8 hr8 ha hb' hway hws => ?_⟩))
    · -- no way
      have G := G.trans g8
      refine gpair 10 11 hr8 G.on fun wy mt hwy hmt => ?_
      obtain rfl : wy = .non := hwy
      refine s_cons (s_if (tIsN (t := true) (nmP (v := V.non) 10 (by simp))) G.on (fun _ Hk9 H9 g9 => ?_) fun h => nomatch h)
      have G := G.trans g9
      have hmt := (rL rInt).up g9.base hmt
      refine s_one (s_ret (dP (R := rV) (T := rT rInt) (a := V.non) (ac cN (ac (toTup T.tuple (EV.to (S := rS rInt) (lcf [("z", 7)] (S := rInt) (iR (n := n) T.range (ntSize (CC := CC) cn (nm 0 (R := rNt CN CC) (a := (n, lo, hi)) (h := (rNt CN CC).up G.base hv))) (by omega)) (fun z => decide (((z : Nat) : Int) ∉ natL ql)) (fun z => (z : Int)) (by omega) fun i x Hc H hi e1 e2 hx => gn 7 ⟨rfl, rfl, ts1 (tNIn (nm 7 (h := hx)) (nm 11 (h := (rL rInt).up e1 hmt))), fun _ => nm 7 (h := hx)⟩) fun _ _ h => rL.s h)) a0))) G.on fun w Hg10 H10 g10 hw => ?_)
      obtain ⟨t, x, y, rfl, hpt, hx, hy⟩ := hw
      obtain rfl : x = .non := hx
      refine q2 t y Hg10 H10 (G.trans g10) (g10.on _ _ hpt) (by obtain ⟨p, xs, e, _⟩ := hy; rw [e]; exact fun z => nomatch z) fun F2 C => ?_
      have h0 : (stL n F)[0] ∈ stL n F := List.getElem_mem hsne
      have h0' := List.mem_filter.mp h0
      refine no_circ (S := fun z => decide (z ∈ ql)) hbd (fun x y hx hy hSx hSy => ?_) (fun z hz hSz => ?_) (List.mem_range.mp h0'.1) (decide_eq_true (hmet.sts _ h0)) (of_decide_eq_true h0'.2) C
      · have hSx := of_decide_eq_true hSx
        have hSy := of_decide_eq_false hSy
        have hne : y ≠ x := fun z => hSy (z ▸ hSx)
        exact ⟨Int.not_lt.mp fun h => hSy (hmet.cls x hSx y hy ⟨hne, .inl ⟨fun z => (nomatch z), h⟩⟩), Int.not_lt.mp fun h => hSy (hmet.cls x hSx y hy ⟨hne, .inr ⟨fun z => (nomatch z), h⟩⟩)⟩
      · refine Int.not_lt.mp fun h => hmet.gls z (of_decide_eq_true hSz) (List.mem_filter.mpr ⟨List.mem_range.mpr hz, decide_eq_true h⟩)
    · -- a way
      have G := G.trans g8
      have Mm := Mm.go0 g8
      have hb := rB2.up g8.base hb
      have hve := (rL rInt).up g8.base hve
      refine gpair 10 11 hr8 G.on fun wy mt hwy hmt => ?_
      obtain ⟨hwy, hwn⟩ := hwy
      refine s_cons (s_if (tIsN (t := false) (nmP (v := wy) 10 (by simp [hwn]))) G.on (fun h => nomatch h) fun _ Hk9 H9 g9 => s_nil ?_)
      have G := G.trans g9
      have Mm := Mm.go0 g9
      have hb := rB2.up g9.base hb
      have hve := (rL rInt).up g9.base hve
      have hwy := rWay.up g9.base hwy
      refine s_cons (s_asg (nmP (v := wy) (Φ := fun v _ => v = wy) 10 rfl) G.on fun w Hk10 H10 g10 hw => ?_)
      subst hw
      have G := G.trans g10
      have Mm := Mm.go0 g10
      have hb := rB2.up g10.base hb
      have hve := (rL rInt).up g10.base hve
      have hwy := rWay.up g10.base hwy
      obtain ⟨pw, w1, w2, w3, rfl, hpw, hw1, hw2, hw3⟩ := hwy
      obtain rfl : w1 = .int (a : Int) := hw1
      obtain rfl : w2 = .int (b : Int) := hw2
      have hw3 : rSt.r Hk10 w3 ss := hw3
      refine gtu (G.on _ _ hpw) (gsc (gn 12 (gsc (gn 13 (gsc (gn 14 (gs0 ?_)))))))
      show wSs _ _ _ [some v, some u, some vb, some (.ref p), o4, some (.ref ve), some vst, o7, o8, some vgl, some (.ref pw), some mt, some (.int (a : Int)), some (.int (b : Int)), some w3, o15] H10
      have ha1 := List.mem_filter.mp ha
      have hb1 := List.mem_filter.mp hb'
      have han : a < n := List.mem_range.mp ha1.1
      have hbn : b < n := List.mem_range.mp hb1.1
      have hea : 0 < exc n F a := of_decide_eq_true ha1.2
      have heb : exc n F b < 0 := of_decide_eq_true hb1.2
      have hlen : ss.length ≤ 8 := by
        have := hway.len
        have := len_le hway.nodup hws
        omega
      have hcap : ∀ s ∈ ss, ∃ c, s[4]? = some c ∧ 1 ≤ c := by
        intro s hs
        exact way_cap hway s hs
      have hw3' : rSt.r Hk10 w3 (tab ss.length fun i => ss.getD i []) := tabG ss [] ▸ hw3
      refine s_one (s_exprw (wcall FS (by decide) ⟨_, fun _ => pa_cons (pe_var (i := 3) rfl (.inl rfl) (by decide) (by decide)) (pa_cons (pe_var (i := 14) rfl (.inl rfl) (by decide) (by decide)) (pa_cons (wE_ok (X := u1 _) ()) pa_nil rfl) rfl) rfl, _, rfl, _, rfl,
        EP.run (minL T.min (dLs (l := exc n F a :: -exc n F b :: ((tab ss.length fun i => (ss.getD i []).getD 4 0) ++ [])) (esc (ixt (nm 5 (h := hve)) (nm 12 (h := rfl)) han) (esc (neg (ixt (nm 5 (h := hve)) (nm 13 (h := rfl)) hbn)) (esS (lc [("step", 15)] (iL (nm 14 (h := hw3'))) (fun i => (ss.getD i []).getD 4 0) (by omega) fun i x Hc H hi e1 e2 hx => gn 15 ⟨rfl, rfl, ix 4 (nm 15 (h := hx)) (cI (n := 4)) rfl ?_⟩) es0))) (by simp; omega)) (by simp)) G.on fun vm Hg H11 g11 hm => ?_⟩))
      · have hsi : ss.getD i [] = ss[i] := by simp [hi]
        obtain ⟨c, hc, _⟩ := hcap ss[i] (List.getElem_mem hi)
        rw [hsi, hc, List.getD_eq_getElem?_getD, hc]; rfl
      · obtain ⟨m, rfl, hml, hmle⟩ := hm
        have h1 : m ≤ exc n F a := hmle _ (List.mem_cons_self ..)
        have h2 : m ≤ -exc n F b := hmle _ (List.mem_cons_of_mem _ (List.mem_cons_self ..))
        have h3 : ∀ s ∈ ss, ∀ c, s[4]? = some c → m ≤ c := fun s hs c hc => by
          obtain ⟨i, hi, rfl⟩ := List.getElem_of_mem hs
          refine hmle _ (List.mem_cons_of_mem _ (List.mem_cons_of_mem _ ?_))
          rw [List.append_nil]
          refine tab_mem.mpr ⟨i, hi, ?_⟩
          have hsi : ss.getD i [] = ss[i] := by simp [hi]
          rw [hsi, List.getD_eq_getElem?_getD, hc]; rfl
        have h4 : 1 ≤ m := by
          rcases List.mem_cons.1 hml with w | w
          · omega
          · rcases List.mem_cons.1 w with w | w
            · omega
            · rw [List.append_nil] at w
              obtain ⟨i, hi, he⟩ := tab_mem.mp w
              have hsi : ss.getD i [] = ss[i] := by simp [hi]
              obtain ⟨c, hc, hc1⟩ := hcap ss[i] (List.getElem_mem hi)
              rw [hsi, List.getD_eq_getElem?_getD, hc] at he
              have : c = m := he
              omega
        have G := G.trans g11
        have Mm := Mm.go0 g11
        have hsend := send_way (amt := m) hway hws (by omega) h3 hbd
        refine ⟨n, F, ss, m, Hg, p, as, w3, rfl, G.on, K.MxM.o Mm, rSt.up g11.base hw3, way_form hway hws, fun Hm2 H12 gs Mo2 => ?_⟩
        have hless := over_less han hbn h4 h1 h2 hsend.2.2.2.2.1
        have := over_nn (n := n) (F := send F ss m)
        exact ⟨(over n (send F ss m)).toNat, by omega, Hm2, send F ss m, _, _, _, _, _, _, _, _, _, _, _, _, rfl, rfl, Go.inS G gs fun b hb => Mm.new b (List.mem_cons_of_mem _ hb), ⟨Mo2.toMx, Mm.new, Mo2.off⟩, rB2.up (g11.base.trans gs.base) hb, hsend.2.2.1⟩
end K
/-! KH: scaled_of, short_lot, is_reached, world_with. -/
namespace K
open PySem.Spec PySem PyProof.Rows L2 Z M
/-- a row: a list or a tuple of ints -/
def rW : Bool → Rep (List Int)
  | true => rL rInt
  | false => rT rInt
abbrev spShareOK : Sp := spF (fun t : Bool × Nat × (Nat → Int) => al2 rInt (t.2.1 : Int) (rW t.1) (tab t.2.1 t.2.2)) (fun t => t.2.1 ≤ 8 ∧ ∀ x, x < t.2.1 → 1 ≤ t.2.2 x) (fun t v H => (rT rInt).r H v (tab t.2.1 t.2.2))
structure RowOk (n : Nat) (r : Nat → Int) : Prop where
  n8 : n ≤ 8
  lo : ∀ x, x < n → 1 ≤ r x
  hi : ∀ x, x < n → r x ≤ 1000000
theorem lcm_bd {n i : Nat} {r : Nat → Int} (h : RowOk n r) (hi : i ≤ n) : Bd (lcmR r i : Int) := by
  have h1 := lcmR_le (r := r) (n := i) fun x hx => ⟨h.lo x (by omega), h.hi x (by omega)⟩
  have h2 : (1000000 : Nat) ^ i ≤ 1000000 ^ 8 := Nat.pow_le_pow_right (by decide) (by have := h.n8; omega)
  have h3 : (1000000 : Nat) ^ 8 < 2 ^ 2000 := by decide +kernel
  unfold Bd
  rw [Int.natAbs_natCast]
  exact Nat.lt_of_le_of_lt (Nat.le_trans h1 h2) h3
/-! scaled_of -/
abbrev spScaled (CC : Addr) : Sp := spF (fun t : Nat × (Nat → Int) × Mat => al2 (rT rInt) (tab t.1 t.2.1) (rL (rL rInt)) (mat t.1 t.2.2)) (fun t => RowOk t.1 t.2.1 ∧ (∀ x y, x < t.1 → y < t.1 → 0 ≤ t.2.2 x y ∧ t.2.2 x y ≤ 10 ^ 30) ∧ TabOk t.1 (ratesOf t.1 t.2.1 t.2.2) ∧ Joined t.1 (ratesOf t.1 t.2.1 t.2.2))
  (fun t v H => (rP rInt (rCh CC)).r H v ((lcmR t.2.1 t.1 : Int), (t.1, ratesOf t.1 t.2.1 t.2.2)))
theorem ok_scaled {g : W5} {CC : Addr} (D : DefOf g "scaled_of" pScaledOf) (T : TX g) (FC : ClB g CX0 4 "Chain" CC ["self", "rows"] (spChInit CC)) : FnB g CX0 6 "scaled_of" ["row", "currents"] [] (spScaled CC) := by
  refine def_ok D pScaledOfS (by decide +kernel) len2 (fun _ _ _ _ _ _ us hl => match us, hl with | [_, _], _ => rfl) fun f0 cdv A outer s H vs Q E cx ⟨⟨n, r, F⟩, Hb, e, h0, ⟨hr, hF, hT, hJ⟩, q⟩ => ?_
  obtain ⟨v, u, rfl, hv, hu⟩ := AL.two h0
  dsimp only at hv hu hr hF hT hJ q
  have hn := hr.n8
  refine s_cons (s_set 2 (cI (n := 1)) e fun w Hk H1 g1 hw => ?_)
  obtain rfl : w = .int 1 := hw
  refine s_cons (s_forB (iT (nm 0 (h := (rT rInt).up g1.base hv))) g1.on (fun i σ Hk H' => ∃ o3 o4 o5 o6 : Option V, σ = [some v, some u, some (.int (lcmR r i : Int)), o3, o4, o5, o6] ∧ Go no Hb H Hk H') ⟨none, none, none, none, rfl, g1⟩ (fun i σ' Hk Hm H1 H2 ⟨o3, o4, o5, o6, hσ, G⟩ g2 => ⟨o3, o4, o5, o6, hσ, G.trans g2⟩) (fun i σ' Hk H' ⟨_, _, _, _, _, G⟩ => G.on) (fun i σ' Hk H' x hi ebk hI hx => gn 3 ?_) fun σ' Hk H' ebk hI => ?_)
  · obtain ⟨o3, o4, o5, o6, rfl, G⟩ := hI
    obtain ⟨H0, e0, hx⟩ := hx
    obtain rfl : x = .int (r i) := hx
    show wSs _ _ _ [some v, some u, some (.int (lcmR r i : Int)), some (.int (r i)), o4, o5, o6] H'
    refine s_one (s_set 2 (lcm2 T.lcm (nm 2 (h := rfl)) (nm 3 (h := rfl)) (lcm_bd hr (by omega)) (Bd.of (Int.le_trans (by decide +kernel) (hr.lo i hi)) (Int.le_trans (hr.hi i hi) (by decide +kernel)))) G.on fun w Hm H2 g2 hw => ?_)
    obtain rfl : w = .int _ := hw
    exact ⟨Hm, g2.base, _, _, _, _, rfl, G.trans g2⟩
  · obtain ⟨o3, o4, o5, o6, rfl, G⟩ := hI
    have hv := (rT rInt).up (g1.base.trans ebk) hv
    have hu := (rL (rL rInt)).up (g1.base.trans ebk) hu
    refine s_cons (s_setLcA 4 [("entry", 3), ("line", 6), ("flow", 5)] (S := rL rInt) (iZTL T.zip (nm 0 (h := hv)) (nm 1 (h := hu))) (fun x => tab n (ratesOf n r F x)) (by omega) G.on (fun i x Hc H hi e1 e2 hx => gpair 3 6 hx e2 fun z w hz hw => ⟨rfl, rfl, ?_⟩) fun w Hk2 H2 g2 hw => ?_)
    · obtain rfl : z = .int (r i) := hz
      have h1 := hr.lo i hi
      refine lc [("flow", 5)] (iL (nm 6 (h := hw))) (ratesOf n r F i) (by omega) fun j y Hd H' hj e3 e4 hy => gn 5 ⟨rfl, rfl, dvB (mulB (nm 5 (h := hy)) (nm 2 (h := rfl)) (Bd.of (Int.le_trans (by decide +kernel) (hF i j hi hj).1) (Int.le_trans (hF i j hi hj).2 (by decide +kernel))) (lcm_bd hr (Nat.le_refl _))) (nm 3 (h := rfl)) (by omega) (Bd.of (Int.le_trans (by decide +kernel) h1) (Int.le_trans (hr.hi i hi) (by decide +kernel)))⟩
    · have hw : (rM true).r Hk2 w (mat n (ratesOf n r F)) := hw
      refine s_one (s_ret (dP (R := rInt) (T := rCh CC) (a := (lcmR r n : Int)) (b := (n, ratesOf n r F)) (ac (nm 2 (h := rfl)) (ac (EP.imp (make FC (true, n, ratesOf n r F) (ac (nm 4 (R := rM true) (a := mat n (ratesOf n r F)) (h := hw)) a0) rfl ⟨hT, hJ⟩ tabPost_up) mkCh) a0))) g2.on fun z Hk3 H3 g3 hz => ?_)
      exact q z Hk3 H3 ((G.trans g2).trans g3) hz
/-! short_lot, is_reached -/
abbrev spShort (CN CC : Addr) : Sp := fun vs H1 Q _ => ∃ (b : Bool) (n : Nat) (lo hi : Mat) (r : Nat → Int) (Hb : Hp) (v u : V), vs = [v, u] ∧ Ex Hb H1 ∧ (rNt CN CC).r Hb v (n, lo, hi) ∧ (rW b).r Hb u (tab n r) ∧ (RowOk n r ∧ ∀ x y, x < n → y < n → lo x y ≤ hi x y) ∧
  ∀ w Hk H2, Go no Hb H1 Hk H2 → (w = .non → ∃ F, Circ n (scl r lo) (scl r hi) F) → (w ≠ .non → ∀ F, ¬ Circ n (scl r lo) (scl r hi) F) → Q w H2
theorem ok_short {g : W5} {CN CC : Addr} {CXe : CXT} (D : DefOf g "short_lot" pShortLot) (T : TX g) (cn : ClOk g CN ntF) (FS : FnB g CX0 3 "settled" ["notes", "row"] [] (spSettled CN CC)) (FR : FnB g CXe 3 "share_row" ["size", "thing"] [] spShareOK) : FnB g CX0 4 "short_lot" ["notes", "row"] [] (spShort CN CC) := by
  refine def_ok D pShortLotS (by decide +kernel) (fun vs H Q E ⟨b, n, lo, hi, r, Hb, v, u, h, _⟩ => by rw [h]; rfl) (fun _ _ _ _ _ _ us hl => match us, hl with | [_, _], _ => rfl) fun f0 cdv A outer s H vs Q E cx ⟨b, n, lo, hi, r, Hb, v, u, hvs, e, hv, hu, ⟨hr, hle⟩, q⟩ => ?_
  subst hvs
  have hn := hr.n8
  refine s_cons (s_asgw (wcall FS (by decide) ⟨_, fun _ => pa_cons (pe_var (i := 0) rfl (.inl rfl) (by decide) (by decide)) (pa_cons (wE_ok (X := u1 _) ()) pa_nil rfl) rfl, _, rfl, EP.run (call FR (b, n, r) (ac (ntSize (CC := CC) cn (nm 0 (R := rNt CN CC) (a := (n, lo, hi)) (h := hv))) (ac (nm 1 (R := rW b) (a := tab n r) (h := hu)) a0)) rfl ⟨hn, hr.lo⟩) e fun w Hk H2 g2 hw => ?_⟩))
  refine ⟨n, lo, hi, r, Hk, v, w, rfl, g2.on, (rNt CN CC).up g2.base hv, hw, ⟨hn, fun x hx => ⟨hr.lo x hx, hr.hi x hx⟩, hle⟩, fun t p as F H3 hf ex ht m _ hc => ?_, fun t w2 Hk3 H3 g3 ht hw2 hno => ?_⟩
  · refine gtu ht (gsc (gn 2 (gsc (gn 3 (gs0 ?_)))))
    have G := g2.step ex
    refine s_one (s_ret (nmP (v := .non) (Φ := fun v _ => v = .non) 3 rfl) G.on fun z Hk4 H4 g4 hz => ?_)
    subst hz
    exact q _ Hk4 H4 (G.trans g4) (fun _ => ⟨F, hc⟩) fun h => absurd rfl h
  · refine gtu ht (gsc (gn 2 (gsc (gn 3 (gs0 ?_)))))
    have G := g2.trans g3
    refine s_one (s_ret (nmP (v := w2) (Φ := fun v _ => v = w2) 3 rfl) G.on fun z Hk4 H4 g4 hz => ?_)
    subst hz
    exact q _ Hk4 H4 (G.trans g4) (fun h => absurd h hw2) fun _ => hno
abbrev spReached (CN CC : Addr) : Sp := fun vs H1 Q _ => ∃ (b : Bool) (n : Nat) (lo hi : Mat) (r : Nat → Int) (Hb : Hp) (v u : V), vs = [v, u] ∧ Ex Hb H1 ∧ (rNt CN CC).r Hb v (n, lo, hi) ∧ (rW b).r Hb u (tab n r) ∧ (RowOk n r ∧ ∀ x y, x < n → y < n → lo x y ≤ hi x y) ∧
  ∀ (t : Bool) Hk H2, Go no Hb H1 Hk H2 → (t = true ↔ ∃ F, Circ n (scl r lo) (scl r hi) F) → Q (.bl t) H2
theorem ok_reached {g : W5} {CN CC : Addr} (D : DefOf g "is_reached" pIsReached) (T : TX g) (FS : FnB g CX0 4 "short_lot" ["notes", "row"] [] (spShort CN CC)) : FnB g CX0 5 "is_reached" ["notes", "row"] [] (spReached CN CC) := by
  refine def_ok D pIsReachedS (by decide +kernel) (fun vs H Q E ⟨b, n, lo, hi, r, Hb, v, u, h, _⟩ => by rw [h]; rfl) (fun _ _ _ _ _ _ us hl => match us, hl with | [_, _], _ => rfl) fun f0 cdv A outer s H vs Q E cx ⟨b, n, lo, hi, r, Hb, v, u, hvs, e, hv, hu, hok, q⟩ => ?_
  subst hvs
  refine s_one (s_retw ⟨_, fun _ => pe_cmpR op_isN (wE_ok (X := u1 _) ()) pe_non (nomark _), wcall FS (by decide) ⟨_, fun _ => pa_cons (pe_var (i := 0) rfl (.inl rfl) (by decide) (by decide)) (pa_cons (pe_var (i := 1) rfl (.inl rfl) (by decide) (by decide)) pa_nil rfl) rfl, _, rfl, _, rfl, b, n, lo, hi, r, Hb, v, u, rfl, e, hv, hu, hok, fun w Hk H2 g2 h1 h2 => ⟨rfl, ?_⟩⟩⟩)
  refine q _ Hk H2 g2 ⟨fun h => h1 (of_decide_eq_true h), fun ⟨F, hF⟩ => decide_eq_true (Classical.byContradiction fun h => h2 h F hF)⟩
/-! world_with -/
abbrev spWorld (CN CC : Addr) : Sp := fun vs H1 Q _ => ∃ (b : Bool) (n : Nat) (lo hi : Mat) (r : Nat → Int) (Hb : Hp) (v u : V), vs = [v, u] ∧ Ex Hb H1 ∧ (rNt CN CC).r Hb v (n, lo, hi) ∧ (rW b).r Hb u (tab n r) ∧ (RowOk n r ∧ (∀ x y, x < n → y < n → lo x y ≤ hi x y) ∧
    ∀ F, Circ n (scl r lo) (scl r hi) F → (∀ x y, x < n → y < n → 0 ≤ F x y ∧ F x y ≤ 10 ^ 30) ∧ TabOk n (ratesOf n r F) ∧ Joined n (ratesOf n r F)) ∧
  (∀ w Hk H2 F, Go no Hb H1 Hk H2 → Circ n (scl r lo) (scl r hi) F → (rP rInt (rCh CC)).r Hk w ((lcmR r n : Int), (n, ratesOf n r F)) → Q w H2) ∧ (∀ Hk H2, Go no Hb H1 Hk H2 → (∀ F, ¬ Circ n (scl r lo) (scl r hi) F) → Q .non H2)
theorem ok_world {g : W5} {CN CC : Addr} {CXe : CXT} (D : DefOf g "world_with" pWorldWith) (T : TX g) (cn : ClOk g CN ntF) (FS : FnB g CX0 3 "settled" ["notes", "row"] [] (spSettled CN CC)) (FR : FnB g CXe 3 "share_row" ["size", "thing"] [] spShareOK) (FC : FnB g CX0 6 "scaled_of" ["row", "currents"] [] (spScaled CC)) : FnB g CX0 7 "world_with" ["notes", "row"] [] (spWorld CN CC) := by
  refine def_ok D pWorldWithS (by decide +kernel) (fun vs H Q E ⟨b, n, lo, hi, r, Hb, v, u, h, _⟩ => by rw [h]; rfl) (fun _ _ _ _ _ _ us hl => match us, hl with | [_, _], _ => rfl) fun f0 cdv A outer s H vs Q E cx ⟨b, n, lo, hi, r, Hb, v, u, hvs, e, hv, hu, ⟨hr, hle, hF⟩, q1, q2⟩ => ?_
  subst hvs
  have hn := hr.n8
  refine s_cons (s_set 2 (call FR (b, n, r) (ac (ntSize (CC := CC) cn (nm 0 (R := rNt CN CC) (a := (n, lo, hi)) (h := hv))) (ac (nm 1 (R := rW b) (a := tab n r) (h := hu)) a0)) rfl ⟨hn, hr.lo⟩) e fun w Hk H2 g2 hw => ?_)
  have hw : (rT rInt).r Hk w (tab n r) := hw
  have hv2 := (rNt CN CC).up g2.base hv
  refine s_cons (s_asgw (wcall FS (by decide) ⟨_, fun _ => pa_cons (pe_var (i := 0) rfl (.inl rfl) (by decide) (by decide)) (pa_cons (pe_var (i := 2) rfl (.inl rfl) (by decide) (by decide)) pa_nil rfl) rfl, _, rfl, _, rfl, n, lo, hi, r, Hk, v, w, rfl, g2.on, hv2, hw, ⟨hn, fun x hx => ⟨hr.lo x hx, hr.hi x hx⟩, hle⟩, fun t p as F H3 hf ex ht m hnt hc => ?_, fun t w2 Hk3 H3 g3 ht hw2 hno => ?_⟩))
  · refine gtu ht (gsc (gn 3 (gsc (gn 4 (gs0 ?_)))))
    show wSs _ _ _ [some v, some u, some w, some (.ref p), some .non] H3
    obtain ⟨G, Mm⟩ := Go.ownM g2 ex (fun b hb => hf b (List.mem_cons_of_mem _ hb)) m
    refine s_cons (s_if (tIsN (t := false) (nmP (v := .ref p) 3 (by simp))) G.on (fun h => nomatch h) fun _ Hg H4 g4 => s_nil ?_)
    have G := G.step g4.ex
    have Mm := Mm.ex g4.ex
    obtain ⟨Hn, G2, en, mn⟩ := G.fixM Mm
    have h3 := hF F hc
    refine s_one (s_ret (call FC (n, r, F) (ac (nm 2 (R := rT rInt) (a := tab n r) (h := (rT rInt).up en hw)) (ac (nm 3 (R := rL (rL rInt)) (a := mat n F) (h := mn.rep)) a0)) rfl ⟨hr, h3⟩) G2.on fun z Hk5 H5 g5 hz => q1 z Hk5 H5 F (G2.trans g5) hc hz)
  · refine gtu ht (gsc (gn 3 (gsc (gn 4 (gs0 ?_)))))
    have G := g2.trans g3
    refine s_cons (s_if (tIsN (t := true) (nmP (v := .non) 3 (by simp))) G.on (fun _ Hg H4 g4 => ?_) fun h => nomatch h)
    have G := G.trans g4
    exact s_one (s_ret cN G.on fun z Hk5 H5 g5 hz => by
      obtain rfl : z = .non := hz
      exact q2 Hk5 H5 (G.trans g5) hno)
end K
/-! KI: way_by_steps as a def, _reached_currents, _most_sent. -/
namespace K
open PySem.Spec PySem PyProof.Rows L2 Z M
/-- a def with defaults -/
abbrev DefDf (g : W5) (x : Str) (st : Stmt) (dvs : List V) : Prop := ∃ f fd, FunD g.K x x (defArgs st) (defBody st) (defScope st) dvs [] f fd ∧ g.mg x = some (.ref f)
abbrev ways5 : List Str := ["bounds", "flows", "starts", "goals", "closed"]
theorem ok_ways {g : W5} (D : DefDf g "way_by_steps" pWayBySteps [.non]) (T : TX g) (FS : FnB g CX0 1 "steps_at" ["bounds", "flows", "z", "closed"] [] spSteps) (FT : FnB g CX0 1 "_traced" ["came", "goal"] [] spTraced) :
    FnB g CX0 2 "way_by_steps" ways5 [.non] spWays ∧ FnB g CX0 2 "way_by_steps" ways5 [] spWays := by
  obtain ⟨f, fd, F, hm⟩ := D
  have ok : FnOk g.P g.w g.K g.mg g.base CX0 2 f fd ways5 spWays := F.ok pWayByStepsS (fun vs H Q E ⟨n, lo, hi, F, cl, st, gl, Hb, p, as, vb, vst, vgl, vc, h, _⟩ => by rw [h]; rfl) fun cdv A outer s H vs Q E hr h => by
    obtain ⟨t, ht, hq⟩ := ways_body (f0 := f) T FS FT ⟨fun _ => rfl, fun _ => rfl, fun _ => rfl, fun _ => rfl, fun _ => rfl, fun _ => rfl, pWayByStepsS.nd, fun _ => rfl, fun _ => hr, namesOk_ok (by decide +kernel)⟩ h
    exact ⟨t, ht.nox, hq⟩
  obtain ⟨ds, r1, b1⟩ := F.binds1 (ps := ways5) 4 0 (by simp) rfl fun T kV doc pm an cdv ct us its hu hi => match us, its, hu, hi with | [_, _, _, _], [_], _, _ => ⟨_, rfl, rfl⟩
  obtain ⟨ds2, r2, b2⟩ := F.binds1 (ps := ways5) 5 1 (by simp) rfl fun T kV doc pm an cdv ct us its hu hi => match us, its, hu, hi with | [_, _, _, _, _], [_], _, _ => ⟨_, rfl, rfl⟩
  exact ⟨⟨⟨f, fd, ds, hm, F.kp, b1, r1, ok⟩, fun X h1 h2 => pass0⟩, ⟨⟨f, fd, ds2, hm, F.kp, b2, r2, ok⟩, fun X h1 h2 => pass0⟩⟩
/-! _reached_currents -/
def spCurr (CN CC : Addr) : Sp := fun vs H1 Q _ => ∃ (n : Nat) (lo hi : Mat) (r : Nat → Int) (Hb : Hp) (v u : V), vs = [v, u] ∧ Ex Hb H1 ∧ (rNt CN CC).r Hb v (n, lo, hi) ∧ (rT rInt).r Hb u (tab n r) ∧ (RowOk n r ∧ (∀ x y, x < n → y < n → lo x y ≤ hi x y) ∧ ∃ F, Circ n (scl r lo) (scl r hi) F) ∧
  ∀ p as F H2, (∀ b ∈ p :: as, H1 b = none) → Ex H1 H2 → Mx H2 p as n F → Circ n (scl r lo) (scl r hi) F → Q (.ref p) H2
theorem ok_curr {g : W5} {CN CC : Addr} (D : DefOf g "_reached_currents" pReachedCurrents) (T : TX g) (FS : FnB g CX0 3 "settled" ["notes", "row"] [] (spSettled CN CC)) : FnB g CX0 4 "_reached_currents" ["notes", "row"] [] (spCurr CN CC) := by
  refine def_ok D pReachedCurrentsS (by decide +kernel) (fun vs H Q E ⟨n, lo, hi, r, Hb, v, u, h, _⟩ => by rw [h]; rfl) (fun _ _ _ _ _ _ us hl => match us, hl with | [_, _], _ => rfl) fun f0 cdv A outer s H vs Q E cx ⟨n, lo, hi, r, Hb, v, u, hvs, e, hv, hu, ⟨hr, hle, F0, hF0⟩, q⟩ => ?_
  subst hvs
  refine s_cons (s_asgw (wcall FS (by decide) ⟨_, fun _ => pa_cons (pe_var (i := 0) rfl (.inl rfl) (by decide) (by decide)) (pa_cons (pe_var (i := 1) rfl (.inl rfl) (by decide) (by decide)) pa_nil rfl) rfl, _, rfl, _, rfl, n, lo, hi, r, Hb, v, u, rfl, e, hv, hu, ⟨hr.n8, fun x hx => ⟨hr.lo x hx, hr.hi x hx⟩, hle⟩, fun t p as F H3 hf ex ht m hnt hc => ?_, fun t w2 Hk3 H3 g3 ht hw2 hno => absurd hF0 (hno F0)⟩))
  refine gtu ht (gsc (gn 2 (gsc (gn 3 (gs0 ?_)))))
  refine s_cons (s_if (tIsN (t := false) (nmP (v := .ref p) 2 (by simp))) (e.trans ex) (fun h => nomatch h) fun _ Hg H4 g4 => s_nil ?_)
  refine s_one (s_retw ⟨_, fun _ => pe_var (i := 2) rfl (.inl rfl) (by decide) (by decide), _, rfl, ?_⟩)
  exact q p as F H4 (fun b hb => hf b (List.mem_cons_of_mem _ hb)) (ex.trans g4.ex) (m.mono g4.ex) hc
/-! _most_sent -/
def spMost : Sp := fun vs H1 Q _ => ∃ (n : Nat) (lo hi F : Mat) (cl : M.Cl) (a b : Nat) (lim : Int) (Hb : Hp) (p : Addr) (as : List Addr) (vb vc : V), vs = [vb, .ref p, .int (a : Int), .int (b : Int), vc, .int lim] ∧ Ex Hb H1 ∧ MxO Hb H1 p as n F ∧ rB2.r Hb vb (mat n lo, mat n hi) ∧ rCl.r Hb vc cl ∧
  (n ≤ 8 ∧ a < n ∧ b < n ∧ a ≠ b ∧ 0 ≤ lim ∧ ∀ x y, x < n → y < n → lo x y ≤ F x y ∧ F x y ≤ hi x y) ∧ ∀ s Hk H2, Go no Hb H1 Hk H2 → Most n lo hi F cl a b lim s → Q (.int s) H2
theorem ix3 {ι : Type} {X : ι → Cx} {g : W5} {N : List Str} {k : Nat} {σ : L2.St} {Hb : Hp} {e : Expr} {pos p0 : Pos} {j0 : Nat} {α β γ : Type} {R : Rep α} {S : Rep β} {U : Rep γ} {a : α} {b : β} {d : γ} [c : CtxZ X g N k] (h : EV X e σ Hb (rP3 R S U) (a, b, d)) (hs : PlainIx (.Constant (.int 2) j0 p0) := by intro _ _; rfl) : EV X (.Subscript e (.Constant (.int 2) j0 p0) pos) σ Hb U d := fun H1 c1 Q q =>
  ⟨_, fun i => pe_ix (ix_K i) (wE_ok i) pe_int hs, h H1 c1 _ fun v Hk H2 g1 ⟨p, x, y, z, e, b, rx, ry, rz⟩ => .inr (.inl ⟨p, _, 2, z, e, rfl, SqT.of (g1.on _ _ b), rfl, q z Hk H2 g1 rz⟩)⟩
theorem ok_most {g : W5} (D : DefOf g "_most_sent" pMostSent) (T : TX g) (FW : FnB g CX0 2 "way_by_steps" ways5 [] spWays) (FS : FnB g CX0 1 "send_along" ["flows", "steps", "amount"] [] spSend) : FnB g CX0 3 "_most_sent" ["bounds", "flows", "start", "goal", "closed", "limit"] [] spMost := by
  refine def_ok D pMostSentS (by decide +kernel) (fun vs H Q E ⟨n, lo, hi, F, cl, a, b, lim, Hb, p, as, vb, vc, h, _⟩ => by rw [h]; rfl) (fun _ _ _ _ _ _ us hl => match us, hl with | [_, _, _, _, _, _], _ => rfl) fun f0 cdv A outer s H vs Q E cx ⟨n, lo, hi, F, cl, a, b, lim, Hb, p, as, vb, vc, hvs, e, Mo, hb, hc, ⟨hn, han, hbn, hab, hlim, hF⟩, q⟩ => ?_
  subst hvs
  have hrep := Mo.toMx.rep
  -- work
  refine s_cons (s_setLcM 6 [("line", 7)] (f := F) (iL (nm 1 (h := hrep))) (by omega) (Ex.refl H) (fun i x Hk H hi e1 e2 hx => gn 7 ⟨rfl, rfl, toListN T.list (nm 7 (h := hx))⟩) fun pw aw H3 hf e3 m => ?_)
  obtain ⟨G, Mm⟩ := Go.ownM (Go.refl (S := no) e) e3 hf m
  refine s_cons (s_set 8 (cI (n := 0)) G.on fun w Hk H4 g4 hw => ?_)
  obtain rfl : w = .int 0 := hw
  have inv0 : ∀ z, z < n → exc n F z = exc n F z + (if z = b then (0 : Int) else 0) - (if z = a then (0 : Int) else 0) := fun z _ => by split <;> split <;> omega
  refine s_cons (s_while (fun m σ H' => ∃ (Hk : Hp) (W : Mat) (sn : Int) (o7 o9 o10 o11 o12 : Option V), m = (lim - sn).toNat ∧ σ = [some vb, some (.ref p), some (.int (a : Int)), some (.int (b : Int)), some vc, some (.int lim), some (.ref pw), o7, some (.int sn), o9, o10, o11, o12] ∧ Go no Hb H Hk H' ∧ MxM H Hk H' pw aw n W ∧ 0 ≤ sn ∧ sn ≤ lim ∧ (∀ x y, x < n → y < n → lo x y ≤ W x y ∧ W x y ≤ hi x y) ∧ (∀ x y : Nat, cl = some ((x : Int), (y : Int)) → W x y = F x y) ∧
      (∀ z, z < n → exc n W z = exc n F z + (if z = b then sn else 0) - (if z = a then sn else 0)))
    ⟨_, Hb, F, 0, none, none, none, none, none, rfl, rfl, G.step g4.ex, Mm.ex g4.ex, by omega, hlim, hF, fun _ _ _ => rfl, inv0⟩ fun m σ' H' hI => ?_)
  obtain ⟨Hk, W, sn, o7, o9, o10, o11, o12, rfl, rfl, G, Mm, s0, s1, hW, hWc, hWe⟩ := hI
  refine ET.run (tlt (nm 8 (h := rfl)) (nm 5 (h := rfl))) (Ex.refl H') fun Hg H1 g1 => ?_
  have G := G.step g1.ex
  have Mm := Mm.ex g1.ex
  by_cases hlt : sn < lim
  · rw [if_pos (decide_eq_true hlt)]
    have hb' := rB2.up G.base hb
    have hc' := rCl.up G.base hc
    have n1 : ∀ z : Nat, natL [z] = [(z : Int)] := fun z => rfl
    refine s_cons (s_asgw (wcall FW (by decide) ⟨_, fun _ => pa_cons (pe_var (i := 0) rfl (.inl rfl) (by decide) (by decide)) (pa_cons (pe_var (i := 6) rfl (.inl rfl) (by decide) (by decide)) (wA_ok (X := u1 _) ()) rfl) rfl, _, rfl, _, rfl,
      (ac (dL (R := rInt) (l := natL [a]) (ac (nm 2 (R := rInt) (a := (a : Int)) (h := rfl)) a0) (fun H vs h => by obtain ⟨v, rfl, r⟩ := AL.one h; exact .cons r .nil) (by show 1 ≤ 1000; decide)) (ac (dL (R := rInt) (l := natL [b]) (ac (nm 3 (R := rInt) (a := (b : Int)) (h := rfl)) a0) (fun H vs h => by obtain ⟨v, rfl, r⟩ := AL.one h; exact .cons r .nil) (by show 1 ≤ 1000; decide)) (ac (nm 4 (R := rCl) (a := cl) (h := hc')) a0))) H1 G.on _ fun us Hk5 H5 g5 hus => ?_⟩))
    obtain ⟨vst, vgl, vcc, rfl, hst, hgl, hcc⟩ := AL.three hus
    have G := G.trans g5
    have Mm := Mm.go0 g5
    have hb' := rB2.up g5.base hb'
    refine ⟨n, lo, hi, W, cl, [a], [b], Hk5, pw, aw, vb, vst, vgl, vcc, rfl, G.on, K.MxM.o Mm, hb', hst, hgl, hcc, ⟨hn, by simp, by simpa using han⟩, fun vr Hk8 H8 ql g8 hr8 hmet => ?_, fun vr Hk8 H8 a' b' ss ws ql g8 hr8 ha' hb'' hway hws => ?_⟩
    · have G := G.trans g8
      refine gpair 9 10 hr8 G.on fun wy mt hwy hmt => ?_
      obtain rfl : wy = .non := hwy
      refine s_cons (s_if (tIsN (t := true) (nmP (v := V.non) 9 (by simp))) G.on (fun _ Hk9 H9 g9 => ?_) fun h => nomatch h)
      have G := G.trans g9
      refine s_one (s_ret (nm 8 (R := rInt) (a := sn) (h := rfl)) G.on fun w Hk10 H10 g10 hw => ?_)
      obtain rfl : w = .int sn := hw
      exact q sn Hk10 H10 (G.trans g10) ⟨W, s0, s1, hW, hWc, hWe, .inr ⟨ql, hmet⟩⟩
    · obtain rfl := List.mem_singleton.1 ha'
      obtain rfl := List.mem_singleton.1 hb''
      have G := G.trans g8
      have Mm := Mm.go0 g8
      refine gpair 9 10 hr8 G.on fun wy mt hwy hmt => ?_
      obtain ⟨hwy, hwn⟩ := hwy
      refine s_cons (s_if (tIsN (t := false) (nmP (v := wy) 9 (by simp [hwn]))) G.on (fun h => nomatch h) fun _ Hk9 H9 g9 => s_nil ?_)
      have G := G.trans g9
      have Mm := Mm.go0 g9
      have hwy := rWay.up g9.base hwy
      have hlen : ss.length ≤ 8 := by
        have := hway.len
        have := len_le hway.nodup hws
        omega
      have hcap : ∀ s ∈ ss, ∃ c, s[4]? = some c ∧ 1 ≤ c := way_cap hway
      have hwy' : rWay.r Hk9 wy (((a' : Nat) : Int), ((b' : Nat) : Int), tab ss.length fun i => ss.getD i []) := by rw [← tabG ss []]; exact hwy
      show wSs _ _ _ [some vb, some (.ref p), some (.int (a' : Int)), some (.int (b' : Int)), some vc, some (.int lim), some (.ref pw), o7, some (.int sn), some wy, some mt, o11, o12] H9
      refine s_cons (s_set 11 (minL T.min (dLs (l := (lim - sn) :: ((tab ss.length fun i => (ss.getD i []).getD 4 0) ++ [])) (esc (sub (nm 5 (h := rfl)) (nm 8 (h := rfl))) (esS (lc [("step", 12)] (iL (ix3 (R := rInt) (S := rInt) (a := ((a' : Nat) : Int)) (b := ((b' : Nat) : Int)) (nm 9 (h := hwy')))) (fun i => (ss.getD i []).getD 4 0) (by omega) fun i x Hc H hi e1 e2 hx => gn 12 ⟨rfl, rfl, ix 4 (nm 12 (h := hx)) (cI (n := 4)) rfl ?_⟩) es0)) (by simp; omega)) (by simp)) G.on fun vm Hg H11 g11 hm => ?_)
      · have hsi : ss.getD i [] = ss[i] := by simp [hi]
        obtain ⟨c, hc, _⟩ := hcap ss[i] (List.getElem_mem hi)
        rw [hsi, hc, List.getD_eq_getElem?_getD, hc]; rfl
      · obtain ⟨m, rfl, hml, hmle⟩ := hm
        have h1 : m ≤ lim - sn := hmle _ (List.mem_cons_self ..)
        have h3 : ∀ s ∈ ss, ∀ c, s[4]? = some c → m ≤ c := fun s hs c hc => by
          obtain ⟨i, hi, rfl⟩ := List.getElem_of_mem hs
          refine hmle _ (List.mem_cons_of_mem _ ?_)
          rw [List.append_nil]
          refine tab_mem.mpr ⟨i, hi, ?_⟩
          have hsi : ss.getD i [] = ss[i] := by simp [hi]
          rw [hsi, List.getD_eq_getElem?_getD, hc]; rfl
        have h4 : 1 ≤ m := by
          rcases List.mem_cons.1 hml with w | w
          · omega
          · rw [List.append_nil] at w
            obtain ⟨i, hi, he⟩ := tab_mem.mp w
            have hsi : ss.getD i [] = ss[i] := by simp [hi]
            obtain ⟨c, hc, hc1⟩ := hcap ss[i] (List.getElem_mem hi)
            rw [hsi, List.getD_eq_getElem?_getD, hc] at he
            have : c = m := he
            omega
        have G := G.trans g11
        have Mm := Mm.go0 g11
        have hwy := rWay.up g11.base hwy
        have hsend := send_way (amt := m) hway hws (by omega) h3 hW
        refine s_cons (s_exprw (wcall FS (by decide) ⟨_, fun _ => pa_cons (pe_var (i := 6) rfl (.inl rfl) (by decide) (by decide)) (pa_cons (wE_ok (X := u1 _) ()) (pa_cons (pe_var (i := 11) rfl (.inl rfl) (by decide) (by decide)) pa_nil rfl) rfl) rfl, _, rfl,
          EV.run (ix3 (R := rInt) (S := rInt) (a := ((a' : Nat) : Int)) (b := ((b' : Nat) : Int)) (d := ss) (nm 9 (h := hwy))) G.on fun vst Hm2 H12 g12 hst => ⟨_, rfl, n, W, ss, m, Hm2, pw, aw, vst, rfl, g12.on, K.MxM.o (Mm.go0 g12), hst, way_form hway hws, fun Hm3 H13 gs Mo2 => ?_⟩⟩))
        have G := Go.inS (G.trans g12) gs fun b hb => Mm.new b (List.mem_cons_of_mem _ hb)
        refine s_one (s_aug 8 (a := sn) (b := m) (nm 11 (h := rfl)) G.on fun Hg14 H14 g14 => ?_)
        refine ⟨(lim - (sn + m)).toNat, by omega, Hm3, send W ss m, sn + m, _, _, _, _, _, rfl, rfl, G.step g14.ex, (MxM.mk Mo2.toMx Mm.new Mo2.off).ex g14.ex, by omega, by omega, hsend.2.2.1, fun x y hxy => by rw [hsend.2.2.2.2.2 x y hxy, hWc x y hxy], fun z hz => ?_⟩
        rw [hsend.2.2.2.2.1 z hz, hWe z hz]
        split <;> split <;> omega
  · rw [if_neg (by simp; omega)]
    refine s_one (s_ret (nm 8 (R := rInt) (a := sn) (h := rfl)) G.on fun w Hk10 H10 g10 hw => ?_)
    obtain rfl : w = .int sn := hw
    exact q sn Hk10 H10 (G.trans g10) ⟨W, s0, s1, hW, hWc, hWe, .inl (by omega)⟩
end K
/-! KJ: unseen, unseen_many, rate_span, _ring_over. -/
namespace K
open PySem.Spec PySem PyProof.Rows L2 Z M
section
variable {ι : Type} {X : ι → Cx} {g : W5} {N : List Str} {k k' : Nat} {σ : L2.St} {Hb : Hp} {e : Expr} {pos apos : Pos} {C f pa : Addr} {fd : FuncData} {m : Str} {α : Type} {R : Rep α} {pre : α → Prop} {post : α → V → Hp → Prop} {t : α}
/-- e.m() -/
theorem mth0 [c : CtxZ X g N k] (hc : Cls g.K C) (hm : Meth g.K C m f) (F : FnOk g.P g.w g.K g.mg g.base CX0 k' f fd ["self"] (spF (fun t : α => al1 R t) pre post)) (hb : Binds g.K fd ["self"] []) (h : Z.EP X e σ Hb fun v H => R.r H v t ∧ ∃ a dx fs, v = .ref a ∧ H a = some (.ins C dx fs) ∧ fs.lookup m = none) (hp : pre t) (hk : k' ≤ k := by decide) {pl : ι → Sem Bool}
    (ht : ∀ i, eval (.Call (.Attribute e m apos) [] [] pos) (X i).env = (do
      let ov ← eval e (X i).env
      standAt apos.atName
      let (f, first) ← holding [ov] (getMethod ov m (pl i))
      callWith pos f first (backTo pos (starEach [] (X i).env)) (backToKw pos (keywordEach [] (X i).env))) := by intro _; rfl) : Z.EP X (.Call (.Attribute e m apos) [] [] pos) σ Hb (post t) := fun H1 c1 Q q =>
  ⟨tMeth C m (spF (fun t : α => al1 R t) pre post) [] E0 (wE X e) tNil, fun i => by
    refine pe_meth0 (X := X i) (ps := ["self"]) (CX := CX0) (k := k') (fd := fd) (ds := []) (pl := pl i) (wE_ok i) (by rw [c.K i]; exact hc) (by rw [c.K i]; exact hm) (by rw [c.P i, c.w i, c.K i, c.mg i, c.base i]; exact F) ((c.room i).mono hk) (by rw [c.K i]; exact hb) .nil pass0 (ht i), by
    refine h H1 c1 _ fun v Hk H2 g1 ⟨r, a, dx, fs, e1, e2, e3⟩ => ⟨a, dx, fs, e1, g1.on _ _ e2, e3, t, Hk, g1.on, ⟨v, [], rfl, r, rfl⟩, hp, fun w Hl H3 g2 z => q w Hl H3 (g1.trans g2) z⟩⟩
/-- e.f, a property -/
theorem prp [c : CtxZ X g N k] (hc : Cls g.K C) (hm : PropOf g.K C m pa f) (F : FnOk g.P g.w g.K g.mg g.base CX0 k' f fd ["self"] (spF (fun t : α => al1 R t) pre post)) (hb : Binds g.K fd ["self"] []) (h : Z.EP X e σ Hb fun v H => R.r H v t ∧ ∃ a dx fs, v = .ref a ∧ H a = some (.ins C dx fs)) (hp : pre t) (hk : k' + 1 ≤ k := by decide)
    (hab : ∀ i, attributeBase e m (X i).env (eval e (X i).env) = eval e (X i).env := by intro _; rfl) : Z.EP X (.Attribute e m pos) σ Hb (post t) := fun H1 c1 Q q =>
  ⟨tProp C (spF (fun t : α => al1 R t) pre post) [] E0 (wE X e), fun i => by
    refine pe_prop (X := X i) (ps := ["self"]) (CX := CX0) (k := k') (fd := fd) (ds := []) (wE_ok i) (by rw [c.K i]; exact hc) (by rw [c.K i]; exact hm) (by rw [c.P i, c.w i, c.K i, c.mg i, c.base i]; exact F) ((c.room i).mono hk) (by rw [c.K i]; exact hb) .nil pass0 (hab i), by
    refine h H1 c1 _ fun v Hk H2 g1 ⟨r, a, dx, fs, e1, e2⟩ => ⟨a, dx, fs, e1, g1.on _ _ e2, t, Hk, g1.on, ⟨.ref a, [], rfl, e1 ▸ r, rfl⟩, hp, fun w Hl H3 g2 z => q w Hl H3 (g1.trans g2) z⟩⟩
end
abbrev unl (t : Nat × Mat × Mat) : List (Int × Int) := prs t.1 fun x y => decide (t.2.1 x y ≠ t.2.2 x y)
abbrev spUns (CN CC : Addr) : Sp := spF (fun t : Nat × Mat × Mat => al1 (rNt CN CC) t) (fun _ => True) (fun t v H => (rT (rP rInt rInt)).r H v (unl t))
abbrev spUnsM (CN CC : Addr) : Sp := spF (fun t : Nat × Mat × Mat => al1 (rNt CN CC) t) (fun _ => True) (fun t v H => rInt.r H v ((unl t).length : Int))
theorem ok_uns {g : W5} {CN CC f : Addr} {fd : FuncData} (F : FunD g.K "unseen" "Notes.unseen" (defArgs mNotesUnseen) (defBody mNotesUnseen) (defScope mNotesUnseen) [] [] f fd) (cn : ClOk g CN ntF) : FnOk g.P g.w g.K g.mg g.base CX0 1 f fd ["self"] (spUns CN CC) ∧ Binds g.K fd ["self"] [] := by
  refine fun_ok F mNotesUnseenS (by decide +kernel) len1 (fun _ _ _ _ _ _ us hl => match us, hl with | [_], _ => rfl) fun f0 cdv A outer s H vs Q E cx ⟨t, Hb, e, h0, _, q⟩ => ?_
  obtain ⟨v, rfl, hv⟩ := AL.one h0
  exact s_one (s_ret (ntUns cn (nm 0 (R := rNt CN CC) (a := t) (h := hv))) e q)
theorem ok_unsM {g : W5} {CN CC f : Addr} {fd : FuncData} (F : FunD g.K "unseen_many" "Notes.unseen_many" (defArgs mNotesUnseenMany) (defBody mNotesUnseenMany) (defScope mNotesUnseenMany) [] [] f fd) (T : TX g) (cn : ClOk g CN ntF) : FnOk g.P g.w g.K g.mg g.base CX0 1 f fd ["self"] (spUnsM CN CC) ∧ Binds g.K fd ["self"] [] := by
  refine fun_ok F mNotesUnseenManyS (by decide +kernel) len1 (fun _ _ _ _ _ _ us hl => match us, hl with | [_], _ => rfl) fun f0 cdv A outer s H vs Q E cx ⟨t, Hb, e, h0, _, q⟩ => ?_
  obtain ⟨v, rfl, hv⟩ := AL.one h0
  exact s_one (s_ret (len T.len (ntUns cn (nm 0 (R := rNt CN CC) (a := t) (h := hv)))) e q)
theorem EL.run {ι : Type} {X : ι → Cx} {es : List Expr} {σ : L2.St} {Hb H1 : Hp} {L : AL} (h : EL X es σ Hb L) (c : Ex Hb H1) {Q : List V → Hp → Prop} (q : ∀ vs Hk H2, Go no Hb H1 Hk H2 → L.r Hk vs → Q vs H2) : wA X es σ H1 Q := h H1 c Q q
/-! rate_span -/
abbrev spCheckOK : Sp := spF (fun t : Nat × List Int × List (Int × Int) => al3 rInt (t.1 : Int) (rT rInt) t.2.1 (rT (rP rInt rInt)) t.2.2) (fun t => (∀ s ∈ t.2.1, 0 ≤ s ∧ s < (t.1 : Int)) ∧ ∀ p ∈ t.2.2, ∃ i j : Nat, p = ((i : Int), (j : Int)) ∧ ∃ a b, t.2.1[i]? = some a ∧ t.2.1[j]? = some b ∧ a ≠ b) (fun t v H => v = .non)
abbrev rFr : Rep (Int × Int) := rP rInt rInt
def spSpan (CN CC : Addr) : Sp := fun vs H1 Q _ => ∃ (bb : Bool) (n : Nat) (lo hi : Mat) (r : Nat → Int) (x y : Nat) (Hb : Hp) (v u : V), vs = [v, u, .int (x : Int), .int (y : Int)] ∧ Ex Hb H1 ∧ (rNt CN CC).r Hb v (n, lo, hi) ∧ (rW bb).r Hb u (tab n r) ∧ (RowOk n r ∧ (∀ x y, x < n → y < n → lo x y ≤ hi x y) ∧ (∃ F, Circ n (scl r lo) (scl r hi) F) ∧ x < n ∧ y < n ∧ x ≠ y) ∧
  ∀ w Hk H2 F dn up, Go no Hb H1 Hk H2 → Circ n (scl r lo) (scl r hi) F → Most n (scl r lo) (scl r hi) F (some ((x : Int), (y : Int))) x y (F x y - scl r lo x y) dn → Most n (scl r lo) (scl r hi) F (some ((x : Int), (y : Int))) y x (scl r hi x y - F x y) up →
    (rP rFr rFr).r Hk w ((frU (F x y - dn) (r x), frV (F x y - dn) (r x)), (frU (F x y + up) (r x), frV (F x y + up) (r x))) → Q w H2
theorem ok_span {g : W5} {CN CC : Addr} {CXe CXf : CXT} (D : DefOf g "rate_span" pRateSpan) (T : TX g) (cn : ClOk g CN ntF) (FK : FnB g CXe 3 "check_states" ["size", "states", "unlike"] [] spCheckOK) (FR : FnB g CXf 3 "share_row" ["size", "thing"] [] spShareOK) (FC : FnB g CX0 4 "_reached_currents" ["notes", "row"] [] (spCurr CN CC)) (FB : FnB g CX0 1 "bounds_of" ["notes", "row"] [] (spBounds CN CC))
    (FM : FnB g CX0 3 "_most_sent" ["bounds", "flows", "start", "goal", "closed", "limit"] [] spMost) (FF : FnB g CX0 2 "fraction" ["u", "v"] [] spFrac) : FnB g CX0 5 "rate_span" ["notes", "row", "x", "y"] [] (spSpan CN CC) := by
  refine def_ok D pRateSpanS (by decide +kernel) (fun vs H Q E ⟨bb, n, lo, hi, r, x, y, Hb, v, u, h, _⟩ => by rw [h]; rfl) (fun _ _ _ _ _ _ us hl => match us, hl with | [_, _, _, _], _ => rfl) fun f0 cdv A outer s H vs Q E cx ⟨bb, n, lo, hi, r, x, y, Hb, v, u, hvs, e, hv, hu, ⟨hr, hle, hc0, hx, hy, hxy⟩, q⟩ => ?_
  subst hvs
  have hn := hr.n8
  -- check_states
  refine s_cons (s_expr (call FK (n, [(x : Int), (y : Int)], [(0, 1)]) (ac (ntSize (CC := CC) cn (nm 0 (R := rNt CN CC) (a := (n, lo, hi)) (h := hv))) (ac (dT (R := rInt) (l := [(x : Int), (y : Int)]) (ac (nm 2 (R := rInt) (a := (x : Int)) (h := rfl)) (ac (nm 3 (R := rInt) (a := (y : Int)) (h := rfl)) a0)) (fun H vs h => by obtain ⟨a, b, rfl, r1, r2⟩ := AL.two h; exact .cons r1 (.cons r2 .nil)) (by show 2 ≤ 1000; decide))
    (ac (dT (R := rP rInt rInt) (l := [((0 : Int), (1 : Int))]) (ac (dP (R := rInt) (T := rInt) (a := (0 : Int)) (b := (1 : Int)) (ac cI (ac cI a0))) a0) (fun H vs h => by obtain ⟨a, rfl, r1⟩ := AL.one h; exact .cons r1 .nil)) a0))) rfl ⟨fun s hs => by
      rcases List.mem_cons.1 hs with w | w
      · omega
      · have := List.mem_singleton.1 w; omega, fun p hp => by
      rw [List.mem_singleton.1 hp]
      exact ⟨0, 1, rfl, _, _, rfl, rfl, by omega⟩⟩) e fun w Hk H2 g2 hw => ?_)
  have hv := (rNt CN CC).up g2.base hv
  have hu := (rW bb).up g2.base hu
  refine s_cons (s_set 4 (call FR (bb, n, r) (ac (ntSize (CC := CC) cn (nm 0 (R := rNt CN CC) (a := (n, lo, hi)) (h := hv))) (ac (nm 1 (R := rW bb) (a := tab n r) (h := hu)) a0)) rfl ⟨hn, hr.lo⟩) g2.on fun vw Hk3 H3 g3 hw => ?_)
  have hw : (rT rInt).r Hk3 vw (tab n r) := hw
  have hv := (rNt CN CC).up g3.base hv
  have G := g2.trans g3
  -- flows
  refine s_cons (s_setw 5 (wcall FC (by decide) ⟨_, fun _ => pa_cons (pe_var (i := 0) rfl (.inl rfl) (by decide) (by decide)) (pa_cons (pe_var (i := 4) rfl (.inl rfl) (by decide) (by decide)) pa_nil rfl) rfl, _, rfl, _, rfl, n, lo, hi, r, Hk3, v, vw, rfl, G.on, hv, hw, ⟨hr, hle, hc0⟩, fun p as F H4 hf ex m hcirc => ?_⟩))
  obtain ⟨G, Mm⟩ := Go.ownM G ex hf m
  show wSs _ _ _ [some v, some u, some (.int (x : Int)), some (.int (y : Int)), some vw, some (.ref p), none, none, none, none, none] H4
  -- lows, highs
  refine s_cons (s_asg (call FB ((n, lo, hi), r) (ac (nm 0 (R := rNt CN CC) (a := (n, lo, hi)) (h := hv)) (ac (nm 4 (R := rT rInt) (a := tab n r) (h := hw)) a0)) rfl ⟨hn, fun x hx => ⟨hr.lo x hx, hr.hi x hx⟩⟩) G.on fun vb Hk5 H5 g5 hb => ?_)
  have hb : rB2.r Hk5 vb (mat n (scl r lo), mat n (scl r hi)) := hb
  have G := G.trans g5
  have Mm := Mm.go0 g5
  have hw := (rT rInt).up g5.base hw
  refine gpair 6 7 hb G.on fun vl vh hl hh => ?_
  show wSs _ _ _ [some v, some u, some (.int (x : Int)), some (.int (y : Int)), some vw, some (.ref p), some vl, some vh, none, none, none] H5
  -- flow
  refine s_cons (s_set 8 (ixt (ixt (nm 5 (h := Mm.toMx.rep)) (nm 2 (h := rfl)) hx) (nm 3 (h := rfl)) hy) (Ex.refl H5) fun w Hg H6 g6 hf6 => ?_)
  obtain rfl : w = .int (F x y) := hf6
  have G := G.step g6.ex
  have Mm := Mm.ex g6.ex
  have hbd := hcirc.bd x y hx hy
  show wSs _ _ _ [some v, some u, some (.int (x : Int)), some (.int (y : Int)), some vw, some (.ref p), some vl, some vh, some (.int (F x y)), none, none] H6
  -- down
  refine s_cons (s_setw 9 (wcall FM (by decide) ⟨_, fun _ => pa_cons (wE_ok (X := u1 _) ()) (pa_cons (pe_var (i := 5) rfl (.inl rfl) (by decide) (by decide)) (wA_ok (X := u1 _) ()) rfl) rfl,
    EV.run (dP (R := rL (rL rInt)) (T := rL (rL rInt)) (a := mat n (scl r lo)) (b := mat n (scl r hi)) (ac (nm 6 (h := hl)) (ac (nm 7 (h := hh)) a0))) G.on fun vb2 Hk7 H7 g7 hb2 => ⟨_, rfl,
      EL.run (ac (nm 2 (R := rInt) (a := (x : Int)) (h := rfl)) (ac (nm 3 (R := rInt) (a := (y : Int)) (h := rfl)) (ac (EV.to (S := rCl) (b := some ((x : Int), (y : Int))) (dP (R := rInt) (T := rInt) (a := (x : Int)) (b := (y : Int)) (ac (nm 2 (h := rfl)) (ac (nm 3 (h := rfl)) a0))) fun _ _ h => toCl h) (ac (sub (nm 8 (R := rInt) (h := rfl)) (ixt (ixt (nm 6 (h := (rL (rL rInt)).up g7.base hl)) (nm 2 (h := rfl)) hx) (nm 3 (h := rfl)) hy)) a0)))) g7.on fun us Hk8 H8 g8 hus => ?_⟩⟩))
  obtain ⟨z1, z2, z3, z4, rfl, hz1, hz2, hz3, hz4⟩ := AL.four hus
  obtain rfl : z1 = .int (x : Int) := hz1
  obtain rfl : z2 = .int (y : Int) := hz2
  obtain rfl : z4 = .int (F x y - scl r lo x y) := hz4
  have G := (G.trans g7).trans g8
  have Mm := (Mm.go0 g7).go0 g8
  have hl := (rL (rL rInt)).up (g7.base.trans g8.base) hl
  have hh := (rL (rL rInt)).up (g7.base.trans g8.base) hh
  have hw := (rT rInt).up (g7.base.trans g8.base) hw
  refine ⟨n, scl r lo, scl r hi, F, some ((x : Int), (y : Int)), x, y, F x y - scl r lo x y, Hk8, p, as, vb2, z3, rfl, G.on, K.MxM.o Mm, rB2.up g8.base hb2, hz3, ⟨hn, hx, hy, hxy, by omega, hcirc.bd⟩, fun dn Hk9 H9 g9 hdn => ?_⟩
  have G := G.trans g9
  have Mm := Mm.go0 g9
  have hl := (rL (rL rInt)).up g9.base hl
  have hh := (rL (rL rInt)).up g9.base hh
  have hw := (rT rInt).up g9.base hw
  show wSs _ _ _ [some v, some u, some (.int (x : Int)), some (.int (y : Int)), some vw, some (.ref p), some vl, some vh, some (.int (F x y)), some (.int dn), none] H9
  -- up
  refine s_cons (s_setw 10 (wcall FM (by decide) ⟨_, fun _ => pa_cons (wE_ok (X := u1 _) ()) (pa_cons (pe_var (i := 5) rfl (.inl rfl) (by decide) (by decide)) (wA_ok (X := u1 _) ()) rfl) rfl,
    EV.run (dP (R := rL (rL rInt)) (T := rL (rL rInt)) (a := mat n (scl r lo)) (b := mat n (scl r hi)) (ac (nm 6 (h := hl)) (ac (nm 7 (h := hh)) a0))) G.on fun vb2 Hk7 H7 g7 hb2 => ⟨_, rfl,
      EL.run (ac (nm 3 (R := rInt) (a := (y : Int)) (h := rfl)) (ac (nm 2 (R := rInt) (a := (x : Int)) (h := rfl)) (ac (EV.to (S := rCl) (b := some ((x : Int), (y : Int))) (dP (R := rInt) (T := rInt) (a := (x : Int)) (b := (y : Int)) (ac (nm 2 (h := rfl)) (ac (nm 3 (h := rfl)) a0))) fun _ _ h => toCl h) (ac (sub (ixt (ixt (nm 7 (h := (rL (rL rInt)).up g7.base hh)) (nm 2 (h := rfl)) hx) (nm 3 (h := rfl)) hy) (nm 8 (R := rInt) (h := rfl))) a0)))) g7.on fun us Hk8 H8 g8 hus => ?_⟩⟩))
  obtain ⟨z1, z2, z3, z4, rfl, hz1, hz2, hz3, hz4⟩ := AL.four hus
  obtain rfl : z1 = .int (y : Int) := hz1
  obtain rfl : z2 = .int (x : Int) := hz2
  obtain rfl : z4 = .int (scl r hi x y - F x y) := hz4
  have G := (G.trans g7).trans g8
  have Mm := (Mm.go0 g7).go0 g8
  have hw := (rT rInt).up (g7.base.trans g8.base) hw
  refine ⟨n, scl r lo, scl r hi, F, some ((x : Int), (y : Int)), y, x, scl r hi x y - F x y, Hk8, p, as, vb2, z3, rfl, G.on, K.MxM.o Mm, rB2.up g8.base hb2, hz3, ⟨hn, hy, hx, fun z => hxy z.symm, by omega, hcirc.bd⟩, fun up HkA HA gA hup => ?_⟩
  have G := G.trans gA
  have hw := (rT rInt).up gA.base hw
  have h1 := hr.lo x hx
  have hBr : Bd (r x) := Bd.of (Int.le_trans (by decide +kernel) h1) (Int.le_trans (hr.hi x hx) (by decide +kernel))
  show wSs _ _ _ [some v, some u, some (.int (x : Int)), some (.int (y : Int)), some vw, some (.ref p), some vl, some vh, some (.int (F x y)), some (.int dn), some (.int up)] HA
  refine s_one (s_ret (dP (R := rFr) (T := rFr) (ac (call FF (F x y - dn, r x) (ac (sub (nm 8 (R := rInt) (h := rfl)) (nm 9 (h := rfl))) (ac (ixt (nm 4 (h := hw)) (nm 2 (h := rfl)) hx) a0)) rfl ⟨by show 0 < r x; omega, hBr⟩) (ac (call FF (F x y + up, r x) (ac (add (nm 8 (R := rInt) (h := rfl)) (nm 10 (h := rfl))) (ac (ixt (nm 4 (h := hw)) (nm 2 (h := rfl)) hx) a0)) rfl ⟨by show 0 < r x; omega, hBr⟩) a0))) G.on fun w HkB HB gB hwB => q w HkB HB F dn up (G.trans gB) hcirc hdn hup hwB)
end K
/-! KK: _ring_over, told_pairs, tells_rates. -/
namespace K
open PySem.Spec PySem PyProof.Rows L2 Z M
def spRingO : Sp := fun vs H1 Q _ => ∃ (n : Nat) (lo hi F : Mat) (x y : Nat) (Hb : Hp) (p : Addr) (as : List Addr) (vb : V), vs = [vb, .ref p, .int (x : Int), .int (y : Int)] ∧ Ex Hb H1 ∧ MxO Hb H1 p as n F ∧ rB2.r Hb vb (mat n lo, mat n hi) ∧ (n ≤ 8 ∧ x < n ∧ y < n) ∧
  ∀ v Hk H2, Go no Hb H1 Hk H2 → (v = .non ↔ ¬ Ringed n lo hi F x y) → Q v H2
theorem ok_ringO {g : W5} (D : DefOf g "_ring_over" pRingOver) (T : TX g) (FW : FnB g CX0 2 "way_by_steps" ways5 [] spWays) : FnB g CX0 3 "_ring_over" ["bounds", "flows", "x", "y"] [] spRingO := by
  refine def_ok D pRingOverS (by decide +kernel) (fun vs H Q E ⟨n, lo, hi, F, x, y, Hb, p, as, vb, h, _⟩ => by rw [h]; rfl) (fun _ _ _ _ _ _ us hl => match us, hl with | [_, _, _, _], _ => rfl) fun f0 cdv A outer s H vs Q E cx ⟨n, lo, hi, F, x, y, Hb, p, as, vb, hvs, e, Mo, hb, ⟨hn, hx, hy⟩, q⟩ => ?_
  subst hvs
  refine s_cons (s_asg (nmP (v := vb) (Φ := fun v H => rB2.r H v (mat n lo, mat n hi)) 0 hb) e fun w Hk H2 g2 hw => ?_)
  have hw0 := hw
  refine gpair 4 5 hw g2.on fun vl vh hl hh => ?_
  have Mo := Mo.go0 g2
  have hb := rB2.up g2.base hb
  show wSs _ _ _ [some vb, some (.ref p), some (.int (x : Int)), some (.int (y : Int)), some vl, some vh, none, none] H2
  have G := g2
  -- the first if: either it returns, or no way from y to x (when there is room above)
  refine s_cons (s_ifJ (fun σ H' => ∃ (Hk : Hp) (o6 o7 : Option V), σ = [some vb, some (.ref p), some (.int (x : Int)), some (.int (y : Int)), some vl, some vh, o6, o7] ∧ Go no Hb H Hk H' ∧ MxO Hk H' p as n F ∧ rB2.r Hk vb (mat n lo, mat n hi) ∧ (rL (rL rInt)).r Hk vl (mat n lo) ∧ (rL (rL rInt)).r Hk vh (mat n hi) ∧ ¬ (F x y < hi x y ∧ ∃ vs ss, Way (StepOk lo hi F (some ((x : Int), (y : Int)))) y vs x ss ∧ ∀ v ∈ vs, v < n))
    (tlt (ixt (ixt (nm 1 (h := Mo.toMx.rep)) (nm 2 (h := rfl)) hx) (nm 3 (h := rfl)) hy) (ixt (ixt (nm 5 (h := (rL (rL rInt)).up G.on hh)) (nm 2 (h := rfl)) hx) (nm 3 (h := rfl)) hy)) (Ex.refl H2) (fun ht H3 e3 => ?_) (fun ht H3 e3 => s_nil ⟨Hk, _, _, rfl, G.step e3, Mo.ex e3, hb, hl, hh, fun z => of_decide_eq_false ht z.1⟩) fun σ2 H3 hJ => ?_)
  · have hlt : F x y < hi x y := of_decide_eq_true ht
    have G := G.step e3
    have Mo := Mo.ex e3
    refine s_cons (s_asgw (wcall FW (by decide) ⟨_, fun _ => pa_cons (pe_var (i := 0) rfl (.inl rfl) (by decide) (by decide)) (pa_cons (pe_var (i := 1) rfl (.inl rfl) (by decide) (by decide)) (wA_ok (X := u1 _) ()) rfl) rfl, _, rfl, _, rfl,
      EL.run (ac (dL (R := rInt) (l := natL [y]) (ac (nm 3 (R := rInt) (a := (y : Int)) (h := rfl)) a0) (fun H vs h => by obtain ⟨v, rfl, r⟩ := AL.one h; exact .cons r .nil) (by show 1 ≤ 1000; decide)) (ac (dL (R := rInt) (l := natL [x]) (ac (nm 2 (R := rInt) (a := (x : Int)) (h := rfl)) a0) (fun H vs h => by obtain ⟨v, rfl, r⟩ := AL.one h; exact .cons r .nil) (by show 1 ≤ 1000; decide)) (ac (EV.to (S := rCl) (b := some ((x : Int), (y : Int))) (dP (R := rInt) (T := rInt) (a := (x : Int)) (b := (y : Int)) (ac (nm 2 (h := rfl)) (ac (nm 3 (h := rfl)) a0))) fun _ _ h => toCl h) a0))) G.on fun us Hk5 H5 g5 hus => ?_⟩))
    obtain ⟨vst, vgl, vcc, rfl, hst, hgl, hcc⟩ := AL.three hus
    have G := G.trans g5
    have Mo := Mo.go0 g5
    have hb := rB2.up g5.base hb
    have hl := (rL (rL rInt)).up g5.base hl
    have hh := (rL (rL rInt)).up g5.base hh
    refine ⟨n, lo, hi, F, some ((x : Int), (y : Int)), [y], [x], Hk5, p, as, vb, vst, vgl, vcc, rfl, G.on, Mo, hb, hst, hgl, hcc, ⟨hn, by simp, by simpa using hy⟩, fun vr Hk8 H8 ql g8 hr8 hmet => ?_, fun vr Hk8 H8 a' b' ss ws ql g8 hr8 ha' hb'' hway hws => ?_⟩
    · have G := G.trans g8
      refine gpair 6 7 hr8 G.on fun wy mt hwy hmt => ?_
      obtain rfl : wy = .non := hwy
      refine s_one (s_if (ET.is (t' := false) (tNotN (t := true) (nmP (v := V.non) 6 (by simp))) rfl) G.on (fun h => nomatch h) fun _ Hk9 H9 g9 => s_nil ⟨Hk9, _, _, rfl, G.trans g9, (Mo.go0 g8).go0 g9, rB2.up (g8.base.trans g9.base) hb, (rL (rL rInt)).up (g8.base.trans g9.base) hl, (rL (rL rInt)).up (g8.base.trans g9.base) hh, fun z => hmet.none z.2⟩)
    · obtain rfl := List.mem_singleton.1 ha'
      obtain rfl := List.mem_singleton.1 hb''
      have G := G.trans g8
      refine gpair 6 7 hr8 G.on fun wy mt hwy hmt => ?_
      obtain ⟨hwy, hwn⟩ := hwy
      refine s_one (s_if (ET.is (t' := true) (tNotN (t := false) (nmP (v := wy) 6 (by simp [hwn]))) rfl) G.on (fun _ Hk9 H9 g9 => ?_) fun h => nomatch h)
      have G := G.trans g9
      have Mo := (Mo.go0 g8).go0 g9
      have hh := (rL (rL rInt)).up (g8.base.trans g9.base) hh
      have hwy := rWay.up g9.base hwy
      have hlen : ss.length ≤ 8 := by
        have := hway.len
        have := len_le hway.nodup hws
        omega
      refine s_one (s_ret (dLs (R := rT rInt) (l := ss ++ [[(a' : Int), (b' : Int), (a' : Int), 1, hi b' a' - F b' a']]) (esS (ix3 (R := rInt) (S := rInt) (a := ((a' : Nat) : Int)) (b := ((b' : Nat) : Int)) (d := ss) (nm 6 (h := rWay.up G.on hwy))) (esc (dTs (R := rInt) (l := [(a' : Int), (b' : Int), (a' : Int), 1, hi b' a' - F b' a']) (esc (nm 3 (h := rfl)) (esc (nm 2 (h := rfl)) (esc (nm 3 (h := rfl)) (esc cI (esc (sub (ixt (ixt (nm 5 (h := (rL (rL rInt)).up G.on hh)) (nm 2 (h := rfl)) hx) (nm 3 (h := rfl)) hy) (ixt (ixt (nm 1 (h := Mo.toMx.rep)) (nm 2 (h := rfl)) hx) (nm 3 (h := rfl)) hy)) es0))))) (by show 5 ≤ 1000; decide)) es0)) (by simp; omega)) (Ex.refl _) fun w HkA HA gA hw => ?_)
      refine q w _ HA (G.step gA.ex) ⟨fun h => ?_, fun h => absurd (.inl ⟨hlt, ws, ss, hway, hws⟩) h⟩
      obtain ⟨p, xs, e, _⟩ := hw
      rw [e] at h; cases h
  · obtain ⟨Hk, o6, o7, rfl, G, Mo, hb, hl, hh, hno⟩ := hJ
    refine s_cons (s_ifJ (fun σ H' => ∃ (Hk : Hp) (o6 o7 : Option V), σ = [some vb, some (.ref p), some (.int (x : Int)), some (.int (y : Int)), some vl, some vh, o6, o7] ∧ Go no Hb H Hk H' ∧ ¬ (lo x y < F x y ∧ ∃ vs ss, Way (StepOk lo hi F (some ((x : Int), (y : Int)))) x vs y ss ∧ ∀ v ∈ vs, v < n))
      (tgt (ixt (ixt (nm 1 (h := Mo.toMx.rep)) (nm 2 (h := rfl)) hx) (nm 3 (h := rfl)) hy) (ixt (ixt (nm 4 (h := (rL (rL rInt)).up G.on hl)) (nm 2 (h := rfl)) hx) (nm 3 (h := rfl)) hy)) (Ex.refl H3) (fun ht H4 e4 => ?_) (fun ht H4 e4 => s_nil ⟨Hk, _, _, rfl, G.step e4, fun z => of_decide_eq_false ht z.1⟩) fun σ2 H4 hJ => ?_)
    · have hlt : lo x y < F x y := of_decide_eq_true ht
      have G := G.step e4
      have Mo := Mo.ex e4
      refine s_cons (s_asgw (wcall FW (by decide) ⟨_, fun _ => pa_cons (pe_var (i := 0) rfl (.inl rfl) (by decide) (by decide)) (pa_cons (pe_var (i := 1) rfl (.inl rfl) (by decide) (by decide)) (wA_ok (X := u1 _) ()) rfl) rfl, _, rfl, _, rfl,
        EL.run (ac (dL (R := rInt) (l := natL [x]) (ac (nm 2 (R := rInt) (a := (x : Int)) (h := rfl)) a0) (fun H vs h => by obtain ⟨v, rfl, r⟩ := AL.one h; exact .cons r .nil) (by show 1 ≤ 1000; decide)) (ac (dL (R := rInt) (l := natL [y]) (ac (nm 3 (R := rInt) (a := (y : Int)) (h := rfl)) a0) (fun H vs h => by obtain ⟨v, rfl, r⟩ := AL.one h; exact .cons r .nil) (by show 1 ≤ 1000; decide)) (ac (EV.to (S := rCl) (b := some ((x : Int), (y : Int))) (dP (R := rInt) (T := rInt) (a := (x : Int)) (b := (y : Int)) (ac (nm 2 (h := rfl)) (ac (nm 3 (h := rfl)) a0))) fun _ _ h => toCl h) a0))) G.on fun us Hk5 H5 g5 hus => ?_⟩))
      obtain ⟨vst, vgl, vcc, rfl, hst, hgl, hcc⟩ := AL.three hus
      have G := G.trans g5
      have Mo := Mo.go0 g5
      have hb := rB2.up g5.base hb
      have hl := (rL (rL rInt)).up g5.base hl
      refine ⟨n, lo, hi, F, some ((x : Int), (y : Int)), [x], [y], Hk5, p, as, vb, vst, vgl, vcc, rfl, G.on, Mo, hb, hst, hgl, hcc, ⟨hn, by simp, by simpa using hx⟩, fun vr Hk8 H8 ql g8 hr8 hmet => ?_, fun vr Hk8 H8 a' b' ss ws ql g8 hr8 ha' hb'' hway hws => ?_⟩
      · have G := G.trans g8
        refine gpair 6 7 hr8 G.on fun wy mt hwy hmt => ?_
        obtain rfl : wy = .non := hwy
        refine s_one (s_if (ET.is (t' := false) (tNotN (t := true) (nmP (v := V.non) 6 (by simp))) rfl) G.on (fun h => nomatch h) fun _ Hk9 H9 g9 => s_nil ⟨Hk9, _, _, rfl, G.trans g9, fun z => hmet.none z.2⟩)
      · obtain rfl := List.mem_singleton.1 ha'
        obtain rfl := List.mem_singleton.1 hb''
        have G := G.trans g8
        refine gpair 6 7 hr8 G.on fun wy mt hwy hmt => ?_
        obtain ⟨hwy, hwn⟩ := hwy
        refine s_one (s_if (ET.is (t' := true) (tNotN (t := false) (nmP (v := wy) 6 (by simp [hwn]))) rfl) G.on (fun _ Hk9 H9 g9 => ?_) fun h => nomatch h)
        have G := G.trans g9
        have Mo := (Mo.go0 g8).go0 g9
        have hl := (rL (rL rInt)).up (g8.base.trans g9.base) hl
        have hwy := rWay.up g9.base hwy
        have hlen : ss.length ≤ 8 := by
          have := hway.len
          have := len_le hway.nodup hws
          omega
        refine s_one (s_ret (dLs (R := rT rInt) (l := ss ++ [[(a' : Int), (a' : Int), (b' : Int), -1, F a' b' - lo a' b']]) (esS (ix3 (R := rInt) (S := rInt) (a := ((a' : Nat) : Int)) (b := ((b' : Nat) : Int)) (d := ss) (nm 6 (h := rWay.up G.on hwy))) (esc (dTs (R := rInt) (l := [(a' : Int), (a' : Int), (b' : Int), -1, F a' b' - lo a' b']) (esc (nm 2 (h := rfl)) (esc (nm 2 (h := rfl)) (esc (nm 3 (h := rfl)) (esc (neg cI) (esc (sub (ixt (ixt (nm 1 (h := Mo.toMx.rep)) (nm 2 (h := rfl)) hx) (nm 3 (h := rfl)) hy) (ixt (ixt (nm 4 (h := (rL (rL rInt)).up G.on hl)) (nm 2 (h := rfl)) hx) (nm 3 (h := rfl)) hy)) es0))))) (by show 5 ≤ 1000; decide)) es0)) (by simp; omega)) (Ex.refl _) fun w HkA HA gA hw => ?_)
        refine q w _ HA (G.step gA.ex) ⟨fun h => ?_, fun h => absurd (.inr ⟨hlt, ws, ss, hway, hws⟩) h⟩
        obtain ⟨p, xs, e, _⟩ := hw
        rw [e] at h; cases h
    · obtain ⟨Hk, o6, o7, rfl, G, hno2⟩ := hJ
      exact s_one (s_ret cN G.on fun w HkA HA gA hw => q w HkA HA (G.trans gA) ⟨fun _ h => h.elim hno hno2, fun _ => hw⟩)
/-! told_pairs, tells_rates -/
/-- no ring over the pair -/
noncomputable def noRing (n : Nat) (lo hi F : Mat) (x y : Nat) : Bool := @decide (¬ Ringed n lo hi F x y) (Classical.propDecidable _)
theorem noRing_iff {n : Nat} {lo hi F : Mat} {x y : Nat} : noRing n lo hi F x y = true ↔ ¬ Ringed n lo hi F x y := by unfold noRing; exact @decide_eq_true_iff _ (Classical.propDecidable _)
/-- the pairs told: unseen, no ring over them -/
noncomputable def toldN (n : Nat) (lo hi : Mat) (r : Nat → Int) (F : Mat) : List (Int × Int) := (unl (n, lo, hi)).filter fun p => noRing n (scl r lo) (scl r hi) F p.1.toNat p.2.toNat
def spTold (CN CC : Addr) : Sp := fun vs H1 Q _ => ∃ (bb : Bool) (n : Nat) (lo hi : Mat) (r : Nat → Int) (Hb : Hp) (v u : V), vs = [v, u] ∧ Ex Hb H1 ∧ (rNt CN CC).r Hb v (n, lo, hi) ∧ (rW bb).r Hb u (tab n r) ∧ (RowOk n r ∧ (∀ x y, x < n → y < n → lo x y ≤ hi x y) ∧ ∃ F, Circ n (scl r lo) (scl r hi) F) ∧
  ∀ w Hk H2 F l, Go no Hb H1 Hk H2 → Circ n (scl r lo) (scl r hi) F → (rT (rP rInt rInt)).r Hk w l → l = toldN n lo hi r F → Q w H2
structure NtM (g : W5) (CN CC : Addr) : Prop where
  uns : ∃ f fd, Meth g.K CN "unseen" f ∧ FnOk g.P g.w g.K g.mg g.base CX0 1 f fd ["self"] (spUns CN CC) ∧ Binds g.K fd ["self"] []
  unsM : ∃ pa f fd, PropOf g.K CN "unseen_many" pa f ∧ FnOk g.P g.w g.K g.mg g.base CX0 1 f fd ["self"] (spUnsM CN CC) ∧ Binds g.K fd ["self"] []
theorem prs_mem {n : Nat} {f : Nat → Nat → Bool} {p : Int × Int} (h : p ∈ prs n f) : ∃ x y : Nat, x < n ∧ y < n ∧ p = ((x : Int), (y : Int)) ∧ f x y = true := by
  obtain ⟨x, hx, h⟩ := List.mem_flatMap.mp h
  obtain ⟨y, hy, rfl⟩ := List.mem_map.mp h
  have := List.mem_filter.mp hy
  exact ⟨x, y, List.mem_range.mp hx, List.mem_range.mp this.1, rfl, this.2⟩
theorem got_filter {α : Type} (l : List α) (d : α) (P : α → Bool) : got l.length (fun i => P (l.getD i d)) (fun i => l.getD i d) = l.filter P := by
  have e : l = (List.range l.length).map fun i => l.getD i d := tabG l d
  unfold got
  conv => rhs; rw [e]
  rw [List.filter_map]; rfl
theorem ok_told {g : W5} {CN CC : Addr} {CXf : CXT} (D : DefOf g "told_pairs" pToldPairs) (T : TX g) (cn : ClOk g CN ntF) (nm0 : NtM g CN CC) (FR : FnB g CXf 3 "share_row" ["size", "thing"] [] spShareOK) (FC : FnB g CX0 4 "_reached_currents" ["notes", "row"] [] (spCurr CN CC)) (FB : FnB g CX0 1 "bounds_of" ["notes", "row"] [] (spBounds CN CC)) (FO : FnB g CX0 3 "_ring_over" ["bounds", "flows", "x", "y"] [] spRingO) :
    FnB g CX0 5 "told_pairs" ["notes", "row"] [] (spTold CN CC) := by
  refine def_ok D pToldPairsS (by decide +kernel) (fun vs H Q E ⟨bb, n, lo, hi, r, Hb, v, u, h, _⟩ => by rw [h]; rfl) (fun _ _ _ _ _ _ us hl => match us, hl with | [_, _], _ => rfl) fun f0 cdv A outer s H vs Q E cx ⟨bb, n, lo, hi, r, Hb, v, u, hvs, e, hv, hu, ⟨hr, hle, hc0⟩, q⟩ => ?_
  subst hvs
  have hn := hr.n8
  refine s_cons (s_set 2 (call FR (bb, n, r) (ac (ntSize (CC := CC) cn (nm 0 (R := rNt CN CC) (a := (n, lo, hi)) (h := hv))) (ac (nm 1 (R := rW bb) (a := tab n r) (h := hu)) a0)) rfl ⟨hn, hr.lo⟩) e fun vw Hk3 H3 g3 hw => ?_)
  have hw : (rT rInt).r Hk3 vw (tab n r) := hw
  have hv := (rNt CN CC).up g3.base hv
  refine s_cons (s_setw 3 (wcall FC (by decide) ⟨_, fun _ => pa_cons (pe_var (i := 0) rfl (.inl rfl) (by decide) (by decide)) (pa_cons (pe_var (i := 2) rfl (.inl rfl) (by decide) (by decide)) pa_nil rfl) rfl, _, rfl, _, rfl, n, lo, hi, r, Hk3, v, vw, rfl, g3.on, hv, hw, ⟨hr, hle, hc0⟩, fun p as F H4 hf ex m hcirc => ?_⟩))
  obtain ⟨G, Mm⟩ := Go.ownM g3 ex hf m
  show wSs _ _ _ [some v, some u, some vw, some (.ref p), none, none, none] H4
  refine s_cons (s_set 4 (call FB ((n, lo, hi), r) (ac (nm 0 (R := rNt CN CC) (a := (n, lo, hi)) (h := hv)) (ac (nm 2 (R := rT rInt) (a := tab n r) (h := hw)) a0)) rfl ⟨hn, fun x hx => ⟨hr.lo x hx, hr.hi x hx⟩⟩) G.on fun vb Hk5 H5 g5 hb => ?_)
  have hb : rB2.r Hk5 vb (mat n (scl r lo), mat n (scl r hi)) := hb
  have G := G.trans g5
  have Mm := Mm.go0 g5
  have hv := (rNt CN CC).up g5.base hv
  obtain ⟨Hn, G2, en, mn⟩ := G.fixM Mm
  have hv2 := (rNt CN CC).up en hv
  obtain ⟨fu, fdu, hmu, Fu, Bu⟩ := nm0.uns
  have h1 : (unl (n, lo, hi)).length ≤ n * n := gots_le
  have h2 : n * n ≤ 8 * 8 := Nat.mul_le_mul hn hn
  show wSs _ _ _ [some v, some u, some vw, some (.ref p), some vb, none, none] H5
  refine s_one (s_ret (toTup T.tuple (EV.to (S := rS (rP rInt rInt)) (lcf [("x", 5), ("y", 6)] (S := rP rInt rInt) (n := (unl (n, lo, hi)).length) (iT (f := fun i => (unl (n, lo, hi)).getD i (0, 0)) (EV.is (mth0 (t := (n, lo, hi)) cn.cls hmu Fu Bu (nmP (v := v) 0 ⟨hv2, by obtain ⟨a, dx, fs, h1, h2, _, _, _, _, h3⟩ := hv2; exact ⟨a, dx, fs, h1, h2, h3⟩⟩) trivial) (tabG _ _)))
    (fun i => noRing n (scl r lo) (scl r hi) F ((unl (n, lo, hi)).getD i (0, 0)).1.toNat ((unl (n, lo, hi)).getD i (0, 0)).2.toNat) (fun i => (unl (n, lo, hi)).getD i (0, 0)) (by omega) fun i w Hc H hii e1 e2 hx => ?_) fun _ _ h => rL.s h)) G2.on fun w HkA HA gA hw => q w HkA HA F _ (G2.trans gA) hcirc hw (got_filter _ _ (fun p : Int × Int => noRing n (scl r lo) (scl r hi) F p.1.toNat p.2.toNat)))
  have hmem : (unl (n, lo, hi)).getD i (0, 0) ∈ unl (n, lo, hi) := by
    have : (unl (n, lo, hi)).getD i (0, 0) = (unl (n, lo, hi))[i] := by simp [hii]
    rw [this]; exact List.getElem_mem hii
  obtain ⟨x, y, hx1, hy1, hp, _⟩ := prs_mem hmem
  have hx' : (rP rInt rInt).r Hc w ((x : Int), (y : Int)) := hp ▸ hx
  rw [hp]
  refine gpair 5 6 hx' e2 fun z1 z2 hz1 hz2 => ⟨rfl, rfl, ts1 (tIsN (fun H1 c1 Q q => wcall FO (by decide) ⟨_, fun _ => pa_cons (pe_var (x := "bounds") (i := 4) rfl (by first | exact Or.inl rfl | exact Or.inr (Or.inl rfl) | exact Or.inr (Or.inr rfl)) (by decide) (by decide)) (pa_cons (pe_var (x := "flows") (i := 3) rfl (by first | exact Or.inl rfl | exact Or.inr (Or.inl rfl) | exact Or.inr (Or.inr rfl)) (by decide) (by decide)) (pa_cons (pe_var (i := 5) rfl (.inl rfl) (by decide) (by decide)) (pa_cons (pe_var (i := 6) rfl (.inl rfl) (by decide) (by decide)) pa_nil rfl) rfl) rfl) rfl, _, rfl, _, rfl, _, rfl, _, rfl,
    n, scl r lo, scl r hi, F, x, y, Hk5, p, as, vb, by rw [show z1 = V.int (x : Int) from hz1, show z2 = V.int (y : Int) from hz2]; rfl, (en.trans e1).trans c1, ⟨mn.mono (e1.trans c1), Mm.off⟩, hb, ⟨hn, hx1, hy1⟩, fun v2 Hm H2 gm h => q v2 Hc H2 (Go.ofEx c1 gm.ex) ?_⟩)), fun _ => dP (ac (nm 5 (h := hz1)) (ac (nm 6 (h := hz2)) a0))⟩
  show decide (v2 = .non) = noRing n (scl r lo) (scl r hi) F ((x : Int)).toNat ((y : Int)).toNat
  rw [Int.toNat_natCast, Int.toNat_natCast]
  by_cases hh : v2 = .non
  · rw [decide_eq_true hh, noRing_iff.mpr (h.mp hh)]
  · rw [decide_eq_false hh]
    cases hb : noRing n (scl r lo) (scl r hi) F x y with
    | false => rfl
    | true => exact absurd (h.mpr (noRing_iff.mp hb)) hh
/-- len(e), e a tuple told by P -/
theorem lenP {ι : Type} {X : ι → Cx} {g : W5} {N : List Str} {k : Nat} {σ : L2.St} {Hb : Hp} {e : Expr} {p pos : Pos} {α : Type} {R : Rep α} {P : List α → Prop} [c : CtxZ X g N k] (hm : g.mg "len" = none) (h : Z.EP X e σ Hb fun v H => ∃ l, (rT R).r H v l ∧ P l) (hg : ∀ i, Gl (X i) "len" := by intro _; rfl) (hs : NS e := by intro _ _; rfl)
    (hpl : ∀ i, (backTo pos (starEach [] (X i).env)).any (·.1) = false := by intro _; rfl) : Z.EP X (.Call (.Name "len" p) [e] [] pos) σ Hb (fun v _ => ∃ l, P l ∧ v = .int (l.length : Int)) := fun H1 c1 Q q =>
  ⟨_, fun i => pe_callB (len_K i) (hg i) ((congrFun (c.mg i) _).trans hm) PySem.boot_len (wA_ok i) (by decide) (by decide) (hs _ _) (hpl i), ⟨_, fun i => pa_cons (wE_ok i) pa_nil (hs _ _), h H1 c1 _ fun v Hk H2 g1 ⟨l, ⟨p, xs, ev, b, r⟩, hp⟩ => by
    subst ev
    refine ⟨p, xs, rfl, .inr (SqT.of (g1.on _ _ b)), ?_⟩
    rw [r.len]
    exact q _ Hk H2 g1 ⟨l, hp, rfl⟩⟩⟩
def spTells (CN CC : Addr) : Sp := fun vs H1 Q _ => ∃ (bb : Bool) (n : Nat) (lo hi : Mat) (r : Nat → Int) (Hb : Hp) (v u : V), vs = [v, u] ∧ Ex Hb H1 ∧ (rNt CN CC).r Hb v (n, lo, hi) ∧ (rW bb).r Hb u (tab n r) ∧ (RowOk n r ∧ (∀ x y, x < n → y < n → lo x y ≤ hi x y) ∧ ∃ F, Circ n (scl r lo) (scl r hi) F) ∧
  ∀ Hk H2 F, Go no Hb H1 Hk H2 → Circ n (scl r lo) (scl r hi) F → Q (.bl (decide ((toldN n lo hi r F).length = (unl (n, lo, hi)).length))) H2
theorem ok_tells {g : W5} {CN CC : Addr} (D : DefOf g "tells_rates" pTellsRates) (T : TX g) (cn : ClOk g CN ntF) (nm0 : NtM g CN CC) (FT : FnB g CX0 5 "told_pairs" ["notes", "row"] [] (spTold CN CC)) : FnB g CX0 6 "tells_rates" ["notes", "row"] [] (spTells CN CC) := by
  refine def_ok D pTellsRatesS (by decide +kernel) (fun vs H Q E ⟨bb, n, lo, hi, r, Hb, v, u, h, _⟩ => by rw [h]; rfl) (fun _ _ _ _ _ _ us hl => match us, hl with | [_, _], _ => rfl) fun f0 cdv A outer s H vs Q E cx ⟨bb, n, lo, hi, r, Hb, v, u, hvs, e, hv, hu, hok, q⟩ => ?_
  subst hvs
  obtain ⟨pa, fu, fdu, hmu, Fu, Bu⟩ := nm0.unsM
  have htold : ∀ {y1 y2 y3 y4 : Pos}, Z.EP (u1 (cxOf CX0 g.P g.w g.K g.mg g.base pTellsRatesN "tells_rates" (defScope pTellsRates) f0 cdv A outer s H E).nox) (.Call (.Name "told_pairs" y1) [.Name "notes" y2, .Name "row" y3] [] y4) [some v, some u] Hb (fun w H => ∃ l, (rT (rP rInt rInt)).r H w l ∧ ∃ F, Circ n (scl r lo) (scl r hi) F ∧ l = toldN n lo hi r F) := fun {y1 y2 y3 y4} H1 c1 Q q =>
    wcall FT (by decide) ⟨_, fun _ => pa_cons (pe_var (i := 0) rfl (.inl rfl) (by decide) (by decide)) (pa_cons (pe_var (i := 1) rfl (.inl rfl) (by decide) (by decide)) pa_nil rfl) rfl, _, rfl, _, rfl, bb, n, lo, hi, r, Hb, v, u, rfl, c1, hv, hu, hok, fun w Hk H2 F l g1 hc hl he => q w Hk H2 g1 ⟨l, hl, F, hc, he⟩⟩
  refine s_one (s_retw ⟨_, fun i => pe_cmpR op_eq (wE_ok (X := u1 _) ()) (wE_ok (X := u1 _) ()) (nomark _), EP.run (lenP T.len htold) e fun w Hk H2 g2 ⟨l, ⟨F, hc, hl⟩, hw⟩ => ?_⟩)
  subst hw hl
  have hv2 := (rNt CN CC).up g2.base hv
  refine EP.run (prp (t := (n, lo, hi)) cn.cls hmu Fu Bu (nmP (v := v) 0 ⟨hv2, by obtain ⟨a, dx, fs, h1, h2, _⟩ := hv2; exact ⟨a, dx, fs, h1, h2⟩⟩) trivial) g2.on fun w2 Hk3 H3 g3 hw2 => ?_
  have hw2 : w2 = .int ((unl (n, lo, hi)).length : Int) := hw2
  subst hw2
  refine ⟨rfl, ?_⟩
  have := q Hk3 H3 F (g2.trans g3) hc
  rwa [show decide ((toldN n lo hi r F).length = (unl (n, lo, hi)).length) = decide (V.int ((toldN n lo hi r F).length : Int) = V.int ((unl (n, lo, hi)).length : Int)) by
    rw [decide_eq_decide]; constructor
    · intro h; rw [h]
    · intro h; have := V.int.inj h; omega] at this
end K
/-! KL: the law's grid, what it wants, its judgements. -/
namespace K
open PySem.Spec PySem PyProof.Rows L2 Z M
theorem Gd.down {d : Addr} {Hb Hn H1 H2 : Hp} (e : Ex Hb Hn) (g : Gd d Hn H1 H2) : Gd d Hb H1 H2 := ⟨g.real, g.live, Ex.refl _, e.trans g.on, fun _ _ z => z⟩
/-! _law_lot_grid -/
def spLotGrid : Sp := fun vs H1 Q _ => ∃ (Hb : Hp) (d : Addr), vs = [.ref d] ∧ Ex Hb H1 ∧ Hb d = none ∧ Dw H1 d ∧ ∀ n p as f H2, (∀ b ∈ p :: as, H1 b = none) → Gd d Hb H1 H2 → Dw H2 d → Mx H2 p as n f → 2 ≤ n → n ≤ 5 → GridOk n f → Joined n f → Q (.ref p) H2
theorem ok_lotGrid {g : W5} (D : DefOf g "_law_lot_grid" sLotGrid) (T : TX g) (FT : FnB g CX0 1 "_law_take" ["_law_draws_here", "_law_many"] [] spTake) (FH : FnB g CX0 3 "_law_hung_grid" ["_law_draws_here", "_law_size", "_law_style"] [] spHung) (FR : FnB g CX0 3 "_law_ring_grid" ["_law_draws_here", "_law_size", "_law_style", "_law_thick"] [] spRing) (FM : FnB g CX0 2 "_law_moved" ["_law_grid", "_law_shift"] [] spMoved) :
    FnB g CX0 4 "_law_lot_grid" ["_law_draws_here"] [] spLotGrid := by
  refine def_ok D sLotGridS (by decide +kernel) (fun vs H Q E ⟨Hb, d, h, _⟩ => by rw [h]; rfl) (fun _ _ _ _ _ _ us hl => match us, hl with | [_], _ => rfl) fun f0 cdv A outer s H vs Q E cx ⟨Hb, d, hvs, e, hd, dw, q⟩ => ?_
  subst hvs
  -- sizes
  refine s_cons (s_set 1 (dLs (R := rInt) (l := [3, 4, 3, 4, 5, 4, 3, 2]) (esc cI (esc cI (esc cI (esc cI (esc cI (esc cI (esc cI (esc cI es0)))))))) (by decide)) e fun vz Hk1 H1 g1 hz => ?_)
  have hd1 : Hk1 d = none := g1.fr d dw.live hd
  have dw1 := dw.ex g1.ex
  -- size
  refine s_cons (s_setD 2 (ed_ix (l := [3, 4, 3, 4, 5, 4, 3, 2]) (nm 1 (h := hz)) (take 0 FT (cI (n := 8))) fun i hi => by have : 0 ≤ i ∧ (i < 8 ∨ i = 0) := hi; simp; omega) g1.on hd1 dw1 fun sz H2 g2 dw2 hsz => ?_)
  obtain ⟨n, rfl, hn2, hn5⟩ : ∃ n : Nat, sz = (n : Int) ∧ 2 ≤ n ∧ n ≤ 5 := by
    have hsz : sz ∈ ([3, 4, 3, 4, 5, 4, 3, 2] : List Int) := hsz
    refine ⟨sz.toNat, ?_⟩
    simp at hsz; omega
  have G : Gd d Hb H H2 := (Gd.of e g1.ex).trans (Gd.down g1.base g2)
  -- style, maker
  refine s_cons (s_setD 3 (take 0 FT (cI (n := 8))) g2.on hd1 dw2 fun st H3 g3 dw3 hst => ?_)
  refine s_cons (s_setD 4 (take 0 FT (cI (n := 6))) g3.on hd1 dw3 fun mk H4 g4 dw4 hmk => ?_)
  have hmk : 0 ≤ mk ∧ (mk < 6 ∨ mk = 0) := hmk
  have G := (G.trans (Gd.down g1.base g3)).trans (Gd.down g1.base g4)
  -- thick
  refine s_cons (s_set 5 (dLs (R := rInt) (l := [1, 2, 1, 4, 0]) (esc cI (esc cI (esc cI (esc cI (esc cI es0))))) (by decide)) G.on fun vt Hk5 H5 g5 ht => ?_)
  have hd5 : Hk5 d = none := g5.fr d dw4.live hd
  have dw5 := dw4.ex g5.ex
  have G : Gd d Hb H H5 := G.step g5.ex
  show wSs _ _ _ [some (.ref d), some vz, some (.int (n : Int)), some (.int st), some (.int mk), some vt, none] H5
  -- the grid
  refine s_cons (s_ifJ (fun σ H' => ∃ p as f, σ = [some (.ref d), some vz, some (.int (n : Int)), some (.int st), some (.int mk), some vt, some (.ref p)] ∧ Gd d Hb H H' ∧ Dw H' d ∧ MxM H Hb H' p as n f ∧ GridOk n f ∧ Joined n f) (teq (nm 4 (h := rfl)) (cI (n := 5))) G.on (fun ht5 H6 e6 => ?_) (fun ht5 H6 e6 => ?_) fun σ' H6 hJ => ?_)
  · have G := G.step e6
    refine s_one (s_setw 6 (wcall FH (by decide) ⟨_, fun _ => pa_cons (pe_var (i := 0) rfl (.inl rfl) (by decide) (by decide)) (pa_cons (pe_var (i := 2) rfl (.inl rfl) (by decide) (by decide)) (pa_cons (pe_var (i := 3) rfl (.inl rfl) (by decide) (by decide)) pa_nil rfl) rfl) rfl, _, rfl, _, rfl, _, rfl, (n, st), Hb, d, _, rfl, G.on, hd, dw5.ex e6, ⟨_, _, rfl, rfl, _, _, rfl, rfl, rfl⟩, ⟨hn2, by show n ≤ 8; omega⟩, fun p as f H7 hf g7 dw7 m hok => ?_⟩))
    refine ⟨p, as, f, rfl, G.trans g7, dw7, ⟨m, fun b hb => G.new_of (hf b hb), fun b hb => G.on.none (hf b hb)⟩, hok.1, hok.2⟩
  · have G := G.step e6
    have hm5 : mk ≠ 5 := of_decide_eq_false ht5
    refine s_one (s_setw 6 (wcall FR (by decide) ⟨_, fun _ => pa_cons (pe_var (i := 0) rfl (.inl rfl) (by decide) (by decide)) (pa_cons (pe_var (i := 2) rfl (.inl rfl) (by decide) (by decide)) (pa_cons (pe_var (i := 3) rfl (.inl rfl) (by decide) (by decide)) (pa_cons (wE_ok (X := u1 _) ()) pa_nil rfl) rfl) rfl) rfl, _, rfl, _, rfl, _, rfl,
      EV.run (ix (a := ([1, 2, 1, 4, 0] : List Int)[mk.toNat]'(by simp; omega)) mk.toNat (nm 5 (h := ht)) (nm 4 (h := rfl)) (by omega) (List.getElem?_eq_getElem _)) (g5.on.trans e6) fun vth Hg7 H7 g7 hth => ⟨(n, st, _), Hb, d, _, rfl, G.on.trans g7.ex, hd, (dw5.ex e6).ex g7.ex, ⟨_, _, rfl, rfl, _, _, rfl, rfl, _, _, rfl, hth, rfl⟩, ⟨hn2, by show n ≤ 8; omega⟩, fun p as f H8 hf g8 dw8 m hok => ?_⟩⟩))
    have G := G.step g7.ex
    refine ⟨p, as, f, rfl, G.trans g8, dw8, ⟨m, fun b hb => G.new_of (hf b hb), fun b hb => G.on.none (hf b hb)⟩, hok.1, hok.2⟩
  · obtain ⟨p, as, f, rfl, G, dw6, Mm, gok, joi⟩ := hJ
    obtain ⟨Hn, G2, en, mn⟩ := Go.fixM G Mm
    have hdn : Hn d = none := by
      cases z : Hn d with
      | none => rfl
      | some o => exact absurd z (by rw [G2.fr d dw.live hd]; exact fun z => nomatch z)
    refine s_one (s_retw (wcall FM (by decide) ⟨_, fun _ => pa_cons (pe_var (i := 6) rfl (.inl rfl) (by decide) (by decide)) (pa_cons (wE_ok (X := u1 _) ()) pa_nil rfl) rfl, _, rfl, (take 0 FT (nm 2 (R := rInt) (a := (n : Int)) (h := rfl))) hdn H6 G2.on dw6 _ fun sh H7 g7 dw7 hsh => ?_⟩))
    have hsh : 0 ≤ sh ∧ (sh < (n : Int) ∨ sh = 0) := hsh
    obtain ⟨sn, rfl⟩ : ∃ sn : Nat, sh = (sn : Int) := ⟨sh.toNat, by omega⟩
    refine ⟨(n, f, sn), Hn, g7.on, ⟨_, _, rfl, mn.rep, _, _, rfl, rfl, rfl⟩, ⟨by show sn < n; omega, by show n ≤ 8; omega⟩, fun p2 as2 k H8 hf e8 m2 hk => ?_⟩
    have G7 : Gd d Hb H H7 := G.trans (Gd.down en g7)
    exact q n p2 as2 k H8 (fun b hb => G7.new_of (hf b hb)) (G7.step e8) (dw7.ex e8) m2 hn2 hn5 (gridOk_moved (s := sn) (by omega) gok hk) (joined_moved (s := sn) (by omega) joi hk)
end K
/-! KM: wanted, balanced, square, has. -/
namespace K
open PySem.Spec PySem PyProof.Rows L2 Z M
theorem got_sum {n : Nat} {f : Nat → Bool} {v : Nat → Int} : (got n f v).sum = sm n fun i => if f i then v i else 0 := by
  induction n with
  | zero => rfl
  | succ n ih =>
    cases h : f n with
    | true => rw [got_y h, List.sum_append, ih]; simp [sm, h]
    | false => rw [got_n h, ih]; simp [sm, h]
theorem bd60 {i : Int} (h0 : 0 ≤ i) (h : i ≤ 10 ^ 60) : Bd i := Bd.of (Int.le_trans (by decide +kernel) h0) (Int.le_trans h (by decide +kernel))
theorem RowOk.bd {n x : Nat} {r : Nat → Int} (h : RowOk n r) (hx : x < n) : Bd (r x) := Bd.of (Int.le_trans (by decide +kernel) (h.lo x hx)) (Int.le_trans (h.hi x hx) (by decide +kernel))
theorem Bd.mulI {i j : Int} (h0 : 0 ≤ i) (h : i ≤ 10 ^ 62) : Bd i := Bd.of (Int.le_trans (by decide +kernel) h0) (Int.le_trans h (by decide +kernel))
/-! wanted -/
abbrev spWanted : Sp := spF (fun t : Nat × Mat × Nat × (Nat → Int) => al3 (rL (rL rInt)) (mat t.1 t.2.1) rInt (t.2.2.1 : Int) (rL rInt) (tab t.1 t.2.2.2)) (fun t => t.2.2.1 < t.1 ∧ GridBd t.1 t.2.1 ∧ RowOk t.1 t.2.2.2) (fun t v H => (rL rInt).r H v (tab t.1 (due t.1 t.2.1 t.2.2.1 t.2.2.2)))
theorem ok_wanted {g : W5} (D : DefOf g "_law_wanted" sWanted) (T : TX g) : FnB g CX0 1 "_law_wanted" ["_law_grid", "_law_x", "_law_row"] [] spWanted := by
  refine def_ok D sWantedS (by decide +kernel) len3 (fun _ _ _ _ _ _ us hl => match us, hl with | [_, _, _], _ => rfl) fun f0 cdv A outer s H vs Q E cx ⟨⟨n, f, x, r⟩, Hb, e, h0, ⟨hx, hf, hr⟩, q⟩ => ?_
  obtain ⟨v, u, w, rfl, hv, hu, hw⟩ := AL.three h0
  dsimp only at hv hu hw hx hf hr q
  obtain rfl : u = .int (x : Int) := hu
  have hn := hr.n8
  refine s_cons (s_nilL 3 fun fl hfl => ?_)
  obtain ⟨G, Fm⟩ := (Go.refl (S := no) e).own hfl (o := .lst [])
  refine s_cons (s_forR (n := n) T.range 4 (EV.is (len T.len (nm 0 (h := hv))) (by rw [tab_len])) G.on (by omega) (fun b σ H' => ∃ o4 o5 o6 : Option V, σ = [some v, some (.int (x : Int)), some w, some (.ref fl), o4, o5, o6] ∧ Go no Hb H Hb H' ∧ Mu H Hb H' fl (.lst ((tab b (due n f x r)).map .int)))
    (fun Hk H2 g2 => ⟨none, none, none, rfl, G.step g2.ex, Fm.ex g2.ex⟩) (fun b σ' H' hb hI => ?_) fun σ' H' hI => ?_)
  · obtain ⟨o4, o5, o6, rfl, G, Fm⟩ := hI
    show wSs _ _ _ [some v, some (.int (x : Int)), some w, some (.ref fl), some (.int (b : Int)), o5, o6] H'
    have app : ∀ (z : Int) H2, Mu H Hb H2 fl (.lst ((tab b (due n f x r)).map .int ++ [.int z])) → z = due n f x r b → Mu H Hb H2 fl (.lst ((tab (b + 1) (due n f x r)).map .int)) := fun z H2 m hz => by
      rw [tab_succ, List.map_append, ← hz]; exact m
    refine s_one (s_if (teq (nm 4 (h := rfl)) (nm 1 (h := rfl))) G.on (fun ht Hg H2 g2 => ?_) fun ht Hg H2 g2 => ?_)
    · have hbx : b = x := by have := of_decide_eq_true ht; omega
      refine s_one (s_app (j := 3) (cI (n := 0)) (G.step g2.ex).on (Fm.ex g2.ex).at_ (by simp; omega) fun z Hg3 H3 g3 hz h3 => ?_)
      obtain rfl : z = .int 0 := hz
      refine ⟨_, _, _, rfl, ((G.step g2.ex).step g3.ex).mu ((Fm.ex g2.ex).ex g3.ex), app 0 _ ((Fm.ex g2.ex).ex g3.ex).wr (by unfold due; rw [if_pos hbx])⟩
    · have hbx : b ≠ x := by have := of_decide_eq_false ht; omega
      have G := G.step g2.ex
      have Fm := Fm.ex g2.ex
      refine s_cons (s_set 5 (EV.is (a' := sm n fun y => if y = x then 0 else r y * f y b) (sum T.sum (lcf [("_law_y", 6)] (iR (n := n) T.range (EV.is (len T.len (nm 0 (h := hv))) (by rw [tab_len])) (by omega)) (fun y => decide ((y : Int) ≠ (x : Int))) (fun y => r y * f y b) (by omega) fun y vy Hc H4 hy e1 e2 hvy => gn 6 ⟨rfl, rfl, ts1 (tne (nm 6 (h := hvy)) (nm 1 (h := rfl))), fun _ =>
        mulB (ixt (nm 2 (h := (rL rInt).up e1 hw)) (nm 6 (h := hvy)) hy) (ixt (ixt (nm 0 (h := (rL (rL rInt)).up e1 hv)) (nm 6 (h := hvy)) hy) (nm 4 (h := rfl)) hb) (RowOk.bd hr hy) (bd60 (hf.nn _ _ hy hb) (hf.le _ _ hy hb))⟩)) (by
          rw [got_sum]
          refine sm_congr fun y _ => ?_
          by_cases h : y = x
          · subst h; simp
          · have : ¬ (y : Int) = (x : Int) := by omega
            simp [h, this])) G.on fun z Hg3 H3 g3 hz => ?_)
      obtain rfl : z = .int (sm n fun y => if y = x then 0 else r y * f y b) := hz
      have G := G.step g3.ex
      have Fm := Fm.ex g3.ex
      have hsum := sm_le (n := n) (g := f b) (B := 10 ^ 60) fun i hi => ⟨hf.nn _ _ hb hi, hf.le _ _ hb hi⟩
      have hs2 : sm n (f b) ≤ 10 ^ 62 := by
        have : (n : Int) * 10 ^ 60 ≤ 8 * 10 ^ 60 := Int.mul_le_mul_of_nonneg_right (by omega) (by decide +kernel)
        have h8 : (8 : Int) * 10 ^ 60 ≤ 10 ^ 62 := by decide +kernel
        omega
      refine s_one (s_app (j := 3) (sub (mulB (ixt (nm 2 (h := hw)) (nm 4 (h := rfl)) hb) (EV.is (a' := sm n (f b)) (sum T.sum (ixt (nm 0 (h := hv)) (nm 4 (h := rfl)) hb)) tab_sum) (RowOk.bd hr hb) (Bd.mulI (j := 0) hsum.1 hs2)) (nm 5 (R := rInt) (h := rfl))) G.on Fm.at_ (by simp; omega) fun z Hg4 H4 g4 hz h4 => ?_)
      obtain rfl : z = .int _ := hz
      exact ⟨_, _, _, rfl, (G.step g4.ex).mu (Fm.ex g4.ex), app _ _ (Fm.ex g4.ex).wr (by unfold due; rw [if_neg hbx])⟩
  · obtain ⟨o4, o5, o6, rfl, G, Fm⟩ := hI
    have G2 := G.fixm Fm
    exact s_one (s_ret (nm 3 (R := rL rInt) (a := tab n (due n f x r)) (h := rInt.mkL upd_same)) G2.on fun z Hg H2 g2 hz => q z Hg H2 (G2.trans g2) hz)
/-! balanced -/
abbrev spBal : Sp := spF (fun t : Bool × Nat × (Nat → Int) × Mat => al2 (rL rInt) (tab t.2.1 t.2.2.1) (rM t.1) (mat t.2.1 t.2.2.2)) (fun t => RowOk t.2.1 t.2.2.1 ∧ GridBd t.2.1 t.2.2.2 ∧ Bal t.2.1 t.2.2.1 t.2.2.2) (fun t v H => v = .bl true)
instance rM_IsS : IsS (rM true) (rL rInt) := ⟨fun _ _ _ h => rL.s h⟩
instance rM_IsS2 : IsS (rM false) (rT rInt) := ⟨fun _ _ _ h => rT.s h⟩
theorem bal_body {g : W5} {f0 : Addr} {cdv : Value} {A : Around} {outer : List Env} {s : Shared} {H : Hp} {v u : V} {Q : VK} {E : XK} {n : Nat} {r : Nat → Int} {M0 : Mat} {Hb : Hp} (T : TX g) (cx : CtxZ (u1 (cxOf CX0 g.P g.w g.K g.mg g.base sLotBalancedN "_law_lot_balanced" (defScope sLotBalanced) f0 cdv A outer s H E).nox) g sLotBalancedN 0)
    {Ro : Rep (List (List Int))} {Ri : Rep (List Int)} [hS1 : IsS Ro Ri] [hS2 : IsS Ri rInt] (e : Ex Hb H) (hv : (rL rInt).r Hb v (tab n r)) (hu : Ro.r Hb u (mat n M0)) (hr : RowOk n r) (hf : GridBd n M0) (hbal : Bal n r M0) (q : ∀ v Hk H2, Go no Hb H Hk H2 → v = .bl true → Q v H2) :
    wSs (cxOf CX0 g.P g.w g.K g.mg g.base sLotBalancedN "_law_lot_balanced" (defScope sLotBalanced) f0 cdv A outer s H E).nox (defBody sLotBalanced) { nx := fun _ H' => Q .non H', rt := Q } (start sLotBalancedN [v, u]) H := by
  have hn := hr.n8
  refine s_cons (s_forR (n := n) T.range 2 (EV.is (len T.len (nm 0 (h := hv))) (by rw [tab_len])) e (by omega) (fun x σ H' => ∃ o2 o3 o4 : Option V, σ = [some v, some u, o2, o3, o4] ∧ Ex H H') (fun Hk H2 g2 => ⟨none, none, none, rfl, g2.ex⟩) (fun x σ' H' hx hI => ?_) fun σ' H' hI => ?_)
  · obtain ⟨o2, o3, o4, rfl, ex⟩ := hI
    show wSs _ _ _ [some v, some u, some (.int (x : Int)), o3, o4] H'
    refine s_cons (s_set 3 (EV.is (a' := sm n fun y => r x * M0 x y) (sum T.sum (lc [("_law_y", 4)] (iR (n := n) T.range (EV.is (len T.len (nm 0 (h := hv))) (by rw [tab_len])) (by omega)) (fun y => r x * M0 x y) (by omega) fun y vy Hc H4 hy e1 e2 hvy => gn 4 ⟨rfl, rfl,
      mulB (ixt (nm 0 (h := (rL rInt).up e1 hv)) (nm 2 (h := rfl)) hx) (ixt (S := Ri) (ixt (S := Ro) (nm 1 (h := Ro.up e1 hu)) (nm 2 (h := rfl)) hx) (nm 4 (h := hvy)) hy) (RowOk.bd hr hx) (bd60 (hf.nn _ _ hx hy) (hf.le _ _ hx hy))⟩)) tab_sum) (e.trans ex) fun z Hg H2 g2 hz => ?_)
    obtain rfl : z = .int (sm n fun y => r x * M0 x y) := hz
    have ex := ex.trans g2.ex
    refine s_one (s_if (ET.is (t' := false) (tne (nm 3 (h := rfl)) (EV.is (a' := sm n fun y => r y * M0 y x) (sum T.sum (lc [("_law_y", 4)] (iR (n := n) T.range (EV.is (len T.len (nm 0 (h := hv))) (by rw [tab_len])) (by omega)) (fun y => r y * M0 y x) (by omega) fun y vy Hc H4 hy e1 e2 hvy => gn 4 ⟨rfl, rfl,
      mulB (ixt (nm 0 (h := (rL rInt).up e1 hv)) (nm 4 (h := hvy)) hy) (ixt (S := Ri) (ixt (S := Ro) (nm 1 (h := Ro.up e1 hu)) (nm 4 (h := hvy)) hy) (nm 2 (h := rfl)) hx) (RowOk.bd hr hy) (bd60 (hf.nn _ _ hy hx) (hf.le _ _ hy hx))⟩)) tab_sum)) (by rw [hbal x hx]; simp)) (e.trans ex) (fun h => nomatch h) fun _ Hg H3 g3 => s_nil ⟨_, _, _, rfl, ex.trans g3.ex⟩)
  · obtain ⟨o2, o3, o4, rfl, ex⟩ := hI
    exact s_one (s_ret (cB (n := true)) (e.trans ex) fun z Hg H2 g2 hz => q z Hg H2 ((Go.ofEx e ex).trans g2) hz)
theorem ok_bal {g : W5} (D : DefOf g "_law_lot_balanced" sLotBalanced) (T : TX g) : FnB g CX0 1 "_law_lot_balanced" ["_law_row", "_law_rates"] [] spBal := by
  refine def_ok D sLotBalancedS (by decide +kernel) len2 (fun _ _ _ _ _ _ us hl => match us, hl with | [_, _], _ => rfl) fun f0 cdv A outer s H vs Q E cx ⟨⟨b, n, r, M0⟩, Hb, e, h0, ⟨hr, hf, hb⟩, q⟩ => ?_
  obtain ⟨v, u, rfl, hv, hu⟩ := AL.two h0
  cases b with
  | true => exact bal_body (Ro := rM true) (Ri := rL rInt) T cx e hv hu hr hf hb q
  | false => exact bal_body (Ro := rM false) (Ri := rT rInt) T cx e hv hu hr hf hb q
end K
/-! KN: square, has. -/
namespace K
open PySem.Spec PySem PyProof.Rows L2 Z M
structure IsC (g : W5) (C : Addr) : Prop where
  ty : ∀ {H : Hp} {a dx : Addr} {fs : List (Str × V)}, H a = some (.ins C dx fs) → TyX g.K H (.ref a) (.ref C)
theorem isiC {ι : Type} {X : ι → Cx} {g : W5} {N : List Str} {k : Nat} {σ : L2.St} {Hb : Hp} {e : Expr} {p p2 pos : Pos} {x : Str} {C : Addr} {t : Nat × Mat} [c : CtxZ X g N k] (T : TX g) (ic : IsC g C) (hm : g.mg x = some (.ref C)) (h : EV X e σ Hb (rCh C) t) (hg : ∀ i, Gl (X i) "isinstance" := by intro _; rfl) (hg2 : ∀ i, Gl (X i) x := by intro _; rfl) (hs : NS e := by intro _ _; rfl)
    (hd : (x == ("__debug__" : Str)) = false := by decide) (hq : ∀ i, (backTo pos (starEach [.Name x p2] (X i).env)).any (·.1) = false := by intro _; rfl) : EV X (.Call (.Name "isinstance" p) [e, .Name x p2] [] pos) σ Hb rBl true :=
  bcall (Φ := fun v H => rBl.r H v true) isi_K T.isinstance (by decide +kernel) (ac h (ac (cV (v := V.ref C) (R := rV) (a := V.ref C) hm rfl rfl hg2 hd) a0 (by intro _ _; rfl)) hs) (fun vs Hk H2 c1 r Q q => by
    obtain ⟨v, u, rfl, ⟨a, dx, fs, rfl, h2, _⟩, r2⟩ := AL.two r
    have r2 : u = .ref C := r2
    subst r2
    exact ⟨_, _, _, _, true, rfl, .own C, ic.ty (c1 _ _ h2), by unfold PySem.W.kitOne; rw [if_pos (by simp)], q _ Hk H2 (Go.refl c1) rfl⟩) hg (he := hs) (hpl := hq)
/-! square -/
abbrev spSquare : Sp := spF (fun t : Nat × Mat => al2 (rT (rT rInt)) (mat t.1 t.2) rInt (t.1 : Int)) (fun t => t.1 ≤ 8 ∧ ∀ x, x < t.1 → t.2 x x = 0) (fun t v H => v = .bl true)
theorem ok_square {g : W5} (D : DefOf g "_law_lot_square" sLotSquare) (T : TX g) (FI : FnB g CX0 2 "_law_ints" ["_law_value", "_law_size"] [] spInts) : FnB g CX0 3 "_law_lot_square" ["_law_thing", "_law_size"] [] spSquare := by
  refine def_ok D sLotSquareS (by decide +kernel) len2 (fun _ _ _ _ _ _ us hl => match us, hl with | [_, _], _ => rfl) fun f0 cdv A outer s H vs Q E cx ⟨⟨n, f⟩, Hb, e, h0, ⟨hn, hd⟩, q⟩ => ?_
  obtain ⟨v, u, rfl, hv, hu⟩ := AL.two h0
  dsimp only at hv hu hn hd q
  obtain rfl : u = .int (n : Int) := hu
  have k1 : kitB "tuple" "tuple" = some true := by decide +kernel
  refine s_cons (s_if (ET.is (t' := false) (tW (wor (tnot (tv (isi T.isinstance (tyT (nm 0 (h := hv))) (tyv T.tuple bt_tuple) k1))) fun _ => wor1 (tne (len T.len (nm 0 (h := hv))) (nm 1 (h := rfl))))) (by simp [tab_len])) e (fun h => nomatch h) fun _ Hk H1 g1 => s_nil ?_)
  refine s_cons (s_forR (n := n) T.range 2 (nm 1 (h := rfl)) (e.trans g1.ex) (by omega) (fun x σ H' => ∃ o2 : Option V, σ = [some v, some (.int (n : Int)), o2] ∧ Ex H H') (fun Hk H2 g2 => ⟨none, rfl, g1.ex.trans g2.ex⟩) (fun x σ' H' hx hI => ?_) fun σ' H' hI => ?_)
  · obtain ⟨o2, rfl, ex⟩ := hI
    show wSs _ _ _ [some v, some (.int (n : Int)), some (.int (x : Int))] H'
    refine s_one (s_if (ET.is (t' := false) (tW (wor (tnot (tv (call FI (tab n (f x), (n : Int)) (ac (ixt (nm 0 (h := hv)) (nm 2 (h := rfl)) hx) (ac (nm 1 (h := rfl)) a0)) rfl (by show (tab n (f x)).length ≤ 1000; rw [tab_len]; omega)))) fun _ => wor1 (tne (ixt (ixt (nm 0 (h := hv)) (nm 2 (h := rfl)) hx) (nm 2 (h := rfl)) hx) cI))) (by simp [tab_len, hd x hx])) (e.trans ex) (fun h => nomatch h) fun _ Hg H3 g3 => s_nil ⟨_, rfl, ex.trans g3.ex⟩)
  · obtain ⟨o2, rfl, ex⟩ := hI
    exact s_one (s_ret (cB (n := true)) (e.trans ex) fun z Hg H2 g2 hz => q z Hg H2 ((Go.ofEx e ex).trans g2) hz)
/-! has -/
structure HasOk (n : Nat) (lo hi : Mat) (r : Nat → Int) (k : Int) (R : Mat) : Prop where
  k1 : 1 ≤ k
  k2 : k ≤ 10 ^ 60
  dg : ∀ x, x < n → R x x = 0
  bd : GridBd n R
  lo0 : GridBd n lo
  hi0 : GridBd n hi
  inl : ∀ x y, x < n → y < n → k * lo x y ≤ R x y
  inh : ∀ x y, x < n → y < n → R x y ≤ k * hi x y
  bal : Bal n r R
abbrev spHas (CC : Addr) : Sp := spF (fun t : Nat × Mat × Mat × (Nat → Int) × Int × Mat => al4 (rL (rL rInt)) (mat t.1 t.2.1) (rL (rL rInt)) (mat t.1 t.2.2.1) (rL rInt) (tab t.1 t.2.2.2.1) (rP rInt (rCh CC)) (t.2.2.2.2.1, (t.1, t.2.2.2.2.2))) (fun t => RowOk t.1 t.2.2.2.1 ∧ HasOk t.1 t.2.1 t.2.2.1 t.2.2.2.1 t.2.2.2.2.1 t.2.2.2.2.2) (fun t v H => v = .bl true)
theorem ok_has {g : W5} {CC : Addr} (D : DefOf g "_law_lot_has" sLotHas) (T : TX g) (cc : ClOk g CC tabF) (ic : IsC g CC) (hmC : g.mg "Chain" = some (.ref CC)) (FI : FnB g CX0 1 "_law_int" ["_law_value"] [] spIsInt) (FS : FnB g CX0 3 "_law_lot_square" ["_law_thing", "_law_size"] [] spSquare) : FnB g CX0 4 "_law_lot_has" ["_law_lows", "_law_highs", "_law_row", "_law_scaled"] [] (spHas CC) := by
  refine def_ok D sLotHasS (by decide +kernel) (len_of fun t H vs h => by obtain ⟨v, u, w, z, rfl, _⟩ := AL.four h; rfl) (fun _ _ _ _ _ _ us hl => match us, hl with | [_, _, _, _], _ => rfl) fun f0 cdv A outer s H vs Q E cx ⟨⟨n, lo, hi, r, k, R⟩, Hb, e, h0, ⟨hr, ok⟩, q⟩ => ?_
  obtain ⟨v, u, w, z, rfl, hv, hu, hw, hz⟩ := AL.four h0
  dsimp only at hv hu hw hz hr ok q
  have hn := hr.n8
  have k1 : kitB "tuple" "tuple" = some true := by decide +kernel
  have hz2 : (rT rV).r Hb z [z, z] ∨ True := .inr trivial
  obtain ⟨pz, za, zb, rfl, hpz, hza, hzb⟩ := hz
  have hz : (rP rInt (rCh CC)).r Hb (.ref pz) (k, (n, R)) := ⟨pz, za, zb, rfl, hpz, hza, hzb⟩
  have hzV : (rT rV).r Hb (.ref pz) [za, zb] := ⟨pz, _, rfl, hpz, .cons rfl (.cons rfl .nil)⟩
  have hk1 := ok.k1
  refine s_cons (s_if (ET.is (t' := false) (tW (wor (tnot (tv (isi T.isinstance (tyP (nm 3 (h := hz))) (tyv T.tuple bt_tuple) k1))) fun _ => wor (tne (len T.len (nm 3 (h := hzV))) (cI (n := 2))) fun _ => wor (tnot (tv (lInt FI (pr0 (nm 3 (h := hz)))))) fun _ => wor1 (tlt (pr0 (nm 3 (h := hz))) (cI (n := 1))))) (by simp; omega)) e (fun h => nomatch h) fun _ Hk H1 g1 => s_nil ?_)
  have e1 := e.trans g1.ex
  refine s_cons (s_if (ET.is (t' := false) (tW (wor (tnot (tv (isiC T ic hmC (pr1 (nm 3 (h := hz)))))) fun _ => wor1 (tnot (tv (EP.imp (call FS (n, R) (ac (chRows cc (pr1 (nm 3 (h := hz)))) (ac (EV.is (a' := (n : Int)) (len T.len (nm 2 (h := hw))) (by rw [tab_len])) a0)) rfl ⟨hn, ok.dg⟩) fun v H h => h))))) (by rfl)) e1 (fun h => nomatch h) fun _ Hk H2 g2 => s_nil ?_)
  have e2 := e1.trans g2.ex
  refine s_cons (s_set 4 (chRows cc (pr1 (nm 3 (h := hz)))) e2 fun vr Hk3 H3 g3 hvr => ?_)
  have hvr : (rT (rT rInt)).r Hk3 vr (mat n R) := hvr
  have hv := (rL (rL rInt)).up g3.base hv
  have hu := (rL (rL rInt)).up g3.base hu
  have hw := (rL rInt).up g3.base hw
  have hz := (rP rInt (rCh CC)).up g3.base hz
  have G0 : Go no Hb H Hk3 H3 := (Go.ofEx e (g1.ex.trans g2.ex)).trans g3
  have hkb : Bd k := bd60 (by omega) ok.k2
  refine s_cons (s_forR (n := n) T.range 5 (EV.is (len T.len (nm 2 (h := hw))) (by rw [tab_len])) G0.on (by omega) (fun x σ H' => ∃ o5 o6 o7 : Option V, σ = [some v, some u, some w, some (.ref pz), some vr, o5, o6, o7] ∧ Ex H3 H') (fun Hk H2 g2 => ⟨none, none, none, rfl, g2.ex⟩) (fun x σ' H' hx hI => ?_) fun σ' H' hI => ?_)
  · obtain ⟨o5, o6, o7, rfl, ex⟩ := hI
    show wSs _ _ _ [some v, some u, some w, some (.ref pz), some vr, some (.int (x : Int)), o6, o7] H'
    have eK := G0.on.trans ex
    refine s_cons (s_forR (n := n) T.range 6 (EV.is (len T.len (nm 2 (h := hw))) (by rw [tab_len])) eK (by omega) (fun y σ H'' => ∃ o6 : Option V, σ = [some v, some u, some w, some (.ref pz), some vr, some (.int (x : Int)), o6, o7] ∧ Ex H3 H'') (fun Hk H2 g2 => ⟨_, rfl, ex.trans g2.ex⟩) (fun y σ' H'' hy hI => ?_) fun σ' H'' hI => ?_)
    · obtain ⟨o6, rfl, ex⟩ := hI
      show wSs _ _ _ [some v, some u, some w, some (.ref pz), some vr, some (.int (x : Int)), some (.int (y : Int)), o7] H''
      have h1 := ok.inl x y hx hy
      have h2 := ok.inh x y hx hy
      refine s_one (s_if (ET.is (t' := false) (tnot (tchLL (mulB (pr0 (nm 3 (h := hz))) (ixt (ixt (nm 0 (h := hv)) (nm 5 (h := rfl)) hx) (nm 6 (h := rfl)) hy) hkb (bd60 (ok.lo0.nn _ _ hx hy) (ok.lo0.le _ _ hx hy))) (ixt (ixt (nm 4 (h := hvr)) (nm 5 (h := rfl)) hx) (nm 6 (h := rfl)) hy) fun _ => mulB (pr0 (nm 3 (h := hz))) (ixt (ixt (nm 1 (h := hu)) (nm 5 (h := rfl)) hx) (nm 6 (h := rfl)) hy) hkb (bd60 (ok.hi0.nn _ _ hx hy) (ok.hi0.le _ _ hx hy)))) (by simp [h1, h2])) (G0.on.trans ex) (fun h => nomatch h) fun _ Hg H5 g5 => s_nil ⟨_, rfl, ex.trans g5.ex⟩)
    · obtain ⟨o6, rfl, ex⟩ := hI
      have hw' := hw
      refine s_cons (s_set 7 (EV.is (a' := sm n fun y => r x * R x y) (sum T.sum (lc [("_law_y", 6)] (iR (n := n) T.range (EV.is (len T.len (nm 2 (h := hw))) (by rw [tab_len])) (by omega)) (fun y => r x * R x y) (by omega) fun y vy Hc H4 hy e1 e2 hvy => gn 6 ⟨rfl, rfl,
        mulB (ixt (nm 2 (h := (rL rInt).up e1 hw)) (nm 5 (h := rfl)) hx) (ixt (ixt (nm 4 (h := (rT (rT rInt)).up e1 hvr)) (nm 5 (h := rfl)) hx) (nm 6 (h := hvy)) hy) (RowOk.bd hr hx) (bd60 (ok.bd.nn _ _ hx hy) (ok.bd.le _ _ hx hy))⟩)) tab_sum) (G0.on.trans ex) fun zz Hg H2 g2 hzz => ?_)
      obtain rfl : zz = .int (sm n fun y => r x * R x y) := hzz
      have ex := ex.trans g2.ex
      refine s_one (s_if (ET.is (t' := false) (tne (nm 7 (h := rfl)) (EV.is (a' := sm n fun y => r y * R y x) (sum T.sum (lc [("_law_y", 6)] (iR (n := n) T.range (EV.is (len T.len (nm 2 (h := hw))) (by rw [tab_len])) (by omega)) (fun y => r y * R y x) (by omega) fun y vy Hc H4 hy e1 e2 hvy => gn 6 ⟨rfl, rfl,
        mulB (ixt (nm 2 (h := (rL rInt).up e1 hw)) (nm 6 (h := hvy)) hy) (ixt (ixt (nm 4 (h := (rT (rT rInt)).up e1 hvr)) (nm 6 (h := hvy)) hy) (nm 5 (h := rfl)) hx) (RowOk.bd hr hy) (bd60 (ok.bd.nn _ _ hy hx) (ok.bd.le _ _ hy hx))⟩)) tab_sum)) (by rw [ok.bal x hx]; simp)) (G0.on.trans ex) (fun h => nomatch h) fun _ Hg H3 g3 => s_nil ⟨_, _, _, rfl, ex.trans g3.ex⟩)
  · obtain ⟨o5, o6, o7, rfl, ex⟩ := hI
    exact s_one (s_ret (cB (n := true)) (G0.on.trans ex) fun zz Hg H4 g4 hzz => q zz Hg H4 ((G0.step ex).trans g4) hzz)
end K
/-! KO: a spoilt row. -/
namespace K
open PySem.Spec PySem PyProof.Rows L2 Z M
/-- an entry that no share row may have -/
def BadE (w : V) : Prop := w ∈ ([.int 0, .int (-1), .bl true, .non, .bl false, .str "2", .int (-7)] : List V)
def SptX (n : Nat) (xs : List V) (pl : Int) : Prop :=
  (xs.length ≠ n ∧ pl = -1) ∨ (xs.length = n ∧ ∃ (t : Nat) (w : V), pl = (t : Int) ∧ xs[t]? = some w ∧ BadE w ∧ ∀ s, s < t → ∃ i : Int, xs[s]? = some (.int i) ∧ 1 ≤ i)
def rSpt (n : Nat) : Rep Int := ⟨fun H v pl => (v = .non ∧ pl = -1) ∨ ∃ p xs, v = .ref p ∧ (H p = some (.lst xs) ∨ H p = some (.tup xs)) ∧ xs.length ≤ n + 1 ∧ SptX n xs pl,
  fun e h => h.imp id fun ⟨p, xs, a, b, c⟩ => ⟨p, xs, a, b.imp (e _ _) (e _ _), c⟩⟩
def spSpoilt : Sp := fun vs H1 Q _ => ∃ (Hb : Hp) (d : Addr) (n : Nat) (r : Nat → Int) (u : V), vs = [.ref d, u] ∧ Ex Hb H1 ∧ Hb d = none ∧ Dw H1 d ∧ (rL rInt).r Hb u (tab n r) ∧ RowOk n r ∧ 2 ≤ n ∧
  ∀ v pl Hk H2, Go (· = d) Hb H1 Hk H2 → Dw H2 d → (rP (rSpt n) rInt).r Hk v (pl, pl) → Q v H2
section
variable {ι : Type} {X : ι → Cx} {g : W5} {N : List Str} {k : Nat} {σ : L2.St} {H Hb : Hp} {e1 e2 : Expr} {pos : Pos} {d : Addr} {P : Int → Prop} {α : Type} {R : Rep α}
theorem wix [c : CtxZ X g N k] {l : List V} {Q : VK} (h1 : EV X e1 σ Hb (rL rV) l) (h2 : ED X d e2 σ Hb P) (hP : ∀ i, P i → 0 ≤ i ∧ i < l.length) (cx : Ex Hb H) (hd : Hb d = none) (dw : Dw H d)
    (q : ∀ v H2, Gd d Hb H H2 → Dw H2 d → v ∈ l → Q v H2) (hs : PlainIx e2 := by intro _ _; rfl) : wE X (.Subscript e1 e2 pos) σ H Q :=
  ⟨_, fun i => pe_ix (ix_K i) (wE_ok i) (wE_ok i) hs, h1 H cx _ fun v Hk H2 g1 r1 => (h2 hd) H2 (cx.trans g1.ex) (dw.ex g1.ex) _ fun i H3 g2 d2 p2 => by
    have hi := hP i p2
    have hj : i.toNat < l.length := by omega
    obtain ⟨p, xs, rfl, b, r2⟩ := r1
    have e0 : xs = l := by
      clear hP hi hj b h1 h2 hs q
      induction r2 with
      | nil => rfl
      | cons a _ ih => have a : _ = _ := a; rw [a, ih]
    subst e0
    have ne : p ≠ d := fun z => by
      subst z
      obtain ⟨w, _, hw⟩ := dw.ex g1.ex
      have hk : Hk p ≠ none := by rw [b]; exact fun z => nomatch z
      exact hk (g1.fr p dw.live hd)
    have hi2 : i = ((i.toNat : Nat) : Int) := by omega
    exact .inl ⟨p, xs, i, _, rfl, rfl, SqL.of (g2.real _ _ ne (g1.on _ _ b)), atI_of hi2 (List.getElem?_eq_getElem hj), q _ H3 ((Gd.of cx g1.ex).trans g2) d2 (by simp)⟩⟩
end
theorem P2.self {H : Hp} : ∀ xs : List V, P2 (rV.r H) xs xs
  | [] => .nil
  | _ :: xs => .cons rfl (P2.self xs)
theorem ok_spoilt {g : W5} (D : DefOf g "_law_lot_spoilt" sLotSpoilt) (T : TX g) (FT : FnB g CX0 1 "_law_take" ["_law_draws_here", "_law_many"] [] spTake) : FnB g CX0 2 "_law_lot_spoilt" ["_law_draws_here", "_law_row"] [] spSpoilt := by
  refine def_ok D sLotSpoiltS (by decide +kernel) (fun vs H Q E ⟨Hb, d, n, r, u, h, _⟩ => by rw [h]; rfl) (fun _ _ _ _ _ _ us hl => match us, hl with | [_, _], _ => rfl) fun f0 cdv A outer s H vs Q E cx ⟨Hb, d, n, r, u, hvs, e, hd, dw, hu, hr, hn2, q⟩ => ?_
  subst hvs
  have hn := hr.n8
  have one : ∀ {α : Type} {R : Rep α} {a : α} {w : V} {H0 : Hp} , (R.r H0 w a → (rV).r H0 w w) := fun _ => rfl
  -- bad
  refine s_cons (s_setw 2 (wix (l := [.int 0, .int (-1), .bl true, .non, .bl false, .str "2", .int (-7)])
    (dLs (R := rV) (esc (EV.to (cI (n := 0)) fun _ _ h => h) (esc (EV.to (neg (cI (n := 1))) fun _ _ h => h) (esc (EV.to (cB (n := true)) fun _ _ h => h) (esc cN (esc (EV.to (cB (n := false)) fun _ _ h => h) (esc (EV.to (cS (n := "2")) fun _ _ h => h) (esc (EV.to (neg (cI (n := 7))) fun _ _ h => h) es0))))))) (by decide))
    (take 0 FT (cI (n := 7))) (fun i hi => by have : 0 ≤ i ∧ (i < 7 ∨ i = 0) := hi; simp; omega) e hd dw fun bad H1 g1 dw1 hbad => ?_))
  have G : Gd d Hb H H1 := g1
  -- turn
  refine s_cons (s_setD 3 (take 0 FT (cI (n := 5))) G.on hd dw1 fun tn H2 g2 dw2 htn => ?_)
  have G := G.trans g2
  show wSs _ _ _ [some (.ref d), some u, some bad, some (.int tn), none, none, none] H2
  -- none
  refine s_cons (s_if (teq (nm 3 (h := rfl)) (cI (n := 0))) G.on (fun _ Hk3 H3 g3 => ?_) fun _ Hk3 H3 g3 => s_nil ?_)
  · refine s_one (s_ret (dP (R := rSpt n) (T := rInt) (a := -1) (b := -1) (ac (EV.to cN fun _ _ h => .inl ⟨h, rfl⟩) (ac (neg (cI (n := 1))) a0))) (G.step g3.ex).on fun v Hk4 H4 g4 hv => ?_)
    exact q v (-1) Hk4 H4 ((G.step g3.ex).trans g4.more) ((dw2.ex g3.ex).ex g4.ex) hv
  have G := G.step g3.ex
  have dw3 := dw2.ex g3.ex
  -- one more
  refine s_cons (s_if (teq (nm 3 (h := rfl)) (cI (n := 1))) G.on (fun _ Hk4 H4 g4 => ?_) fun _ Hk4 H4 g4 => s_nil ?_)
  · refine s_one (s_ret (dP (R := rSpt n) (T := rInt) (a := -1) (b := -1) (ac (EV.to (cat (toList T.list (nm 1 (h := hu))) (dLs (R := rInt) (l := [1]) (esc cI es0) (by decide)) (by simp [tab_len]; omega)) fun _ _ h => ?_) (ac (neg (cI (n := 1))) a0))) (G.step g4.ex).on fun v Hk5 H5 g5 hv => ?_)
    · obtain ⟨p, xs, rfl, b, r2⟩ := h
      have := r2.len
      simp [tab_len] at this
      exact .inr ⟨p, xs, rfl, .inl b, by omega, .inl ⟨by omega, rfl⟩⟩
    · exact q v (-1) Hk5 H5 ((G.step g4.ex).trans g5.more) ((dw3.ex g4.ex).ex g5.ex) hv
  have G := G.step g4.ex
  have dw4 := dw3.ex g4.ex
  -- one less
  refine s_cons (s_if (teq (nm 3 (h := rfl)) (cI (n := 2))) G.on (fun _ Hk5 H5 g5 => ?_) fun _ Hk5 H5 g5 => s_nil ?_)
  · refine s_one (s_ret (dP (R := rSpt n) (T := rInt) (a := -1) (b := -1) (ac (EV.to (toTup T.tuple (EV.to (slD 1 (nm 1 (h := hu)) (cI (n := 1)) rfl) fun _ _ ⟨p, xs, a, b, c⟩ => ⟨p, xs, a, .inl b, c⟩)) fun _ _ h => ?_) (ac (neg (cI (n := 1))) a0))) (G.step g5.ex).on fun v Hk6 H6 g6 hv => ?_)
    · obtain ⟨p, xs, rfl, b, r2⟩ := h
      have := r2.len
      simp [tab_len] at this
      exact .inr ⟨p, xs, rfl, .inr b, by omega, .inl ⟨by omega, rfl⟩⟩
    · exact q v (-1) Hk6 H6 ((G.step g5.ex).trans g6.more) ((dw4.ex g5.ex).ex g6.ex) hv
  have G := G.step g5.ex
  have dw5 := dw4.ex g5.ex
  -- bent
  refine s_cons (s_setN 4 (toListN T.list (nm 1 (h := hu))) G.on fun bp H6 hbp e6 hbl => ?_)
  have M : Mu H Hb H6 bp (.lst ((tab n r).map .int)) := ⟨G.new_of hbp, G.on.none hbp, hbl⟩
  have G := G.step e6
  have dw6 := dw5.ex e6
  have hbd : bp ≠ d := fun z => dw.live (z ▸ M.new)
  have hdb : d ≠ bp := fun z => hbd z.symm
  -- first
  have lenB : ∀ {H' : Hp} {xs : List V} {σ : L2.St}, Ex Hb H' → Mu H Hb H' bp (.lst xs) → xs.length = n → Ex (upd Hb bp (.lst xs)) H' ∧ upd Hb bp (.lst xs) d = none ∧ Ex Hb (upd Hb bp (.lst xs)) := fun {H'} {xs} _ c m hl =>
    ⟨fun b o h => by
      by_cases z : b = bp
      · subst z; rw [upd_same] at h; rw [m.at_, h]
      · rw [upd_ne z] at h; exact c _ _ h, by rw [upd_ne hdb]; exact hd, Ex.new m.off⟩
  obtain ⟨c6, hd6, eb6⟩ := lenB (σ := []) G.on M (by simp [tab_len])
  have hB : (rL rInt).r (upd Hb bp (.lst ((tab n r).map .int))) (.ref bp) (tab n r) := ⟨bp, _, rfl, upd_same, P2.ofInts _⟩
  refine s_cons (s_setD 5 (take 0 FT (EV.is (a' := (n : Int)) (len T.len (nm 4 (h := hB))) (by rw [tab_len]))) c6 hd6 dw6 fun fi H7 g7 dw7 hfi => ?_)
  have hfi : 0 ≤ fi ∧ (fi < (n : Int) ∨ fi = 0) := hfi
  obtain ⟨ft, rfl⟩ : ∃ x : Nat, fi = (x : Int) := ⟨fi.toNat, by omega⟩
  have hft : ft < n := by omega
  have M : Mu H Hb H7 bp (.lst ((tab n r).map .int)) := ⟨M.new, M.off, g7.on _ _ upd_same⟩
  have G := G.trans (Gd.down eb6 g7)
  -- the bad entry
  refine s_cons (s_asg (nm 2 (R := rV) (a := bad) (h := rfl)) G.on (fun v Hk8 H8 g8 hv => ?_))
  have hv : v = bad := hv
  subst hv
  have G8 := G.step g8.ex
  have M8 := M.ex g8.ex
  refine gL (j := 4) ft (nm 5 (h := rfl)) G8.on rfl (by simp [tab_len]; omega) M8.at_ fun Hk9 H9 g9 h9 => ?_
  have M9 := (M8.ex g9.ex).wr (o' := .lst (((tab n r).map V.int).set ft v))
  have G9 := (G8.step g9.ex).mu (o' := .lst (((tab n r).map V.int).set ft v)) (M8.ex g9.ex)
  have dw9 : Dw (upd H9 bp (.lst (((tab n r).map V.int).set ft v))) d := by
    obtain ⟨l, hl, z⟩ := (dw7.ex g8.ex).ex g9.ex
    exact ⟨l, hl, by rw [upd_ne hdb]; exact z⟩
  show wSs _ _ _ [some (.ref d), some u, some v, some (.int tn), some (.ref bp), some (.int (ft : Int)), none] (upd H9 bp (.lst (((tab n r).map V.int).set ft v)))
  generalize upd H9 bp (.lst (((tab n r).map V.int).set ft v)) = H10 at M9 G9 dw9
  have ent : ∀ s, s ≠ ft → s < n → (((tab n r).map V.int).set ft v)[s]? = some (.int (r s)) := fun s h h2 => by
    rw [List.getElem?_set_ne (fun z => h z.symm), List.getElem?_map, tab_get h2]; rfl
  have len9 : (((tab n r).map V.int).set ft v).length = n := by simp [tab_len]
  have at9 : (((tab n r).map V.int).set ft v)[ft]? = some v := by rw [List.getElem?_set_self (by simp [tab_len]; exact hft)]
  generalize ((tab n r).map V.int).set ft v = xs at M9 ent len9 at9
  obtain ⟨c10, hd10, eb10⟩ := lenB (σ := []) G9.on M9 len9
  have hxs : (rL rV).r (upd Hb bp (.lst xs)) (.ref bp) xs := ⟨bp, _, rfl, upd_same, P2.self xs⟩
  refine s_cons (s_if (teq (nm 3 (h := rfl)) (cI (n := 4))) c10 (fun _ Hk11 H11 g11 => ?_) fun _ Hk11 H11 g11 => s_nil ?_)
  · have M11 := M9.ex g11.ex
    have G11 := G9.step g11.ex
    have dw11 := dw9.ex g11.ex
    refine s_cons (s_setD 6 (take 0 FT (EV.is (a' := (n : Int)) (len T.len (nm 4 (h := hxs))) (by rw [len9]))) (c10.trans g11.ex) hd10 dw11 fun se H12 g12 dw12 hse => ?_)
    have hse : 0 ≤ se ∧ (se < (n : Int) ∨ se = 0) := hse
    obtain ⟨st, rfl⟩ : ∃ x : Nat, se = (x : Int) := ⟨se.toNat, by omega⟩
    have hst : st < n := by omega
    have M12 : Mu H Hb H12 bp (.lst xs) := ⟨M11.new, M11.off, g12.on _ _ upd_same⟩
    have G12 := G11.trans (Gd.down eb10 g12)
    refine s_cons (s_asg (cI (n := 0)) G12.on (fun w Hk13 H13 g13 hw => ?_))
    obtain rfl : w = .int 0 := hw
    have G13 := G12.step g13.ex
    have M13 := M12.ex g13.ex
    refine gL (j := 4) st (nm 6 (h := rfl)) G13.on rfl (by rw [len9]; exact hst) M13.at_ fun Hk14 H14 g14 h14 => ?_
    have M14 := (M13.ex g14.ex).wr (o' := .lst (xs.set st (.int 0)))
    have G14 := (G13.step g14.ex).mu (o' := .lst (xs.set st (.int 0))) (M13.ex g14.ex)
    have dw14 : Dw (upd H14 bp (.lst (xs.set st (.int 0)))) d := by
      obtain ⟨l, hl, z⟩ := (dw12.ex g13.ex).ex g14.ex
      exact ⟨l, hl, by rw [upd_ne hdb]; exact z⟩
    show wSs _ _ _ [some (.ref d), some u, some v, some (.int tn), some (.ref bp), some (.int (ft : Int)), some (.int (st : Int))] (upd H14 bp (.lst (xs.set st (.int 0))))
    generalize upd H14 bp (.lst (xs.set st (.int 0))) = H15 at M14 G14 dw14
    refine s_one (s_set 5 (min2 T.min (nm 5 (h := rfl)) (nm 6 (h := rfl))) G14.on fun w Hk16 H16 g16 hw => ?_)
    obtain ⟨f, hf⟩ : ∃ f : Nat, f = if st < ft then st else ft := ⟨_, rfl⟩
    obtain rfl : w = .int (f : Int) := by
      have hw : w = .int (if (st : Int) < (ft : Int) then (st : Int) else (ft : Int)) := hw
      rw [hw, hf]; congr 1
      by_cases z : st < ft
      · rw [if_pos z, if_pos (by omega)]
      · rw [if_neg z, if_neg (by omega)]
    have spt : SptX n (xs.set st (.int 0)) (f : Int) := by
      refine .inr ⟨by simp [len9], f, ?_⟩
      have i0 : ∀ s, s < f → ∃ i : Int, (xs.set st (.int 0))[s]? = some (.int i) ∧ 1 ≤ i := fun s hs => by
        have h1 : s ≠ ft ∧ s ≠ st ∧ s < n := by split at hf <;> omega
        exact ⟨r s, by rw [List.getElem?_set_ne (fun z => h1.2.1 z.symm)]; exact ent s h1.1 h1.2.2, hr.lo s h1.2.2⟩
      by_cases z : f = st
      · exact ⟨.int 0, rfl, by rw [z, List.getElem?_set_self (by rw [len9]; exact hst)], by unfold BadE; simp, i0⟩
      · have h1 : f = ft := by split at hf <;> omega
        exact ⟨v, rfl, by rw [List.getElem?_set_ne (fun q => z q.symm), h1]; exact at9, hbad, i0⟩
    have M16 := M14.ex g16.ex
    have G16 := G14.step g16.ex
    have dw16 := dw14.ex g16.ex
    obtain ⟨c16, hd16, eb16⟩ := lenB (σ := []) G16.on M16 (by simp [len9])
    have hfin : (rSpt n).r (upd Hb bp (.lst (xs.set st (.int 0)))) (.ref bp) (f : Int) := .inr ⟨bp, _, rfl, .inl upd_same, by simp [len9], spt⟩
    refine s_one (s_ret (dP (R := rSpt n) (T := rInt) (a := (f : Int)) (b := (f : Int)) (ac (nm 4 (h := hfin)) (ac (nm 5 (h := rfl)) a0))) c16 fun z Hk17 H17 g17 hz => ?_)
    exact q z f Hk17 H17 ((G16.fixm M16).trans g17.more) (dw16.ex g17.ex) hz
  · have M11 := M9.ex g11.ex
    have G11 := G9.step g11.ex
    have dw11 := dw9.ex g11.ex
    have spt : SptX n xs (ft : Int) := .inr ⟨len9, ft, v, rfl, at9, hbad, fun s hs => ⟨r s, ent s (by omega) (by omega), hr.lo s (by omega)⟩⟩
    have hfin : (rSpt n).r (upd Hb bp (.lst xs)) (.ref bp) (ft : Int) := .inr ⟨bp, _, rfl, .inl upd_same, by omega, spt⟩
    refine s_one (s_ret (dP (R := rSpt n) (T := rInt) (a := (ft : Int)) (b := (ft : Int)) (ac (nm 4 (h := hfin)) (ac (nm 5 (h := rfl)) a0))) (c10.trans g11.ex) fun z Hk17 H17 g17 hz => ?_)
    exact q z ft Hk17 H17 ((G11.fixm M11).trans g17.more) (dw11.ex g17.ex) hz
end K
/-! KP: is_state. -/
namespace K
open PySem.Spec PySem PyProof.Rows L2 Z M
def kindOf : V → Option String
  | .int _ => some "int"
  | .bl _ => some "bool"
  | .non => some "NoneType"
  | .str _ => some "str"
  | _ => none
theorem kindOf_ok {v : V} {t : String} (h : kindOf v = some t) (H : Hp) : (Z.rTyp t).r H v () ∧ t ∈ kinds := by
  cases v <;> simp [kindOf] at h <;> subst h <;> exact ⟨rfl, by decide⟩
def isSt (n : Nat) : V → Bool
  | .int i => decide (0 ≤ i) && decide (i < (n : Int))
  | _ => false
abbrev spIsState : Sp := spF (fun t : Nat × V => al2 rInt (t.1 : Int) rV t.2) (fun t => (kindOf t.2).isSome = true) (fun t v H => rBl.r H v (isSt t.1 t.2))
theorem ok_isState {g : W5} (D : DefOf g "is_state" pIsState) (T : TX g) (FI : FnB g CX0 1 "is_int" ["thing"] [] spIsInt) : FnB g CX0 2 "is_state" ["size", "thing"] [] spIsState := by
  refine def_ok D pIsStateS (by decide +kernel) len2 (fun _ _ _ _ _ _ us hl => match us, hl with | [_, _], _ => rfl) fun f cdv A outer s H vs Q E cx ⟨⟨n, w⟩, Hb, e, h0, hk, q⟩ => ?_
  obtain ⟨v, u, rfl, hv, hu⟩ := AL.two h0
  obtain rfl : v = .int (n : Int) := hv
  obtain rfl : u = w := hu
  dsimp only at hk q
  obtain ⟨t, ht⟩ := Option.isSome_iff_exists.mp hk
  have k1 := kindOf_ok ht
  by_cases hi : ∃ i : Int, u = .int i
  · obtain ⟨i, rfl⟩ := hi
    have k1 := kindOf_ok (v := .int i) rfl
    exact s_one (s_ret (EV.is (a' := isSt n (.int i)) (vand (call FI "int" (ac (nm 1 (R := Z.rTyp "int") (h := (k1 Hb).1)) a0) rfl (k1 Hb).2) fun hi => vone (chLl cI (nm 1 (R := rInt) (h := rfl)) fun _ => nm 0 (R := rInt) (h := rfl))) (by simp [isSt])) e q)
  · have h2 : (t == "int") = false := by
      cases u <;> simp [kindOf] at ht <;> subst ht <;> first | rfl | exact absurd ⟨_, rfl⟩ hi
    have h3 : isSt n u = false := by
      cases u <;> first | rfl | exact absurd ⟨_, rfl⟩ hi
    exact s_one (s_ret (EV.is (a' := isSt n u) (vand (u := false) (call FI t (ac (nm 1 (R := Z.rTyp t) (h := (k1 Hb).1)) a0) rfl (k1 Hb).2) fun hi => by rw [h2] at hi; cases hi) (by rw [h2, h3]; rfl)) e q)
end K
/-! KQ: rates_right. -/
namespace K
open PySem.Spec PySem PyProof.Rows L2 Z M
/-- the greatest of a list -/
def mx : List Int → Int
  | [] => 0
  | [a] => a
  | a :: b :: l => if a < mx (b :: l) then mx (b :: l) else a
theorem mx_mem : ∀ {l : List Int}, l ≠ [] → mx l ∈ l
  | [a], _ => by simp [mx]
  | a :: b :: l, _ => by
    have := mx_mem (l := b :: l) (by simp)
    unfold mx; split
    · exact List.mem_cons_of_mem _ this
    · simp
theorem le_mx : ∀ {l : List Int} {x : Int}, x ∈ l → x ≤ mx l
  | [a], x, h => by simp at h; subst h; simp [mx]
  | a :: b :: l, x, h => by
    unfold mx
    rcases List.mem_cons.1 h with rfl | h
    · split <;> omega
    · have := le_mx h
      split <;> omega
/-- the least of a list -/
def mn : List Int → Int
  | [] => 0
  | [a] => a
  | a :: b :: l => if mn (b :: l) < a then mn (b :: l) else a
theorem mn_mem : ∀ {l : List Int}, l ≠ [] → mn l ∈ l
  | [a], _ => by simp [mn]
  | a :: b :: l, _ => by
    have := mn_mem (l := b :: l) (by simp)
    unfold mn; split
    · exact List.mem_cons_of_mem _ this
    · simp
theorem mn_le : ∀ {l : List Int} {x : Int}, x ∈ l → mn l ≤ x
  | [a], x, h => by simp at h; subst h; simp [mn]
  | a :: b :: l, x, h => by
    unfold mn
    rcases List.mem_cons.1 h with rfl | h
    · split <;> omega
    · have := mn_le h
      split <;> omega
section
variable {ι : Type} {X : ι → Cx} {g : W5} {N : List Str} {k : Nat} {σ : L2.St} {Hb : Hp} {e : Expr} {pos p : Pos}
theorem maxE [c : CtxZ X g N k] {l : List Int} (hm : g.mg "max" = none) (h : EV X e σ Hb (rL rInt) l) (hl : l ≠ []) (hg : ∀ i, Gl (X i) "max" := by intro _; rfl) (hs : NS e := by intro _ _; rfl) : EV X (.Call (.Name "max" p) [e] [] pos) σ Hb rInt (mx l) :=
  EP.imp (maxL hm h (by cases l with | nil => exact absurd rfl hl | cons => simp) hg hs) fun v H ⟨m, hv, h1, h2⟩ => by
    have e1 : m = mx l := Int.le_antisymm (le_mx h1) (h2 _ (mx_mem hl))
    subst e1; exact hv
theorem minE [c : CtxZ X g N k] {l : List Int} (hm : g.mg "min" = none) (h : EV X e σ Hb (rL rInt) l) (hl : l ≠ []) (hg : ∀ i, Gl (X i) "min" := by intro _; rfl) (hs : NS e := by intro _ _; rfl) : EV X (.Call (.Name "min" p) [e] [] pos) σ Hb rInt (mn l) :=
  EP.imp (minL hm h (by cases l with | nil => exact absurd rfl hl | cons => simp) hg hs) fun v H ⟨m, hv, h1, h2⟩ => by
    have e1 : m = mn l := Int.le_antisymm (h2 _ (mn_mem hl)) (mn_le h1)
    subst e1; exact hv
end
/-- what the rates of state x must be -/
def rowX (x : Nat) (r : Nat → Int) (d : Nat → Int) (f : Mat) : Mat := fun a b => if a = x then d b else r x * f a b
def rTold (n : Nat) : Rep ((Nat → Int) × Int) := ⟨fun H v t => if (∀ b, b < n → 0 ≤ t.1 b) then (rT (rP rInt rInt)).r H v (tab n fun b => (frU (t.1 b) t.2, frV (t.1 b) t.2)) else v = .non,
  fun e h => by
    split at h
    · rename_i z; rw [if_pos z]; exact (rT (rP rInt rInt)).up e h
    · rename_i z; rw [if_neg z]; exact h⟩
structure RatesPre (n : Nat) (f : Mat) (x : Nat) (r : Nat → Int) : Prop where
  hx : x < n
  hr : RowOk n r
  tb : TabOk n f
  le : ∀ a b, a < n → b < n → f a b ≤ 10 ^ 12
  ok : (∀ b, b < n → 0 ≤ due n f x r b) → Joined n (rowX x r (due n f x r) f) ∧ Bal n r (rowX x r (due n f x r) f) ∧ ∀ b, b < n → eu 400 (frU (due n f x r b) (r x)) (frV (due n f x r b) (r x)) = 1 ∧ 1 ≤ frV (due n f x r b) (r x) ∧ 0 ≤ frU (due n f x r b) (r x) ∧ frU (due n f x r b) (r x) * r x = frV (due n f x r b) (r x) * due n f x r b ∧ frU (due n f x r b) (r x) ≤ 10 ^ 30 ∧ frV (due n f x r b) (r x) ≤ 10 ^ 30 ∧ due n f x r b ≤ 10 ^ 30
abbrev spRatesRight : Sp := spF (fun t : Nat × Mat × Nat × (Nat → Int) => al4 (rL (rL rInt)) (mat t.1 t.2.1) rInt (t.2.2.1 : Int) (rL rInt) (tab t.1 t.2.2.2) (rTold t.1) (due t.1 t.2.1 t.2.2.1 t.2.2.2, t.2.2.2 t.2.2.1)) (fun t => RatesPre t.1 t.2.1 t.2.2.1 t.2.2.2) (fun t v H => v = .bl true)
theorem ok_ratesRight {g : W5} {CC : Addr} (D : DefOf g "_law_rates_right" sRatesRight) (T : TX g) (cc : ClOk g CC tabF) (FC : ClB g CX0 4 "Chain" CC ["self", "rows"] (spChInit CC))
    (FW : FnB g CX0 1 "_law_wanted" ["_law_grid", "_law_x", "_law_row"] [] spWanted) (FS : FnB g CX0 4 "_law_same" ["_law_value", "_law_over", "_law_under"] [] spSame) (FL : FnB g CX0 1 "_law_low_terms" ["_law_value"] [] spLow)
    (FB : FnB g CX0 1 "_law_lot_balanced" ["_law_row", "_law_rates"] [] spBal) : FnB g CX0 6 "_law_rates_right" ["_law_grid", "_law_x", "_law_row", "_law_told_here"] [] spRatesRight := by
  refine def_ok D sRatesRightS (by decide +kernel) (len_of fun t H vs h => by obtain ⟨v, u, w, z, rfl, _⟩ := AL.four h; rfl) (fun _ _ _ _ _ _ us hl => match us, hl with | [_, _, _, _], _ => rfl) fun f0 cdv A outer s H vs Q E cx ⟨⟨n, f, x, r⟩, Hb, e, h0, pre, q⟩ => ?_
  obtain ⟨v, u, w, z, rfl, hv, hu, hw, hz⟩ := AL.four h0
  dsimp only at hv hu hw hz pre q
  obtain rfl : u = .int (x : Int) := hu
  have hr := pre.hr
  have hn := hr.n8
  have hx := pre.hx
  have tb := pre.tb
  have hd : GridBd n f := ⟨tb.nn, fun a b ha hb => Int.le_trans (pre.le a b ha hb) (by decide +kernel)⟩
  refine s_cons (s_set 4 (call FW (n, f, x, r) (ac (nm 0 (h := hv)) (ac (nm 1 (h := rfl)) (ac (nm 2 (h := hw)) a0))) rfl ⟨hx, hd, hr⟩) e fun vd Hk1 H1 g1 hvd => ?_)
  have hvd : (rL rInt).r Hk1 vd (tab n (due n f x r)) := hvd
  have hv := (rL (rL rInt)).up g1.base hv
  have hw := (rL rInt).up g1.base hw
  have hz := (rTold n).up g1.base hz
  show wSs _ _ _ [some v, some (.int (x : Int)), some w, some z, some vd, none, none, none, none] H1
  have mem : ∀ b, b < n → due n f x r b ∈ tab n (due n f x r) := fun b hb => List.mem_of_getElem? (tab_get hb)
  have nz : tab n (due n f x r) ≠ [] := fun h => by have := congrArg List.length h; rw [tab_len] at this; simp at this; omega
  have bdX : Bd (r x) := RowOk.bd hr hx
  refine s_cons (s_if (tlt (minE T.min (nm 4 (h := hvd)) nz) (cI (n := 0))) g1.on (fun ht Hk2 H2 g2 => ?_) fun ht Hk2 H2 g2 => s_nil ?_)
  · have hneg : ¬ ∀ b, b < n → 0 ≤ due n f x r b := fun hall => by
      obtain ⟨b, hb⟩ := List.mem_iff_getElem?.mp (mn_mem nz)
      obtain ⟨hb, e1⟩ := tab_get_inv hb
      have := hall b hb
      have := of_decide_eq_true ht
      omega
    have hz : z = .non := by
      have hz : if (∀ b, b < n → 0 ≤ due n f x r b) then _ else z = .non := hz
      rwa [if_neg hneg] at hz
    subst hz
    exact s_one (s_ret (isN (t := true) (EP.imp (nm 3 (R := rV) (a := .non) (h := rfl)) fun v H h => by have h : v = .non := h; subst h; rfl)) (g1.on.trans g2.ex) fun y Hk3 H3 g3 hy => q y Hk3 H3 ((g1.step g2.ex).trans g3) hy)
  have hpos : ∀ b, b < n → 0 ≤ due n f x r b := fun b hb => by
    have h1 := mn_le (mem b hb)
    have h2 : ¬ mn (tab n (due n f x r)) < 0 := of_decide_eq_false ht
    omega
  have hz : (rT (rP rInt rInt)).r Hk1 z (tab n fun b => (frU (due n f x r b) (r x), frV (due n f x r b) (r x))) := by
    have hz : if (∀ b, b < n → 0 ≤ due n f x r b) then _ else z = .non := hz
    rwa [if_pos hpos] at hz
  obtain ⟨hJ, hB, hlo⟩ := pre.ok hpos
  have k1 : kitB "tuple" "tuple" = some true := by decide +kernel
  have G : Go no Hb H Hk1 H2 := g1.step g2.ex
  refine s_cons (s_if (ET.is (t' := false) (tW (wor (tnot (tv (isi T.isinstance (tyT (nm 3 (h := hz))) (tyv T.tuple bt_tuple) k1))) fun _ => wor1 (tne (len T.len (nm 3 (h := hz))) (len T.len (nm 0 (h := hv)))))) (by simp [tab_len])) G.on (fun h => nomatch h) fun _ Hk3 H3 g3 => s_nil ?_)
  have G := G.step g3.ex
  have b30 : ∀ {i : Int}, 0 ≤ i → i ≤ 10 ^ 30 → Bd i := fun h0 h1 => Bd.of (Int.le_trans (by decide +kernel) h0) (Int.le_trans h1 (by decide +kernel))
  refine s_cons (s_forR (n := n) T.range 5 (EV.is (len T.len (nm 0 (h := hv))) (by rw [tab_len])) G.on (by omega) (fun b σ H' => ∃ o5 : Option V, σ = [some v, some (.int (x : Int)), some w, some z, some vd, o5, none, none, none] ∧ Ex H3 H') (fun Hk H2 g2 => ⟨none, rfl, g2.ex⟩) (fun b σ' H' hb hI => ?_) fun σ' H' hI => ?_)
  · obtain ⟨o5, rfl, ex⟩ := hI
    show wSs _ _ _ [some v, some (.int (x : Int)), some w, some z, some vd, some (.int (b : Int)), none, none, none] H'
    obtain ⟨l1, l2, l3, l4, l5, l6, l7⟩ := hlo b hb
    have hU0 : ¬ frU (due n f x r b) (r x) < 0 := by omega
    refine s_one (s_if (ET.is (t' := false) (tW (wor (tnot (tv (call FS ((frU (due n f x r b) (r x), frV (due n f x r b) (r x)), due n f x r b, r x) (ac (ixt (nm 3 (h := hz)) (nm 5 (h := rfl)) hb) (ac (ixt (nm 4 (h := hvd)) (nm 5 (h := rfl)) hb) (ac (ixt (nm 2 (h := hw)) (nm 1 (h := rfl)) hx) a0))) rfl ⟨l2, by have := hr.lo x hx; show 0 < r x; omega, b30 l3 l5, b30 (Int.le_trans (by decide) l2) l6, b30 (hpos b hb) l7, bdX⟩))) fun _ => wor1 (tnot (tv (call FL (frU (due n f x r b) (r x), frV (due n f x r b) (r x)) (ac (ixt (nm 3 (h := hz)) (nm 5 (h := rfl)) hb) a0) rfl trivial))))) (by simp [l1, l4, hU0])) (G.on.trans ex) (fun h => nomatch h) fun _ Hg H5 g5 => s_nil ⟨_, rfl, ex.trans g5.ex⟩)
  · obtain ⟨o5, rfl, ex⟩ := hI
    have G := G.step ex
    show wSs _ _ _ [some v, some (.int (x : Int)), some w, some z, some vd, o5, none, none, none] H'
    have e0 := hlo x hx
    have dx0 : due n f x r x = 0 := by simp [due]
    have hrx := hr.lo x hx
    have fr0 : (frU (due n f x r x) (r x), frV (due n f x r x) (r x)) = ((0 : Int), (1 : Int)) := by
      rw [dx0]; unfold frU frV
      have : ((r x).natAbs : Int) = r x := by omega
      simp [Nat.gcd_zero_left, this]
      exact Int.ediv_self (by omega)
    refine s_cons (s_if (ET.is (t' := false) (tNeD (R := rP rInt rInt) (ixt (nm 3 (h := hz)) (nm 1 (h := rfl)) hx) (dP (R := rInt) (T := rInt) (ac cI (ac cI a0)))) (by rw [fr0]; rfl)) G.on (fun h => nomatch h) fun _ Hk4 H4 g4 => s_nil ?_)
    have G := G.step g4.ex
    refine s_cons (s_setLcM 6 [("_law_line", 8), ("_law_rate_here", 7)] (f := fun a b => r x * f a b) (iL (nm 0 (h := hv))) (by omega) G.on (fun i vx Hk5 H5 hi e1 e2 hvx => gn 8 ⟨rfl, rfl,
      lcN [("_law_rate_here", 7)] (iL (nm 8 (h := hvx))) _ (by omega) (fun j vy Hl H6 hj e3 e4 hvy => gn 7 ⟨rfl, rfl, mulB (ixt (nm 2 (h := (rL rInt).up (e1.trans e3) hw)) (nm 1 (h := rfl)) hx) (nm 7 (h := hvy)) bdX (bd60 (tb.nn _ _ hi hj) (hd.le _ _ hi hj))⟩)⟩) fun p as H5 hf e5 m => ?_)
    obtain ⟨G, Mm⟩ := G.ownM e5 hf m
    show wSs _ _ _ [some v, some (.int (x : Int)), some w, some z, some vd, o5, some (.ref p), none, none] H5
    refine s_cons (s_asg (nm 4 (R := rV) (a := vd) (h := rfl)) G.on (fun u Hk8 H8 g8 hu => ?_))
    have hu : u = vd := hu
    subst hu
    have M8 := Mm.ex g8.ex
    have G8 := G.step g8.ex
    have lal : (as.map V.ref).length = n := by rw [List.length_map]; exact m.len
    refine gL (j := 6) x (nm 1 (h := rfl)) G8.on rfl (by rw [lal]; exact hx) M8.top fun Hk9 H9 g9 h9 => ?_
    have G9 := (G8.step g9.ex).wr (p := p) (o := .lst ((as.map V.ref).set x u)) (.inr (Mm.new p (by simp))) (Mm.off p (by simp))
    have M9 := M8.ex g9.ex
    show wSs _ _ _ [some v, some (.int (x : Int)), some w, some z, some u, o5, some (.ref p), none, none] (upd H9 p (.lst ((as.map V.ref).set x u)))
    have hpd : ∀ {b o}, Hk1 b = some o → upd H9 p (.lst ((as.map V.ref).set x u)) b = some o := fun {b o} h => G9.on _ _ h
    have hrep : (rL (rL rInt)).r (upd H9 p (.lst ((as.map V.ref).set x u))) (.ref p) (mat n (rowX x r (due n f x r) f)) := by
      obtain ⟨p2, xs, e1, e2, hP⟩ := M9.rep
      cases e1
      rw [M9.top] at e2
      cases e2
      have hP2 : P2 ((rL rInt).r (upd H9 p (.lst ((as.map V.ref).set x u)))) (as.map V.ref) (tab n fun a => tab n fun b => r x * f a b) := hP.imp fun y l ⟨p3, ys, a1, a2, a3⟩ => by
        have hne : p3 ≠ p := fun z => by
          subst z
          rw [M9.top] at a2
          cases a2
          have a4 := P2.ints a3
          have hl : as.length = n := m.len
          cases as with
          | nil => simp at hl; omega
          | cons a0 as => cases l with
            | nil => simp at a4
            | cons l0 l => simp at a4
        exact ⟨p3, ys, a1, by rw [upd_ne hne]; exact a2, a3⟩
      refine ⟨p, _, rfl, upd_same, ?_⟩
      have h3 := hP2.set (x := u) (a := tab n (due n f x r)) ((rL rInt).up (fun b o h => hpd h) hvd) x
      have e3 : (tab n fun a => tab n fun b => r x * f a b).set x (tab n (due n f x r)) = mat n (rowX x r (due n f x r) f) := by
        rw [tab_set hx]
        apply tab_congr
        intro j hj
        unfold rowX
        by_cases z : j = x
        · subst z; simp
        · simp [z]
      rwa [e3] at h3
    have hw := (rL rInt).up (fun b o h => hpd h) hw
    generalize upd H9 p (.lst ((as.map V.ref).set x u)) = H10 at G9 hrep hw
    have hT : TabOk n (rowX x r (due n f x r) f) := ⟨tb.lo, tb.hi, fun a b ha hb => by
      unfold rowX; split
      · exact hpos b hb
      · exact Int.mul_nonneg (by omega) (tb.nn a b ha hb), fun a ha => by
      unfold rowX; split
      · rename_i z; rw [z, dx0]
      · rw [tb.dg a ha, Int.mul_zero]⟩
    have hGB : GridBd n (rowX x r (due n f x r) f) := ⟨hT.nn, fun a b ha hb => by
      unfold rowX; split
      · exact Int.le_trans (hlo b hb).2.2.2.2.2.2 (by decide +kernel)
      · have h1 := pre.le a b ha hb
        have h2 := hr.hi x hx
        have h3 := tb.nn a b ha hb
        have h4 : r x * f a b ≤ 1000000 * 10 ^ 12 := Int.mul_le_mul h2 h1 h3 (by decide)
        exact Int.le_trans h4 (by decide +kernel)⟩
    have nR : ∀ i, tab n (rowX x r (due n f x r) f i) ≠ [] := fun i h => by have := congrArg List.length h; rw [tab_len] at this; simp at this; omega
    have nR2 : tab n (fun i => mx (tab n (rowX x r (due n f x r) f i))) ≠ [] := fun h => by have := congrArg List.length h; rw [tab_len] at this; simp at this; omega
    refine s_cons (s_if (tle (maxE T.max (lc [("_law_line", 8)] (iL (nm 6 (h := hrep))) (fun i => mx (tab n (rowX x r (due n f x r) f i))) (by omega) fun i vx Hc H hi e1 e2 hvx => gn 8 ⟨rfl, rfl, maxE T.max (nm 8 (h := hvx)) (nR i)⟩) nR2) (pw (cI (n := 10)) (cI (n := 12)) ⟨by decide, by decide, by decide⟩)) (Ex.refl H10) (fun ht Hk11 H11 g11 => ?_) fun ht Hk11 H11 g11 => s_nil ?_)
    · refine s_one (s_set 6 (chRows cc (EP.imp (make FC (true, n, rowX x r (due n f x r) f) (ac (nm 6 (R := rM true) (a := mat n (rowX x r (due n f x r) f)) (h := hrep)) a0) rfl ⟨hT, hJ⟩ tabPost_up) mkCh)) g11.ex fun y Hk12 H12 g12 hy => ?_)
      have hy : (rT (rT rInt)).r Hk12 y (mat n (rowX x r (due n f x r) f)) := hy
      have G12 := (G9.step g11.ex).step g12.ex
      exact s_one (s_ret (call FB (false, n, r, rowX x r (due n f x r) f) (ac (nm 2 (h := (rL rInt).up g12.base hw)) (ac (nm 6 (R := rM false) (a := mat n (rowX x r (due n f x r) f)) (h := hy)) a0)) rfl ⟨hr, hGB, hB⟩) g12.on fun y Hk13 H13 g13 hy => q y _ H13 (G12.step g13.ex) hy)
    · exact s_one (s_ret (call FB (true, n, r, rowX x r (due n f x r) f) (ac (nm 2 (h := hw)) (ac (nm 6 (R := rM true) (a := mat n (rowX x r (due n f x r) f)) (h := hrep)) a0)) rfl ⟨hr, hGB, hB⟩) g11.ex fun y Hk13 H13 g13 hy => q y _ H13 (G9.step (g11.ex.trans g13.ex)) hy)
end K
/-! M9: fractions in lowest terms. -/
namespace K
open M
theorem fr_facts {u v : Int} (hu : 0 ≤ u) (hv : 1 ≤ v) : 1 ≤ frV u v ∧ 0 ≤ frU u v ∧ frU u v * v = frV u v * u ∧ frU u v ≤ u ∧ frV u v ≤ v ∧ Nat.gcd (frU u v).natAbs (frV u v).natAbs = 1 := by
  obtain ⟨a, rfl⟩ : ∃ a : Nat, u = (a : Int) := ⟨u.toNat, by omega⟩
  obtain ⟨b, rfl⟩ : ∃ b : Nat, v = (b : Int) := ⟨v.toNat, by omega⟩
  have hb : 0 < b := by omega
  have hg : 0 < Nat.gcd a b := Nat.gcd_pos_of_pos_right _ hb
  obtain ⟨a', ha⟩ := Nat.gcd_dvd_left a b
  obtain ⟨b', hb'⟩ := Nat.gcd_dvd_right a b
  have e1 : frU (a : Int) b = (a' : Int) := by
    unfold frU
    rw [Int.natAbs_natCast, Int.natAbs_natCast, ← Int.natCast_ediv]
    congr 1
    conv => lhs; lhs; rw [ha]
    exact Nat.mul_div_cancel_left _ hg
  have e2 : frV (a : Int) b = (b' : Int) := by
    unfold frV
    rw [Int.natAbs_natCast, Int.natAbs_natCast, ← Int.natCast_ediv]
    congr 1
    conv => lhs; lhs; rw [hb']
    exact Nat.mul_div_cancel_left _ hg
  rw [e1, e2, Int.natAbs_natCast, Int.natAbs_natCast]
  have hb1 : 1 ≤ b' := by
    rcases Nat.eq_zero_or_pos b' with z | z
    · subst z; rw [Nat.mul_zero] at hb'; omega
    · exact z
  refine ⟨by omega, by omega, ?_, ?_, ?_, ?_⟩
  · have : a' * b = b' * a := by
      conv => lhs; rw [hb']
      conv => rhs; rw [ha]
      generalize Nat.gcd a b = q
      rw [← Nat.mul_assoc, ← Nat.mul_assoc, Nat.mul_comm a' q, Nat.mul_comm b' q, Nat.mul_assoc, Nat.mul_assoc, Nat.mul_comm a' b']
    exact_mod_cast this
  · have : a' ≤ a := by conv => rhs; rw [ha]
                        exact Nat.le_mul_of_pos_left _ hg
    omega
  · have : b' ≤ b := by conv => rhs; rw [hb']
                        exact Nat.le_mul_of_pos_left _ hg
    omega
  · have h := Nat.gcd_mul_left (Nat.gcd a b) a' b'
    rw [← ha, ← hb'] at h
    have : Nat.gcd a b * 1 = Nat.gcd a b * Nat.gcd a' b' := by omega
    exact (Nat.eq_of_mul_eq_mul_left hg this).symm
/-- Fibonacci's numbers -/
def fb : Nat → Nat
  | 0 => 0
  | 1 => 1
  | k + 2 => fb (k + 1) + fb k
theorem eu_zero : ∀ (k : Nat) (a : Int), eu k a 0 = a
  | 0, _ => rfl
  | k + 1, a => by unfold eu; rw [if_neg (by decide)]; exact eu_zero k a
theorem gcd_step (a b : Int) (ha : 0 ≤ a) (hb : 0 < b) : Nat.gcd b.natAbs (a % b).natAbs = Nat.gcd a.natAbs b.natAbs := by
  have e : (a % b).natAbs = a.natAbs % b.natAbs := by
    have h1 := Int.emod_nonneg a (by omega : b ≠ 0)
    obtain ⟨x, rfl⟩ : ∃ x : Nat, a = (x : Int) := ⟨a.toNat, by omega⟩
    obtain ⟨y, rfl⟩ : ∃ y : Nat, b = (y : Int) := ⟨b.toNat, by omega⟩
    rw [← Int.natCast_emod]; simp only [Int.natAbs_natCast]
  rw [e, Nat.gcd_comm a.natAbs b.natAbs, Nat.gcd_rec b.natAbs a.natAbs, Nat.gcd_comm]
theorem eu_gcd_aux : ∀ k : Nat, (∀ a b : Int, 0 ≤ b → b < a → b < (fb (k + 2) : Int) → eu k a b = (Nat.gcd a.natAbs b.natAbs : Nat)) ∧ (∀ a b : Int, 0 ≤ b → b < a → b < (fb (k + 3) : Int) → eu (k + 1) a b = (Nat.gcd a.natAbs b.natAbs : Nat)) := by
  have z0 : ∀ (k : Nat) (a : Int), 0 < a → eu k a 0 = (Nat.gcd a.natAbs (0 : Int).natAbs : Nat) := fun k a ha => by
    rw [eu_zero]; simp; omega
  intro k
  induction k with
  | zero =>
    refine ⟨fun a b h0 h1 h2 => ?_, fun a b h0 h1 h2 => ?_⟩
    · rw [show fb (0 + 2) = 1 from rfl] at h2
      have : b = 0 := by omega
      subst this; exact z0 0 a (by omega)
    · rw [show fb (0 + 3) = 2 from rfl] at h2
      by_cases hb : b = 0
      · subst hb; exact z0 1 a (by omega)
      · have : b = 1 := by omega
        subst this
        unfold eu
        rw [if_pos (by decide), Int.emod_one, eu_zero]
        simp
  | succ k ih =>
    refine ⟨ih.2, fun a b h0 h1 h2 => ?_⟩
    by_cases hb : b = 0
    · subst hb; exact z0 _ a (by omega)
    have hb0 : 0 < b := by omega
    have m0 := Int.emod_nonneg a (by omega : b ≠ 0)
    have m1 := Int.emod_lt_of_pos a hb0
    rw [show eu (k + 1 + 1) a b = eu (k + 1) b (a % b) by rw [eu, if_pos hb0]]
    rw [← gcd_step a b (by omega) hb0]
    by_cases h3 : a % b < (fb (k + 3) : Int)
    · exact ih.2 b (a % b) m0 m1 h3
    · have hf : fb (k + 1 + 3) = fb (k + 3) + fb (k + 2) := rfl
      have hp : ∀ j, 1 ≤ fb (j + 1) := fun j => by
        induction j with
        | zero => decide
        | succ j ih => show 1 ≤ fb (j + 1) + fb j; omega
      have hm : 0 < a % b := by have : 1 ≤ fb (k + 3) := hp (k + 2); omega
      have n0 := Int.emod_nonneg b (by omega : a % b ≠ 0)
      have n1 := Int.emod_lt_of_pos b hm
      rw [show eu (k + 1) b (a % b) = eu k (a % b) (b % (a % b)) by rw [eu, if_pos hm]]
      rw [← gcd_step b (a % b) (by omega) hm]
      refine ih.1 (a % b) (b % (a % b)) n0 n1 ?_
      have e1 : b % (a % b) = (b - a % b) % (a % b) := by rw [Int.sub_emod_right]
      have e2 : (b - a % b) % (a % b) ≤ b - a % b := by
        have q1 := Int.mul_ediv_add_emod (b - a % b) (a % b)
        have q2 : 0 ≤ a % b * ((b - a % b) / (a % b)) := Int.mul_nonneg m0 (Int.ediv_nonneg (by omega) m0)
        omega
      rw [show fb (k + 1 + 3) = fb (k + 3) + fb (k + 2) from rfl] at h2
      omega
theorem eu_gcd {k : Nat} {a b : Int} (ha : 0 ≤ a) (hb : 0 ≤ b) (h : b ≤ (fb (k + 2) : Int)) (hk : 1 ≤ k) : eu (k + 1) a b = (Nat.gcd a.natAbs b.natAbs : Nat) := by
  by_cases z : b = 0
  · subst z; rw [eu_zero]; simp; omega
  · have hb0 : 0 < b := by omega
    have m0 := Int.emod_nonneg a (by omega : b ≠ 0)
    have m1 := Int.emod_lt_of_pos a hb0
    rw [show eu (k + 1) a b = eu k b (a % b) by rw [eu, if_pos hb0], ← gcd_step a b ha hb0]
    exact (eu_gcd_aux k).1 b (a % b) m0 m1 (by omega)
end K
/-! MA: the rates that state x must have keep the row in balance. -/
namespace K
open M
theorem sm_split {n x : Nat} {g : Nat → Int} (hx : x < n) : sm n g = g x + sm n (fun y => if y = x then 0 else g y) := by
  rw [← sm_at (v := g x) hx, ← sm_add]
  apply sm_congr
  intro i _
  by_cases z : i = x
  · subst z; simp
  · simp [z]
theorem sm_off {n x : Nat} {g h : Nat → Int} (e : ∀ y, y < n → y ≠ x → g y = h y) : sm n (fun y => if y = x then 0 else g y) = sm n (fun y => if y = x then 0 else h y) := by
  apply sm_congr
  intro i hi
  by_cases z : i = x
  · simp [z]
  · simp [z, e i hi z]
theorem sm_offmul {n x : Nat} {k : Int} {g : Nat → Int} : sm n (fun y => if y = x then 0 else k * g y) = k * sm n (fun y => if y = x then 0 else g y) := by
  rw [← sm_mul]
  apply sm_congr
  intro i _
  by_cases z : i = x <;> simp [z]
theorem due_sum {n : Nat} {f : Mat} {x : Nat} {r : Nat → Int} (hx : x < n) : sm n (due n f x r) = sm n (fun y => if y = x then 0 else r y * f y x) := by
  have h1 : sm n (due n f x r) = sm n (fun b => if b = x then 0 else sm n fun y => r b * f b y) - sm n (fun b => if b = x then 0 else sm n fun y => if y = x then 0 else r y * f y b) := by
    rw [← sm_sub]
    apply sm_congr
    intro b _
    unfold due
    by_cases z : b = x
    · simp [z]
    · simp only [z, if_false, sm_mul]
  have h2 : sm n (fun b => if b = x then 0 else sm n fun y => if y = x then 0 else r y * f y b) = sm n (fun y => if y = x then 0 else sm n fun b => if b = x then 0 else r y * f y b) := by
    have a1 : ∀ (F : Nat → Nat → Int), sm n (fun b => if b = x then 0 else sm n fun y => if y = x then 0 else F y b) = sm n fun b => sm n fun y => if b = x then 0 else if y = x then 0 else F y b := fun F => by
      apply sm_congr
      intro b _
      by_cases z : b = x
      · simp only [z, if_true]; rw [sm_zero]
      · simp only [z, if_false]
    rw [a1 fun y b => r y * f y b, a1 fun b y => r y * f y b, sm_swap]
    apply sm_congr
    intro y _
    apply sm_congr
    intro b _
    by_cases z : b = x <;> by_cases w : y = x <;> simp [z, w]
  rw [h1, h2, ← sm_sub]
  apply sm_congr
  intro b _
  by_cases z : b = x
  · simp [z]
  · simp only [z, if_false]
    rw [sm_split (g := fun y => r b * f b y) hx]
    omega
theorem bal_rowX {n : Nat} {f : Mat} {x : Nat} {r : Nat → Int} (hx : x < n) : Bal n r (rowX x r (due n f x r) f) := by
  intro b hb
  have dx0 : due n f x r x = 0 := by simp [due]
  by_cases z : b = x
  · subst z
    have e1 : sm n (fun y => r b * rowX b r (due n f b r) f b y) = r b * sm n (due n f b r) := by
      rw [← sm_mul]; apply sm_congr; intro y _; simp [rowX]
    have e2 : sm n (fun y => r y * rowX b r (due n f b r) f y b) = r b * sm n (fun y => if y = b then 0 else r y * f y b) := by
      rw [sm_split (g := fun y => r y * rowX b r (due n f b r) f y b) hb]
      have e3 : r b * rowX b r (due n f b r) f b b = 0 := by simp [rowX, dx0]
      rw [e3, Int.zero_add, ← sm_offmul]
      apply sm_off
      intro y _ hy
      simp only [rowX, hy, if_false]
      rw [Int.mul_left_comm]
    rw [e1, e2, due_sum hb]
  · have e1 : sm n (fun y => r b * rowX x r (due n f x r) f b y) = r x * (r b * sm n (f b)) := by
      rw [← Int.mul_assoc, ← sm_mul]; apply sm_congr; intro y _; simp only [rowX, z, if_false]
      rw [← Int.mul_assoc, Int.mul_comm (r b) (r x)]
    have e2 : sm n (fun y => r y * rowX x r (due n f x r) f y b) = r x * due n f x r b + r x * sm n (fun y => if y = x then 0 else r y * f y b) := by
      rw [sm_split (g := fun y => r y * rowX x r (due n f x r) f y b) hx]
      have e3 : r x * rowX x r (due n f x r) f x b = r x * due n f x r b := by simp [rowX]
      rw [e3, ← sm_offmul]
      congr 1
      apply sm_off
      intro y _ hy
      simp only [rowX, hy, if_false]
      rw [Int.mul_left_comm]
    rw [e1, e2, ← Int.mul_add]
    congr 1
    simp only [due, z, if_false]
    omega
end K
/-! MB: a balanced table is joined from both sides. -/
namespace K
open M
/-- what goes out of a lot goes in -/
theorem lot_bal {n : Nat} {r : Nat → Int} {R : Mat} (h : Bal n r R) (A : Nat → Bool) :
    sm n (fun a => sm n fun b => if A a && !A b then r a * R a b else 0) = sm n (fun a => sm n fun b => if !A a && A b then r a * R a b else 0) := by
  have h1 : sm n (fun a => if A a then (sm n fun b => r a * R a b) - (sm n fun b => r b * R b a) else 0) = 0 := by
    apply sm_none
    intro a ha
    split
    · rw [h a ha]; omega
    · rfl
  have h2 : sm n (fun a => if A a then (sm n fun b => r a * R a b) - (sm n fun b => r b * R b a) else 0) = sm n (fun a => sm n fun b => if A a then r a * R a b else 0) - sm n (fun a => sm n fun b => if A b then r a * R a b else 0) := by
    rw [sm_swap (f := fun a b => if A b then r a * R a b else 0), ← sm_sub]
    apply sm_congr
    intro a _
    by_cases z : A a = true
    · simp [z]
    · simp [z, sm_zero]
  have h3 : sm n (fun a => sm n fun b => if A a && !A b then r a * R a b else 0) - sm n (fun a => sm n fun b => if !A a && A b then r a * R a b else 0) = sm n (fun a => sm n fun b => if A a then r a * R a b else 0) - sm n (fun a => sm n fun b => if A b then r a * R a b else 0) := by
    rw [← sm_sub, ← sm_sub]
    apply sm_congr
    intro a _
    rw [← sm_sub, ← sm_sub]
    apply sm_congr
    intro b _
    cases A a <;> cases A b <;> simp
  omega
theorem joined_rowX {n : Nat} {f : Mat} {x : Nat} {r d : Nat → Int} (hx : x < n) (hr : ∀ y, y < n → 1 ≤ r y) (hf : ∀ a b, a < n → b < n → 0 ≤ f a b) (hd : ∀ b, b < n → 0 ≤ d b) (hJ : Joined n f) (hB : Bal n r (rowX x r d f)) : Joined n (rowX x r d f) := by
  intro S hS a ha sa y hy
  have nn : ∀ a b, a < n → b < n → 0 ≤ rowX x r d f a b := fun a b ha hb => by
    unfold rowX; split
    · exact hd b hb
    · exact Int.mul_nonneg (by have := hr x hx; omega) (hf a b ha hb)
  have pos : ∀ u v, u < n → v < n → u ≠ x → 0 < f u v → 0 < rowX x r d f u v := fun u v _ _ h1 h2 => by
    unfold rowX; rw [if_neg h1]; exact Int.mul_pos (by have := hr x hx; omega) h2
  by_cases sx : S x
  · refine Classical.byContradiction fun ny => ?_
    refine absurd sx (hJ (fun v => ¬ S v) (fun u v hu hv nu hp sv => ?_) y hy ny x hx)
    have hux : u ≠ x := fun z => nu (z ▸ sx)
    have hR := pos u v hu hv hux hp
    have hb := lot_bal hB (fun z => @decide (S z) (Classical.propDecidable _))
    have h0 : sm n (fun a => sm n fun b => if (@decide (S a) (Classical.propDecidable _)) && !(@decide (S b) (Classical.propDecidable _)) then r a * rowX x r d f a b else 0) = 0 := by
      apply sm_none
      intro a ha
      apply sm_none
      intro b hb
      split
      · rename_i hc
        simp at hc
        have : ¬ 0 < rowX x r d f a b := fun h => hc.2 (hS a b ha hb hc.1 h)
        have h2 := nn a b ha hb
        have h3 : rowX x r d f a b = 0 := by omega
        rw [h3, Int.mul_zero]
      · rfl
    rw [h0] at hb
    have i1 : ∀ a b, a < n → b < n → 0 ≤ (if !(@decide (S a) (Classical.propDecidable _)) && (@decide (S b) (Classical.propDecidable _)) then r a * rowX x r d f a b else 0) := fun a b ha hb => by
      split
      · exact Int.mul_nonneg (by have := hr a ha; omega) (nn a b ha hb)
      · exact Int.le_refl _
    have hlt : sm n (fun _ => (0 : Int)) < sm n (fun a => sm n fun b => if !(@decide (S a) (Classical.propDecidable _)) && (@decide (S b) (Classical.propDecidable _)) then r a * rowX x r d f a b else 0) := by
      refine sm_lt (z := u) (fun a ha => ?_) hu ?_
      · exact Int.le_trans (Int.le_of_eq (sm_zero (n := n)).symm) (sm_mono fun b hb => i1 a b ha hb)
      · show (0 : Int) < sm n _
        refine Int.lt_of_le_of_lt (Int.le_of_eq (sm_zero (n := n)).symm) (sm_lt (z := v) (fun b hb => i1 u b hu hb) hv ?_)
        simp only [nu, sv, decide_false, decide_true, Bool.not_false, Bool.and_self, if_true]
        exact Int.mul_pos (by have := hr u hu; omega) hR
    rw [sm_zero] at hlt
    omega
  · refine hJ S (fun u v hu hv su hp => ?_) a ha sa y hy
    exact hS u v hu hv su (pos u v hu hv (fun z => sx (z ▸ su)) hp)
end K
/-! MC: what rates_right asks. -/
namespace K
open M
theorem due_le {n : Nat} {f : Mat} {x b : Nat} {r : Nat → Int} (hr : RowOk n r) (hb : b < n) (nn : ∀ a b, a < n → b < n → 0 ≤ f a b) (le : ∀ a b, a < n → b < n → f a b ≤ 10 ^ 12) : due n f x r b ≤ 10 ^ 30 := by
  have hn := hr.n8
  have s1 := sm_le (n := n) (g := f b) (B := 10 ^ 12) fun i hi => ⟨nn b i hb hi, le b i hb hi⟩
  have s2 : sm n (f b) ≤ 8 * 10 ^ 12 := by
    refine Int.le_trans s1.2 ?_
    have : (n : Int) ≤ 8 := by omega
    omega
  have s3 : r b * sm n (f b) ≤ 1000000 * (8 * 10 ^ 12) := Int.mul_le_mul (hr.hi b hb) s2 s1.1 (by decide)
  have s4 : 0 ≤ sm n fun y => if y = x then 0 else r y * f y b := by
    refine Int.le_trans (Int.le_of_eq (sm_zero (n := n)).symm) (sm_mono fun y hy => ?_)
    split
    · exact Int.le_refl _
    · exact Int.mul_nonneg (by have := hr.lo y hy; omega) (nn y b hy hb)
  unfold due
  split
  · decide +kernel
  · have : (1000000 : Int) * (8 * 10 ^ 12) ≤ 10 ^ 30 := by decide +kernel
    omega
theorem ratesPre_of {n : Nat} {f : Mat} {x : Nat} {r : Nat → Int} (hx : x < n) (hr : RowOk n r) (tb : TabOk n f) (le : ∀ a b, a < n → b < n → f a b ≤ 10 ^ 12) (hJ : Joined n f) : RatesPre n f x r :=
  ⟨hx, hr, tb, le, fun hd => ⟨joined_rowX hx hr.lo tb.nn hd hJ (bal_rowX hx), bal_rowX hx, fun b hb => by
    have hrx := hr.lo x hx
    have hrh := hr.hi x hx
    obtain ⟨l1, l2, l3, l4, l5, l6⟩ := fr_facts (hd b hb) hrx
    have hdl := due_le (x := x) hr hb tb.nn le
    refine ⟨?_, l1, l2, l3, Int.le_trans l4 hdl, Int.le_trans l5 (Int.le_trans hrh (by decide +kernel)), hdl⟩
    rw [eu_gcd (k := 399) l2 (by omega) (Int.le_trans (Int.le_trans l5 hrh) (by decide +kernel)) (by decide), l6]
    rfl⟩⟩
end K
/-! MD: with all other pairs seen a row is reached exactly if the due rates lie in the stretches. -/
namespace K
open M
def spot (x : Nat) (l : Nat → Int) (f : Mat) : Mat := fun a b => if a = x then l b else f a b
/-- the flows out of x that must be -/
def dueF (n : Nat) (f : Mat) (x : Nat) (r : Nat → Int) : Mat := fun a b => if a = x then due n f x r b else r a * f a b
theorem circ_due {n : Nat} {f F : Mat} {x : Nat} {r l t : Nat → Int} (hx : x < n) (lx : l x = 0) (tx : t x = 0) (c : Circ n (scl r (spot x l f)) (scl r (spot x t f)) F) : ∀ a b, a < n → b < n → F a b = dueF n f x r a b := by
  have off : ∀ a b, a < n → b < n → a ≠ x → F a b = r a * f a b := fun a b ha hb h => by
    have := c.bd a b ha hb
    simp only [scl, spot, h, if_false] at this
    omega
  have xx : F x x = 0 := by
    have := c.bd x x hx hx
    simp only [scl, spot, if_true, lx, tx, Int.mul_zero] at this
    omega
  intro a b ha hb
  unfold dueF
  by_cases z : a = x
  · subst z
    rw [if_pos rfl]
    by_cases w : b = a
    · subst w; rw [xx]; simp [due]
    · have h := c.bal b hb
      unfold exc at h
      rw [sm_split (g := fun y => F y b) ha] at h
      have e1 : sm n (fun y => if y = a then 0 else F y b) = sm n (fun y => if y = a then 0 else r y * f y b) := sm_off fun y hy hne => off y b hy hb hne
      have e2 : sm n (fun y => F b y) = r b * sm n (f b) := by
        rw [← sm_mul]; exact sm_congr fun y hy => off b y hb hy w
      simp only [due, w, if_false]
      omega
  · rw [if_neg z]; exact off a b ha hb z
theorem dueF_bal {n : Nat} {f : Mat} {x : Nat} {r : Nat → Int} (hx : x < n) : ∀ z, z < n → exc n (dueF n f x r) z = 0 := by
  intro z hz
  unfold exc
  rw [sm_split (g := fun y => dueF n f x r y z) hx]
  have e1 : sm n (fun y => if y = x then 0 else dueF n f x r y z) = sm n (fun y => if y = x then 0 else r y * f y z) := sm_off fun y hy hne => by unfold dueF; rw [if_neg hne]
  have e0 : dueF n f x r x z = due n f x r z := by unfold dueF; rw [if_pos rfl]
  rw [e1, e0]
  by_cases w : z = x
  · subst w
    have e2 : sm n (fun y => dueF n f z r z y) = sm n (due n f z r) := sm_congr fun y hy => by unfold dueF; rw [if_pos rfl]
    rw [e2, due_sum hx]
    simp [due]
  · have e2 : sm n (fun y => dueF n f x r z y) = r z * sm n (f z) := by
      rw [← sm_mul]; exact sm_congr fun y hy => by unfold dueF; rw [if_neg w]
    rw [e2]
    simp only [due, w, if_false]
    omega
theorem circ_iff {n : Nat} {f : Mat} {x : Nat} {r l t : Nat → Int} (hx : x < n) (lx : l x = 0) (tx : t x = 0) : (∃ F, Circ n (scl r (spot x l f)) (scl r (spot x t f)) F) ↔ ∀ b, b < n → r x * l b ≤ due n f x r b ∧ due n f x r b ≤ r x * t b := by
  constructor
  · intro ⟨F, c⟩ b hb
    have h := c.bd x b hx hb
    rw [circ_due hx lx tx c x b hx hb] at h
    simpa only [scl, spot, dueF, if_true] using h
  · intro h
    refine ⟨dueF n f x r, fun a b ha hb => ?_, dueF_bal hx⟩
    by_cases z : a = x
    · subst z
      simpa only [scl, spot, dueF, if_true] using h b hb
    · simp only [scl, spot, dueF, z, if_false]
      exact ⟨Int.le_refl _, Int.le_refl _⟩
end K
/-! ME: the scaled world of a circulation. -/
namespace K
open M
theorem lcm_quot {n : Nat} {r : Nat → Int} (hr : ∀ x, x < n → 1 ≤ r x) {x : Nat} (hx : x < n) : ∃ q : Int, 1 ≤ q ∧ (lcmR r n : Int) = r x * q ∧ ∀ F : Mat, ∀ y, ratesOf n r F x y = F x y * q := by
  obtain ⟨q, hq⟩ := lcmR_dvd (r := r) hx
  have hp := lcmR_pos hr
  have hrx := hr x hx
  have e1 : ((r x).natAbs : Int) = r x := by omega
  have e2 : (lcmR r n : Int) = r x * (q : Int) := by rw [hq, Int.natCast_mul, e1]
  have hq1 : 1 ≤ q := by
    rcases Nat.eq_zero_or_pos q with z | z
    · subst z; rw [Nat.mul_zero] at hq; omega
    · exact z
  refine ⟨q, by omega, e2, fun F y => ?_⟩
  unfold ratesOf
  rw [e2, Int.mul_comm (r x) (q : Int), ← Int.mul_assoc, Int.mul_ediv_cancel _ (by omega)]
theorem rates_mul {n : Nat} {r : Nat → Int} (hr : ∀ x, x < n → 1 ≤ r x) {x : Nat} (hx : x < n) (F : Mat) (y : Nat) : r x * ratesOf n r F x y = (lcmR r n : Int) * F x y := by
  obtain ⟨q, _, e2, e3⟩ := lcm_quot hr hx
  rw [e3, e2, Int.mul_comm (F x y) q, Int.mul_assoc]
theorem rates_pos {n : Nat} {r : Nat → Int} (hr : ∀ x, x < n → 1 ≤ r x) {x : Nat} (hx : x < n) {F : Mat} {y : Nat} (h : 0 < F x y) : 0 < ratesOf n r F x y := by
  obtain ⟨q, h1, e2, e3⟩ := lcm_quot hr hx
  rw [e3]; exact Int.mul_pos h (by omega)
theorem rates_nn {n : Nat} {r : Nat → Int} (hr : ∀ x, x < n → 1 ≤ r x) {x : Nat} (hx : x < n) {F : Mat} {y : Nat} (h : 0 ≤ F x y) : 0 ≤ ratesOf n r F x y := by
  obtain ⟨q, h1, e2, e3⟩ := lcm_quot hr hx
  rw [e3]; exact Int.mul_nonneg h (by omega)
theorem joined_mono {n : Nat} {f g : Mat} (h : ∀ a b, a < n → b < n → 0 < f a b → 0 < g a b) (hJ : Joined n f) : Joined n g := fun S hS a ha sa y hy => hJ S (fun u v hu hv su hp => hS u v hu hv su (h u v hu hv hp)) a ha sa y hy
theorem rates_bal {n : Nat} {r : Nat → Int} (hr : ∀ x, x < n → 1 ≤ r x) {F : Mat} (h : ∀ z, z < n → exc n F z = 0) : Bal n r (ratesOf n r F) := by
  intro x hx
  have e1 : sm n (fun y => r x * ratesOf n r F x y) = (lcmR r n : Int) * sm n (fun y => F x y) := by
    rw [← sm_mul]; exact sm_congr fun y _ => rates_mul hr hx F y
  have e2 : sm n (fun y => r y * ratesOf n r F y x) = (lcmR r n : Int) * sm n (fun y => F y x) := by
    rw [← sm_mul]; exact sm_congr fun y hy => rates_mul hr hy F x
  have := h x hx
  unfold exc at this
  rw [e1, e2, show sm n (fun y => F x y) = sm n (fun y => F y x) by omega]
theorem joined_rates {n : Nat} {f : Mat} {x : Nat} {r : Nat → Int} (hx : x < n) (hr : ∀ y, y < n → 1 ≤ r y) (nn : ∀ a b, a < n → b < n → 0 ≤ f a b) (hd : ∀ b, b < n → 0 ≤ due n f x r b) (hJ : Joined n f) : Joined n (ratesOf n r (dueF n f x r)) := by
  refine joined_mono (fun a b ha hb h => rates_pos hr ha ?_) (joined_rowX hx hr nn hd hJ (bal_rowX hx))
  unfold rowX at h
  unfold dueF
  by_cases z : a = x
  · subst z; simpa using h
  · simp only [z, if_false] at h ⊢
    have h1 : 0 < f a b := by
      rcases Int.lt_or_le 0 (f a b) with q | q
      · exact q
      · have := nn a b ha hb
        have e : f a b = 0 := by omega
        rw [e, Int.mul_zero] at h; omega
    exact Int.mul_pos (by have := hr a ha; omega) h1
theorem hasOk_of {n : Nat} {lo hi F : Mat} {r : Nat → Int} (hr : RowOk n r) (h5 : n ≤ 5) (c : Circ n (scl r lo) (scl r hi) F) (l0 : ∀ a b, a < n → b < n → 0 ≤ lo a b ∧ lo a b ≤ hi a b ∧ hi a b ≤ 10 ^ 24) (dg : ∀ a, a < n → hi a a = 0) : HasOk n lo hi r (lcmR r n : Int) (ratesOf n r F) := by
  have hp := lcmR_pos hr.lo
  have hL : (lcmR r n : Int) ≤ 10 ^ 30 := by
    have h1 := lcmR_le (r := r) (n := n) fun x hx => ⟨hr.lo x hx, hr.hi x hx⟩
    have h2 : (1000000 : Nat) ^ n ≤ 1000000 ^ 5 := Nat.pow_le_pow_right (by decide) h5
    have h3 : (1000000 : Nat) ^ 5 = 10 ^ 30 := by decide +kernel
    have h4 : lcmR r n ≤ 10 ^ 30 := by omega
    exact_mod_cast h4
  have hF : ∀ a b, a < n → b < n → 0 ≤ F a b ∧ F a b ≤ 10 ^ 30 := fun a b ha hb => by
    have h1 := c.bd a b ha hb
    simp only [scl] at h1
    obtain ⟨q1, q2, q3⟩ := l0 a b ha hb
    have h2 : 0 ≤ r a * lo a b := Int.mul_nonneg (by have := hr.lo a ha; omega) q1
    have h3 : r a * hi a b ≤ 1000000 * 10 ^ 24 := Int.mul_le_mul (hr.hi a ha) q3 (by omega) (by decide)
    have h4 : (1000000 : Int) * 10 ^ 24 ≤ 10 ^ 30 := by decide +kernel
    omega
  have hR : ∀ a b, a < n → b < n → 0 ≤ ratesOf n r F a b ∧ ratesOf n r F a b ≤ 10 ^ 60 := fun a b ha hb => by
    obtain ⟨q, q1, q2, q3⟩ := lcm_quot hr.lo ha
    have hra := hr.lo a ha
    have hqL : q ≤ 10 ^ 30 := by
      have : 1 * q ≤ r a * q := Int.mul_le_mul_of_nonneg_right hra (by omega)
      omega
    rw [q3]
    refine ⟨Int.mul_nonneg (hF a b ha hb).1 (by omega), ?_⟩
    have h3 : F a b * q ≤ 10 ^ 30 * 10 ^ 30 := Int.mul_le_mul (hF a b ha hb).2 hqL (by omega) (by decide)
    have h4 : (10 : Int) ^ 30 * 10 ^ 30 ≤ 10 ^ 60 := by decide +kernel
    omega
  have sc : ∀ a b, a < n → b < n → ∀ z : Int, r a * z ≤ F a b → (lcmR r n : Int) * z ≤ ratesOf n r F a b := fun a b ha hb z hz => by
    have h1 : r a * ((lcmR r n : Int) * z) ≤ r a * ratesOf n r F a b := by
      rw [rates_mul hr.lo ha, Int.mul_left_comm]
      exact Int.mul_le_mul_of_nonneg_left hz (by omega)
    exact Int.le_of_mul_le_mul_left h1 (by have := hr.lo a ha; omega)
  have sc2 : ∀ a b, a < n → b < n → ∀ z : Int, F a b ≤ r a * z → ratesOf n r F a b ≤ (lcmR r n : Int) * z := fun a b ha hb z hz => by
    have h1 : r a * ratesOf n r F a b ≤ r a * ((lcmR r n : Int) * z) := by
      rw [rates_mul hr.lo ha, Int.mul_left_comm (r a)]
      exact Int.mul_le_mul_of_nonneg_left hz (by omega)
    exact Int.le_of_mul_le_mul_left h1 (by have := hr.lo a ha; omega)
  refine ⟨by omega, Int.le_trans hL (by decide +kernel), fun x hx => ?_, ⟨fun a b ha hb => (hR a b ha hb).1, fun a b ha hb => (hR a b ha hb).2⟩, ⟨fun a b ha hb => (l0 a b ha hb).1, fun a b ha hb => ?_⟩, ⟨fun a b ha hb => ?_, fun a b ha hb => Int.le_trans (l0 a b ha hb).2.2 (by decide +kernel)⟩,
    fun a b ha hb => sc a b ha hb _ (c.bd a b ha hb).1, fun a b ha hb => sc2 a b ha hb _ (c.bd a b ha hb).2, rates_bal hr.lo c.bal⟩
  · have h1 := sc2 x x hx hx _ (c.bd x x hx hx).2
    rw [dg x hx, Int.mul_zero] at h1
    have := (hR x x hx hx).1
    omega
  · have := l0 a b ha hb
    exact Int.le_trans (Int.le_trans this.2.1 this.2.2) (by decide +kernel)
  · have := l0 a b ha hb
    omega
end K
/-! KR: the first field of an own exception two classes below Exception. -/
namespace K
open PySem.Spec PySem PyProof.Rows PySem.W PySem.Calls Builtin Builtin.ObjectAttr
variable {prog : Program} {w : World} {A : Around} {R : Result → Shared → Prop} {hp : Heap} {g : Array GenState} {d : Drawn} {t : Nat} {os : OsState}
/-- the chain of such a class -/
abbrev chain2 (C E : Addr) : List Value := .ref C :: .ref E :: ESX.exTail
theorem fld_first {K : W.Frag} {nm : Str} {tk : Tok} {u : Value} {x C E : Addr} {fv : Array Value} {cd : ClassData}
    (X : K.In hp) (at_x : hp.get? x = some { cls := .ref C, data := .fields fv }) (cdC : W.clsIn K C = some cd) (mro2 : cd.mro = chain2 C E) (dct : cd.hasDict = true) (free : W.findIn K (.ref C) nm = some none)
    (next : ∀ h' tk' dx, (∀ b o, b ≠ x → hp.get? b = some o → h'.get? b = some o) → hp.objs.size ≤ dx → dx ≠ x → h'.get? x = some { cls := .ref C, dict := some dx, data := .fields fv } → h'.Ns1 dx (fun y => if y = nm then some u else none) → R (.ok (.ret .none)) ⟨h', g, d, tk', os⟩) :
    codeAny (model prog w) A (.call (.builtin "object.__setattr__") ⟨[.ref x, .str nm tk, u], []⟩) R ⟨hp, g, d, t, os⟩ := by
  have inst₀ : W.InstAt hp x { cls := .ref C, data := .fields fv } C none := ⟨at_x, rfl, rfl, trivial⟩
  have ne0₀ : x ≠ hp.objs.size := Nat.ne_of_lt (Heap.lt_size at_x)
  have store₀ := F.store_object
  have hob₀ : W.mroIn K C (.type "object") = some true := by
    unfold W.mroIn
    rw [cdC, Option.bind_some, mro2, if_neg (show ¬ (List.isEmpty (chain2 C E) = true) from Bool.false_ne_true)]
    congr 1
  have below₀ : W.Looks (model prog w) hp (isInstance (.ref x) (.type "object")) true := inst₀.type.andThen (W.looks_mroIn X hob₀)
  refine codeAny_call_builtin store₀.slot.plain store₀.entry (@W.check_slot (model prog w) _ _ ⟨hp, g, d, t, os⟩ "object.__setattr__" "object" "__setattr__" (.ref x) [.str nm tk, u] [] _ store₀.kind store₀.split below₀ (store₀.args (.ref x) (.str nm tk) u) ?_)
  have chainL₀ : W.Looks (model prog w) hp (mroOf (.ref C)) cd.mro := (W.looks_clsIn X cdC).andThen .now
  have noTaker : W.Looks (model prog w) hp (storeTaker? none) none := .now
  have passes₀ : refuseLoop (.ref x) "__setattr__" cd.mro = pure () := by
    rw [mro2, refuseLoop_ref, refuseLoop_ref]
    exact (F.store_Exception.passes _)
  rw [W.osa_eq, refuse_eq]
  refine wpAny_bind (wpAny_bind (inst₀.type.at (wpAny_bind (chainL₀.at ?_))))
  rw [passes₀]
  refine wpAny_pure (wpAny_bind (inst₀.type.at (wpAny_bind ((W.looks_findIn X free).at (wpAny_bind (noTaker.at ?_))))))
  have cls0₀ : W.Looks (model prog w) hp (classData C) cd := W.looks_clsIn X cdC
  obtain ⟨n1₀, bs₀, mro, ns₀, qn₀, hd₀, sn₀, sb₀, ab₀, col₀, del₀⟩ := cd
  dsimp only at dct
  subst dct
  unfold storeInOwnDict
  unfold ownDictForStores
  repeat (first | with_reducible refine HandSPX.store_in_new ?_ ?_ | with_reducible refine wpAny_loadPart_at at_x ?_ | with_reducible refine cls0₀.at ?_ | wp_step)
  · exact ⟨_, #[], _, (Heap.get?_update_ne _ _ _ _ ne0₀.symm).trans (Heap.get?_push_at rfl rfl), rfl, fun e₀ he₀ => absurd he₀ (by simp), fun _ => rfl⟩
  · intro h' tk' hn'₀ hs₀
    have at1₀ : (hp.push { cls := .type "dict", data := .dict #[] }).get? x = some { cls := .ref C, data := .fields fv } := Heap.get?_push_of_some _ at_x
    refine next h' tk' hp.objs.size (fun b o hb₀ ho₀ => ?_) (Nat.le_refl _) ne0₀.symm ?_ hn'₀
    · exact (hs₀.2 b (Nat.ne_of_lt (Heap.lt_size ho₀))).trans ((Heap.get?_update_ne _ _ _ _ hb₀).trans (Heap.get?_push_of_some _ ho₀))
    · exact (hs₀.2 x ne0₀).trans (Heap.get?_update_self _ at1₀ rfl)
end K
/-! KS: exception classes two below Exception. -/
namespace K
open PySem.Spec PySem PyProof.Rows L2
/-- what the written part says of the class at C, its base at B -/
structure OexE (K : PySem.W.Frag) (C B : Addr) : Prop where
  cls : ∃ nm q N bs sn sub ab col dd k0 k1 k2 k3 k5, K.lookup C = some (excClassObj nm q C N bs (.ref B :: ESX.exTail) true sn sub ab col dd k0 k1 k2 k3 k5 "Exception.__new__")
  sa : (PySem.W.findIn K (.ref C) "__setattr__") = some (some (.builtin "object.__setattr__"))
  exC : (PySem.W.subIn K (.ref C) (.type "BaseException")) = some true
  tyC : (PySem.W.typeIn K (.ref C)) = some (.type "type")
  kC : (PySem.W.keepIn K (.ref C)) = true
section
variable {X : Cx} {pins : List (Addr × Obj)} {σ : L2.St} {H : Hp} {s : Shared} {a C B dx : Addr} {f : Str} {y : V} {u : Value} {fs : List (Str × V)} {Q : Unit → Shared → Prop} {E : Value → Shared → Prop} {A : Around}
theorem oe_first (T : OexE X.K C B) (I : Inv X pins σ H s) (e : H a = some (exo a C none)) (hno : PySem.W.findIn X.K (.ref C) f = some none) (ry : RelV y u)
    (next : ∀ dx s', H dx = none → dx ≠ a → Inv X pins σ (upd (upd H dx (exd dx [(f, y)])) a (exo a C (some dx))) s' → Q () s') : wpAny (model X.prog X.w) A (setAttr (.ref a) f u) Q E s := by
  obtain ⟨nm₀, q₀, N, bs₀, sn₀, sub₀, ab₀, col₀, dd₀, k0₀, k1₀, k2₀, k3₀, k5₀, hC₀⟩ := T.cls
  have cdC₀ : PySem.W.clsIn X.K C = some { name := nm₀, bases := bs₀, mro := chain2 C B, ns := N, qualname := q₀, hasDict := true, slotNames := sn₀, subclasses := sub₀, abstract := ab₀, collection := col₀, hasDel := false } := by unfold PySem.W.clsIn; rw [hC₀] <;> rfl
  obtain ⟨t1₀, ho₀⟩ := exo_at I.hok e
  obtain ⟨hp₀, g₀, d₀, t₀, os₀⟩ := s
  refine PySem.W.set_plain I.kIn (ox := { cls := .ref C, dict := none, data := .fields #[.ref t1₀, .none, .none, .none, .bool false, .none] }) (od := none) ⟨ho₀, rfl, rfl, trivial⟩ T.sa ?_
  refine fld_first I.kIn ho₀ cdC₀ rfl rfl hno (fun h'₀ tk'₀ dx k₀ dn₀ dne₀ hx₀ hn₀ => ?_)
  have new0₀ : H dx = none := I.hok.fresh dn₀
  have off : ∀ {b₀ : Addr} {o₀ : Obj}, hp₀.get? b₀ = some o₀ → b₀ ≠ dx := fun {b₀ o₀} q₀ => Nat.ne_of_lt (Nat.lt_of_lt_of_le (Heap.lt_size q₀) dn₀)
  have other₀ : ∀ {b₀ : Addr}, H b₀ = none → b₀ ≠ a := fun {b₀} n₀ z₀ => by
    rw [z₀, e] at n₀
    cases n₀
  have U : Un X.fs [] H (upd (upd H dx (exd dx [(f, y)])) a (exo a C (some dx))) hp₀ h'₀ := {
    keep := fun b₀ o₀ q₀ n₀ _ _ => k₀ b₀ o₀ (other₀ n₀) q₀
    slot := fun b₀ o₀ q₀ n₀ _ _ => ⟨o₀.slots, k₀ b₀ o₀ (other₀ n₀) q₀⟩
    free := fun b₀ o₀ q₀ n₀ _ => by rw [upd_ne (other₀ n₀), upd_ne (off q₀)]; exact n₀
    there := fun b₀ o₀ q₀ _ => by
      by_cases hb : b₀ = a
      · subst hb; exact ⟨_, hx₀⟩
      · exact ⟨o₀, k₀ b₀ o₀ hb q₀⟩
    tups := fun b₀ xs₀ q₀ => by rw [upd_ne (at_ne e q₀ exo_tup), upd_ne (ne_of_none q₀ new0₀)]; exact q₀
    frzs := fun b₀ o₀ v₀ q₀ => by rw [upd_ne (at_ne e q₀ exo_frz), upd_ne (ne_of_none q₀ new0₀)]; exact q₀
    tbls := fun b₀ ps₀ q₀ => ⟨#[], by rw [upd_ne (at_ne e q₀ exo_tbl), upd_ne (ne_of_none q₀ new0₀), q₀]; simp⟩ }
  refine next dx _ new0₀ dne₀ (I.un (t' := tk'₀) U fun b₀ o₀ q₀ => ?_)
  by_cases hb : b₀ = a
  · subst hb; rw [upd_same] at q₀; cases q₀; exact exo_ok hx₀
  · rw [upd_ne hb] at q₀
    by_cases hd : b₀ = dx
    · subst hd; rw [upd_same] at q₀; cases q₀
      exact exd_ok hn₀ (relO_put (fs := []) ry fun g₀ => True.intro)
    · rw [upd_ne hd] at q₀
      exact (I.hok b₀ o₀ q₀).stay (fun c₀ v₀ hc₀ z₀ => k₀ c₀ v₀ (hc₀.elim (fun hc₀ => by rw [hc₀]; exact hb) fun hc₀ => at_ne e hc₀ exo_own) z₀)
        (fun c₀ hc₀ => by rw [upd_ne (at_ne e hc₀ exo_own), upd_ne (ne_of_none hc₀ new0₀)]; exact hc₀) (fun c₀ xs₀ hc₀ => by rw [upd_ne (at_ne e hc₀ exo_tup), upd_ne (ne_of_none hc₀ new0₀)]; exact hc₀)
end
end K
/-! KT: an exception's __init__ that says super().__init__(text) and self.place = place. -/
namespace K
open PySem.Spec PySem PyProof.Rows L2 NdefX Z
/-- what the written part tells of such an __init__ -/
structure ExD (P : Program) (K : PySem.W.Frag) (qual : Str) (params : Arguments) (body : List Stmt) (scope : Scope) (f cda cc C B : Addr) (fd : FuncData) : Prop where
  oe : OexE K C B
  fn : ∃ oc od osl dV kV doc pm an ct, K.lookup f = some ⟨oc, od, .func fd, osl⟩ ∧ fd = PySem.W.fnX "__init__" qual params body scope [("__class__", cc)] dV kV doc pm an (.ref cda) ct
  cd : PySem.W.codeIn K (.ref cda) qual = true
  code : ∃ c d vs sl file tf, K.lookup cda = some ⟨c, d, .fields vs, sl⟩ ∧ vs[2]? = some (.str file tf) ∧ ((P.main.file : Str) == file) = true
  cell : ∃ c d sl, K.lookup cc = some ⟨c, d, .cell (some (.ref C)), sl⟩
  sub : PySem.W.mroIn K C (.ref C) = some true
  exc : PySem.W.mroIn K C (.type "Exception") = some true
  ho : PySem.W.nsIn K cStatics "thirdparty.any" = some none
  up : PySem.W.alongIn K "__init__" (.ref B :: ESX.exTail) = some (some (.builtin "Exception.__init__"))
  top : (P.main.scope.names.lookup ("super" : Str)).isSome = false
  boot : bootBuiltins ("super" : Str) = some (.type "super")
  free : PySem.W.findIn K (.ref C) "place" = some none
def spExI (C : Addr) : Sp := fun vs H1 Q _ => ∃ (x : Addr) (y : V), vs = [.ref x, y] ∧ H1 x = some (exo x C none) ∧ ∀ dx, H1 dx = none → dx ≠ x → Q .non (upd (upd H1 dx (exd dx [("place", y)])) x (exo x C (some dx)))
end K
/-! KT2: that such an __init__ keeps spExI. -/
namespace K
open PySem.Spec PySem PyProof.Rows L2 NdefX Z
/-- self.f = e on an exception that has no field as yet -/
def tOstE (K : PySem.W.Frag) (f : Str) (to te : TE) : TS := fun D σ H => te σ H fun y H1 => to σ H1 fun x H2 => ∃ a C B : Addr, x = .ref a ∧ OexE K C B ∧ PySem.W.findIn K (.ref C) f = some none ∧
  H2 a = some (exo a C none) ∧ ∀ dx, H2 dx = none → dx ≠ a → D.nx σ (upd (upd H2 dx (exd dx [(f, y)])) a (exo a C (some dx)))
theorem ps_ostE {X : Cx} {o e : Expr} {to te : TE} {f : Str} {p' pos : Pos} (ho : PE X o to) (he : PE X e te) (hs : swapsWith e (some (.Attribute o f p')) pos.line X.env = pure false := by rfl) : PS X (.Assign [.Attribute o f p'] e pos) (tOstE X.K f to te) := by
  refine ⟨fun pins₀ s₀ σ₀ H D I h₀ => ?_⟩
  refine plainObj_wpAny_Assign_Attribute (thn (he.run pins₀ s₀ σ₀ H _ I h₀) fun v₀ s1₀ ⟨y₀, H1, I1₀, r1₀, q1₀⟩ => thn (ho.run pins₀ s1₀ σ₀ H1 _ I1₀ q1₀) fun u₀ s2₀ ⟨x₀, H2, I2₀, r2₀, a₀, C, B, ex, T, hno₀, ea₀, q₀⟩ => ?_) hs
  subst ex
  obtain rfl : u₀ = Value.ref a₀ := r2₀
  exact oe_first T I2₀ ea₀ hno₀ r1₀ fun dx₀ s'₀ n₀ ne₀ J => ⟨σ₀, _, J, q₀ dx₀ n₀ ne₀⟩
section
variable {P : Program} {w : World} {KW : PySem.W.Frag} {mg : Str → Option Value} {base : Heap} {qual : Str} {params : Arguments} {rest : List Stmt} {scope : Scope} {f cda cc C B : Addr} {fd : FuncData} {CX : CXT} {N : List Str} {k : Nat} {e : Expr} {es : List Expr} {p0 p1 p2 p3 p4 : Pos} {pl : Env → Sem Bool}
theorem exI_len : ∀ vs H Q E, spExI C vs H Q E → vs.length = (["self", "place"] : List Str).length := fun vs H Q E ⟨x, y, h, _⟩ => by rw [h]; rfl
theorem exI_fn (S0 : ExD P KW qual params (.Expr (.Call (.Attribute (.Call (.Name "super" p0) [] [] p1) "__init__" p2) (e :: es) [] p3) p4 :: rest) scope f cda cc C B fd)
    (S : NScope N ["self", "place"] ["__class__"] scope) (hm : mg "super" = none) (hsg : scope.names.lookup ("super" : Str) = some .globalImplicit) (hself : ∃ ar, (params.posonlyargs ++ params.args).head? = some ar ∧ ar.arg = "self")
    (hbody : ∀ (A : Around) (outer : List Env) (s : Shared) (H : Hp) (vs : List V) (Q : VK) (E : XK), Room k (A.deeper (envF (supN "__init__" qual params (.Expr (.Call (.Attribute (.Call (.Name "super" p0) [] [] p1) "__init__" p2) (e :: es) [] p3) p4 :: rest) scope cda cc) f s.heap.objs.size)) → spExI C vs H Q E →
      ∃ (ta : TA) (t : TS),
        PA (ncx CX P w KW mg base N (supN "__init__" qual params (.Expr (.Call (.Attribute (.Call (.Name "super" p0) [] [] p1) "__init__" p2) (e :: es) [] p3) p4 :: rest) scope cda cc) f A outer s H E) (e :: es) ta ∧
        PSs (ncx CX P w KW mg base N (supN "__init__" qual params (.Expr (.Call (.Attribute (.Call (.Name "super" p0) [] [] p1) "__init__" p2) (e :: es) [] p3) p4 :: rest) scope cda cc) f A outer s H E) rest t ∧
        ta (startF N vs [none]) H fun ws H1 => ws.length ≤ 1000 ∧ H1 = H ∧ t { nx := fun _ H' => Q .non H', rt := Q } (startF N vs [none]) H1)
    (he : ∀ env : Env, eval (.Call (.Attribute (.Call (.Name "super" p0) [] [] p1) "__init__" p2) (e :: es) [] p3) env = (do
      let ov₀ ← attributeBase (.Call (.Name "super" p0) [] [] p1) "__init__" env (eval (.Call (.Name "super" p0) [] [] p1) env)
      standAt p2.atName
      let (f, first) ← holding [ov₀] (getMethod ov₀ "__init__" (pl env))
      callWith p3 f first (backTo p3 (starEach (e :: es) env)) []) := by intro _; rfl)
    (hse : ∀ env : Env, starEach (e :: es) env = (false, eval e env) :: starEach es env := by intro _; rfl) (hpl : ∀ env : Env, (backTo p3 (starEach es env)).any (·.1) = false := by intro _; rfl)
    (hin : ∀ L : Addr, interactive (envF (supN "__init__" qual params (.Expr (.Call (.Attribute (.Call (.Name "super" p0) [] [] p1) "__init__" p2) (e :: es) [] p3) p4 :: rest) scope cda cc) f L) = false := by intro _; rfl) (hsw : ∀ env : Env, swapsWith (.Call (.Attribute (.Call (.Name "super" p0) [] [] p1) "__init__" p2) (e :: es) [] p3) none p4.line env = pure false := by intro _; rfl) :
    FnOk P w KW mg base CX (k + 1) f fd ["self", "place"] (spExI C) := by
  refine ⟨exI_len, fun A outer s H args us₀ vs Q E hr₀ e0₀ hbd₀ r₀ hsp₀ => ?_⟩
  obtain ⟨oc₀, od₀, osl₀, dV₀, kV₀, doc₀, pm₀, an₀, ct₀, lk₀, hfd₀⟩ := S0.fn
  have hl₀ := exI_len _ _ _ _ hsp₀
  have bk₀ : ∀ b₀ o₀, base.get? b₀ = some o₀ → s.heap.get? b₀ = some o₀ := fun b₀ o₀ e => (e0₀.bs b₀ o₀ e).1
  have KX : KW.In s.heap := e0₀.mod.kin.keeps bk₀
  have lim₀ : s.heap.NoLimit := e0₀.mod.nolimit.keeps bk₀
  obtain ⟨ta, t, hta₀, ht₀, hq₀⟩ := hbody A outer s H vs Q E (hr₀.deeper _) hsp₀
  obtain ⟨x₀, y₀, hvs₀, hx₀, -⟩ := hsp₀
  subst hfd₀
  refine codeAny_call_function hr₀.depth (KX _ _ lk₀) rfl S.co S.gen rfl (PySem.W.codeRec_of KX S0.cd) (hbd₀ _ _ _ _ ?_)
  refine wpAny_newFunctionEnv S.nocell (fun ⟨n₀, _⟩ hy₀ => S.par n₀ (List.of_mem_zip hy₀).1) (fun h₁₀ hns₀ hsb₀ => ⟨lim₀.fresh _ hsb₀, ?_⟩) S.kind
  refine PySem.ks_codeAny_funcAt ?_
  have kp₀ : ∀ b₀ o₀, s.heap.get? b₀ = some o₀ → h₁₀.get? b₀ = some o₀ := fun b₀ o₀ e => hsb₀.extBut b₀ o₀ (Nat.ne_of_lt (Heap.lt_size e)) (Heap.get?_push_of_some _ e)
  obtain ⟨c1₀, c2₀, c3₀, hcell₀⟩ := S0.cell
  have ccb₀ := e0₀.mod.kin _ _ hcell₀
  have Cc : CellsAt [(("__class__" : Str), cc)] ["__class__"] [none] s.heap H := by
    refine ⟨rfl, fun y₀ c₀ h₀ => ?_, fun a₀ b₀ c₀ h1₀ h2₀ => ?_, fun i₀ y₀ h₀ => ?_⟩
    · have : c₀ = cc := by
        simp [List.lookup] at h₀
        split at h₀ <;> simp_all
      subst this
      exact ⟨(e0₀.bs _ _ ccb₀).2, _, _, bk₀ _ _ ccb₀, rfl⟩
    · simp [List.lookup] at h1₀ h2₀
      split at h1₀ <;> split at h2₀ <;> simp_all
    · cases i₀ with
      | zero => simp at h₀; subst h₀; exact ⟨cc, by simp [List.lookup], fun v₀ h₀ => by simp at h₀⟩
      | succ i₀ => simp at h₀
  have I : Inv (ncx CX P w KW mg base N (supN "__init__" qual params (.Expr (.Call (.Attribute (.Call (.Name "super" p0) [] [] p1) "__init__" p2) (e :: es) [] p3) p4 :: rest) scope cda cc) f A outer s H E) [] (startF N vs [none]) H _ := inv_startN (tk := s.toks + ((["self", "place"] : List Str).zip us₀).length) S hr₀.hd e0₀ hl₀ r₀ Cc hns₀ kp₀
  refine PySem.ks_wpAt_execs_cons (PySem.ks_wpAt_Expr_any (PySem.ks_wpAt_MethodCall (pl := pl _) ?_ (he _)) (hin _) (hsw _))
  obtain ⟨ar, har₀, hsn₀⟩ := hself
  obtain ⟨d1₀, d2₀, pvs₀, d3₀, file₀, tf₀, hcode₀, hpv₀, hfile₀⟩ := S0.code
  obtain ⟨nmC₀, qC₀, NC, bsC₀, snC₀, subC₀, abC₀, colC₀, ddC₀, k0₀, k1₀, k2₀, k3₀, k5₀, hCobj₀⟩ := S0.oe.cls
  have KX1 : KW.In h₁₀ := KX.keeps kp₀
  obtain ⟨mb₀, hmb₀, hmb2₀⟩ := e0₀.mod.blt
  have bk1₀ : ∀ b₀ o₀, base.get? b₀ = some o₀ → h₁₀.get? b₀ = some o₀ := fun b₀ o₀ e => kp₀ _ _ (bk₀ _ _ e)
  have hkind₀ : scope.names.lookup (("self" : Str)) = some .local := S.par _ (List.mem_cons_self ..)
  subst hvs₀
  have huse₀ : ∃ us'₀, us₀ = .ref x₀ :: us'₀ := by
    cases r₀ with
    | cons a₀ b₀ => exact ⟨_, by rw [show _ = Value.ref x₀ from a₀]⟩
  obtain ⟨us'₀, rfl⟩ := huse₀
  have hxs₀ : ((["self", "place"] : List Str).zip (Value.ref x₀ :: us'₀)).reverse.lookup ("self" : Str) = some (.ref x₀) := zip_look (i := 0) (by
    have q₀ := S.nd.sublist (List.take_sublist ((["self", "place"] : List Str).length + [("__class__" : Str)].length) N)
    rw [S.pre] at q₀
    exact (List.nodup_append.mp q₀).1) rfl rfl
  refine PySem.ks_wpAt_super_base (f := f) (cc := cda) (ar := ar) hsg (S.frk _ (List.mem_singleton.mpr rfl)) (by decide) rfl (KX1 _ _ lk₀) rfl har₀ rfl (KX1 _ _ hcode₀) rfl hpv₀ hfile₀ S0.top ?_
  refine PySem.W.ks_loadName_global S.kind hsg (Calls.loadGlobal_builtin (e0₀.mod.glob.keeps bk1₀) hm (hmb₀.keeps bk1₀) ((hmb2₀ _ (by decide)).trans S0.boot) ⟨rfl, ?_⟩)
  refine wpAny_loadName_free S.kind (S.frk _ (List.mem_singleton.mpr rfl)) (c := cc) rfl ⟨_, KX1 _ _ hcell₀, rfl⟩ ?_
  refine wpAny_loadName_local S.kind (by rw [hsn₀]; exact hkind₀) hns₀ (by rw [hsn₀]; exact hxs₀) ?_
  have hC1₀ := KX1 _ _ hCobj₀
  refine PySem.ks_wpAny_isType_cls hC1₀ rfl ⟨rfl, ?_⟩
  obtain ⟨tx1₀, hxo1₀⟩ := exo_at I.hok hx₀
  refine PySem.ks_wpAny_call_super hC1₀ rfl hxo1₀ rfl (fun c₀ e => by cases e) (PySem.W.looks_mroIn KX1 S0.sub) (fun h2₀ hso₀ kp2₀ => ?_)
  have I2₀ := I.kept (h' := h2₀) (t' := s.toks + ((["self", "place"] : List Str).zip (Value.ref x₀ :: us'₀)).length) kp2₀
  have KX2 : KW.In h2₀ := KX1.keeps kp2₀
  obtain ⟨tx2₀, hxo2₀⟩ := exo_at I2₀.hok hx₀
  have cdC₀ : PySem.W.clsIn KW C = some { name := nmC₀, bases := bsC₀, mro := chain2 C B, ns := NC, qualname := qC₀, hasDict := true, slotNames := snC₀, subclasses := subC₀, abstract := abC₀, collection := colC₀, hasDel := false } := by unfold PySem.W.clsIn; rw [hCobj₀] <;> rfl
  have J2 : PySem.W.InstAt h2₀ x₀ { cls := .ref C, dict := none, data := .fields #[.ref tx2₀, .none, .none, .none, .bool false, .none] } C none := ⟨hxo2₀, rfl, rfl, trivial⟩
  refine PySem.ESX.getMethod_super hso₀ (PySem.W.looks_opaque KX2 S0.ho) (l₀ := chain2 C B) (fun A Q E s k q₀ => wpAny_bind ((PySem.W.looks_clsIn KX2 cdC₀) A _ E s k (wpAny_pure q₀))) (ESX.drop_own C _) KX2 S0.up (PySem.W.ks_ne KX2 J2 cdC₀) (by decide) (J2.type.andThen (PySem.W.looks_mroIn KX2 S0.exc)) ?_
  have I3₀ := I2₀.kept (h' := h2₀.push (ESX.bw x₀)) (t' := s.toks + ((["self", "place"] : List Str).zip (Value.ref x₀ :: us'₀)).length + 1) fun b₀ o₀ e => Heap.get?_push_of_some _ e
  have hq3₀ : (h2₀.push (ESX.bw x₀)).get? h2₀.objs.size = some (ESX.bw x₀) := Heap.get?_push_at rfl rfl
  have hsz₀ : s.heap.objs.size ≤ h2₀.objs.size := I2₀.sz
  have qH₀ : H h2₀.objs.size = none := I2₀.hok.fresh (Nat.le_refl _)
  have I4₀ := I3₀.pinned (fp := [h2₀.objs.size]) (fun b₀ hb₀ => by
    obtain rfl := List.mem_singleton.1 hb₀
    exact I2₀.fpOk (Nat.le_refl _) qH₀) (fun b₀ hb₀ => by
    obtain rfl := List.mem_singleton.1 hb₀
    exact ⟨_, hq3₀, fun v₀ z₀ => by cases z₀⟩)
  have hpn₀ : (h2₀.objs.size, ESX.bw x₀) ∈ pinsAt [h2₀.objs.size] (h2₀.push (ESX.bw x₀)) := mem_pinsAt (List.mem_singleton.mpr rfl) hq3₀
  generalize pinsAt [h2₀.objs.size] (h2₀.push (ESX.bw x₀)) = pl at I4₀ hpn₀
  have hargs₀ := hta₀.run p3 _ _ _ H _ I4₀ hq₀
  show wpAny _ _ (callWith p3 (.ref h2₀.objs.size) [] (backTo p3 (starEach (e :: es) (envF (supN "__init__" qual params (.Expr (.Call (.Attribute (.Call (.Name "super" p0) [] [] p1) "__init__" p2) (e :: es) [] p3) p4 :: rest) scope cda cc) f s.heap.objs.size))) []) _ _ _
  refine ESX.callWith_bound (x := x₀) ?_ (hse _) (hpl _)
  refine thn hargs₀ fun us2₀ s5₀ ⟨vs2₀, H5, I5, r5₀, hl5₀, hH5₀, q5₀⟩ => ?_
  subst hH5₀
  have hq5₀ := (I5.pin _ (List.mem_append_right _ (List.mem_append_right _ hpn₀))).1
  refine ⟨hq5₀, ?_⟩
  obtain ⟨tx5₀, hxo5₀⟩ := exo_at I5.hok hx₀
  obtain ⟨hp5₀, g5₀, dr5₀, tk5₀, os5₀⟩ := s5₀
  refine ESX.call_bw (I5.kIn _ _ hCobj₀) hxo5₀ hq5₀ (by
    show us2₀.length ≤ sizeLine
    rw [← r5₀.length, sizeLine_eq]
    omega) fun h'₀ t1₀ k'₀ hx'₀ => ?_
  have I6 := I5.write (t' := tk5₀) (x := x₀) (e := x₀) (o := exo x₀ C none) (by rw [hx₀]; exact True.intro) (.inl rfl) k'₀ ⟨_, hx'₀⟩ (exo_ok hx'₀)
  have eu₀ : upd H5 x₀ (exo x₀ C none) = H5 := by
    funext b₀
    by_cases hb₀ : b₀ = x₀
    · rw [hb₀, upd_same, hx₀]
    · rw [upd_ne hb₀]
  rw [eu₀] at I6
  refine wpAt_of_wpAny (wpAny_mono (ht₀.run [] _ _ H5 _ (I6.unpinned (pins := []) (pl := pl)) q5₀) (fun fl₀ s'₀ hs₀ => ?_) fun _ _ z₀ => z₀)
  have fin₀ : ∀ {σ'₀ : L2.St} {H' : Hp} {v₀ : V} {u₀ : Value}, Inv (ncx CX P w KW mg base N (supN "__init__" qual params (.Expr (.Call (.Attribute (.Call (.Name "super" p0) [] [] p1) "__init__" p2) (e :: es) [] p3) p4 :: rest) scope cda cc) f A outer s H5 E) [] σ'₀ H' s'₀ → L2.RelV v₀ u₀ → Q v₀ H' → CE outer P w H5 s Q u₀ s'₀ :=
    fun {σ'₀ H' v₀ u₀} J rv₀ q₀ => ⟨v₀, H', J.os, J.bare, J.base, J.hok, rv₀, q₀⟩
  cases fl₀ with
  | ret u₀ =>
    obtain ⟨v₀, σ'₀, H', J, rv₀, q₀⟩ := hs₀
    exact fin₀ J rv₀ q₀
  | next =>
    obtain ⟨σ'₀, H', J, q₀⟩ := hs₀
    exact fin₀ (v₀ := V.non) (u₀ := Value.none) J rfl q₀
  | brk =>
    obtain ⟨_, _, _, q₀⟩ := hs₀
    exact False.elim q₀
  | cont =>
    obtain ⟨_, _, _, q₀⟩ := hs₀
    exact False.elim q₀
end
end K
/-! KT3: such an exception is made and raised; calls that raise. -/
namespace K
open PySem.Spec PySem PyProof.Rows L2 NdefX Z
section
variable {X : Cx} {e : Expr} {es : List Expr} {ta : TA} {p pos : Pos}
theorem pmk_oexE {CX : CXT} {x : Str} {C B fI : Addr} {k : Nat} {fd : FuncData} {ps : List Str} {sp : Sp} {ds : List Value} {dvs : List V} (OE : OexE X.K C B) (own1 : PySem.W.findIn X.K (.ref C) "__init__" = some (some (.ref fI))) (own2 : PySem.W.typeIn X.K (.ref fI) = some (.type "function"))
    (FI : FnOk X.prog X.w X.K X.mg X.base CX k fI fd ps sp) (room : Room (k + 1) X.A) (bnd : Binds X.K fd ps ds) (dfl : Vals dvs ds) (psx : Passes CX X (fun _ _ _ => False)) (glx : Gl X x) (mgx : X.mg x = some (.ref C)) (arg : PA X (e :: es) ta)
    (nodb : (x == ("__debug__" : Str)) = false := by decide) (st1 : starEach (e :: es) X.env = (false, eval e X.env) :: starEach es X.env := by rfl) (st2 : (backTo pos (starEach es X.env)).any (·.1) = false := by rfl) :
    PMk X (.Call (.Name x p) (e :: es) [] pos) (tMkO C sp dvs (ta)) := by
  intro pins₀ s₀ σ₀ H Q I0 h0₀
  obtain ⟨nm₀, q₀, N, bs₀, sn₀, sub₀, ab₀, col₀, dd₀, k0₀, k1₀, k2₀, k3₀, k5₀, Cat⟩ := OE.cls
  refine wpAny_Call_Name_kw (ld_glob I0 glx mgx ?_ nodb)
  refine PySem.W.callWith_K (h₀ := X.base) I0.ok.mod.kin OE.kC (thn (arg.run pos pins₀ s₀ σ₀ H _ I0 h0₀) fun us₀ s1₀ ⟨vs₀, H1, J1₀, rel1₀, long₀, then1₀⟩ => ⟨J1₀.kIn, ?_⟩) st1 st2
  show wpAny _ _ (call (.ref C) us₀) _ _ _
  obtain ⟨hp₀, gs₀, dr₀, tk₀, os₀⟩ := s1₀
  have up1₀ : hp₀.objs.size ≤ hp₀.objs.size + 1 := Nat.le_succ _
  have new1₀ : H1 (hp₀.objs.size + 1) = none := J1₀.hok.fresh up1₀
  have sp1₀ := then1₀ (hp₀.objs.size + 1) new1₀
  have stay₀ : ∀ b₀ o₀, hp₀.get? b₀ = some o₀ → ((hp₀.push (PySem.W.kdv_tup us₀)).push (PySem.HandSPX.excO C hp₀.objs.size)).get? b₀ = some o₀ := fun b₀ o₀ z₀ => Heap.get?_push_of_some _ (Heap.get?_push_of_some _ z₀)
  have made₀ : ((hp₀.push (PySem.W.kdv_tup us₀)).push (PySem.HandSPX.excO C hp₀.objs.size)).get? (hp₀.objs.size + 1) = some (PySem.HandSPX.excO C hp₀.objs.size) := by heap_get
  have J2 : Inv X pins₀ σ₀ (upd H1 (hp₀.objs.size + 1) (exo (hp₀.objs.size + 1) C none)) ⟨(hp₀.push (PySem.W.kdv_tup us₀)).push (PySem.HandSPX.excO C hp₀.objs.size), gs₀, dr₀, tk₀, os₀⟩ :=
    J1₀.laid (a := hp₀.objs.size + 1) (t' := tk₀) (h' := (hp₀.push (PySem.W.kdv_tup us₀)).push (PySem.HandSPX.excO C hp₀.objs.size)) (o := exo (hp₀.objs.size + 1) C none) stay₀ up1₀ (exo_ok made₀)
  have rel2₀ : Vals (V.ref (hp₀.objs.size + 1) :: (vs₀ ++ dvs)) (Value.ref (hp₀.objs.size + 1) :: (us₀ ++ ds)) := .cons rfl (rel1₀.append dfl)
  have len2₀ : (Value.ref (hp₀.objs.size + 1) :: us₀ ++ ds).length = ps.length := by
    have z₀ := rel2₀.length
    rw [FI.len _ _ _ _ sp1₀] at z₀
    exact z₀.symm
  have lenU₀ : us₀.length ≤ sizeLine := by
    rw [← Paired.length rel1₀, sizeLine_eq]
    omega
  refine wpAny_call (PySem.HandSPX.call_own F.excBase_Exception (fun Y => by simp [ESX.exTail]) (J1₀.kIn _ _ Cat) (PySem.W.looks_findIn J1₀.kIn own1) (fun self₀ => PySem.W.bind_fn J1₀.kIn self₀ own2) lenU₀
    (codeAny_mono (FI.run _ X.stack _ _ ⟨Value.ref (hp₀.objs.size + 1) :: us₀, []⟩ (Value.ref (hp₀.objs.size + 1) :: (us₀ ++ ds)) _ _ (fun _ _ _ => False) (room.make C us₀ []) (J2.env0.make C us₀ []) (bnd _ (Value.ref (hp₀.objs.size + 1) :: us₀) J2.kIn len2₀) rel2₀ sp1₀) fun res₀ s'₀ got₀ => ?_))
  cases res₀ with
  | error er => exact psx pins₀ σ₀ _ _ er s'₀ J2 got₀
  | ok fl =>
    cases fl with
    | ret u =>
      obtain ⟨v₀, H2, os2₀, bare2₀, un2₀, hok2₀, rv₀, ev₀, d₀, fs₀, at_a₀, at_d₀, was₀, then2₀⟩ := got₀
      subst ev₀
      obtain ⟨h2₀, g2₀, d2₀, t2₀, os'₀⟩ := s'₀
      exact ⟨rv₀, mk_end (raises_own OE.exC OE.tyC) J1₀ up1₀ stay₀ un2₀ hok2₀ os2₀ bare2₀ at_a₀ at_d₀ was₀ then2₀⟩
    | next => exact False.elim got₀
    | brk => exact False.elim got₀
    | cont => exact False.elim got₀
end
/-- an exception class of ours, by its name -/
structure ExB (g : W5) (x : Str) (C B : Addr) : Prop where
  mg : g.mg x = some (.ref C)
  oe : OexE g.K C B
  ini : ∃ (fI : Addr) (fd : FuncData), PySem.W.findIn g.K (.ref C) "__init__" = some (some (.ref fI)) ∧ PySem.W.typeIn g.K (.ref fI) = some (.type "function") ∧ Binds g.K fd ["self", "place"] [] ∧ FnOk g.P g.w g.K g.mg g.base CX0 1 fI fd ["self", "place"] (spExI C)
  xf : XfC g.K C
  np : PySem.W.findIn g.K (.ref C) "place" = some none
/-- raise C(e) -/
theorem s_raiseE {X : Cx} {g : W5} {N : List Str} {k : Nat} {σ : L2.St} {H Hb : Hp} {W : WX} {x : Str} {C B : Addr} {e : Expr} {Φ : V → Hp → Prop} {D : Ends} {p pos pos' : Pos} [c : CtxZ (u1 X) g N k] (EB : ExB g x C B) (tk : Takes X W) (h : Z.EP (u1 X) e σ Hb Φ) (cx : Ex Hb H)
    (q : ∀ y Hk H3 d, Go no Hb H Hk H3 → Φ y Hk → H3 d = some (.xd [("place", y)]) → W (.ref C) (some d) σ H3) (hk : 2 ≤ k := by decide) (hg : Gl X x := by rfl) (hdb : (x == ("__debug__" : Str)) = false := by decide)
    (he : starEach [e] X.env = (false, eval e X.env) :: starEach [] X.env := by rfl) (hpl : (backTo pos (starEach [] X.env)).any (·.1) = false := by rfl) : wS X (.Raise (some (.Call (.Name x p) [e] [] pos)) none pos') D σ H := by
  have hK : X.K = g.K := c.K ()
  have hP : X.prog = g.P := c.P ()
  have hw : X.w = g.w := c.w ()
  have hmg : X.mg = g.mg := c.mg ()
  have hbs : X.base = g.base := c.base ()
  obtain ⟨fI, fd, i1, i2, i3, i4⟩ := EB.ini
  have mk : PMk X (.Call (.Name x p) [e] [] pos) (tMkO C (spExI C) [] (tCons (wE (u1 X) e) tNil)) :=
    pmk_oexE (CX := CX0) (k := 1) (fd := fd) (ps := ["self", "place"]) (ds := []) (by rw [hK]; exact EB.oe) (by rw [hK]; exact i1) (by rw [hK]; exact i2) (by rw [hK, hP, hw, hmg, hbs]; exact i4) ((c.room ()).mono hk) (by rw [hK]; exact i3) .nil pass0 hg (by rw [hmg]; exact EB.mg)
      (pa_cons (wE_ok (X := u1 X) ()) pa_nil he) hdb he hpl
  refine ⟨_, ps_raise (c.calm ()) tk mk, ?_⟩
  refine h H cx _ fun v Hk H2 g1 r => ⟨by simp, fun a ha => ?_⟩
  refine ⟨a, v, rfl, upd_same, fun dx hdx hne => ?_⟩
  rw [upd_ne hne] at hdx
  refine ⟨rfl, dx, [("place", v)], upd_same, by rw [upd_ne hne, upd_same], hdx, ?_⟩
  refine q v Hk _ dx (g1.step fun b o hb => ?_) r upd_same
  have n1 : b ≠ a := ne_of_none hb ha
  have n2 : b ≠ dx := ne_of_none hb hdx
  rw [upd_ne n2, del_ne n1, upd_ne n1, upd_ne n2, upd_ne n1]
  exact hb
/-! ### defs that raise -/
abbrev FnR (g : W5) (k : Nat) (x : Str) (ps : List Str) (dvs : List V) (sp : Sp) : Prop :=
  ∃ (f : Addr) (fd : FuncData) (ds : List Value), g.mg x = some (.ref f) ∧ PySem.W.keepIn g.K (.ref f) = true ∧ Binds g.K fd ps ds ∧ Vals dvs ds ∧ FnOk g.P g.w g.K g.mg g.base (L2.CX g.P g.w) k f fd ps sp
/-- where it raises nothing -/
theorem FnR.good {g : W5} {k : Nat} {x : Str} {ps : List Str} {dvs : List V} {sp sp' : Sp} (R : FnR g k x ps dvs sp) (h : ∀ vs H Q E, sp' vs H Q E → sp vs H Q E) : FnB g (L2.CX g.P g.w) k x ps dvs sp' := by
  obtain ⟨f, fd, ds, h1, h2, h3, h4, h5⟩ := R
  exact ⟨⟨f, fd, ds, h1, h2, h3, h4, h5.imp h⟩, fun X _ _ pins σ H s e s' I hc => by
    obtain ⟨_, _, _, _, _, _, _, _, _, _, _, _, z⟩ := hc
    exact z.elim⟩
section
variable {ι : Type} {X : ι → Cx} {g : W5} {N : List Str} {k : Nat} {σ : L2.St} {H1 : Hp} {Q : VK} {e : Expr} {es : List Expr} {p pos : Pos} {x : Str}
theorem wcallX [c : CtxZ X g N k] {k' : Nat} {ps : List Str} {dvs : List V} {sp : Sp} {E : XK} (R : FnR g k' x ps dvs sp) (tk : ∀ i, Takes (X i) (fun cls d _ H => E cls d H)) (hk : k' ≤ k) (h : wA X (e :: es) σ H1 fun vs H2 => sp (vs ++ dvs) H2 Q E)
    (hg : ∀ i, Gl (X i) x := by intro _; rfl) (hdb : (x == ("__debug__" : Str)) = false := by decide) (he : NS e := by intro _ _; rfl)
    (hpl : ∀ i, (backTo pos (starEach es (X i).env)).any (·.1) = false := by intro _; rfl) : wE X (.Call (.Name x p) (e :: es) [] pos) σ H1 Q :=
  ⟨tCall sp dvs E (wA X (e :: es)), fun i => by
    obtain ⟨f, fd, ds, h1, h2, h3, h4, h5⟩ := R
    have hx := passes_call (E := E) (tk i) fun _ _ _ _ z => z
    rw [c.P i, c.w i] at hx
    refine pe_call (CX := L2.CX g.P g.w) (k := k') (f := f) (fd := fd) (ps := ps) (ds := ds) ?_ ((c.room i).mono hk) (hg i) ?_ ?_ ?_ h4 hx (wA_ok i) hdb (he _ _) (hpl i)
    · rw [c.P i, c.w i, c.K i, c.mg i, c.base i]; exact h5
    · rw [c.mg i]; exact h1
    · rw [c.K i]; exact h2
    · rw [c.K i]; exact h3, h⟩
end
/-- a def that may raise -/
theorem def_okR {g : W5} {x : Str} {st : Stmt} {N ps : List Str} {k : Nat} {sp : Sp} (D : DefOf g x st) (S : FnScope N ps (defScope st)) (dbg : namesOk N = true) (len : ∀ vs H Q E, sp vs H Q E → vs.length = ps.length)
    (hb : ∀ (kV doc pm : Value) (an : Option Addr) (cdv ct : Value) (us : List Value), us.length = ps.length → bindArgs (PySem.W.fnOf x x (defArgs st) (defBody st) (defScope st) .none kV doc pm an cdv ct) ⟨us, []⟩ = pure (ps.zip us))
    (hbody : ∀ (f : Addr) (cdv : Value) (A : Around) (outer : List Env) (s : Shared) (H : Hp) (vs : List V) (Q : VK) (E : XK), CtxZ (u1 (cxOf (L2.CX g.P g.w) g.P g.w g.K g.mg g.base N x (defScope st) f cdv A outer s H E)) g N k →
      Takes (cxOf (L2.CX g.P g.w) g.P g.w g.K g.mg g.base N x (defScope st) f cdv A outer s H E) (fun cls d _ H => E cls d H) → PassesOwn (model g.P g.w) (cxOf (L2.CX g.P g.w) g.P g.w g.K g.mg g.base N x (defScope st) f cdv A outer s H E).A (cxOf (L2.CX g.P g.w) g.P g.w g.K g.mg g.base N x (defScope st) f cdv A outer s H E).env (cxOf (L2.CX g.P g.w) g.P g.w g.K g.mg g.base N x (defScope st) f cdv A outer s H E).xe →
      sp vs H Q E → wSs (cxOf (L2.CX g.P g.w) g.P g.w g.K g.mg g.base N x (defScope st) f cdv A outer s H E) (defBody st) { nx := fun _ H' => Q .non H', rt := Q } (start N vs) H) : FnR g (k + 1) x ps [] sp := by
  obtain ⟨f, fd, FD, hm⟩ := D
  refine ⟨f, fd, [], hm, FD.kp, FD.bindsN hb, .nil, FD.ok S len fun cdv A outer s H vs Q E hr h => ?_⟩
  exact hbody f cdv A outer s H vs Q E ⟨fun _ => rfl, fun _ => rfl, fun _ => rfl, fun _ => rfl, fun _ => rfl, fun _ => rfl, S.nd, fun _ => rfl, fun _ => hr, namesOk_ok dbg⟩ (takes_of rfl rfl rfl (E₁ := fun e' s'' => L2.CX g.P g.w outer H s E e' s'') rfl) (passes_of (K := fun e s'' => L2.CX g.P g.w outer H s E e s'') (E₁ := fun e' s'' => L2.CX g.P g.w outer H s E e' s'') rfl) h
end K
/-! KT4: several except clauses, each with the same name for what it catches (slot i). -/
namespace K
open PySem.Spec PySem PyProof.Rows L2 NdefX Z
abbrev SuT := Addr → Value → Option Addr → TS
def offs (i : Nat) (D : Ends) : Ends := { nx := fun σ' H' => D.nx (σ'.set i none) H', rt := D.rt, bk := fun σ' H' => D.bk (σ'.set i none) H', ct := fun σ' H' => D.ct (σ'.set i none) H' }
def wClauses (K : PySem.W.Frag) (i : Nat) (Wout : WX) (D : Ends) : List (Value × SuT) → WX
  | [] => Wout
  | (c, ts) :: r => fun cls d σ H => ∃ b, PySem.W.exmOne K cls c = some b ∧ (b = true → ∀ a, H a = none → ts a cls d (offs i D) (σ.set i (some (.ref a))) H) ∧ (b = false → wClauses K i Wout D r cls d σ H)
inductive Clauses (X : Cx) (n : Str) : List ExceptHandler → List (Value × SuT) → Prop
  | nil : Clauses X n [] []
  | cons {x : Str} {c : Value} {ts : SuT} {b₀ : Stmt} {suite : List Stmt} {np pos' : Pos} {hds : List ExceptHandler} {l : List (Value × SuT)} (hc : Names X x c)
      (su : ∀ (a : Addr) (oe : Obj) (cls : Value) (d : Option Addr) (pn : List (Addr × Obj)), Zc cls d oe → (∃ vs, oe.data = .fields vs) → PSs (X.suite a ((a, oe) :: pn)) (b₀ :: suite) (ts a cls d)) (r : Clauses X n hds l) :
      Clauses X n (.ExceptHandler (some (.Name x np)) (some n) (b₀ :: suite) pos' :: hds) ((c, ts) :: l)
section
variable {X : Cx} {n : Str} {i : Nat} {body : List Stmt} {h0 : ExceptHandler} {hds : List ExceptHandler} {l : List (Value × SuT)} {pos : Pos} {tb : WX → TS} {Wout : WX}
theorem ps_clauses (stk : X.stack = X.env :: X.outer) (frm : X.env.frame = some X.env.locals) (ndN : X.N.Nodup) (atI : X.N[i]? = some n) (loc : X.env.kindOf n = some .local) (tk : Takes X Wout)
    (bd : ∀ (W : WX) (pn : List (Addr × Obj)) (xe : Value → Shared → Prop), Takes (X.tr pn xe) W → PassesOwn (model X.prog X.w) X.A X.env xe → PSs (X.tr pn xe) body (tb W))
    (cl : Clauses X n (h0 :: hds) l) : PS X (.Try body (h0 :: hds) [] [] pos) (fun D σ H => tb (wClauses X.K i Wout D l) D σ H) := by
  refine ⟨fun pins₀ s₀ σ H D I0 h₀ => ?_⟩
  have okX₀ := I0.ok
  have frs1₀ : X.A.frames = some (X.env :: X.outer) := by rw [okX₀.frames, stk]
  have hl₀ : Loc X.env.scope n := .inl loc
  refine wpAny_Try_except ?_
  refine wpAny_mono ((bd (wClauses X.K i Wout D l) (X.pn ++ pins₀) (fun e₀ s₁₀ => wpAny (model X.prog X.w) X.A (noteFrame e₀ X.env) (fun _ s₂₀ => wpAny (model X.prog X.w) X.A (setFlight e₀ none) (fun _ s₃₀ =>
    wpAny (model X.prog X.w) X.A (handleBy e₀ X.env (h0 :: hds)) (SP X pins₀ D) X.xe s₃₀) X.xe s₂₀) X.xe s₁₀) (fun u₀ s'₀ caught₀ => ?_) PassesOwn.looking).run [] s₀ σ H D (I0.toTry _) h₀) (fun f₀ s1₀ through => ?_) (fun e₀ s1₀ he₀ => he₀)
  · obtain ⟨a₀, B, sI₀, pins'₀, σ'₀, H', cls₀, d₀, rfl, Jt, gnd₀, up0₀, air₀, off_a₀, eos₀, bare₀, wish₀⟩ := caught₀
    have J : Inv X pins₀ σ'₀ H' sI₀ := Jt.ofTry okX₀
    have air1₀ : Sky B (X.env :: X.outer) a₀ (Zc cls₀ d₀) X.env.locals s'₀.heap := by rw [← stk]; exact air₀
    show wpAny (model X.prog X.w) X.A (noteFrame (.ref a₀) X.env) _ _ _
    refine Sky.land Zc.steady frs1₀ frm air1₀ fun h3₀ land3₀ up3₀ => ?_
    have J3 : Inv X pins₀ σ'₀ H' { s'₀ with heap := h3₀ } := J.landed gnd₀ land3₀.1 (up0₀.trans up3₀) eos₀ bare₀
    obtain ⟨oe3₀, vs3₀, at3₀, zc3₀, fd3₀⟩ := land3₀.there
    have noFr₀ : a₀ ∉ frs (X.env :: X.outer) := fun hm₀ => by
      obtain ⟨_, o'₀, e'₀, hnf₀⟩ := land3₀.2.2.1.mem hm₀
      rw [at3₀] at e'₀; cases e'₀
      exact hnf₀ _ fd3₀
    have noL₀ : a₀ ≠ X.env.locals := fun z₀ => noFr₀ (List.mem_filterMap.mpr ⟨X.env, List.mem_cons_self, by rw [frm, z₀]⟩)
    have noF₀ : a₀ ∉ X.fs := fun hm₀ => by
      obtain ⟨e₀, he₀, q₀⟩ := List.mem_filterMap.mp hm₀
      exact noFr₀ (List.mem_filterMap.mpr ⟨e₀, List.mem_cons_of_mem _ he₀, q₀⟩)
    have S3 := J3.suite at3₀ fd3₀ off_a₀ noL₀ noF₀
    have walk₀ : ∀ {hs'₀ : List ExceptHandler} {l'₀ : List (Value × SuT)}, Clauses X n hs'₀ l'₀ → wClauses X.K i Wout D l'₀ cls₀ d₀ σ'₀ H' →
        wpAny (model X.prog X.w) X.A (handleBy (.ref a₀) X.env hs'₀) (SP X pins₀ D) X.xe { s'₀ with heap := h3₀ } := by
      intro hs'₀ l'₀ cs₀
      induction cs₀ with
      | nil =>
        intro wish₀
        refine wpAny_handleBy_nil ?_
        obtain ⟨k1₀, k2₀, k3₀, oe₀, vs₀, T, oT₀, ts'₀, at_e₀, z_e₀, d_e₀, tb1₀, rest1₀⟩ := id land3₀
        unfold PySem.passOn
        refine wpAny_bind (wpAny_field at_e₀ d_e₀ tb1₀ ?_)
        rw [if_neg (by simp : ¬ ((Value.ref T == Value.none) = true))]
        have out₀ : wpAny (model X.prog X.w) X.A (setFlight (.ref a₀) X.env.frame) (fun _ s4₀ => wpAny (model X.prog X.w) X.A (throw (.ref a₀) : Sem Flow) (SP X pins₀ D) X.xe s4₀) X.xe { s'₀ with heap := h3₀ } := by
          rw [frm]
          refine HandSPX.setFlight_upZ land3₀ fun h4₀ held4₀ up4₀ => wpAny_throw (tk _ _ ?_)
          exact ⟨a₀, B, sI₀, pins₀, σ'₀, H', cls₀, d₀, rfl, J, gnd₀, (up0₀.trans up3₀).trans up4₀, .inr (.inr (by rw [stk]; exact held4₀)), off_a₀, eos₀, bare₀, wish₀⟩
        first
          | exact wpAny_bind (wpAny_pure (wpAny_bind out₀))
          | exact wpAny_bind out₀
      | @cons x c ts b₀ suite np pos' hds2 l2 hc su r₀ ih =>
        intro wish₀
        obtain ⟨b₀, is1₀, yes₀, nay₀⟩ := wish₀
        refine wpAny_handleBy_cons (codeAny_handlers_test ?_) (by intro q₀; cases q₀)
        have clsL₀ : PySem.W.Looks (model X.prog X.w) h3₀ (typeOf (.ref a₀)) cls₀ := fun A Q E s₀ k₀ q₀ => wpAny_typeOf_ref (k₀ _ _ at3₀) (by rw [zc3₀.1]; exact q₀)
        have asks₀ := PySem.W.exm_one (M := model X.prog X.w) J3.kIn clsL₀ is1₀
        have named₀ : ∀ {Q : Value → Shared → Prop} {E : Value → Shared → Prop}, Q c { s'₀ with heap := h3₀ } → wpAny (model X.prog X.w) (X.A.mark (some (.ref a₀))) (eval (.Name x np) X.env) Q E { s'₀ with heap := h3₀ } := fun {Q E} q₀ => by
          obtain ⟨hg₀, hdbg₀, hm₀ | ⟨hm₀, hv₀, hnn₀⟩⟩ := hc
          · exact ld_glob (X := X.suite a₀ ((a₀, oe3₀) :: (X.pn ++ pins₀))) S3 hg₀ hm₀ q₀ hdbg₀
          · exact ld_blt (X := X.suite a₀ ((a₀, oe3₀) :: (X.pn ++ pins₀))) S3 hg₀ hm₀ hv₀ q₀ hnn₀ hdbg₀
        refine named₀ (asks₀.here ?_)
        cases b₀ with
        | true =>
          refine (codeAny_handlers_suite_as ?_)
          refine HandSPX.lands_againZ land3₀ fun h4₀ land4₀ up4₀ => ?_
          have J4 : Inv X pins₀ σ'₀ H' { s'₀ with heap := h4₀ } := J.landed gnd₀ land4₀.1 ((up0₀.trans up3₀).trans up4₀) eos₀ bare₀
          obtain ⟨oe4₀, vs4₀, at4₀, zc4₀, fd4₀⟩ := land4₀.there
          have S4 := J4.suite at4₀ fd4₀ off_a₀ noL₀ noF₀
          refine store_ok (X := X.suite a₀ ((a₀, oe4₀) :: (X.pn ++ pins₀))) (v := .ref a₀) S4 ndN atI hl₀ rfl (fun s5₀ S5 => ?_) (.inr loc)
          refine wpAny_mono ((su a₀ oe4₀ cls₀ d₀ (X.pn ++ pins₀) zc4₀ ⟨_, fd4₀⟩).run [] s5₀ _ H' _ S5 (yes₀ rfl a₀ off_a₀)) (fun f₀ s6₀ ended₀ => ?_) (fun _ _ z₀ => False.elim z₀)
          have clear₀ : ∀ {σ6₀ : L2.St} {H6 : Hp} {Q : Shared → Prop}, Inv (X.suite a₀ ((a₀, oe4₀) :: (X.pn ++ pins₀))) [] σ6₀ H6 s6₀ → (∀ s7₀, Inv X pins₀ (σ6₀.set i none) H6 s7₀ → Q s7₀) →
              wpAny (model X.prog X.w) X.A (do bindName X.env n .none; unbindBehindTheSuite X.env n pos') (fun _ s7₀ => Q s7₀) X.xe s6₀ := fun {σ6₀ H6 Q} S6 hq₀ => gone_ok (S6.unsuite okX₀) ndN atI loc hq₀
          cases f₀ with
          | next =>
            obtain ⟨σ6₀, H6, S6, q6₀⟩ := ended₀
            exact clear₀ S6 fun s7₀ J7 => ⟨_, _, J7, q6₀⟩
          | brk =>
            obtain ⟨σ6₀, H6, S6, q6₀⟩ := ended₀
            exact clear₀ S6 fun s7₀ J7 => ⟨_, _, J7, q6₀⟩
          | cont =>
            obtain ⟨σ6₀, H6, S6, q6₀⟩ := ended₀
            exact clear₀ S6 fun s7₀ J7 => ⟨_, _, J7, q6₀⟩
          | ret u₀ =>
            obtain ⟨v6₀, σ6₀, H6, S6, r6₀, q6₀⟩ := ended₀
            exact clear₀ S6 fun s7₀ J7 => ⟨_, _, _, J7, r6₀, q6₀⟩
        | false =>
          show wpAny _ X.A (handleBy (.ref a₀) X.env hds2) _ _ _
          exact ih (nay₀ rfl)
    exact walk₀ cl wish₀
  · cases f₀ with
    | next =>
      obtain ⟨σ'₀, H', Jn, q₀⟩ := through
      exact wpAny_execs_nil ⟨σ'₀, H', Jn.ofTry okX₀, q₀⟩
    | brk =>
      obtain ⟨σ'₀, H', Jn, q₀⟩ := through
      exact ⟨σ'₀, H', Jn.ofTry okX₀, q₀⟩
    | cont =>
      obtain ⟨σ'₀, H', Jn, q₀⟩ := through
      exact ⟨σ'₀, H', Jn.ofTry okX₀, q₀⟩
    | ret u₀ =>
      obtain ⟨v₀, σ'₀, H', Jn, r₀, q₀⟩ := through
      exact ⟨v₀, σ'₀, H', Jn.ofTry okX₀, r₀, q₀⟩
end
end K
/-! KT5: check_states, share_row. -/
namespace K
open PySem.Spec PySem PyProof.Rows L2 Z M
/-- the tuple () that stands as a default -/
def Nil0 (g : W5) (e0 : Addr) : Prop := ∃ o n, g.K.lookup e0 = some o ∧ o.cls = .type "tuple" ∧ o.data = .seq #[] n
section
variable {ι : Type} {X : ι → Cx} {g : W5} {N : List Str} {k : Nat} {σ : L2.St} {Hb : Hp} {e tg : Expr}
theorem iK0 [c : CtxZ X g N k] {e0 : Addr} (hK : Nil0 g e0) (h : Z.EP X e σ Hb fun v _ => v = .ref e0) : EI X tg e σ Hb 0 (fun _ _ _ => False) := fun H1 c1 Q q =>
  ⟨_, fun i => pi_tup_K i, h H1 c1 _ fun v Hk H2 g1 hv => by
    obtain ⟨o, n, h1, h2, h3⟩ := hK
    have sq : ∀ H, SqT g.K H e0 [] := fun H => .inr ⟨o, #[], n, h1, h2, h3, Nat.zero_le _, .nil⟩
    exact ⟨e0, hv, ⟨[], sq _⟩, q _ Hk H2 g1 (fun i H hi => absurd hi (Nat.not_lt_zero _)) (fun H c2 => ⟨[], sq _, Nat.le_refl _⟩) (fun i H x H' hi => absurd hi (Nat.not_lt_zero _))⟩⟩
end
/-- check_states: states f 0 .. f (m-1), then the pairs that must be unlike (or the default) -/
def spCheck (CS e0 : Addr) : Sp := fun vs H1 Q E => ∃ (Hb : Hp) (n m : Nat) (f : Nat → V) (u w : V), vs = [.int (n : Int), u, w] ∧ Ex Hb H1 ∧ (rT rV).r Hb u (tab m f) ∧ (∀ i, i < m → (kindOf (f i)).isSome = true) ∧
  (∀ i, i < m → isSt n (f i) = false → ∀ d Hk H2, Go no Hb H1 Hk H2 → H2 d = some (.xd [("place", .int (i : Int))]) → E (.ref CS) (some d) H2) ∧
  (w = .ref e0 ∨ ∃ (l : Nat) (p : Nat → Int × Int), (rT (rP rInt rInt)).r Hb w (tab l p) ∧ ∀ j, j < l → ∃ i i' a b, p j = (((i : Nat) : Int), ((i' : Nat) : Int)) ∧ i < m ∧ i' < m ∧ f i = .int a ∧ f i' = .int b ∧ a ≠ b) ∧
  ((∀ i, i < m → isSt n (f i) = true) → ∀ Hk H2, Go no Hb H1 Hk H2 → Q .non H2)
abbrev checkBody (g : W5) (f0 : Addr) (cdv : Value) (A : Around) (outer : List Env) (s : Shared) (H : Hp) (E : XK) : Cx := cxOf (L2.CX g.P g.w) g.P g.w g.K g.mg g.base pCheckStatesN "check_states" (defScope pCheckStates) f0 cdv A outer s H E
theorem check_body {g : W5} {CS B e0 f0 : Addr} {cdv : Value} {A : Around} {outer : List Env} {s : Shared} {H : Hp} {vs : List V} {Q : VK} {E : XK} (EB : ExB g "BadState" CS B) (T : TX g) (FS : FnB g CX0 2 "is_state" ["size", "thing"] [] spIsState) (hK : Nil0 g e0)
    (cx : CtxZ (u1 (checkBody g f0 cdv A outer s H E)) g pCheckStatesN 2) (tk : Takes (checkBody g f0 cdv A outer s H E) (fun cls d _ H => E cls d H)) (po : PassesOwn (model g.P g.w) (checkBody g f0 cdv A outer s H E).A (checkBody g f0 cdv A outer s H E).env (checkBody g f0 cdv A outer s H E).xe)
    (h : spCheck CS e0 vs H Q E) : wSs (checkBody g f0 cdv A outer s H E) (defBody pCheckStates) { nx := fun _ H' => Q .non H', rt := Q } (start pCheckStatesN vs) H := by
  obtain ⟨Hb, n, m, f, u, w, rfl, e, hu, hk, hE, hw, q⟩ := h
  refine s_cons (s_forB (iET T.enumerate (nm 1 (R := rT rV) (a := tab m f) (h := hu))) e (fun i σ Hk H' => ∃ o3 o4 o5 o6 : Option V, σ = [some (.int (n : Int)), some u, some w, o3, o4, o5, o6] ∧ Go no Hb H Hk H' ∧ ∀ s, s < i → isSt n (f s) = true) ⟨none, none, none, none, rfl, Go.refl e, fun s hs => absurd hs (Nat.not_lt_zero _)⟩ (fun i σ' Hk Hm H1 H2 ⟨o2, o3, o4, o5, hσ, G, hs⟩ g2 => ⟨o2, o3, o4, o5, hσ, G.trans g2, hs⟩) (fun i σ' Hk H' ⟨_, _, _, _, _, G, _⟩ => G.on) (fun i σ' Hk H' x hi ebk hI hx => ?_) (fun σ' Hk H' ebk hI => ?_) (hp := po))
  · obtain ⟨o3, o4, o5, o6, rfl, G, hs⟩ := hI
    obtain ⟨H0, e0', hx⟩ := hx
    refine gpair 3 4 ((rP rInt rV).up e0' hx) G.on fun z y hz hy => ?_
    obtain rfl : z = .int (i : Int) := hz
    obtain rfl : y = f i := hy
    show wSs _ _ _ [some (.int (n : Int)), some u, some w, some (.int (i : Int)), some (f i), o5, o6] H'
    refine s_one (s_if (tnot (tv (call FS (n, f i) (ac (nm 0 (R := rInt) (a := (n : Int)) (h := rfl)) (ac (nm 4 (R := rV) (a := f i) (h := rfl)) a0)) rfl (hk i hi)))) G.on (fun ht Hg H2 g2 => ?_) fun ht Hg H2 g2 => s_nil ⟨Hg, g2.base, _, _, _, _, rfl, G.trans g2, fun s hs' => ?_⟩)
    · have ht : isSt n (f i) = false := by simpa using ht
      exact s_one (s_raiseE (D := _) EB tk (nm 3 (R := rInt) (a := (i : Int)) (h := rfl)) g2.on (fun y Hg3 H3 d g3 hy hd => by
        obtain rfl : y = .int (i : Int) := hy
        exact hE i hi ht d _ _ ((G.trans g2).trans g3) hd))
    · by_cases h : s = i
      · subst h; simpa using ht
      · exact hs s (by omega)
  · obtain ⟨o3, o4, o5, o6, rfl, G, hs⟩ := hI
    rcases hw with rfl | ⟨l, p, hp, hun⟩
    · refine s_one (s_forB (iK0 hK (nmP (v := .ref e0) 2 rfl)) G.on (fun i σ Hk H' => Go no Hb H Hk H') G (fun i σ' Hk Hm H1 H2 G g2 => G.trans g2) (fun i σ' Hk H' G => G.on) (fun i σ' Hk H' x hi => absurd hi (Nat.not_lt_zero _)) (fun σ' Hk H' ebk G => q hs Hk H' G) (hp := po))
    · refine s_one (s_forB (iT (nm 2 (R := rT (rP rInt rInt)) (a := tab l p) (h := (rT (rP rInt rInt)).up ebk hp))) G.on (fun i σ Hk H' => ∃ o5 o6 : Option V, σ = [some (.int (n : Int)), some u, some w, o3, o4, o5, o6] ∧ Go no Hb H Hk H') ⟨_, _, rfl, G⟩ (fun i σ' Hk Hm H1 H2 ⟨o5, o6, hσ, G⟩ g2 => ⟨o5, o6, hσ, G.trans g2⟩) (fun i σ' Hk H' ⟨_, _, _, G⟩ => G.on) (fun j σ' Hk H' x hj ebk2 hI hx => ?_) (fun σ' Hk H' ebk2 ⟨_, _, _, G⟩ => q hs Hk H' G) (hp := po))
      obtain ⟨o5, o6, rfl, G⟩ := hI
      obtain ⟨H0, e0', hx⟩ := hx
      obtain ⟨i, i', a, b, hpj, hi, hi', ha, hb, hab⟩ := hun j hj
      rw [hpj] at hx
      refine gpair 5 6 ((rP rInt rInt).up e0' hx) G.on fun z y hz hy => ?_
      obtain rfl : z = .int (i : Int) := hz
      obtain rfl : y = .int (i' : Int) := hy
      show wSs _ _ _ [some (.int (n : Int)), some u, some w, o3, o4, some (.int (i : Int)), some (.int (i' : Int))] H'
      have hu' := (rT rV).up (ebk.trans ebk2) hu
      refine s_one (s_if (ET.is (t' := false) (teq (EV.to (S := rInt) (b := a) (ixt (nm 1 (R := rT rV) (a := tab m f) (h := hu')) (nm 5 (R := rInt) (a := (i : Int)) (h := rfl)) hi) fun H v h => by rw [show v = f i from h, ha]; rfl) (EV.to (S := rInt) (b := b) (ixt (nm 1 (R := rT rV) (a := tab m f) (h := hu')) (nm 6 (R := rInt) (a := (i' : Int)) (h := rfl)) hi') fun H v h => by rw [show v = f i' from h, hb]; rfl)) (by simp [hab])) G.on (fun h => nomatch h) fun _ Hg H2 g2 => s_nil ⟨Hg, g2.base, _, _, rfl, G.trans g2⟩)
end K
/-! KT6: share_row. -/
namespace K
open PySem.Spec PySem PyProof.Rows L2 Z M
def rWV : Bool → Rep (List V)
  | true => rL rV
  | false => rT rV
def isEnt : V → Bool
  | .int i => decide (1 ≤ i)
  | _ => false
section
variable {ι : Type} {X : ι → Cx} {g : W5} {N : List Str} {k : Nat} {σ : L2.St} {Hb : Hp} {e tg : Expr} {b : Bool} {l : List V} {m : Nat} {f : Nat → V} {elts : List Expr} {kk : Nat} {p pos tpos : Pos}
theorem tyWV (h : EV X e σ Hb (rWV b) l) : EV X e σ Hb (Z.rTyp (if b then "list" else "tuple")) () := by
  cases b with
  | true => exact EV.to h fun v H ⟨p, xs, a, c, _⟩ => by subst a; exact Or.inl ⟨xs, c, rfl⟩
  | false => exact EV.to h fun v H ⟨p, xs, a, c, _⟩ => by subst a; exact Or.inr ⟨xs, c, rfl⟩
theorem lenWV [c : CtxZ X g N k] (hm : g.mg "len" = none) (h : EV X e σ Hb (rWV b) l) (hg : ∀ i, Gl (X i) "len" := by intro _; rfl) (hs : NS e := by intro _ _; rfl) : EV X (.Call (.Name "len" p) [e] [] pos) σ Hb rInt (l.length : Int) := by
  cases b with
  | true => exact len (S := rL rV) hm h hg hs
  | false => exact len (S := rT rV) hm h hg hs
theorem iEWV [c : CtxZ X g N k] (hm : g.mg "enumerate" = none) (h : EV X e σ Hb (rWV b) (tab m f)) (hg : ∀ i, Gl (X i) "enumerate" := by intro _; rfl) (hs : NS e := by intro _ _; rfl) :
    EI X (.Tuple elts kk tpos) (.Call (.Name "enumerate" p) [e] [] pos) σ Hb m (fun i v H => (rP rInt rV).r H v ((i : Int), f i)) := by
  cases b with
  | true => exact iEL hm h hg hs
  | false => exact iET hm h hg hs
theorem tupWV [c : CtxZ X g N k] (hm : g.mg "tuple" = none) (h : EV X e σ Hb (rWV b) l) (hg : ∀ i, Gl (X i) "tuple" := by intro _; rfl) (hs : NS e := by intro _ _; rfl) : EV X (.Call (.Name "tuple" p) [e] [] pos) σ Hb (rT rV) l := by
  cases b with
  | true => exact toTup hm (EV.to (S := rS rV) h fun _ _ z => rL.s z) hg hs
  | false => exact toTup hm (EV.to (S := rS rV) h fun _ _ z => rT.s z) hg hs
end
def spShare (CR : Addr) : Sp := fun vs H1 Q E => ∃ (Hb : Hp) (n : Nat) (u : V), vs = [.int (n : Int), u] ∧ Ex Hb H1 ∧ n ≤ 8 ∧
  ((u = .non ∧ ∀ d Hk H2, Go no Hb H1 Hk H2 → H2 d = some (.xd [("place", .int (-1))]) → E (.ref CR) (some d) H2) ∨
   ∃ (b : Bool) (m : Nat) (f : Nat → V), (rWV b).r Hb u (tab m f) ∧ m ≤ 9 ∧ (∀ i, i < m → m = n → (∀ s, s < i → isEnt (f s) = true) → (kindOf (f i)).isSome = true) ∧
    (m ≠ n → ∀ d Hk H2, Go no Hb H1 Hk H2 → H2 d = some (.xd [("place", .int (-1))]) → E (.ref CR) (some d) H2) ∧
    (∀ i, i < m → m = n → isEnt (f i) = false → (∀ s, s < i → isEnt (f s) = true) → ∀ d Hk H2, Go no Hb H1 Hk H2 → H2 d = some (.xd [("place", .int (i : Int))]) → E (.ref CR) (some d) H2) ∧
    (m = n → (∀ i, i < m → isEnt (f i) = true) → ∀ w Hk H2, Go no Hb H1 Hk H2 → (rT rV).r Hk w (tab m f) → Q w H2))
theorem ok_share {g : W5} {CR B : Addr} (D : DefOf g "share_row" pShareRow) (EB : ExB g "BadRow" CR B) (T : TX g) (FI : FnB g CX0 1 "is_int" ["thing"] [] spIsInt) : FnR g 3 "share_row" ["size", "thing"] [] (spShare CR) := by
  refine def_okR D pShareRowS (by decide +kernel) (fun vs H Q E ⟨Hb, n, u, h, _⟩ => by rw [h]; rfl) (fun _ _ _ _ _ _ us hl => match us, hl with | [_, _], _ => rfl) fun f0 cdv A outer s H vs Q E cx tk po ⟨Hb, n, u, hvs, e, hn, hh⟩ => ?_
  subst hvs
  have kb : ∀ b : Bool, kitB (if b then "list" else "tuple") "list" = some b ∧ kitB (if b then "list" else "tuple") "tuple" = some (!b) := fun b => by cases b <;> exact ⟨by decide +kernel, by decide +kernel⟩
  rcases hh with ⟨rfl, hE⟩ | ⟨b, m, f, hu, hm, hk, hE1, hE2, q⟩
  · refine s_cons (s_if (ET.is (t' := true) (tW (wor (u := true) (tnot (tv (isi2 T.isinstance (t := "NoneType") (nm 1 (R := Z.rTyp "NoneType") (a := ()) (h := (show (Z.rTyp "NoneType").r Hb V.non () from rfl))) (tyv T.list bt_list) (tyv T.tuple bt_tuple) (r := false) (r' := false) (by decide +kernel) (by decide +kernel)))) fun h => nomatch h)) rfl) e (fun _ Hk2 H2 g2 => ?_) fun h => nomatch h)
    exact s_one (s_raiseE EB tk (neg (cI (n := 1))) g2.on (fun y Hg3 H3 d g3 hy hd => by
      obtain rfl : y = .int (-1) := hy
      exact hE d _ _ (g2.trans g3) hd))
  · refine s_cons (s_if (t := !decide ((m : Int) = (n : Int))) (ET.is (tW (wor (tnot (tv (isi2 T.isinstance (tyWV (b := b) (nm 1 (R := rWV b) (a := tab m f) (h := hu))) (tyv T.list bt_list) (tyv T.tuple bt_tuple) (kb b).1 (kb b).2))) fun _ => wor1 (tne (lenWV (b := b) T.len (nm 1 (R := rWV b) (a := tab m f) (h := hu))) (nm 0 (R := rInt) (a := (n : Int)) (h := rfl))))) (by cases b <;> simp [tab_len])) e (fun ht Hk2 H2 g2 => ?_) fun ht Hk2 H2 g2 => s_nil ?_)
    · have hmn : m ≠ n := fun h => by subst h; simp at ht
      exact s_one (s_raiseE EB tk (neg (cI (n := 1))) g2.on (fun y Hg3 H3 d g3 hy hd => by
        obtain rfl : y = .int (-1) := hy
        exact hE1 hmn d _ _ (g2.trans g3) hd))
    have hmn : m = n := by simp at ht; omega
    have hu2 := (rWV b).up g2.base hu
    refine s_cons (s_forB (iEWV (b := b) T.enumerate (nm 1 (R := rWV b) (a := tab m f) (h := hu2))) g2.on (fun i σ Hk H' => ∃ o2 o3 : Option V, σ = [some (.int (n : Int)), some u, o2, o3] ∧ Go no Hb H Hk H' ∧ ∀ s, s < i → isEnt (f s) = true) ⟨none, none, rfl, g2, fun s hs => absurd hs (Nat.not_lt_zero _)⟩ (fun i σ' Hk Hm H1 H2 ⟨o2, o3, hσ, G, hs⟩ g2 => ⟨o2, o3, hσ, G.trans g2, hs⟩) (fun i σ' Hk H' ⟨_, _, _, G, _⟩ => G.on) (fun i σ' Hk H' x hi ebk hI hx => ?_) (fun σ' Hk H' ebk hI => ?_) (hp := po))
    · obtain ⟨o2, o3, rfl, G, hs⟩ := hI
      obtain ⟨H0, e0', hx⟩ := hx
      refine gpair 2 3 ((rP rInt rV).up e0' hx) G.on fun z y hz hy => ?_
      obtain rfl : z = .int (i : Int) := hz
      obtain rfl : y = f i := hy
      show wSs _ _ _ [some (.int (n : Int)), some u, some (.int (i : Int)), some (f i)] H'
      obtain ⟨t, ht2⟩ := Option.isSome_iff_exists.mp (hk i hi hmn hs)
      have k1 := kindOf_ok ht2
      refine s_one (s_if (t := !isEnt (f i)) ?_ G.on (fun ht3 Hg H2 g3 => ?_) fun ht3 Hg H2 g3 => s_nil ⟨Hg, g3.base, _, _, rfl, G.trans g3, fun s hs' => ?_⟩)
      · by_cases hint : ∃ a : Int, f i = .int a
        · obtain ⟨a, ha⟩ := hint
          rw [ha]
          rw [ha] at ht2 k1
          obtain rfl : t = "int" := by simp [kindOf] at ht2; exact ht2.symm
          exact ET.is (tW (wor (tnot (tv (call FI "int" (ac (nm 3 (R := Z.rTyp "int") (a := ()) (h := (k1 Hk).1)) a0) rfl (k1 Hb).2))) fun _ => wor1 (tlt (nm 3 (R := rInt) (a := a) (h := rfl)) (cI (n := 1))))) (by
            by_cases h : 1 ≤ a
            · have : ¬ a < 1 := by omega
              simp [isEnt, h, this]
            · have : a < 1 := by omega
              simp [isEnt, h, this])
        · have h2 : (t == "int") = false := by
            cases hf : f i <;> rw [hf] at ht2 <;> simp [kindOf] at ht2 <;> subst ht2 <;> first | rfl | exact absurd ⟨_, hf⟩ hint
          have h3 : isEnt (f i) = false := by
            cases hf : f i <;> first | rfl | exact absurd ⟨_, hf⟩ hint
          exact ET.is (tW (wor (u := true) (tnot (tv (call FI t (ac (nm 3 (R := Z.rTyp t) (a := ()) (h := (k1 Hk).1)) a0) rfl (k1 Hb).2))) fun h => by rw [h2] at h; cases h)) (by rw [h2, h3]; rfl)
      · have ht3 : isEnt (f i) = false := by simpa using ht3
        exact s_one (s_raiseE EB tk (nm 2 (R := rInt) (a := (i : Int)) (h := rfl)) g3.on (fun y Hg4 H4 d g4 hy hd => by
          obtain rfl : y = .int (i : Int) := hy
          exact hE2 i hi hmn ht3 hs d _ _ ((G.trans g3).trans g4) hd))
      · by_cases h : s = i
        · subst h; simpa using ht3
        · exact hs s (by omega)
    · obtain ⟨o2, o3, rfl, G, hs⟩ := hI
      exact s_one (s_ret (tupWV (b := b) T.tuple (nm 1 (R := rWV b) (a := tab m f) (h := (rWV b).up ebk hu2))) G.on fun w Hk3 H3 g3 hw => q hmn hs w Hk3 H3 (G.trans g3) hw)
end K
/-! KT7: check_states, share_row as they are called; a spoilt row. -/
namespace K
open PySem.Spec PySem PyProof.Rows L2 Z M
theorem ok_check {g : W5} {CS B e0 : Addr} (D : DefDf g "check_states" pCheckStates [.ref e0]) (EB : ExB g "BadState" CS B) (T : TX g) (FS : FnB g CX0 2 "is_state" ["size", "thing"] [] spIsState) (hK : Nil0 g e0) :
    FnR g 3 "check_states" ["size", "states", "unlike"] [] (spCheck CS e0) ∧ FnR g 3 "check_states" ["size", "states", "unlike"] [.ref e0] (spCheck CS e0) := by
  obtain ⟨f, fd, FD, hm⟩ := D
  have F : FnOk g.P g.w g.K g.mg g.base (L2.CX g.P g.w) 3 f fd ["size", "states", "unlike"] (spCheck CS e0) := FD.ok pCheckStatesS (fun vs H Q E ⟨Hb, n, m, f, u, w, h, _⟩ => by rw [h]; rfl) fun cdv A outer s H vs Q E hr h =>
    check_body EB T FS hK ⟨fun _ => rfl, fun _ => rfl, fun _ => rfl, fun _ => rfl, fun _ => rfl, fun _ => rfl, pCheckStatesS.nd, fun _ => rfl, fun _ => hr, namesOk_ok (by decide +kernel)⟩ (takes_of rfl rfl rfl (E₁ := fun e' s'' => L2.CX g.P g.w outer H s E e' s'') rfl) (passes_of (K := fun e s'' => L2.CX g.P g.w outer H s E e s'') (E₁ := fun e' s'' => L2.CX g.P g.w outer H s E e' s'') rfl) h
  obtain ⟨d1, v1, b1⟩ := FD.binds1 (ps := ["size", "states", "unlike"]) 3 1 (by simp) rfl fun T kV doc pm an cdv ct us its hl hi => match us, hl, its, hi with | [_, _, _], _, [_], _ => ⟨_, rfl, rfl⟩
  obtain ⟨d2, v2, b2⟩ := FD.binds1 (ps := ["size", "states", "unlike"]) 2 0 (by simp) rfl fun T kV doc pm an cdv ct us its hl hi => match us, hl, its, hi with | [_, _], _, [_], _ => ⟨_, rfl, rfl⟩
  exact ⟨⟨f, fd, d1, hm, FD.kp, b1, v1, F⟩, ⟨f, fd, d2, hm, FD.kp, b2, v2, F⟩⟩
theorem P2.vInt {H : Hp} : ∀ {xs : List V} {l : List Int}, P2 (rInt.r H) xs l → P2 (rV.r H) xs (l.map .int)
  | _, _, .nil => .nil
  | _, _, .cons a b => .cons a (P2.vInt b)
theorem P2.ofV {H : Hp} : ∀ {l : List Int} {xs : List V}, P2 (rV.r H) xs (l.map .int) → P2 (rInt.r H) xs l
  | [], _, .nil => .nil
  | _ :: _, _, .cons a b => .cons a (P2.ofV b)
theorem tup_vInt {H : Hp} {v : V} {l : List Int} (h : (rT rInt).r H v l) : (rT rV).r H v (l.map .int) := by
  obtain ⟨p, xs, e, b, r⟩ := h
  exact ⟨p, xs, e, b, P2.vInt r⟩
theorem tup_ofV {H : Hp} {v : V} {l : List Int} (h : (rT rV).r H v (l.map .int)) : (rT rInt).r H v l := by
  obtain ⟨p, xs, e, b, r⟩ := h
  exact ⟨p, xs, e, b, P2.ofV r⟩
theorem rW_V {b : Bool} {H : Hp} {v : V} {l : List Int} (h : (rW b).r H v l) : (rWV b).r H v (l.map .int) := by
  cases b with
  | true =>
    obtain ⟨p, xs, e, c, r⟩ := h
    exact ⟨p, xs, e, c, P2.vInt r⟩
  | false => exact tup_vInt h
theorem tab_listD {α : Type} (d : α) (l : List α) : l = tab l.length fun i => l.getD i d := tab_of rfl fun i hi => by simp [hi]
theorem check_good {g : W5} {CS e0 : Addr} (F : FnR g 3 "check_states" ["size", "states", "unlike"] [] (spCheck CS e0)) : FnB g (L2.CX g.P g.w) 3 "check_states" ["size", "states", "unlike"] [] spCheckOK := by
  refine F.good fun vs H Q E ⟨⟨n, xs, ps⟩, Hb, e, h0, ⟨h1, h2⟩, q⟩ => ?_
  obtain ⟨v, u, w, rfl, hv, hu, hw⟩ := AL.three h0
  dsimp only at hv hu hw h1 h2 q
  obtain rfl : v = .int (n : Int) := hv
  have hx : ∀ i, i < xs.length → xs.getD i 0 ∈ xs := fun i hi => by
    have : xs.getD i 0 = xs[i] := by simp [hi]
    rw [this]; exact List.getElem_mem hi
  have hst : ∀ i, i < xs.length → isSt n (.int (xs.getD i 0)) = true := fun i hi => by
    have := h1 _ (hx i hi)
    simp only [isSt, Bool.and_eq_true, decide_eq_true_eq]; exact this
  refine ⟨Hb, n, xs.length, fun i => .int (xs.getD i 0), u, w, rfl, e, ?_, fun i hi => rfl, fun i hi h => ?_, .inr ⟨ps.length, fun j => ps.getD j (0, 0), ?_, fun j hj => ?_⟩, fun _ Hk H2 G => q .non Hk H2 G rfl⟩
  · have := tup_vInt hu
    rw [tab_listD 0 xs, tab_map] at this
    exact this
  · rw [hst i hi] at h; cases h
  · rw [← tab_listD]; exact hw
  · have hm : ps.getD j (0, 0) ∈ ps := by
      have : ps.getD j (0, 0) = ps[j] := by simp [hj]
      rw [this]; exact List.getElem_mem hj
    obtain ⟨i, i', hp, a, b, ha, hb, hab⟩ := h2 _ hm
    have li : i < xs.length := (List.getElem?_eq_some_iff.mp ha).1
    have li' : i' < xs.length := (List.getElem?_eq_some_iff.mp hb).1
    refine ⟨i, i', a, b, hp, li, li', ?_, ?_, hab⟩
    · show V.int (xs.getD i 0) = _
      rw [List.getD_eq_getElem?_getD, ha]; rfl
    · show V.int (xs.getD i' 0) = _
      rw [List.getD_eq_getElem?_getD, hb]; rfl
theorem share_ok {CR : Addr} {Hb H : Hp} {n : Nat} {r : Nat → Int} {b : Bool} {u : V} {Q : VK} {E : XK} (e : Ex Hb H) (hu : (rW b).r Hb u (tab n r)) (hn : n ≤ 8) (hr : ∀ x, x < n → 1 ≤ r x) (q : ∀ w Hk H2, Go no Hb H Hk H2 → (rT rInt).r Hk w (tab n r) → Q w H2) : spShare CR [.int (n : Int), u] H Q E := by
  have ent : ∀ i, i < n → isEnt (.int (r i)) = true := fun i hi => by simp only [isEnt, decide_eq_true_eq]; exact hr i hi
  have h2 := rW_V hu
  rw [tab_map] at h2
  refine ⟨Hb, n, u, rfl, e, hn, .inr ⟨b, n, fun i => .int (r i), h2, by omega, fun _ _ _ _ => rfl, fun h => absurd rfl h, fun i hi _ h => ?_, fun _ _ w Hk H2 G hw => q w Hk H2 G (tup_ofV (by rw [tab_map]; exact hw))⟩⟩
  rw [ent i hi] at h; cases h
theorem share_good {g : W5} {CR : Addr} (F : FnR g 3 "share_row" ["size", "thing"] [] (spShare CR)) : FnB g (L2.CX g.P g.w) 3 "share_row" ["size", "thing"] [] spShareOK := by
  refine F.good fun vs H Q E ⟨⟨b, n, r⟩, Hb, e, h0, ⟨h1, h2⟩, q⟩ => ?_
  obtain ⟨v, u, rfl, hv, hu⟩ := AL.two h0
  obtain rfl : v = .int (n : Int) := hv
  exact share_ok e hu h1 h2 q
theorem badE_kind {w : V} (h : BadE w) : (kindOf w).isSome = true ∧ isEnt w = false := by
  unfold BadE at h
  simp only [List.mem_cons, List.not_mem_nil, or_false] at h
  rcases h with rfl | rfl | rfl | rfl | rfl | rfl | rfl <;> exact ⟨rfl, rfl⟩
theorem share_bad {CR : Addr} {Hb H : Hp} {n : Nat} {u : V} {pl : Int} {Q : VK} {E : XK} (e : Ex Hb H) (hu : (rSpt n).r Hb u pl) (hn : n ≤ 8) (hE : ∀ d Hk H2, Go no Hb H Hk H2 → H2 d = some (.xd [("place", .int pl)]) → E (.ref CR) (some d) H2) : spShare CR [.int (n : Int), u] H Q E := by
  rcases hu with ⟨rfl, rfl⟩ | ⟨p, xs, rfl, b, hl, hs⟩
  · exact ⟨Hb, n, .non, rfl, e, hn, .inl ⟨rfl, hE⟩⟩
  · refine ⟨Hb, n, .ref p, rfl, e, hn, .inr ?_⟩
    have rep : ∃ b0, (rWV b0).r Hb (.ref p) (tab xs.length fun i => xs.getD i .non) := by
      rw [← tab_listD]
      rcases b with b | b
      · exact ⟨true, p, xs, rfl, b, P2.self xs⟩
      · exact ⟨false, p, xs, rfl, b, P2.self xs⟩
    obtain ⟨b0, rep⟩ := rep
    rcases hs with ⟨hne, rfl⟩ | ⟨hle, t, w, rfl, hw, hbad, hbef⟩
    · exact ⟨b0, xs.length, _, rep, by omega, fun i hi h => absurd h hne, fun _ => hE, fun i hi h => absurd h hne, fun h => absurd h hne⟩
    · have lt : t < xs.length := (List.getElem?_eq_some_iff.mp hw).1
      have gt : xs.getD t .non = w := by rw [List.getD_eq_getElem?_getD, hw]; rfl
      have bad := badE_kind hbad
      have bef : ∀ s, s < t → isEnt (xs.getD s .non) = true ∧ (kindOf (xs.getD s .non)).isSome = true := fun s hs => by
        obtain ⟨i, hi, h1⟩ := hbef s hs
        rw [List.getD_eq_getElem?_getD, hi]
        exact ⟨by simp only [isEnt, Option.getD_some, decide_eq_true_eq]; exact h1, rfl⟩
      refine ⟨b0, xs.length, _, rep, by omega, fun i hi _ hall => ?_, fun h => absurd hle h, fun i hi _ hne hall => ?_, fun _ hall => ?_⟩
      · rcases Nat.lt_trichotomy i t with h | h | h
        · exact (bef i h).2
        · subst h; show (kindOf (xs.getD i .non)).isSome = true; rw [gt]; exact bad.1
        · have := hall t h
          have z : isEnt (xs.getD t .non) = true := this
          rw [gt, bad.2] at z; cases z
      · have it : i = t := by
          rcases Nat.lt_trichotomy i t with h | h | h
          · have z : isEnt (xs.getD i .non) = false := hne
            rw [(bef i h).1] at z; cases z
          · exact h
          · have z : isEnt (xs.getD t .non) = true := hall t h
            rw [gt, bad.2] at z; cases z
        subst it
        exact hE
      · have z : isEnt (xs.getD t .non) = true := hall t lt
        rw [gt, bad.2] at z; cases z
end K
/-! KT8: rates_of_state. -/
namespace K
open PySem.Spec PySem PyProof.Rows L2 Z M
def spRates (CC CS CR : Addr) : Sp := fun vs H1 Q E => ∃ (Hb : Hp) (n : Nat) (G : Mat) (v w u : V), vs = [v, w, u] ∧ Ex Hb H1 ∧ (rCh CC).r Hb v (n, G) ∧ (kindOf w).isSome = true ∧ n ≤ 8 ∧
  (isSt n w = false → ∀ d Hk H2, Go no Hb H1 Hk H2 → H2 d = some (.xd [("place", .int 0)]) → E (.ref CS) (some d) H2) ∧
  (isSt n w = true → (∃ pl, (rSpt n).r Hb u pl ∧ ∀ d Hk H2, Go no Hb H1 Hk H2 → H2 d = some (.xd [("place", .int pl)]) → E (.ref CR) (some d) H2) ∨
    ∃ (b : Bool) (x : Nat) (r : Nat → Int), w = .int (x : Int) ∧ x < n ∧ (rW b).r Hb u (tab n r) ∧ RowOk n r ∧ GridBd n G ∧ ∀ z Hk H2, Go no Hb H1 Hk H2 → (rTold n).r Hk z (due n G x r, r x) → Q z H2)
theorem ok_rates {g : W5} {CC CS CR e0 : Addr} (D : DefOf g "rates_of_state" pRatesOfState) (T : TX g) (cc : ClOk g CC tabF) (FK : FnR g 3 "check_states" ["size", "states", "unlike"] [.ref e0] (spCheck CS e0)) (FR : FnR g 3 "share_row" ["size", "thing"] [] (spShare CR)) (FF : FnB g CX0 2 "fraction" ["u", "v"] [] spFrac) :
    FnR g 4 "rates_of_state" ["chain", "x", "row"] [] (spRates CC CS CR) := by
  refine def_okR D pRatesOfStateS (by decide +kernel) (fun vs H Q E ⟨Hb, n, G, v, w, u, h, _⟩ => by rw [h]; rfl) (fun _ _ _ _ _ _ us hl => match us, hl with | [_, _, _], _ => rfl) fun f0 cdv A outer s H vs Q E cx tk po ⟨Hb, n, f, v, w, u, hvs, e, hv, hk, hn, hE1, hq⟩ => ?_
  subst hvs
  -- check_states
  refine s_cons (s_exprw (wcallX FK (fun _ => tk) (by decide) (EL.run (ac (chSize cc (nm 0 (R := rCh CC) (a := (n, f)) (h := hv))) (ac (dTs (R := rV) (l := [w]) (esc (nm 1 (R := rV) (a := w) (h := rfl)) es0) (by show 1 ≤ 1000; decide)) a0)) e fun vs2 Hk2 H2 g2 hvs2 => ?_)))
  obtain ⟨x1, x2, rfl, hx1, hx2⟩ := AL.two hvs2
  obtain rfl : x1 = .int (n : Int) := hx1
  refine ⟨Hk2, n, 1, fun _ => w, x2, .ref e0, rfl, g2.on, hx2, fun _ _ => hk, fun i hi hst d Hk3 H3 g3 hd => ?_, .inl rfl, fun hall Hk3 H3 g3 => ?_⟩
  · obtain rfl : i = 0 := by omega
    exact hE1 hst d Hk3 H3 (g2.trans g3) hd
  have hst : isSt n w = true := hall 0 (by omega)
  have G := g2.trans g3
  have hv := (rCh CC).up G.base hv
  rcases hq hst with ⟨pl, hu, hE2⟩ | ⟨b, x, r, rfl, hx, hu, hr, hf, q⟩
  · -- share_row refuses
    refine s_cons (s_setw 3 (wcallX FR (fun _ => tk) (by decide) (EL.run (ac (chSize cc (nm 0 (R := rCh CC) (a := (n, f)) (h := hv))) (ac (nm 2 (R := rSpt n) (a := pl) (h := (rSpt n).up G.base hu)) a0)) G.on fun vs3 Hk4 H4 g4 hvs3 => ?_)))
    obtain ⟨y1, y2, rfl, hy1, hy2⟩ := AL.two hvs3
    obtain rfl : y1 = .int (n : Int) := hy1
    exact share_bad g4.on hy2 hn fun d Hk5 H5 g5 hd => hE2 d Hk5 H5 ((G.trans g4).trans g5) hd
  refine s_cons (s_setw 3 (wcallX FR (fun _ => tk) (by decide) (EL.run (ac (chSize cc (nm 0 (R := rCh CC) (a := (n, f)) (h := hv))) (ac (nm 2 (R := rW b) (a := tab n r) (h := (rW b).up G.base hu)) a0)) G.on fun vs3 Hk4 H4 g4 hvs3 => ?_)))
  obtain ⟨y1, y2, rfl, hy1, hy2⟩ := AL.two hvs3
  obtain rfl : y1 = .int (n : Int) := hy1
  refine share_ok g4.on hy2 hn hr.lo fun vw Hk5 H5 g5 hw => ?_
  have G := (G.trans g4).trans g5
  have hv := (rCh CC).up (g4.base.trans g5.base) hv
  show wSs _ _ _ [some v, some (.int (x : Int)), some u, some vw, none, none, none, none, none, none, none] H5
  refine s_cons (s_nilL 4 fun fl hfl => ?_)
  obtain ⟨G, Fm⟩ := G.own hfl (o := .lst [])
  let pr : Nat → Int × Int := fun b => (frU (due n f x r b) (r x), frV (due n f x r b) (r x))
  have hrx := hr.lo x hx
  have hBr := hr.bd hx
  refine s_cons (s_forB (iET T.enumerate (chRows cc (nm 0 (R := rCh CC) (a := (n, f)) (h := hv)))) G.on
    (fun i σ Hk H' => ∃ (o5 o6 o7 o8 o9 o10 : Option V) (xs : List V), σ = [some v, some (.int (x : Int)), some u, some vw, some (.ref fl), o5, o6, o7, o8, o9, o10] ∧ Go no Hb H Hk H' ∧ Mu H Hk H' fl (.lst xs) ∧ P2 ((rP rInt rInt).r Hk) xs (tab i pr) ∧ Ex Hk5 Hk ∧ ∀ b, b < i → 0 ≤ due n f x r b)
    ⟨none, none, none, none, none, none, [], rfl, G, Fm, .nil, Ex.refl _, fun b hb => absurd hb (Nat.not_lt_zero _)⟩ (fun i σ' Hk Hm H1 H2 ⟨o5, o6, o7, o8, o9, o10, xs, hσ, G, Fm, hxs, e5, nn⟩ g2 => ⟨o5, o6, o7, o8, o9, o10, xs, hσ, G.trans g2, Fm.go0 g2, hxs.imp fun _ _ => (rP rInt rInt).up g2.base, e5.trans g2.base, nn⟩) (fun i σ' Hk H' ⟨_, _, _, _, _, _, _, _, G, _⟩ => G.on) (fun b σ' Hk H' z hb ebk hI hz => ?_) (fun σ' Hk H' ebk hI => ?_) (hp := po))
  · obtain ⟨o5, o6, o7, o8, o9, o10, xs, rfl, G, Fm, hxs, e5, nn⟩ := hI
    obtain ⟨H0, e0', hz⟩ := hz
    refine gpair 5 6 ((rP rInt (rT rInt)).up e0' hz) G.on fun z1 rates hz1 hrs => ?_
    obtain rfl : z1 = .int (b : Int) := hz1
    show wSs _ _ _ [some v, some (.int (x : Int)), some u, some vw, some (.ref fl), some (.int (b : Int)), some rates, o7, o8, o9, o10] H'
    have hv := (rCh CC).up e5 hv
    have hw := (rT rInt).up e5 hw
    refine s_one (s_if (teq (nm 5 (R := rInt) (a := (b : Int)) (h := rfl)) (nm 1 (R := rInt) (a := (x : Int)) (h := rfl))) G.on (fun ht Hg H6 g6 => ?_) fun ht Hg H6 g6 => ?_)
    · have hbx : b = x := by have := of_decide_eq_true ht; omega
      have G := G.trans g6
      have Fm := Fm.go0 g6
      have hxs := hxs.imp fun _ _ => (rP rInt rInt).up g6.base
      refine s_one (s_app (j := 4) (dP (R := rInt) (T := rInt) (a := 0) (b := 1) (ac cI (ac cI a0))) G.on Fm.at_ (by rw [hxs.len, tab_len]; omega) fun z Hg2 H7 g7 hz h7 => ?_)
      have Fm2 := Fm.go0 g7
      refine ⟨Hg2, g6.base.trans g7.base, _, _, _, _, _, _, xs ++ [z], rfl, (G.trans g7).mu Fm2, Fm2.wr, ?_, (e5.trans g6.base).trans g7.base, fun b' hb' => ?_⟩
      · rw [tab_succ]
        refine (hxs.imp fun _ _ => (rP rInt rInt).up g7.base).snoc ?_
        have : pr b = (0, 1) := by
          have d0 : due n f x r b = 0 := by unfold due; rw [if_pos hbx]
          show (frU (due n f x r b) (r x), frV (due n f x r b) (r x)) = _
          rw [d0]
          unfold frU frV
          have : Nat.gcd (0 : Int).natAbs (r x).natAbs = (r x).natAbs := by simp
          rw [this]
          have h3 : (((r x).natAbs : Nat) : Int) = r x := by omega
          rw [h3, Int.zero_ediv, Int.ediv_self (by omega)]
        rw [this]; exact hz
      · by_cases h : b' = b
        · subst h; unfold due; rw [if_pos hbx]; omega
        · exact nn b' (by omega)
    · have hbx : b ≠ x := by have := of_decide_eq_false ht; omega
      have G := G.trans g6
      have Fm := Fm.go0 g6
      have hxs := hxs.imp fun _ _ => (rP rInt rInt).up g6.base
      have hv := (rCh CC).up g6.base hv
      have hw := (rT rInt).up g6.base hw
      have hrs := (rT rInt).up g6.base hrs
      refine s_cons (s_set 7 (EV.is (a' := sm n fun y => if y = x then 0 else r y * f y b) (sum T.sum (lcf [("y", 8), ("entry", 9)] (iET T.enumerate (nm 3 (R := rT rInt) (a := tab n r) (h := hw))) (fun y => decide ((y : Int) ≠ (x : Int))) (fun y => r y * f y b) (by omega) fun y vy Hc H7 hy e1 e2 hvy => gpair 8 9 hvy e2 fun z1 z2 hz1 hz2 => ⟨rfl, rfl, ts1 (tne (nm 8 (R := rInt) (a := (y : Int)) (h := hz1)) (nm 1 (R := rInt) (a := (x : Int)) (h := rfl))), fun _ =>
        mulB (nm 9 (R := rInt) (a := r y) (h := hz2)) (ixt (ixt (chRows cc (nm 0 (R := rCh CC) (a := (n, f)) (h := (rCh CC).up e1 hv))) (nm 8 (R := rInt) (a := (y : Int)) (h := hz1)) hy) (nm 5 (R := rInt) (a := (b : Int)) (h := rfl)) hb) (RowOk.bd hr hy) (bd60 (hf.nn _ _ hy hb) (hf.le _ _ hy hb))⟩)) (by
          rw [got_sum]
          refine sm_congr fun y _ => ?_
          by_cases h : y = x
          · subst h; simp
          · have : ¬ (y : Int) = (x : Int) := by omega
            simp [h, this])) G.on fun z Hg3 H8 g8 hz => ?_)
      obtain rfl : z = .int (sm n fun y => if y = x then 0 else r y * f y b) := hz
      have G := G.trans g8
      have Fm := Fm.go0 g8
      have hxs := hxs.imp fun _ _ => (rP rInt rInt).up g8.base
      have hw := (rT rInt).up g8.base hw
      have hrs := (rT rInt).up g8.base hrs
      have hsum := sm_le (n := n) (g := f b) (B := 10 ^ 60) fun i hi => ⟨hf.nn _ _ hb hi, hf.le _ _ hb hi⟩
      have hs2 : sm n (f b) ≤ 10 ^ 62 := by
        have : (n : Int) * 10 ^ 60 ≤ 8 * 10 ^ 60 := Int.mul_le_mul_of_nonneg_right (by omega) (by decide +kernel)
        have h8 : (8 : Int) * 10 ^ 60 ≤ 10 ^ 62 := by decide +kernel
        omega
      refine s_cons (s_set 10 (EV.is (a' := due n f x r b) (sub (mulB (ixt (nm 3 (R := rT rInt) (a := tab n r) (h := hw)) (nm 5 (R := rInt) (a := (b : Int)) (h := rfl)) hb) (EV.is (a' := sm n (f b)) (sumT T.sum (nm 6 (R := rT rInt) (a := tab n (f b)) (h := hrs))) tab_sum) (RowOk.bd hr hb) (Bd.mulI (j := 0) hsum.1 hs2)) (nm 7 (R := rInt) (h := rfl))) (by unfold due; rw [if_neg hbx])) G.on fun z Hg4 H9 g9 hz => ?_)
      obtain rfl : z = .int (due n f x r b) := hz
      have G := G.trans g9
      have Fm := Fm.go0 g9
      have hxs := hxs.imp fun _ _ => (rP rInt rInt).up g9.base
      have hw := (rT rInt).up g9.base hw
      show wSs _ _ _ [some v, some (.int (x : Int)), some u, some vw, some (.ref fl), some (.int (b : Int)), some rates, some (.int (sm n fun y => if y = x then 0 else r y * f y b)), o8, o9, some (.int (due n f x r b))] H9
      refine s_cons (s_if (tlt (nm 10 (R := rInt) (a := due n f x r b) (h := rfl)) (cI (n := 0))) G.on (fun ht Hg5 H10 g10 => ?_) fun ht Hg5 H10 g10 => s_nil ?_)
      · have hneg : due n f x r b < 0 := of_decide_eq_true ht
        refine s_one (s_ret cN (G.trans g10).on fun z Hg6 H11 g11 hz => q z Hg6 H11 ((G.trans g10).trans g11) ?_)
        show (if _ then _ else _)
        rw [if_neg (fun h => by have h2 : 0 ≤ due n f x r b := h b hb; omega)]
        exact hz
      have hnn : 0 ≤ due n f x r b := by have := of_decide_eq_false ht; omega
      have G := G.trans g10
      have Fm := Fm.go0 g10
      have hxs := hxs.imp fun _ _ => (rP rInt rInt).up g10.base
      have hw := (rT rInt).up g10.base hw
      refine s_one (s_app (j := 4) (call FF (due n f x r b, r x) (ac (nm 10 (R := rInt) (a := due n f x r b) (h := rfl)) (ac (ixt (nm 3 (R := rT rInt) (a := tab n r) (h := hw)) (nm 1 (R := rInt) (a := (x : Int)) (h := rfl)) hx) a0)) rfl ⟨by show 0 < r x; omega, hBr⟩) G.on Fm.at_ (by rw [hxs.len, tab_len]; omega) fun z Hg6 H11 g11 hz h11 => ?_)
      have Fm2 := Fm.go0 g11
      refine ⟨Hg6, ((((g6.base.trans g8.base).trans g9.base).trans g10.base)).trans g11.base, _, _, _, _, _, _, xs ++ [z], rfl, (G.trans g11).mu Fm2, Fm2.wr, ?_, ((((e5.trans g6.base).trans g8.base).trans g9.base).trans g10.base).trans g11.base, fun b' hb' => ?_⟩
      · rw [tab_succ]
        exact (hxs.imp fun _ _ => (rP rInt rInt).up g11.base).snoc hz
      · by_cases h : b' = b
        · subst h; exact hnn
        · exact nn b' (by omega)
  · obtain ⟨o5, o6, o7, o8, o9, o10, xs, rfl, G, Fm, hxs, e5, nn⟩ := hI
    have G2 := G.fixm Fm
    refine s_one (s_ret (toTup T.tuple (EV.to (S := rS (rP rInt rInt)) (nm 4 (R := rL (rP rInt rInt)) (a := tab n pr) (h := ⟨fl, xs, rfl, upd_same, hxs.imp fun _ _ => (rP rInt rInt).up (Ex.new Fm.off)⟩)) fun _ _ h => rL.s h)) G2.on fun z Hg H2 g2 hz => q z Hg H2 (G2.trans g2) ?_)
    show (if _ then _ else _)
    rw [if_pos nn]
    exact hz
end K
/-! KT9: told. -/
namespace K
open PySem.Spec PySem PyProof.Rows L2 Z M
/-- which clause takes which exception -/
structure ExM (g : W5) (CS CR : Addr) : Prop where
  ss : PySem.W.exmOne g.K (.ref CS) (.ref CS) = some true
  rs : PySem.W.exmOne g.K (.ref CR) (.ref CS) = some false
  rr : PySem.W.exmOne g.K (.ref CR) (.ref CR) = some true
def Says (n : Nat) (G : Mat) (w u : V) (H : Hp) (s : Str) (i : Int) : Prop :=
  (isSt n w = false ∧ s = "state" ∧ i = 0) ∨ (isSt n w = true ∧ (rSpt n).r H u i ∧ s = "row") ∨ (∃ (b : Bool) (x : Nat) (r : Nat → Int), w = .int (x : Int) ∧ x < n ∧ (rW b).r H u (tab n r) ∧ RowOk n r ∧ GridBd n G ∧ s = "kept" ∧ i = 0)
def spAsk (CC : Addr) : Sp := fun vs H1 Q _ => ∃ (Hb : Hp) (n : Nat) (G : Mat) (v w u : V) (s : Str) (i : Int), vs = [v, w, u] ∧ Ex Hb H1 ∧ (rCh CC).r Hb v (n, G) ∧ (kindOf w).isSome = true ∧ n ≤ 8 ∧ Says n G w u Hb s i ∧
  ∀ z Hk H2, Go no Hb H1 Hk H2 → (rP rStr rInt).r Hk z (s, i) → Q z H2
/-- a suite's reading, whatever was caught -/
def wSu (X : Cx) (sts : List Stmt) : SuT := fun a cls d D σ H => ∃ t : TS, (∀ oe pn, Zc cls d oe → (∃ vs, oe.data = .fields vs) → PSs (X.suite a ((a, oe) :: pn)) sts t) ∧ t D σ H
theorem wSu_ok {X : Cx} {sts : List Stmt} {a : Addr} {oe : Obj} {cls : Value} {d : Option Addr} {pn : List (Addr × Obj)} (h1 : Zc cls d oe) (h2 : ∃ vs, oe.data = .fields vs) : PSs (X.suite a ((a, oe) :: pn)) sts (wSu X sts a cls d) :=
  ⟨fun pins s σ H D I ⟨t, ht, h⟩ => (ht oe pn h1 h2).run pins s σ H D I h⟩
/-- a try's body, whatever is wished of its exceptions -/
def wTry (X : Cx) (sts : List Stmt) (W : WX) : TS := fun D σ H => ∃ t : TS, (∀ pn xe, Takes (X.tr pn xe) W → PSs (X.tr pn xe) sts t) ∧ t D σ H
theorem wTry_ok {X : Cx} {sts : List Stmt} {W : WX} {pn : List (Addr × Obj)} {xe : Value → Shared → Prop} (tk : Takes (X.tr pn xe) W) : PSs (X.tr pn xe) sts (wTry X sts W) :=
  ⟨fun pins s σ H D I ⟨t, ht, h⟩ => (ht pn xe tk).run pins s σ H D I h⟩
theorem ok_ask {g : W5} {CC CS CR BS BR : Addr} (D : DefOf g "_law_told" sTold) (ES : ExB g "BadState" CS BS) (ER : ExB g "BadRow" CR BR) (EM : ExM g CS CR) (FR : FnR g 4 "rates_of_state" ["chain", "x", "row"] [] (spRates CC CS CR)) :
    FnB g CX0 5 "_law_told" ["_law_chain", "_law_x", "_law_row"] [] (spAsk CC) := by
  refine def_ok D sToldS (by decide +kernel) (fun vs₀ H Q E ⟨Hb, n₀, G, v₀, w₀, u₀, s₀, i₀, h₀, _⟩ => by rw [h₀]; rfl) (fun _ _ _ _ _ _ us₀ hl₀ => match us₀, hl₀ with | [_, _, _], _ => rfl) fun f0₀ cdv₀ A outer₀ s₀ H vs₀ Q E cx₀ ⟨Hb, n₀, G, v₀, w₀, u₀, st₀, i₀, hvs₀, e₀, hv₀, hk₀, hn₀, hs₀, q₀⟩ => ?_
  subst hvs₀
  -- ('kept', 0)
  refine s_cons (s_set 3 (dP (R := rStr) (T := rInt) (a := "kept") (b := 0) (ac (cS (n := "kept")) (ac (cI (n := 0)) a0))) e₀ fun y0₀ Hk2 H2 g2₀ hy0₀ => ?_)
  show wSs _ _ _ [some v₀, some w₀, some u₀, some y0₀, none] H2
  have hv₀ := (rCh CC).up g2₀.base hv₀
  obtain ⟨f₀, fd₀, ds₀, m1₀, m2₀, m3₀, m4₀, F⟩ := FR
  cases m4₀
  -- the end
  have fin₀ : ∀ (z₀ : V) (Hk3 H3 : Hp) (o4₀ : Option V), Go no Hb H Hk3 H3 → (rP rStr rInt).r Hk3 z₀ (st₀, i₀) → wSs (cxOf CX0 g.P g.w g.K g.mg g.base sToldN "_law_told" (defScope sTold) f0₀ cdv₀ A outer₀ s₀ H E).nox [(defBody sTold).getD 2 (.Pass ⟨0, 0, 0, 0⟩)] { nx := fun _ H' => Q .non H', rt := Q } [some v₀, some w₀, some u₀, some z₀, o4₀] H3 :=
    fun z₀ Hk3 H3 o4₀ G3 hz₀ => s_one (s_ret (nm 3 (R := rP rStr rInt) (a := (st₀, i₀)) (h := hz₀)) G3.on fun z2₀ Hk4 H4 g4₀ hz2₀ => q₀ z2₀ Hk4 H4 (G3.trans g4₀) hz2₀)
  -- a₀ suite₀
  have suite₀ : ∀ (C B : Addr) (x : Str) (EB : ExB g x C B) (k₀ : Nat) (txt₀ : Str) (p1₀ p2₀ p3₀ p4₀ p5₀ p6₀ : Pos) (j1₀ : Nat) (a₀ d₀ : Addr) (Hk3 H3 : Hp) (pl₀ : Int), Go no Hb H Hk3 H3 → H3 d₀ = some (.xd [("place", .int pl₀)]) → st₀ = txt₀ → i₀ = pl₀ →
      wSu (cxOf CX0 g.P g.w g.K g.mg g.base sToldN "_law_told" (defScope sTold) f0₀ cdv₀ A outer₀ s₀ H E).nox [.Assign [.Name "_law_told_here" p1₀] (.Tuple [.Constant (.str txt₀) j1₀ p2₀, .Attribute (.Name "error" p3₀) "place" p4₀] k₀ p5₀) p6₀] a₀ (.ref C) (some d₀)
        (offs 4 { nx := fun σ'₀ H' => wSs (cxOf CX0 g.P g.w g.K g.mg g.base sToldN "_law_told" (defScope sTold) f0₀ cdv₀ A outer₀ s₀ H E).nox [(defBody sTold).getD 2 (.Pass ⟨0, 0, 0, 0⟩)] { nx := fun _ H' => Q .non H', rt := Q } σ'₀ H', rt := Q }) [some v₀, some w₀, some u₀, some y0₀, some (.ref a₀)] H3 :=
    fun C B x EB k₀ txt₀ p1₀ p2₀ p3₀ p4₀ p5₀ p6₀ j1₀ a₀ d₀ Hk3 H3 pl₀ G3 hd₀ ht₀ hi₀ => ⟨_, fun oe₀ pn₀ hz₀ hf₀ => pss_one (ps_set (i := 3) cx₀.nd rfl (.inl rfl) (pe_tup (pa_cons pe_str (pa_cons (pe_xf EB.xf EB.np hz₀ hf₀ (pe_var (i := 4) rfl (.inl rfl) (by decide) (by decide))) pa_nil rfl) rfl)) (by rfl) (.inl rfl)), by
      refine ⟨.ref a₀, rfl, rfl, rfl, d₀, _, .int pl₀, rfl, hd₀, rfl, ?_⟩
      refine ⟨by show 2 ≤ sizeLine; decide, fun p₀ hp₀ => ?_⟩
      subst ht₀ hi₀
      exact fin₀ (.ref p₀) (upd Hk3 p₀ (.tup [.str st₀, .int i₀])) _ none (G3.trans (Go.new G3.on hp₀)) ⟨p₀, .str st₀, .int i₀, rfl, upd_same, rfl, rfl⟩⟩
  refine s_cons ⟨_, ps_clauses (X := (cxOf CX0 g.P g.w g.K g.mg g.base sToldN "_law_told" (defScope sTold) f0₀ cdv₀ A outer₀ s₀ H E).nox) (n := "error") (i := 4) (Wout := fun _ _ _ _ => False) rfl rfl cx₀.nd rfl (by rfl) takes_none5
    (fun W pn₀ xe₀ tk₀ _ => wTry_ok tk₀) (.cons (c := .ref CS) ⟨by rfl, by decide, .inl ES.mg⟩ (fun a₀ oe₀ cls₀ d₀ pn₀ h1₀ h2₀ => wSu_ok h1₀ h2₀) (.cons (c := .ref CR) ⟨by rfl, by decide, .inl ER.mg⟩ (fun a₀ oe₀ cls₀ d₀ pn₀ h1₀ h2₀ => wSu_ok h1₀ h2₀) .nil)), ?_⟩
  refine ⟨_, fun pn₀ xe₀ tk₀ => pss_one (ps_expr (pe_callS (CX := L2.CX g.P g.w) (k := 4) (f := f₀) (fd := fd₀) (ps := ["chain", "x", "row"]) F ((cx₀.room ()).mono (by decide)) (by rfl) m1₀ m2₀ m3₀ (fun σ₀ => passAt tk₀ σ₀) (pa_cons (pe_var (i := 0) rfl (.inl rfl) (by decide) (by decide)) (pa_cons (pe_var (i := 1) rfl (.inl rfl) (by decide) (by decide)) (pa_cons (pe_var (i := 2) rfl (.inl rfl) (by decide) (by decide)) pa_nil rfl) rfl) rfl) (by decide)) (by rfl)), ?_⟩
  refine ⟨v₀, rfl, w₀, rfl, u₀, rfl, Hk2, n₀, G, v₀, w₀, u₀, rfl, g2₀.on, hv₀, hk₀, hn₀, fun hst₀ d₀ Hk3 H3 g3₀ hd₀ => ?_, fun hst₀ => ?_⟩
  · refine ⟨true, EM.ss, fun _ a₀ ha₀ => ?_, fun (h₀ : true = false) => absurd h₀.symm Bool.false_ne_true⟩
    have : st₀ = "state" ∧ i₀ = 0 := by
      rcases hs₀ with ⟨_, h₀⟩ | ⟨h₀, _⟩ | ⟨b, x, r, rfl, hx, _⟩
      · exact h₀
      · rw [hst₀] at h₀; cases h₀
      · simp [isSt] at hst₀; omega
    exact suite₀ CS BS "BadState" ES _ "state" _ _ _ _ _ _ _ a₀ d₀ Hk3 H3 0 (g2₀.trans g3₀) hd₀ this.1 this.2
  · rcases hs₀ with ⟨h₀, _⟩ | ⟨_, hu, hrow⟩ | ⟨b, x, r, hw, hx, hu, hr, hf₀, hkp, hi₀⟩
    · rw [hst₀] at h₀; cases h₀
    · refine .inl ⟨i₀, (rSpt n₀).up g2₀.base hu, fun d₀ Hk3 H3 g3₀ hd₀ => ⟨false, EM.rs, fun (h₀ : false = true) => absurd h₀ Bool.false_ne_true, fun _ => ⟨true, EM.rr, fun _ a₀ ha₀ => ?_, fun (h₀ : true = false) => absurd h₀.symm Bool.false_ne_true⟩⟩⟩
      exact suite₀ CR BR "BadRow" ER _ "row" _ _ _ _ _ _ _ a₀ d₀ Hk3 H3 i₀ (g2₀.trans g3₀) hd₀ hrow rfl
    · subst hkp hi₀
      exact .inr ⟨b, x, r, hw, hx, (rW b).up g2₀.base hu, hr, hf₀, fun z₀ Hk3 H3 g3₀ hz₀ => fin₀ y0₀ Hk3 H3 none (g2₀.trans g3₀) ((rP rStr rInt).up g3₀.base hy0₀)⟩
end K
/-! KU: refusals. -/
namespace K
open PySem.Spec PySem PyProof.Rows L2 Z M
/-- the three words -/
inductive Tg | st | rw | kp deriving DecidableEq
def Tg.str : Tg → Str
  | .st => "state"
  | .rw => "row"
  | .kp => "kept"
instance : PySem.W.Datum Tg where
  toD t := .str t.str
  plain _ := rfl
  eqv a b := by simp only [PyData.eqv]; cases a <;> cases b <;> decide +kernel
  depth := 0
  depth_le _ := Nat.le_refl _
def rTg : Rep Tg := ⟨fun _ v t => v = .str t.str, fun _ h => h⟩
instance : DR rTg := ⟨fun {K H v a} h => by cases (show v = .str a.str from h); exact .str a.str, fun a => by cases a <;> decide +kernel⟩
def rSays (n : Nat) (G : Mat) (w : V) : Rep (Tg × Int) := ⟨fun H u t => Says n G w u H t.1.str t.2, fun e h => by
  rcases h with h | ⟨h1, h2, h3⟩ | ⟨b, x, r, h1, h2, h3, h4⟩
  · exact .inl h
  · exact .inr (.inl ⟨h1, (rSpt n).up e h2, h3⟩)
  · exact .inr (.inr ⟨b, x, r, h1, h2, (rW b).up e h3, h4⟩)⟩
abbrev spAskF (CC : Addr) : Sp := spF (fun t : Nat × Mat × V × Tg × Int => al3 (rCh CC) (t.1, t.2.1) rV t.2.2.1 (rSays t.1 t.2.1 t.2.2.1) t.2.2.2) (fun t => t.1 ≤ 8 ∧ (kindOf t.2.2.1).isSome = true) (fun t v H => (rP rTg rInt).r H v t.2.2.2)
theorem askF {g : W5} {CC : Addr} (F : FnB g CX0 5 "_law_told" ["_law_chain", "_law_x", "_law_row"] [] (spAsk CC)) : FnB g CX0 5 "_law_told" ["_law_chain", "_law_x", "_law_row"] [] (spAskF CC) := by
  obtain ⟨⟨f, fd, ds, h1, h2, h3, h4, h5⟩, h6⟩ := F
  refine ⟨⟨f, fd, ds, h1, h2, h3, h4, h5.imp fun vs H Q E ⟨⟨n, G, w, s, i⟩, Hb, e, h0, ⟨hn, hk⟩, q⟩ => ?_⟩, h6⟩
  obtain ⟨v, u, z, rfl, hv, hu, hz⟩ := AL.three h0
  obtain rfl : u = w := hu
  exact ⟨Hb, n, G, v, u, z, s.str, i, rfl, e, hv, hk, hn, hz, fun z Hk H2 g2 hz2 => q z Hk H2 g2 hz2⟩
def spRefu (CC : Addr) : Sp := fun vs H1 Q _ => ∃ (Hb : Hp) (d : Addr) (n : Nat) (G : Mat) (x : Nat) (r : Nat → Int) (v u : V), vs = [.ref d, v, .int (x : Int), u] ∧ Ex Hb H1 ∧ Hb d = none ∧ Dw H1 d ∧ (rCh CC).r Hb v (n, G) ∧ (rL rInt).r Hb u (tab n r) ∧ RowOk n r ∧ GridBd n G ∧ 2 ≤ n ∧ x < n ∧
  ∀ Hk H2, Go (· = d) Hb H1 Hk H2 → Q (.bl true) H2
theorem ok_refu {g : W5} {CC : Addr} (D : DefOf g "_law_refusals" sRefusals) (T : TX g) (FT : FnB g CX0 1 "_law_take" ["_law_draws_here", "_law_many"] [] spTake) (FL : FnB g CX0 2 "_law_lot_spoilt" ["_law_draws_here", "_law_row"] [] spSpoilt) (FA : FnB g CX0 5 "_law_told" ["_law_chain", "_law_x", "_law_row"] [] (spAskF CC)) :
    FnB g CX0 6 "_law_refusals" ["_law_draws_here", "_law_chain", "_law_x", "_law_row"] [] (spRefu CC) := by
  refine def_ok D sRefusalsS (by decide +kernel) (fun vs H Q E ⟨Hb, d, n, G, x, r, v, u, h, _⟩ => by rw [h]; rfl) (fun _ _ _ _ _ _ us hl => match us, hl with | [_, _, _, _], _ => rfl) fun f0 cdv A outer s H vs Q E cx ⟨Hb, d, n, f, x, r, v, u, hvs, e, hd, dw, hv, hu, hr, hf, hn2, hx, q⟩ => ?_
  subst hvs
  have hn := hr.n8
  refine s_cons (s_setw 4 (wix (l := [.int (-1), .int (n : Int), .bl true, .non, .str "0", .bl false])
    (dLs (R := rV) (esc (EV.to (neg (cI (n := 1))) fun _ _ h => h) (esc (EV.to (EV.is (a' := (n : Int)) (len T.len (nm 3 (R := rL rInt) (a := tab n r) (h := hu))) (by rw [tab_len])) fun _ _ h => h) (esc (EV.to (cB (n := true)) fun _ _ h => h) (esc cN (esc (EV.to (cS (n := "0")) fun _ _ h => h) (esc (EV.to (cB (n := false)) fun _ _ h => h) es0)))))) (by show 6 ≤ 1000; decide))
    (take 0 FT (cI (n := 6))) (fun i hi => by have : 0 ≤ i ∧ (i < 6 ∨ i = 0) := hi; simp; omega) e hd dw fun bad H1 g1 dw1 hbad => ?_))
  have G : Gd d Hb H H1 := g1
  have hb2 : isSt n bad = false ∧ (kindOf bad).isSome = true := by
    simp only [List.mem_cons, List.not_mem_nil, or_false] at hbad
    rcases hbad with rfl | rfl | rfl | rfl | rfl | rfl <;> exact ⟨by simp [isSt], rfl⟩
  show wSs _ _ _ [some (.ref d), some v, some (.int (x : Int)), some u, some bad, none] H1
  refine s_cons (s_setw 5 (wcall FL (by decide) ⟨_, fun _ => pa_cons (pe_var (i := 0) rfl (.inl rfl) (by decide) (by decide)) (pa_cons (pe_var (i := 3) rfl (.inl rfl) (by decide) (by decide)) pa_nil rfl) rfl, _, rfl, _, rfl, Hb, d, n, r, u, rfl, G.on, hd, dw1, hu, hr, hn2, fun sp pl Hk2 H2 g2 dw2 hsp => ?_⟩))
  have G : Go (· = d) Hb H Hk2 H2 := g1.trans g2
  have hv := (rCh CC).up G.base hv
  have hu := (rL rInt).up G.base hu
  show wSs _ _ _ [some (.ref d), some v, some (.int (x : Int)), some u, some bad, some sp] H2
  have hst : isSt n (.int (x : Int)) = true := by simp [isSt]; omega
  refine s_cons (s_if (ET.is (t' := false) (tW (wor (tNeD (R := rP rTg rInt) (a := (.st, 0)) (b := (.st, 0)) (call FA (n, f, bad, .st, 0) (ac (nm 1 (R := rCh CC) (a := (n, f)) (h := hv)) (ac (nm 4 (R := rV) (a := bad) (h := rfl)) (ac (EV.to (S := rSays n f bad) (b := (.st, 0)) (pr0 (nm 5 (R := rP (rSpt n) rInt) (a := (pl, pl)) (h := hsp))) fun _ _ _ => .inl ⟨hb2.1, rfl, rfl⟩) a0))) rfl ⟨hn, hb2.2⟩) (dP (ac (EV.to (S := rTg) (b := .st) (cS (n := "state")) fun _ _ h => h) (ac (cI (n := 0)) a0))))
    fun _ => wor1 (tNeD (R := rP rTg rInt) (a := (.st, 0)) (b := (.st, 0)) (call FA (n, f, bad, .st, 0) (ac (nm 1 (R := rCh CC) (a := (n, f)) (h := hv)) (ac (nm 4 (R := rV) (a := bad) (h := rfl)) (ac (EV.to (S := rSays n f bad) (b := (.st, 0)) (nm 3 (R := rL rInt) (a := tab n r) (h := hu)) fun _ _ _ => .inl ⟨hb2.1, rfl, rfl⟩) a0))) rfl ⟨hn, hb2.2⟩) (dP (ac (EV.to (S := rTg) (b := .st) (cS (n := "state")) fun _ _ h => h) (ac (cI (n := 0)) a0)))))) (by simp)) G.on (fun h => nomatch h) fun _ Hk3 H3 g3 => s_nil ?_)
  have G := G.trans g3.more
  have hv := (rCh CC).up g3.base hv
  have hu := (rL rInt).up g3.base hu
  have hsp := (rP (rSpt n) rInt).up g3.base hsp
  refine s_one (s_ret (EV.is (a' := true) (vand (eqD (R := rP rTg rInt) (a := (.rw, pl)) (b := (.rw, pl)) (call FA (n, f, .int (x : Int), .rw, pl) (ac (nm 1 (R := rCh CC) (a := (n, f)) (h := hv)) (ac (nm 2 (R := rV) (a := .int (x : Int)) (h := rfl)) (ac (EV.to (S := rSays n f (.int (x : Int))) (b := (.rw, pl)) (pr0 (nm 5 (R := rP (rSpt n) rInt) (a := (pl, pl)) (h := hsp))) fun _ _ h => .inr (.inl ⟨hst, h, rfl⟩)) a0))) rfl ⟨hn, rfl⟩) (dP (ac (EV.to (S := rTg) (b := .rw) (cS (n := "row")) fun _ _ h => h) (ac (pr1 (nm 5 (R := rP (rSpt n) rInt) (a := (pl, pl)) (h := hsp))) a0))))
    fun _ => vone (eqD (R := rP rTg rInt) (a := (.kp, 0)) (b := (.kp, 0)) (call FA (n, f, .int (x : Int), .kp, 0) (ac (nm 1 (R := rCh CC) (a := (n, f)) (h := hv)) (ac (nm 2 (R := rV) (a := .int (x : Int)) (h := rfl)) (ac (EV.to (S := rSays n f (.int (x : Int))) (b := (.kp, 0)) (toTup T.tuple (EV.to (S := rS rInt) (nm 3 (R := rL rInt) (a := tab n r) (h := hu)) fun _ _ h => rL.s h)) fun _ _ h => .inr (.inr ⟨false, x, r, rfl, hx, h, hr, hf, rfl, rfl⟩)) a0))) rfl ⟨hn, rfl⟩) (dP (ac (EV.to (S := rTg) (b := .kp) (cS (n := "kept")) fun _ _ h => h) (ac (cI (n := 0)) a0))))) (by simp)) G.on fun z Hk4 H4 g4 hz => ?_)
  obtain rfl : z = .bl true := hz
  exact q Hk4 H4 (G.trans g4.more)
end K
/-! KV: reached_right. -/
namespace K
open PySem.Spec PySem PyProof.Rows L2 Z M
section
variable {ι : Type} {X : ι → Cx} {σ : L2.St} {Hb H Hk H' : Hp} {e : Expr} {n : Nat} {f : Nat → Nat → Int} {p m p2 : Addr} {as as2 : List Addr} {l : Nat → Int} {x : Nat} {o : HO}
/-- a new matrix, as a value of the base -/
theorem EM.ev (h : EM X e σ Hb n f) : EV X e σ Hb (rL (rL rInt)) (mat n f) := fun H1 c Q q => h H1 c Q fun p as H2 hf ex mx => by
  obtain ⟨G, mm⟩ := Go.ownM (Go.refl c) ex hf mx
  obtain ⟨Hn, G2, _, m2⟩ := G.fixM mm
  exact q _ Hn H2 G2 m2.rep
/-- a row put into it -/
theorem MxM.row (M : MxM H Hk H' p as n f) (hx : x < n) (hm : H' m = some (.lst ((tab n l).map .int))) (h1 : ∀ b ∈ p :: as, b ≠ m) (h2 : H m = none) (h3 : Hk m = none) : MxM H Hk (upd H' p (.lst ((as.map V.ref).set x (.ref m)))) p (as.set x m) n (spot x l f) := by
  have lx : x < as.length := by rw [M.len]; exact hx
  have mm : ∀ b ∈ p :: as.set x m, b ∈ p :: as ∨ b = m := fun b hb => by
    rcases List.mem_cons.1 hb with z | z
    · exact .inl (by rw [z]; exact List.mem_cons_self ..)
    · rcases List.mem_or_eq_of_mem_set z with z | z
      · exact .inl (List.mem_cons_of_mem _ z)
      · exact .inr z
  have hpm : p ≠ m := h1 p (List.mem_cons_self ..)
  have hms : m ∉ as := fun z => h1 m (List.mem_cons_of_mem _ z) rfl
  refine ⟨⟨by rw [List.length_set]; exact M.len, ?_, fun z => ?_, by rw [upd_same, List.map_set], fun i a ha => ?_⟩, fun b hb => ?_, fun b hb => ?_⟩
  · refine List.pairwise_iff_getElem.mpr fun i j hi hj hij => ?_
    rw [List.length_set] at hi hj
    rw [List.getElem_set, List.getElem_set]
    have nd := List.pairwise_iff_getElem.mp M.nd i j hi hj hij
    split
    · split
      · omega
      · exact fun z => hms (z ▸ List.getElem_mem hj)
    · split
      · exact fun z => hms (z ▸ List.getElem_mem hi)
      · exact nd
  · rcases List.mem_or_eq_of_mem_set z with z | z
    · exact M.out z
    · exact hpm z
  · by_cases z : x = i
    · subst z
      rw [List.getElem?_set_self lx] at ha
      cases ha
      rw [upd_ne (Ne.symm hpm), hm]
      unfold spot; simp
    · rw [List.getElem?_set_ne z] at ha
      have hpa : a ≠ p := fun w => M.out (w ▸ List.mem_of_getElem? ha)
      rw [upd_ne hpa, M.row i a ha]
      unfold spot
      have : i ≠ x := fun w => z w.symm
      simp [this]
  · rcases mm b hb with z | z
    · exact M.new b z
    · rw [z]; exact h2
  · rcases mm b hb with z | z
    · exact M.off b z
    · rw [z]; exact h3
theorem MxM.aside (M : MxM H Hk H' p as n f) (h : p2 ∉ p :: as) : MxM H Hk (upd H' p2 o) p as n f := by
  have ne : ∀ b ∈ p :: as, b ≠ p2 := fun b hb z => h (z ▸ hb)
  exact ⟨⟨M.len, M.nd, M.out, by rw [upd_ne (ne p (List.mem_cons_self ..))]; exact M.top, fun i a ha => by rw [upd_ne (ne a (List.mem_cons_of_mem _ (List.mem_of_getElem? ha)))]; exact M.row i a ha⟩, M.new, M.off⟩
end
structure ReachPre (n : Nat) (f : Mat) (x : Nat) (r l t : Nat → Int) : Prop where
  hx : x < n
  hr : RowOk n r
  n5 : n ≤ 5
  tb : TabOk n f
  hJ : Joined n f
  lx : l x = 0
  tx : t x = 0
  l0 : ∀ b, b < n → 0 ≤ l b
  lt : ∀ b, b < n → l b ≤ t b
  t0 : ∀ b, b < n → t b ≤ 10 ^ 24
  fl : ∀ a b, a < n → b < n → f a b ≤ 10 ^ 12
  pos : ∀ b, b < n → 0 < f x b → 0 < l b
section
variable {n x : Nat} {f : Mat} {r l t : Nat → Int}
theorem ReachPre.le (h : ReachPre n f x r l t) : ∀ a b, a < n → b < n → spot x l f a b ≤ spot x t f a b := fun a b ha hb => by
  unfold spot; split
  · exact h.lt b hb
  · exact Int.le_refl _
theorem ReachPre.tabL (h : ReachPre n f x r l t) : TabOk n (spot x l f) := ⟨h.tb.lo, h.tb.hi, fun a b ha hb => by
  unfold spot; split
  · exact h.l0 b hb
  · exact h.tb.nn a b ha hb, fun a ha => by
  unfold spot; split
  · rename_i z; rw [z]; exact h.lx
  · exact h.tb.dg a ha⟩
theorem ReachPre.tabT (h : ReachPre n f x r l t) : TabOk n (spot x t f) := ⟨h.tb.lo, h.tb.hi, fun a b ha hb => Int.le_trans (h.tabL.nn a b ha hb) (h.le a b ha hb), fun a ha => by
  unfold spot; split
  · rename_i z; rw [z]; exact h.tx
  · exact h.tb.dg a ha⟩
theorem ReachPre.ntOk (h : ReachPre n f x r l t) : NtOk n (spot x l f) (spot x t f) :=
  have jl : Joined n (spot x l f) := joined_mono (fun a b ha hb hp => by
    unfold spot; split
    · rename_i z; rw [z] at hp; exact h.pos b hb hp
    · exact hp) h.hJ
  ⟨h.tabL, h.tabT, jl, joined_mono (fun a b ha hb hp => Int.lt_of_lt_of_le hp (h.le a b ha hb)) jl, h.le⟩
theorem ReachPre.lim (h : ReachPre n f x r l t) : ∀ a b, a < n → b < n → 0 ≤ spot x l f a b ∧ spot x l f a b ≤ spot x t f a b ∧ spot x t f a b ≤ 10 ^ 24 := fun a b ha hb => ⟨h.tabL.nn a b ha hb, h.le a b ha hb, by
  unfold spot; split
  · exact h.t0 b hb
  · exact Int.le_trans (h.fl a b ha hb) (by decide +kernel)⟩
theorem ReachPre.flow (h : ReachPre n f x r l t) {F : Mat} (c : Circ n (scl r (spot x l f)) (scl r (spot x t f)) F) : (∀ a b, a < n → b < n → 0 ≤ F a b ∧ F a b ≤ 10 ^ 30) ∧ TabOk n (ratesOf n r F) ∧ Joined n (ratesOf n r F) := by
  have hd := circ_due h.hx h.lx h.tx c
  have b0 : ∀ a b, a < n → b < n → 0 ≤ F a b ∧ F a b ≤ 10 ^ 30 := fun a b ha hb => by
    obtain ⟨c1, c2⟩ := c.bd a b ha hb
    obtain ⟨h1, h2, h3⟩ := h.lim a b ha hb
    have r1 := h.hr.lo a ha
    have r2 := h.hr.hi a ha
    refine ⟨Int.le_trans (Int.mul_nonneg (by omega) h1) c1, Int.le_trans c2 ?_⟩
    have : r a * spot x t f a b ≤ 1000000 * 10 ^ 24 := Int.mul_le_mul r2 h3 (by omega) (by decide)
    exact Int.le_trans this (by decide +kernel)
  have eqF : ∀ a b, a < n → b < n → ratesOf n r F a b = ratesOf n r (dueF n f x r) a b := fun a b ha hb => by
    unfold ratesOf; rw [hd a b ha hb]
  have nnd : ∀ b, b < n → 0 ≤ due n f x r b := fun b hb => by
    have := hd x b h.hx hb
    unfold dueF at this
    rw [if_pos rfl] at this
    rw [← this]; exact (b0 x b h.hx hb).1
  refine ⟨b0, ⟨h.tb.lo, h.tb.hi, fun a b ha hb => rates_nn h.hr.lo ha (b0 a b ha hb).1, fun a ha => ?_⟩, joined_mono (fun a b ha hb hp => ?_) (joined_rates h.hx h.hr.lo h.tb.nn nnd h.hJ)⟩
  · obtain ⟨c1, c2⟩ := c.bd a a ha ha
    have z1 : F a a = 0 := by
      have e2 : scl r (spot x t f) a a = 0 := by show r a * spot x t f a a = 0; rw [h.tabT.dg a ha, Int.mul_zero]
      have := (b0 a a ha ha).1
      omega
    unfold ratesOf; rw [z1, Int.zero_mul, Int.zero_ediv]
  · rw [eqF a b ha hb]; exact hp
end

end K
/-! KW: reached_right, the walk. -/
namespace K
open PySem.Spec PySem PyProof.Rows L2 Z M
abbrev al5 {α β γ δ ε : Type} (R : Rep α) (a : α) (S : Rep β) (b : β) (T : Rep γ) (c : γ) (U : Rep δ) (d : δ) (W : Rep ε) (e : ε) : AL := .cons R a (al4 S b T c U d W e)
abbrev spReach : Sp := spF (fun t : Nat × Mat × Nat × (Nat → Int) × (Nat → Int) × (Nat → Int) => al5 (rL (rL rInt)) (mat t.1 t.2.1) rInt (t.2.2.1 : Int) (rL rInt) (tab t.1 t.2.2.2.1) (rL rInt) (tab t.1 t.2.2.2.2.1) (rL rInt) (tab t.1 t.2.2.2.2.2)) (fun t => ReachPre t.1 t.2.1 t.2.2.1 t.2.2.2.1 t.2.2.2.2.1 t.2.2.2.2.2) (fun t v H => v = .bl true)
theorem AL.five {α β γ δ ε : Type} {R : Rep α} {a : α} {S : Rep β} {b : β} {T : Rep γ} {c : γ} {U : Rep δ} {d : δ} {W : Rep ε} {e : ε} {H : Hp} {vs : List V} (h : (al5 R a S b T c U d W e).r H vs) : ∃ v1 v2 v3 v4 v5, vs = [v1, v2, v3, v4, v5] ∧ R.r H v1 a ∧ S.r H v2 b ∧ T.r H v3 c ∧ U.r H v4 d ∧ W.r H v5 e := by
  obtain ⟨v, vs2, rfl, h1, h2⟩ := h
  obtain ⟨v2, v3, v4, v5, rfl, g1, g2, g3, g4⟩ := AL.four h2
  exact ⟨v, v2, v3, v4, v5, rfl, h1, g1, g2, g3, g4⟩
theorem ok_reach {g : W5} {CN CC : Addr} (D : DefOf g "_law_reached_right" sReachedRight) (T : TX g) (cn : ClOk g CN ntF) (cc : ClOk g CC tabF) (FCp : FnB g CX0 1 "_law_copy" ["_law_grid"] [] spCopy) (FN : ClB g CX0 6 "Notes" CN ["self", "lows", "highs"] (spNtInit CN CC)) (FW : FnB g CX0 1 "_law_wanted" ["_law_grid", "_law_x", "_law_row"] [] spWanted)
    (FR : FnB g CX0 5 "is_reached" ["notes", "row"] [] (spReached CN CC)) (FD : FnB g CX0 7 "world_with" ["notes", "row"] [] (spWorld CN CC)) (FH : FnB g CX0 4 "_law_lot_has" ["_law_lows", "_law_highs", "_law_row", "_law_scaled"] [] (spHas CC)) : FnB g CX0 8 "_law_reached_right" ["_law_grid", "_law_x", "_law_row", "_law_line", "_law_tops"] [] spReach := by
  refine def_ok D sReachedRightS (by decide +kernel) (len_of fun t H vs h => by obtain ⟨v1, v2, v3, v4, v5, rfl, _⟩ := AL.five h; rfl) (fun _ _ _ _ _ _ us hl => match us, hl with | [_, _, _, _, _], _ => rfl) fun f0 cdv A outer s H vs Q E cx ⟨⟨n, f, x, r, l, t⟩, Hb, e, h0, pre, q⟩ => ?_
  obtain ⟨v, vx, w, u1, u2, rfl, hv, hx0, hw, hu1, hu2⟩ := AL.five h0
  dsimp only at hv hx0 hw hu1 hu2 pre q
  obtain rfl : vx = .int (x : Int) := hx0
  have hx := pre.hx
  have hr := pre.hr
  have hn := hr.n8
  have hrx := hr.bd hx
  -- lows, highs
  refine s_cons (s_setM 5 (callM FCp (n, f) (ac (nm 0 (R := rL (rL rInt)) (a := mat n f) (h := hv)) a0) rfl (by show n ≤ 1000; omega)) e fun p as H1 hf1 e1 m1 => ?_)
  obtain ⟨G, M1⟩ : Go no Hb H Hb H1 ∧ MxM H Hb H1 p as n f := Go.ownM (Go.refl (S := no) e) e1 hf1 m1
  refine s_cons (s_setM 6 (callM FCp (n, f) (ac (nm 0 (R := rL (rL rInt)) (a := mat n f) (h := hv)) a0) rfl (by show n ≤ 1000; omega)) G.on fun p2 as2 H2 hf2 e2 m2 => ?_)
  have dis : ∀ b ∈ p :: as, b ∉ p2 :: as2 := fun b hb z => M1.live b hb (hf2 b z)
  obtain ⟨G, M2⟩ : Go no Hb H Hb H2 ∧ MxM H Hb H2 p2 as2 n f := G.ownM e2 hf2 m2
  have M1 := M1.ex e2
  show wSs _ _ _ [some v, some (.int (x : Int)), some w, some u1, some u2, some (.ref p), some (.ref p2), none, none, none, none, none, none, none] H2
  -- lows[x] = list(line)
  refine s_cons (s_asgw ((toListN T.list (nm 3 (R := rL rInt) (a := tab n l) (h := hu1))) H2 G.on _ fun a H3 ha e3 hat => ?_))
  have nw1 : ∀ b ∈ p :: as, b ≠ a := fun b hb z => M1.live b hb (z ▸ ha)
  have nw2 : a ∉ p2 :: as2 := fun z => M2.live a z ha
  have ha0 : H a = none := G.new_of ha
  have hab : Hb a = none := G.on.none ha
  have M1 := M1.ex e3
  have M2 := M2.ex e3
  have G := G.step e3
  refine gL (j := 5) x (nm 1 (R := rInt) (a := (x : Int)) (h := rfl)) G.on rfl (by rw [List.length_map, M1.len]; exact hx) M1.top fun Hk4 H4 g4 h4 => ?_
  have M2 := K.MxM.aside (M2.ex g4.ex) (p2 := p) (o := .lst ((as.map V.ref).set x (.ref a))) (dis p (List.mem_cons_self ..))
  have G := (G.step g4.ex).wr (p := p) (o := .lst ((as.map V.ref).set x (.ref a))) (.inr (M1.new p (by simp))) (M1.off p (by simp))
  have M1 := K.MxM.row (M1.ex g4.ex) hx (g4.ex _ _ hat) nw1 ha0 hab
  have dis2 : ∀ b ∈ p :: as.set x a, b ∉ p2 :: as2 := fun b hb => by
    rcases List.mem_cons.1 hb with z | z
    · rw [z]; exact dis p (List.mem_cons_self ..)
    · rcases List.mem_or_eq_of_mem_set z with z | z
      · exact dis b (List.mem_cons_of_mem _ z)
      · rw [z]; exact nw2
  show wSs _ _ _ [some v, some (.int (x : Int)), some w, some u1, some u2, some (.ref p), some (.ref p2), none, none, none, none, none, none, none] (upd H4 p (.lst ((as.map V.ref).set x (.ref a))))
  generalize as.set x a = as' at M1 dis2
  generalize upd H4 p (.lst ((as.map V.ref).set x (.ref a))) = H5 at G M1 M2
  -- highs[x] = list(tops)
  refine s_cons (s_asgw ((toListN T.list (nm 4 (R := rL rInt) (a := tab n t) (h := hu2))) H5 G.on _ fun a2 H6 ha2 e6 hat2 => ?_))
  have nw3 : ∀ b ∈ p2 :: as2, b ≠ a2 := fun b hb z => M2.live b hb (z ▸ ha2)
  have ha3 : H a2 = none := G.new_of ha2
  have hab3 : Hb a2 = none := G.on.none ha2
  have M1 := M1.ex e6
  have M2 := M2.ex e6
  have G := G.step e6
  refine gL (j := 6) x (nm 1 (R := rInt) (a := (x : Int)) (h := rfl)) G.on rfl (by rw [List.length_map, M2.len]; exact hx) M2.top fun Hk7 H7 g7 h7 => ?_
  have M1 := K.MxM.aside (M1.ex g7.ex) (p2 := p2) (o := .lst ((as2.map V.ref).set x (.ref a2))) (fun z => dis2 p2 z (List.mem_cons_self ..))
  have G := (G.step g7.ex).wr (p := p2) (o := .lst ((as2.map V.ref).set x (.ref a2))) (.inr (M2.new p2 (by simp))) (M2.off p2 (by simp))
  have M2 := K.MxM.row (M2.ex g7.ex) hx (g7.ex _ _ hat2) nw3 ha3 hab3
  show wSs _ _ _ [some v, some (.int (x : Int)), some w, some u1, some u2, some (.ref p), some (.ref p2), none, none, none, none, none, none, none] (upd H7 p2 (.lst ((as2.map V.ref).set x (.ref a2))))
  have hl := M1.toMx.rep
  have hh := M2.toMx.rep
  have hv := (rL (rL rInt)).up G.on hv
  have hw := (rL rInt).up G.on hw
  have hu1 := (rL rInt).up G.on hu1
  have hu2 := (rL rInt).up G.on hu2
  clear M1 M2 hat hat2
  generalize upd H7 p2 (.lst ((as2.map V.ref).set x (.ref a2))) = H8 at G hl hh hv hw hu1 hu2
  -- held
  refine s_cons (s_set 7 (EP.imp (make FN (n, spot x l f, spot x t f) (ac (EM.ev (callM FCp (n, spot x l f) (ac (nm 5 (R := rL (rL rInt)) (a := mat n (spot x l f)) (h := hl)) a0) rfl (by show n ≤ 1000; omega))) (ac (EM.ev (callM FCp (n, spot x t f) (ac (nm 6 (R := rL (rL rInt)) (a := mat n (spot x t f)) (h := hh)) a0) rfl (by show n ≤ 1000; omega))) a0)) rfl pre.ntOk ntPost_up) fun v H ⟨a, dx, fs, h1, h2, h3⟩ => (show (rNt CN CC).r H v (n, spot x l f, spot x t f) from ⟨a, dx, fs, h1, h2, h3⟩)) (Ex.refl H8) fun vh Hk9 H9 g9 hvh => ?_)
  have G := G.step g9.ex
  have hv := (rL (rL rInt)).up g9.base hv
  have hl := (rL (rL rInt)).up g9.base hl
  have hh := (rL (rL rInt)).up g9.base hh
  have hw := (rL rInt).up g9.base hw
  have hu1 := (rL rInt).up g9.base hu1
  have hu2 := (rL rInt).up g9.base hu2
  -- due
  have gb : GridBd n f := ⟨pre.tb.nn, fun a b ha hb => Int.le_trans (pre.fl a b ha hb) (by decide +kernel)⟩
  refine s_cons (s_set 8 (call FW (n, f, x, r) (ac (nm 0 (R := rL (rL rInt)) (a := mat n f) (h := hv)) (ac (nm 1 (R := rInt) (a := (x : Int)) (h := rfl)) (ac (nm 2 (R := rL rInt) (a := tab n r) (h := hw)) a0))) rfl ⟨hx, gb, hr⟩) g9.on fun vd Hk10 H10 g10 hvd => ?_)
  have hvd : (rL rInt).r Hk10 vd (tab n (due n f x r)) := hvd
  have G := G.step g10.ex
  have hv := (rL (rL rInt)).up g10.base hv
  have hl := (rL (rL rInt)).up g10.base hl
  have hh := (rL (rL rInt)).up g10.base hh
  have hw := (rL rInt).up g10.base hw
  have hu1 := (rL rInt).up g10.base hu1
  have hu2 := (rL rInt).up g10.base hu2
  have hvh := (rNt CN CC).up g10.base hvh
  -- inside
  have hB : ∀ {i : Int}, 0 ≤ i → i ≤ 10 ^ 24 → Bd i := fun h0 h1 => bd60 h0 (Int.le_trans h1 (by decide +kernel))
  obtain ⟨ins, hins⟩ : ∃ ins : Bool, ins = (tab n fun b => decide (r x * l b ≤ due n f x r b) && decide (due n f x r b ≤ r x * t b)).all id := ⟨_, rfl⟩
  have insI : ins = true ↔ ∀ b, b < n → r x * l b ≤ due n f x r b ∧ due n f x r b ≤ r x * t b := by
    rw [hins, List.all_eq_true]
    constructor
    · intro h b hb
      have := h _ (tab_mem.mpr ⟨b, hb, rfl⟩)
      simpa using this
    · intro h y hy
      obtain ⟨b, hb, rfl⟩ := tab_mem.mp hy
      simpa using h b hb
  refine s_cons (s_set 9 (EV.is (a' := ins) (allB T.all (lc [("_law_b", 10)] (S := rBl) (iR (n := n) T.range (EV.is (len T.len (nm 0 (R := rL (rL rInt)) (a := mat n f) (h := hv))) (by rw [tab_len])) (by omega)) (fun b => decide (r x * l b ≤ due n f x r b) && decide (due n f x r b ≤ r x * t b)) (by omega) fun b vb Hc H11 hb e1 e2 hvb => gn 10 ⟨rfl, rfl,
    chLL (mulB (ixt (nm 2 (R := rL rInt) (a := tab n r) (h := (rL rInt).up e1 hw)) (nm 1 (R := rInt) (a := (x : Int)) (h := rfl)) hx) (ixt (nm 3 (R := rL rInt) (a := tab n l) (h := (rL rInt).up e1 hu1)) (nm 10 (R := rInt) (a := (b : Int)) (h := hvb)) hb) hrx (hB (pre.l0 b hb) (Int.le_trans (pre.lt b hb) (pre.t0 b hb)))) (ixt (nm 8 (R := rL rInt) (a := tab n (due n f x r)) (h := (rL rInt).up e1 hvd)) (nm 10 (R := rInt) (a := (b : Int)) (h := hvb)) hb)
      fun _ => mulB (ixt (nm 2 (R := rL rInt) (a := tab n r) (h := (rL rInt).up e1 hw)) (nm 1 (R := rInt) (a := (x : Int)) (h := rfl)) hx) (ixt (nm 4 (R := rL rInt) (a := tab n t) (h := (rL rInt).up e1 hu2)) (nm 10 (R := rInt) (a := (b : Int)) (h := hvb)) hb) hrx (hB (Int.le_trans (pre.l0 b hb) (pre.lt b hb)) (pre.t0 b hb))⟩)) hins.symm) g10.on fun vi Hk11 H11 g11 hvi => ?_)
  obtain rfl : vi = .bl ins := hvi
  have G := G.step g11.ex
  have hl := (rL (rL rInt)).up g11.base hl
  have hh := (rL (rL rInt)).up g11.base hh
  have hw := (rL rInt).up g11.base hw
  have hvd := (rL rInt).up g11.base hvd
  have hvh := (rNt CN CC).up g11.base hvh
  have ci := circ_iff (f := f) (r := r) hx pre.lx pre.tx
  have ciI : ins = true ↔ ∃ F, Circ n (scl r (spot x l f)) (scl r (spot x t f)) F := insI.trans ci.symm
  show wSs _ _ _ [some v, some (.int (x : Int)), some w, some u1, some u2, some (.ref p), some (.ref p2), some vh, some vd, some (.bl ins), none, none, none, none] H11
  -- is_reached
  have two : ∀ {X : Unit → Cx} {σ : L2.St} {e1 e2 : Expr} {Hb' : Hp}, EV X e1 σ Hb' (rNt CN CC) (n, spot x l f, spot x t f) → EV X e2 σ Hb' (rL rInt) (tab n r) → True := fun _ _ => trivial
  refine s_cons (s_if (ET.is (t' := false) (tNeS (repB T.repr (b := ins) (fun Hr cr Q0 q0 => wcall FR (by decide) (EL.run (ac (nm 7 (R := rNt CN CC) (a := (n, spot x l f, spot x t f)) (h := hvh)) (ac (toList T.list (nm 2 (R := rL rInt) (a := tab n r) (h := hw))) a0)) cr fun vs3 Hk12 H12 g12 hvs3 => by
      obtain ⟨z1, z2, rfl, hz1, hz2⟩ := AL.two hvs3
      refine ⟨true, n, spot x l f, spot x t f, r, Hk12, z1, z2, rfl, g12.on, hz1, hz2, ⟨hr, pre.le⟩, fun tt Hk13 H13 g13 htt => ?_⟩
      have : tt = ins := by
        cases tt <;> cases ins <;> first | rfl | (have := ciI.trans htt.symm; simp at this)
      subst this
      exact q0 _ Hk13 H13 (g12.trans g13) rfl))) (repB T.repr (nm 9 (R := rBl) (a := ins) (h := rfl)))) (by simp)) g11.on (fun h => nomatch h) fun _ Hk12 H12 g12 => s_nil ?_)
  have G := G.step g12.ex
  have hl := (rL (rL rInt)).up g12.base hl
  have hh := (rL (rL rInt)).up g12.base hh
  have hw := (rL rInt).up g12.base hw
  have hvd := (rL rInt).up g12.base hvd
  have hvh := (rNt CN CC).up g12.base hvh
  -- world_with
  refine s_cons (s_setw 11 (wcall FD (by decide) (EL.run (ac (nm 7 (R := rNt CN CC) (a := (n, spot x l f, spot x t f)) (h := hvh)) (ac (toList T.list (nm 2 (R := rL rInt) (a := tab n r) (h := hw))) a0)) g12.on fun vs3 Hk13 H13 g13 hvs3 => ?_)))
  obtain ⟨z1, z2, rfl, hz1, hz2⟩ := AL.two hvs3
  refine ⟨true, n, spot x l f, spot x t f, r, Hk13, z1, z2, rfl, g13.on, hz1, hz2, ⟨hr, pre.le, fun F c => pre.flow c⟩, fun vs Hk14 H14 F g14 c hvs => ?_, fun Hk14 H14 g14 hno => ?_⟩
  · have hit : ins = true := ciI.mpr ⟨F, c⟩
    have G := (G.step g13.ex).step g14.ex
    have eb := g13.base.trans g14.base
    have hl := (rL (rL rInt)).up eb hl
    have hh := (rL (rL rInt)).up eb hh
    have hw := (rL rInt).up eb hw
    have hvd := (rL rInt).up eb hvd
    show wSs _ _ _ [some v, some (.int (x : Int)), some w, some u1, some u2, some (.ref p), some (.ref p2), some vh, some vd, some (.bl ins), none, some vs, none, none] H14
    refine s_cons (s_if (ET.is (t' := false) (tnot (tv (nm 9 (R := rBl) (a := ins) (h := rfl)))) (by rw [hit]; rfl)) g14.on (fun h => nomatch h) fun _ Hk15 H15 g15 => s_nil ?_)
    have G := G.step g15.ex
    have hl := (rL (rL rInt)).up g15.base hl
    have hh := (rL (rL rInt)).up g15.base hh
    have hw := (rL rInt).up g15.base hw
    have hvd := (rL rInt).up g15.base hvd
    have hvs := (rP rInt (rCh CC)).up g15.base hvs
    have has := hasOk_of hr pre.n5 c pre.lim pre.tabT.dg
    refine s_cons (s_if (ET.is (t' := false) (tnot (tv (EV.to (S := rBl) (b := true) (call FH (n, spot x l f, spot x t f, r, (lcmR r n : Int), ratesOf n r F) (ac (nm 5 (R := rL (rL rInt)) (a := mat n (spot x l f)) (h := hl)) (ac (nm 6 (R := rL (rL rInt)) (a := mat n (spot x t f)) (h := hh)) (ac (nm 2 (R := rL rInt) (a := tab n r) (h := hw)) (ac (nm 11 (R := rP rInt (rCh CC)) (a := ((lcmR r n : Int), (n, ratesOf n r F))) (h := hvs)) a0)))) rfl ⟨hr, has⟩) fun _ _ h => h))) rfl) g15.on (fun h => nomatch h) fun _ Hk16 H16 g16 => s_nil ?_)
    have G := G.step g16.ex
    have hw := (rL rInt).up g16.base hw
    have hvd := (rL rInt).up g16.base hvd
    have hvs := (rP rInt (rCh CC)).up g16.base hvs
    have dd := circ_due hx pre.lx pre.tx c
    have k0 : (0 : Int) ≤ (lcmR r n : Int) := by omega
    have due0 : ∀ b, b < n → due n f x r b = F x b := fun b hb => by
      have := dd x b hx hb
      unfold dueF at this
      rw [if_pos rfl] at this
      exact this.symm
    have bdD : ∀ b, b < n → Bd (due n f x r b) := fun b hb => by
      have := pre.flow c
      rw [due0 b hb]
      exact bd60 (this.1 x b hx hb).1 (Int.le_trans (this.1 x b hx hb).2 (by decide +kernel))
    have hkB : Bd ((lcmR r n : Int)) := lcm_bd hr (Nat.le_refl _)
    refine s_one (s_ret (EV.is (a' := true) (eqD (R := rL rInt) (a := tab n fun b => ratesOf n r F x b * r x) (b := tab n fun b => (lcmR r n : Int) * due n f x r b)
      (lc [("_law_rate_here", 12)] (iT (ixt (chRows cc (pr1 (nm 11 (R := rP rInt (rCh CC)) (a := ((lcmR r n : Int), (n, ratesOf n r F))) (h := hvs)))) (nm 1 (R := rInt) (a := (x : Int)) (h := rfl)) hx)) _ (by omega) fun b vb Hc H17 hb e1 e2 hvb => gn 12 ⟨rfl, rfl, mulB (nm 12 (R := rInt) (a := ratesOf n r F x b) (h := hvb)) (ixt (nm 2 (R := rL rInt) (a := tab n r) (h := (rL rInt).up e1 hw)) (nm 1 (R := rInt) (a := (x : Int)) (h := rfl)) hx) (bd60 (has.bd.nn _ _ hx hb) (has.bd.le _ _ hx hb)) hrx⟩)
      (lc [("_law_one", 13)] (iL (nm 8 (R := rL rInt) (a := tab n (due n f x r)) (h := hvd))) _ (by omega) fun b vb Hc H17 hb e1 e2 hvb => gn 13 ⟨rfl, rfl, mulB (pr0 (nm 11 (R := rP rInt (rCh CC)) (a := ((lcmR r n : Int), (n, ratesOf n r F))) (h := (rP rInt (rCh CC)).up e1 hvs))) (nm 13 (R := rInt) (a := due n f x r b) (h := hvb)) hkB (bdD b hb)⟩)) (by
        refine decide_eq_true (tab_congr fun b hb => ?_)
        rw [Int.mul_comm, rates_mul hr.lo hx, due0 b hb])) g16.on fun z Hk17 H17 g17 hz => q z _ H17 (G.step g17.ex) hz)
  · have hif : ins = false := by
      cases hi : ins with
      | false => rfl
      | true =>
        obtain ⟨F, c⟩ := ciI.mp hi
        exact absurd c (hno F)
    have G := (G.step g13.ex).step g14.ex
    show wSs _ _ _ [some v, some (.int (x : Int)), some w, some u1, some u2, some (.ref p), some (.ref p2), some vh, some vd, some (.bl ins), none, some .non, none, none] H14
    refine s_cons (s_if (ET.is (t' := true) (tnot (tv (nm 9 (R := rBl) (a := ins) (h := rfl)))) (by rw [hif]; rfl)) (Ex.refl H14) (fun _ Hk15 H15 g15 => ?_) (fun h => nomatch h))
    exact s_one (s_ret (isN (t := true) (nmP (v := .non) 11 (by simp))) g15.on fun z Hk17 H17 g17 hz => q z _ H17 ((G.step g15.ex).step g17.ex) hz)
end K
/-! MG: rings of states. -/
namespace M
open K
/-- the state behind z -/
def nx (n z : Nat) : Nat := if z + 1 < n then z + 1 else 0
theorem nx_mod {n z : Nat} (h : z < n) : (z + 1) % n = nx n z := by
  unfold nx; split
  · rename_i h1; exact Nat.mod_eq_of_lt h1
  · have : z + 1 = n := by omega
    rw [this, Nat.mod_self]
theorem nx_lt {n z : Nat} (h : z < n) : nx n z < n := by unfold nx; split <;> omega
/-- the i-th state behind x -/
def pn (n x i : Nat) : Nat := if x + i < n then x + i else x + i - n
theorem pn_lt {n x i : Nat} (hx : x < n) (hi : i ≤ n) : pn n x i < n := by unfold pn; split <;> omega
theorem pn_zero {n x : Nat} (hx : x < n) : pn n x 0 = x := by unfold pn; split <;> omega
theorem pn_n {n x : Nat} (hx : x < n) : pn n x n = x := by unfold pn; split <;> omega
theorem pn_succ {n x i : Nat} (hx : x < n) (hi : i < n) : pn n x (i + 1) = nx n (pn n x i) := by unfold pn nx; split <;> split <;> split <;> omega
theorem pn_inj {n x i j : Nat} (hx : x < n) (hi : 1 ≤ i ∧ i ≤ n) (hj : 1 ≤ j ∧ j ≤ n) (h : pn n x i = pn n x j) : i = j := by unfold pn at h; split at h <;> split at h <;> omega
theorem pn_all {n x z : Nat} (hx : x < n) (hz : z < n) : ∃ i, 1 ≤ i ∧ i ≤ n ∧ pn n x i = z := by
  by_cases h : x < z
  · exact ⟨z - x, by omega, by omega, by unfold pn; split <;> omega⟩
  · exact ⟨z + n - x, by omega, by omega, by unfold pn; split <;> omega⟩
theorem nx_inj {n x z : Nat} (hx : x < n) (hz : z < n) (h : nx n x = nx n z) : x = z := by unfold nx at h; split at h <;> split at h <;> omega
theorem nx_ne {n x : Nat} (h2 : 2 ≤ n) (hx : x < n) : nx n x ≠ x := by unfold nx; split <;> omega
/-- no flow but around -/
def Off (n : Nat) (W : Mat) : Prop := ∀ x y, x < n → y < n → y ≠ nx n x → W x y = 0
theorem exc_ring {n z : Nat} {W : Mat} (h : Off n W) (hz : z < n) : exc n W (nx n z) = W z (nx n z) - W (nx n z) (nx n (nx n z)) := by
  unfold exc
  have h1 := nx_lt hz
  have h2 := nx_lt h1
  rw [sm_split (g := fun x => W x (nx n z)) hz, sm_split (g := fun y => W (nx n z) y) h2]
  rw [sm_none (f := fun y => if y = z then 0 else W y (nx n z)) fun i hi => by
    split
    · rfl
    · rename_i hne; exact h i _ hi h1 fun e => hne (nx_inj hi hz e.symm)]
  rw [sm_none (f := fun y => if y = nx n (nx n z) then 0 else W (nx n z) y) fun i hi => by
    split
    · rfl
    · rename_i hne; exact h _ i h1 hi hne]
  omega
structure Rg (n : Nat) (lo hi : Mat) : Prop where
  n2 : 2 ≤ n
  ol : Off n lo
  oh : Off n hi
theorem Rg.off {n : Nat} {lo hi W : Mat} (R : Rg n lo hi) (h : ∀ x y, x < n → y < n → lo x y ≤ W x y ∧ W x y ≤ hi x y) : Off n W := fun x y hx hy hne => by
  have := h x y hx hy
  rw [R.ol x y hx hy hne, R.oh x y hx hy hne] at this
  omega
theorem Rg.const {n : Nat} {lo hi F : Mat} (R : Rg n lo hi) (c : Circ n lo hi F) : ∀ z, z < n → F z (nx n z) = F 0 (nx n 0) := by
  have o := R.off c.bd
  intro z
  induction z with
  | zero => intro _; rfl
  | succ z ih =>
    intro hz
    have h1 : nx n z = z + 1 := by unfold nx; rw [if_pos hz]
    have h2 := exc_ring o (show z < n by omega)
    rw [c.bal _ (nx_lt (show z < n by omega)), h1] at h2
    rw [h1] at ih
    have := ih (by omega)
    omega
section
variable {n x : Nat} {lo hi F : Mat} {s : Int}
/-- less, around the ring -/
theorem Rg.down (R : Rg n lo hi) (c : Circ n lo hi F) (hx : x < n) (m : Most n lo hi F (some ((x : Int), ((nx n x : Nat) : Int))) x (nx n x) (F x (nx n x) - lo x (nx n x)) s) :
    (∀ z, z < n → lo z (nx n z) ≤ F x (nx n x) - s) ∧ ∃ z, z < n ∧ lo z (nx n z) = F x (nx n x) - s := by
  obtain ⟨W, s0, sl, bd, cl, ex, fin⟩ := m
  have o := R.off bd
  have wx : W x (nx n x) = F x (nx n x) := cl x (nx n x) rfl
  have hy := nx_lt hx
  have st : ∀ z, z < n → W (nx n z) (nx n (nx n z)) = W z (nx n z) - (if nx n z = nx n x then s else 0) + (if nx n z = x then s else 0) := fun z hz => by
    have h1 := exc_ring o hz
    have h2 := ex (nx n z) (nx_lt hz)
    rw [c.bal _ (nx_lt hz)] at h2
    omega
  have al : ∀ i, 1 ≤ i → i < n → W (pn n x i) (nx n (pn n x i)) = F x (nx n x) - s := by
    intro i
    induction i with
    | zero => intro h; omega
    | succ i ih =>
      intro _ hi
      rw [pn_succ hx (by omega)]
      have hp := pn_lt (i := i) hx (by omega)
      have h1 := st (pn n x i) hp
      by_cases hz : i = 0
      · subst hz
        rw [pn_zero hx] at h1 ⊢
        rw [if_pos rfl, if_neg (nx_ne R.n2 hx), wx] at h1
        omega
      · have h2 := ih (by omega) (by omega)
        have h3 : pn n x i ≠ x := fun e => by
          have := pn_inj hx ⟨by omega, by omega⟩ ⟨by omega, Nat.le_refl n⟩ (e.trans (pn_n hx).symm); omega
        have h4 : nx n (pn n x i) ≠ nx n x := fun e => h3 (nx_inj hp hx e)
        have h5 : nx n (pn n x i) ≠ x := fun e => by
          rw [← pn_succ hx (by omega)] at e
          have := pn_inj hx ⟨by omega, by omega⟩ ⟨by omega, Nat.le_refl n⟩ (e.trans (pn_n hx).symm); omega
        rw [if_neg h4, if_neg h5] at h1
        omega
  have lowall : ∀ z, z < n → lo z (nx n z) ≤ F x (nx n x) - s := fun z hz => by
    obtain ⟨i, h1, h2, rfl⟩ := pn_all hx hz
    by_cases h : i = n
    · subst h; rw [pn_n hx]; omega
    · rw [← al i h1 (by omega)]; exact (bd _ _ hz (nx_lt hz)).1
  refine ⟨lowall, ?_⟩
  rcases fin with e | ⟨ql, M⟩
  · exact ⟨x, hx, by omega⟩
  · apply Classical.byContradiction
    intro hno
    have lt : ∀ i, 1 ≤ i → i < n → lo (pn n x i) (nx n (pn n x i)) < W (pn n x i) (nx n (pn n x i)) := fun i h1 h2 => by
      have hz := pn_lt (i := i) hx (by omega)
      have := lowall _ hz
      rw [al i h1 h2]
      have : lo (pn n x i) (nx n (pn n x i)) ≠ F x (nx n x) - s := fun e => hno ⟨_, hz, e⟩
      omega
    have back : ∀ j, j + 1 ≤ n → pn n x (n - j) ∈ ql := by
      intro j
      induction j with
      | zero => intro _; rw [Nat.sub_zero, pn_n hx]; exact M.sts x (List.mem_singleton.mpr rfl)
      | succ j ih =>
        intro hj
        have h0 := ih (by omega)
        have e1 : n - j = (n - (j + 1)) + 1 := by omega
        rw [e1, pn_succ hx (by omega)] at h0
        have hp := pn_lt (i := n - (j + 1)) hx (by omega)
        refine M.cls _ h0 _ hp ⟨(nx_ne R.n2 hp).symm, .inr ⟨fun e => ?_, lt _ (by omega) (by omega)⟩⟩
        have e2 : pn n x (n - (j + 1)) = x := by
          have := congrArg Prod.fst (Option.some.inj e)
          exact Int.ofNat.inj this
        have := pn_inj hx ⟨by omega, by omega⟩ ⟨by omega, Nat.le_refl n⟩ (e2.trans (pn_n hx).symm)
        omega
    have hn2 := R.n2
    have := back (n - 1) (by omega)
    rw [show n - (n - 1) = 0 + 1 by omega, pn_succ hx (by omega), pn_zero hx] at this
    exact M.gls _ this (List.mem_singleton.mpr rfl)
/-- more, around the ring -/
theorem Rg.up (R : Rg n lo hi) (c : Circ n lo hi F) (hx : x < n) (m : Most n lo hi F (some ((x : Int), ((nx n x : Nat) : Int))) (nx n x) x (hi x (nx n x) - F x (nx n x)) s) :
    (∀ z, z < n → F x (nx n x) + s ≤ hi z (nx n z)) ∧ ∃ z, z < n ∧ hi z (nx n z) = F x (nx n x) + s := by
  obtain ⟨W, s0, sl, bd, cl, ex, fin⟩ := m
  have o := R.off bd
  have wx : W x (nx n x) = F x (nx n x) := cl x (nx n x) rfl
  have hy := nx_lt hx
  have st : ∀ z, z < n → W (nx n z) (nx n (nx n z)) = W z (nx n z) - (if nx n z = x then s else 0) + (if nx n z = nx n x then s else 0) := fun z hz => by
    have h1 := exc_ring o hz
    have h2 := ex (nx n z) (nx_lt hz)
    rw [c.bal _ (nx_lt hz)] at h2
    omega
  have al : ∀ i, 1 ≤ i → i < n → W (pn n x i) (nx n (pn n x i)) = F x (nx n x) + s := by
    intro i
    induction i with
    | zero => intro h; omega
    | succ i ih =>
      intro _ hi
      rw [pn_succ hx (by omega)]
      have hp := pn_lt (i := i) hx (by omega)
      have h1 := st (pn n x i) hp
      by_cases hz : i = 0
      · subst hz
        rw [pn_zero hx] at h1 ⊢
        rw [if_pos rfl, if_neg (nx_ne R.n2 hx), wx] at h1
        omega
      · have h2 := ih (by omega) (by omega)
        have h3 : pn n x i ≠ x := fun e => by
          have := pn_inj hx ⟨by omega, by omega⟩ ⟨by omega, Nat.le_refl n⟩ (e.trans (pn_n hx).symm); omega
        have h4 : nx n (pn n x i) ≠ nx n x := fun e => h3 (nx_inj hp hx e)
        have h5 : nx n (pn n x i) ≠ x := fun e => by
          rw [← pn_succ hx (by omega)] at e
          have := pn_inj hx ⟨by omega, by omega⟩ ⟨by omega, Nat.le_refl n⟩ (e.trans (pn_n hx).symm); omega
        rw [if_neg h4, if_neg h5] at h1
        omega
  have hiall : ∀ z, z < n → F x (nx n x) + s ≤ hi z (nx n z) := fun z hz => by
    obtain ⟨i, h1, h2, rfl⟩ := pn_all hx hz
    by_cases h : i = n
    · subst h; rw [pn_n hx]; omega
    · rw [← al i h1 (by omega)]; exact (bd _ _ hz (nx_lt hz)).2
  refine ⟨hiall, ?_⟩
  rcases fin with e | ⟨ql, M⟩
  · exact ⟨x, hx, by omega⟩
  · apply Classical.byContradiction
    intro hno
    have lt : ∀ i, 1 ≤ i → i < n → W (pn n x i) (nx n (pn n x i)) < hi (pn n x i) (nx n (pn n x i)) := fun i h1 h2 => by
      have hz := pn_lt (i := i) hx (by omega)
      have := hiall _ hz
      rw [al i h1 h2]
      have : hi (pn n x i) (nx n (pn n x i)) ≠ F x (nx n x) + s := fun e => hno ⟨_, hz, e⟩
      omega
    have fore : ∀ i, 1 ≤ i → i ≤ n → pn n x i ∈ ql := by
      intro i
      induction i with
      | zero => intro h; omega
      | succ i ih =>
        intro _ hi
        by_cases hz : i = 0
        · subst hz
          rw [pn_succ hx (by omega), pn_zero hx]
          exact M.sts _ (List.mem_singleton.mpr rfl)
        · have h0 := ih (by omega) (by omega)
          have hp := pn_lt (i := i) hx (by omega)
          rw [pn_succ hx (by omega)]
          refine M.cls _ h0 _ (nx_lt hp) ⟨nx_ne R.n2 hp, .inl ⟨fun e => ?_, lt _ (by omega) (by omega)⟩⟩
          have e2 : pn n x i = x := by
            have := congrArg Prod.fst (Option.some.inj e)
            exact Int.ofNat.inj this
          have := pn_inj hx ⟨by omega, by omega⟩ ⟨by omega, Nat.le_refl n⟩ (e2.trans (pn_n hx).symm)
          omega
    have := fore n (by have := R.n2; omega) (Nat.le_refl n)
    rw [pn_n hx] at this
    exact M.gls _ this (List.mem_singleton.mpr rfl)
end
end M
/-! MH: when there is a ring over a pair; what is told. -/
namespace M
open K
theorem way_in {n : Nat} {SO : Nat → Nat → List Int → Prop} {S : Nat → Prop} {a b : Nat} {vs : List Nat} {ss : List (List Int)} (h : Way SO a vs b ss) (ha : S a) (cl : ∀ z w s, z < n → w < n → S z → SO z w s → S w) : (∀ v ∈ vs, v < n) → S b ∧ b ∈ vs := by
  induction h with
  | nil => exact fun _ => ⟨ha, List.mem_singleton.mpr rfl⟩
  | snoc hw hs _ ih =>
    intro hv
    obtain ⟨h1, h2⟩ := ih fun v hm => hv v (List.mem_cons_of_mem _ hm)
    exact ⟨cl _ _ _ (hv _ (List.mem_cons_of_mem _ h2)) (hv _ (List.mem_cons_self ..)) h1 hs, List.mem_cons_self ..⟩
section
variable {n x : Nat} {lo hi F : Mat}
theorem Rg.flow (R : Rg n lo hi) (c : Circ n lo hi F) (hx : x < n) {z : Nat} (hz : z < n) : F z (nx n z) = F x (nx n x) := (R.const c z hz).trans (R.const c x hx).symm
/-- a step along the ring: forward or back -/
theorem Rg.step (R : Rg n lo hi) (c : Circ n lo hi F) {cl : Cl} {z w : Nat} {s : List Int} (hz : z < n) (hw : w < n) (h : StepOk lo hi F cl z w s) :
    (w = nx n z ∧ some ((z : Int), (w : Int)) ≠ cl ∧ F z (nx n z) < hi z (nx n z)) ∨ (z = nx n w ∧ some ((w : Int), (z : Int)) ≠ cl ∧ lo w (nx n w) < F w (nx n w)) := by
  have oF := R.off c.bd
  cases h with
  | fwd h1 h2 h3 =>
    have e : w = nx n z := Classical.byContradiction fun hne => by
      rw [oF z w hz hw hne, R.oh z w hz hw hne] at h3; omega
    subst e
    exact .inl ⟨rfl, h2, h3⟩
  | bwd h1 h2 h3 =>
    have e : z = nx n w := Classical.byContradiction fun hne => by
      rw [oF w z hw hz hne, R.ol w z hw hz hne] at h3; omega
    subst e
    exact .inr ⟨rfl, h2, h3⟩
theorem Rg.ringed_iff (R : Rg n lo hi) (c : Circ n lo hi F) (hx : x < n) : Ringed n lo hi F x (nx n x) ↔ (∀ z, z < n → F x (nx n x) < hi z (nx n z)) ∨ (∀ z, z < n → lo z (nx n z) < F x (nx n x)) := by
  have n2 := R.n2
  have cle : ∀ {a b : Nat}, some ((a : Int), (b : Int)) = some ((x : Int), ((nx n x : Nat) : Int)) → a = x := fun e => by
    have := congrArg Prod.fst (Option.some.inj e)
    exact Int.ofNat.inj this
  have p1 : pn n x 1 = nx n x := by rw [show (1 : Nat) = 0 + 1 from rfl, pn_succ hx (by omega), pn_zero hx]
  constructor
  · intro h
    apply Classical.byContradiction
    intro hno
    have h1 : ∃ z, z < n ∧ hi z (nx n z) ≤ F x (nx n x) := Classical.byContradiction fun q => hno (.inl fun z hz => by
      have : ¬ hi z (nx n z) ≤ F x (nx n x) := fun r => q ⟨z, hz, r⟩
      omega)
    have h2 : ∃ z, z < n ∧ F x (nx n x) ≤ lo z (nx n z) := Classical.byContradiction fun q => hno (.inr fun z hz => by
      have : ¬ F x (nx n x) ≤ lo z (nx n z) := fun r => q ⟨z, hz, r⟩
      omega)
    obtain ⟨z2, hz2, u2⟩ := h1
    obtain ⟨z1, hz1, u1⟩ := h2
    obtain ⟨i2, a1, a2, rfl⟩ := pn_all hx hz2
    obtain ⟨i1, b1, b2, rfl⟩ := pn_all hx hz1
    rcases h with ⟨f1, vs, ss, hw, hv⟩ | ⟨f1, vs, ss, hw, hv⟩
    · have i2n : i2 < n := by
        rcases Nat.lt_or_ge i2 n with h | h
        · exact h
        · have : i2 = n := by omega
          subst this; rw [pn_n hx] at u2; omega
      obtain ⟨⟨i, c1, c2, c3⟩, _⟩ := way_in (n := n) (S := fun v => ∃ i, 1 ≤ i ∧ i ≤ i2 ∧ v = pn n x i) hw ⟨1, Nat.le_refl 1, a1, p1.symm⟩ (fun z w s hz hw ⟨i, c1, c2, c3⟩ hs => by
        subst c3
        rcases R.step c hz hw hs with ⟨e, _, lt⟩ | ⟨e, ncl, lt⟩
        · by_cases h : i = i2
          · subst h; rw [R.flow c hx hz] at lt; omega
          · exact ⟨i + 1, by omega, by omega, by rw [e, pn_succ hx (by omega)]⟩
        · by_cases h : i = 1
          · subst h
            rw [p1] at e ncl
            have := nx_inj hx hw e
            subst this
            exact absurd rfl ncl
          · refine ⟨i - 1, by omega, by omega, ?_⟩
            have e2 : pn n x i = nx n (pn n x (i - 1)) := by rw [← pn_succ hx (by omega)]; congr 1; omega
            exact nx_inj hw (pn_lt hx (by omega)) (e.symm.trans e2)) hv
      have := pn_inj hx ⟨c1, by omega⟩ ⟨by omega, Nat.le_refl n⟩ (c3.symm.trans (pn_n hx).symm)
      omega
    · have i1n : i1 < n := by
        rcases Nat.lt_or_ge i1 n with h | h
        · exact h
        · have : i1 = n := by omega
          subst this; rw [pn_n hx] at u1; omega
      obtain ⟨⟨i, c1, c2, c3⟩, _⟩ := way_in (n := n) (S := fun v => ∃ i, i1 < i ∧ i ≤ n ∧ v = pn n x i) hw ⟨n, i1n, Nat.le_refl n, (pn_n hx).symm⟩ (fun z w s hz hw ⟨i, c1, c2, c3⟩ hs => by
        subst c3
        rcases R.step c hz hw hs with ⟨e, ncl, lt⟩ | ⟨e, _, lt⟩
        · by_cases h : i = n
          · subst h
            rw [pn_n hx] at e ncl
            subst e
            exact absurd rfl ncl
          · exact ⟨i + 1, by omega, by omega, by rw [e, pn_succ hx (by omega)]⟩
        · have e2 : pn n x i = nx n (pn n x (i - 1)) := by rw [← pn_succ hx (by omega)]; congr 1; omega
          have e3 := nx_inj hw (pn_lt hx (by omega)) (e.symm.trans e2)
          by_cases h : i - 1 = i1
          · subst e3
            rw [R.flow c hx hw, h] at lt; omega
          · exact ⟨i - 1, by omega, by omega, e3⟩) hv
      have := pn_inj hx ⟨by omega, c2⟩ ⟨Nat.le_refl 1, by omega⟩ (c3.symm.trans p1.symm)
      omega
  · rintro (h | h)
    · refine .inl ⟨h x hx, ?_⟩
      have key : ∀ i, 1 ≤ i → i ≤ n → ∃ vs ss, Way (StepOk lo hi F (some ((x : Int), ((nx n x : Nat) : Int)))) (nx n x) vs (pn n x i) ss ∧ ∀ v ∈ vs, ∃ j, 1 ≤ j ∧ j ≤ i ∧ v = pn n x j := by
        intro i
        induction i with
        | zero => intro h; omega
        | succ i ih =>
          intro _ hin
          by_cases hz : i = 0
          · subst hz
            rw [p1]
            exact ⟨_, _, .nil, fun v hv => ⟨1, Nat.le_refl 1, Nat.le_refl 1, by rw [p1]; exact List.mem_singleton.1 hv⟩⟩
          · obtain ⟨vs, ss, hw, hv⟩ := ih (by omega) (by omega)
            have hp := pn_lt (i := i) hx (by omega)
            have st : StepOk lo hi F (some ((x : Int), ((nx n x : Nat) : Int))) (pn n x i) (pn n x (i + 1)) _ := .fwd (by rw [pn_succ hx (by omega)]; exact nx_ne n2 hp) (fun e => by
              have := pn_inj hx ⟨by omega, by omega⟩ ⟨by omega, Nat.le_refl n⟩ ((cle e).trans (pn_n hx).symm); omega) (by rw [pn_succ hx (by omega), R.flow c hx hp]; exact h _ hp)
            refine ⟨_, _, .snoc hw st (fun hm => ?_), fun v hm => ?_⟩
            · obtain ⟨j, j1, j2, j3⟩ := hv _ hm
              have := pn_inj hx ⟨by omega, hin⟩ ⟨j1, by omega⟩ j3
              omega
            · rcases List.mem_cons.1 hm with e | hm
              · exact ⟨i + 1, by omega, Nat.le_refl _, e⟩
              · obtain ⟨j, j1, j2, j3⟩ := hv v hm
                exact ⟨j, j1, by omega, j3⟩
      obtain ⟨vs, ss, hw, hv⟩ := key n (by omega) (Nat.le_refl n)
      rw [pn_n hx] at hw
      exact ⟨vs, ss, hw, fun v hm => by obtain ⟨j, _, j2, rfl⟩ := hv v hm; exact pn_lt hx j2⟩
    · refine .inr ⟨h x hx, ?_⟩
      have key : ∀ j, j + 1 ≤ n → ∃ vs ss, Way (StepOk lo hi F (some ((x : Int), ((nx n x : Nat) : Int)))) x vs (pn n x (n - j)) ss ∧ ∀ v ∈ vs, ∃ i, n - j ≤ i ∧ i ≤ n ∧ v = pn n x i := by
        intro j
        induction j with
        | zero =>
          intro _
          rw [Nat.sub_zero, pn_n hx]
          exact ⟨_, _, .nil, fun v hv => ⟨n, Nat.le_refl n, Nat.le_refl n, by rw [pn_n hx]; exact List.mem_singleton.1 hv⟩⟩
        | succ j ih =>
          intro hj
          obtain ⟨vs, ss, hw, hv⟩ := ih (by omega)
          have e1 : n - j = (n - (j + 1)) + 1 := by omega
          have hp := pn_lt (i := n - (j + 1)) hx (by omega)
          have e2 : pn n x (n - j) = nx n (pn n x (n - (j + 1))) := by rw [e1, pn_succ hx (by omega)]
          have st : StepOk lo hi F (some ((x : Int), ((nx n x : Nat) : Int))) (pn n x (n - j)) (pn n x (n - (j + 1))) _ := .bwd (by rw [e2]; exact (nx_ne n2 hp).symm) (fun e => by
            have := pn_inj hx ⟨by omega, by omega⟩ ⟨by omega, Nat.le_refl n⟩ ((cle e).trans (pn_n hx).symm); omega) (by rw [e2, R.flow c hx hp]; exact h _ hp)
          refine ⟨_, _, .snoc hw st (fun hm => ?_), fun v hm => ?_⟩
          · obtain ⟨i, j1, j2, j3⟩ := hv _ hm
            have := pn_inj hx ⟨by omega, by omega⟩ ⟨by omega, by omega⟩ j3
            omega
          · rcases List.mem_cons.1 hm with e | hm
            · exact ⟨n - (j + 1), Nat.le_refl _, by omega, e⟩
            · obtain ⟨i, j1, j2, j3⟩ := hv v hm
              exact ⟨i, by omega, j2, j3⟩
      obtain ⟨vs, ss, hw, hv⟩ := key (n - 1) (by omega)
      rw [show n - (n - 1) = 1 by omega, p1] at hw
      exact ⟨vs, ss, hw, fun v hm => by obtain ⟨j, _, j2, rfl⟩ := hv v hm; exact pn_lt hx j2⟩
end
end M
/-! MI: the rings of the law. -/
namespace M
open K Z
structure RingPre (n : Nat) (r : Nat → Int) (lo hi : Mat) : Prop where
  n2 : 3 ≤ n
  n8 : n ≤ 8
  r1 : ∀ x, x < n → 1 ≤ r x ∧ r x ≤ 6
  ol : Off n lo
  oh : Off n hi
  l1 : ∀ x, x < n → 1 ≤ lo x (nx n x) ∧ r x * lo x (nx n x) ≤ 60
  h1 : ∀ x, x < n → 60 ≤ r x * hi x (nx n x) ∧ hi x (nx n x) ≤ 1000
theorem mx_ring {n x : Nat} {f : Mat} (o : Off n f) (hx : x < n) (h0 : 0 ≤ f x (nx n x)) : mx (tab n (f x)) = f x (nx n x) := by
  have hne : tab n (f x) ≠ [] := fun h => by have := congrArg List.length h; rw [tab_len] at this; simp at this; omega
  refine Int.le_antisymm ?_ (le_mx (tab_mem.mpr ⟨nx n x, nx_lt hx, rfl⟩))
  obtain ⟨y, hy, e⟩ := tab_mem.mp (mx_mem hne)
  rw [← e]
  by_cases h : y = nx n x
  · rw [h]; exact Int.le_refl _
  · rw [o x y hx hy h]; exact h0
def lst (n : Nat) (r : Nat → Int) (lo : Mat) : Int := mx (tab n fun x => r x * mx (tab n (lo x)))
def mst (n : Nat) (r : Nat → Int) (hi : Mat) : Int := mn (tab n fun x => r x * mx (tab n (hi x)))
section
variable {n : Nat} {r : Nat → Int} {lo hi F : Mat}
theorem RingPre.hle (P : RingPre n r lo hi) {x : Nat} (hx : x < n) : lo x (nx n x) ≤ hi x (nx n x) := by
  have h1 := (P.l1 x hx).2
  have h2 := (P.h1 x hx).1
  have h3 := (P.r1 x hx).1
  exact Int.le_of_mul_le_mul_left (Int.le_trans h1 h2) (by omega)
theorem RingPre.le (P : RingPre n r lo hi) : ∀ x y, x < n → y < n → lo x y ≤ hi x y := fun x y hx hy => by
  by_cases h : y = nx n x
  · rw [h]; exact P.hle hx
  · rw [P.ol x y hx hy h, P.oh x y hx hy h]; omega
theorem RingPre.rowOk (P : RingPre n r lo hi) : RowOk n r := ⟨P.n8, fun x hx => (P.r1 x hx).1, fun x hx => by have := (P.r1 x hx).2; omega⟩
theorem tab_ring {f : Mat} (h2 : 3 ≤ n) (h8 : n ≤ 8) (o : Off n f) (p : ∀ x, x < n → 1 ≤ f x (nx n x)) : TabOk n f ∧ Joined n f := by
  refine ⟨⟨by omega, h8, fun a b ha hb => ?_, fun a ha => o a a ha ha (nx_ne (by omega) ha).symm⟩, ring_joined fun x hx => by rw [nx_mod hx]; have := p x hx; omega⟩
  by_cases h : b = nx n a
  · rw [h]; have := p a ha; omega
  · rw [o a b ha hb h]; omega
theorem RingPre.ntOk (P : RingPre n r lo hi) : NtOk n lo hi :=
  have a := tab_ring P.n2 P.n8 P.ol fun x hx => (P.l1 x hx).1
  have b := tab_ring P.n2 P.n8 P.oh fun x hx => Int.le_trans (P.l1 x hx).1 (P.hle hx)
  ⟨a.1, b.1, a.2, b.2, P.le⟩
theorem RingPre.rg (P : RingPre n r lo hi) : Rg n (scl r lo) (scl r hi) := ⟨by have := P.n2; omega, fun x y hx hy h => by show r x * lo x y = 0; rw [P.ol x y hx hy h, Int.mul_zero], fun x y hx hy h => by show r x * hi x y = 0; rw [P.oh x y hx hy h, Int.mul_zero]⟩
theorem RingPre.circ (P : RingPre n r lo hi) : ∃ F, Circ n (scl r lo) (scl r hi) F := by
  have o : Off n (fun x y => if y = nx n x then 60 else 0) := fun x y hx hy h => if_neg h
  refine ⟨fun x y => if y = nx n x then 60 else 0, fun x y hx hy => ?_, fun z hz => ?_⟩
  · show r x * lo x y ≤ _ ∧ _ ≤ r x * hi x y
    by_cases h : y = nx n x
    · rw [if_pos h, h]; exact ⟨(P.l1 x hx).2, (P.h1 x hx).1⟩
    · rw [if_neg h, P.ol x y hx hy h, P.oh x y hx hy h]; omega
  · have hp : ∃ w, w < n ∧ nx n w = z := by
      by_cases h : z = 0
      · exact ⟨n - 1, by have := P.n2; omega, by unfold nx; split <;> omega⟩
      · exact ⟨z - 1, by omega, by unfold nx; split <;> omega⟩
    obtain ⟨w, hw, rfl⟩ := hp
    refine (exc_ring o hw).trans ?_
    show (if nx n w = nx n w then (60 : Int) else 0) - (if nx n (nx n w) = nx n (nx n w) then (60 : Int) else 0) = 0
    rw [if_pos rfl, if_pos rfl]; rfl
theorem RingPre.ne (P : RingPre n r lo hi) {f : Nat → Int} : tab n f ≠ [] := fun h => by have := congrArg List.length h; have h3 := P.n2; rw [tab_len] at this; simp at this; omega
theorem RingPre.lst_is (P : RingPre n r lo hi) {v : Int} (h1 : ∀ z, z < n → scl r lo z (nx n z) ≤ v) (h2 : ∃ z, z < n ∧ scl r lo z (nx n z) = v) : lst n r lo = v := by
  have e : ∀ z, z < n → r z * mx (tab n (lo z)) = scl r lo z (nx n z) := fun z hz => by rw [mx_ring P.ol hz (by have := (P.l1 z hz).1; omega)]
  obtain ⟨z, hz, rfl⟩ := h2
  refine Int.le_antisymm ?_ (le_mx (tab_mem.mpr ⟨z, hz, e z hz⟩))
  obtain ⟨y, hy, e2⟩ := tab_mem.mp (mx_mem (P.ne (f := fun x => r x * mx (tab n (lo x)))))
  show mx _ ≤ _
  rw [← e2, e y hy]; exact h1 y hy
theorem RingPre.mst_is (P : RingPre n r lo hi) {v : Int} (h1 : ∀ z, z < n → v ≤ scl r hi z (nx n z)) (h2 : ∃ z, z < n ∧ scl r hi z (nx n z) = v) : mst n r hi = v := by
  have e : ∀ z, z < n → r z * mx (tab n (hi z)) = scl r hi z (nx n z) := fun z hz => by rw [mx_ring P.oh hz (by have := (P.l1 z hz).1; have := P.hle hz; omega)]
  obtain ⟨z, hz, rfl⟩ := h2
  refine Int.le_antisymm (mn_le (tab_mem.mpr ⟨z, hz, e z hz⟩)) ?_
  obtain ⟨y, hy, e2⟩ := tab_mem.mp (mn_mem (P.ne (f := fun x => r x * mx (tab n (hi x)))))
  show _ ≤ mn _
  rw [← e2, e y hy]; exact h1 y hy
theorem RingPre.lst_ex (P : RingPre n r lo hi) : ∃ z, z < n ∧ lst n r lo = scl r lo z (nx n z) := by
  obtain ⟨y, hy, e2⟩ := tab_mem.mp (mx_mem (P.ne (f := fun x => r x * mx (tab n (lo x)))))
  exact ⟨y, hy, by show mx _ = _; rw [← e2, mx_ring P.ol hy (by have := (P.l1 y hy).1; omega)]⟩
theorem RingPre.mst_ex (P : RingPre n r lo hi) : ∃ z, z < n ∧ mst n r hi = scl r hi z (nx n z) := by
  obtain ⟨y, hy, e2⟩ := tab_mem.mp (mn_mem (P.ne (f := fun x => r x * mx (tab n (hi x)))))
  exact ⟨y, hy, by show mn _ = _; rw [← e2, mx_ring P.oh hy (by have := (P.l1 y hy).1; have := P.hle hy; omega)]⟩
theorem RingPre.lst_le (P : RingPre n r lo hi) {z : Nat} (hz : z < n) : scl r lo z (nx n z) ≤ lst n r lo := le_mx (tab_mem.mpr ⟨z, hz, by rw [mx_ring P.ol hz (by have := (P.l1 z hz).1; omega)]⟩)
theorem RingPre.mst_le (P : RingPre n r lo hi) {z : Nat} (hz : z < n) : mst n r hi ≤ scl r hi z (nx n z) := mn_le (tab_mem.mpr ⟨z, hz, by rw [mx_ring P.oh hz (by have := (P.l1 z hz).1; have := P.hle hz; omega)]⟩)
theorem RingPre.bds (P : RingPre n r lo hi) : 1 ≤ lst n r lo ∧ lst n r lo ≤ 60 ∧ 60 ≤ mst n r hi ∧ mst n r hi ≤ 6000 := by
  obtain ⟨z, hz, e⟩ := P.lst_ex
  obtain ⟨w, hw, e2⟩ := P.mst_ex
  rw [e, e2]
  have h1 := P.l1 z hz
  have h2 := P.h1 w hw
  have h3 := P.r1 z hz
  have h4 := P.r1 w hw
  refine ⟨?_, h1.2, h2.1, ?_⟩
  · have := Int.mul_le_mul h3.1 h1.1 (by decide) (by omega)
    exact this
  · have := Int.mul_le_mul h4.2 h2.2 (by have := P.hle hw; have := (P.l1 w hw).1; omega) (by decide)
    exact this
/-- what is told of the ring -/
theorem RingPre.told (P : RingPre n r lo hi) (c : Circ n (scl r lo) (scl r hi) F) : (toldN n lo hi r F).length = (unl (n, lo, hi)).length ↔ lst n r lo = mst n r hi ∨ mat n lo = mat n hi := by
  have R := P.rg
  have h0 : 0 < n := by have := P.n2; omega
  have fl : ∀ x, x < n → F x (nx n x) = F 0 (nx n 0) := R.const c
  have mem : ∀ p ∈ unl (n, lo, hi), ∃ x, x < n ∧ p = ((x : Int), ((nx n x : Nat) : Int)) ∧ lo x (nx n x) ≠ hi x (nx n x) := fun p hp => by
    obtain ⟨x, y, hx, hy, rfl, hne⟩ := prs_mem hp
    have hne : lo x y ≠ hi x y := of_decide_eq_true hne
    have : y = nx n x := Classical.byContradiction fun h => hne (by rw [P.ol x y hx hy h, P.oh x y hx hy h])
    subst this
    exact ⟨x, hx, rfl, hne⟩
  have phi : lst n r lo ≤ F 0 (nx n 0) ∧ F 0 (nx n 0) ≤ mst n r hi := by
    obtain ⟨z, hz, e⟩ := P.lst_ex
    obtain ⟨w, hw, e2⟩ := P.mst_ex
    rw [e, e2]
    have h1 := (c.bd z _ hz (nx_lt hz)).1
    have h2 := (c.bd w _ hw (nx_lt hw)).2
    rw [fl z hz] at h1
    rw [fl w hw] at h2
    exact ⟨h1, h2⟩
  have same : mat n lo = mat n hi → unl (n, lo, hi) = [] := fun e => by
    apply Classical.byContradiction
    intro hne
    obtain ⟨p, hp⟩ := List.exists_mem_of_ne_nil _ hne
    obtain ⟨x, hx, _, hd⟩ := mem p hp
    refine hd ?_
    have h1 := congrArg (fun l : List (List Int) => l[x]?) e
    simp only [tab_get hx] at h1
    have h2 := congrArg (fun l : List Int => l[nx n x]?) (Option.some.inj h1)
    simp only [tab_get (nx_lt hx)] at h2
    exact Option.some.inj h2
  have ne : mat n lo ≠ mat n hi → unl (n, lo, hi) ≠ [] := fun e hu => by
    refine e (tab_congr fun x hx => tab_congr fun y hy => ?_)
    apply Classical.byContradiction
    intro hd
    have : ((x : Int), (y : Int)) ∈ unl (n, lo, hi) := List.mem_flatMap.mpr ⟨x, List.mem_range.mpr hx, List.mem_map.mpr ⟨y, List.mem_filter.mpr ⟨List.mem_range.mpr hy, decide_eq_true hd⟩, rfl⟩⟩
    rw [hu] at this; cases this
  constructor
  · intro h
    apply Classical.byContradiction
    intro hno
    have h1 : lst n r lo ≠ mst n r hi := fun e => hno (.inl e)
    have h2 := ne fun e => hno (.inr e)
    have all : ∀ p ∈ unl (n, lo, hi), ¬ noRing n (scl r lo) (scl r hi) F p.1.toNat p.2.toNat = true := fun p hp => by
      obtain ⟨x, hx, rfl, hd⟩ := mem p hp
      rw [noRing_iff]
      refine fun q => q ?_
      show Ringed n (scl r lo) (scl r hi) F ((x : Int)).toNat (((nx n x : Nat) : Int)).toNat
      rw [Int.toNat_natCast, Int.toNat_natCast, R.ringed_iff c hx, fl x hx]
      by_cases q : F 0 (nx n 0) < mst n r hi
      · exact .inl fun z hz => Int.lt_of_lt_of_le q (P.mst_le hz)
      · exact .inr fun z hz => Int.lt_of_le_of_lt (P.lst_le hz) (by omega)
    have e0 : toldN n lo hi r F = [] := List.filter_eq_nil_iff.mpr all
    rw [e0] at h
    exact h2 (List.length_eq_zero_iff.mp h.symm)
  · rintro (h | h)
    · have all : ∀ p ∈ unl (n, lo, hi), noRing n (scl r lo) (scl r hi) F p.1.toNat p.2.toNat = true := fun p hp => by
        obtain ⟨x, hx, rfl, hd⟩ := mem p hp
        rw [noRing_iff]
        show ¬ Ringed n (scl r lo) (scl r hi) F ((x : Int)).toNat (((nx n x : Nat) : Int)).toNat
        rw [Int.toNat_natCast, Int.toNat_natCast, R.ringed_iff c hx, fl x hx]
        obtain ⟨z, hz, e⟩ := P.lst_ex
        obtain ⟨w, hw, e2⟩ := P.mst_ex
        rintro (q | q)
        · have := q w hw; omega
        · have := q z hz; omega
      have e0 : toldN n lo hi r F = unl (n, lo, hi) := List.filter_eq_self.mpr all
      rw [e0]
    · have e0 := same h
      have : toldN n lo hi r F = [] := by unfold toldN; rw [e0]; rfl
      rw [this, e0]
end
end M
/-! KX: ring_spans. -/
namespace K
open PySem.Spec PySem PyProof.Rows L2 Z M
/-- a store in a matrix of one's own, beside draws -/
theorem storedG {d : Addr} {Hb Hk H H2 H3 H4 : Hp} {p r : Addr} {as : List Addr} {n : Nat} {f f' : Mat} (dw : Dw H d) (G : Go (· = d) Hb H Hk H2) (d1 : Dw H2 d) (Mm : MxM H Hk H2 p as n f) (e3 : Ex H2 H3) (hr : r ∈ as) (ho : ∃ o, H4 = upd H3 r o) (m4 : Mx H4 p as n f') :
    Go (· = d) Hb H Hk H4 ∧ Dw H4 d ∧ MxM H Hk H4 p as n f' := by
  obtain ⟨o, rfl⟩ := ho
  have off : r ∈ p :: as := List.mem_cons_of_mem _ hr
  have hrd : d ≠ r := fun z => (dw.neM Mm) r off z.symm
  obtain ⟨l, z, hh⟩ := d1.ex e3
  exact ⟨(G.step e3).wr (.inr (Mm.new r off)) (Mm.off r off), ⟨l, z, by rw [upd_ne hrd]; exact hh⟩, ⟨m4, Mm.new, Mm.off⟩⟩
theorem div60 {r : Int} (h1 : 1 ≤ r) (h2 : r ≤ 6) : r * (60 / r) = 60 ∧ 10 ≤ 60 / r ∧ 60 / r ≤ 60 := by
  have : r = 1 ∨ r = 2 ∨ r = 3 ∨ r = 4 ∨ r = 5 ∨ r = 6 := by omega
  rcases this with rfl | rfl | rfl | rfl | rfl | rfl <;> decide
theorem div60lo {r a : Int} (h1 : 1 ≤ r) (h2 : r ≤ 6) (h : 0 ≤ a ∧ (a < 3 ∨ a = 0)) : 1 ≤ 60 / r - a ∧ r * (60 / r - a) ≤ 60 := by
  obtain ⟨d1, d2, d3⟩ := div60 h1 h2
  refine ⟨by omega, ?_⟩
  rw [Int.mul_sub, d1]
  have := Int.mul_nonneg (show 0 ≤ r by omega) h.1
  omega
theorem div60hi {r a : Int} (h1 : 1 ≤ r) (h2 : r ≤ 6) (h : 0 ≤ a ∧ (a < 3 ∨ a = 0)) : 60 ≤ r * (60 / r + a) ∧ 60 / r + a ≤ 1000 := by
  obtain ⟨d1, d2, d3⟩ := div60 h1 h2
  refine ⟨?_, by omega⟩
  rw [Int.mul_add, d1]
  have := Int.mul_nonneg (show 0 ≤ r by omega) h.1
  omega
/-- filled up to x -/
def FillTo (n x : Nat) (P : Nat → Int → Prop) (f : Mat) : Prop := (∀ a b, a < n → b < n → (x ≤ a ∨ b ≠ nx n a) → f a b = 0) ∧ ∀ a, a < n → a < x → P a (f a (nx n a))
theorem FillTo.next {n x : Nat} {P : Nat → Int → Prop} {f : Mat} {v : Int} (h : FillTo n x P f) (hp : P x v) : FillTo n (x + 1) P (fun a b => if a = x ∧ b = nx n x then v else f a b) :=
  ⟨fun a b ha hb hc => by
    have hne : ¬ (a = x ∧ b = nx n x) := fun ⟨e1, e2⟩ => by
      subst e1 e2
      rcases hc with hc | hc
      · omega
      · exact hc rfl
    show (if a = x ∧ b = nx n x then v else f a b) = 0
    rw [if_neg hne]
    exact h.1 a b ha hb (hc.imp (fun q => by omega) fun q => q), fun a ha hax => by
    show P a (if a = x ∧ nx n a = nx n x then v else f a (nx n a))
    by_cases e : a = x
    · subst e; rw [if_pos ⟨rfl, rfl⟩]; exact hp
    · rw [if_neg fun q => e q.1]; exact h.2 a ha (by omega)⟩
def spRings : Sp := fun vs H1 Q _ => ∃ (Hb : Hp) (d : Addr), vs = [.ref d] ∧ Ex Hb H1 ∧ Hb d = none ∧ Dw H1 d ∧ ∀ H2, Q (.bl true) H2
theorem ok_rings {g : W5} {CN CC : Addr} (D : DefOf g "_law_ring_spans" sRingSpans) (T : TX g) (FT : FnB g CX0 1 "_law_take" ["_law_draws_here", "_law_many"] [] spTake) (FNu : FnB g CX0 2 "_law_numbers" ["_law_draws_here", "_law_size", "_law_low", "_law_high"] [] spNumbers) (FE : FnB g CX0 1 "_law_empty" ["_law_size"] [] spEmpty)
    (FN : ClB g CX0 6 "Notes" CN ["self", "lows", "highs"] (spNtInit CN CC)) (FS : FnB g CX0 5 "rate_span" ["notes", "row", "x", "y"] [] (spSpan CN CC)) (FSm : FnB g CX0 4 "_law_same" ["_law_value", "_law_over", "_law_under"] [] spSame) (FL : FnB g CX0 1 "_law_low_terms" ["_law_value"] [] spLow) (FTe : FnB g CX0 6 "tells_rates" ["notes", "row"] [] (spTells CN CC)) :
    FnB g CX0 8 "_law_ring_spans" ["_law_draws_here"] [] spRings := by
  refine def_ok D sRingSpansS (by decide +kernel) (fun vs H Q E ⟨Hb, d, h, _⟩ => by rw [h]; rfl) (fun _ _ _ _ _ _ us hl => match us, hl with | [_], _ => rfl) fun f0 cdv A outer s H vs Q E cx ⟨Hb, d, hvs, e, hd, dw, q⟩ => ?_
  subst hvs
  -- size
  refine s_cons (s_setD 1 (ed_add (edP (cI (n := 6))) (take 0 FT (cI (n := 3)))) e hd dw fun i H1 g1 dw1 ⟨a, b, ha, hb, hi⟩ => ?_)
  obtain ⟨n, hn6, hn8, rfl⟩ : ∃ n : Nat, 6 ≤ n ∧ n ≤ 8 ∧ i = (n : Int) := ⟨i.toNat, by omega, by omega, by omega⟩
  have G : Gd d Hb H H1 := g1
  -- row
  refine s_cons (s_setw 2 (wcall FNu (by decide) ⟨_, fun _ => pa_cons (pe_var (i := 0) rfl (.inl rfl) (by decide) (by decide)) (wA_ok (X := u1 _) ()) rfl, _, rfl,
    EL.run (ac (nm 1 (R := rInt) (a := (n : Int)) (h := rfl)) (ac (cI (n := 1)) (ac (cI (n := 6)) a0))) G.on fun us Hk2 H2 g2 hus => ?_⟩))
  refine ⟨(n, 1, 6), Hb, d, us, by rw [List.append_nil], G.on.trans g2.ex, hd, dw1.ex g2.ex, ?_, ⟨by show n ≤ 1000; omega, by show (1 : Int) ≤ 6; decide⟩, fun p l H3 hp g3 dw3 hl hlen hlr => ?_⟩
  · obtain ⟨z1, z2, z3, rfl, hz1, hz2, hz3⟩ := AL.three hus
    exact ⟨z1, [z2, z3], rfl, hz1, z2, [z3], rfl, hz2, z3, [], rfl, hz3, rfl⟩
  have G : Gd d Hb H H3 := (G.step g2.ex).trans g3
  have hdp : d ≠ p := fun z => by have := dw1.ex g2.ex; obtain ⟨_, _, w⟩ := this; rw [z, hp] at w; cases w
  have hpH : H p = none := (G.step (Ex.refl _)) |> fun _ => by
    cases z : H p with
    | none => rfl
    | some o =>
      have := (g1.step g2.ex).live p (by rw [z]; exact fun q => nomatch q)
      exact absurd hp this
  have hpb : Hb p = none := e.none hpH
  have M0 : Mu H Hb H3 p (.lst (l.map .int)) := ⟨hpH, hpb, hl⟩
  have G := G.fixm M0
  have hd2 : upd Hb p (.lst (l.map .int)) d = none := by rw [upd_ne hdp]; exact hd
  obtain ⟨r, hr, hl2⟩ : ∃ r : Nat → Int, (∀ x, x < n → 1 ≤ r x ∧ r x ≤ 6) ∧ l = tab n r := by
    have e1 := tab_self l
    have e2 : l.length = n := hlen
    rw [e2] at e1
    refine ⟨fun x => l.getD x 0, fun x hx => ?_, e1⟩
    have : l.getD x 0 ∈ l := by
      have h2 : l.getD x 0 = l[x] := by simp [show x < l.length by omega]
      rw [h2]; exact List.getElem_mem _
    exact hlr _ this
  have hrow : (rL rInt).r (upd Hb p (.lst (l.map .int))) (.ref p) (tab n r) := by rw [hl2]; exact rInt.mkL upd_same
  generalize upd Hb p (.lst (l.map .int)) = Hr at G hd2 hrow
  show wSs _ _ _ [some (.ref d), some (.int (n : Int)), some (.ref p), none, none, none, none, none, none, none, none] H3
  -- lows, highs
  refine s_cons (s_setM 3 (callM FE n (ac (nm 1 (R := rInt) (a := (n : Int)) (h := rfl)) a0) rfl (by show n ≤ 1000; omega)) G.on fun p1 as1 H4 hf1 e4 m1 => ?_)
  obtain ⟨G, M1⟩ : Go (· = d) Hb H Hr H4 ∧ MxM H Hr H4 p1 as1 n (fun _ _ => 0) := G.ownM e4 hf1 m1
  have dw4 := dw3.ex e4
  refine s_cons (s_setM 4 (callM FE n (ac (nm 1 (R := rInt) (a := (n : Int)) (h := rfl)) a0) rfl (by show n ≤ 1000; omega)) G.on fun p2 as2 H5 hf2 e5 m2 => ?_)
  have dis : ∀ b ∈ p1 :: as1, b ∉ p2 :: as2 := fun b hb z => M1.live b hb (hf2 b z)
  obtain ⟨G, M2⟩ : Go (· = d) Hb H Hr H5 ∧ MxM H Hr H5 p2 as2 n (fun _ _ => 0) := G.ownM e5 hf2 m2
  have M1 := M1.ex e5
  have dw5 := dw4.ex e5
  show wSs _ _ _ [some (.ref d), some (.int (n : Int)), some (.ref p), some (.ref p1), some (.ref p2), none, none, none, none, none, none] H5
  refine s_cons (s_forR (n := n) T.range 5 (nm 1 (R := rInt) (a := (n : Int)) (h := rfl)) G.on (by omega)
    (fun x σ H' => ∃ (o5 o6 : Option V) (f1 f2 : Mat), σ = [some (.ref d), some (.int (n : Int)), some (.ref p), some (.ref p1), some (.ref p2), o5, o6, none, none, none, none] ∧ Go (· = d) Hb H Hr H' ∧ Dw H' d ∧ MxM H Hr H' p1 as1 n f1 ∧ MxM H Hr H' p2 as2 n f2 ∧
      FillTo n x (fun a v => 1 ≤ v ∧ r a * v ≤ 60) f1 ∧ FillTo n x (fun a v => 60 ≤ r a * v ∧ v ≤ 1000) f2)
    (fun Hk H6 g6 => ⟨none, none, _, _, rfl, G.step g6.ex, dw5.ex g6.ex, M1.ex g6.ex, M2.ex g6.ex, ⟨fun _ _ _ _ _ => rfl, fun a _ h => absurd h (Nat.not_lt_zero _)⟩, ⟨fun _ _ _ _ _ => rfl, fun a _ h => absurd h (Nat.not_lt_zero _)⟩⟩) (fun x σ' H' hx hI => ?_) fun σ' H' hI => ?_)
  · obtain ⟨o5, o6, f1, f2, rfl, G, dw6, M1, M2, L1, L2'⟩ := hI
    show wSs _ _ _ [some (.ref d), some (.int (n : Int)), some (.ref p), some (.ref p1), some (.ref p2), some (.int (x : Int)), o6, none, none, none, none] H'
    have hn0 : (0 : Int) < (n : Int) := by omega
    obtain ⟨hr1, hr2⟩ := hr x hx
    refine s_cons (s_set 6 (EV.is (a' := ((nx n x : Nat) : Int)) (md (int1 T.int (add (nm 5 (R := rInt) (a := (x : Int)) (h := rfl)) (cI (n := 1)))) (nm 1 (R := rInt) (a := (n : Int)) (h := rfl)) hn0) (by rw [← nx_mod hx]; exact natMod (x := x + 1) (by omega))) G.on fun w Hk7 H7 g7 hw => ?_)
    obtain rfl : w = .int ((nx n x : Nat) : Int) := hw
    have G := G.step g7.ex
    have dw7 := dw6.ex g7.ex
    have M1 := M1.ex g7.ex
    have M2 := M2.ex g7.ex
    have hy := nx_lt hx
    show wSs _ _ _ [some (.ref d), some (.int (n : Int)), some (.ref p), some (.ref p1), some (.ref p2), some (.int (x : Int)), some (.int ((nx n x : Nat) : Int)), none, none, none, none] H7
    have hBr : Bd (r x) := bd60 (by omega) (Int.le_trans hr2 (by decide +kernel))
    -- lows[x][y]
    refine s_cons (s_asgw ((ed_sub (edP (dvB (cI (n := 60)) (ixt (nm 2 (R := rL rInt) (a := tab n r) (h := hrow)) (nm 5 (R := rInt) (a := (x : Int)) (h := rfl)) hx) (by omega) hBr)) (take 0 FT (cI (n := 3)))) hd2 H7 G.on dw7 _ fun i H8 g8 dw8 ⟨a, b, ha, hb, hi⟩ => ?_))
    subst ha hi
    have G := G.trans g8
    have M1 := M1.go g8 (dw.neM M1)
    have M2 := M2.go g8 (dw.neM M2)
    refine gM (j := 3) x (nx n x) M1.toMx (nm 5 (R := rInt) (a := (x : Int)) (h := rfl)) (nm 6 (R := rInt) (a := ((nx n x : Nat) : Int)) (h := rfl)) rfl rfl hx hy fun H9 H10 r1 e9 hr1' ho m10 => ?_
    obtain ⟨o, rfl⟩ := ho
    have M2 := K.MxM.aside (M2.ex e9) (p2 := r1) (o := o) (dis r1 (List.mem_cons_of_mem _ hr1'))
    obtain ⟨G, dw10, M1⟩ := storedG dw G dw8 M1 e9 hr1' ⟨o, rfl⟩ m10
    generalize upd H9 r1 o = H10 at G dw10 M1 M2
    -- highs[x][y]
    refine s_one (s_asgw ((ed_add (edP (dvB (cI (n := 60)) (ixt (nm 2 (R := rL rInt) (a := tab n r) (h := hrow)) (nm 5 (R := rInt) (a := (x : Int)) (h := rfl)) hx) (by omega) hBr)) (take 0 FT (cI (n := 3)))) hd2 H10 G.on dw10 _ fun i H11 g11 dw11 ⟨a, b2, ha, hb2, hi⟩ => ?_))
    subst ha hi
    have G := G.trans g11
    have M1 := M1.go g11 (dw.neM M1)
    have M2 := M2.go g11 (dw.neM M2)
    refine gM (j := 4) x (nx n x) M2.toMx (nm 5 (R := rInt) (a := (x : Int)) (h := rfl)) (nm 6 (R := rInt) (a := ((nx n x : Nat) : Int)) (h := rfl)) rfl rfl hx hy fun H12 H13 r2 e12 hr2' ho m13 => ?_
    obtain ⟨o, rfl⟩ := ho
    have M1 := K.MxM.aside (M1.ex e12) (p2 := r2) (o := o) (fun z => dis r2 z (List.mem_cons_of_mem _ hr2'))
    obtain ⟨G, dw13, M2⟩ := storedG dw G dw11 M2 e12 hr2' ⟨o, rfl⟩ m13
    exact ⟨_, _, _, _, rfl, G, dw13, M1, M2, L1.next (div60lo hr1 hr2 hb), L2'.next (div60hi hr1 hr2 hb2)⟩
  obtain ⟨o5, o6, lo, hi, rfl, G, dw6, M1, M2, L1, L2'⟩ := hI
  have P : RingPre n r lo hi := ⟨by omega, hn8, hr, fun x y hx hy h => L1.1 x y hx hy (.inr h), fun x y hx hy h => L2'.1 x y hx hy (.inr h), fun x hx => L1.2 x hx hx, fun x hx => L2'.2 x hx hx⟩
  have hlo := M1.toMx.rep
  have hhi := M2.toMx.rep
  have hrow := (rL rInt).up G.on hrow
  clear M1 M2 dw6 G
  have hro := P.rowOk
  -- held
  refine s_cons (s_set 7 (EP.imp (make FN (n, lo, hi) (ac (nm 3 (R := rL (rL rInt)) (a := mat n lo) (h := hlo)) (ac (nm 4 (R := rL (rL rInt)) (a := mat n hi) (h := hhi)) a0)) rfl P.ntOk ntPost_up) fun v H ⟨a, dx, fs, h1, h2, h3⟩ => (show (rNt CN CC).r H v (n, lo, hi) from ⟨a, dx, fs, h1, h2, h3⟩)) (Ex.refl H') fun vh Hk9 H9 g9 hvh => ?_)
  have hlo := (rL (rL rInt)).up g9.base hlo
  have hhi := (rL (rL rInt)).up g9.base hhi
  have hrow := (rL rInt).up g9.base hrow
  have bm : ∀ x, x < n → ∀ {f : Mat}, Off n f → 0 ≤ f x (nx n x) → f x (nx n x) ≤ 1000 → Bd (mx (tab n (f x))) := fun x hx f o h0 h1 => by
    rw [mx_ring o hx h0]; exact bd60 h0 (Int.le_trans h1 (by decide +kernel))
  have lo0 : ∀ x, x < n → 0 ≤ lo x (nx n x) ∧ lo x (nx n x) ≤ 1000 := fun x hx => ⟨by have := (P.l1 x hx).1; omega, Int.le_trans (P.hle hx) (P.h1 x hx).2⟩
  have hi0 : ∀ x, x < n → 0 ≤ hi x (nx n x) ∧ hi x (nx n x) ≤ 1000 := fun x hx => ⟨Int.le_trans (lo0 x hx).1 (P.hle hx), (P.h1 x hx).2⟩
  have size : ∀ {σ : L2.St} {Hb0 : Hp}, True := trivial
  refine s_cons (s_set 8 (maxE T.max (lc [("_law_x", 5)] (S := rInt) (iR (n := n) T.range (nm 1 (R := rInt) (a := (n : Int)) (h := rfl)) (by omega)) (fun x => r x * mx (tab n (lo x))) (by omega) fun x vx Hc H11 hx e1 e2 hvx => gn 5 ⟨rfl, rfl,
    mulB (ixt (nm 2 (R := rL rInt) (a := tab n r) (h := (rL rInt).up e1 hrow)) (nm 5 (R := rInt) (a := (x : Int)) (h := hvx)) hx) (maxE T.max (ixt (nm 3 (R := rL (rL rInt)) (a := mat n lo) (h := (rL (rL rInt)).up e1 hlo)) (nm 5 (R := rInt) (a := (x : Int)) (h := hvx)) hx) P.ne) (hro.bd hx) (bm x hx P.ol (lo0 x hx).1 (lo0 x hx).2)⟩) P.ne) g9.on fun v8 Hk10 H10 g10 hv8 => ?_)
  obtain rfl : v8 = .int (lst n r lo) := hv8
  have hlo := (rL (rL rInt)).up g10.base hlo
  have hhi := (rL (rL rInt)).up g10.base hhi
  have hrow := (rL rInt).up g10.base hrow
  have hvh := (rNt CN CC).up g10.base hvh
  refine s_cons (s_set 9 (minE T.min (lc [("_law_x", 5)] (S := rInt) (iR (n := n) T.range (nm 1 (R := rInt) (a := (n : Int)) (h := rfl)) (by omega)) (fun x => r x * mx (tab n (hi x))) (by omega) fun x vx Hc H11 hx e1 e2 hvx => gn 5 ⟨rfl, rfl,
    mulB (ixt (nm 2 (R := rL rInt) (a := tab n r) (h := (rL rInt).up e1 hrow)) (nm 5 (R := rInt) (a := (x : Int)) (h := hvx)) hx) (maxE T.max (ixt (nm 4 (R := rL (rL rInt)) (a := mat n hi) (h := (rL (rL rInt)).up e1 hhi)) (nm 5 (R := rInt) (a := (x : Int)) (h := hvx)) hx) P.ne) (hro.bd hx) (bm x hx P.oh (hi0 x hx).1 (hi0 x hx).2)⟩) P.ne) g10.on fun v9 Hk11 H11 g11 hv9 => ?_)
  obtain rfl : v9 = .int (mst n r hi) := hv9
  have hlo := (rL (rL rInt)).up g11.base hlo
  have hhi := (rL (rL rInt)).up g11.base hhi
  have hrow := (rL rInt).up g11.base hrow
  have hvh := (rNt CN CC).up g11.base hvh
  obtain ⟨b1, b2, b3, b4⟩ := P.bds
  -- the spans
  refine s_cons (s_forR (n := n) T.range 5 (nm 1 (R := rInt) (a := (n : Int)) (h := rfl)) g11.on (by omega)
    (fun x σ H' => ∃ (o5 o10 : Option V), σ = [some (.ref d), some (.int (n : Int)), some (.ref p), some (.ref p1), some (.ref p2), o5, o6, some vh, some (.int (lst n r lo)), some (.int (mst n r hi)), o10] ∧ Ex Hk11 H')
    (fun Hk H6 g6 => ⟨_, none, rfl, g11.on.trans g6.ex⟩) (fun x σ' H' hx hI => ?_) fun σ' H' hI => ?_)
  · obtain ⟨o5, o10, rfl, ex⟩ := hI
    show wSs _ _ _ [some (.ref d), some (.int (n : Int)), some (.ref p), some (.ref p1), some (.ref p2), some (.int (x : Int)), o6, some vh, some (.int (lst n r lo)), some (.int (mst n r hi)), o10] H'
    have hn0 : (0 : Int) < (n : Int) := by omega
    have hy := nx_lt hx
    have hr1 := (hr x hx).1
    have hr6 := (hr x hx).2
    have hBr := hro.bd hx
    refine s_cons (s_setw 10 (wcall FS (by decide) (EL.run (ac (nm 7 (R := rNt CN CC) (a := (n, lo, hi)) (h := hvh)) (ac (toList T.list (nm 2 (R := rL rInt) (a := tab n r) (h := hrow))) (ac (nm 5 (R := rInt) (a := (x : Int)) (h := rfl)) (ac (EV.is (a' := ((nx n x : Nat) : Int)) (md (int1 T.int (add (nm 5 (R := rInt) (a := (x : Int)) (h := rfl)) (cI (n := 1)))) (nm 1 (R := rInt) (a := (n : Int)) (h := rfl)) hn0) (by rw [← nx_mod hx]; exact natMod (x := x + 1) (by omega))) a0)))) ex fun vs2 Hk12 H12 g12 hvs2 => ?_)))
    obtain ⟨z1, z2, z3, z4, rfl, hz1, hz2, hz3, hz4⟩ := AL.four hvs2
    obtain rfl : z3 = .int (x : Int) := hz3
    obtain rfl : z4 = .int ((nx n x : Nat) : Int) := hz4
    refine ⟨true, n, lo, hi, r, x, nx n x, Hk12, z1, z2, rfl, g12.on, hz1, hz2, ⟨hro, P.le, P.circ, hx, hy, (nx_ne (by omega) hx).symm⟩, fun w Hk13 H13 F dn up g13 c m1 m2 hw => ?_⟩
    obtain ⟨q1, q2⟩ := P.rg.down c hx m1
    obtain ⟨q3, q4⟩ := P.rg.up c hx m2
    have eL : F x (nx n x) - dn = lst n r lo := (P.lst_is q1 q2).symm
    have eM : F x (nx n x) + up = mst n r hi := (P.mst_is q3 q4).symm
    rw [eL, eM] at hw
    have g14 := g12.trans g13
    have hrow' := (rL rInt).up g14.base hrow
    have hvh' := (rNt CN CC).up g14.base hvh
    obtain ⟨l1, l2, l3, l4, l5, l6⟩ := fr_facts (u := lst n r lo) (v := r x) (by omega) hr1
    obtain ⟨k1, k2, k3, k4, k5, k6⟩ := fr_facts (u := mst n r hi) (v := r x) (by omega) hr1
    have bb : ∀ {i : Int}, 0 ≤ i → i ≤ 6000 → Bd i := fun h0 h1 => bd60 h0 (Int.le_trans h1 (by decide +kernel))
    show wSs _ _ _ [some (.ref d), some (.int (n : Int)), some (.ref p), some (.ref p1), some (.ref p2), some (.int (x : Int)), o6, some vh, some (.int (lst n r lo)), some (.int (mst n r hi)), some w] H13
    refine s_cons (s_if (ET.is (t' := false) (tW (wor (tnot (tv (call FSm ((frU (lst n r lo) (r x), frV (lst n r lo) (r x)), lst n r lo, r x) (ac (pr0 (nm 10 (R := rP rFr rFr) (a := ((frU (lst n r lo) (r x), frV (lst n r lo) (r x)), (frU (mst n r hi) (r x), frV (mst n r hi) (r x)))) (h := hw))) (ac (nm 8 (R := rInt) (a := lst n r lo) (h := rfl)) (ac (ixt (nm 2 (R := rL rInt) (a := tab n r) (h := hrow')) (nm 5 (R := rInt) (a := (x : Int)) (h := rfl)) hx) a0))) rfl ⟨l1, by show 0 < r x; omega, bb l2 (by show frU _ _ ≤ _; omega), bb (by show 0 ≤ frV _ _; omega) (by show frV _ _ ≤ _; omega), bb (by show 0 ≤ lst n r lo; omega) (by show lst n r lo ≤ _; omega), hBr⟩)))
      fun _ => wor1 (tnot (tv (call FSm ((frU (mst n r hi) (r x), frV (mst n r hi) (r x)), mst n r hi, r x) (ac (pr1 (nm 10 (R := rP rFr rFr) (a := ((frU (lst n r lo) (r x), frV (lst n r lo) (r x)), (frU (mst n r hi) (r x), frV (mst n r hi) (r x)))) (h := hw))) (ac (nm 9 (R := rInt) (a := mst n r hi) (h := rfl)) (ac (ixt (nm 2 (R := rL rInt) (a := tab n r) (h := hrow')) (nm 5 (R := rInt) (a := (x : Int)) (h := rfl)) hx) a0))) rfl ⟨k1, by show 0 < r x; omega, bb k2 (by show frU _ _ ≤ _; omega), bb (by show 0 ≤ frV _ _; omega) (by show frV _ _ ≤ _; omega), bb (by show 0 ≤ mst n r hi; omega) (by show mst n r hi ≤ _; omega), hBr⟩))))) (by
        show (!decide (frU (lst n r lo) (r x) * r x = frV (lst n r lo) (r x) * lst n r lo) || !decide (frU (mst n r hi) (r x) * r x = frV (mst n r hi) (r x) * mst n r hi)) = false
        rw [decide_eq_true l3, decide_eq_true k3]; rfl)) g14.on (fun h => nomatch h) fun _ Hk15 H15 g15 => s_nil ?_)
    have hw := (rP rFr rFr).up g15.base hw
    have hrow' := (rL rInt).up g15.base hrow'
    have hvh' := (rNt CN CC).up g15.base hvh'
    have low : ∀ {u v : Int}, 0 ≤ u → 1 ≤ v → v ≤ 1000000 → Nat.gcd u.natAbs v.natAbs = 1 → decide (eu 400 (if u < 0 then -u else u) v = 1) = true := fun {u v} h0 h1 h2 h3 => by
      refine decide_eq_true ?_
      rw [if_neg (by omega), eu_gcd (k := 399) h0 (by omega) (Int.le_trans h2 (by decide +kernel)) (by decide), h3]; rfl
    refine s_cons (s_if (ET.is (t' := false) (tW (wor (tnot (tv (call FL (frU (lst n r lo) (r x), frV (lst n r lo) (r x)) (ac (pr0 (nm 10 (R := rP rFr rFr) (a := ((frU (lst n r lo) (r x), frV (lst n r lo) (r x)), (frU (mst n r hi) (r x), frV (mst n r hi) (r x)))) (h := hw))) a0) rfl trivial)))
      fun _ => wor1 (tnot (tv (call FL (frU (mst n r hi) (r x), frV (mst n r hi) (r x)) (ac (pr1 (nm 10 (R := rP rFr rFr) (a := ((frU (lst n r lo) (r x), frV (lst n r lo) (r x)), (frU (mst n r hi) (r x), frV (mst n r hi) (r x)))) (h := hw))) a0) rfl trivial))))) (by
        have a1 := low l2 l1 (by omega) l6
        have a2 := low k2 k1 (by omega) k6
        show (!decide (eu 400 (if frU (lst n r lo) (r x) < 0 then -frU (lst n r lo) (r x) else frU (lst n r lo) (r x)) (frV (lst n r lo) (r x)) = 1) || !decide (eu 400 (if frU (mst n r hi) (r x) < 0 then -frU (mst n r hi) (r x) else frU (mst n r hi) (r x)) (frV (mst n r hi) (r x)) = 1)) = false
        rw [a1, a2]; rfl)) g15.on (fun h => nomatch h) fun _ Hk16 H16 g16 => s_nil ?_)
    have hrow' := (rL rInt).up g16.base hrow'
    have hvh' := (rNt CN CC).up g16.base hvh'
    -- two on
    have hy2 : (x + 2) % n < n := Nat.mod_lt _ (by omega)
    have hm2 : (x + 2) % n = if x + 2 < n then x + 2 else x + 2 - n := by
      split
      · rename_i h; exact Nat.mod_eq_of_lt h
      · rw [Nat.mod_eq_sub_mod (by omega), Nat.mod_eq_of_lt (by omega)]
    have hne : x ≠ (x + 2) % n := by rw [hm2]; split <;> omega
    have hnx : (x + 2) % n ≠ nx n x := by rw [hm2]; unfold nx; split <;> split <;> omega
    refine s_one (s_if (ET.is (t' := false) (tNeD (R := rP rFr rFr) (a := ((0, 1), (0, 1))) (b := ((0, 1), (0, 1))) (fun Hr cr Q0 q0 => wcall FS (by decide) (EL.run (ac (nm 7 (R := rNt CN CC) (a := (n, lo, hi)) (h := hvh')) (ac (nm 2 (R := rL rInt) (a := tab n r) (h := hrow')) (ac (nm 5 (R := rInt) (a := (x : Int)) (h := rfl)) (ac (EV.is (a' := (((x + 2) % n : Nat) : Int)) (md (int1 T.int (add (nm 5 (R := rInt) (a := (x : Int)) (h := rfl)) (cI (n := 2)))) (nm 1 (R := rInt) (a := (n : Int)) (h := rfl)) hn0) (natMod (x := x + 2) (by omega))) a0)))) cr fun vs2 Hk17 H17 g17 hvs2 => by
      obtain ⟨z1, z2, z3, z4, rfl, hz1, hz2, hz3, hz4⟩ := AL.four hvs2
      obtain rfl : z3 = .int (x : Int) := hz3
      obtain rfl : z4 = .int (((x + 2) % n : Nat) : Int) := hz4
      refine ⟨true, n, lo, hi, r, x, (x + 2) % n, Hk17, z1, z2, rfl, g17.on, hz1, hz2, ⟨hro, P.le, P.circ, hx, hy2, hne⟩, fun w2 Hk18 H18 F2 dn2 up2 g18 c2 m3 m4 hw2 => ?_⟩
      have F0 : F2 x ((x + 2) % n) = 0 := P.rg.off c2.bd x _ hx hy2 hnx
      have l0 : scl r lo x ((x + 2) % n) = 0 := P.rg.ol x _ hx hy2 hnx
      have h0 : scl r hi x ((x + 2) % n) = 0 := P.rg.oh x _ hx hy2 hnx
      have d0 : dn2 = 0 := by obtain ⟨_, s0, sl, _⟩ := m3; rw [F0, l0] at sl; omega
      have u0 : up2 = 0 := by obtain ⟨_, s0, sl, _⟩ := m4; rw [F0, h0] at sl; omega
      have z0 : frU 0 (r x) = 0 ∧ frV 0 (r x) = 1 := by
        have h4 : Nat.gcd (0 : Int).natAbs (r x).natAbs = (r x).natAbs := by simp
        have h3 : (((r x).natAbs : Nat) : Int) = r x := by omega
        unfold frU frV
        rw [h4, h3, Int.zero_ediv, Int.ediv_self (by omega)]
        exact ⟨rfl, rfl⟩
      rw [F0, d0, u0, show (0 : Int) - 0 = 0 from rfl, show (0 : Int) + 0 = 0 from rfl, z0.1, z0.2] at hw2
      exact q0 w2 Hk18 H18 (g17.trans g18) hw2)) (dP (R := rFr) (T := rFr) (a := (0, 1)) (b := (0, 1)) (ac (dP (R := rInt) (T := rInt) (a := 0) (b := 1) (ac (cI (n := 0)) (ac (cI (n := 1)) a0))) (ac (dP (R := rInt) (T := rInt) (a := 0) (b := 1) (ac (cI (n := 0)) (ac (cI (n := 1)) a0))) a0)))) (by simp)) g16.on (fun h => nomatch h) fun _ Hk19 H19 g19 => s_nil ⟨_, _, rfl, (((g14.base.trans g15.base).trans g16.base).trans g19.base).trans g19.on⟩)
  obtain ⟨o5, o10, rfl, ex⟩ := hI
  obtain ⟨tt, htt⟩ : ∃ tt : Bool, tt = (decide (lst n r lo = mst n r hi) || decide (mat n lo = mat n hi)) := ⟨_, rfl⟩
  refine s_one (s_ret (EV.is (a' := true) (eqS (repB T.repr (b := tt) (fun Hr cr Q0 q0 => wcall FTe (by decide) (EL.run (ac (nm 7 (R := rNt CN CC) (a := (n, lo, hi)) (h := hvh)) (ac (nm 2 (R := rL rInt) (a := tab n r) (h := hrow)) a0)) cr fun vs2 Hk17 H17 g17 hvs2 => by
    obtain ⟨z1, z2, rfl, hz1, hz2⟩ := AL.two hvs2
    refine ⟨true, n, lo, hi, r, Hk17, z1, z2, rfl, g17.on, hz1, hz2, ⟨hro, P.le, P.circ⟩, fun Hk18 H18 F2 g18 c2 => ?_⟩
    have := P.told c2
    have e2 : decide ((toldN n lo hi r F2).length = (unl (n, lo, hi)).length) = tt := by
      rw [htt]
      by_cases h1 : lst n r lo = mst n r hi
      · rw [decide_eq_true (this.mpr (.inl h1)), decide_eq_true h1]; rfl
      · by_cases h2 : mat n lo = mat n hi
        · rw [decide_eq_true (this.mpr (.inr h2)), decide_eq_true h2, Bool.or_true]
        · rw [decide_eq_false fun h => (this.mp h).elim h1 h2, decide_eq_false h1, decide_eq_false h2]; rfl
    rw [e2]
    exact q0 _ Hk18 H18 (g17.trans g18) rfl))) (repB T.repr (b := tt) (EV.is (vor (eqI (nm 8 (R := rInt) (a := lst n r lo) (h := rfl)) (nm 9 (R := rInt) (a := mst n r hi) (h := rfl))) fun _ => vone (eqD (R := rL (rL rInt)) (nm 3 (R := rL (rL rInt)) (a := mat n lo) (h := hlo)) (nm 4 (R := rL (rL rInt)) (a := mat n hi) (h := hhi)))) htt.symm))) (by simp)) ex fun z Hk20 H20 g20 hz => ?_)
  obtain rfl : z = .bl true := hz
  exact q H20
end K
/-! MJ: elimination keeps a grid joined; its row is positive and in balance. -/
namespace M
open K
theorem sm_pos {n i : Nat} {g : Nat → Int} (nn : ∀ j, j < n → 0 ≤ g j) (hi : i < n) (h : 0 < g i) : 0 < sm n g := by
  have := sm_lt (f := fun _ => 0) (g := g) nn hi h
  rwa [sm_zero] at this
theorem sm_pos_inv {n : Nat} {g : Nat → Int} (h : 0 < sm n g) : ∃ i, i < n ∧ 0 < g i := Classical.byContradiction fun q => by
  have := sm_mono (n := n) (f := g) (g := fun _ => 0) fun i hi => by
    have : ¬ 0 < g i := fun z => q ⟨i, hi, z⟩
    omega
  rw [sm_zero] at this; omega
section
variable {m : Nat} {W : Mat}
theorem elim_out (nn : ∀ a b, a < m + 1 → b < m + 1 → 0 ≤ W a b) (h : Joined (m + 1) W) (h1 : 1 ≤ m) : 0 < sm m (W m) := by
  apply Classical.byContradiction
  intro hno
  have z : ∀ y, y < m → W m y = 0 := fun y hy => by
    have a := nn m y (by omega) (by omega)
    have : ¬ 0 < W m y := fun p => hno (sm_pos (fun j hj => nn m j (by omega) (by omega)) hy p)
    omega
  have := h (fun s => s = m) (fun x y hx hy sx hp => by
    subst sx
    apply Classical.byContradiction
    intro hne
    rw [z y (by omega)] at hp; omega) m (by omega) rfl 0 (by omega)
  omega
theorem elim_in (nn : ∀ a b, a < m + 1 → b < m + 1 → 0 ≤ W a b) (h : Joined (m + 1) W) (h1 : 1 ≤ m) : ∃ y, y < m ∧ 0 < W y m := by
  apply Classical.byContradiction
  intro hno
  have := h (fun s => s < m) (fun x y hx hy sx hp => by
    apply Classical.byContradiction
    intro hne
    have : y = m := by omega
    subst this
    exact hno ⟨x, sx, hp⟩) 0 (by omega) (by show 0 < m; omega) m (by omega)
  omega
theorem elim_joined (nn : ∀ a b, a < m + 1 → b < m + 1 → 0 ≤ W a b) (h : Joined (m + 1) W) (h1 : 1 ≤ m) : Joined m (elim m W) := by
  intro S hS a ha sa b hb
  have L0 := elim_out nn h h1
  have new : ∀ x y, x < m → y < m → x ≠ y → elim m W x y = W x y * sm m (W m) + W x m * W m y := fun x y hx hy hne => by unfold elim; rw [if_pos ⟨hx, hy, hne⟩]
  have := h (fun s => if s = m then ∃ x, x < m ∧ S x ∧ 0 < W x m else S s) (fun x y hx hy sx hp => by
    by_cases ym : y = m
    · by_cases xm : x = m
      · subst ym xm; exact sx
      · show if y = m then _ else _
        rw [if_pos ym]
        have sx : if x = m then _ else S x := sx
        rw [if_neg xm] at sx
        exact ⟨x, by omega, sx, ym ▸ hp⟩
    · show if y = m then _ else S y
      rw [if_neg ym]
      by_cases xm : x = m
      · have sx : if x = m then ∃ x, x < m ∧ S x ∧ 0 < W x m else S x := sx
        rw [if_pos xm] at sx
        obtain ⟨u, hu, su, pu⟩ := sx
        by_cases e : u = y
        · exact e ▸ su
        · refine hS u y hu (by omega) su ?_
          rw [new u y hu (by omega) e]
          have p1 := Int.mul_nonneg (nn u y (by omega) hy) (by omega : 0 ≤ sm m (W m))
          have p2 := Int.mul_pos pu (xm ▸ hp)
          omega
      · have sx : if x = m then _ else S x := sx
        rw [if_neg xm] at sx
        by_cases e : x = y
        · exact e ▸ sx
        · refine hS x y (by omega) (by omega) sx ?_
          rw [new x y (by omega) (by omega) e]
          have p1 := Int.mul_pos hp L0
          have p2 := Int.mul_nonneg (nn x m hx (by omega)) (nn m y (by omega) hy)
          omega) a (by omega) (by show if a = m then _ else S a; rw [if_neg (by omega)]; exact sa) b (by omega)
  have this : if b = m then _ else S b := this
  rw [if_neg (by omega)] at this
  exact this
theorem elim_nn (nn : ∀ a b, a < m + 1 → b < m + 1 → 0 ≤ W a b) : ∀ a b, a < m + 1 → b < m + 1 → 0 ≤ elim m W a b := fun a b ha hb => by
  unfold elim
  split
  · rename_i h
    have L0 := (sm_mono (n := m) (f := fun _ => 0) (g := W m) fun i hi => nn m i (by omega) (by omega))
    rw [sm_zero] at L0
    have p1 := Int.mul_nonneg (nn a b ha hb) L0
    have p2 := Int.mul_nonneg (nn a m ha (by omega)) (nn m b (by omega) hb)
    omega
  · exact nn a b ha hb
theorem elim_dg (dg : ∀ a, a < m + 1 → W a a = 0) : ∀ a, a < m + 1 → elim m W a a = 0 := fun a ha => by
  unfold elim; rw [if_neg (fun h => h.2.2 rfl)]; exact dg a ha
/-- the row with the state m added -/
def addSt (m : Nat) (W : Mat) (s : Nat → Int) (x : Nat) : Int := if x < m then s x * sm m (W m) else sm m fun y => s y * W y m
theorem sm_not {n x : Nat} {g : Nat → Int} (hx : x < n) (h0 : g x = 0) : sm n (fun y => if y = x then 0 else g y) = sm n g := by
  rw [sm_split (g := g) hx, h0]; omega
theorem elim_bal (dg : ∀ a, a < m + 1 → W a a = 0) {s : Nat → Int} (h : Bal m s (elim m W)) : Bal (m + 1) (addSt m W s) W := by
  intro b hb
  have at_ : ∀ x, x < m → addSt m W s x = s x * sm m (W m) := fun x hx => if_pos hx
  have atm : addSt m W s m = sm m fun y => s y * W y m := if_neg (by omega)
  rw [sm, sm]
  by_cases hbm : b = m
  · subst hbm
    rw [atm, dg b hb]
    have e1 : sm b (fun y => (sm b fun y => s y * W y b) * W b y) = (sm b fun y => s y * W y b) * sm b (W b) := sm_mul
    have e2 : sm b (fun y => addSt b W s y * W y b) = sm b (W b) * sm b fun y => s y * W y b := by
      rw [← sm_mul]
      exact sm_congr fun y hy => by rw [at_ y hy, Int.mul_assoc, Int.mul_left_comm]
    rw [e1, e2, Int.mul_comm]
  · have hb' : b < m := by omega
    have key := h b hb'
    rw [at_ b hb', atm]
    -- the balance below
    have l1 : sm m (fun y => s b * elim m W b y) = s b * (sm m (W b) * sm m (W m) + W b m * (sm m (W m) - W m b)) := by
      have e0 : elim m W b b = 0 := elim_dg dg b hb
      have a1 : sm m (fun y => if y = b then 0 else s b * elim m W b y) = sm m (fun y => s b * elim m W b y) := sm_not hb' (by rw [e0, Int.mul_zero])
      rw [← a1]
      rw [sm_off (h := fun y => s b * (W b y * sm m (W m) + W b m * W m y)) fun y hy hne => by
        unfold elim; rw [if_pos ⟨hb', hy, fun z => hne z.symm⟩]]
      have a2 := sm_split (g := fun y => s b * (W b y * sm m (W m) + W b m * W m y)) hb'
      have a3 : sm m (fun y => s b * (W b y * sm m (W m) + W b m * W m y)) = s b * (sm m (W b) * sm m (W m) + W b m * sm m (W m)) := by
        rw [sm_mul, sm_add, sm_mul]
        congr 2
        rw [Int.mul_comm, ← sm_mul]
        exact sm_congr fun y _ => Int.mul_comm _ _
      rw [a3] at a2
      have a4 : s b * (W b b * sm m (W m) + W b m * W m b) = s b * (W b m * W m b) := by rw [dg b hb, Int.zero_mul, Int.zero_add]
      have a5 : s b * (sm m (W b) * sm m (W m) + W b m * (sm m (W m) - W m b)) = s b * (sm m (W b) * sm m (W m) + W b m * sm m (W m)) - s b * (W b m * W m b) := by
        rw [← Int.mul_sub, Int.mul_sub (W b m)]
        congr 1; omega
      rw [a5, ← a4, a2]; omega
    have l2 : sm m (fun y => s y * elim m W y b) = sm m (W m) * sm m (fun y => s y * W y b) + W m b * ((sm m fun y => s y * W y m) - s b * W b m) := by
      have e0 : elim m W b b = 0 := elim_dg dg b hb
      have a1 : sm m (fun y => if y = b then 0 else s y * elim m W y b) = sm m (fun y => s y * elim m W y b) := sm_not hb' (by rw [e0, Int.mul_zero])
      rw [← a1]
      rw [sm_off (h := fun y => s y * (W y b * sm m (W m) + W y m * W m b)) fun y hy hne => by
        unfold elim; rw [if_pos ⟨hy, hb', hne⟩]]
      have a2 := sm_split (g := fun y => s y * (W y b * sm m (W m) + W y m * W m b)) hb'
      have a3 : sm m (fun y => s y * (W y b * sm m (W m) + W y m * W m b)) = sm m (W m) * sm m (fun y => s y * W y b) + W m b * sm m fun y => s y * W y m := by
        rw [← sm_mul, ← sm_mul, ← sm_add]
        exact sm_congr fun y _ => by
          rw [Int.mul_add]
          congr 1
          · rw [← Int.mul_assoc, Int.mul_comm]
          · rw [← Int.mul_assoc, Int.mul_comm]
      rw [a3] at a2
      have a4 : s b * (W b b * sm m (W m) + W b m * W m b) = W m b * (s b * W b m) := by rw [dg b hb, Int.zero_mul, Int.zero_add, ← Int.mul_assoc, Int.mul_comm]
      rw [Int.mul_sub, ← a4, ← Int.add_sub_assoc, a2]; omega
    rw [l1, l2] at key
    have e1 : sm m (fun y => s b * sm m (W m) * W b y) = s b * sm m (W m) * sm m (W b) := sm_mul
    have e2 : sm m (fun y => addSt m W s y * W y b) = sm m (W m) * sm m fun y => s y * W y b := by
      rw [← sm_mul]
      exact sm_congr fun y hy => by rw [at_ y hy, Int.mul_assoc, Int.mul_left_comm]
    rw [e1, e2]
    generalize sm m (W m) = L at key ⊢
    generalize sm m (W b) = P at key ⊢
    generalize (sm m fun y => s y * W y m) = T at key ⊢
    generalize (sm m fun y => s y * W y b) = Z at key ⊢
    generalize W b m = u at key ⊢
    generalize W m b = v at key ⊢
    generalize s b = q at key ⊢
    have k1 : q * (P * L + u * (L - v)) = q * P * L + q * u * L - q * u * v := by
      rw [Int.mul_add, Int.mul_sub, Int.mul_sub, ← Int.mul_assoc, ← Int.mul_assoc, ← Int.mul_assoc]; omega
    have k2 : v * (T - q * u) = v * T - q * u * v := by rw [Int.mul_sub, Int.mul_comm v (q * u)]
    rw [k1, k2] at key
    have k3 : q * L * P = q * P * L := by rw [Int.mul_assoc, Int.mul_comm L P, ← Int.mul_assoc]
    have k4 : q * L * u = q * u * L := by rw [Int.mul_assoc, Int.mul_comm L u, ← Int.mul_assoc]
    have k5 : T * v = v * T := Int.mul_comm _ _
    rw [k3, k4, k5]; omega
end
end M
/-! MK: the shares found by elimination, in lowest terms. -/
namespace M
open K Z
section
variable {n : Nat} {f : Mat}
theorem Wm_step {m : Nat} (h : m + 1 < n) : Wm n f m = elim (m + 1) (Wm n f (m + 1)) := by
  unfold Wm
  rw [show n - 1 - m = (n - 1 - (m + 1)) + 1 by omega, WK, show n - 1 - (n - 1 - (m + 1)) = m + 1 by omega]
theorem Wm_top (h : 1 ≤ n) : Wm n f (n - 1) = f := by unfold Wm; rw [Nat.sub_self]; rfl
structure WmOk (m : Nat) (W : Mat) : Prop where
  nn : ∀ a b, a < m + 1 → b < m + 1 → 0 ≤ W a b
  dg : ∀ a, a < m + 1 → W a a = 0
  jn : Joined (m + 1) W
theorem Wm_ok (hf : GridOk n f) (hj : Joined n f) : ∀ j, j < n → WmOk (n - 1 - j) (Wm n f (n - 1 - j)) := by
  intro j
  induction j with
  | zero =>
    intro h
    rw [Nat.sub_zero, Wm_top (by omega)]
    have e : n - 1 + 1 = n := by omega
    exact ⟨by rw [e]; exact hf.nn, by rw [e]; exact hf.dg, by rw [e]; exact hj⟩
  | succ j ih =>
    intro h
    have w := ih (by omega)
    have e : n - 1 - j = (n - 1 - (j + 1)) + 1 := by omega
    rw [e] at w
    rw [Wm_step (by omega)]
    generalize n - 1 - (j + 1) = m at w ⊢
    exact ⟨fun a b ha hb => elim_nn w.nn a b (by omega) (by omega), fun a ha => elim_dg w.dg a (by omega), elim_joined w.nn w.jn (by omega)⟩
theorem Wm_ok2 (hf : GridOk n f) (hj : Joined n f) {m : Nat} (h : m < n) : WmOk m (Wm n f m) := by
  have := Wm_ok hf hj (n - 1 - m) (by omega)
  rwa [show n - 1 - (n - 1 - m) = m by omega] at this
theorem shr_add (m : Nat) : shr n f (m + 1) = addSt (m + 1) (Wm n f (m + 1)) (shr n f m) := rfl
theorem shr_bal (hf : GridOk n f) (hj : Joined n f) : ∀ m, m < n → Bal (m + 1) (shr n f m) (Wm n f m)
  | 0, _ => fun x hx => by
    have : x = 0 := by omega
    subst this; rfl
  | m + 1, h => by
    rw [shr_add]
    refine elim_bal (Wm_ok2 hf hj h).dg ?_
    rw [← Wm_step h]
    exact shr_bal hf hj m (by omega)
theorem shr_pos (hf : GridOk n f) (hj : Joined n f) : ∀ m, m < n → ∀ x, x ≤ m → 0 < shr n f m x
  | 0, _, x, _ => by simp [shr]
  | m + 1, h, x, hx => by
    have ih := shr_pos hf hj m (by omega)
    have w := Wm_ok2 hf hj h
    rw [shr_add]
    unfold addSt
    split
    · exact Int.mul_pos (ih x (by omega)) (elim_out w.nn w.jn (by omega))
    · obtain ⟨y, hy, py⟩ := elim_in w.nn w.jn (by omega)
      exact sm_pos (fun j hj => Int.mul_nonneg (Int.le_of_lt (ih j (by omega))) (w.nn j _ (by omega) (by omega))) hy (Int.mul_pos (ih y (by omega)) py)
/-- the row in its bounds -/
theorem addSt_le {m x : Nat} {W : Mat} {s : Nat → Int} {B w : Int} (hs : ∀ y, y < m → 0 ≤ s y ∧ s y ≤ B) (hw : ∀ y, y < m → 0 ≤ W m y ∧ W m y ≤ w) (hv : ∀ y, y < m → 0 ≤ W y m ∧ W y m ≤ w) (B0 : 0 ≤ B) : addSt m W s x ≤ m * (B * w) ∧ 0 ≤ addSt m W s x := by
  unfold addSt
  split
  · rename_i h
    have h1 := sm_le hw
    have h2 := hs x h
    have h3 : s x * sm m (W m) ≤ B * (m * w) := Int.mul_le_mul h2.2 h1.2 h1.1 B0
    have h4 : B * ((m : Int) * w) = m * (B * w) := Int.mul_left_comm ..
    exact ⟨by omega, Int.mul_nonneg h2.1 h1.1⟩
  · have := sm_le (n := m) (g := fun y => s y * W y m) (B := B * w) fun i hi => ⟨Int.mul_nonneg (hs i hi).1 (hv i hi).1, Int.mul_le_mul (hs i hi).2 (hv i hi).2 (hv i hi).1 B0⟩
    exact ⟨this.2, this.1⟩
theorem addSt_mul {m : Nat} {W : Mat} {s t : Nat → Int} {c : Int} (h : ∀ y, y < m → s y = c * t y) (x : Nat) : addSt m W s x = c * addSt m W t x := by
  unfold addSt
  split
  · rename_i hx; rw [h x hx, Int.mul_assoc]
  · rw [← sm_mul]
    exact sm_congr fun y hy => by rw [h y hy, Int.mul_assoc]
/-- up to four states -/
theorem shr_small (hn : n ≤ 4) (hf : GridOk n f) (hj : Joined n f) : ∀ m, m < n → ∀ x, x ≤ m → shr n f m x ≤ (4 * Bk 2) ^ m
  | 0, _, x, _ => by simp [shr]
  | m + 1, h, x, hx => by
    have ih := shr_small hn hf hj m (by omega)
    have b : Bdd n (Wm n f (m + 1)) (Bk 2) := by
      have := WK_bdd (by omega) hf (n - 1 - (m + 1)) (by omega)
      exact ⟨this.nn, fun a c ha hc => Int.le_trans (this.le a c ha hc) (Bk_mono (by omega))⟩
    have pB : (0 : Int) ≤ (4 * Bk 2) ^ m := Int.le_trans (Int.le_of_lt (shr_pos hf hj m (by omega) 0 (by omega))) (ih 0 (by omega))
    have B2 := Bk_pos 2
    have := (addSt_le (x := x) (m := m + 1) (W := Wm n f (m + 1)) (s := shr n f m) (B := (4 * Bk 2) ^ m) (w := Bk 2) (fun y hy => ⟨Int.le_of_lt (shr_pos hf hj m (by omega) y (by omega)), ih y (by omega)⟩) (fun y hy => ⟨b.nn _ _ (by omega) (by omega), b.le _ _ (by omega) (by omega)⟩) (fun y hy => ⟨b.nn _ _ (by omega) (by omega), b.le _ _ (by omega) (by omega)⟩) pB).1
    rw [shr_add]
    have e : ((m + 1 : Nat) : Int) * ((4 * Bk 2) ^ m * Bk 2) ≤ 4 * ((4 * Bk 2) ^ m * Bk 2) := Int.mul_le_mul_of_nonneg_right (by omega) (Int.mul_nonneg pB (by omega))
    have e2 : (4 * Bk 2) ^ (m + 1) = 4 * ((4 * Bk 2) ^ m * Bk 2) := by rw [Int.pow_succ, Int.mul_left_comm]
    omega
end
/-! five states: L4 ^ 3 goes out -/
theorem out4 (a b c d e g h L S L3 : Int) (hL3 : L3 = L * S - h * e) : (a * L + b * c) * L3 + (d * L + b * e) * (g * L + h * c) = L * (a * L3 + b * c * S + d * (g * L + h * c) + b * e * g) := by
  subst hL3; grind
end M
/-! ML: five states: a common factor of the shares; the shares in lowest terms. -/
namespace M
open K Z
section
variable {f : Mat}
def L4 (f : Mat) : Int := f 4 0 + f 4 1 + f 4 2 + f 4 3
def w3 (f : Mat) (x y : Nat) : Int := f x y * L4 f + f x 4 * f 4 y
def L3 (f : Mat) : Int := w3 f 3 0 + w3 f 3 1 + w3 f 3 2
def u2 (f : Mat) (x y : Nat) : Int := f x y * L3 f + f x 4 * f 4 y * (f 3 0 + f 3 1 + f 3 2 + f 3 4) + f x 3 * w3 f 3 y + f x 4 * f 4 3 * f 3 y
def m2 (f : Mat) : Int := u2 f 2 0 + u2 f 2 1
def v1 (f : Mat) (x y : Nat) : Int := u2 f x y * m2 f + u2 f x 2 * u2 f 2 y
def t2 (f : Mat) (x : Nat) : Int := if x = 0 then v1 f 1 0 * m2 f else if x = 1 then v1 f 0 1 * m2 f else v1 f 1 0 * u2 f 0 2 + v1 f 0 1 * u2 f 1 2
theorem e4 : Wm 5 f 4 = f := rfl
theorem eL4 : sm 4 (f 4) = L4 f := by show ((((0 : Int) + f 4 0) + f 4 1) + f 4 2) + f 4 3 = _; unfold L4; omega
theorem e3 {x y : Nat} (hx : x < 4) (hy : y < 4) (h : x ≠ y) : Wm 5 f 3 x y = w3 f x y := by
  rw [Wm_step (by omega), e4]
  unfold elim
  rw [if_pos ⟨hx, hy, h⟩, eL4]; rfl
theorem eL3 : Lm 5 f 3 = L3 f := by
  unfold Lm
  show (((0 : Int) + Wm 5 f 3 3 0) + Wm 5 f 3 3 1) + Wm 5 f 3 3 2 = _
  rw [e3 (by omega) (by omega) (by omega), e3 (by omega) (by omega) (by omega), e3 (by omega) (by omega) (by omega)]
  unfold L3; omega
theorem L3_is : L3 f = L4 f * (f 3 0 + f 3 1 + f 3 2 + f 3 4) - f 3 4 * f 4 3 := by
  unfold L3 w3 L4; grind
theorem e2 {x y : Nat} (hx : x < 3) (hy : y < 3) (h : x ≠ y) : Wm 5 f 2 x y = L4 f * u2 f x y := by
  rw [Wm_step (by omega)]
  unfold elim
  rw [if_pos ⟨hx, hy, h⟩, e3 (by omega) (by omega) h, e3 (by omega) (by omega) (by omega), e3 (by omega) (by omega) (by omega), show sm 3 (Wm 5 f 3 3) = L3 f from eL3]
  unfold u2
  have := out4 (f x y) (f x 4) (f 4 y) (f x 3) (f 4 3) (f 3 y) (f 3 4) (L4 f) (f 3 0 + f 3 1 + f 3 2 + f 3 4) (L3 f) L3_is
  exact this
theorem eL2 : Lm 5 f 2 = L4 f * m2 f := by
  unfold Lm
  show ((0 : Int) + Wm 5 f 2 2 0) + Wm 5 f 2 2 1 = _
  rw [e2 (by omega) (by omega) (by omega), e2 (by omega) (by omega) (by omega)]
  unfold m2; rw [Int.mul_add]; omega
theorem e1 {x y : Nat} (hx : x < 2) (hy : y < 2) (h : x ≠ y) : Wm 5 f 1 x y = L4 f * L4 f * v1 f x y := by
  rw [Wm_step (by omega)]
  unfold elim
  rw [if_pos ⟨hx, hy, h⟩, e2 (by omega) (by omega) h, e2 (by omega) (by omega) (by omega), e2 (by omega) (by omega) (by omega), show sm 2 (Wm 5 f 2 2) = L4 f * m2 f from eL2]
  unfold v1; grind
theorem eS1 : shr 5 f 1 0 = L4 f * L4 f * v1 f 1 0 ∧ shr 5 f 1 1 = L4 f * L4 f * v1 f 0 1 := by
  constructor
  · show (1 : Int) * ((0 : Int) + Wm 5 f 1 1 0) = _
    rw [e1 (by omega) (by omega) (by omega)]; omega
  · show (0 : Int) + 1 * Wm 5 f 1 0 1 = _
    rw [e1 (by omega) (by omega) (by omega)]; omega
theorem eS2 : ∀ x, x < 3 → shr 5 f 2 x = L4 f * L4 f * L4 f * t2 f x := by
  intro x hx
  have h0 := (eS1 (f := f)).1
  have h1 := (eS1 (f := f)).2
  have : x = 0 ∨ x = 1 ∨ x = 2 := by omega
  rcases this with rfl | rfl | rfl
  · show shr 5 f 1 0 * Lm 5 f 2 = _
    rw [h0, eL2]
    show _ = _ * (v1 f 1 0 * m2 f)
    grind
  · show shr 5 f 1 1 * Lm 5 f 2 = _
    rw [h1, eL2]
    show _ = _ * (v1 f 0 1 * m2 f)
    grind
  · show ((0 : Int) + shr 5 f 1 0 * Wm 5 f 2 0 2) + shr 5 f 1 1 * Wm 5 f 2 1 2 = _
    rw [h0, h1, e2 (by omega) (by omega) (by omega), e2 (by omega) (by omega) (by omega)]
    show _ = _ * (v1 f 1 0 * u2 f 0 2 + v1 f 0 1 * u2 f 1 2)
    grind
def t4 (f : Mat) : Nat → Int := addSt 4 f (addSt 3 (Wm 5 f 3) (t2 f))
theorem eS4 (x : Nat) : shr 5 f 4 x = L4 f * L4 f * L4 f * t4 f x := by
  rw [shr_add, e4]
  exact addSt_mul (fun y hy => by rw [shr_add]; exact addSt_mul (fun z hz => eS2 z hz) y) x
abbrev AA : Int := 1000003
theorem add_b {a b B C : Int} (h1 : 0 ≤ a ∧ a ≤ B) (h2 : 0 ≤ b ∧ b ≤ C) : 0 ≤ a + b ∧ a + b ≤ B + C := by omega
theorem mul_b {a b B C : Int} (h1 : 0 ≤ a ∧ a ≤ B) (h2 : 0 ≤ b ∧ b ≤ C) : 0 ≤ a * b ∧ a * b ≤ B * C := ⟨Int.mul_nonneg h1.1 h2.1, Int.mul_le_mul h1.2 h2.2 h2.1 (Int.le_trans h1.1 h1.2)⟩
theorem le_b {a B C : Int} (h : 0 ≤ a ∧ a ≤ B) (e : B ≤ C) : 0 ≤ a ∧ a ≤ C := ⟨h.1, Int.le_trans h.2 e⟩
variable (hf : GridOk 5 f)
include hf
theorem bf {x y : Nat} (hx : x < 5) (hy : y < 5) : 0 ≤ f x y ∧ f x y ≤ AA := ⟨hf.nn x y hx hy, hf.le x y hx hy⟩
theorem bL4 : 0 ≤ L4 f ∧ L4 f ≤ 4 * AA := le_b (add_b (add_b (add_b (bf hf (by omega) (by omega)) (bf hf (by omega) (by omega))) (bf hf (by omega) (by omega))) (bf hf (by omega) (by omega))) (by decide)
theorem bw3 {x y : Nat} (hx : x < 4) (hy : y < 4) : 0 ≤ w3 f x y ∧ w3 f x y ≤ 5 * AA * AA := le_b (add_b (mul_b (bf hf (by omega) (by omega)) (bL4 hf)) (mul_b (bf hf (by omega) (by omega)) (bf hf (by omega) (by omega)))) (by decide)
theorem bL3 : 0 ≤ L3 f ∧ L3 f ≤ 15 * AA * AA := le_b (add_b (add_b (bw3 hf (by omega) (by omega)) (bw3 hf (by omega) (by omega))) (bw3 hf (by omega) (by omega))) (by decide)
theorem bu2 {x y : Nat} (hx : x < 3) (hy : y < 3) : 0 ≤ u2 f x y ∧ u2 f x y ≤ 25 * AA ^ 3 :=
  le_b (add_b (add_b (add_b (mul_b (bf hf (by omega) (by omega)) (bL3 hf)) (mul_b (mul_b (bf hf (by omega) (by omega)) (bf hf (by omega) (by omega))) (add_b (add_b (add_b (bf hf (by omega) (by omega)) (bf hf (by omega) (by omega))) (bf hf (by omega) (by omega))) (bf hf (by omega) (by omega)))))
    (mul_b (bf hf (by omega) (by omega)) (bw3 hf (by omega) (by omega)))) (mul_b (mul_b (bf hf (by omega) (by omega)) (bf hf (by omega) (by omega))) (bf hf (by omega) (by omega)))) (by decide +kernel)
theorem bm2 : 0 ≤ m2 f ∧ m2 f ≤ 50 * AA ^ 3 := le_b (add_b (bu2 hf (by omega) (by omega)) (bu2 hf (by omega) (by omega))) (by decide +kernel)
theorem bv1 {x y : Nat} (hx : x < 2) (hy : y < 2) : 0 ≤ v1 f x y ∧ v1 f x y ≤ 1875 * AA ^ 6 := le_b (add_b (mul_b (bu2 hf (by omega) (by omega)) (bm2 hf)) (mul_b (bu2 hf (by omega) (by omega)) (bu2 hf (by omega) (by omega)))) (by decide +kernel)
theorem bt2 (x : Nat) : 0 ≤ t2 f x ∧ t2 f x ≤ 93750 * AA ^ 9 := by
  unfold t2
  split
  · exact le_b (mul_b (bv1 hf (by omega) (by omega)) (bm2 hf)) (by decide +kernel)
  · split
    · exact le_b (mul_b (bv1 hf (by omega) (by omega)) (bm2 hf)) (by decide +kernel)
    · exact le_b (add_b (mul_b (bv1 hf (by omega) (by omega)) (bu2 hf (by omega) (by omega))) (mul_b (bv1 hf (by omega) (by omega)) (bu2 hf (by omega) (by omega)))) (by decide +kernel)
theorem bt4 (x : Nat) : 0 ≤ t4 f x ∧ t4 f x ≤ (fb 401 : Int) := by
  have h3 : ∀ y, 0 ≤ addSt 3 (Wm 5 f 3) (t2 f) y ∧ addSt 3 (Wm 5 f 3) (t2 f) y ≤ 1406250 * AA ^ 11 := fun y => by
    have := addSt_le (x := y) (m := 3) (W := Wm 5 f 3) (s := t2 f) (B := 93750 * AA ^ 9) (w := 5 * AA * AA) (fun y _ => bt2 hf y) (fun y hy => by rw [e3 (by omega) (by omega) (by omega)]; exact bw3 hf (by omega) (by omega)) (fun y hy => by rw [e3 (by omega) (by omega) (by omega)]; exact bw3 hf (by omega) (by omega)) (by decide +kernel)
    exact ⟨this.2, Int.le_trans this.1 (by decide +kernel)⟩
  have := addSt_le (x := x) (m := 4) (W := f) (s := addSt 3 (Wm 5 f 3) (t2 f)) (B := 1406250 * AA ^ 11) (w := AA) (fun y _ => h3 y) (fun y hy => bf hf (by omega) (by omega)) (fun y hy => bf hf (by omega) (by omega)) (by decide +kernel)
  exact ⟨this.2, Int.le_trans this.1 (by decide +kernel)⟩
end
/-- a common factor, and what is left -/
theorem shr_factor {n : Nat} {f : Mat} (h2 : 2 ≤ n) (h5 : n ≤ 5) (hf : GridOk n f) (hj : Joined n f) : ∃ (c : Int) (t : Nat → Int), 1 ≤ c ∧ ∀ x, x < n → shr n f (n - 1) x = c * t x ∧ 1 ≤ t x ∧ t x ≤ (fb 401 : Int) := by
  by_cases h : n ≤ 4
  · refine ⟨1, shr n f (n - 1), Int.le_refl _, fun x hx => ⟨(Int.one_mul _).symm, shr_pos hf hj (n - 1) (by omega) x (by omega), ?_⟩⟩
    have h1 := shr_small h hf hj (n - 1) (by omega) x (by omega)
    have : n - 1 = 1 ∨ n - 1 = 2 ∨ n - 1 = 3 := by omega
    rcases this with e | e | e <;> (rw [e] at h1 ⊢; exact Int.le_trans h1 (by decide +kernel))
  · have : n = 5 := by omega
    subst this
    have p := fun x hx => shr_pos hf hj 4 (by omega) x hx
    have cL := bL4 hf
    have c0 : 0 ≤ L4 f * L4 f * L4 f := Int.mul_nonneg (Int.mul_nonneg cL.1 cL.1) cL.1
    have c1 : L4 f * L4 f * L4 f ≠ 0 := fun z => by
      have := p 0 (by omega)
      rw [eS4, z, Int.zero_mul] at this; omega
    refine ⟨L4 f * L4 f * L4 f, t4 f, by omega, fun x hx => ⟨eS4 x, ?_, (bt4 hf x).2⟩⟩
    have h1 := p x (by omega)
    have h2 := (bt4 hf x).1
    rw [eS4] at h1
    have : t4 f x ≠ 0 := fun z => by rw [z, Int.mul_zero] at h1; omega
    omega
/-! lowest terms -/
theorem eu_scale {c : Int} (hc : 0 < c) : ∀ k a b, eu k (c * a) (c * b) = c * eu k a b
  | 0, _, _ => rfl
  | k + 1, a, b => by
    unfold eu
    by_cases h : 0 < b
    · rw [if_pos h, if_pos (Int.mul_pos hc h), Int.mul_emod_mul_of_pos _ _ hc]
      exact eu_scale hc k b (a % b)
    · rw [if_neg h, if_neg (fun q => by
        have q2 : c * b ≤ c * 0 := Int.mul_le_mul_of_nonneg_left (by omega) (by omega)
        rw [Int.mul_zero] at q2; omega)]
      exact eu_scale hc k a b
theorem fold_scale {c : Int} (hc : 0 < c) : ∀ (l : List Int) (g : Int), (l.map (c * ·)).foldl (fun g x => eu 400 x g) (c * g) = c * l.foldl (fun g x => eu 400 x g) g
  | [], g => rfl
  | x :: l, g => by
    rw [List.map_cons, List.foldl_cons, List.foldl_cons]
    show List.foldl _ (eu 400 (c * x) (c * g)) _ = _
    rw [eu_scale hc]
    exact fold_scale hc l _
theorem fold_gcd : ∀ (l : List Int) (g : Int), 0 ≤ g → g ≤ (fb 401 : Int) → (∀ x ∈ l, 1 ≤ x ∧ x ≤ (fb 401 : Int)) → (1 ≤ g ∨ l ≠ []) → 1 ≤ l.foldl (fun g x => eu 400 x g) g ∧ (l.foldl (fun g x => eu 400 x g) g) ∣ g ∧ ∀ x ∈ l, (l.foldl (fun g x => eu 400 x g) g) ∣ x
  | [], g, h0, h1, h2, h3 => ⟨h3.elim id fun z => absurd rfl z, Int.dvd_refl _, fun x hx => by cases hx⟩
  | x :: l, g, h0, h1, h2, h3 => by
    have hx := h2 x (List.mem_cons_self ..)
    have e : eu 400 x g = (Nat.gcd x.natAbs g.natAbs : Nat) := eu_gcd (k := 399) (by omega) h0 h1 (by decide)
    have d1 : ((Nat.gcd x.natAbs g.natAbs : Nat) : Int) ∣ x := by
      have := Int.natCast_dvd_natCast.mpr (Nat.gcd_dvd_left x.natAbs g.natAbs)
      exact Int.dvd_trans this (Int.natAbs_dvd.mpr (Int.dvd_refl x)) |> fun q => by
        rwa [show ((x.natAbs : Nat) : Int) = x by omega] at this
    have d2 : ((Nat.gcd x.natAbs g.natAbs : Nat) : Int) ∣ g := by
      have := Int.natCast_dvd_natCast.mpr (Nat.gcd_dvd_right x.natAbs g.natAbs)
      rwa [show ((g.natAbs : Nat) : Int) = g by omega] at this
    have p1 : 0 < Nat.gcd x.natAbs g.natAbs := Nat.gcd_pos_of_pos_left _ (by omega)
    have p2 : Nat.gcd x.natAbs g.natAbs ≤ x.natAbs := Nat.le_of_dvd (by omega) (Nat.gcd_dvd_left _ _)
    have ih := fold_gcd l (eu 400 x g) (by omega) (by omega) (fun y hy => h2 y (List.mem_cons_of_mem _ hy)) (.inl (by omega))
    rw [List.foldl_cons]
    refine ⟨ih.1, Int.dvd_trans ih.2.1 (by rw [e]; exact d2), fun y hy => ?_⟩
    rcases List.mem_cons.1 hy with z | z
    · rw [z]; exact Int.dvd_trans ih.2.1 (by rw [e]; exact d1)
    · exact ih.2.2 y z
theorem lowest_is {n : Nat} {c : Int} {t : Nat → Int} (hn : 1 ≤ n) (hc : 1 ≤ c) (ht : ∀ x, x < n → 1 ≤ t x ∧ t x ≤ (fb 401 : Int)) : ∃ (G : Int) (own : Nat → Int), 1 ≤ G ∧ lowest (tab n fun x => c * t x) = tab n own ∧ ∀ x, x < n → own x * G = t x ∧ 1 ≤ own x := by
  have hl : ∀ x ∈ tab n t, 1 ≤ x ∧ x ≤ (fb 401 : Int) := fun x hx => by
    obtain ⟨i, hi, rfl⟩ := tab_mem.mp hx
    exact ht i hi
  have ne : tab n t ≠ [] := fun h => by have := congrArg List.length h; rw [tab_len] at this; simp at this; omega
  obtain ⟨g1, _, g3⟩ := fold_gcd (tab n t) 0 (Int.le_refl _) (by omega) hl (.inr ne)
  generalize hG : (tab n t).foldl (fun g x => eu 400 x g) 0 = G at g1 g3
  have eA : euAll (tab n fun x => c * t x) = c * G := by
    unfold euAll
    have := fold_scale (c := c) (by omega) (tab n t) 0
    rw [tab_map, Int.mul_zero, hG] at this
    exact this
  have cG : 1 ≤ c * G := by
    have := Int.mul_le_mul hc g1 (by decide) (by omega)
    simpa using this
  have dv : (if euAll (tab n fun x => c * t x) > 1 then euAll (tab n fun x => c * t x) else 1) = c * G := by
    rw [eA]; split <;> omega
  refine ⟨G, fun x => t x / G, g1, ?_, fun x hx => ?_⟩
  · unfold lowest
    rw [dv, tab_map]
    exact tab_congr fun x hx => Int.mul_ediv_mul_of_pos _ _ (by omega)
  · have d := g3 (t x) (tab_mem.mpr ⟨x, hx, rfl⟩)
    have e := Int.ediv_mul_cancel d
    refine ⟨e, ?_⟩
    have h1 := (ht x hx).1
    have h2 : t x / G ≠ 0 := fun z => by rw [z, Int.zero_mul] at e; omega
    have h3 : 0 ≤ t x / G := Int.ediv_nonneg (by omega) (by omega)
    show 1 ≤ t x / G
    omega
/-- the shares that the elimination finds -/
theorem shares_ok {n : Nat} {f : Mat} (h2 : 2 ≤ n) (h5 : n ≤ 5) (hf : GridOk n f) (hj : Joined n f) : ∃ own : Nat → Int, lowest (tab n (shr n f (n - 1))) = tab n own ∧ (∀ x, x < n → 1 ≤ own x) ∧ Bal n own f := by
  obtain ⟨c, t, hc, ht⟩ := shr_factor h2 h5 hf hj
  have e0 : tab n (shr n f (n - 1)) = tab n fun x => c * t x := tab_congr fun x hx => (ht x hx).1
  obtain ⟨G, own, hG, e1, ho⟩ := lowest_is (n := n) (c := c) (t := t) (by omega) hc fun x hx => (ht x hx).2
  refine ⟨own, by rw [e0, e1], fun x hx => (ho x hx).2, fun x hx => ?_⟩
  have b := shr_bal hf hj (n - 1) (by omega) x (by omega)
  rw [show n - 1 + 1 = n by omega, Wm_top (by omega)] at b
  have eS : ∀ y, y < n → shr n f (n - 1) y = c * G * own y := fun y hy => by
    rw [(ht y hy).1, ← (ho y hy).1]
    rw [Int.mul_assoc, Int.mul_comm G]
  have l1 : sm n (fun y => shr n f (n - 1) x * f x y) = c * G * sm n (fun y => own x * f x y) := by
    rw [← sm_mul]
    exact sm_congr fun y hy => by rw [eS x hx, Int.mul_assoc]
  have l2 : sm n (fun y => shr n f (n - 1) y * f y x) = c * G * sm n (fun y => own y * f y x) := by
    rw [← sm_mul]
    exact sm_congr fun y hy => by rw [eS y hy, Int.mul_assoc]
  rw [l1, l2] at b
  have cG : c * G ≠ 0 := by
    have := Int.mul_le_mul hc hG (by decide) (by omega)
    omega
  exact Int.eq_of_mul_eq_mul_left cG b
/-- at its own row a grid's due rates are its own -/
theorem due_own {n x : Nat} {f : Mat} {r : Nat → Int} (hx : x < n) (dg : f x x = 0) (hb : Bal n r f) {b : Nat} (hbn : b < n) : due n f x r b = r x * f x b := by
  unfold due
  split
  · rename_i e; rw [e, dg, Int.mul_zero]
  · have h := hb b hbn
    have h1 : sm n (fun y => r b * f b y) = r b * sm n (f b) := sm_mul
    rw [h1, sm_split (g := fun y => r y * f y b) hx] at h
    omega
end M
/-! KY0: the draws, of a script as the caller holds it. -/
namespace K
open PySem.Spec PySem PyProof.Rows L2 Z M
/-- a list of ints that stands, frozen or not -/
def rSq (K : PySem.W.Frag) : Rep (List Int) := ⟨fun H v₀ l₀ => ∃ p₀, v₀ = .ref p₀ ∧ SqL K H p₀ (l₀.map .int), fun e₀ ⟨p₀, h1₀, h2₀⟩ => ⟨p₀, h1₀, by
  rcases h2₀ with (h | ⟨o, h⟩) | h
  · exact .inl (.inl (e₀ _ _ h))
  · exact .inl (.inr ⟨o, e₀ _ _ h⟩)
  · exact .inr h⟩⟩
section
variable {ι : Type} {X : ι → Cx} {g : W5} {N : List Str} {k : Nat} {σ : L2.St} {Hb : Hp} {e e1 e2 : Expr} {p pos : Pos} {l : List Int}
theorem lenSq [c : CtxZ X g N k] (hm : g.mg "len" = none) (h : EV X e σ Hb (rSq g.K) l) (hg : ∀ i, Gl (X i) "len" := by intro _; rfl) (hs : NS e := by intro _ _; rfl) : EV X (.Call (.Name "len" p) [e] [] pos) σ Hb rInt (l.length : Int) :=
  bcall (Φ := fun v H => rInt.r H v (l.length : Int)) len_K hm PySem.boot_len (ac h a0 hs) (fun vs Hk H2 c1 r Q q => by
    obtain ⟨v, rfl, r1⟩ := AL.one r
    obtain ⟨p, rfl, b⟩ := (rSq g.K).up c1 r1
    refine ⟨p, _, rfl, .inl b, ?_⟩
    rw [List.length_map]
    exact q _ Hk H2 (Go.refl c1) rfl) hg (he := hs)
theorem ixSq [c : CtxZ X g N k] {i a : Int} (j : Nat) (h1 : EV X e1 σ Hb (rSq g.K) l) (h2 : EV X e2 σ Hb rInt i) (hi : i = (j : Int)) (hj : l[j]? = some a) (hs : PlainIx e2 := by intro _ _; rfl) : EV X (.Subscript e1 e2 pos) σ Hb rInt a := fun H1 c1 Q q =>
  ⟨_, fun i => pe_ix (ix_K i) (wE_ok i) (wE_ok i) hs, seq2 (Ψ := fun _ _ _ => True) (E := fun _ _ _ _ => True) h1 h2 c1 fun v u Hk H2 g1 r1 r2 => by
    obtain ⟨p, rfl, b⟩ := (rSq g.K).up g1.on r1
    have r2 : u = .int i := r2
    subst r2
    exact .inl ⟨p, _, i, .int a, rfl, rfl, b, atI_of hi (by rw [List.getElem?_map, hj]; rfl), q _ Hk H2 g1 rfl⟩⟩
end
abbrev spDrawsQ (g : W5) : Sp := fun vs H1 Q _ => ∃ (l : List Int) (Hb : Hp), Ex Hb H1 ∧ (al1 (rSq g.K) l).r Hb vs ∧ ∀ d H2, H1 d = none → Go no Hb H1 Hb H2 → Hb d = none → Dw H2 d → Q (.ref d) H2
theorem ok_drawsQ {g : W5} (D : DefOf g "_law_draws" sDraws) (T : TX g) : FnB g CX0 1 "_law_draws" ["_law_script"] [] (spDrawsQ g) := by
  refine def_ok D sDrawsS (by decide +kernel) (fun vs H Q E ⟨l, Hb, _, h, _⟩ => by obtain ⟨v, rfl, _⟩ := AL.one h; rfl) (fun _ _ _ _ _ _ us hl => match us, hl with | [_], _ => rfl) fun f cdv A outer s H vs Q E cx ⟨l, Hb, e, h0, q⟩ => ?_
  obtain ⟨v, rfl, hv⟩ := AL.one h0
  refine s_cons (s_nilL 1 fun d hd => ?_)
  obtain ⟨G, M⟩ := (Go.refl (S := no) e).own hd (o := .lst [])
  refine s_cons (s_set 2 (cI (n := 911)) G.on fun w1 Hk H2 g1 hw => ?_)
  obtain rfl : w1 = .int 911 := hw
  have G := G.step g1.ex
  have M := M.ex g1.ex
  have ifm : (if (63 : Int) < ((l.length : Nat) : Int) then (63 : Int) else ((l.length : Nat) : Int)) = ((min l.length 63 : Nat) : Int) := by split <;> omega
  refine s_cons (s_forR T.range 3 (EV.is (min2 T.min (lenSq T.len (nm 0 (R := rSq g.K) (a := l) (h := hv))) cI) ifm) G.on (by omega)
    (fun i σ H => ∃ (s : Int) (o3 o4 o5 : Option V) (m : List Int), σ = [some v, some (.ref d), some (.int s), o3, o4, o5] ∧ 0 ≤ s ∧ s < 2 ^ 31 ∧ Go no Hb _ Hb H ∧ Mu _ Hb H d (.lst (m.map .int)) ∧ m.length ≤ 44 * i)
    (fun Hk H3 g2 => ⟨911, none, none, none, [], rfl, by decide, by decide, G.step g2.ex, M.ex g2.ex, Nat.le_refl _⟩) (fun i σ' H' hi hI => ?_) fun σ' H' hI => ?_)
  · obtain ⟨s, o3, o4, o5, m, rfl, s0, s1, G, M, hm⟩ := hI
    have hil : i < l.length := by omega
    show wSs _ _ _ [some v, some (.ref d), some (.int s), some (.int (i : Int)), o4, o5] H'
    -- cell = int(script[at])
    refine s_cons (s_set 4 (int1 T.int (ixSq i (nm 0 (R := rSq g.K) (a := l) (h := hv)) (nm 3 (R := rInt) (a := (i : Int)) (h := rfl)) rfl (List.getElem?_eq_getElem hil))) G.on fun w2 Hk H2 g1 hw => ?_)
    obtain rfl : w2 = .int l[i] := hw
    have G := G.step g1.ex
    have M := M.ex g1.ex
    show wSs _ _ _ [some v, some (.ref d), some (.int s), some (.int (i : Int)), some (.int l[i]), o5] H2
    refine s_cons (s_ifJ (fun σ H => ∃ c : Int, 0 ≤ c ∧ σ = [some v, some (.ref d), some (.int s), some (.int (i : Int)), some (.int c), o5] ∧ Go no Hb _ Hb H ∧ Mu _ Hb H d (.lst (m.map .int)))
      (tlt (nm 4 (h := rfl)) cI) G.on (fun ht H3 e3 => ?_) (fun ht H3 e3 => s_nil ⟨l[i], by simpa using ht, rfl, G.step e3, M.ex e3⟩) fun σ2 H3 hJ => ?_)
    · have hneg : l[i] < 0 := by simpa using ht
      refine s_one (s_set 4 (sub cI (mul cI (nm 4 (h := rfl)) (.inl ⟨by decide, by decide⟩))) (G.step e3).on fun w3 Hk H4 g4 hw3 => ?_)
      exact ⟨3 - 2 * l[i], by omega, by rw [show w3 = .int (3 - 2 * l[i]) from hw3]; rfl, (G.step e3).step g4.ex, (M.ex e3).ex g4.ex⟩
    · obtain ⟨c, c0, rfl, G, M⟩ := hJ
      refine s_one (s_if (tge (nm 4 (h := rfl)) (EV.is (pw cI cI ⟨by decide, by decide, by decide⟩) pow18)) G.on (fun ht Hk H4 g4 => ?_) fun ht Hk H4 g4 => ?_)
      · -- 44 turns
        have G := G.step g4.ex
        have M := M.ex g4.ex
        refine s_one (s_forR (n := 44) T.range 5 cI G.on (by decide) (fun j σ H => ∃ (c : Int) (o5 : Option V) (m : List Int), 0 ≤ c ∧ σ = [some v, some (.ref d), some (.int s), some (.int (i : Int)), some (.int c), o5] ∧ Go no Hb _ Hb H ∧ Mu _ Hb H d (.lst (m.map .int)) ∧ m.length ≤ 44 * i + j)
          (fun Hk H3 g2 => ⟨c, o5, m, c0, rfl, G.step g2.ex, M.ex g2.ex, hm⟩) (fun j σ' H' hj hI => ?_) fun σ' H' hI => ?_)
        · obtain ⟨c, o5, m, c0, rfl, G, M, hm⟩ := hI
          show wSs _ _ _ [some v, some (.ref d), some (.int s), some (.int (i : Int)), some (.int c), some (.int (j : Int))] H'
          refine s_one (s_if (tgt (nm 4 (h := rfl)) cI) G.on (fun ht Hk H5 g5 => ?_) fun ht Hk H5 g5 => s_nil ⟨c, _, m, c0, rfl, G.step g5.ex, M.ex g5.ex, by omega⟩)
          have G := G.step g5.ex
          have M := M.ex g5.ex
          refine s_cons (s_app (j := 1) (md (int1 T.int (nm 4 (h := rfl))) (cI (n := 30)) (by decide)) G.on M.at_ (by rw [List.length_map]; omega) fun w Hk H6 g6 hw h6 => ?_)
          obtain rfl : w = .int (c % 30) := hw
          have G := (G.step g6.ex).mu (M.ex g6.ex) (o' := .lst (m.map .int ++ [.int (c % 30)]))
          have M := (M.ex g6.ex).wr (o' := .lst (m.map .int ++ [.int (c % 30)]))
          refine s_one (s_set 4 (dv (nm 4 (h := rfl)) (cI (n := 30)) ⟨by decide, by decide⟩) G.on fun w Hk H7 g7 hw7 => ?_)
          exact ⟨c / 30, _, m ++ [c % 30], Int.ediv_nonneg c0 (by decide), by rw [show w = .int (c / 30) from hw7]; rfl, G.step g7.ex, by simpa using M.ex g7.ex, by simp; omega⟩
        · obtain ⟨c, o5, m, c0, rfl, G, M, hm⟩ := hI
          exact ⟨s, _, _, _, m, rfl, s0, s1, G, M, by omega⟩
      · have hc : c < 1000000000000000000 := by simpa using ht
        have G := G.step g4.ex
        have M := M.ex g4.ex
        refine s_cons (s_set 2 (md (int1 T.int (add (add (mul (nm 2 (h := rfl)) cI (.inr ⟨by decide, by decide⟩)) (mul (nm 4 (h := rfl)) cI (.inr ⟨by decide, by decide⟩))) (nm 3 (h := rfl)))) (cI (n := 2147483629)) (by decide)) G.on fun w Hk H5 g5 hw => ?_)
        obtain rfl : w = .int ((s * 31 + c * 7919 + (i : Int)) % 2147483629) := hw
        have G := G.step g5.ex
        have M := M.ex g5.ex
        refine s_one (s_forR (n := 5) T.range 5 cI G.on (by decide) (fun j σ H => ∃ (s : Int) (o5 : Option V) (m : List Int), 0 ≤ s ∧ s < 2 ^ 31 ∧ σ = [some v, some (.ref d), some (.int s), some (.int (i : Int)), some (.int c), o5] ∧ Go no Hb _ Hb H ∧ Mu _ Hb H d (.lst (m.map .int)) ∧ m.length ≤ 44 * i + j)
          (fun Hk H3 g2 => ⟨_, o5, m, Int.emod_nonneg _ (by decide), Int.lt_of_lt_of_le (Int.emod_lt_of_pos _ (by decide)) (by decide), rfl, G.step g2.ex, M.ex g2.ex, hm⟩) (fun j σ' H' hj hI => ?_) fun σ' H' hI => ?_)
        · obtain ⟨s, o5, m, s0, s1, rfl, G, M, hm⟩ := hI
          show wSs _ _ _ [some v, some (.ref d), some (.int s), some (.int (i : Int)), some (.int c), some (.int (j : Int))] H'
          have s2 : s < 18446744073709551616 := Int.lt_trans s1 (by decide)
          refine s_cons (s_set 2 (md (int1 T.int (add (add (add (mul (nm 2 (h := rfl)) (nm 2 (h := rfl)) (.inl ⟨by omega, s2⟩)) (mul cI (nm 5 (h := rfl)) (.inl ⟨by decide, by decide⟩))) (nm 3 (h := rfl))) cI)) (cI (n := 2147483587)) (by decide)) G.on fun w Hk H5 g5 hw => ?_)
          obtain rfl : w = .int ((s * s + 5 * (j : Int) + (i : Int) + 1) % 2147483587) := hw
          have t0 : 0 ≤ (s * s + 5 * (j : Int) + (i : Int) + 1) % 2147483587 := Int.emod_nonneg _ (by decide)
          have t1 : (s * s + 5 * (j : Int) + (i : Int) + 1) % 2147483587 < 2 ^ 31 := Int.lt_of_lt_of_le (Int.emod_lt_of_pos _ (by decide)) (by decide)
          generalize (s * s + 5 * (j : Int) + (i : Int) + 1) % 2147483587 = t at t0 t1
          have G := G.step g5.ex
          have M := M.ex g5.ex
          show wSs _ _ _ [some v, some (.ref d), some (.int t), some (.int (i : Int)), some (.int c), some (.int (j : Int))] H5
          refine s_one (s_app (j := 1) (md (int1 T.int (dv (nm 2 (h := rfl)) (cI (n := 11)) ⟨by decide, by decide⟩)) (cI (n := 27720)) (by decide)) G.on M.at_ (by rw [List.length_map]; omega) fun w Hk H6 g6 hw h6 => ?_)
          obtain rfl : w = .int (t / 11 % 27720) := hw
          exact ⟨t, _, m ++ [t / 11 % 27720], t0, t1, rfl, by simpa using (G.step g6.ex).mu (M.ex g6.ex), by simpa using (M.ex g6.ex).wr (o' := .lst (m.map .int ++ [.int (t / 11 % 27720)])), by simp; omega⟩
        · obtain ⟨s, o5, m, s0, s1, rfl, G, M, hm⟩ := hI
          exact ⟨s, _, _, _, m, rfl, s0, s1, G, M, by omega⟩
  · obtain ⟨s, o3, o4, o5, m, rfl, s0, s1, G, M, hm⟩ := hI
    refine s_cons (s_rev (j := 1) M.at_ ?_)
    have G := G.mu M (o' := .lst (m.map V.int).reverse)
    have M := M.wr (o' := .lst (m.map V.int).reverse)
    refine s_one (s_retw ⟨_, fun _ => pe_var (i := 1) rfl (.inl rfl) (by decide) (by decide), _, rfl, ?_⟩)
    exact q d _ hd G M.off ⟨m.reverse, by rw [List.length_reverse]; have : min l.length 63 ≤ 63 := Nat.min_le_right _ _; omega, by rw [List.map_reverse]; exact M.at_⟩
end K
/-! KY1: what the law's walk needs: rates_of_state where it raises nothing; the other grid; the rows. -/
namespace K
open PySem.Spec PySem PyProof.Rows L2 Z M
theorem Go.fixN {S : Addr → Prop} {Hb H1 Hk H : Hp} {p : Addr} {as : List Addr} {n : Nat} {f : Nat → Nat → Int} (g : Go S Hb H1 Hk H) (m : MxM H1 Hk H p as n f) : ∃ Hn, Go S Hb H1 Hn H ∧ Ex Hk Hn ∧ Mx Hn p as n f ∧ ∀ b, b ∉ p :: as → Hn b = Hk b := by
  have out : ∀ {b o}, Hk b = some o → b ∉ p :: as := fun {b o} h z => by rw [m.off b z] at h; cases h
  refine ⟨fun b => if b ∈ p :: as then H b else Hk b, ⟨g.real, g.live, fun b o h => ?_, fun b o h => ?_, fun b h z => ?_⟩, fun b o h => ?_, ⟨m.len, m.nd, m.out, ?_, fun i a ha => ?_⟩, fun b hb => if_neg hb⟩
  · show (if b ∈ p :: as then H b else Hk b) = some o
    rw [if_neg (out (g.base b o h))]; exact g.base b o h
  · have h : (if b ∈ p :: as then H b else Hk b) = some o := h
    by_cases z : b ∈ p :: as
    · rw [if_pos z] at h; exact h
    · rw [if_neg z] at h; exact g.on b o h
  · show (if b ∈ p :: as then H b else Hk b) = none
    rw [if_neg fun q => h (m.new b q)]; exact g.fr b h z
  · show (if b ∈ p :: as then H b else Hk b) = some o
    rw [if_neg (out h)]; exact h
  · show (if p ∈ p :: as then H p else Hk p) = _
    rw [if_pos (List.mem_cons_self ..)]; exact m.top
  · show (if a ∈ p :: as then H a else Hk a) = _
    rw [if_pos (List.mem_cons_of_mem _ (List.mem_of_getElem? ha))]; exact m.row i a ha
/-! rates_of_state -/
abbrev spRatesOK (CC : Addr) : Sp := spF (fun t : Bool × Nat × Mat × Nat × (Nat → Int) => al3 (rCh CC) (t.2.1, t.2.2.1) rInt (t.2.2.2.1 : Int) (rW t.1) (tab t.2.1 t.2.2.2.2)) (fun t => t.2.2.2.1 < t.2.1 ∧ RowOk t.2.1 t.2.2.2.2 ∧ GridBd t.2.1 t.2.2.1) (fun t v H => (rTold t.2.1).r H v (due t.2.1 t.2.2.1 t.2.2.2.1 t.2.2.2.2, t.2.2.2.2 t.2.2.2.1))
theorem rates_good {g : W5} {CC CS CR : Addr} (F : FnR g 4 "rates_of_state" ["chain", "x", "row"] [] (spRates CC CS CR)) : FnB g (L2.CX g.P g.w) 4 "rates_of_state" ["chain", "x", "row"] [] (spRatesOK CC) := by
  refine F.good fun vs H Q E ⟨⟨b, n, G, x, r⟩, Hb, e, h0, ⟨hx, hr, hg⟩, q⟩ => ?_
  obtain ⟨v, w, u, rfl, hv, hw, hu⟩ := AL.three h0
  dsimp only at hv hw hu hx hr hg q
  obtain rfl : w = .int (x : Int) := hw
  refine ⟨Hb, n, G, v, _, u, rfl, e, hv, rfl, hr.n8, fun h => ?_, fun _ => .inr ⟨b, x, r, rfl, hx, hu, hr, hg, q⟩⟩
  simp [isSt] at h; omega
theorem due_congr {n x : Nat} {f f' : Mat} {r : Nat → Int} (h : ∀ a c, a < n → c < n → a ≠ x → f' a c = f a c) {b : Nat} (hb : b < n) : due n f' x r b = due n f x r b := by
  unfold due
  split
  · rfl
  · rename_i hne
    rw [sm_congr (f := f' b) (g := f b) fun y hy => h b y hb hy hne]
    congr 1
    exact sm_off fun y hy hyx => by rw [h y b hy hb hyx]
theorem told_congr {n : Nat} {d d' : Nat → Int} {k : Int} {H : Hp} {v : V} (e : ∀ b, b < n → d' b = d b) (h : (rTold n).r H v (d', k)) : (rTold n).r H v (d, k) := by
  have h : if (∀ b, b < n → 0 ≤ d' b) then (rT (rP rInt rInt)).r H v (tab n fun b => (frU (d' b) k, frV (d' b) k)) else v = .non := h
  show if (∀ b, b < n → 0 ≤ d b) then (rT (rP rInt rInt)).r H v (tab n fun b => (frU (d b) k, frV (d b) k)) else v = .non
  have e2 : (∀ b, b < n → 0 ≤ d' b) ↔ ∀ b, b < n → 0 ≤ d b := ⟨fun q b hb => by rw [← e b hb]; exact q b hb, fun q b hb => by rw [e b hb]; exact q b hb⟩
  have e3 : (tab n fun b => (frU (d' b) k, frV (d' b) k)) = tab n fun b => (frU (d b) k, frV (d b) k) := tab_congr fun b hb => by rw [e b hb]
  by_cases q : ∀ b, b < n → 0 ≤ d b
  · rw [if_pos q]; rw [if_pos (e2.mpr q), e3] at h; exact h
  · rw [if_neg q]; rw [if_neg fun z => q (e2.mp z)] at h; exact h
theorem frOne {u v : Int} (hv : 1 ≤ v) (h0 : 0 ≤ u) : frU (v * u) v = u ∧ frV (v * u) v = 1 := by
  have e : Nat.gcd (v * u).natAbs v.natAbs = v.natAbs := by rw [Int.natAbs_mul]; simp
  have e2 : ((v.natAbs : Nat) : Int) = v := by omega
  unfold frU frV
  rw [e, e2]
  exact ⟨Int.mul_ediv_cancel_left _ (by omega), Int.ediv_self (by omega)⟩
theorem told_own {n x : Nat} {f : Mat} {r : Nat → Int} {H : Hp} {v : V} (hx : x < n) (hr : 1 ≤ r x) (nn : ∀ b, b < n → 0 ≤ f x b) (dg : f x x = 0) (hb : Bal n r f) (h : (rTold n).r H v (due n f x r, r x)) : (rT (rP rInt rInt)).r H v (tab n fun b => (f x b, 1)) := by
  have h2 := told_congr (d := fun b => r x * f x b) (fun b hbn => due_own hx dg hb hbn) h
  have h2 : if (∀ b, b < n → 0 ≤ r x * f x b) then (rT (rP rInt rInt)).r H v (tab n fun b => (frU (r x * f x b) (r x), frV (r x * f x b) (r x))) else v = .non := h2
  rw [if_pos fun b hbn => Int.mul_nonneg (by omega) (nn b hbn)] at h2
  rw [tab_congr (g := fun b => (frU (r x * f x b) (r x), frV (r x * f x b) (r x))) fun b hbn => by rw [(frOne hr (nn b hbn)).1, (frOne hr (nn b hbn)).2]]
  exact h2
/-! the other grid -/
structure Oth (n x : Nat) (f f' : Mat) : Prop where
  same : ∀ a c, a < n → c < n → a ≠ x → f' a c = f a c
  pos : ∀ c, c < n → 0 < f x c → 1 ≤ f' x c ∧ f' x c ≤ 1000003
  zero : ∀ c, c < n → ¬ 0 < f x c → f' x c = f x c
section
variable {n x : Nat} {f f' : Mat}
theorem Oth.start (hg : GridOk n f) (hx : x < n) : Oth n x f f := ⟨fun _ _ _ _ _ => rfl, fun c hc h => ⟨by omega, hg.le x c hx hc⟩, fun _ _ _ => rfl⟩
theorem Oth.next (h : Oth n x f f') {b : Nat} {v : Int} (hb : 0 < f x b) (hv : 1 ≤ v ∧ v ≤ 1000003) : Oth n x f (fun a c => if a = x ∧ c = b then v else f' a c) :=
  ⟨fun a c ha hc hne => by show (if a = x ∧ c = b then v else f' a c) = _; rw [if_neg fun q => hne q.1]; exact h.same a c ha hc hne, fun c hc hp => by
    show 1 ≤ (if x = x ∧ c = b then v else f' x c) ∧ (if x = x ∧ c = b then v else f' x c) ≤ _
    split
    · exact hv
    · exact h.pos c hc hp, fun c hc hp => by
    show (if x = x ∧ c = b then v else f' x c) = _
    rw [if_neg fun (q : x = x ∧ c = b) => hp (q.2 ▸ hb)]; exact h.zero c hc hp⟩
theorem Oth.grid (h : Oth n x f f') (hg : GridOk n f) (hx : x < n) : GridOk n f' := by
  have row : ∀ c, c < n → 0 ≤ f' x c ∧ f' x c ≤ 1000003 := fun c hc => by
    by_cases p : 0 < f x c
    · have := h.pos c hc p; omega
    · rw [h.zero c hc p]; exact ⟨hg.nn x c hx hc, hg.le x c hx hc⟩
  refine ⟨fun a ha => ?_, fun a c ha hc => ?_, fun a c ha hc => ?_⟩
  · by_cases e : a = x
    · subst e; rw [h.zero a ha (by rw [hg.dg a ha]; omega)]; exact hg.dg a ha
    · rw [h.same a a ha ha e]; exact hg.dg a ha
  · by_cases e : a = x
    · subst e; exact (row c hc).1
    · rw [h.same a c ha hc e]; exact hg.nn a c ha hc
  · by_cases e : a = x
    · subst e; exact (row c hc).2
    · rw [h.same a c ha hc e]; exact hg.le a c ha hc
theorem Oth.joined (h : Oth n x f f') (hj : Joined n f) : Joined n f' := joined_mono (fun a c ha hc hp => by
  by_cases e : a = x
  · subst e; have := (h.pos c hc hp).1; omega
  · rw [h.same a c ha hc e]; exact hp) hj
end
/-- a grid of the law -/
theorem gTab {n : Nat} {f : Mat} (h : GridOk n f) (h2 : 2 ≤ n) (h5 : n ≤ 5) : TabOk n f := ⟨h2, by omega, h.nn, h.dg⟩
theorem gBd {n : Nat} {f : Mat} (h : GridOk n f) : GridBd n f := ⟨h.nn, fun a b ha hb => Int.le_trans (h.le a b ha hb) (by decide +kernel)⟩
/-- the tops of the first kind -/
structure TopOk (n x : Nat) (f : Mat) (t : Nat → Int) : Prop where
  lo : ∀ b, b < n → f x b ≤ t b
  hi : ∀ b, b < n → t b ≤ 1000100
  own : t x = 0
theorem TopOk.reach {n x : Nat} {f : Mat} {r t : Nat → Int} (h : TopOk n x f t) (hg : GridOk n f) (hj : Joined n f) (h2 : 2 ≤ n) (h5 : n ≤ 5) (hx : x < n) (hr : RowOk n r) : ReachPre n f x r (f x) t :=
  ⟨hx, hr, h5, gTab hg h2 h5, hj, hg.dg x hx, h.own, fun b hb => hg.nn x b hx hb, h.lo, fun b hb => Int.le_trans (h.hi b hb) (by decide +kernel), fun a b ha hb => Int.le_trans (hg.le a b ha hb) (by decide +kernel), fun b hb p => p⟩
theorem wideReach {n x : Nat} {f : Mat} {r : Nat → Int} (hg : GridOk n f) (hj : Joined n f) (h2 : 2 ≤ n) (h5 : n ≤ 5) (hx : x < n) (hr : RowOk n r) : ReachPre n f x r (fun b => if f x b < 1 then f x b else 1) (fun b => 12 * f x b) :=
  ⟨hx, hr, h5, gTab hg h2 h5, hj, by show (if f x x < 1 then f x x else 1) = 0; rw [hg.dg x hx]; rfl, by show 12 * f x x = 0; rw [hg.dg x hx]; rfl, fun b hb => by
    show 0 ≤ (if f x b < 1 then f x b else 1)
    have := hg.nn x b hx hb
    split <;> omega, fun b hb => by
    show (if f x b < 1 then f x b else 1) ≤ 12 * f x b
    have := hg.nn x b hx hb
    split <;> omega, fun b hb => by
    show 12 * f x b ≤ _
    have := hg.le x b hx hb
    exact Int.le_trans (show 12 * f x b ≤ 12 * 1000003 by omega) (by decide +kernel), fun a b ha hb => Int.le_trans (hg.le a b ha hb) (by decide +kernel), fun b hb p => by
    show 0 < (if f x b < 1 then f x b else 1)
    split <;> omega⟩
end K
/-! KY: the law. -/
namespace K
open PySem.Spec PySem PyProof.Rows L2 Z M
/-- name = [elt for ..], the element may take from the draws -/
theorem s_setLcD {X : Cx} {g : W5} {N : List Str} {k : Nat} {σ : L2.St} {H Hb : Hp} {e tg : Expr} {pos : Pos} {x : Str} {n : Nat} {D : Ends} {d : Addr} [c : CtxZ (u1 X) g N k] {elt : Expr} {scope : Scope} {Y : Nat → V → Hp → Prop} (j : Nat) (own : List (Str × Nat)) (hi : EI (u1 X) tg e σ Hb n Y) (hn : n ≤ 1000000) (hd0 : Hb d = none) (Pe : Nat → Int → Prop)
    (ht : ∀ i x Hk H, i < n → Ex Hb Hk → Ex Hk H → Y i x Hk → wG (bX (u1 X) scope) tg x (wipe σ (own.map (·.2))) H fun σ2 H2 => H2 = H ∧ wipe σ2 (own.map (·.2)) = wipe σ (own.map (·.2)) ∧ ED (bX (u1 X) scope) d elt σ2 Hk (Pe i)) (cx : Ex Hb H) (dw : Dw H d)
    (q : ∀ D1 (l : List Int) H2, H D1 = none → Gd d Hb H H2 → Dw H2 d → H2 D1 = some (.lst (l.map .int)) → l.length = n → (∀ i (h : i < l.length), Pe i l[i]) → D.nx (σ.set j (some (.ref D1))) H2) {pos' spos : Pos}
    (hN : N[j]? = some x := by rfl) (hyl : X.env.scope.names.lookup x = some .local := by rfl) (hsw : swapsWith (.ListComp elt [⟨tg, e, [], 0⟩] scope pos) (some (.Name x pos')) spos.line X.env = pure true := by exact sw_true rfl rfl rfl (by kernel_rfl))
    (ok : BlkOk N X.env.scope scope own := by exact blkOk_by (by kernel_rfl)) (hs : ∀ x, foldedSetIterable e X.env x = pure x := by intro _; rfl) :
    wS X (.Assign [.Name x pos'] (.ListComp elt [⟨tg, e, [], 0⟩] scope pos) spos) D σ H := by
  have hn0 : X.N = N := c.nm ()
  exact ⟨_, ps_setLc (i := j) (c.calm ()) (by rw [hn0]; exact c.nd) (by rw [hn0]; exact hN) hyl hsw (wI_ok (X := u1 X) ()) (by rw [hn0]; exact ok) (blk_hs (X := u1 X) (P := fun Y => PG Y tg (wG (bX (u1 X) scope) tg)) scope (fun q => wG_ok q) ()) (blk_hs (X := u1 X) (P := fun Y => PTs Y [] (wTs (bX (u1 X) scope) [])) scope (fun q => wTs_ok q) ()) (blk_hs (X := u1 X) (P := fun Y => PE Y elt (wE (bX (u1 X) scope) elt)) scope (fun q => wE_ok q) ()) hs,
    lcD_run hi hn hd0 Pe ht cx dw q⟩
def spLawQ (g : W5) : Sp := fun vs H1 Q _ => ∃ (v : V) (l : List Int), vs = [v] ∧ (rSq g.K).r H1 v l ∧ ∀ H2, Q (.bl true) H2
theorem ok_law {g : W5} {CN CC CXr : Addr} {CXe : CXT} {f0 : Addr} {fd : FuncData} (F : FunD g.K "law" "law" (defArgs sLaw) (defBody sLaw) (defScope sLaw) [] [] f0 fd) (T : TX g) (cc : ClOk g CC tabF)
    (FD : FnB g CX0 1 "_law_draws" ["_law_script"] [] (spDrawsQ g)) (FT : FnB g CX0 1 "_law_take" ["_law_draws_here", "_law_many"] [] spTake) (FRg : FnB g CX0 8 "_law_ring_spans" ["_law_draws_here"] [] spRings) (FG : FnB g CX0 4 "_law_lot_grid" ["_law_draws_here"] [] spLotGrid)
    (FC : ClB g CX0 4 "Chain" CC ["self", "rows"] (spChInit CC)) (FCp : FnB g CX0 1 "_law_copy" ["_law_grid"] [] spCopy) (FSh : FnB g CX0 3 "_law_lot_shares" ["_law_grid"] [] spShares) (FNu : FnB g CX0 2 "_law_numbers" ["_law_draws_here", "_law_size", "_law_low", "_law_high"] [] spNumbers)
    (FRa : FnB g CXe 4 "rates_of_state" ["chain", "x", "row"] [] (spRatesOK CC)) (FP : FnB g CX0 2 "_law_pair" ["_law_draws_here", "_law_size"] [] spPair) (FRr : FnB g CX0 6 "_law_rates_right" ["_law_grid", "_law_x", "_law_row", "_law_told_here"] [] spRatesRight)
    (FRe : FnB g CX0 8 "_law_reached_right" ["_law_grid", "_law_x", "_law_row", "_law_line", "_law_tops"] [] spReach) (FRf : FnB g CX0 6 "_law_refusals" ["_law_draws_here", "_law_chain", "_law_x", "_law_row"] [] (spRefu CC)) :
    FnOk g.P g.w g.K g.mg g.base CX0 9 f0 fd ["_law_script"] (spLawQ g) := by
  refine (fun_ok F sLawS (by decide +kernel) (fun vs H Q E ⟨v, l, h, _⟩ => by rw [h]; rfl) (fun _ _ _ _ _ _ us hl => match us, hl with | [_], _ => rfl) fun f1 cdv A outer s H vs Q E cx ⟨v, l, hvs, hv, q⟩ => ?_).1
  subst hvs
  -- draws
  refine s_cons (s_setw 1 (wcall FD (by decide) ⟨_, fun _ => pa_cons (pe_var (i := 0) rfl (.inl rfl) (by decide) (by decide)) pa_nil rfl, _, rfl, l, H, Ex.refl H, ⟨v, [], rfl, hv, rfl⟩, fun d H2 hdn g2 hd dw => ?_⟩))
  have e : Ex H H2 := g2.on
  clear g2 hdn
  show wSs _ _ _ [some v, some (.ref d), none, none, none, none, none, none, none, none, none, none, none, none, none, none, none, none] H2
  -- rings
  refine s_cons (s_ifD (ed_eq (take 1 FT (cI (n := 12))) (edP (cI (n := 11)))) e hd dw (fun H3 g3 dw3 _ => ?_) fun H3 g3 dw3 _ => s_nil ?_)
  · exact s_one (s_retw (wcall FRg (by decide) ⟨_, fun _ => pa_cons (pe_var (i := 1) rfl (.inr (.inl rfl)) (by decide) (by decide)) pa_nil rfl, _, rfl, H, d, rfl, g3.on, hd, dw3, q⟩))
  -- grid
  refine s_cons (s_setw 2 (wcall FG (by decide) ⟨_, fun _ => pa_cons (pe_var (i := 1) rfl (.inr (.inl rfl)) (by decide) (by decide)) pa_nil rfl, _, rfl, H, d, rfl, g3.on, hd, dw3, fun n p as f H4 hf g4 dw4 m hn2 hn5 hgo hj => ?_⟩))
  have M1 : MxM H2 H H4 p as n f := ⟨m, fun b hb => g3.new_of (hf b hb), fun b hb => g3.on.none (hf b hb)⟩
  have G : Go (· = d) H H2 H H4 := g3.trans g4
  have hdp := dw.neM M1
  obtain ⟨B1, G, en, mn, boff⟩ := K.Go.fixN G M1
  have hd : B1 d = none := by rw [boff d fun z => hdp d z rfl]; exact hd
  have hgr := mn.rep
  generalize V.ref p = vg at hgr
  clear M1 mn boff hdp m hf g3 g4
  show wSs _ _ _ [some v, some (.ref d), some vg, none, none, none, none, none, none, none, none, none, none, none, none, none, none, none] H4
  -- size
  refine s_cons (s_set 3 (EV.is (a' := (n : Int)) (len T.len (nm 2 (R := rL (rL rInt)) (a := mat n f) (h := hgr))) (by rw [tab_len])) G.on fun w Hk5 H5 g5 hw => ?_)
  obtain rfl : w = .int (n : Int) := hw
  have G := G.step g5.ex
  have dw5 := dw4.ex g5.ex
  -- chain
  have tbO := gTab hgo hn2 hn5
  have bdO := gBd hgo
  refine s_cons (s_set 4 (EP.imp (make FC (true, n, f) (ac (EM.ev (callM FCp (n, f) (ac (nm 2 (R := rL (rL rInt)) (a := mat n f) (h := hgr)) a0) rfl (by show n ≤ 1000; omega))) a0) rfl ⟨tbO, hj⟩ tabPost_up) mkCh) G.on fun vc B2 H6 g6 hvc => ?_)
  have hvc : (rCh CC).r B2 vc (n, f) := hvc
  have hd : B2 d = none := g6.fr d dw5.live hd
  have hgr := (rL (rL rInt)).up g6.base hgr
  have G := G.trans g6.more
  have dw6 := dw5.ex g6.ex
  clear g5 g6 dw5 dw4
  -- x
  refine s_cons (s_setD 5 (take 1 FT (nm 3 (R := rInt) (a := (n : Int)) (h := rfl))) G.on hd dw6 fun i H7 g7 dw7 hi => ?_)
  have hi : 0 ≤ i ∧ (i < (n : Int) ∨ i = 0) := hi
  obtain ⟨x, hx, rfl⟩ : ∃ x : Nat, x < n ∧ i = (x : Int) := ⟨i.toNat, by omega, by omega⟩
  have G := G.trans g7
  have dgx := hgo.dg x hx
  -- other
  refine s_cons (s_setM 6 (callM FCp (n, f) (ac (nm 2 (R := rL (rL rInt)) (a := mat n f) (h := hgr)) a0) rfl (by show n ≤ 1000; omega)) G.on fun p2 as2 H8 hf2 e8 m2 => ?_)
  obtain ⟨G, M2⟩ : Go (· = d) H H2 B2 H8 ∧ MxM H2 B2 H8 p2 as2 n f := G.ownM e8 hf2 m2
  have dw8 := dw7.ex e8
  show wSs _ _ _ [some v, some (.ref d), some vg, some (.int (n : Int)), some vc, some (.int (x : Int)), some (.ref p2), none, none, none, none, none, none, none, none, none, none, none] H8
  refine s_cons (s_forR (n := n) T.range 7 (nm 3 (R := rInt) (a := (n : Int)) (h := rfl)) G.on (by omega)
    (fun b σ H' => ∃ (o7 : Option V) (f' : Mat), σ = [some v, some (.ref d), some vg, some (.int (n : Int)), some vc, some (.int (x : Int)), some (.ref p2), o7, none, none, none, none, none, none, none, none, none, none] ∧ Go (· = d) H H2 B2 H' ∧ Dw H' d ∧ MxM H2 B2 H' p2 as2 n f' ∧ Oth n x f f')
    (fun Hk H9 g9 => ⟨none, f, rfl, G.step g9.ex, dw8.ex g9.ex, M2.ex g9.ex, Oth.start hgo hx⟩) (fun b σ' H' hb hI => ?_) fun σ' H' hI => ?_)
  · obtain ⟨o7, f', rfl, G, dw9, M2, O⟩ := hI
    show wSs _ _ _ [some v, some (.ref d), some vg, some (.int (n : Int)), some vc, some (.int (x : Int)), some (.ref p2), some (.int (b : Int)), none, none, none, none, none, none, none, none, none, none] H'
    refine s_one (s_if (tgt (ixt (ixt (nm 2 (R := rL (rL rInt)) (a := mat n f) (h := hgr)) (nm 5 (R := rInt) (a := (x : Int)) (h := rfl)) hx) (nm 7 (R := rInt) (a := (b : Int)) (h := rfl)) hb) (cI (n := 0))) G.on (fun ht Hk H9 g9 => ?_) fun ht Hk H9 g9 => s_nil ⟨_, f', rfl, G.step g9.ex, dw9.ex g9.ex, M2.ex g9.ex, O⟩)
    have hpos : 0 < f x b := of_decide_eq_true ht
    have G := G.step g9.ex
    have M2 := M2.ex g9.ex
    refine s_one (s_asgw ((ed_add (edP (cI (n := 1))) (take 1 FT (cI (n := 9)))) hd H9 G.on (dw9.ex g9.ex) _ fun i H10 g10 dw10 ⟨a, c, ha, hc, hi⟩ => ?_))
    subst ha hi
    have G := G.trans g10
    have M2 := M2.go g10 (dw.neM M2)
    refine gM (j := 6) x b M2.toMx (nm 5 (R := rInt) (a := (x : Int)) (h := rfl)) (nm 7 (R := rInt) (a := (b : Int)) (h := rfl)) rfl rfl hx hb fun H11 H12 r1 e11 hr1 ho m12 => ?_
    obtain ⟨G, dw12, M2⟩ := storedG dw G dw10 M2 e11 hr1 ho m12
    exact ⟨_, _, rfl, G, dw12, M2, O.next hpos (by omega)⟩
  obtain ⟨o7, f', rfl, G, dw9, M2, O⟩ := hI
  have hgo2 := O.grid hgo hx
  have hj2 := O.joined hj
  have hdp := dw.neM M2
  obtain ⟨B3, G, en3, mn3, boff⟩ := K.Go.fixN G M2
  have hd : B3 d = none := by rw [boff d fun z => hdp d z rfl]; exact hd
  have hot := mn3.rep
  have hgr := (rL (rL rInt)).up en3 hgr
  have hvc := (rCh CC).up en3 hvc
  generalize V.ref p2 = vo at hot
  clear M2 mn3 boff hdp m2 hf2 e8 g7 dw7 dw8 dw6
  -- own, had
  obtain ⟨own, eo, own1, ownB⟩ := shares_ok hn2 hn5 hgo hj
  obtain ⟨had, eh, had1, hadB⟩ := shares_ok hn2 hn5 hgo2 hj2
  refine s_cons (s_set 8 (EV.is (a' := tab n own) (call FSh (n, f) (ac (nm 2 (R := rL (rL rInt)) (a := mat n f) (h := hgr)) a0) rfl ⟨hn2, hn5, hgo⟩) eo) G.on fun v8 B4 H10 g10 h8 => ?_)
  have h8 : (rL rInt).r B4 v8 (tab n own) := h8
  have hd : B4 d = none := g10.fr d dw9.live hd
  have hgr := (rL (rL rInt)).up g10.base hgr
  have hot := (rL (rL rInt)).up g10.base hot
  have hvc := (rCh CC).up g10.base hvc
  have G := G.trans g10.more
  have dw10 := dw9.ex g10.ex
  refine s_cons (s_set 9 (EV.is (a' := tab n had) (call FSh (n, f') (ac (nm 6 (R := rL (rL rInt)) (a := mat n f') (h := hot)) a0) rfl ⟨hn2, hn5, hgo2⟩) eh) G.on fun v9 B5 H11 g11 h9 => ?_)
  have h9 : (rL rInt).r B5 v9 (tab n had) := h9
  have h8 := (rL rInt).up g11.base h8
  have hd : B5 d = none := g11.fr d dw10.live hd
  have hgr := (rL (rL rInt)).up g11.base hgr
  have hot := (rL (rL rInt)).up g11.base hot
  have hvc := (rCh CC).up g11.base hvc
  have G := G.trans g11.more
  have dw11 := dw10.ex g11.ex
  clear g10 g11 dw9 dw10
  -- row
  refine s_cons (s_setw 10 (wcall FNu (by decide) ⟨_, fun _ => pa_cons (pe_var (i := 1) rfl (.inr (.inl rfl)) (by decide) (by decide)) (wA_ok (X := u1 _) ()) rfl, _, rfl,
    EL.run (ac (nm 3 (R := rInt) (a := (n : Int)) (h := rfl)) (ac (cI (n := 1)) (ac (cI (n := 6)) a0))) G.on fun us Hk12 H12 g12 hus => ?_⟩))
  have G := G.step g12.ex
  have dw12 := dw11.ex g12.ex
  refine ⟨(n, 1, 6), B5, d, us, by rw [List.append_nil], G.on, hd, dw12, ?_, ⟨by show n ≤ 1000; omega, by show (1 : Int) ≤ 6; decide⟩, fun p3 l3 H13 hp3 g13 dw13 hl3 hlen hlr => ?_⟩
  · obtain ⟨z1, z2, z3, rfl, hz1, hz2, hz3⟩ := AL.three hus
    exact ⟨z1, [z2, z3], rfl, hz1, z2, [z3], rfl, hz2, z3, [], rfl, hz3, rfl⟩
  have hdp : d ≠ p3 := fun z => by obtain ⟨_, _, w⟩ := dw12; rw [z, hp3] at w; cases w
  have M0 : Mu H2 B5 H13 p3 (.lst (l3.map .int)) := ⟨G.new_of hp3, G.on.none hp3, hl3⟩
  have G := (G.trans g13).fixm M0
  have eb : Ex B5 (upd B5 p3 (.lst (l3.map .int))) := Ex.new M0.off
  have hd : upd B5 p3 (.lst (l3.map .int)) d = none := by rw [upd_ne hdp]; exact hd
  obtain ⟨r0, hr0, hl2⟩ : ∃ r : Nat → Int, (∀ x, x < n → 1 ≤ r x ∧ r x ≤ 6) ∧ l3 = tab n r := by
    have e1 := tab_self l3
    have e2 : l3.length = n := hlen
    rw [e2] at e1
    refine ⟨fun x => l3.getD x 0, fun x hx => ?_, e1⟩
    have : l3.getD x 0 ∈ l3 := by
      have h2 : l3.getD x 0 = l3[x] := by simp [show x < l3.length by omega]
      rw [h2]; exact List.getElem_mem _
    exact hlr _ this
  have hro : RowOk n r0 := ⟨by omega, fun x hx => (hr0 x hx).1, fun x hx => by have := (hr0 x hx).2; omega⟩
  have hrow : (rL rInt).r (upd B5 p3 (.lst (l3.map .int))) (.ref p3) (tab n r0) := by rw [hl2]; exact rInt.mkL upd_same
  have h8 := (rL rInt).up eb h8
  have h9 := (rL rInt).up eb h9
  have hgr := (rL (rL rInt)).up eb hgr
  have hot := (rL (rL rInt)).up eb hot
  have hvc := (rCh CC).up eb hvc
  generalize upd B5 p3 (.lst (l3.map .int)) = B6 at G hd hrow h8 h9 hgr hot hvc
  generalize V.ref p3 = vr at hrow
  clear M0 hl3 g12 g13 dw11 dw12 eb hus hlr hl2
  show wSs _ _ _ [some v, some (.ref d), some vg, some (.int (n : Int)), some vc, some (.int (x : Int)), some vo, o7, some v8, some v9, some vr, none, none, none, none, none, none, none] H13
  -- rows
  refine s_cons (s_setw 11 ⟨_, fun _ => pe_lst (pa_cons (pe_var (i := 10) rfl (.inl rfl) (by decide) (by decide)) pa_nil rfl), _, rfl, by show 1 ≤ sizeLine; decide, fun pr hpr => ?_⟩)
  obtain ⟨G, R⟩ := G.own hpr (o := .lst [vr])
  have dw14 := dw13.ex (Ex.new hpr (o := .lst [vr]))
  have hdr : d ≠ pr := fun z => by obtain ⟨_, _, w⟩ := dw13; rw [z, hpr] at w; cases w
  have stay : ∀ {H' : Hp} {o : HO}, Dw H' d → Dw (upd H' pr o) d := fun {H' o} ⟨l, z, w⟩ => ⟨l, z, by rw [upd_ne hdr]; exact w⟩
  have hP0 : P2 ((rL rInt).r B6) [vr] ([r0].map (tab n)) := .cons hrow .nil
  show wSs _ _ _ [some v, some (.ref d), some vg, some (.int (n : Int)), some vc, some (.int (x : Int)), some vo, o7, some v8, some v9, some vr, some (.ref pr), none, none, none, none, none, none] (upd H13 pr (.lst [vr]))
  generalize upd H13 pr (.lst [vr]) = H14 at G R dw14
  have nE : ∀ {h : Nat → Int}, tab n h ≠ [] := fun h => by have := congrArg List.length h; rw [tab_len] at this; simp at this; omega
  have rowOf : ∀ {s : Nat → Int}, (∀ x, x < n → 1 ≤ s x) → mx (tab n s) ≤ 10 ^ (6 : Int).toNat → RowOk n s := fun {s} h1 h2 => ⟨by omega, h1, fun x hx => Int.le_trans (le_mx (tab_mem.mpr ⟨x, hx, rfl⟩)) (Int.le_trans h2 (by decide +kernel))⟩
  -- own
  refine s_cons (s_ifJ (fun σ H' => ∃ (o12 : Option V) (xs : List V) (rs : List (Nat → Int)), σ = [some v, some (.ref d), some vg, some (.int (n : Int)), some vc, some (.int (x : Int)), some vo, o7, some v8, some v9, some vr, some (.ref pr), o12, none, none, none, none, none] ∧ Go (· = d) H H2 B6 H' ∧ Dw H' d ∧ Mu H2 B6 H' pr (.lst xs) ∧ P2 ((rL rInt).r B6) xs (rs.map (tab n)) ∧ (∀ r ∈ rs, RowOk n r) ∧ rs.length ≤ 2)
    (tle (maxE T.max (nm 8 (R := rL rInt) (a := tab n own) (h := h8)) nE) (pw (cI (n := 10)) (cI (n := 6)) ⟨by decide, by decide, by decide⟩)) G.on (fun ht H15 e15 => ?_) (fun ht H15 e15 => s_nil ⟨none, _, [r0], rfl, G.step e15, dw14.ex e15, R.ex e15, hP0, fun r hr => by rw [List.mem_singleton.1 hr]; exact hro, by show 1 ≤ 2; decide⟩) fun σ' H15 hJ => ?_)
  · have hoR := rowOf own1 (of_decide_eq_true ht)
    refine s_cons (s_app (j := 11) (nmP (v := v8) (Φ := fun w _ => w = v8) 8 rfl) (G.step e15).on (R.ex e15).at_ (by show 1 ≤ 1000000; decide) fun w Hk16 H16 g16 hw h16 => ?_)
    subst hw
    have R := ((R.ex e15).ex g16.ex).wr (o' := .lst ([vr] ++ [w]))
    have G := ((G.step e15).step g16.ex).wr (p := pr) (o := .lst ([vr] ++ [w])) (.inr R.new) R.off
    have dw16 := stay (o := .lst ([vr] ++ [w])) ((dw14.ex e15).ex g16.ex)
    generalize upd H16 pr (.lst ([vr] ++ [w])) = H17 at G R dw16
    refine s_cons (s_set 12 (call FRa (true, n, f, x, own) (ac (nm 4 (R := rCh CC) (a := (n, f)) (h := hvc)) (ac (nm 5 (R := rInt) (a := (x : Int)) (h := rfl)) (ac (toList T.list (nm 8 (R := rL rInt) (a := tab n own) (h := h8))) a0))) rfl ⟨hx, hoR, bdO⟩) G.on fun z Hk18 H18 g18 hz => ?_)
    have hz := told_own hx (own1 x hx) (fun b hb => hgo.nn x b hx hb) dgx ownB hz
    refine s_one (s_if (ET.is (t' := false) (tNeD (R := rTu (rP rInt rInt)) (a := ⟨tab n fun b => (f x b, 1)⟩) (b := ⟨tab n fun b => (f x b, 1)⟩) (tu (nm 12 (R := rT (rP rInt rInt)) (a := tab n fun b => (f x b, 1)) (h := hz)))
      (tu (toTup T.tuple (EV.to (S := rS (rP rInt rInt)) (lc [("_law_rate_here", 13)] (S := rP rInt rInt) (iL (ixt (nm 2 (R := rL (rL rInt)) (a := mat n f) (h := (rL (rL rInt)).up g18.base hgr)) (nm 5 (R := rInt) (a := (x : Int)) (h := rfl)) hx)) (fun b => (f x b, 1)) (by omega) fun b vb Hc H19 hb e1 e2 hvb => gn 13 ⟨rfl, rfl, dP (ac (nm 13 (R := rInt) (a := f x b) (h := hvb)) (ac (cI (n := 1)) a0))⟩) fun _ _ h => rL.s h)))) (by simp)) g18.on (fun h => nomatch h) fun _ Hk20 H20 g20 => s_nil ?_)
    have ex := g18.ex.trans g20.ex
    exact ⟨some z, _, [r0, own], rfl, G.step ex, dw16.ex ex, R.ex ex, .cons hrow (.cons h8 .nil), fun r hr => by
      rcases List.mem_cons.1 hr with e | e
      · rw [e]; exact hro
      · rw [List.mem_singleton.1 e]; exact hoR, by show 2 ≤ 2; decide⟩
  clear G R dw14 hP0
  obtain ⟨o12, xs, rs, rfl, G, dw15, R, hP, hrs, hlr⟩ := hJ
  -- had
  refine s_cons (s_ifJ (fun σ H' => ∃ (xs : List V) (rs : List (Nat → Int)), σ = [some v, some (.ref d), some vg, some (.int (n : Int)), some vc, some (.int (x : Int)), some vo, o7, some v8, some v9, some vr, some (.ref pr), o12, none, none, none, none, none] ∧ Go (· = d) H H2 B6 H' ∧ Dw H' d ∧ Mu H2 B6 H' pr (.lst xs) ∧ P2 ((rL rInt).r B6) xs (rs.map (tab n)) ∧ (∀ r ∈ rs, RowOk n r) ∧ rs.length ≤ 3)
    (tle (maxE T.max (nm 9 (R := rL rInt) (a := tab n had) (h := h9)) nE) (pw (cI (n := 10)) (cI (n := 6)) ⟨by decide, by decide, by decide⟩)) G.on (fun ht H16 e16 => ?_) (fun ht H16 e16 => s_nil ⟨xs, rs, rfl, G.step e16, dw15.ex e16, R.ex e16, hP, hrs, by omega⟩) fun σ' H16 hJ => ?_)
  · have hhR := rowOf had1 (of_decide_eq_true ht)
    refine s_one (s_app (j := 11) (nmP (v := v9) (Φ := fun w _ => w = v9) 9 rfl) (G.step e16).on (R.ex e16).at_ (by rw [hP.len, List.length_map]; omega) fun w Hk17 H17 g17 hw h17 => ?_)
    subst hw
    have R := ((R.ex e16).ex g17.ex).wr (o' := .lst (xs ++ [w]))
    have G := ((G.step e16).step g17.ex).wr (p := pr) (o := .lst (xs ++ [w])) (.inr R.new) R.off
    have dw17 := stay (o := .lst (xs ++ [w])) ((dw15.ex e16).ex g17.ex)
    refine ⟨xs ++ [w], rs ++ [had], rfl, G, dw17, R, ?_, fun r hr => ?_, by rw [List.length_append, List.length_singleton]; omega⟩
    · rw [List.map_append]; exact hP.snoc h9
    · rcases List.mem_append.1 hr with e | e
      · exact hrs r e
      · rw [List.mem_singleton.1 e]; exact hhR
  clear G R hP hrs hlr dw15
  obtain ⟨xs, rs, rfl, G, dw16, R, hP, hrs, hlr⟩ := hJ
  -- tops
  refine s_cons (s_setLcD 14 [("_law_rate_here", 13)] (iL (ixt (nm 2 (R := rL (rL rInt)) (a := mat n f) (h := hgr)) (nm 5 (R := rInt) (a := (x : Int)) (h := rfl)) hx)) (by omega) hd (fun b i => f x b ≤ i ∧ i ≤ f x b + 3 ∧ (f x b = 0 → i = 0)) (fun b vb Hc H17 hb e1 e2 hvb => gn 13 ⟨rfl, rfl, ?_⟩) G.on dw16 fun pt lt H17 hpt g17 dw17 hat hlen hall => ?_)
  · have b1 := hgo.nn x b hx hb
    have b2 := hgo.le x b hx hb
    refine ED.imp (ed_add (edP (nm 13 (R := rInt) (a := f x b) (h := hvb))) (ed_mul (take 1 FT (cI (n := 4))) (edP (min2 T.min (cI (n := 1)) (nm 13 (R := rInt) (a := f x b) (h := hvb)))) fun a c ha hc => ?_)) fun i hh => ?_
    · have hc : c = if f x b < 1 then f x b else 1 := hc
      have ha : 0 ≤ a ∧ (a < 4 ∨ a = 0) := ha
      exact ⟨bd60 ha.1 (Int.le_trans (show a ≤ 4 by omega) (by decide +kernel)), bd60 (by rw [hc]; split <;> omega) (Int.le_trans (show c ≤ 1 by rw [hc]; split <;> omega) (by decide +kernel))⟩
    · obtain ⟨a, c, ha, ⟨a', c', ha', hc', he⟩, hi⟩ := hh
      have ha : a = f x b := ha
      have hc' : c' = if f x b < 1 then f x b else 1 := hc'
      have ha' : 0 ≤ a' ∧ (a' < 4 ∨ a' = 0) := ha'
      have : c' = 0 ∨ c' = 1 := by rw [hc']; split <;> omega
      subst ha he hi
      rcases this with e | e
      · rw [e, Int.mul_zero]; exact ⟨by omega, by omega, fun z => by omega⟩
      · rw [e, Int.mul_one]
        refine ⟨by omega, by omega, fun z => ?_⟩
        rw [e, z] at hc'; exact absurd hc' (by decide)
  have hnew : H2 pt = none := G.new_of hpt
  have hoff : B6 pt = none := G.on.none hpt
  have hnrt : pt ≠ pr := fun z => by rw [z, R.at_] at hpt; cases hpt
  have G := G.trans g17
  have R := R.go g17 fun z => hdr z.symm
  have Tm : Mu H2 B6 H17 pt (.lst (lt.map .int)) := ⟨hnew, hoff, hat⟩
  have hdt : d ≠ pt := fun z => by obtain ⟨_, _, w⟩ := dw16; rw [z, hpt] at w; cases w
  obtain ⟨t0, ht0, hT0, hT1⟩ : ∃ t0 : Nat → Int, lt = tab n t0 ∧ TopOk n x f t0 ∧ ∀ b, b < n → t0 b ≤ 1000006 := by
    have e1 := tab_self lt
    have e2 : lt.length = n := hlen
    rw [e2] at e1
    have hb : ∀ b, b < n → f x b ≤ lt.getD b 0 ∧ lt.getD b 0 ≤ f x b + 3 ∧ (f x b = 0 → lt.getD b 0 = 0) := fun b hb => by
      have h1 : lt.getD b 0 = lt[b]'(by omega) := by simp [show b < lt.length by omega]
      rw [h1]; exact hall b (by omega)
    exact ⟨fun b => lt.getD b 0, e1, ⟨fun b h => (hb b h).1, fun b h => by have := (hb b h).2.1; have := hgo.le x b hx h; show lt.getD b 0 ≤ _; omega, (hb x hx).2.2 dgx⟩, fun b h => by have := (hb b h).2.1; have := hgo.le x b hx h; show lt.getD b 0 ≤ _; omega⟩
  subst ht0
  clear hall hlen hat hpt g17 dw16
  show wSs _ _ _ [some v, some (.ref d), some vg, some (.int (n : Int)), some vc, some (.int (x : Int)), some vo, o7, some v8, some v9, some vr, some (.ref pr), o12, none, some (.ref pt), none, none, none] H17
  -- one more
  refine s_cons (s_ifDJ (fun σ H' => ∃ (o15 : Option V) (t : Nat → Int), σ = [some v, some (.ref d), some vg, some (.int (n : Int)), some vc, some (.int (x : Int)), some vo, o7, some v8, some v9, some vr, some (.ref pr), o12, none, some (.ref pt), o15, none, none] ∧ Go (· = d) H H2 B6 H' ∧ Dw H' d ∧ Mu H2 B6 H' pr (.lst xs) ∧ Mu H2 B6 H' pt (.lst ((tab n t).map .int)) ∧ TopOk n x f t)
    (ed_eq (take 1 FT (cI (n := 4))) (edP (cI (n := 3)))) G.on hd dw17 (fun H18 g18 dw18 _ => ?_) (fun H18 g18 dw18 _ => s_nil ⟨none, t0, rfl, G.trans g18, dw18, R.go g18 fun z => hdr z.symm, Tm.go g18 fun z => hdt z.symm, hT0⟩) fun σ' H18 hJ => ?_)
  · have G := G.trans g18
    have R := R.go g18 fun z => hdr z.symm
    have Tm := Tm.go g18 fun z => hdt z.symm
    refine s_cons (s_setw 15 (wcall FP (by decide) ⟨_, fun _ => pa_cons (pe_var (i := 1) rfl (.inr (.inl rfl)) (by decide) (by decide)) (pa_cons (pe_var (i := 3) rfl (.inl rfl) (by decide) (by decide)) pa_nil rfl) rfl, _, rfl, _, rfl, n, B6, d, [.int (n : Int)], rfl, G.on, hd, dw18, ⟨_, [], rfl, rfl, rfl⟩, ⟨hn2, by omega⟩, fun pp a b H19 hpp g19 dw19 hat ha hb hab => ?_⟩))
    have G := G.trans g19
    have R := R.go g19 fun z => hdr z.symm
    have Tm := Tm.go g19 fun z => hdt z.symm
    have hpr2 : (rP rInt rInt).r H19 (.ref pp) ((a : Int), (b : Int)) := ⟨pp, _, _, rfl, hat, rfl, rfl⟩
    show wSs _ _ _ [some v, some (.ref d), some vg, some (.int (n : Int)), some vc, some (.int (x : Int)), some vo, o7, some v8, some v9, some vr, some (.ref pr), o12, none, some (.ref pt), some (.ref pp), none, none] H19
    refine s_one (s_if (teq (pr0 (nm 15 (R := rP rInt rInt) (a := ((a : Int), (b : Int))) (h := hpr2))) (nm 5 (R := rInt) (a := (x : Int)) (h := rfl))) (Ex.refl H19) (fun ht Hk H20 g20 => ?_) fun ht Hk H20 g20 => s_nil ⟨_, t0, rfl, G.step g20.ex, dw19.ex g20.ex, R.ex g20.ex, Tm.ex g20.ex, hT0⟩)
    have hax : a = x := by have := of_decide_eq_true ht; omega
    have G := G.step g20.ex
    have R := R.ex g20.ex
    have Tm := Tm.ex g20.ex
    have dw20 := dw19.ex g20.ex
    have hpr2 := (rP rInt rInt).up g20.ex hpr2
    have htr : (rL rInt).r H20 (.ref pt) (tab n t0) := rInt.mkL Tm.at_
    refine s_one (s_asg (add (ixt (nm 14 (R := rL rInt) (a := tab n t0) (h := htr)) (pr1 (nm 15 (R := rP rInt rInt) (a := ((a : Int), (b : Int))) (h := hpr2))) hb) (cI (n := 2))) (Ex.refl H20) fun w Hk H21 g21 hw => ?_)
    obtain rfl : w = .int (t0 b + 2) := hw
    have G := G.step g21.ex
    have R := R.ex g21.ex
    have Tm := Tm.ex g21.ex
    have dw21 := dw20.ex g21.ex
    have hpr2 := (rP rInt rInt).up g21.ex hpr2
    refine gL (j := 14) b (pr1 (nm 15 (R := rP rInt rInt) (a := ((a : Int), (b : Int))) (h := hpr2))) (Ex.refl H21) rfl (by rw [List.length_map, tab_len]; exact hb) Tm.at_ fun Hk H22 g22 h22 => ?_
    have G := (G.step g22.ex).mu (Tm.ex g22.ex) (o' := .lst (((tab n t0).map .int).set b (.int (t0 b + 2))))
    have R := (R.ex g22.ex).wr' (o' := .lst (((tab n t0).map .int).set b (.int (t0 b + 2)))) hnrt.symm
    have Tm := (Tm.ex g22.ex).wr (o' := .lst (((tab n t0).map .int).set b (.int (t0 b + 2))))
    have dw22 : Dw (upd H22 pt (.lst (((tab n t0).map .int).set b (.int (t0 b + 2))))) d := by
      obtain ⟨l, z, w⟩ := dw21.ex g22.ex
      exact ⟨l, z, by rw [upd_ne hdt]; exact w⟩
    have es : ((tab n t0).map V.int).set b (.int (t0 b + 2)) = (tab n fun j => if j = b then t0 b + 2 else t0 j).map .int := by
      rw [← List.map_set, tab_set hb]
    rw [es] at G R Tm dw22 ⊢
    have bx : b ≠ x := fun z => hab (hax.trans z.symm)
    refine ⟨_, fun j => if j = b then t0 b + 2 else t0 j, rfl, G, dw22, R, Tm, fun j hj => ?_, fun j hj => ?_, ?_⟩
    · show f x j ≤ (if j = b then t0 b + 2 else t0 j)
      have := hT0.lo j hj
      split
      · rename_i z; subst z; omega
      · exact this
    · show (if j = b then t0 b + 2 else t0 j) ≤ _
      have := hT0.hi j hj
      split
      · have := hT1 b hb; omega
      · exact this
    · show (if x = b then t0 b + 2 else t0 x) = 0
      rw [if_neg fun z => bx z.symm]; exact hT0.own
  clear G R Tm hT0 hT1 dw17 hnew hoff
  obtain ⟨o15, tt, rfl, G, dw18, R, Tm, hT⟩ := hJ
  -- both go into the base
  have Tm2 : Mu H2 (upd B6 pr (.lst xs)) H18 pt (.lst ((tab n tt).map .int)) := ⟨Tm.new, by rw [upd_ne hnrt]; exact Tm.off, Tm.at_⟩
  have G := (G.fixm R).fixm Tm2
  have eb : Ex B6 (upd (upd B6 pr (.lst xs)) pt (.lst ((tab n tt).map .int))) := (Ex.new R.off).trans (Ex.new Tm2.off)
  have hd : upd (upd B6 pr (.lst xs)) pt (.lst ((tab n tt).map .int)) d = none := by rw [upd_ne hdt, upd_ne hdr]; exact hd
  have hrs2 : (rL (rL rInt)).r (upd (upd B6 pr (.lst xs)) pt (.lst ((tab n tt).map .int))) (.ref pr) (rs.map (tab n)) := ⟨pr, xs, rfl, by rw [upd_ne hnrt.symm, upd_same], hP.imp fun _ _ => (rL rInt).up eb⟩
  have htp : (rL rInt).r (upd (upd B6 pr (.lst xs)) pt (.lst ((tab n tt).map .int))) (.ref pt) (tab n tt) := rInt.mkL upd_same
  have hrow := (rL rInt).up eb hrow
  have hgr := (rL (rL rInt)).up eb hgr
  have hot := (rL (rL rInt)).up eb hot
  have hvc := (rCh CC).up eb hvc
  clear h8 h9
  generalize upd (upd B6 pr (.lst xs)) pt (.lst ((tab n tt).map .int)) = B7 at G hd hrs2 htp hrow hgr hot hvc
  clear Tm2 R Tm eb hP
  -- the rows
  have eRows : rs.map (tab n) ++ [tab n r0] = tab (rs.length + 1) fun i => tab n ((rs ++ [r0]).getD i r0) := by
    have h1 := tab_listD r0 (rs ++ [r0])
    have h2 : (rs ++ [r0]).map (tab n) = rs.map (tab n) ++ [tab n r0] := by rw [List.map_append]; rfl
    rw [← h2]
    conv => lhs; rw [h1]
    rw [tab_map, List.length_append, List.length_singleton]
  have okRows : ∀ i, i < rs.length + 1 → RowOk n ((rs ++ [r0]).getD i r0) := fun i hi => by
    have hm : (rs ++ [r0]).getD i r0 ∈ rs ++ [r0] := by
      have hl : i < (rs ++ [r0]).length := by rw [List.length_append, List.length_singleton]; exact hi
      have h2 : (rs ++ [r0]).getD i r0 = (rs ++ [r0])[i] := by simp only [List.getD_eq_getElem?_getD, List.getElem?_eq_getElem hl, Option.getD_some]
      rw [h2]; exact List.getElem_mem _
    rcases List.mem_append.1 hm with e | e
    · exact hrs _ e
    · rw [List.mem_singleton.1 e]; exact hro
  obtain ⟨k0, rr, eRows, okRows, hk0⟩ : ∃ (k0 : Nat) (rr : Nat → Nat → Int), rs.map (tab n) ++ [tab n r0] = (tab k0 fun i => tab n (rr i)) ∧ (∀ i, i < k0 → RowOk n (rr i)) ∧ k0 ≤ 10 := ⟨_, fun i => (rs ++ [r0]).getD i r0, eRows, okRows, by omega⟩
  have le12 : ∀ a b, a < n → b < n → f a b ≤ 10 ^ 12 := fun a b ha hb => Int.le_trans (hgo.le a b ha hb) (by decide +kernel)
  have tbO2 := gTab hgo2 hn2 hn5
  have bdO2 := gBd hgo2
  refine s_cons (s_forB (iL (EV.is (a' := tab k0 fun i => tab n (rr i)) (cat (nm 11 (R := rL (rL rInt)) (a := rs.map (tab n)) (h := hrs2)) (dLs (R := rL rInt) (l := [tab n r0]) (esc (nm 10 (R := rL rInt) (a := tab n r0) (h := hrow)) es0) (by show 1 ≤ 1000; decide)) (by rw [List.length_map, List.length_singleton]; omega)) eRows)) G.on
    (fun i σ Hk H' => ∃ o16 o17 : Option V, σ = [some v, some (.ref d), some vg, some (.int (n : Int)), some vc, some (.int (x : Int)), some vo, o7, some v8, some v9, some vr, some (.ref pr), o12, none, some (.ref pt), o15, o16, o17] ∧ Go (· = d) H H2 Hk H' ∧ Dw H' d ∧ Hk d = none)
    ⟨none, none, rfl, G, dw18, hd⟩ (fun i σ' Hk Hm H1 H2 ⟨o16, o17, hσ, G, dwA, hdA⟩ gA => ⟨o16, o17, hσ, G.trans gA.more, dwA.ex gA.ex, gA.fr d dwA.live hdA⟩) (fun i σ' Hk H' ⟨_, _, _, G, _⟩ => G.on) (fun i σ' Hk H' w hi ebk hI hw => gn 16 ?_) (fun σ' Hk H' ebk hI => ?_))
  · obtain ⟨o16, o17, rfl, G, dwA, hdA⟩ := hI
    obtain ⟨H0, e0, hw⟩ := hw
    have hw : (rL rInt).r Hk w (tab n (rr i)) := (rL rInt).up e0 hw
    have hrr := okRows i hi
    have hgr := (rL (rL rInt)).up ebk hgr
    have hot := (rL (rL rInt)).up ebk hot
    have hvc := (rCh CC).up ebk hvc
    have htp := (rL rInt).up ebk htp
    show wSs _ _ _ [some v, some (.ref d), some vg, some (.int (n : Int)), some vc, some (.int (x : Int)), some vo, o7, some v8, some v9, some vr, some (.ref pr), o12, none, some (.ref pt), o15, some w, o17] H'
    have pre := ratesPre_of hx hrr tbO le12 hj
    -- given
    refine s_cons (s_set 17 (toList T.list (nm 16 (R := rL rInt) (a := tab n (rr i)) (h := hw))) G.on fun vgv Hk1 H1 g1 hgv => ?_)
    have hgv : (rL rInt).r Hk1 vgv (tab n (rr i)) := hgv
    have hgr := (rL (rL rInt)).up g1.base hgr
    have hot := (rL (rL rInt)).up g1.base hot
    have hvc := (rCh CC).up g1.base hvc
    have htp := (rL rInt).up g1.base htp
    have hw := (rL rInt).up g1.base hw
    have G := G.trans g1.more
    have hdA := g1.fr d dwA.live hdA
    have dwA := dwA.ex g1.ex
    show wSs _ _ _ [some v, some (.ref d), some vg, some (.int (n : Int)), some vc, some (.int (x : Int)), some vo, o7, some v8, some v9, some vr, some (.ref pr), o12, none, some (.ref pt), o15, some w, some vgv] H1
    refine s_cons (s_if (ET.is (t' := false) (tW (wor (tnot (tv (EV.to (S := rBl) (b := true) (call FRr (n, f, x, rr i) (ac (nm 2 (R := rL (rL rInt)) (a := mat n f) (h := hgr)) (ac (nm 5 (R := rInt) (a := (x : Int)) (h := rfl)) (ac (nm 16 (R := rL rInt) (a := tab n (rr i)) (h := hw)) (ac (R := rTold n) (a := (due n f x (rr i), rr i x)) (call FRa (true, n, f, x, rr i) (ac (nm 4 (R := rCh CC) (a := (n, f)) (h := hvc)) (ac (nm 5 (R := rInt) (a := (x : Int)) (h := rfl)) (ac (nm 17 (R := rL rInt) (a := tab n (rr i)) (h := hgv)) a0))) rfl ⟨hx, hrr, bdO⟩) a0)))) rfl pre) fun _ _ h => h)))
      fun _ => wor1 (tNeD (R := rL rInt) (nm 17 (R := rL rInt) (a := tab n (rr i)) (h := hgv)) (nm 16 (R := rL rInt) (a := tab n (rr i)) (h := hw))))) (by simp)) G.on (fun h => nomatch h) fun _ Hk2 H2' g2 => s_nil ?_)
    have hgr := (rL (rL rInt)).up g2.base hgr
    have hot := (rL (rL rInt)).up g2.base hot
    have htp := (rL rInt).up g2.base htp
    have hw := (rL rInt).up g2.base hw
    have G := G.trans g2.more
    have hdA := g2.fr d dwA.live hdA
    have dwA := dwA.ex g2.ex
    refine s_cons (s_if (ET.is (t' := false) (tnot (tv (EV.to (S := rBl) (b := true) (call FRr (n, f, x, rr i) (ac (nm 2 (R := rL (rL rInt)) (a := mat n f) (h := hgr)) (ac (nm 5 (R := rInt) (a := (x : Int)) (h := rfl)) (ac (nm 16 (R := rL rInt) (a := tab n (rr i)) (h := hw)) (ac (R := rTold n) (a := (due n f x (rr i), rr i x)) (EV.to (S := rTold n) (b := (due n f x (rr i), rr i x)) (call FRa (false, n, f', x, rr i) (ac (R := rCh CC) (a := (n, f')) (EP.imp (make FC (true, n, f') (ac (EM.ev (callM FCp (n, f') (ac (nm 6 (R := rL (rL rInt)) (a := mat n f') (h := hot)) a0) rfl (by show n ≤ 1000; omega))) a0) rfl ⟨tbO2, hj2⟩ tabPost_up) mkCh) (ac (nm 5 (R := rInt) (a := (x : Int)) (h := rfl)) (ac (R := rW false) (toTup T.tuple (EV.to (S := rS rInt) (nm 16 (R := rL rInt) (a := tab n (rr i)) (h := hw)) fun _ _ h => rL.s h)) a0))) rfl ⟨hx, hrr, bdO2⟩) fun _ _ h => told_congr (fun b hb => due_congr O.same hb) h) a0)))) rfl pre) fun _ _ h => h))) rfl) G.on (fun h => nomatch h) fun _ Hk3 H3' g3 => s_nil ?_)
    have hgr := (rL (rL rInt)).up g3.base hgr
    have htp := (rL rInt).up g3.base htp
    have hw := (rL rInt).up g3.base hw
    have G := G.trans g3.more
    have hdA := g3.fr d dwA.live hdA
    have dwA := dwA.ex g3.ex
    refine s_cons (s_if (ET.is (t' := false) (tnot (tv (EV.to (S := rBl) (b := true) (call FRe (n, f, x, rr i, f x, tt) (ac (nm 2 (R := rL (rL rInt)) (a := mat n f) (h := hgr)) (ac (nm 5 (R := rInt) (a := (x : Int)) (h := rfl)) (ac (nm 16 (R := rL rInt) (a := tab n (rr i)) (h := hw)) (ac (ixt (nm 2 (R := rL (rL rInt)) (a := mat n f) (h := hgr)) (nm 5 (R := rInt) (a := (x : Int)) (h := rfl)) hx) (ac (nm 14 (R := rL rInt) (a := tab n tt) (h := htp)) a0))))) rfl (hT.reach hgo hj hn2 hn5 hx hrr)) fun _ _ h => h))) rfl) G.on (fun h => nomatch h) fun _ Hk4 H4' g4 => s_nil ?_)
    have hgr := (rL (rL rInt)).up g4.base hgr
    have hw := (rL rInt).up g4.base hw
    have G := G.trans g4.more
    have hdA := g4.fr d dwA.live hdA
    have dwA := dwA.ex g4.ex
    refine s_one (s_if (ET.is (t' := false) (tnot (tv (EV.to (S := rBl) (b := true) (call FRe (n, f, x, rr i, (fun b => if f x b < 1 then f x b else 1), fun b => 12 * f x b) (ac (nm 2 (R := rL (rL rInt)) (a := mat n f) (h := hgr)) (ac (nm 5 (R := rInt) (a := (x : Int)) (h := rfl)) (ac (nm 16 (R := rL rInt) (a := tab n (rr i)) (h := hw))
      (ac (lc [("_law_rate_here", 13)] (S := rInt) (iL (ixt (nm 2 (R := rL (rL rInt)) (a := mat n f) (h := hgr)) (nm 5 (R := rInt) (a := (x : Int)) (h := rfl)) hx)) (fun b => if f x b < 1 then f x b else 1) (by omega) fun b vb Hc H19 hb e1 e2 hvb => gn 13 ⟨rfl, rfl, min2 T.min (cI (n := 1)) (nm 13 (R := rInt) (a := f x b) (h := hvb))⟩)
      (ac (lc [("_law_rate_here", 13)] (S := rInt) (iL (ixt (nm 2 (R := rL (rL rInt)) (a := mat n f) (h := hgr)) (nm 5 (R := rInt) (a := (x : Int)) (h := rfl)) hx)) (fun b => 12 * f x b) (by omega) fun b vb Hc H19 hb e1 e2 hvb => gn 13 ⟨rfl, rfl, mulB (cI (n := 12)) (nm 13 (R := rInt) (a := f x b) (h := hvb)) (bd60 (by decide) (by decide +kernel)) (bd60 (hgo.nn x b hx hb) (Int.le_trans (hgo.le x b hx hb) (by decide +kernel)))⟩) a0))))) rfl (wideReach hgo hj hn2 hn5 hx hrr)) fun _ _ h => h))) rfl) G.on (fun h => nomatch h) fun _ Hk5 H5' g5 => s_nil ?_)
    exact ⟨Hk5, (((g1.base.trans g2.base).trans g3.base).trans g4.base).trans g5.base, _, _, rfl, G.trans g5.more, dwA.ex g5.ex, g5.fr d dwA.live hdA⟩
  · obtain ⟨o16, o17, rfl, G, dwA, hdA⟩ := hI
    exact s_one (s_retw (wcall FRf (by decide) ⟨_, fun _ => pa_cons (pe_var (i := 1) rfl (.inr (.inl rfl)) (by decide) (by decide)) (pa_cons (pe_var (i := 4) rfl (.inl rfl) (by decide) (by decide)) (pa_cons (pe_var (i := 5) rfl (.inl rfl) (by decide) (by decide)) (pa_cons (pe_var (i := 10) rfl (.inl rfl) (by decide) (by decide)) pa_nil rfl) rfl) rfl) rfl, _, rfl, _, rfl, _, rfl, _, rfl, Hk, d, n, f, x, r0, vc, vr, rfl, G.on, hdA, dwA, (rCh CC).up ebk hvc, (rL rInt).up ebk hrow, hro, bdO, hn2, hx, fun Hk2 H2' _ => q H2'⟩))
end K
/-! KZ: all of it, from what the written part tells. -/
namespace K
open PySem.Spec PySem PyProof.Rows L2 NdefX Z M
/-- an exception class as the written part tells of it -/
def ExF (g : W5) (x qual : Str) (st : Stmt) (C : Addr) : Prop := g.mg x = some (.ref C) ∧ XfC g.K C ∧ ∃ (f cda cc B : Addr) (fd : FuncData), ExD g.P g.K qual (defArgs st) (defBody st) (defScope st) f cda cc C B fd ∧ PySem.W.findIn g.K (.ref C) "__init__" = some (some (.ref f)) ∧ PySem.W.typeIn g.K (.ref f) = some (.type "function") ∧
  ∃ (kV doc pm : Value) (an : Option Addr) (ct : Value), fd = PySem.W.fnX "__init__" qual (defArgs st) (defBody st) (defScope st) [("__class__", cc)] .none kV doc pm an (.ref cda) ct
structure HeadF (g : W5) (CT CC CN CS CR : Addr) : Prop where
  d : ∀ (i : Nat) {p : Str × Stmt}, defsL[i]? = some p → DefOf g p.1 p.2
  ways : DefDf g "way_by_steps" pWayBySteps [.non]
  chk : ∃ e0, DefDf g "check_states" pCheckStates [.ref e0] ∧ Nil0 g e0
  T : TX g
  T2 : TX2 g
  mT : g.mg "Table" = some (.ref CT)
  mC : g.mg "Chain" = some (.ref CC)
  mN : g.mg "Notes" = some (.ref CN)
  ct : ClOk g CT tabF
  cc : ClOk g CC tabF
  cn : ClOk g CN ntF
  ic : IsC g CC
  tabI : ∃ f fd, Mk g.K CT f ∧ FunD g.K "__init__" "Table.__init__" (defArgs mTableInit) (defBody mTableInit) (defScope mTableInit) [] [] f fd
  chI : ∃ f f1 cda cc fd, Mk g.K CC f ∧ Mk g.K CT f1 ∧ SupD g.P g.K "__init__" "Chain.__init__" (defArgs mChainInit) (defBody mChainInit) (defScope mChainInit) f cda cc CC CC f1 fd ∧ ∃ (kV doc pm : Value) (an : Option Addr) (cdv ct : Value), fd = PySem.W.fnX "__init__" "Chain.__init__" (defArgs mChainInit) (defBody mChainInit) (defScope mChainInit) [("__class__", cc)] .none kV doc pm an cdv ct
  ntI : ∃ f fd, Mk g.K CN f ∧ FunD g.K "__init__" "Notes.__init__" (defArgs mNotesInit) (defBody mNotesInit) (defScope mNotesInit) [] [] f fd
  uns : ∃ f fd, Meth g.K CN "unseen" f ∧ FunD g.K "unseen" "Notes.unseen" (defArgs mNotesUnseen) (defBody mNotesUnseen) (defScope mNotesUnseen) [] [] f fd
  unsM : ∃ pa f fd, PropOf g.K CN "unseen_many" pa f ∧ FunD g.K "unseen_many" "Notes.unseen_many" (defArgs mNotesUnseenMany) (defBody mNotesUnseenMany) (defScope mNotesUnseenMany) [] [] f fd
  es : ExF g "BadState" "BadState.__init__" mBadStateInit CS
  er : ExF g "BadRow" "BadRow.__init__" mBadRowInit CR
  em : ExM g CS CR
abbrev exN : List Str := ["self", "place", "__class__"]
theorem exb_s {g : W5} {C : Addr} (T : TX g) (E : ExF g "BadState" "BadState.__init__" mBadStateInit C) : ∃ B, ExB g "BadState" C B := by
  obtain ⟨hm, hxf, f, cda, cc, B, fd, ED0, i1, i2, kV, doc, pm, an, ct, hfd⟩ := E
  refine ⟨B, hm, ED0.oe, ⟨f, fd, i1, i2, ?_, ?_⟩, hxf, ED0.free⟩
  · rw [hfd]; exact .all fun us hl => match us, hl with | [_, _], _ => rfl
  · refine exI_fn (k := 0) (N := exN) ED0 (nscope_by (by decide +kernel)) T.super rfl ⟨_, rfl, rfl⟩ fun A outer s H vs Q E hr ⟨y, z, hvs, hx, hq⟩ => ?_
    subst hvs
    refine ⟨_, _, pa_cons pe_str pa_nil, pss_one (ps_ostE (pe_var (i := 0) rfl (.inl rfl) (by decide) (by decide)) (pe_var (i := 1) rfl (.inl rfl) (by decide) (by decide))), ?_⟩
    exact ⟨by simp, rfl, z, rfl, .ref y, rfl, y, C, B, rfl, ED0.oe, ED0.free, hx, fun dx h1 h2 => hq dx h1 h2⟩
theorem exb_r {g : W5} {C : Addr} (T : TX g) (E : ExF g "BadRow" "BadRow.__init__" mBadRowInit C) : ∃ B, ExB g "BadRow" C B := by
  obtain ⟨hm, hxf, f, cda, cc, B, fd, ED0, i1, i2, kV, doc, pm, an, ct, hfd⟩ := E
  refine ⟨B, hm, ED0.oe, ⟨f, fd, i1, i2, ?_, ?_⟩, hxf, ED0.free⟩
  · rw [hfd]; exact .all fun us hl => match us, hl with | [_, _], _ => rfl
  · refine exI_fn (k := 0) (N := exN) ED0 (nscope_by (by decide +kernel)) T.super rfl ⟨_, rfl, rfl⟩ fun A outer s H vs Q E hr ⟨y, z, hvs, hx, hq⟩ => ?_
    subst hvs
    refine ⟨_, _, pa_cons pe_str pa_nil, pss_one (ps_ostE (pe_var (i := 0) rfl (.inl rfl) (by decide) (by decide)) (pe_var (i := 1) rfl (.inl rfl) (by decide) (by decide))), ?_⟩
    exact ⟨by simp, rfl, z, rfl, .ref y, rfl, y, C, B, rfl, ED0.oe, ED0.free, hx, fun dx h1 h2 => hq dx h1 h2⟩
theorem law_fn {g : W5} {CT CC CN CS CR : Addr} {f0 : Addr} {fd : FuncData} (H : HeadF g CT CC CN CS CR) (F : FunD g.K "law" "law" (defArgs sLaw) (defBody sLaw) (defScope sLaw) [] [] f0 fd) : FnOk g.P g.w g.K g.mg g.base CX0 9 f0 fd ["_law_script"] (spLawQ g) := by
  have T := H.T
  have T2 := H.T2
  have ct := H.ct
  have cc := H.cc
  have cn := H.cn
  have isInt := ok_isInt (H.d 0 rfl) T
  have frac := ok_fraction (H.d 1 rfl) T isInt
  have isState := ok_isState (H.d 2 rfl) T isInt
  have rows := ok_rows (H.d 3 rfl) T T2 isInt
  have arrows := ok_arrows (H.d 4 rfl) T
  have walked := ok_walked (H.d 5 rfl) T
  have closed := ok_closed (H.d 6 rfl) T walked
  obtain ⟨fT, fdT, mkT, FT0⟩ := H.tabI
  obtain ⟨okT, bT⟩ := ok_tabInit FT0 T ct rows arrows
  have okT2 := (ok_tabInit FT0 T cc rows arrows).1
  have tab : ClB g CX0 3 "Table" CT ["self", "rows"] (spTabInit CT) := ⟨H.mT, ⟨fT, fdT, mkT, bT, okT⟩, fun X _ _ => pass0⟩
  obtain ⟨fC, f1, cda, ccell, fdC, mkC, mkT2, S0, kV, doc, pm, an, cdv, ctv, hfd⟩ := H.chI
  have e1 : f1 = fT := by have := mkT2.init.symm.trans mkT.init; cases this; rfl
  subst e1
  have bC : Binds g.K fdC ["self", "rows"] [] := by
    rw [hfd]
    exact .all fun us hl => match us, hl with | [_, _], _ => rfl
  have chain : ClB g CX0 4 "Chain" CC ["self", "rows"] (spChInit CC) := ⟨H.mC, ⟨fC, fdC, mkC, bC, ok_chInit S0 bC okT2 bT T cc closed⟩, fun X _ _ => pass0⟩
  have tabIn := ok_tabIn (H.d 19 rfl) tab
  have crossed := ok_crossed (H.d 20 rfl) T
  have unlike := ok_unlike (H.d 21 rfl) T
  obtain ⟨fN, fdN, mkN, FN0⟩ := H.ntI
  obtain ⟨okN, bN⟩ := ok_ntInit FN0 T ct cc cn tabIn crossed unlike chain
  have notes : ClB g CX0 6 "Notes" CN ["self", "lows", "highs"] (spNtInit CN CC) := ⟨H.mN, ⟨fN, fdN, mkN, bN, okN⟩, fun X _ _ => pass0⟩
  obtain ⟨fU, fdU, mU, FU⟩ := H.uns
  obtain ⟨pa, fM, fdM, mM, FM⟩ := H.unsM
  have ntm : NtM g CN CC := ⟨⟨fU, fdU, mU, (ok_uns (CC := CC) FU cn).1, (ok_uns (CC := CC) FU cn).2⟩, ⟨pa, fM, fdM, mM, (ok_unsM (CC := CC) FM T cn).1, (ok_unsM (CC := CC) FM T cn).2⟩⟩
  obtain ⟨BS, ES⟩ := exb_s T H.es
  obtain ⟨BR, ER⟩ := exb_r T H.er
  obtain ⟨e0, DK, hK⟩ := H.chk
  obtain ⟨chkA, chkD⟩ := ok_check DK ES T isState hK
  have chkG := check_good chkA
  have shareR := ok_share (H.d 7 rfl) ER T isInt
  have shareG := share_good shareR
  have bounds := ok_bounds (CN := CN) (H.d 8 rfl) T cn cc
  have steps := ok_steps (H.d 9 rfl) T
  have traced := ok_traced (H.d 10 rfl) T
  obtain ⟨waysD, ways⟩ := ok_ways H.ways T steps traced
  have send := ok_send (H.d 11 rfl) T
  have excess := ok_excess (H.d 12 rfl) T
  have settledF := ok_settled (H.d 13 rfl) T cn bounds excess waysD send
  have scaled := ok_scaled (H.d 14 rfl) T chain
  have short := ok_short (H.d 15 rfl) T cn settledF shareG
  have reached := ok_reached (H.d 16 rfl) T short
  have world := ok_world (H.d 17 rfl) T cn settledF shareG scaled
  have curr := ok_curr (H.d 22 rfl) T settledF
  have most := ok_most (H.d 23 rfl) T ways send
  have span := ok_span (H.d 24 rfl) T cn chkG shareG curr bounds most frac
  have ringO := ok_ringO (H.d 25 rfl) T ways
  have told := ok_told (H.d 26 rfl) T cn ntm shareG curr bounds ringO
  have tells := ok_tells (H.d 27 rfl) T cn ntm told
  have rates := ok_rates (H.d 18 rfl) T cc chkD shareR frac
  have ratesG := rates_good rates
  have draws := ok_drawsQ (H.d 28 rfl) T
  have take_ := ok_take (H.d 29 rfl) T
  have empty_ := ok_empty (H.d 30 rfl) T
  have copy_ := ok_copy (H.d 31 rfl) T
  have rate_ := ok_rate (H.d 32 rfl) T take_
  have ring_ := ok_ring (H.d 33 rfl) T take_ rate_ empty_
  have hung_ := ok_hung (H.d 34 rfl) T take_ rate_ empty_
  have moved_ := ok_moved (H.d 35 rfl) T empty_
  have pair_ := ok_pair (H.d 36 rfl) T take_
  have numbers_ := ok_numbers (H.d 37 rfl) T take_
  have lint := ok_lint (H.d 38 rfl) T
  have ints_ := ok_ints (H.d 39 rfl) T lint
  have lfrac := ok_lfraction (H.d 40 rfl) T ints_
  have same_ := ok_same (H.d 41 rfl) T lfrac
  have low_ := ok_low (H.d 42 rfl) T
  have lotGrid := ok_lotGrid (H.d 43 rfl) T take_ hung_ ring_ moved_
  have lotGcd := ok_lotGcd (H.d 44 rfl) T
  have lowest_ := ok_lowest (H.d 45 rfl) T lotGcd
  have shares_ := ok_shares (H.d 46 rfl) T copy_ lowest_
  have square_ := ok_square (H.d 47 rfl) T ints_
  have has_ := ok_has (H.d 48 rfl) T cc H.ic H.mC lint square_
  have spoilt_ := ok_spoilt (H.d 49 rfl) T take_
  have bal_ := ok_bal (H.d 50 rfl) T
  have wanted_ := ok_wanted (H.d 51 rfl) T
  have right_ := ok_ratesRight (H.d 52 rfl) T cc chain wanted_ same_ low_ bal_
  have ask_ := askF (ok_ask (H.d 53 rfl) ES ER H.em rates)
  have refu_ := ok_refu (H.d 54 rfl) T take_ spoilt_ ask_
  have reach_ := ok_reach (H.d 55 rfl) T cn cc copy_ notes wanted_ reached world has_
  have rings_ := ok_rings (H.d 56 rfl) T take_ numbers_ empty_ notes span same_ low_ tells
  exact ok_law (CN := CN) (CXr := CN) F T cc draws take_ rings_ lotGrid chain copy_ shares_ numbers_ ratesG pair_ right_ reach_ refu_
end K
/-! HF: what the head saw, as facts. -/
namespace HS
open PySem.Spec PySem PyProof.Rows L2 K Z M
theorem b2 {a b : Bool} (h : (a && b) = true) : a = true ∧ b = true := Bool.and_eq_true_iff.mp h
section
variable {K : PySem.W.Frag} {mg : Str → Option Value} {h : Heap}
theorem code_ex {f : Addr} {q : Str} (c : codeB K f q = true) : ∃ oc od fd osl, K.lookup f = some ⟨oc, od, .func fd, osl⟩ ∧ PySem.W.codeIn K fd.code q = true := by
  unfold codeB at c
  split at c
  · rename_i oc od fd osl ho; exact ⟨oc, od, fd, osl, ho, c⟩
  · cases c
theorem ref_of {cd : Value} {q : Str} (c : PySem.W.codeIn K cd q = true) : ∃ a, cd = .ref a := by
  cases cd with
  | ref a => exact ⟨a, rfl⟩
  | _ => cases c
/-- a function as the head saw it -/
theorem fnC_ex {f : Addr} {nm qual q : Str} {cl : List Str} {st : Stmt} (e : fnC K f = valC nm qual cl st) (c : codeB K f q = true) : ∃ oc od osl kV doc pm an ct cs, K.lookup f = some ⟨oc, od, .func (PySem.W.fnX nm qual (defArgs st) (defBody st) (defScope st) cs .none kV doc pm an (.ref (cdA K f)) ct), osl⟩ ∧ cs.map (·.1) = cl ∧ PySem.W.codeIn K (.ref (cdA K f)) q = true ∧ ccA K f = (match cs with
    | (_, c) :: _ => c
    | _ => 0) := by
  obtain ⟨oc, od, fd₀, osl, ho₀, hc₀⟩ := code_ex c
  obtain ⟨a₀, ha₀⟩ := ref_of hc₀
  have ecd₀ : cdA K f = a₀ := by unfold cdA; rw [ho₀]; show (match fd₀.code with | .ref c => c | _ => 0) = a₀; rw [ha₀]
  have ecc₀ : ccA K f = (match fd₀.closure with | (_, c) :: _ => c | _ => 0) := by unfold ccA; rw [ho₀] <;> rfl
  unfold fnC at e
  rw [ho₀] at e
  obtain ⟨x1₀, x2₀, x3₀, x4₀, x5₀, x6₀, x7₀, x8₀, x9₀, x10₀, x11₀, x12₀, x13₀, x14₀, x15₀⟩ := fd₀
  have e2₀ : (some (x1₀, x2₀, x3₀, x4₀, x5₀, x6₀, x7₀.map (·.1), x8₀, x15₀) : FnC) = some (nm, qual, defArgs st, .stmts (defBody st), defScope st, mainGlobals, cl, .none, builtinsNs) := e
  simp only [Option.some.injEq, Prod.mk.injEq] at e2₀
  obtain ⟨q1₀, q2₀, q3₀, q4₀, q5₀, q6₀, q7₀, q8₀, q9₀⟩ := e2₀
  subst q1₀ q2₀ q3₀ q4₀ q5₀ q6₀ q8₀ q9₀
  have ha₀ : x13₀ = .ref a₀ := ha₀
  subst ha₀
  rw [ecd₀]
  exact ⟨oc, od, osl, x9₀, x10₀, x11₀, x12₀, x14₀, x7₀, ho₀, q7₀, hc₀, ecc₀⟩
theorem file_ex {c : Addr} (hf : fileB K c = true) : ∃ c' d vs sl file tf, K.lookup c = some ⟨c', d, .fields vs, sl⟩ ∧ vs[2]? = some (.str file tf) ∧ ((R.prog.main.file : Str) == file) = true := by
  unfold fileB at hf
  split at hf
  · rename_i c' d vs sl ho
    split at hf
    · rename_i file tf hv; exact ⟨c', d, vs, sl, file, tf, ho, hv, hf⟩
    · cases hf
  · cases hf
theorem cell_ex {c D : Addr} (hc : cellB K c D = true) : ∃ c' d sl, K.lookup c = some ⟨c', d, .cell (some (.ref D)), sl⟩ := by
  unfold cellB at hc
  split at hc
  · rename_i c' d x sl ho
    have e := of_decide_eq_true hc
    subst e
    exact ⟨c', d, sl, ho⟩
  · cases hc
theorem clos_ex {f D : Addr} {nm qual : Str} {st : Stmt} (e : fnC K f = valC nm qual ["__class__"] st) (c : closB K f D qual = true) : ∃ oc od osl kV doc pm an ct, K.lookup f = some ⟨oc, od, .func (PySem.W.fnX nm qual (defArgs st) (defBody st) (defScope st) [("__class__", ccA K f)] .none kV doc pm an (.ref (cdA K f)) ct), osl⟩ ∧ PySem.W.codeIn K (.ref (cdA K f)) qual = true ∧
    (∃ c' d vs sl file tf, K.lookup (cdA K f) = some ⟨c', d, .fields vs, sl⟩ ∧ vs[2]? = some (.str file tf) ∧ ((R.prog.main.file : Str) == file) = true) ∧ ∃ c' d sl, K.lookup (ccA K f) = some ⟨c', d, .cell (some (.ref D)), sl⟩ := by
  obtain ⟨c1, c2⟩ := b2 c
  obtain ⟨c3, c4⟩ := b2 c2
  obtain ⟨oc, od, osl, kV, doc, pm, an, ct, cs, ho, hcs, hcd, hcc⟩ := fnC_ex e c1
  have ecs : cs = [(("__class__" : Str), ccA K f)] := by
    cases cs with
    | nil => cases hcs
    | cons p r => cases r with
      | nil =>
        obtain ⟨p1, p2⟩ := p
        have h1 : p1 = "__class__" := by
          have := congrArg List.head? hcs
          exact Option.some.inj this
        rw [h1, hcc]
      | cons p2 r => simp at hcs
  rw [ecs] at ho
  exact ⟨oc, od, osl, kV, doc, pm, an, ct, ho, hcd, file_ex c3, cell_ex c4⟩
theorem nil_ex {e : Addr} (c : nilB K e = true) : ∃ o n, K.lookup e = some o ∧ o.cls = .type "tuple" ∧ o.data = .seq #[] n := by
  unfold nilB at c
  split at c
  · rename_i t d its n sl ho
    obtain ⟨c1, c2⟩ := b2 c
    have e1 := of_decide_eq_true c1
    have e2 : its = #[] := Array.isEmpty_iff.mp c2
    subst e1 e2
    exact ⟨_, n, ho, rfl, rfl⟩
  · cases c
theorem oex_ex {C B : Addr} (c : oexB K C B = true) (c2 : oexB2 K C = true) : OexE K C B := by
  obtain ⟨d1₀, d2₀⟩ := b2 c2
  obtain ⟨d3₀, d4₀⟩ := b2 d2₀
  obtain ⟨d5₀, d6₀⟩ := b2 d4₀
  refine ⟨?_, He.eqO_ok d1₀, of_decide_eq_true d3₀, of_decide_eq_true d5₀, d6₀⟩
  unfold oexB at c
  split at c
  · rename_i t₀ dd₀ cd₀ sl₀ ho₀
    obtain ⟨c1₀, c⟩ := b2 c
    obtain ⟨c2, c⟩ := b2 c
    obtain ⟨c3₀, c⟩ := b2 c
    obtain ⟨c4₀, c⟩ := b2 c
    have e1₀ := of_decide_eq_true c1₀
    have e2₀ := of_decide_eq_true c2
    split at c
    · rename_i k0₀ k1₀ k2₀ k3₀ n₀ k5₀ hs₀
      have e5₀ := of_decide_eq_true c
      obtain ⟨nm₀, bs₀, mro₀, ns₀, qn₀, hd₀, sn₀, sub₀, ab₀, col₀, del₀⟩ := cd₀
      dsimp only at e2₀ c3₀ c4₀
      have e4₀ : del₀ = false := by cases del₀ <;> first | rfl | cases c4₀
      subst e1₀ e2₀ c3₀ e4₀ e5₀
      obtain ⟨l₀⟩ := sl₀
      have hs₀ : l₀ = [k0₀, k1₀, k2₀, k3₀, some (.builtin "Exception.__new__"), k5₀] := hs₀
      subst hs₀
      exact ⟨nm₀, qn₀, ns₀, bs₀, sn₀, sub₀, ab₀, col₀, dd₀, k0₀, k1₀, k2₀, k3₀, k5₀, ho₀⟩
    · cases c
  · cases c
end
theorem defAt {K : PySem.W.Frag} (c : He.SaysD fa fn K) {d : He.DefD} (h : d ∈ fn) : ∃ fd, FunD K d.name d.qual d.params d.body d.scope (d.dvs K) (d.kws K) (He.fAd K d.at_) fd := by
  obtain ⟨i, hi⟩ := List.getElem?_of_mem h
  exact c.def_ i hi
theorem factAt {K : PySem.W.Frag} (c : He.SaysD fa fn K) {f : He.Fa} (h : f ∈ fa) : f.ok K = true := by
  obtain ⟨i, hi⟩ := List.getElem?_of_mem h
  exact c.fact i hi
theorem exF_of {P : Program} {w : World} {base : Heap} {h : Heap} {mg : Str → Option Value} {K : PySem.W.Frag} {x qual : Str} {st : Stmt} (X : K.In h) (hP : P = R.prog) (m : mg x = some (.ref (He.ga K x))) (e : fnC K (He.ma K (He.ga K x) "__init__") = valC "__init__" qual ["__class__"] st) (hx : ∀ b ∈ excB K x qual, b = true)
    (ht : (P.main.scope.names.lookup ("super" : Str)).isSome = false) : ExF ⟨P, w, K, mg, base⟩ x qual st (He.ga K x) := by
  have h0 := hx _ (List.mem_of_getElem? (i := 0) rfl)
  have h1 := hx _ (List.mem_of_getElem? (i := 1) rfl)
  have h2 := hx _ (List.mem_of_getElem? (i := 2) rfl)
  have h3 := hx _ (List.mem_of_getElem? (i := 3) rfl)
  have h4 := hx _ (List.mem_of_getElem? (i := 4) rfl)
  obtain ⟨oc, od, osl, kV, doc, pm, an, ctv, ho, hcd, hfile, hcell⟩ := clos_ex e h0
  obtain ⟨d1, h3⟩ := b2 h3
  obtain ⟨d2, h3⟩ := b2 h3
  obtain ⟨d3, h3⟩ := b2 h3
  obtain ⟨d4, h3⟩ := b2 h3
  obtain ⟨d5, h3⟩ := b2 h3
  obtain ⟨d6, d7⟩ := b2 h3
  subst hP
  exact ⟨m, L2.xfB_ok h4, _, _, _, _, _, ⟨oex_ex h1 h2, ⟨oc, od, osl, _, kV, doc, pm, an, ctv, ho, rfl⟩, hcd, hfile, hcell, of_decide_eq_true d1, of_decide_eq_true d2, He.eqO_ok d3, He.eqO_ok d4, ht, by decide +kernel, He.eqO_ok d5⟩, He.eqO_ok d6, of_decide_eq_true d7, kV, doc, pm, an, ctv, rfl⟩
theorem headF {P : Program} {w : World} {base : Heap} {h : Heap} {mg : Str → Option Value} {K : PySem.W.Frag} (X : K.In h) (G : h.Ns mainGlobals mg) (hP : P = R.prog) (c : obsK K = valH) :
    HeadF ⟨P, w, K, mg, base⟩ (He.ga K "Table") (He.ga K "Chain") (He.ga K "Notes") (He.ga K "BadState") (He.ga K "BadRow") := by
  have c1 : He.SaysD fa fn K := congrArg (fun z : AlH => z.1) c
  have c2 : cls4 K = val4 := congrArg (fun z : AlH => z.2.1) c
  have c3 : (exs K).all id = true := congrArg (fun z : AlH => z.2.2) c
  have ex : ∀ (i : Nat) {b : Bool}, (exs K)[i]? = some b → b = true := fun i b hb => List.all_eq_true.mp c3 b (List.mem_of_getElem? hb)
  have F0 : ∀ (i : Nat) {f : He.Fa}, fa0[i]? = some f → f.ok K = true := fun i f hf => factAt c1 (List.mem_append_left _ (List.mem_of_getElem? hf))
  have F1 : ∀ {f : He.Fa}, f ∈ fa1 → f.ok K = true := fun {f} hf => factAt c1 (List.mem_append_right _ (List.mem_append_left _ hf))
  have noT : ∀ f ∈ tabF, NoAttr K (He.ga K "Table") f := fun f hf => He.noat_ok (F1 (List.mem_append_left _ (List.mem_map.mpr ⟨f, hf, rfl⟩)))
  have noC : ∀ f ∈ tabF, NoAttr K (He.ga K "Chain") f := fun f hf => He.noat_ok (F1 (List.mem_append_right _ (List.mem_append_left _ (List.mem_map.mpr ⟨f, hf, rfl⟩))))
  have noN : ∀ f ∈ ntF, NoAttr K (He.ga K "Notes") f := fun f hf => He.noat_ok (F1 (List.mem_append_right _ (List.mem_append_right _ (List.mem_map.mpr ⟨f, hf, rfl⟩))))
  have fr : ∀ x ∈ frees, mg x = none := fun x hx => He.free_ok X G (factAt c1 (List.mem_append_right _ (List.mem_append_right _ (List.mem_append_left _ (List.mem_map.mpr ⟨x, hx, rfl⟩)))))
  have fr0 : ∀ (i : Nat) {x : Str}, frees[i]? = some x → mg x = none := fun i x hx => fr x (List.mem_of_getElem? hx)
  have gl : ∀ p ∈ defsL, mg p.1 = some (.ref (He.ga K p.1)) := fun p hp => He.glo_ok X G (factAt c1 (List.mem_append_right _ (List.mem_append_right _ (List.mem_append_right _ (List.mem_map.mpr ⟨p, hp, rfl⟩)))))
  have d0 : ∀ (i : Nat) {d : He.DefD}, ([dWays, dChk, dTab, dNot, dUns, dLaw] : List He.DefD)[i]? = some d → ∃ fd, FunD K d.name d.qual d.params d.body d.scope (d.dvs K) (d.kws K) (He.fAd K d.at_) fd := fun i d hd => defAt c1 (List.mem_append_left _ (List.mem_of_getElem? hd))
  have cl : ∀ (i : Nat) {v u : FnC}, (cls4 K)[i]? = some v → val4[i]? = some u → v = u := fun i v u h1 h2 => by
    rw [c2, h2] at h1; exact (Option.some.inj h1).symm
  have tp : (P.main.scope.names.lookup ("super" : Str)).isSome = false := by rw [hP]; kernel_rfl
  have mem2 : ∀ {b : Bool}, b ∈ excB K "BadState" "BadState.__init__" → b = true := fun {b} hb => List.all_eq_true.mp c3 b (List.mem_append_right _ (List.mem_append_left _ hb))
  have mem3 : ∀ {b : Bool}, b ∈ excB K "BadRow" "BadRow.__init__" → b = true := fun {b} hb => List.all_eq_true.mp c3 b (List.mem_append_right _ (List.mem_append_right _ hb))
  obtain ⟨fdW, FW⟩ := d0 0 rfl
  obtain ⟨fdK, FK⟩ := d0 1 rfl
  obtain ⟨fdT, FT⟩ := d0 2 rfl
  obtain ⟨fdN, FN⟩ := d0 3 rfl
  obtain ⟨fdU, FU⟩ := d0 4 rfl
  obtain ⟨i1, i2⟩ := b2 (ex 3 rfl)
  obtain ⟨i3, i4⟩ := b2 i2
  obtain ⟨i5, i6⟩ := b2 i4
  obtain ⟨p1, p2⟩ := b2 (ex 4 rfl)
  obtain ⟨p3, p4⟩ := b2 p2
  obtain ⟨p5, p6⟩ := b2 p4
  obtain ⟨k1, k2⟩ := b2 (ex 5 rfl)
  obtain ⟨oc, od, osl, kV, doc, pm, an, ctv, ho, hcd, hfile, hcell⟩ := clos_ex (cl 0 rfl rfl) (ex 6 rfl)
  obtain ⟨s1, s2⟩ := b2 (ex 7 rfl)
  obtain ⟨s3, s4⟩ := b2 s2
  obtain ⟨s5, s6⟩ := b2 s4
  obtain ⟨s7, s8⟩ := b2 s6
  obtain ⟨s9, s10⟩ := b2 s8
  have clsC : Cls K (He.ga K "Chain") := He.cls_ok (F0 11 rfl)
  refine {
    d := fun i p hp => ?_
    ways := ⟨_, fdW, FW, He.glo_ok X G (F0 0 rfl)⟩
    chk := ⟨nilA K, ⟨_, fdK, FK, He.glo_ok X G (F0 1 rfl)⟩, nil_ex (ex 2 rfl)⟩
    T := ⟨fr0 0 rfl, fr0 1 rfl, fr0 2 rfl, fr0 3 rfl, fr0 4 rfl, fr0 5 rfl, fr0 6 rfl, fr0 7 rfl, fr0 8 rfl, fr0 9 rfl, fr0 10 rfl, fr0 11 rfl, fr0 12 rfl, fr0 13 rfl, fr0 14 rfl, fr0 15 rfl, fr0 16 rfl, PySem.W.mg_of X G (He.eqO_ok (ex 0 rfl)), PySem.W.mg_of X G (He.eqO_ok (ex 1 rfl))⟩
    T2 := ⟨?_, ?_⟩
    mT := He.glo_ok X G (F0 2 rfl)
    mC := He.glo_ok X G (F0 3 rfl)
    mN := He.glo_ok X G (F0 4 rfl)
    ct := ⟨He.cls_ok (F0 10 rfl), noT⟩
    cc := ⟨clsC, noC⟩
    cn := ⟨He.cls_ok (F0 12 rfl), noN⟩
    ic := ⟨fun e => .base (.ins e clsC (He.eqO_ok i1) (He.eqO_ok i3) (of_decide_eq_true i5) (of_decide_eq_true i6))⟩
    tabI := ⟨_, fdT, He.mkr_ok (F0 13 rfl), FT⟩
    chI := ⟨He.ma K (He.ga K "Chain") "__init__", He.ma K (He.ga K "Table") "__init__", cdA K _, ccA K _, _, He.mkr_ok (F0 14 rfl), He.mkr_ok (F0 13 rfl), ⟨⟨oc, od, osl, _, kV, doc, pm, an, ctv, ho, rfl⟩, hcd, by rw [hP]; exact hfile, hcell, s1, of_decide_eq_true s3, He.eqO_ok s5, He.eqO_ok s7, of_decide_eq_true s9, s10, tp, by decide +kernel⟩, kV, doc, pm, an, _, ctv, rfl⟩
    ntI := ⟨_, fdN, He.mkr_ok (F0 15 rfl), FN⟩
    uns := ⟨_, fdU, He.meth_ok (F0 16 rfl), FU⟩
    unsM := ?_
    es := exF_of X hP (He.glo_ok X G (F0 5 rfl)) (cl 1 rfl rfl) (fun b hb => mem2 hb) tp
    er := exF_of X hP (He.glo_ok X G (F0 6 rfl)) (cl 2 rfl rfl) (fun b hb => mem3 hb) tp
    em := ⟨He.exm_ok (F0 17 rfl), He.exm_ok (F0 18 rfl), He.exm_ok (F0 19 rfl)⟩ }
  · obtain ⟨fd, FD⟩ := defAt c1 (d := dd p) (List.mem_append_right _ (List.mem_map.mpr ⟨p, List.mem_of_getElem? hp, rfl⟩))
    exact ⟨_, fd, FD, gl p (List.mem_of_getElem? hp)⟩
  · obtain ⟨t, ht⟩ := He.int_ok X G (F0 8 rfl)
    exact ⟨_, ht, ⟨t, rfl⟩⟩
  · obtain ⟨t, ht⟩ := He.int_ok X G (F0 9 rfl)
    exact ⟨_, ht, ⟨t, rfl⟩⟩
  · have hg : ∃ g rest, PySem.W.recIn K (He.ma K (He.ga K "Notes") "unseen_many") "property" = some (.ref g :: rest) ∧ getA K (He.ma K (He.ga K "Notes") "unseen_many") = g := by
      have p6 : recB K (He.ma K (He.ga K "Notes") "unseen_many") = true := p6
      unfold recB at p6
      split at p6
      · rename_i g rest hr
        exact ⟨g, rest, hr, by unfold getA; rw [hr]⟩
      · cases p6
    obtain ⟨g0, rest, hr, hga⟩ := hg
    have e3 := cl 3 rfl rfl
    have k2 : codeB K (getA K (He.ma K (He.ga K "Notes") "unseen_many")) "Notes.unseen_many" = true := k2
    have k1 : PySem.W.keepIn K (.ref (getA K (He.ma K (He.ga K "Notes") "unseen_many"))) = true := k1
    rw [hga] at e3 k1 k2
    obtain ⟨oc, od, osl, kV, doc, pm, an, ctv, cs, ho, hcs, hcd, _⟩ := fnC_ex e3 k2
    have ecs : cs = [] := List.map_eq_nil_iff.mp hcs
    subst ecs
    exact ⟨_, g0, _, ⟨He.eqO_ok p1, He.eqO_ok p3, of_decide_eq_true p5, rest, hr⟩, ⟨⟨oc, od, .none, kV, doc, pm, an, _, ctv, osl, rfl, ho, hcd, .inl ⟨rfl, rfl⟩, .inl rfl⟩, k1⟩⟩
end HS
open PySem.Calls PySem PySem.W PyProof.Rows
theorem PySem.Challenge.cw_lastingshares_k80_one_state_unseen_holds : PySem.Challenge.rw_lastingshares_k80_one_state_unseen.Holds := by
  w_on; o_law
  refine HandSHeadRun.head_imp (r := HS.R) (q := view HS.R.prog [0, 94]) (H := HS.hookH) (ob := HS.ob) (M := 20000) (loose := HS.names) (d := HandSHeadRun.topDef HS.R.prog 94) (kwd := []) HS.ob_eq HS.run
    (by kernel_rfl) (by kernel_rfl) (by kernel_rfl) (by rfl) (by first | assumption | decide +kernel) (by decide +kernel) ⟨rfl, rfl, rfl, rfl, rfl, by decide +kernel⟩ ?hw ?hc
  case hw => w_witness2
  case hc =>
    refine L2.walk_ofE (l := PySem.Challenge.rw_lastingshares_k80_one_state_unseen) (n := 63) (k := 9) (x := "_law_script") (CX := L2.CX0) rfl (by decide) (by kernel_rfl) ⟨rfl, by decide, by decide⟩ ?F (fun _ _ _ _ z => z)
    intro w mg f0 h Y G hmg0
    obtain ⟨K0, KX, c⟩ := Y
    have hmg : mg ("law" : PySem.Str) = some (.ref f0) := by
      have e : (HandSHeadRun.topDef HS.R.prog 94).name = ("law" : PySem.Str) := by kernel_rfl
      rw [← e]
      exact hmg0
    have c1 : He.SaysD HS.fa HS.fn K0 := congrArg (fun z : HS.AlH => z.1) c
    obtain ⟨fd, F⟩ := HS.defAt c1 (d := HS.dLaw) (List.mem_append_left _ (List.mem_of_getElem? (i := 5) rfl))
    have e := hmg.symm.trans (He.glo_ok KX G (HS.factAt c1 (f := .glo "law") (List.mem_append_left _ (List.mem_of_getElem? (i := 7) rfl))))
    cases e
    have b := L2.FunD.bindsA (ps := ["_law_script"]) F fun _ _ _ _ _ _ us hl => match us, hl with | [_], _ => rfl
    refine ⟨K0, fd, K.spLawQ ⟨(PySem.Challenge.rw_lastingshares_k80_one_state_unseen).prog, w, K0, mg, h⟩, KX, fun s v => b s [v] rfl, fun H a ns hl _ hS => ⟨.ref a, ns, rfl, ⟨a, rfl, hS⟩, fun _ => rfl⟩, fun base _ _ => ?_⟩
    exact K.law_fn (g := ⟨(PySem.Challenge.rw_lastingshares_k80_one_state_unseen).prog, w, K0, mg, base⟩) (HS.headF KX G rfl c) F
