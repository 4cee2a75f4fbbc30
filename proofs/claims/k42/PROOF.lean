import PyProof.Rows.All
import Wide.All
import OpenK.AllK
import Wide.FinOn
import HandS.ForMost
import HandS.Codes
import HandS.IsInst
import HandS.Deep
import HandS.NoneIn
import HandS.Style
import HandS.Conv
import HandS.DictTup
import HandS.DictComp
import HandS.StrMore
import HandS.SetKeys
import HandS.TupSets
import HandS.TupLen
import HandS.TupAny
import HandS.Flow
import KE.SortData
import KE.KUnpackStar
import PySem.Challenge.RW_watchednodes_k42_whole_laid_anew_as_kept
import HandS.Walk
import PyProof.DictMoreH
import PyProof.Rows.StrPadFill
import PyProof.Rows.StrPadWhole
import HandS.Defaults
import KE.GoesMore
set_option Elab.async false
set_option maxRecDepth 100000
set_option maxHeartbeats 4000000
/-! K42A: the text by places, each def's slots, what the walks ask of the module. Printed by gen_a.py. -/
namespace K42
open PySem L2 C8
def top (i : Nat) : Stmt := PySem.Challenge.pw_watchednodes_k42_whole_laid_anew_as_kept.main.body.getD i (.Pass ⟨0, 0, 0, 0⟩)
abbrev sIsWhole : Stmt := top 9
abbrev sIsWord : Stmt := top 10
abbrev sIsPart : Stmt := top 11
abbrev sPartsOf : Stmt := top 12
abbrev sIsPath : Stmt := top 13
abbrev sPathOf : Stmt := top 14
abbrev sParentOf : Stmt := top 15
abbrev sLastPart : Stmt := top 16
abbrev sIsMet : Stmt := top 19
abbrev sWInit : Stmt := inClass (top 20) 0
abbrev sWLay : Stmt := inClass (top 20) 1
abbrev sWMeet : Stmt := inClass (top 20) 2
abbrev sWLetGo : Stmt := inClass (top 20) 3
abbrev sWAnew : Stmt := inClass (top 20) 4
abbrev sWKept : Stmt := inClass (top 20) 5
abbrev sIsText : Stmt := top 29
abbrev sIsCount : Stmt := top 30
abbrev sIsMake : Stmt := top 31
abbrev sIsPlain : Stmt := top 32
abbrev sFirstNodes : Stmt := top 33
abbrev sKidsOf : Stmt := top 34
abbrev sRefused : Stmt := top 35
abbrev sNumberedPath : Stmt := top 36
abbrev sMake : Stmt := top 37
abbrev sPut : Stmt := top 38
abbrev sDropped : Stmt := top 39
abbrev sDrop : Stmt := top 40
abbrev sDonePlain : Stmt := top 41
abbrev sIsDeed : Stmt := top 47
abbrev sIsEntry : Stmt := top 48
abbrev sFirstState : Stmt := top 49
abbrev sWithoutOwner : Stmt := top 50
abbrev sDoneAll : Stmt := top 51
abbrev sDoneDeed : Stmt := top 52
abbrev sEnded : Stmt := top 53
abbrev sDone : Stmt := top 54
abbrev sToldBy : Stmt := top 56
abbrev sLawPool : Stmt := top 58
abbrev sLawTake : Stmt := top 59
abbrev sLawOne : Stmt := top 60
abbrev sLawText : Stmt := top 61
abbrev sLawPath : Stmt := top 62
abbrev sLawCount : Stmt := top 63
abbrev sLawPlain : Stmt := top 64
abbrev sLawDeed : Stmt := top 65
abbrev sLawRead : Stmt := top 66
abbrev sLawRow : Stmt := top 67
abbrev sLawLaid : Stmt := top 68
abbrev sLaw : Stmt := top 69
abbrev nIsWhole : List PySem.Str := ["thing"]
abbrev pIsWhole : List PySem.Str := ["thing"]
theorem scIsWhole : FnScope nIsWhole pIsWhole (fnScope sIsWhole) := fnScope_by (by decide +kernel)
abbrev nIsWord : List PySem.Str := ["thing", "sign"]
abbrev pIsWord : List PySem.Str := ["thing"]
theorem scIsWord : FnScope nIsWord pIsWord (fnScope sIsWord) := fnScope_by (by decide +kernel)
abbrev nIsPart : List PySem.Str := ["thing", "word", "sign", "figures", "one"]
abbrev pIsPart : List PySem.Str := ["thing"]
theorem scIsPart : FnScope nIsPart pIsPart (fnScope sIsPart) := fnScope_by (by decide +kernel)
abbrev nPartsOf : List PySem.Str := ["path"]
abbrev pPartsOf : List PySem.Str := ["path"]
theorem scPartsOf : FnScope nPartsOf pPartsOf (fnScope sPartsOf) := fnScope_by (by decide +kernel)
abbrev nIsPath : List PySem.Str := ["thing", "one"]
abbrev pIsPath : List PySem.Str := ["thing"]
theorem scIsPath : FnScope nIsPath pIsPath (fnScope sIsPath) := fnScope_by (by decide +kernel)
abbrev nPathOf : List PySem.Str := ["parts"]
abbrev pPathOf : List PySem.Str := ["parts"]
theorem scPathOf : FnScope nPathOf pPathOf (fnScope sPathOf) := fnScope_by (by decide +kernel)
abbrev nParentOf : List PySem.Str := ["path"]
abbrev pParentOf : List PySem.Str := ["path"]
theorem scParentOf : FnScope nParentOf pParentOf (fnScope sParentOf) := fnScope_by (by decide +kernel)
abbrev nLastPart : List PySem.Str := ["path"]
abbrev pLastPart : List PySem.Str := ["path"]
theorem scLastPart : FnScope nLastPart pLastPart (fnScope sLastPart) := fnScope_by (by decide +kernel)
abbrev nIsMet : List PySem.Str := ["kind", "path", "event", "word", "where"]
abbrev pIsMet : List PySem.Str := ["kind", "path", "event"]
theorem scIsMet : FnScope nIsMet pIsMet (fnScope sIsMet) := fnScope_by (by decide +kernel)
abbrev nWInit : List PySem.Str := ["self"]
abbrev pWInit : List PySem.Str := ["self"]
theorem scWInit : FnScope nWInit pWInit (fnScope sWInit) := fnScope_by (by decide +kernel)
abbrev nWLay : List PySem.Str := ["self", "asker", "kind", "path"]
abbrev pWLay : List PySem.Str := ["self", "asker", "kind", "path"]
theorem scWLay : FnScope nWLay pWLay (fnScope sWLay) := fnScope_by (by decide +kernel)
abbrev nWMeet : List PySem.Str := ["self", "place", "events", "letters", "event", "asker", "kind", "path"]
abbrev pWMeet : List PySem.Str := ["self", "place", "events"]
theorem scWMeet : FnScope nWMeet pWMeet (fnScope sWMeet) := fnScope_by (by decide +kernel)
abbrev nWLetGo : List PySem.Str := ["self", "asker", "one"]
abbrev pWLetGo : List PySem.Str := ["self", "asker"]
theorem scWLetGo : FnScope nWLetGo pWLetGo (fnScope sWLetGo) := fnScope_by (by decide +kernel)
abbrev nWAnew : List PySem.Str := ["self", "asker", "watchers", "told", "waiting", "letters", "place", "answer", "events", "event", "kind", "path"]
abbrev pWAnew : List PySem.Str := ["self", "asker", "watchers", "told"]
theorem scWAnew : FnScope nWAnew pWAnew (fnScope sWAnew) := fnScope_by (by decide +kernel)
abbrev nWKept : List PySem.Str := ["self"]
abbrev pWKept : List PySem.Str := ["self"]
theorem scWKept : FnScope nWKept pWKept (fnScope sWKept) := fnScope_by (by decide +kernel)
abbrev nIsText : List PySem.Str := ["thing", "sign"]
abbrev pIsText : List PySem.Str := ["thing"]
theorem scIsText : FnScope nIsText pIsText (fnScope sIsText) := fnScope_by (by decide +kernel)
abbrev nIsCount : List PySem.Str := ["thing"]
abbrev pIsCount : List PySem.Str := ["thing"]
theorem scIsCount : FnScope nIsCount pIsCount (fnScope sIsCount) := fnScope_by (by decide +kernel)
abbrev nIsMake : List PySem.Str := ["path", "rest", "text", "own", "numbered"]
abbrev pIsMake : List PySem.Str := ["path", "rest"]
theorem scIsMake : FnScope nIsMake pIsMake (fnScope sIsMake) := fnScope_by (by decide +kernel)
abbrev nIsPlain : List PySem.Str := ["thing", "word", "path", "rest"]
abbrev pIsPlain : List PySem.Str := ["thing"]
theorem scIsPlain : FnScope nIsPlain pIsPlain (fnScope sIsPlain) := fnScope_by (by decide +kernel)
abbrev nFirstNodes : List PySem.Str := []
abbrev pFirstNodes : List PySem.Str := []
theorem scFirstNodes : FnScope nFirstNodes pFirstNodes (fnScope sFirstNodes) := fnScope_by (by decide +kernel)
abbrev nKidsOf : List PySem.Str := ["nodes", "path", "one"]
abbrev pKidsOf : List PySem.Str := ["nodes", "path"]
theorem scKidsOf : FnScope nKidsOf pKidsOf (fnScope sKidsOf) := fnScope_by (by decide +kernel)
abbrev nRefused : List PySem.Str := ["nodes", "word"]
abbrev pRefused : List PySem.Str := ["nodes", "word"]
theorem scRefused : FnScope nRefused pRefused (fnScope sRefused) := fnScope_by (by decide +kernel)
abbrev nNumberedPath : List PySem.Str := ["path", "made"]
abbrev pNumberedPath : List PySem.Str := ["path", "made"]
theorem scNumberedPath : FnScope nNumberedPath pNumberedPath (fnScope sNumberedPath) := fnScope_by (by decide +kernel)
abbrev nMake : List PySem.Str := ["nodes", "asker", "path", "text", "own", "numbered", "parent", "above", "count", "made", "owner", "found"]
abbrev pMake : List PySem.Str := ["nodes", "asker", "path", "text", "own", "numbered"]
theorem scMake : FnScope nMake pMake (fnScope sMake) := fnScope_by (by decide +kernel)
abbrev nPut : List PySem.Str := ["nodes", "path", "text", "old", "count", "made", "owner", "found"]
abbrev pPut : List PySem.Str := ["nodes", "path", "text"]
theorem scPut : FnScope nPut pPut (fnScope sPut) := fnScope_by (by decide +kernel)
abbrev nDropped : List PySem.Str := ["nodes", "path", "found", "one", "node"]
abbrev pDropped : List PySem.Str := ["nodes", "path"]
theorem scDropped : FnScope nDropped pDropped (fnScope sDropped) := fnScope_by (by decide +kernel)
abbrev nDrop : List PySem.Str := ["nodes", "path", "found", "events"]
abbrev pDrop : List PySem.Str := ["nodes", "path"]
theorem scDrop : FnScope nDrop pDrop (fnScope sDrop) := fnScope_by (by decide +kernel)
abbrev nDonePlain : List PySem.Str := ["nodes", "deed", "asker", "word", "path", "rest", "text", "own", "numbered", "wanted"]
abbrev pDonePlain : List PySem.Str := ["nodes", "deed", "asker"]
theorem scDonePlain : FnScope nDonePlain pDonePlain (fnScope sDonePlain) := fnScope_by (by decide +kernel)
abbrev nIsDeed : List PySem.Str := ["thing", "one"]
abbrev pIsDeed : List PySem.Str := ["thing"]
theorem scIsDeed : FnScope nIsDeed pIsDeed (fnScope sIsDeed) := fnScope_by (by decide +kernel)
abbrev nIsEntry : List PySem.Str := ["thing"]
abbrev pIsEntry : List PySem.Str := ["thing"]
theorem scIsEntry : FnScope nIsEntry pIsEntry (fnScope sIsEntry) := fnScope_by (by decide +kernel)
abbrev nFirstState : List PySem.Str := []
abbrev pFirstState : List PySem.Str := []
theorem scFirstState : FnScope nFirstState pFirstState (fnScope sFirstState) := fnScope_by (by decide +kernel)
abbrev nWithoutOwner : List PySem.Str := ["nodes", "asker", "events", "path", "some"]
abbrev pWithoutOwner : List PySem.Str := ["nodes", "asker"]
theorem scWithoutOwner : FnScope nWithoutOwner pWithoutOwner (fnScope sWithoutOwner) := fnScope_by (by decide +kernel)
abbrev nDoneAll : List PySem.Str := ["nodes", "deeds", "asker", "found", "values", "events", "number", "deed", "word", "value", "some"]
abbrev pDoneAll : List PySem.Str := ["nodes", "deeds", "asker"]
theorem scDoneAll : FnScope nDoneAll pDoneAll (fnScope sDoneAll) := fnScope_by (by decide +kernel)
abbrev nDoneDeed : List PySem.Str := ["nodes", "limit", "deed", "asker", "word", "found", "events", "answer"]
abbrev pDoneDeed : List PySem.Str := ["nodes", "limit", "deed", "asker"]
theorem scDoneDeed : FnScope nDoneDeed pDoneDeed (fnScope sDoneDeed) := fnScope_by (by decide +kernel)
abbrev nEnded : List PySem.Str := ["nodes", "sessions", "asker", "limit", "stamp", "answer", "place", "found", "events"]
abbrev pEnded : List PySem.Str := ["nodes", "sessions", "asker"]
theorem scEnded : FnScope nEnded pEnded (fnScope sEnded) := fnScope_by (by decide +kernel)
abbrev nDone : List PySem.Str := ["state", "entry", "place", "nodes", "sessions", "asker", "stamp", "deed", "limit", "last", "elder", "where", "found", "answer", "events", "one"]
abbrev pDone : List PySem.Str := ["state", "entry", "place"]
theorem scDone : FnScope nDone pDone (fnScope sDone) := fnScope_by (by decide +kernel)
abbrev nToldBy : List PySem.Str := ["row", "found", "state", "place", "entry", "answer", "events"]
abbrev pToldBy : List PySem.Str := ["row"]
theorem scToldBy : FnScope nToldBy pToldBy (fnScope sToldBy) := fnScope_by (by decide +kernel)
abbrev nLawPool : List PySem.Str := ["_law_script", "_law_k", "_law_cell", "_law_size", "_law_seed"]
abbrev pLawPool : List PySem.Str := ["_law_script", "_law_k"]
theorem scLawPool : FnScope nLawPool pLawPool (fnScope sLawPool) := fnScope_by (by decide +kernel)
abbrev nLawTake : List PySem.Str := ["_law_pool_here", "_law_many", "_law_found"]
abbrev pLawTake : List PySem.Str := ["_law_pool_here", "_law_many"]
theorem scLawTake : FnScope nLawTake pLawTake (fnScope sLawTake) := fnScope_by (by decide +kernel)
abbrev nLawOne : List PySem.Str := ["_law_pool_here", "_law_some"]
abbrev pLawOne : List PySem.Str := ["_law_pool_here", "_law_some"]
theorem scLawOne : FnScope nLawOne pLawOne (fnScope sLawOne) := fnScope_by (by decide +kernel)
abbrev nLawText : List PySem.Str := ["_law_pool_here"]
abbrev pLawText : List PySem.Str := ["_law_pool_here"]
theorem scLawText : FnScope nLawText pLawText (fnScope sLawText) := fnScope_by (by decide +kernel)
abbrev nLawPath : List PySem.Str := ["_law_pool_here"]
abbrev pLawPath : List PySem.Str := ["_law_pool_here"]
theorem scLawPath : FnScope nLawPath pLawPath (fnScope sLawPath) := fnScope_by (by decide +kernel)
abbrev nLawCount : List PySem.Str := ["_law_pool_here"]
abbrev pLawCount : List PySem.Str := ["_law_pool_here"]
theorem scLawCount : FnScope nLawCount pLawCount (fnScope sLawCount) := fnScope_by (by decide +kernel)
abbrev nLawPlain : List PySem.Str := ["_law_pool_here", "_law_way", "_law_path_here"]
abbrev pLawPlain : List PySem.Str := ["_law_pool_here"]
theorem scLawPlain : FnScope nLawPlain pLawPlain (fnScope sLawPlain) := fnScope_by (by decide +kernel)
abbrev nLawDeed : List PySem.Str := ["_law_pool_here", "_law_way", "_law_turn"]
abbrev pLawDeed : List PySem.Str := ["_law_pool_here"]
theorem scLawDeed : FnScope nLawDeed pLawDeed (fnScope sLawDeed) := fnScope_by (by decide +kernel)
abbrev nLawRead : List PySem.Str := ["_law_pool_here", "_law_asker", "_law_kind", "_law_path_here"]
abbrev pLawRead : List PySem.Str := ["_law_pool_here", "_law_asker"]
theorem scLawRead : FnScope nLawRead pLawRead (fnScope sLawRead) := fnScope_by (by decide +kernel)
abbrev nLawRow : List PySem.Str := ["_law_pool_here", "_law_row_here", "_law_stamps", "_law_epoch", "_law_number", "_law_turn", "_law_asker", "_law_entry"]
abbrev pLawRow : List PySem.Str := ["_law_pool_here"]
theorem scLawRow : FnScope nLawRow pLawRow (fnScope sLawRow) := fnScope_by (by decide +kernel)
abbrev nLawLaid : List PySem.Str := ["_law_pool_here", "_law_asker", "_law_laid_here", "_law_place", "_law_turn", "_law_read_here"]
abbrev pLawLaid : List PySem.Str := ["_law_pool_here", "_law_asker", "_law_laid_here", "_law_place"]
theorem scLawLaid : FnScope nLawLaid pLawLaid (fnScope sLawLaid) := fnScope_by (by decide +kernel)
abbrev nLaw : List PySem.Str := ["_law_script", "_law_k", "_law_pool_here", "_law_told", "_law_watchers", "_law_laid_here", "_law_letters", "_law_place", "_law_answer", "_law_events", "_law_known", "_law_kind", "_law_path_here", "_law_some", "_law_turn", "_law_other", "_law_names", "_law_places", "_law_left", "_law_one_here", "_law_letter"]
abbrev pLaw : List PySem.Str := ["_law_script"]
theorem scLaw : FnScope nLaw pLaw (fnScope sLaw) := fnScope_by (by decide +kernel)
end K42

/-! K42B: what the walks ask of the module (Tx), a def under its name (DB). -/
namespace K42
open PySem L2
open PyProof.Rows (envOfC)
open C8 (Cal Met Mak Def cal0 met0 mak0 pe_c pe_mk pe_mt pe_mt0 fnScope_by fnScope fnBody fnArgs pe_gc)
section
variable {P : Program} {w : World} {K : PySem.W.Frag} {mg : PySem.Str → Option Value} {base : Heap}
/-- a def of the module under its name, its parameters ps, no defaults -/
structure DB (K : PySem.W.Frag) (mg : PySem.Str → Option Value) (x : PySem.Str) (st : Stmt) (ps : List PySem.Str) : Prop where
  ex : ∃ (f : Addr) (fd : FuncData), C8.Def K mg x st f fd ∧ Binds K fd ps []
theorem DB.cal {x : PySem.Str} {st : Stmt} {N ps : List PySem.Str} {k : Nat} {sp : Sp} (D : DB K mg x st ps) (S : FnScope N ps (fnScope st)) (len : ∀ vs H Q E, sp vs H Q E → vs.length = ps.length)
    (hb : ∀ (f : Addr) (cdv : Value) (A : Around) (outer : List Env) (s : Shared) (H : Hp) (vs : List V) (Q : VK) (E : XK), Room k (A.deeper (envOfC x (fnScope st) s.heap.objs.size f cdv)) → sp vs H Q E →
      ∃ t, PSs (cxOf C8.CX0 P w K mg base N x (fnScope st) f cdv A outer s H E).nox (fnBody st) t ∧ t { nx := fun _ H' => Q .non H', rt := Q } (start N vs) H) : Cal P w K mg base (k + 1) x sp [] := by
  obtain ⟨f, fd, F, b⟩ := D.ex
  exact cal0 F b .nil S len (hb f)
/-- a constant of the module -/
abbrev Cn (mg : PySem.Str → Option Value) (x : PySem.Str) (v : V) : Prop := ∃ u, mg x = some u ∧ RelV v u
structure Tx (K : PySem.W.Frag) (w : World) (mg : PySem.Str → Option Value) : Prop where
  isinstance : mg "isinstance" = none
  all : mg "all" = none
  len : mg "len" = none
  sorted : mg "sorted" = none
  dict : mg "dict" = none
  list : mg "list" = none
  tuple : mg "tuple" = none
  set : mg "set" = none
  int : mg "int" = none
  str : mg "str" = none
  bool : mg "bool" = none
  range : mg "range" = none
  enumerate : mg "enumerate" = none
  abs : mg "abs" = none
  max : mg "max" = none
  min : mg "min" = none
  letters : Cn mg "LETTERS" (.str "abcdefghijklmnopqrstuvwxyz")
  figures : Cn mg "FIGURES" (.str "0123456789")
  longest : Cn mg "LONGEST" (.int 8)
  mostParts : Cn mg "MOST_PARTS" (.int 5)
  manyFigures : Cn mg "MANY_FIGURES" (.int 6)
  root : Cn mg "ROOT" (.str "/")
  mostNodes : Cn mg "MOST_NODES" (.int 60)
  mostMade : Cn mg "MOST_MADE" (.int 999999)
  mostText : Cn mg "MOST_TEXT" (.int 40)
  mostDeeds : Cn mg "MOST_DEEDS" (.int 6)
  long : ∃ (d : Addr) (es : Array DictEntry) (n : Nat), Cn mg "LONG" (.ref d) ∧ KDict K w d es n ∧ (∃ u, PySem.W.nsIn K d "make" = some (some u) ∧ RelV (.int 5) u) ∧ (∃ u, PySem.W.nsIn K d "put" = some (some u) ∧ RelV (.int 4) u) ∧
    (∃ u, PySem.W.nsIn K d "drop" = some (some u) ∧ RelV (.int 3) u) ∧ ∃ u, PySem.W.nsIn K d "see" = some (some u) ∧ RelV (.int 3) u
  never : ∃ (a : Addr) (z : V), Cn mg "NEVER" (.ref a) ∧ ∀ H, SqT K H a [.non, .int 0, .non, z]
  ok : ∃ a : Addr, Cn mg "OK" (.ref a) ∧ ∀ H, SqT K H a [.str "ok", .non]
  mostLimit : Cn mg "MOST_LIMIT" (.int 1000)
end
end K42

/-! K42C: the looks at words, parts, paths. -/
namespace K42
open PySem L2
open PyProof.Rows (envOfC)
open C8 (Cal Met Mak Def cal0 met0 mak0 pe_c pe_mk pe_mt pe_mt0 fnScope_by fnScope fnBody fnArgs pe_gc)
/-! ### plain -/
abbrev sgns (s : PySem.Str) : List Nat := s.cps.toList
def wordOk (s : PySem.Str) : Bool := decide (1 ≤ s.length) && decide (s.length ≤ 8) && (sgns s).all fun c => decide (c ∈ sgns "abcdefghijklmnopqrstuvwxyz")
def partOk (s : PySem.Str) : Bool :=
  wordOk (Txt.partition s "-").1 && decide (s.length ≤ 1000) && (decide ((Txt.partition s "-").2.1 = "") ||
    (decide ((Txt.partition s "-").2.2.length = 6) && (sgns (Txt.partition s "-").2.2).all fun c => decide (c ∈ sgns "0123456789")))
def partsOf (s : PySem.Str) : List PySem.Str := if s = "/" then [] else (Txt.split s "/").drop 1
def pathOk (s : PySem.Str) : Bool := decide (s.length ≤ 1000) && Txt.startswith s "/" && decide ((partsOf s).length ≤ 5) && (partsOf s).all partOk
theorem pathOk_all : (["/a", "/b", "/a/c", "/a/d", "/a/q-000000", "/b/e", "/a/q", "/"] : List PySem.Str).all pathOk = true := by decide +kernel
theorem _root_.L2.Same.tup {K : PySem.W.Frag} {H H' : Hp} {a : Addr} {xs : List V} (e : Same H H') (h : SqT K H a xs) : SqT K H' a xs := by
  rcases h with (h | ⟨o, h⟩) | h
  · exact .inl (.inl (e _ _ h))
  · exact .inl (.inr ⟨o, e _ _ h⟩)
  · exact .inr h
theorem _root_.L2.Same.new {H H' : Hp} {p : Addr} {o : HO} (e : Same H H') (hp : H p = none) : Same H (upd H' p o) := fun b u q => by
  rw [upd_ne (ne_of_none q hp)]
  exact e b u q
theorem upd_none {H : Hp} {q p : Addr} {o : HO} (h : upd H q o p = none) : p ≠ q ∧ H p = none := by
  have ne : p ≠ q := fun e => by
    rw [e, upd_same] at h
    cases h
  rw [upd_ne ne] at h
  exact ⟨ne, h⟩
theorem same_upd {H : Hp} {p : Addr} {o : HO} (hp : H p = none) : Same H (upd H p o) := (Same.refl H).new hp
/-- behind a lock -/
theorem same_unlock {H H1 : Hp} {d : Addr} {od : Obj} {u : HO} (hd : H d = some u) (s : Same (upd H d (.frz od u)) H1) : Same H (upd H1 d u) := fun b o e => by
  by_cases h : b = d
  · subst h
    rw [upd_same, ← hd]
    exact e
  · rw [upd_ne h]
    exact s b o (by rw [upd_ne h]; exact e)
/-- a comprehension of tests that are all true -/
theorem lc_true {J : It} {n : Nat} {G : Hp → Prop} {Y : Nat → Hp → V → Hp → Prop} (wk : Walk J n G Y) {g : TG} {te : TE} {vs : List Nat} {σ : St} {H1 : Hp} {D : Addr} {Qd : Hp → Prop} (hD : H1 D = none) (hn : n ≤ 1000) (hG : ∀ H, Same H1 H → G H)
    (step : ∀ i x H H' (Z : VK), i < n → Same H1 H → Y i H x H' → (∀ H4, Same H H4 → Z (.bl true) H4) → g x (wipe σ vs) H' fun σ2 H2 => wipe σ2 vs = wipe σ vs ∧ te σ2 H2 Z)
    (hd : ∀ H, Same H1 H → H D = some (.lst ((List.replicate n true).map V.bl)) → Qd H) :
    ∃ W : Nat → Nat → Hp → Prop, (∃ m, W 0 m (upd H1 D (.lst []))) ∧ ∀ i m H, W i m H →
      (J.stop i H ∧ Qd H) ∨ (J.go i H ∧ ∃ Nx : Hp → Prop, (∀ H', Nx H' → ∃ m', m' < m ∧ W (i + 1) m' H') ∧ ∀ x H', J.yld i H x H' → g x (wipe σ vs) H' fun σ2 H2 => wipe σ2 vs = wipe σ vs ∧ tYes σ2 H2 fun b H3 =>
        if b = true then te σ2 H3 fun y H4 => ∃ acc, H4 D = some (.lst acc) ∧ acc.length < sizeLine ∧ Nx (upd H4 D (.lst (acc ++ [y]))) else Nx H3) := by
  refine lc_it wk (fun i H => Same H1 H ∧ H D = some (.lst ((List.replicate i true).map V.bl))) ⟨(Same.refl H1).new hD, upd_same⟩ (fun i H _ h => hG H h.1) (fun i x H H' hi h hy => ?_) fun H h => hd H h.1 h.2
  have key := step i x H H' (fun y H4 => ∃ acc, H4 D = some (.lst acc) ∧ acc.length < sizeLine ∧ (Same H1 (upd H4 D (.lst (acc ++ [y]))) ∧ upd H4 D (.lst (acc ++ [y])) D = some (.lst ((List.replicate (i + 1) true).map V.bl)))) hi h.1 hy fun H4 s4 => by
    refine ⟨_, s4 D _ h.2, ?_, (h.1.trans s4).new hD, ?_⟩
    · rw [List.length_map, List.length_replicate]
      exact small1000 (Nat.le_trans (Nat.le_of_lt hi) hn)
    · rw [upd_same, List.replicate_succ', List.map_append]
      rfl
  exact key
theorem q_true {Q : VK} {H : Hp} {b : Bool} (h : b = true) (k : Q (.bl true) H) : Q (.bl b) H := by rw [h]; exact k
theorem q_false {Q : VK} {H : Hp} {b : Bool} (h : b = false) (k : Q (.bl false) H) : Q (.bl b) H := by rw [h]; exact k
theorem all_true (n : Nat) : (List.replicate n true).all id = true := by
  induction n with
  | zero => rfl
  | succ n ih => rw [List.replicate_succ, List.all_cons, ih]; rfl
/-! ### texts cut at / -/
theorem spl47 : ∀ (l acc : List Nat), ((TL.spl [47] 0 acc l).map List.length).sum + (TL.spl [47] 0 acc l).length = acc.length + l.length + 1
  | [], acc => by simp [TL.spl_nil]
  | c :: r, acc => by
    by_cases e : c = 47
    · subst e
      rw [TL.spl_hit (by simp [TL.pre]), show [47].length - 1 = 0 from rfl]
      have ih := spl47 r []
      simp only [List.length_cons, List.length_nil, List.map_cons, List.sum_cons, Nat.zero_add] at ih ⊢
      omega
    · rw [TL.spl_miss (TL.pre_of_head _ _ e)]
      have ih := spl47 r (acc ++ [c])
      simp only [List.length_cons, List.length_append, List.length_nil] at ih ⊢
      omega
theorem spl47_len : ∀ (l acc : List Nat), 47 ∈ l → 2 ≤ (TL.spl [47] 0 acc l).length
  | [], _, h => by simp at h
  | c :: r, acc, h => by
    by_cases e : c = 47
    · subst e
      rw [TL.spl_hit (by simp [TL.pre])]
      have : 1 ≤ (TL.spl [47] ([47].length - 1) [] r).length := by
        cases r with
        | nil => simp [TL.spl_nil]
        | cons d r =>
          by_cases e : d = 47
          · subst e
            rw [show [47].length - 1 = 0 from rfl, TL.spl_hit (by simp [TL.pre])]
            simp
          · have := spl47 (d :: r) []
            cases q : TL.spl [47] ([47].length - 1) [] (d :: r) with
            | nil =>
              have q' : TL.spl [47] 0 [] (d :: r) = [] := q
              rw [q'] at this
              simp at this
            | cons x y => simp
      rw [List.length_cons]
      omega
    · rw [TL.spl_miss (TL.pre_of_head _ _ e)]
      refine spl47_len r _ ?_
      rcases List.mem_cons.mp h with h | h
      · exact absurd h.symm e
      · exact h
theorem split47 (s : PySem.Str) : (Txt.split s "/").map sgns = TL.spl [47] 0 [] (sgns s) := by
  have h := TL.split_spl s "/" (by decide +kernel) (TL.kind_ok (by decide +kernel))
  have e : TL.tl ("/" : PySem.Str) = [47] := by decide +kernel
  rw [e] at h
  exact h
theorem split_sum (s : PySem.Str) : ((Txt.split s "/").map (·.length)).sum + (Txt.split s "/").length = s.length + 1 := by
  have h := spl47 (sgns s) []
  rw [← split47, List.map_map, List.length_map] at h
  have e : (List.length ∘ sgns) = fun x : PySem.Str => x.length := funext fun x => (TL.len_tl x).symm
  rw [e] at h
  have e2 : (sgns s).length = s.length := (TL.len_tl s).symm
  rw [e2] at h
  simpa using h
theorem split_two {s : PySem.Str} (h : 47 ∈ sgns s) : 2 ≤ (Txt.split s "/").length := by
  have q := spl47_len (sgns s) [] h
  rw [← split47, List.length_map] at q
  exact q
theorem sum_drop_le (l : List Nat) (n : Nat) : (l.drop n).sum ≤ l.sum := by
  induction l generalizing n with
  | nil => simp
  | cons a l ih =>
    cases n with
    | zero => simp
    | succ n => rw [List.drop_succ_cons, List.sum_cons]; exact Nat.le_trans (ih n) (Nat.le_add_left _ _)
theorem sum_take_le (l : List Nat) (n : Nat) : (l.take n).sum ≤ l.sum := by
  induction l generalizing n with
  | nil => simp
  | cons a l ih =>
    cases n with
    | zero => simp
    | succ n => rw [List.take_succ_cons, List.sum_cons, List.sum_cons]; exact Nat.add_le_add_left (ih n) a
theorem partsOf_sum (s : PySem.Str) : ((partsOf s).map (·.length)).sum + (partsOf s).length ≤ s.length + 1 := by
  unfold partsOf
  split
  · simp
  · rw [List.map_drop, List.length_drop]
    have h1 := split_sum s
    have h2 := sum_drop_le ((Txt.split s "/").map (·.length)) 1
    omega
theorem partsOf_pos {s : PySem.Str} (h : 47 ∈ sgns s) (hr : s ≠ "/") : 1 ≤ (partsOf s).length := by
  unfold partsOf
  rw [if_neg hr, List.length_drop]
  have := split_two h
  omega
def parentOf (s : PySem.Str) : PySem.Str := "/" ++ Txt.join "/" (partsOf s).dropLast
theorem cut_from1 (xs : List V) : cutV xs (some 1) none = xs.drop 1 := by
  cases xs with
  | nil => rfl
  | cons x xs =>
    have e : HT.sIx (x :: xs).length 0 (some 1) = 1 := by
      simp [HT.sIx]
    have e2 : HT.sIx (x :: xs).length (x :: xs).length none = (x :: xs).length := rfl
    unfold cutV
    rw [e, e2, List.take_of_length_le (by rw [List.length_drop] <;> omega)]
theorem cut_but1 (xs : List V) : cutV xs none (some (-1)) = xs.dropLast := by
  have e : HT.sIx xs.length 0 none = 0 := rfl
  have e2 : HT.sIx xs.length xs.length (some (-1)) = xs.length - 1 := by
    cases xs with
    | nil => rfl
    | cons x xs =>
      simp [HT.sIx]
      omega
  unfold cutV
  rw [e, e2, List.drop_zero, List.dropLast_eq_take, Nat.sub_zero]
end K42

/-! K42D: is_whole, is_word, is_part, parts_of, is_path, path_of, parent_of, last_part. -/
namespace K42
open PySem L2
open PyProof.Rows (envOfC)
open C8 (Cal Met Mak Def cal0 met0 mak0 pe_c pe_mk pe_mt pe_mt0 fnScope_by fnScope fnBody fnArgs pe_gc)
section
variable {P : Program} {w : World} {K : PySem.W.Frag} {mg : PySem.Str → Option Value} {base : Heap}
/-- of a whole number: True -/
def spIsWhole : Sp := fun vs H Q _ => ∃ n : Int, vs = [.int n] ∧ Q (.bl true) H
theorem ok_isWhole (T : Tx K w mg) (D : DB K mg "is_whole" sIsWhole pIsWhole) : Cal P w K mg base 1 "is_whole" spIsWhole [] := by
  refine D.cal scIsWhole (fun vs H Q E h => ?_) (fun f cdv A outer s H vs Q E hr h => ?_)
  · obtain ⟨n, rfl, _⟩ := h
    rfl
  · obtain ⟨n, rfl, k⟩ := h
    refine ⟨_, pss_one (ps_ret (pe_and (pe_callB call_isi (by rfl) T.isinstance (by decide +kernel) (pa_cons (pv 0) (pa_cons (pe_bltn (v := .ty "int") (by rfl) T.int (by decide +kernel) rfl) pa_nil)))
      (pe_one (pe_not (pe_callB call_isi (by rfl) T.isinstance (by decide +kernel) (pa_cons (pv 0) (pa_cons (pe_bltn (v := .ty "bool") (by rfl) T.bool (by decide +kernel) rfl) pa_nil))))))), ?_⟩
    refine ⟨_, rfl, _, _, _, _, true, rfl, .ty _, .base (.int _), kit_ty (by decide +kernel), true, rfl, iteT ?_⟩
    refine ⟨_, rfl, _, _, _, _, false, rfl, .ty _, .base (.int _), kit_ty (by decide +kernel), false, rfl, ?_⟩
    exact k
/-- of a word: True -/
def spIsWord : Sp := fun vs H Q _ => ∃ s : PySem.Str, vs = [.str s] ∧ wordOk s = true ∧ ∀ H', Same H H' → Q (.bl true) H'
theorem ok_isWord (T : Tx K w mg) (D : DB K mg "is_word" sIsWord pIsWord) : Cal P w K mg base 1 "is_word" spIsWord [] := by
  refine D.cal scIsWord (fun vs H Q E h => ?_) (fun f cdv A outer s H vs Q E hr h => ?_)
  · obtain ⟨n, rfl, _⟩ := h
    rfl
  · obtain ⟨z, rfl, hz, k⟩ := h
    unfold wordOk at hz
    simp only [Bool.and_eq_true, decide_eq_true_eq, List.all_eq_true] at hz
    obtain ⟨⟨z1, z8⟩, zl⟩ := hz
    refine ⟨_, pss_one (ps_ret (pe_and (pe_callB call_isi (by rfl) T.isinstance (by decide +kernel) (pa_cons (pv 0) (pa_cons (pe_bltn (v := .ty "str") (by rfl) T.str (by decide +kernel) rfl) pa_nil)))
      (pe_and (pe_chain op_le op_le pe_int (pe_callB call_len_str (by rfl) T.len PySem.boot_len (pa_cons (pv 0) pa_nil)) (pe_gc (by rfl) T.longest))
      (pe_one (pe_callB (cr_all rfl) (by rfl) T.all (by decide +kernel) (pa_cons
        (pe_lc (own := [("sign", 1)]) (g := gName 1) (tt := tYes) rfl scIsWord.nd (pi_str (pv 0)) (blkOk_by (N := nIsWord) (sc := fnScope sIsWord) (by decide +kernel)) (fun _ _ _ _ _ => pg_name (i := 1) scIsWord.nd rfl (Or.inl rfl)) (fun _ _ _ _ _ => pts_nil)
          (fun _ _ _ _ _ => pe_cmpR op_in_sign (pv 1) (pe_gc (by rfl) T.letters) rfl)) pa_nil)))))), ?_⟩
    refine ⟨_, rfl, _, _, _, _, true, rfl, .ty _, .base (.str _), kit_ty (by decide +kernel), true, rfl, iteT ?_⟩
    refine ⟨_, rfl, z, rfl, Nat.le_trans z8 (by decide), _, _, rfl, rfl, _, rfl, ?_⟩
    have e1 : decide ((1 : Int) ≤ (z.length : Int)) = true := decide_eq_true (by omega)
    rw [if_pos e1]
    refine ⟨_, _, rfl, rfl, _, rfl, ?_⟩
    have e2 : decide ((z.length : Int) ≤ 8) = true := decide_eq_true (by omega)
    rw [if_pos e2]
    refine ⟨_, rfl, z, rfl, fun D hD => ?_⟩
    refine lc_true walk_str hD (Nat.le_trans (show z.cps.size ≤ 8 from z8) (by decide)) (fun H _ => True.intro) (fun i x H1 H2 Z hi s1 y kz => ?_) fun H1 s1 hL => ?_
    · obtain ⟨rfl, c, hc, rfl⟩ := y
      refine ⟨rfl, _, rfl, c, _, rfl, rfl, ?_⟩
      rw [decide_eq_true (zl c (by rw [Array.mem_toList_iff]; exact Array.mem_of_getElem? hc))]
      exact kz _ (Same.refl _)
    · refine ⟨D, _, rfl, SqL.of hL, ?_⟩
      rw [all_true]
      exact k _ s1
/-- the parts of a path: a new list -/
def spPartsOf : Sp := fun vs H Q _ => ∃ s : PySem.Str, vs = [.str s] ∧ s.length ≤ 1000 ∧ ∀ p H', Same H H' → H p = none → H' p = some (.lst ((partsOf s).map V.str)) → Q (.ref p) H'
theorem ok_partsOf (T : Tx K w mg) (D : DB K mg "parts_of" sPartsOf pPartsOf) : Cal P w K mg base 1 "parts_of" spPartsOf [] := by
  refine D.cal scPartsOf (fun vs H Q E h => ?_) (fun f cdv A outer s H vs Q E hr h => ?_)
  · obtain ⟨n, rfl, _⟩ := h
    rfl
  · obtain ⟨z, rfl, hz, k⟩ := h
    refine ⟨_, pss_one (ps_ret (pe_ifExp (pt_cmpR op_eq (pv 0) (pe_gc (by rfl) T.root) (nomark _)) (pe_lst pa_nil) (pe_slice sl_list (pe_split (pv 0) pe_str) (po_some pe_int) po_none))), ?_⟩
    refine ⟨_, rfl, rfl, _, rfl, ?_⟩
    unfold partsOf at k
    refine ite2 (fun c => ?_) (fun c => ?_)
    · have e : z = "/" := V.str.inj (of_decide_eq_true c)
      rw [if_pos e] at k
      exact ⟨by decide, fun l hl => k l _ (same_upd hl) hl upd_same⟩
    · have e : ¬ z = "/" := fun e => c (decide_eq_true (by rw [e]))
      rw [if_neg e] at k
      refine ⟨_, rfl, ⟨_, rfl⟩, _, _, rfl, rfl, rfl, ?_, fun q hq => ?_⟩
      · exact Nat.le_trans (Nat.add_le_add_right hz 2) (by decide)
      · refine ⟨_, rfl, q, _, rfl, SqL.of upd_same, fun p hp => ?_⟩
        refine k p _ ((same_upd hq).trans (same_upd hp)) (upd_none hp).2 ?_
        rw [upd_same, cut_from1, List.map_drop]
/-- of a part: True -/
def spIsPart : Sp := fun vs H Q _ => ∃ s : PySem.Str, vs = [.str s] ∧ partOk s = true ∧ ∀ H', Same H H' → Q (.bl true) H'
theorem ok_isPart (T : Tx K w mg) (D : DB K mg "is_part" sIsPart pIsPart) (cW : Cal P w K mg base 1 "is_word" spIsWord []) : Cal P w K mg base 2 "is_part" spIsPart [] := by
  refine D.cal scIsPart (fun vs H Q E h => ?_) (fun f cdv A outer s H vs Q E hr h => ?_)
  · obtain ⟨n, rfl, _⟩ := h
    rfl
  · obtain ⟨z, rfl, hz, k⟩ := h
    unfold partOk at hz
    simp only [Bool.and_eq_true, decide_eq_true_eq, Bool.or_eq_true] at hz
    obtain ⟨⟨zw, z1⟩, zo⟩ := hz
    refine ⟨_, pss_cons (ps_if (pt_not (pt_val (pe_callB call_isi (by rfl) T.isinstance (by decide +kernel) (pa_cons (pv 0) (pa_cons (pe_bltn (v := .ty "str") (by rfl) T.str (by decide +kernel) rfl) pa_nil))))) (pss_one (ps_ret pe_bl)) pss_nil)
      (pss_cons (ps_asg (pe_partition (pv 0) pe_str) (pg_tup rfl (pgs_cons (pg_name (i := 1) scIsPart.nd rfl (Or.inl rfl)) (pgs_cons (pg_name (i := 2) scIsPart.nd rfl (Or.inl rfl)) (pgs_cons (pg_name (i := 3) scIsPart.nd rfl (Or.inl rfl)) pgs_nil)))))
      (pss_cons (ps_if (pt_cmpR op_eq (pv 2) pe_str (nomark _)) (pss_one (ps_ret (pe_c cW hr (by decide) (by rfl) (pa_cons (pv 1) pa_nil)))) pss_nil)
      (pss_one (ps_ret (pe_and (pe_c cW hr (by decide) (by rfl) (pa_cons (pv 1) pa_nil))
        (pe_and (pe_cmpR op_eq (pe_callB call_len_str (by rfl) T.len PySem.boot_len (pa_cons (pv 3) pa_nil)) (pe_gc (by rfl) T.manyFigures) (nomark _))
        (pe_one (pe_callB (cr_all rfl) (by rfl) T.all (by decide +kernel) (pa_cons
          (pe_lc (own := [("one", 4)]) (g := gName 4) (tt := tYes) rfl scIsPart.nd (pi_str (pv 3)) (blkOk_by (N := nIsPart) (sc := fnScope sIsPart) (by decide +kernel)) (fun _ _ _ _ _ => pg_name (i := 4) scIsPart.nd rfl (Or.inl rfl)) (fun _ _ _ _ _ => pts_nil)
            (fun _ _ _ _ _ => pe_cmpR op_in_sign (pv 4) (pe_gc (by rfl) T.figures) rfl)) pa_nil))))))))), ?_⟩
    refine ⟨_, rfl, _, _, _, _, true, rfl, .ty _, .base (.str _), kit_ty (by decide +kernel), true, rfl, iteF ?_⟩
    refine ⟨_, rfl, ⟨_, rfl⟩, _, _, rfl, rfl, rfl, Nat.le_trans z1 (by decide), fun t ht => ?_⟩
    refine ⟨t, _, rfl, SqT.of upd_same, rfl, _, _, rfl, _, _, rfl, _, _, rfl, rfl, ?_⟩
    refine ⟨_, rfl, rfl, _, rfl, ?_⟩
    refine ite2 (fun c => ?_) (fun c => ?_)
    · exact ⟨_, rfl, _, rfl, zw, fun H' s1 => k H' ((same_upd ht).trans s1)⟩
    · have e : ¬ (Txt.partition z "-").2.1 = "" := fun e => c (decide_eq_true (by rw [e]))
      obtain ⟨z6, zf⟩ := zo.resolve_left e
      rw [List.all_eq_true] at zf
      refine ⟨_, rfl, _, rfl, zw, fun H1 s1 => ⟨_, rfl, iteT ?_⟩⟩
      refine ⟨_, rfl, _, rfl, by rw [z6]; decide, rfl, _, rfl, ?_⟩
      have e6 : decide (V.int (((Txt.partition z "-").2.2.length : Nat) : Int) = V.int 6) = true := decide_eq_true (by rw [z6]; rfl)
      rw [if_pos e6]
      refine ⟨_, rfl, _, rfl, fun D hD => ?_⟩
      refine lc_true walk_str hD (Nat.le_trans (show (Txt.partition z "-").2.2.cps.size ≤ 6 from Nat.le_of_eq z6) (by decide)) (fun H _ => True.intro) (fun i x H1 H2 Z hi s1 y kz => ?_) fun H2 s2 hL => ?_
      · obtain ⟨rfl, c, hc, rfl⟩ := y
        refine ⟨rfl, _, rfl, c, _, rfl, rfl, ?_⟩
        rw [zf c (by rw [Array.mem_toList_iff]; exact Array.mem_of_getElem? hc)]
        exact kz _ (Same.refl _)
      · refine ⟨D, _, rfl, SqL.of hL, ?_⟩
        rw [all_true]
        exact k _ (((same_upd ht).trans s1).trans s2)
/-- of a path: True -/
def spIsPath : Sp := fun vs H Q _ => ∃ s : PySem.Str, vs = [.str s] ∧ pathOk s = true ∧ ∀ H', Same H H' → Q (.bl true) H'
theorem ok_isPath (T : Tx K w mg) (D : DB K mg "is_path" sIsPath pIsPath) (cP : Cal P w K mg base 1 "parts_of" spPartsOf []) (cI : Cal P w K mg base 2 "is_part" spIsPart []) : Cal P w K mg base 3 "is_path" spIsPath [] := by
  refine D.cal scIsPath (fun vs H Q E h => ?_) (fun f cdv A outer s H vs Q E hr h => ?_)
  · obtain ⟨n, rfl, _⟩ := h
    rfl
  · obtain ⟨z, rfl, hz, k⟩ := h
    unfold pathOk at hz
    simp only [Bool.and_eq_true, decide_eq_true_eq, List.all_eq_true] at hz
    obtain ⟨⟨⟨z1, zs⟩, z5⟩, zp⟩ := hz
    refine ⟨_, pss_cons (ps_if (PW.pt (pw_or (pt_not (pt_val (pe_callB call_isi (by rfl) T.isinstance (by decide +kernel) (pa_cons (pv 0) (pa_cons (pe_bltn (v := .ty "str") (by rfl) T.str (by decide +kernel) rfl) pa_nil)))))
        (pw_or1 (pt_not (pt_val (pe_m1 PySem.F.slot_str_startswith PySem.F.type_str_startswith mt_startswith (pv 0) pe_str)))))) (pss_one (ps_ret pe_bl)) pss_nil)
      (pss_one (ps_ret (pe_and (pe_cmpR op_le (pe_callB call_len_seq (by rfl) T.len PySem.boot_len (pa_cons (pe_c cP hr (by decide) (by rfl) (pa_cons (pv 0) pa_nil)) pa_nil)) (pe_gc (by rfl) T.mostParts) (nomark _))
        (pe_one (pe_callB (cr_all rfl) (by rfl) T.all (by decide +kernel) (pa_cons
          (pe_lc (own := [("one", 1)]) (g := gName 1) (tt := tYes) rfl scIsPath.nd (pi_list (pe_c cP hr (by decide) (by rfl) (pa_cons (pv 0) pa_nil))) (blkOk_by (N := nIsPath) (sc := fnScope sIsPath) (by decide +kernel)) (fun _ _ _ _ _ => pg_name (i := 1) scIsPath.nd rfl (Or.inl rfl)) (fun _ _ _ _ _ => pts_nil)
            (fun _ _ _ _ _ => pe_c cI hr (by decide) (by rfl) (pa_cons (pv 1) pa_nil))) pa_nil)))))), ?_⟩
    refine ⟨_, rfl, _, _, _, _, true, rfl, .ty _, .base (.str _), kit_ty (by decide +kernel), true, rfl, iteF ?_⟩
    refine ⟨_, rfl, ⟨_, rfl⟩, _, _, rfl, rfl, true, by rw [zs], iteF ?_⟩
    refine ⟨_, rfl, z, rfl, z1, fun p H1 s1 hp hL => ?_⟩
    refine ⟨p, _, rfl, .inl (SqL.of hL), _, _, rfl, rfl, _, rfl, ?_⟩
    have e5 : decide ((((partsOf z).map V.str).length : Int) ≤ 5) = true := decide_eq_true (by rw [List.length_map]; omega)
    rw [if_pos e5]
    refine ⟨_, rfl, z, rfl, z1, fun q H2 s2 hq hL2 => ?_⟩
    refine ⟨q, rfl, ⟨_, SqL.of hL2⟩, fun D hD => ?_⟩
    refine lc_true (walk_list (K := K) (a := q) (xs := (partsOf z).map V.str)) hD (by rw [List.length_map]; omega) (fun H s => s.seq (SqL.of hL2)) (fun i x H3 H4 Z hi s3 y kz => ?_) fun H3 s3 hL3 => ?_
    · obtain ⟨rfl, hx⟩ := y
      rw [List.getElem?_map] at hx
      cases e : (partsOf z)[i]? with
      | none =>
        rw [e] at hx
        cases hx
      | some u =>
        rw [e] at hx
        cases hx
        exact ⟨rfl, _, rfl, u, rfl, zp u (List.mem_of_getElem? e), fun H5 s5 => kz H5 s5⟩
    · refine ⟨D, _, rfl, SqL.of hL3, ?_⟩
      rw [all_true]
      exact k _ ((s1.trans s2).trans s3)
end
end K42

/-! K42R: rules that the layer lacks: a starred target, dicts with tuple keys, sorted over data. -/
namespace K42
open PySem PySem.Spec PyProof.Rows
open L2 (V Vals RelV)
section
variable {prog : Program} {w : World} {A : Around} {E : Value → Shared → Prop} {s : Shared}
/-- a, b, *c = a tuple: the star stands last -/
theorem starLast {l : Addr} {its : List Value} {i : Nat} {Q : List Value → Shared → Prop} (hh : A.handled = none) (ht : IsTup s.heap l its.toArray) (hi : i ≤ its.length) (hz : its.length ≤ 1000)
    (done : ∀ (g : Heap) (tk : Nat), (∀ b o, s.heap.get? b = some o → g.get? b = some o) → Q (its.take i ++ [.ref g.objs.size]) { s with heap := g.push { cls := .type "list", data := .seq (its.drop i).toArray }, toks := tk }) :
    wpAny (model prog w) A (unpackItems (.ref l) (i + 1) (some i)) Q E s := by
  have apart : l ≠ s.heap.objs.size := by
    obtain ⟨o, ho, _⟩ := ht
    exact Nat.ne_of_lt (Heap.lt_size ho)
  unfold unpackItems
  refine wpAny_bind ?walkable
  case walkable =>
    unfold notIterableAtAll
    refine wpAny_bind (wpAny_specialOf ht.typeIs slot_tuple_iter.lookup (wpAny_pure ?_))
    rw [if_neg (show ¬ (false = true) from Bool.false_ne_true)]
    refine wpAny_bind (wpAny_holding (iter_tuple ht ?_))
    refine wpAny_bind (wpAny_holding (draw_tuple apart i 0 _ _ ⟨_, Heap.get?_push_size _ rfl, rfl, rfl⟩ (ht.push _) (by simp; omega) fun g1 hit sb => ?_))
    have ht1 : IsTup g1 l its.toArray := (ht.push _).extBut sb.extBut apart
    rw [Nat.zero_add] at hit
    obtain ⟨oi, hoi, _⟩ := id hit
    obtain ⟨ol, hol, _⟩ := id ht1
    have e1 : (its.toArray.toList.drop 0).take i = its.take i := by simp
    rw [e1]
    have hlen : (its.take i).length = i := by simp; omega
    rw [if_neg (by rw [hlen]; exact Nat.lt_irrefl _)]
    refine wpAny_bind (wpAny_holding (PySem.W.kun_collect (s := { s with heap := g1 }) (T := "tuple_iterator") (.inr (.inr (.inr rfl))) (Walks.tuple (A := A.in1) hh s.heap.objs.size l apart its.toArray) (fun j u st => st.1.typeIs) (k := i) (by simp; omega) ⟨hit, ht1⟩
      (Heap.lt_size hoi) (Heap.lt_size hol) (fun g2 tk kp => ?_) (by rw [sizeLine_eq]; simp; omega)))
    have e2 : its.toArray.toList.drop i = its.drop i := by simp
    rw [e2]
    have e3 : i + 1 - 1 - i = 0 := by omega
    show wpAny _ _ (if (its.drop i).length < i + 1 - 1 - i then _ else _) _ _ _
    rw [e3, if_neg (Nat.not_lt_zero _)]
    show wpAny _ _ (newList ((its.drop i).take ((its.drop i).length - 0)) >>= fun d => pure (its.take i ++ [d] ++ (its.drop i).drop ((its.drop i).length - 0))) _ _ _
    have e4 : (its.drop i).take ((its.drop i).length - 0) = its.drop i := List.take_length
    have e5 : (its.drop i).drop ((its.drop i).length - 0) = [] := List.drop_length
    rw [e4, e5]
    refine wpAny_bind (wpAny_newList (wpAny_pure ?_) (by rw [sizeLine_eq]; simp; omega))
    rw [List.append_nil]
    exact done g2 tk fun b o e => kp b o (Nat.ne_of_lt (Heap.lt_size e)) (sb.extBut b o (Nat.ne_of_lt (Heap.lt_size e)) (Heap.get?_push_of_some _ e))
end
end K42
namespace K42
open PySem PySem.Spec PyProof.Rows
open L2 hiding St
section
variable {X : Cx} {pos : Pos}
/-- (.., *c), the star last -/
theorem pgs_star {t : Expr} {p : Pos} {g : TG} (h : PG X t g) : PGs X [.Starred t p] (gCons g gNil) := by
  refine ⟨fun pins s σ H vs us Q I r hw => ?_⟩
  obtain ⟨v, vr, rfl, hg⟩ := hw
  cases r with
  | cons r1 rr =>
    show wpAny _ _ (assignInOrder [assign t X.env] _) _ _ _
    refine assignInOrder_cons (thn (h.run pins s σ H _ _ _ I r1 hg) fun _ s1 ⟨σ1, H1, I1, e, q1⟩ => ?_)
    subst e
    cases rr
    exact assignInOrder_nil ⟨σ1, H1, I1, q1⟩
/-- a, b, *c = a tuple of at least n - 1 -/
def gStar (K : PySem.W.Frag) (i : Nat) (t : TGs) : TG := fun v σ H Q => ∃ a xs, v = .ref a ∧ SqT K H a xs ∧ i ≤ xs.length ∧ xs.length ≤ 1000 ∧ ∀ D, H D = none → t (xs.take i ++ [.ref D]) σ (upd H D (.lst (xs.drop i))) Q
theorem pg_star {es : List Expr} {k : Nat} {t : TGs} {i : Nat} (hc : X.calm = true) (h : PGs X es t)
    (hn : (assignEach es X.env).length = i + 1 := by rfl) (hst : (assignEach es X.env).findIdx? (·.1) = some i := by rfl) : PG X (.Tuple es k pos) (gStar X.K i t) := by
  refine ⟨fun pins s σ H v u Q I r hw => ?_⟩
  obtain ⟨a, xs, rfl, hq, hi, hz, hw⟩ := hw
  cases r
  obtain ⟨its, rv, ht, _⟩ := I.tuple hq
  have hl := rv.length
  rw [PyProof.Rows.assign_Tuple]
  refine wpAny_bind (wpAny_standAt ?_)
  unfold unpack
  rw [hn, hst]
  refine wpAny_bind (wpAny_holding (starLast (I.ok.hd hc) ht (by rw [← hl]; exact hi) (by rw [← hl]; exact hz) fun g tk kp => ?_))
  have I1 : Inv X pins σ H { s with heap := g, toks := tk } := I.kept kp
  have hz2 : (xs.drop i).length ≤ sizeLine := Nat.le_trans (by rw [List.length_drop]; omega) (show 1000 ≤ sizeLine by decide)
  have I2 : Inv X pins σ (upd H g.objs.size (.lst (xs.drop i))) { s with heap := g.push { cls := .type "list", data := .seq (its.drop i).toArray }, toks := tk } :=
    I1.laid (t' := tk) (fun b o e => Heap.get?_push_of_some _ e) (Nat.le_refl _) ⟨hz2, its.drop i, 0, rv.drop i, Heap.get?_push_size _ rfl⟩
  refine h.run pins _ σ _ (xs.take i ++ [.ref g.objs.size]) _ Q I2 ((rv.take i).append (.cons (show RelV (V.ref g.objs.size) (Value.ref g.objs.size) from rfl) .nil)) (hw _ (I1.hok.fresh (Nat.le_refl _)))
end
end K42

/-! K42S: further rules: rjust with a sign, get of the module's dict, pop and setdefault of dicts with tuple keys, sorted over data. -/
namespace K42
open PySem PySem.Spec PyProof.Rows
open L2 hiding St
section
variable {X : Cx}
/-- s.rjust(n, sign) -/
theorem mt_rjF : MtR X "str.rjust" (fun x xs H Q => ∃ (a : PySem.Str) (i : Int) (f : PySem.Str), x = V.str a ∧ xs = [V.int i, V.str f] ∧ PadOk i = true ∧ f.length = 1 ∧ Q (.str (Txt.rjustF a i (f.cps.getD 0 0))) H) := by
  intro pins s σ H x xs v us Q I rx rs h
  obtain ⟨a, i, f, rfl, rfl, hp, hf, q⟩ := h
  obtain ⟨t, rfl⟩ := rx
  obtain ⟨u1, u2, rfl, ⟨t1, rfl⟩, ⟨t2, rfl⟩⟩ := vals2 rs
  exact rjust_fill hp hf fun t' k => ⟨.str _, H, I.tok k, ⟨t', rfl⟩, q⟩
/-- d.get(e), d a dict of the module with text keys -/
def tKGet (K : PySem.W.Frag) (w : World) (d : Addr) (es : Array DictEntry) (n : Nat) (te : TE) : TE := fun σ H Q => te σ H fun y H2 => ∃ (z : PySem.Str) (r : Option Value) (v : V), y = .str z ∧ PySem.W.nsIn K d z = some r ∧ RelV v (r.getD .none) ∧ Q v H2
theorem pe_kget {o e : Expr} {apos cpos : Pos} {te : TE} {d : Addr} {es : Array DictEntry} {n : Nat} (D : KDict X.K X.w d es n) (ho : PE X o (tC (.ref d))) (he : PE X e te) (m : M1 X o "get" apos e cpos) :
    PE X (.Call (.Attribute o "get" apos) [e] [] cpos) (tKGet X.K X.w d es n te) := by
  refine ⟨fun pins s σ H Q I h => ?_⟩
  refine wpAny_Call_method m.base m.few m.line PySem.F.plainAttrs_dict PySem.F.slot_dict_get PySem.F.type_dict_get (thn (ho.run pins s σ H (fun x H1 => x = .ref d ∧ H1 = H) I ⟨rfl, rfl⟩) fun u s1 ⟨x, H1, I1, rx, ex, eH⟩ => ?_)
  subst ex eH
  obtain rfl : u = Value.ref d := rx
  refine ⟨kd_type D I1, fun b eb => ?_, ?_⟩
  · cases eb
    exact ⟨_, I1.kIn d _ D.at_, rfl⟩
  · rw [m.trees]
    refine Calls.callWith_builtin rfl (Calls.evalArgs_plain (Calls.spliced_cons (thn (he.run pins s1 σ _ _ I1 h) fun iv s2 ⟨y, H2, I2, ry, z, r, v, ey, en, rv, q⟩ => Calls.spliced_nil ?_)))
    subst ey
    obtain ⟨t, rfl⟩ := ry
    refine call_meetsIn PySem.F.slot_dict_get (kd_type D I2) PySem.F.entry_dict_get (PySem.F.args_dict_get_2 _ _) (meets_dict_get (PySem.strKind X.prog X.w) d (PySem.strKind_is X.prog X.w z t) D.low) ⟨_, PySem.W.mapOf_K (prog := X.prog) I2.kIn D.at_ D.lit, ?_⟩
    rw [PySem.W.find_K D.at_ en]
    exact ⟨v, H2, I2.tok _, rv, q⟩
/-! ### dicts with tuple keys: pop, setdefault -/
theorem kt_without {H : Hp} {kvs : List (List L2.Key × V)} {xs : List (List L2.Key × Addr × Value)} (k : List L2.Key) (r : KT H kvs xs) : KT H (dropK kvs k) (withoutH xs k) := L2.DX.KT_drop k r
theorem KT.there {H : Hp} {kvs : List (List L2.Key × V)} {xs : List (List L2.Key × Addr × Value)} (r : KT H kvs xs) {k : List L2.Key} {v : V} (h : valV kvs k = some v) : ∃ p, atKey xs k = some p ∧ RelV v p.2 := by
  have q := r.val k
  rw [h] at q
  cases e : atKey xs k with
  | none =>
    rw [e] at q
    exact q.elim
  | some p =>
    rw [e] at q
    exact ⟨p, rfl, q⟩
theorem KT.gone {H : Hp} {kvs : List (List L2.Key × V)} {xs : List (List L2.Key × Addr × Value)} (r : KT H kvs xs) {k : List L2.Key} (h : valV kvs k = none) : atKey xs k = none := by
  have q := r.val k
  rw [h] at q
  cases e : atKey xs k with
  | none => rfl
  | some p =>
    rw [e] at q
    exact q.elim
def rPop1T : V → List V → Hp → VK → Prop := fun x xs H Q => ∃ (a : Addr) (kvs : List (List L2.Key × V)) (k : List L2.Key) (b : Addr) (v : V), x = .ref a ∧ xs = [.ref b] ∧ H a = some (.dT kvs) ∧ H b = some (.tup (k.map kV)) ∧ valV kvs k = some v ∧ Q v (upd H a (.dT (dropK kvs k)))
theorem mt_pop1T (hu : X.A.units + 1 < cLine) : MtR X "dict.pop" rPop1T := by
  intro pins s σ H x xs v us Q I rx rxs h
  obtain ⟨a, kvs, k, b, v0, rfl, rfl, ha, hb, hv, q⟩ := h
  cases rx
  obtain ⟨u1, rfl, r1⟩ := vals1 rxs
  cases r1
  obtain ⟨z, hd, xs', rel, dd⟩ := dt_of I.hok ha
  have hz : xs'.length ≤ sizeLine := by rw [← Paired.length rel]; exact z
  obtain ⟨p, hp, rv⟩ := KT.there rel hv
  refine call_pop_heap (more := []) (.inl rfl) (PySem.F.args_dict_pop_2 _ _) (knd := tupleKind (mixKind X.prog X.w)) (tupleKind_room_in1 hu) (key_of I.hok hb) hd dd hp (fun g dd' sb => ?_) hz
  obtain ⟨o, es, ep, hq, h2, h3, h4, _, h5⟩ := dd'
  have I2 : Inv X pins σ (upd H a (.dT (dropK kvs k))) { s with heap := g, toks := s.toks + (tupleKind (mixKind X.prog X.w)).draws k } :=
    d_write I (by rw [ha]; exact True.intro) sb ⟨o, hq⟩ ⟨Nat.le_trans (dropK_le kvs k) z, hd, _, KT.keeps (kt_without k rel) (fun c ys ec => by rw [upd_ne (ne_of ec ha (fun z => nomatch z))]; exact ec), o, es, ep, hq, h2, h3, h4, h5⟩
  exact ⟨v0, _, I2, rv, q⟩
def rSetdT : V → List V → Hp → VK → Prop := fun x xs H Q => ∃ (a : Addr) (kvs : List (List L2.Key × V)) (k : List L2.Key) (b : Addr) (y : V), x = .ref a ∧ xs = [.ref b, y] ∧ H a = some (.dT kvs) ∧ H b = some (.tup (k.map kV)) ∧ kvs.length < 1000 ∧
  (∀ v, valV kvs k = some v → Q v H) ∧ (valV kvs k = none → Q y (upd H a (.dT (putK kvs k y))))
theorem mt_setdT (hu : X.A.units + 1 < cLine) : MtR X "dict.setdefault" rSetdT := by
  intro pins s σ H x xs v us Q I rx rxs h
  obtain ⟨a, kvs, k, b, y, rfl, rfl, ha, hb, hl, q1, q2⟩ := h
  cases rx
  obtain ⟨u1, u2, rfl, r1, r2⟩ := vals2 rxs
  cases r1
  obtain ⟨z, hd, xs', rel, dd⟩ := dt_of I.hok ha
  have hz : xs'.length ≤ sizeLine := by rw [← Paired.length rel]; exact z
  refine call_setdefault_heap (knd := tupleKind (mixKind X.prog X.w)) (k := k) (tupleKind_room_in1 hu) (key_of I.hok hb) hd dd (fun p hp => ?_) (fun hn g dd' sb => ?_) hz
  · cases e : valV kvs k with
    | none =>
      rw [KT.gone rel e] at hp
      cases hp
    | some v0 =>
      obtain ⟨p', hp', rv⟩ := KT.there rel e
      rw [hp] at hp'
      cases hp'
      exact ⟨v0, H, I.tok _, rv, q1 v0 e⟩
  · have e : valV kvs k = none := by
      cases e : valV kvs k with
      | none => rfl
      | some v0 =>
        obtain ⟨p', hp', _⟩ := KT.there rel e
        rw [hn] at hp'
        cases hp'
    obtain ⟨o, es, ep, hq, h2, h3, h4, _, h5⟩ := dd'
    have hl2 : (putK kvs k y).length ≤ sizeLine := by
      have := length_putK kvs k y
      exact Nat.le_of_lt (small1000 (by omega))
    have I2 : Inv X pins σ (upd H a (.dT (putK kvs k y))) { s with heap := g, toks := s.toks + (tupleKind (mixKind X.prog X.w)).draws k } :=
      d_write I (by rw [ha]; exact True.intro) sb ⟨o, hq⟩ ⟨hl2, hd, _, KT.keeps (KT.put rel k hb r2) (fun c ys ec => by rw [upd_ne (ne_of ec ha (fun z => nomatch z))]; exact ec), o, es, ep, hq, h2, h3, h4, h5⟩
    exact ⟨y, _, I2, r2, q2 e⟩
/-! ### sorted over data -/
/-- the order of data in pairs (value, what it reads as) -/
abbrev leD (b c : V × PyData) : Bool := PySem.W.dataLe false (fun b : V × PyData => b.2) b c
theorem each_of_vals : ∀ {bs : List (V × PyData)} {us : List Value}, Vals (bs.map (·.1)) us → PySem.W.EachIs (fun v b => RelV b.1 v) us bs
  | [], _, r => by
    cases r
    exact .nil
  | b :: bs, _, r => by
    cases r with
    | cons h t => exact .cons h (each_of_vals t)
theorem vals_of_each : ∀ {bs : List (V × PyData)} {us : List Value}, PySem.W.EachIs (fun v (b : V × PyData) => RelV b.1 v) us bs → Vals (bs.map (·.1)) us
  | _, _, .nil => .nil
  | _, _, .cons h t => .cons h (vals_of_each t)
theorem each_reads {pins : List (Addr × Obj)} {σ : L2.St} {H : Hp} {s : Shared} (I : Inv X pins σ H s) : ∀ {bs : List (V × PyData)} {us : List Value}, Vals (bs.map (·.1)) us → (∀ b ∈ bs, Dp X.K H b.1 b.2) → PySem.W.EachIs (fun v b => ∃ as, Reads s.heap v b.2 as) us bs
  | [], _, r, _ => by
    cases r
    exact .nil
  | b :: bs, _, r, hd => by
    cases r with
    | cons h t => exact .cons (Dp.reads I b.2 b.1 _ (hd b List.mem_cons_self) h) (each_reads I t fun c hc => hd c (List.mem_cons_of_mem _ hc))
def rSortV (K : PySem.W.Frag) : List V → Hp → VK → Prop := fun vs H Q => ∃ (a : Addr) (bs : List (V × PyData)), vs = [V.ref a] ∧ SqL K H a (bs.map (·.1)) ∧ (∀ b ∈ bs, Dp K H b.1 b.2) ∧ PySem.W.AllAlike (bs.map (·.2)) ∧ PySem.W.Sortable (bs.map (·.2)) ∧ (∀ b ∈ bs, b.2.depth ≤ 10) ∧
  ∀ p, H p = none → Q (.ref p) (upd H p (.lst ((bs.mergeSort leD).map (·.1))))
theorem cr_sortV (hu : X.A.units + 64 < cLine) : CallR X (.builtin "sorted") (rSortV X.K) := by
  intro pins s σ H vs us Q I r h
  obtain ⟨a, bs, rfl, hs, hd, hal, hk, hdep, q⟩ := h
  obtain ⟨its, rv, hl, hz⟩ := I.list hs
  obtain ⟨u, rfl, ru⟩ := vals1 r
  obtain rfl : u = Value.ref a := ru
  rw [List.length_map] at hz
  refine PySem.W.sorted_data (bs := bs) (enc := fun b => b.2) hl.isList (each_of_vals rv) (each_reads I rv hd) hal hk hz (fun b hb => by have := hdep b hb; omega) fun out ho he => ?_
  obtain ⟨ep, he'⟩ := PyProof.Rows.sortedAll_at s.heap its out.toArray
  have hlen : ((bs.mergeSort leD).map (·.1)).length ≤ sizeLine := by
    rw [List.length_map, List.length_mergeSort]
    exact hz
  exact ⟨.ref _, upd H (s.heap.objs.size + 1) (.lst ((bs.mergeSort leD).map (·.1))), I.laid (t' := s.toks) (fun _ _ => PyProof.Rows.sortedAll_old) (Nat.le_succ _) ⟨hlen, out, ep, vals_of_each he, he'⟩, rfl, q _ (I.hok.fresh (Nat.le_succ _))⟩
end
end K42

/-! K42T: sorted of a dict with tuple keys. -/
namespace K42
open PySem PySem.Spec PyProof.Rows
open L2 hiding St
def kD : L2.Key → PyData
  | .inl i => .int i
  | .inr x => .str x
/-- what a key tuple reads as -/
def kData (k : List L2.Key) : PyData := .tuple (k.map kD)
abbrev leK (b c : Addr × List L2.Key) : Bool := PySem.W.dataLe false (fun b : Addr × List L2.Key => kData b.2) b c
theorem dp_keys {K : PySem.W.Frag} {H : Hp} : ∀ k : List L2.Key, DpAll K H (k.map kV) (k.map kD)
  | [] => .nil
  | .inl i :: k => .cons (.int i) (dp_keys k)
  | .inr x :: k => .cons (.str x) (dp_keys k)
theorem dp_key {K : PySem.W.Frag} {H : Hp} {a : Addr} {k : List L2.Key} (h : H a = some (.tup (k.map kV))) : Dp K H (.ref a) (kData k) := .tup (SqT.of h) (dp_keys k)
theorem depth_keys : ∀ k : List L2.Key, PyData.depthAll (k.map kD) = 0
  | [] => by simp [PyData.depthAll]
  | .inl i :: k => by
    show PyData.depthAll (.int i :: k.map kD) = 0
    rw [PyData.depthAll, depth_keys k]
    simp [PyData.depth]
  | .inr x :: k => by
    show PyData.depthAll (.str x :: k.map kD) = 0
    rw [PyData.depthAll, depth_keys k]
    simp [PyData.depth]
theorem depth_key (k : List L2.Key) : (kData k).depth ≤ 10 := by
  unfold kData
  rw [PyData.depth, depth_keys]
  omega
section
variable {X : Cx}
def rSortT : List V → Hp → VK → Prop := fun vs H Q => ∃ (a : Addr) (kvs : List (List L2.Key × V)), vs = [V.ref a] ∧ Rd H a (.dT kvs) ∧ PySem.W.AllAlike (kvs.map fun p => kData p.1) ∧ PySem.W.Sortable (kvs.map fun p => kData p.1) ∧
  ∀ (p : Addr) (bs : List (Addr × List L2.Key)), bs.map (·.2) = kvs.map (·.1) → (∀ b ∈ bs, H b.1 = some (.tup (b.2.map kV))) → H p = none → Q (.ref p) (upd H p (.lst ((bs.mergeSort leK).map fun b => V.ref b.1)))
theorem vals_rs : ∀ {bs : List (Addr × List L2.Key)} {us : List Value}, PySem.W.EachIs (fun v (b : Addr × List L2.Key) => v = Value.ref b.1) us bs → Vals (bs.map fun b => V.ref b.1) us
  | _, _, .nil => .nil
  | _, _, .cons h t => .cons h (vals_rs t)
theorem each_rs : ∀ bs : List (Addr × List L2.Key), PySem.W.EachIs (fun v (b : Addr × List L2.Key) => v = Value.ref b.1) (bs.map fun b => Value.ref b.1) bs
  | [] => .nil
  | _ :: bs => .cons rfl (each_rs bs)
/-- behind a new list of them: none of the tuples is that list -/
theorem each_tups {pins : List (Addr × Obj)} {σ : L2.St} {H : Hp} {s : Shared} (I : Inv X pins σ H s) {g : Heap} {l : Addr} : ∀ {bs : List (Addr × List L2.Key)}, (∀ b ∈ bs, H b.1 = some (.tup (b.2.map kV))) → (∀ b o, s.heap.get? b = some o → g.get? b = some o) →
    PySem.W.EachIs (fun v (b : Addr × List L2.Key) => ∃ as, Reads g v (kData b.2) as ∧ l ∉ as) (bs.map fun b => Value.ref b.1) bs
  | [], _, _ => .nil
  | b :: bs, h, k => by
    refine .cons ?_ (each_tups I (fun c hc => h c (List.mem_cons_of_mem _ hc)) k)
    obtain ⟨as, q⟩ := Dp.reads I (kData b.2) (.ref b.1) (.ref b.1) (dp_key (K := X.K) (h b List.mem_cons_self)) rfl
    have e : as = [] := by
      have flat : ∀ (ks : List L2.Key) (us : List Value) (cs : List Addr), ReadsAll s.heap us (ks.map kD) cs → cs = [] := by
        intro ks
        induction ks with
        | nil =>
          intro us cs r
          have r' : ReadsAll s.heap us [] cs := r
          cases r'
          rfl
        | cons x ks ih =>
          intro us cs r
          cases x with
          | inl i =>
            have r' : ReadsAll s.heap us (.int i :: ks.map kD) cs := r
            cases r' with
            | cons h1 h2 =>
              cases h1
              rw [ih _ _ h2]
              rfl
          | inr z =>
            have r' : ReadsAll s.heap us (.str z :: ks.map kD) cs := r
            cases r' with
            | cons h1 h2 =>
              cases h1
              rw [ih _ _ h2]
              rfl
      have q' : Reads s.heap (.ref b.1) (.tuple (b.2.map kD)) as := q
      cases q' with
      | tuple h1 h2 h3 h4 => exact flat _ _ _ h4
    subst e
    exact ⟨[], PyProof.Rows.Reads.keeps (fun c o => k c o) q, by simp⟩
theorem keys_of {H : Hp} : ∀ {kvs : List (List L2.Key × V)} {xs : List (List L2.Key × Addr × Value)}, KT H kvs xs → (xs.map fun x => (x.2.1, x.1)).map (·.2) = kvs.map (·.1)
  | _, _, .nil => rfl
  | _, _, .cons (a := p) (b := q) h t => by
    have ih := keys_of t
    rw [List.map_cons, List.map_cons, List.map_cons, ih, h.1]
theorem tups_of {H : Hp} : ∀ {kvs : List (List L2.Key × V)} {xs : List (List L2.Key × Addr × Value)}, KT H kvs xs → ∀ b ∈ xs.map (fun x => (x.2.1, x.1)), H b.1 = some (.tup (b.2.map kV))
  | _, _, .nil, b, hb => by simp at hb
  | _, _, .cons (a := p) (b := q) h t, b, hb => by
    rw [List.map_cons] at hb
    rcases List.mem_cons.mp hb with e | hb
    · subst e
      have z := h.2.1
      rw [h.1] at z
      exact z
    · exact tups_of t b hb
theorem cr_sortT (hc : X.calm = true) (hu : X.A.units + 64 < cLine) : CallR X (.builtin "sorted") rSortT := by
  intro pins s σ H vs us Q I r h
  obtain ⟨d, kvs, rfl, hd, hal, hk, q⟩ := h
  obtain ⟨u, rfl, rx⟩ := vals1 r
  obtain rfl : u = Value.ref d := rx
  obtain ⟨z, lo, ks, pr, o, es, ep, ho, hx, hdt, he, hn⟩ := (show ObjOk X.prog X.w H s.heap d (.dT kvs) from hd.ok I.hok)
  have l1 : es.size = ks.length := size_of_entries he
  have l2 : kvs.length = ks.length := Paired.length pr
  refine Calls.call_function_entry PyProof.Rows.kind_sorted PyProof.Rows.plain_sorted PyProof.Rows.entry_sorted (PyProof.Rows.args_sorted1 _) ?_
  unfold Builtin.«sorted»
  refine wpAny_bind (m := checkCount "sorted" 1 1 _) (wpAny_pure ?_)
  refine wpAny_bind (PySem.W.kdu_collect (A := X.A.in1) (kdl_raw lo hx hdt) (I.ok.hd hc) ho (by omega) fun g tk acc kp hacc => ?_)
  generalize hbs : (ks.map fun x => (x.2.1, x.1)) = bs
  have hbk : bs.map (·.2) = kvs.map (·.1) := by
    rw [← hbs]
    exact keys_of pr
  have hbt : ∀ b ∈ bs, H b.1 = some (.tup (b.2.map kV)) := by
    rw [← hbs]
    exact tups_of pr
  have ea : acc.toList = bs.map fun b => Value.ref b.1 := by
    rw [← hbs, List.map_map]
    apply List.ext_getElem?
    intro j
    rw [List.getElem?_map]
    cases hj : acc.toList[j]? with
    | none =>
      have h1 := List.getElem?_eq_none_iff.mp hj
      rw [Array.length_toList, hacc.1, l1] at h1
      rw [List.getElem?_eq_none h1] <;> rfl
    | some v =>
      obtain ⟨en, hen, hv⟩ := hacc.2 j v (by rw [← Array.getElem?_toList]; exact hj)
      have qe := entry_at he j
      rw [hen] at qe
      cases hb : ks[j]? with
      | none =>
        rw [hb] at qe
        exact nomatch (show some en = none from qe)
      | some b =>
        rw [hb] at qe
        have e2 : en = entryOfKey (tupleKind (mixKind X.prog X.w)) b := Option.some.inj qe
        rw [hv, e2] <;> rfl
  have hzb : bs.length ≤ sizeLine := by rw [← hbs, List.length_map, ← l2]; exact z
  rw [ea]
  refine wpAny_bind (wpAny_newList ?_ (by rw [List.length_map]; exact hzb))
  generalize hvs : (bs.map fun b => Value.ref b.1) = its
  have hoL : (g.push (seqObj "list" its.toArray 0)).get? g.objs.size = some (seqObj "list" its.toArray 0) := Heap.get?_push_size _ rfl
  show wpAny _ _ _ _ _ { s with heap := g.push (seqObj "list" its.toArray 0), toks := tk }
  have I1 : Inv X pins σ H { s with heap := g, toks := tk } := I.kept kp
  have hal' : PySem.W.AllAlike (bs.map fun b => kData b.2) := by
    have e : (bs.map fun b => kData b.2) = kvs.map fun p => kData p.1 := by
      have := congrArg (List.map kData) hbk
      rw [List.map_map, List.map_map] at this
      exact this
    rw [e]
    exact hal
  have hk' : PySem.W.Sortable (bs.map fun b => kData b.2) := by
    have e : (bs.map fun b => kData b.2) = kvs.map fun p => kData p.1 := by
      have := congrArg (List.map kData) hbk
      rw [List.map_map, List.map_map] at this
      exact this
    rw [e]
    exact hk
  refine wpAny_bind (wpAny_holding (PySem.W.list_sort_data (s := { s with heap := g.push (seqObj "list" its.toArray 0), toks := tk }) (bs := bs) (enc := fun b => kData b.2) (R := fun v b => v = Value.ref b.1) (n := 0) hoL (by rw [← hvs]; exact each_rs bs)
    (by rw [← hvs]; exact each_tups (l := g.objs.size) I1 hbt (fun b o e => Heap.get?_push_of_some _ e)) hal' hk' hzb (fun b hb => ?_) fun out hol hoe => ?_))
  · have := depth_key b.2
    show X.A.in1.units + 1 + (kData b.2).depth < cLine
    have : X.A.in1.units = X.A.units + 1 := rfl
    omega
  · obtain ⟨e', he'⟩ := PyProof.Rows.sortedHeap_at (vs := its) (out := out.toArray) hoL
    have hlen : ((bs.mergeSort leK).map fun b => V.ref b.1).length ≤ sizeLine := by
      rw [List.length_map, List.length_mergeSort]
      exact hzb
    refine wpAny_pure ⟨_, rfl, .ref g.objs.size, upd H g.objs.size (.lst ((bs.mergeSort leK).map fun b => V.ref b.1)), I1.laid (t' := tk) (fun b u e => ?_) (Nat.le_refl _)
      (show ObjOk X.prog X.w _ _ _ (.lst _) from ⟨hlen, out, e', vals_rs hoe, he'⟩), rfl, q _ bs hbk hbt (I1.hok.fresh (Nat.le_refl _))⟩
    have hb : b < g.objs.size := Heap.lt_size e
    rw [PyProof.Rows.sortedHeap_old (Nat.ne_of_lt hb) (by rw [size_push']; exact Nat.lt_succ_of_lt hb)]
    exact Heap.get?_push_of_some _ e
end
end K42

/-! K42E: path_of, parent_of, last_part; is_text, is_count, is_make. -/
namespace K42
open PySem L2
open PyProof.Rows (envOfC)
open C8 (Cal Met Mak Def cal0 met0 mak0 pe_c pe_mk pe_mt pe_mt0 fnScope_by fnScope fnBody fnArgs pe_gc)
/-! ### plain: the deeds that the law draws -/
def PATHS : List PySem.Str := ["/a", "/b", "/a/c", "/a/d", "/b/e", "/a/q", "/a/q-000000"]
def MPATHS : List PySem.Str := ["/a", "/b", "/a/c", "/a/d", "/b/e", "/a/q"]
def TEXTS : List PySem.Str := ["", "t", "two words", "~"]
def textOk (s : PySem.Str) : Bool := decide (s.length ≤ 40) && (sgns s).all fun c => decide (32 ≤ c) && decide (c ≤ 126)
theorem texts_ok : TEXTS.all textOk = true := by decide +kernel
theorem paths_ok : PATHS.all (fun p => pathOk p && decide (p ≠ "/")) = true := by decide +kernel
theorem mpaths_ok : MPATHS.all (fun p => pathOk p && decide (p ≠ "/") && decide (47 ∈ sgns p) && (match (partsOf p).getLast? with | some z => wordOk z | none => false)) = true := by decide +kernel
/-- a count that a deed asks for -/
def CountV (c : V) : Prop := c = .non ∨ ∃ n : Int, c = .int n ∧ 0 ≤ n
/-- what a plain deed's tuple holds -/
inductive PlainL : List V → Prop
  | make {p t : PySem.Str} {own num : Bool} : p ∈ MPATHS → t ∈ TEXTS → PlainL [.str "make", .str p, .str t, .bl own, .bl num]
  | put {p t : PySem.Str} {c : V} : p ∈ PATHS → t ∈ TEXTS → CountV c → PlainL [.str "put", .str p, .str t, c]
  | drop {p : PySem.Str} {c : V} : p ∈ PATHS → CountV c → PlainL [.str "drop", .str p, c]
  | see {p : PySem.Str} {c : V} : p ∈ PATHS → CountV c → PlainL [.str "see", .str p, c]
def PlainV (H : Hp) (v : V) : Prop := ∃ t xs, v = .ref t ∧ H t = some (.tup xs) ∧ PlainL xs
theorem PlainV.same {H H' : Hp} {v : V} (h : PlainV H v) (s : Same H H') : PlainV H' v := by
  obtain ⟨t, xs, e, ht, p⟩ := h
  exact ⟨t, xs, e, s _ _ ht, p⟩
section
variable {P : Program} {w : World} {K : PySem.W.Frag} {mg : PySem.Str → Option Value} {base : Heap}
/-- the path of parts -/
def spPathOf (K : PySem.W.Frag) : Sp := fun vs H Q _ => ∃ (p : Addr) (ys : List PySem.Str), vs = [.ref p] ∧ SqL K H p (ys.map V.str) ∧ (ys.map (·.length)).sum + ys.length ≤ 10000 ∧ (Txt.join "/" ys).length ≤ 20000 ∧ Q (.str ("/" ++ Txt.join "/" ys)) H
theorem ok_pathOf (T : Tx K w mg) (D : DB K mg "path_of" sPathOf pPathOf) : Cal P w K mg base 1 "path_of" (spPathOf K) [] := by
  refine D.cal scPathOf (fun vs H Q E h => ?_) (fun f cdv A outer s H vs Q E hr h => ?_)
  · obtain ⟨p, ys, rfl, _⟩ := h
    rfl
  · obtain ⟨p, ys, rfl, hS, hz, hj, k⟩ := h
    refine ⟨_, pss_one (ps_ret (pe_op op_add_str (pe_gc (by rfl) T.root) (pe_join pe_str (pv 0)))), ?_⟩
    refine ⟨⟨_, rfl⟩, _, rfl, _, p, ys, rfl, rfl, .inl hS, ?_, _, _, rfl, rfl, ?_, k⟩
    · have e : ("/" : PySem.Str).length = 1 := by decide +kernel
      rw [e]
      omega
    · have e : ("/" : PySem.Str).length = 1 := by decide +kernel
      rw [e]
      exact Nat.le_trans (Nat.add_le_add_left hj 1) (by decide)
theorem join_len (ys : List PySem.Str) : (Txt.join "/" ys).length ≤ (ys.map (·.length)).sum + ys.length := by
  have h : (TL.joinL [47] (ys.map TL.tl)).length ≤ ((ys.map TL.tl).map List.length).sum + (ys.map TL.tl).length := by
    generalize ys.map TL.tl = l
    induction l with
    | nil => simp [TL.joinL]
    | cons a l ih =>
      cases l with
      | nil => simp [TL.joinL]
      | cons b l =>
        simp only [TL.joinL, List.length_append, List.map_cons, List.sum_cons, List.length_cons] at ih ⊢
        simp only [List.length_nil]
        omega
  have e : TL.tl ("/" : PySem.Str) = [47] := by decide +kernel
  have q := TL.tl_join "/" ys
  rw [e] at q
  rw [TL.join_eq, TL.len_tl, q]
  refine Nat.le_trans h ?_
  rw [List.map_map, List.length_map]
  have e2 : (List.length ∘ TL.tl) = fun x : PySem.Str => x.length := funext fun x => (TL.len_tl x).symm
  rw [e2]
  exact Nat.le_refl _
/-- the path above -/
def spParentOf : Sp := fun vs H Q _ => ∃ s : PySem.Str, vs = [.str s] ∧ s.length ≤ 1000 ∧ ∀ H', Same H H' → Q (.str (parentOf s)) H'
theorem ok_parentOf (D : DB K mg "parent_of" sParentOf pParentOf) (cP : Cal P w K mg base 1 "parts_of" spPartsOf []) (cJ : Cal P w K mg base 1 "path_of" (spPathOf K) []) : Cal P w K mg base 2 "parent_of" spParentOf [] := by
  refine D.cal scParentOf (fun vs H Q E h => ?_) (fun f cdv A outer s H vs Q E hr h => ?_)
  · obtain ⟨z, rfl, _⟩ := h
    rfl
  · obtain ⟨z, rfl, hz, k⟩ := h
    refine ⟨_, pss_one (ps_ret (pe_c cJ hr (by decide) (by rfl) (pa_cons (pe_slice sl_list (pe_c cP hr (by decide) (by rfl) (pa_cons (pv 0) pa_nil)) po_none (po_some (pe_un un_neg pe_int))) pa_nil))), ?_⟩
    refine ⟨_, rfl, z, rfl, hz, fun p H1 s1 hp hL => ⟨_, rfl, _, rfl, p, _, rfl, SqL.of hL, fun q hq => ?_⟩⟩
    have hs := partsOf_sum z
    have h1 : (((partsOf z).dropLast).map (·.length)).sum ≤ ((partsOf z).map (·.length)).sum := by
      rw [List.dropLast_eq_take, List.map_take]
      exact sum_take_le _ _
    have h2 : ((partsOf z).dropLast).length ≤ (partsOf z).length := by rw [List.length_dropLast]; omega
    have h3 := join_len (partsOf z).dropLast
    refine ⟨q, (partsOf z).dropLast, rfl, SqL.of ?_, by omega, by omega, k _ (s1.trans (same_upd hq))⟩
    rw [upd_same]
    have e : cutV ((partsOf z).map V.str) none (some (-1)) = ((partsOf z).dropLast).map V.str := by rw [cut_but1, List.map_dropLast]
    exact congrArg (fun l => some (HO.lst l)) e
/-- the last part -/
def spLastPart : Sp := fun vs H Q _ => ∃ (s z : PySem.Str), vs = [.str s] ∧ s.length ≤ 1000 ∧ (partsOf s).getLast? = some z ∧ ∀ H', Same H H' → Q (.str z) H'
theorem ok_lastPart (D : DB K mg "last_part" sLastPart pLastPart) (cP : Cal P w K mg base 1 "parts_of" spPartsOf []) : Cal P w K mg base 2 "last_part" spLastPart [] := by
  refine D.cal scLastPart (fun vs H Q E h => ?_) (fun f cdv A outer s H vs Q E hr h => ?_)
  · obtain ⟨z, y, rfl, _⟩ := h
    rfl
  · obtain ⟨z, y, rfl, hz, hy, k⟩ := h
    refine ⟨_, pss_one (ps_ret (pe_ix ix_list (pe_c cP hr (by decide) (by rfl) (pa_cons (pv 0) pa_nil)) (pe_un un_neg pe_int) (fun _ _ => rfl))), ?_⟩
    refine ⟨_, rfl, z, rfl, hz, fun p H1 s1 hp hL => ⟨_, rfl, p, _, _, .str y, rfl, rfl, SqL.of hL, ?_, k _ s1⟩⟩
    obtain ⟨l, e⟩ := List.getLast?_eq_some_iff.mp hy
    rw [e, List.map_append]
    exact atI_last _ _
theorem sgn_ge {c : Nat} (h : 32 ≤ c) : (!decide (sgns (⟨#[c]⟩ : PySem.Str) < sgns " ")) = true := by
  have e : sgns (" " : PySem.Str) = [32] := by decide +kernel
  rw [e]
  have : ¬ ([c] < [32]) := by
    rw [List.cons_lt_cons_iff]
    rintro (q | ⟨_, q⟩)
    · exact absurd q (Nat.not_lt.mpr h)
    · exact absurd q (List.not_lt_nil _)
  show (!decide ([c] < [32])) = true
  rw [decide_eq_false this]
  rfl
theorem sgn_le {c : Nat} (h : c ≤ 126) : (!decide (sgns "~" < sgns (⟨#[c]⟩ : PySem.Str))) = true := by
  have e : sgns ("~" : PySem.Str) = [126] := by decide +kernel
  rw [e]
  have : ¬ ([126] < [c]) := by
    rw [List.cons_lt_cons_iff]
    rintro (q | ⟨_, q⟩)
    · exact absurd q (Nat.not_lt.mpr h)
    · exact absurd q (List.not_lt_nil _)
  show (!decide ([126] < [c])) = true
  rw [decide_eq_false this]
  rfl
/-- of a node's text: True -/
def spIsText : Sp := fun vs H Q _ => ∃ s : PySem.Str, vs = [.str s] ∧ textOk s = true ∧ ∀ H', Same H H' → Q (.bl true) H'
theorem ok_isText (T : Tx K w mg) (D : DB K mg "is_text" sIsText pIsText) : Cal P w K mg base 1 "is_text" spIsText [] := by
  refine D.cal scIsText (fun vs H Q E h => ?_) (fun f cdv A outer s H vs Q E hr h => ?_)
  · obtain ⟨n, rfl, _⟩ := h
    rfl
  · obtain ⟨z, rfl, hz, k⟩ := h
    unfold textOk at hz
    simp only [Bool.and_eq_true, decide_eq_true_eq, List.all_eq_true] at hz
    obtain ⟨z40, zl⟩ := hz
    refine ⟨_, pss_one (ps_ret (pe_and (pe_callB call_isi (by rfl) T.isinstance (by decide +kernel) (pa_cons (pv 0) (pa_cons (pe_bltn (v := .ty "str") (by rfl) T.str (by decide +kernel) rfl) pa_nil)))
      (pe_and (pe_cmpR op_le (pe_callB call_len_str (by rfl) T.len PySem.boot_len (pa_cons (pv 0) pa_nil)) (pe_gc (by rfl) T.mostText) (nomark _))
      (pe_one (pe_callB (cr_all rfl) (by rfl) T.all (by decide +kernel) (pa_cons
        (pe_lc (own := [("sign", 1)]) (g := gName 1) (tt := tYes) rfl scIsText.nd (pi_str (pv 0)) (blkOk_by (N := nIsText) (sc := fnScope sIsText) (by decide +kernel)) (fun _ _ _ _ _ => pg_name (i := 1) scIsText.nd rfl (Or.inl rfl)) (fun _ _ _ _ _ => pts_nil)
          (fun _ _ _ _ _ => pe_chain op_le_str op_le_str pe_str (pv 1) pe_str)) pa_nil)))))), ?_⟩
    refine ⟨_, rfl, _, _, _, _, true, rfl, .ty _, .base (.str _), kit_ty (by decide +kernel), true, rfl, iteT ?_⟩
    refine ⟨_, rfl, z, rfl, Nat.le_trans z40 (by decide), _, _, rfl, rfl, _, rfl, ?_⟩
    have e1 : decide ((z.length : Int) ≤ 40) = true := decide_eq_true (by omega)
    rw [if_pos e1]
    refine ⟨_, rfl, z, rfl, fun D hD => ?_⟩
    refine lc_true walk_str hD (Nat.le_trans (show z.cps.size ≤ 40 from z40) (by decide)) (fun H _ => True.intro) (fun i x H1 H2 Z hi s1 y kz => ?_) fun H1 s1 hL => ?_
    · obtain ⟨rfl, c, hc, rfl⟩ := y
      obtain ⟨c1, c2⟩ := zl c (by rw [Array.mem_toList_iff]; exact Array.mem_of_getElem? hc)
      refine ⟨rfl, _, rfl, _, _, rfl, rfl, _, rfl, ?_⟩
      rw [if_pos (sgn_ge c1)]
      refine ⟨_, _, rfl, rfl, ?_⟩
      show Z (.bl (!decide (sgns "~" < sgns (⟨#[c]⟩ : PySem.Str)))) _
      rw [sgn_le c2]
      exact kz _ (Same.refl _)
    · refine ⟨D, _, rfl, SqL.of hL, ?_⟩
      rw [all_true]
      exact k _ s1
/-- of a count that is wanted, or None: True -/
def spIsCount : Sp := fun vs H Q _ => ∃ c : V, vs = [c] ∧ CountV c ∧ Q (.bl true) H
theorem ok_isCount (D : DB K mg "is_count" sIsCount pIsCount) (cW : Cal P w K mg base 1 "is_whole" spIsWhole []) : Cal P w K mg base 2 "is_count" spIsCount [] := by
  refine D.cal scIsCount (fun vs H Q E h => ?_) (fun f cdv A outer s H vs Q E hr h => ?_)
  · obtain ⟨c, rfl, _⟩ := h
    rfl
  · obtain ⟨c, rfl, hc, k⟩ := h
    refine ⟨_, pss_one (ps_ret (pe_or (pe_cmp (pc_isN (pv 0)) (nomark _)) (pe_one (pe_and (pe_c cW hr (by decide) (by rfl) (pa_cons (pv 0) pa_nil)) (pe_one (pe_cmpR op_ge (pv 0) pe_int (nomark _))))))), ?_⟩
    refine ⟨_, rfl, _, rfl, ?_⟩
    rcases hc with rfl | ⟨n, rfl, h0⟩
    · exact k
    · refine ⟨_, rfl, n, rfl, _, rfl, iteT ?_⟩
      refine ⟨_, rfl, _, _, rfl, rfl, ?_⟩
      exact q_true (decide_eq_true h0) k
/-- of a make's path and rest: True -/
def spIsMake (K : PySem.W.Frag) : Sp := fun vs H Q _ => ∃ (p t : PySem.Str) (own num : Bool) (l : Addr), vs = [.str p, .ref l] ∧ SqL K H l [.str t, .bl own, .bl num] ∧ p ∈ MPATHS ∧ t ∈ TEXTS ∧ ∀ H', Same H H' → Q (.bl true) H'
theorem mpath_of {p : PySem.Str} (h : p ∈ MPATHS) : pathOk p = true ∧ p ≠ "/" ∧ 47 ∈ sgns p ∧ ∃ z, (partsOf p).getLast? = some z ∧ wordOk z = true := by
  have q := List.all_eq_true.mp mpaths_ok p h
  simp only [Bool.and_eq_true, decide_eq_true_eq] at q
  obtain ⟨⟨⟨q1, q2⟩, q3⟩, q4⟩ := q
  cases e : (partsOf p).getLast? with
  | none =>
    rw [e] at q4
    cases q4
  | some z =>
    rw [e] at q4
    exact ⟨q1, q2, q3, z, rfl, q4⟩
theorem path_len {p : PySem.Str} (h : pathOk p = true) : p.length ≤ 1000 := by
  unfold pathOk at h
  simp only [Bool.and_eq_true, decide_eq_true_eq] at h
  exact h.1.1.1
theorem text_of {t : PySem.Str} (h : t ∈ TEXTS) : textOk t = true := List.all_eq_true.mp texts_ok t h
theorem ok_isMake (T : Tx K w mg) (D : DB K mg "is_make" sIsMake pIsMake) (cT : Cal P w K mg base 1 "is_text" spIsText []) (cW : Cal P w K mg base 1 "is_word" spIsWord []) (cL : Cal P w K mg base 2 "last_part" spLastPart []) : Cal P w K mg base 3 "is_make" (spIsMake K) [] := by
  refine D.cal scIsMake (fun vs H Q E h => ?_) (fun f cdv A outer s H vs Q E hr h => ?_)
  · obtain ⟨p, t, own, num, l, rfl, _⟩ := h
    rfl
  · obtain ⟨p, t, own, num, l, rfl, hS, hp, ht, k⟩ := h
    obtain ⟨p1, p2, p3, z, pz, pw⟩ := mpath_of hp
    refine ⟨_, pss_cons (ps_asg (pv 1) (pg_unl rfl (pgs_cons (pg_name (i := 2) scIsMake.nd rfl (Or.inl rfl)) (pgs_cons (pg_name (i := 3) scIsMake.nd rfl (Or.inl rfl)) (pgs_cons (pg_name (i := 4) scIsMake.nd rfl (Or.inl rfl)) pgs_nil)))))
      (pss_cons (ps_if (PW.pt (pw_or (pt_cmpR op_eq (pv 0) (pe_gc (by rfl) T.root) (nomark _)) (pw_or (pt_not (pt_val (pe_c cT hr (by decide) (by rfl) (pa_cons (pv 2) pa_nil))))
        (pw_or (pt_not (pt_val (pe_callB call_isi (by rfl) T.isinstance (by decide +kernel) (pa_cons (pv 3) (pa_cons (pe_bltn (v := .ty "bool") (by rfl) T.bool (by decide +kernel) rfl) pa_nil)))))
        (pw_or1 (pt_not (pt_val (pe_callB call_isi (by rfl) T.isinstance (by decide +kernel) (pa_cons (pv 4) (pa_cons (pe_bltn (v := .ty "bool") (by rfl) T.bool (by decide +kernel) rfl) pa_nil)))))))))) (pss_one (ps_ret pe_bl)) pss_nil)
      (pss_one (ps_ret (pe_or (pe_not (pv 4)) (pe_one (pe_c cW hr (by decide) (by rfl) (pa_cons (pe_c cL hr (by decide) (by rfl) (pa_cons (pv 0) pa_nil)) pa_nil))))))), ?_⟩
    refine ⟨_, rfl, l, _, rfl, hS, rfl, _, _, rfl, _, _, rfl, _, _, rfl, rfl, ?_⟩
    refine ⟨_, rfl, rfl, _, rfl, ?_⟩
    have e1 : decide (V.str p = V.str "/") = false := decide_eq_false fun e => p2 (V.str.inj e)
    rw [e1]
    refine iteF ⟨_, rfl, t, rfl, text_of ht, fun H1 s1 => ⟨_, rfl, iteF ?_⟩⟩
    refine ⟨_, rfl, _, _, _, _, true, rfl, .ty _, .base (.bl _), kit_ty (by decide +kernel), true, rfl, iteF ?_⟩
    refine ⟨_, rfl, _, _, _, _, true, rfl, .ty _, .base (.bl _), kit_ty (by decide +kernel), true, rfl, iteF ?_⟩
    refine ⟨_, rfl, num, rfl, _, rfl, ?_⟩
    refine ite2 (fun c => k _ s1) (fun c => ?_)
    exact ⟨_, rfl, p, z, rfl, path_len p1, pz, fun H2 s2 => ⟨z, rfl, pw, fun H3 s3 => k _ ((s1.trans s2).trans s3)⟩⟩
end
end K42

/-! K42F: is_plain, is_deed, is_entry. -/
namespace K42
open PySem L2
open PyProof.Rows (envOfC)
open C8 (Cal Met Mak Def cal0 met0 mak0 pe_c pe_mk pe_mt pe_mt0 fnScope_by fnScope fnBody fnArgs pe_gc)
theorem path_of' {p : PySem.Str} (h : p ∈ PATHS) : pathOk p = true ∧ p ≠ "/" := by
  have q := List.all_eq_true.mp paths_ok p h
  simp only [Bool.and_eq_true, decide_eq_true_eq] at q
  exact q
theorem mpath_in {p : PySem.Str} (h : p ∈ MPATHS) : p ∈ PATHS := by
  unfold MPATHS at h
  unfold PATHS
  simp only [List.mem_cons, List.not_mem_nil, or_false] at h
  rcases h with h | h | h | h | h | h <;> simp [h]
theorem noNe (n : Int) : ¬ ((!decide (V.int n = V.int n)) = true) := by simp
section
variable {P : Program} {w : World} {K : PySem.W.Frag} {mg : PySem.Str → Option Value} {base : Heap}
/-- of a plain deed True; of a tuple of less than three things False -/
def spIsPlain : Sp := fun vs H Q _ => ∃ (t : Addr) (xs : List V), vs = [.ref t] ∧ H t = some (.tup xs) ∧ ((PlainL xs ∧ ∀ H', Same H H' → Q (.bl true) H') ∨ (xs.length < 3 ∧ Q (.bl false) H))
theorem PlainL.len {xs : List V} (h : PlainL xs) : ∃ (wd p : PySem.Str) (r : List V), xs = .str wd :: .str p :: r ∧ 1 ≤ r.length ∧ r.length ≤ 3 ∧ p ∈ PATHS := by
  cases h with
  | make a b => exact ⟨_, _, _, rfl, by simp, by simp, mpath_in a⟩
  | put a b c => exact ⟨_, _, _, rfl, by simp, by simp, a⟩
  | drop a c => exact ⟨_, _, _, rfl, by simp, by simp, a⟩
  | see a c => exact ⟨_, _, _, rfl, by simp, by simp, a⟩
theorem ok_isPlain (T : Tx K w mg) (D : DB K mg "is_plain" sIsPlain pIsPlain) (cP : Cal P w K mg base 3 "is_path" spIsPath []) (cM : Cal P w K mg base 3 "is_make" (spIsMake K) []) (cT : Cal P w K mg base 1 "is_text" spIsText []) (cC : Cal P w K mg base 2 "is_count" spIsCount []) :
    Cal P w K mg base 4 "is_plain" spIsPlain [] := by
  refine D.cal scIsPlain (fun vs H Q E h => ?_) (fun f cdv A outer s H vs Q E hr h => ?_)
  · obtain ⟨t, xs, rfl, _⟩ := h
    rfl
  · obtain ⟨t, xs, rfl, ht, h⟩ := h
    obtain ⟨d, es, n, cL, kd, k5, k4, k3, k3'⟩ := T.long
    refine ⟨_, pss_cons (ps_if (PW.pt (pw_or (pt_not (pt_val (pe_callB call_isi (by rfl) T.isinstance (by decide +kernel) (pa_cons (pv 0) (pa_cons (pe_bltn (v := .ty "tuple") (by rfl) T.tuple (by decide +kernel) rfl) pa_nil)))))
        (pw_or (pt_cmpR op_lt (pe_callB call_len_seq (by rfl) T.len PySem.boot_len (pa_cons (pv 0) pa_nil)) pe_int (nomark _))
        (pw_or1 (pt_not (pt_val (pe_callB call_isi (by rfl) T.isinstance (by decide +kernel) (pa_cons (pe_ix ix_tup (pv 0) pe_int (fun _ _ => rfl)) (pa_cons (pe_bltn (v := .ty "str") (by rfl) T.str (by decide +kernel) rfl) pa_nil))))))))) (pss_one (ps_ret pe_bl)) pss_nil)
      (pss_cons (ps_asg (pv 0) (pg_star (i := 2) rfl (pgs_cons (pg_name (i := 1) scIsPlain.nd rfl (Or.inl rfl)) (pgs_cons (pg_name (i := 2) scIsPlain.nd rfl (Or.inl rfl)) (pgs_star (pg_name (i := 3) scIsPlain.nd rfl (Or.inl rfl)))))))
      (pss_cons (ps_if (PW.pt (pw_or (pt_cmpR op_ne (pe_kget kd (pe_gc (by rfl) cL) (pv 1) ⟨by rfl, by rfl, by rfl, by rfl⟩) (pe_callB call_len_seq (by rfl) T.len PySem.boot_len (pa_cons (pv 0) pa_nil)) (nomark _))
        (pw_or1 (pt_not (pt_val (pe_c cP hr (by decide) (by rfl) (pa_cons (pv 2) pa_nil))))))) (pss_one (ps_ret pe_bl)) pss_nil)
      (pss_cons (ps_if (pt_cmpR op_eq (pv 1) pe_str (nomark _)) (pss_one (ps_ret (pe_c cM hr (by decide) (by rfl) (pa_cons (pv 2) (pa_cons (pv 3) pa_nil))))) pss_nil)
      (pss_cons (ps_if (pt_cmpR op_eq (pv 1) pe_str (nomark _)) (pss_one (ps_ret (pe_and (pe_c cT hr (by decide) (by rfl) (pa_cons (pe_ix ix_list (pv 3) pe_int (fun _ _ => rfl)) pa_nil)) (pe_one (pe_c cC hr (by decide) (by rfl) (pa_cons (pe_ix ix_list (pv 3) pe_int (fun _ _ => rfl)) pa_nil)))))) pss_nil)
      (pss_one (ps_ret (pe_and (pe_c cC hr (by decide) (by rfl) (pa_cons (pe_ix ix_list (pv 3) pe_int (fun _ _ => rfl)) pa_nil)) (pe_one (pe_or (pe_cmpR op_eq (pv 1) pe_str (nomark _)) (pe_one (pe_cmpR op_ne (pv 2) (pe_gc (by rfl) T.root) (nomark _)))))))))))), ?_⟩
    refine ⟨_, rfl, _, _, _, _, true, rfl, .ty _, .base (.tup ht), kit_ty (by decide +kernel), true, rfl, iteF ?_⟩
    refine ⟨_, rfl, t, xs, rfl, .inr (SqT.of ht), _, _, rfl, rfl, _, rfl, ?_⟩
    rcases h with ⟨hp, k⟩ | ⟨h3, k⟩
    · obtain ⟨wd, p, r, rfl, r1, r3, pp⟩ := hp.len
      have e3 : decide (((V.str wd :: V.str p :: r).length : Int) < 3) = false := decide_eq_false (by simp; omega)
      rw [e3]
      refine iteF ⟨_, rfl, t, _, _, V.str wd, rfl, rfl, SqT.of ht, at_of (j := 0) rfl rfl, _, _, _, _, true, rfl, .ty _, .base (.str _), kit_ty (by decide +kernel), true, rfl, iteF ?_⟩
      refine ⟨_, rfl, t, _, rfl, SqT.of ht, by simp, by simp; omega, fun D hD => ?_⟩
      have sD : Same H (upd H D (.lst r)) := same_upd hD
      refine ⟨_, _, rfl, _, _, rfl, _, _, rfl, rfl, ?_⟩
      have ht' := sD _ _ ht
      have hD' : (upd H D (.lst r)) D = some (.lst r) := upd_same
      obtain ⟨pp1, pp2⟩ := path_of' pp
      cases hp with
      | make a b =>
        obtain ⟨u, e, ru⟩ := k5
        refine ⟨_, rfl, _, _, _, rfl, e, ru, _, rfl, t, _, rfl, .inr (SqT.of ht'), rfl, _, rfl, ?_⟩
        refine ite2 (fun c => absurd c (noNe _)) (fun _ => ⟨_, rfl, p, rfl, pp1, fun H1 s1 => ⟨_, rfl, iteF ?_⟩⟩)
        refine ⟨_, rfl, rfl, _, rfl, ?_⟩
        refine ite2 (fun _ => ?_) (fun c => absurd (by decide +kernel) c)
        exact ⟨_, rfl, _, rfl, p, _, _, _, D, rfl, SqL.of (s1 _ _ hD'), a, b, fun H2 s2 => k _ ((sD.trans s1).trans s2)⟩
      | put a b c =>
        obtain ⟨u, e, ru⟩ := k4
        refine ⟨_, rfl, _, _, _, rfl, e, ru, _, rfl, t, _, rfl, .inr (SqT.of ht'), rfl, _, rfl, ?_⟩
        refine ite2 (fun c => absurd c (noNe _)) (fun _ => ⟨_, rfl, p, rfl, pp1, fun H1 s1 => ⟨_, rfl, iteF ?_⟩⟩)
        refine ⟨_, rfl, rfl, _, rfl, ?_⟩
        refine ite2 (fun c => absurd c (by decide +kernel)) (fun _ => ⟨_, rfl, rfl, _, rfl, ?_⟩)
        refine ite2 (fun _ => ?_) (fun c => absurd (by decide +kernel) c)
        refine ⟨_, rfl, D, _, _, _, rfl, rfl, SqL.of (s1 _ _ hD'), at_of (j := 0) rfl rfl, _, rfl, text_of b, fun H2 s2 => ⟨_, rfl, iteT ?_⟩⟩
        exact ⟨_, rfl, D, _, _, _, rfl, rfl, SqL.of (s2 _ _ (s1 _ _ hD')), at_of (j := 1) rfl rfl, _, rfl, c, k _ ((sD.trans s1).trans s2)⟩
      | drop a c =>
        obtain ⟨u, e, ru⟩ := k3
        refine ⟨_, rfl, _, _, _, rfl, e, ru, _, rfl, t, _, rfl, .inr (SqT.of ht'), rfl, _, rfl, ?_⟩
        refine ite2 (fun c => absurd c (noNe _)) (fun _ => ⟨_, rfl, p, rfl, pp1, fun H1 s1 => ⟨_, rfl, iteF ?_⟩⟩)
        refine ⟨_, rfl, rfl, _, rfl, ?_⟩
        refine ite2 (fun c => absurd c (by decide +kernel)) (fun _ => ⟨_, rfl, rfl, _, rfl, ?_⟩)
        refine ite2 (fun c => absurd c (by decide +kernel)) (fun _ => ?_)
        refine ⟨_, rfl, D, _, _, _, rfl, rfl, SqL.of (s1 _ _ hD'), at_of (j := 0) rfl rfl, _, rfl, c, _, rfl, iteT ?_⟩
        refine ⟨_, rfl, rfl, _, rfl, ?_⟩
        refine ite2 (fun c => absurd c (by decide +kernel)) (fun _ => ⟨_, rfl, rfl, ?_⟩)
        exact q_true (by rw [decide_eq_false (fun e => pp2 (V.str.inj e))]; rfl) (k _ (sD.trans s1))
      | see a c =>
        obtain ⟨u, e, ru⟩ := k3'
        refine ⟨_, rfl, _, _, _, rfl, e, ru, _, rfl, t, _, rfl, .inr (SqT.of ht'), rfl, _, rfl, ?_⟩
        refine ite2 (fun c => absurd c (noNe _)) (fun _ => ⟨_, rfl, p, rfl, pp1, fun H1 s1 => ⟨_, rfl, iteF ?_⟩⟩)
        refine ⟨_, rfl, rfl, _, rfl, ?_⟩
        refine ite2 (fun c => absurd c (by decide +kernel)) (fun _ => ⟨_, rfl, rfl, _, rfl, ?_⟩)
        refine ite2 (fun c => absurd c (by decide +kernel)) (fun _ => ?_)
        refine ⟨_, rfl, D, _, _, _, rfl, rfl, SqL.of (s1 _ _ hD'), at_of (j := 0) rfl rfl, _, rfl, c, _, rfl, iteT ?_⟩
        refine ⟨_, rfl, rfl, _, rfl, ?_⟩
        refine ite2 (fun _ => k _ (sD.trans s1)) (fun c => absurd (by decide +kernel) c)
    · have e3 : decide ((xs.length : Int) < 3) = true := decide_eq_true (by omega)
      rw [e3]
      exact iteT k
end
end K42

/-! K42G: is_deed, is_entry. -/
namespace K42
open PySem L2
open PyProof.Rows (envOfC)
open C8 (Cal Met Mak Def cal0 met0 mak0 pe_c pe_mk pe_mt pe_mt0 fnScope_by fnScope fnBody fnArgs pe_gc)
/-! ### data of tuples -/
/-- v reads as data that may be compared, n deep -/
def DataV (K : PySem.W.Frag) (H : Hp) (n : Nat) (v : V) : Prop := ∃ d, Dp K H v d ∧ d.canLay0 = true ∧ d.depth ≤ n
theorem DataV.non {K : PySem.W.Frag} {H : Hp} {n : Nat} : DataV K H n .non := ⟨.none, .non, rfl, by simp [PyData.depth]⟩
theorem DataV.bl {K : PySem.W.Frag} {H : Hp} {n : Nat} (b : Bool) : DataV K H n (.bl b) := ⟨.bool b, .bl b, rfl, by simp [PyData.depth]⟩
theorem DataV.int {K : PySem.W.Frag} {H : Hp} {n : Nat} (i : Int) : DataV K H n (.int i) := ⟨.int i, .int i, rfl, by simp [PyData.depth]⟩
theorem DataV.str {K : PySem.W.Frag} {H : Hp} {n : Nat} {s : PySem.Str} (h : (PyData.str s).canLay0 = true) : DataV K H n (.str s) := ⟨.str s, .str s, h, by simp [PyData.depth]⟩
theorem data_all {K : PySem.W.Frag} {H : Hp} {n : Nat} : ∀ {xs : List V}, (∀ x ∈ xs, DataV K H n x) → ∃ ds, DpAll K H xs ds ∧ ds.length = xs.length ∧ PyData.canLayAll0 ds = true ∧ PyData.depthAll ds ≤ n
  | [], _ => ⟨[], .nil, rfl, rfl, by simp [PyData.depthAll]⟩
  | x :: xs, h => by
    obtain ⟨d, h1, h2, h3⟩ := h x List.mem_cons_self
    obtain ⟨ds, g1, g2, g3, g4⟩ := data_all (xs := xs) fun y hy => h y (List.mem_cons_of_mem _ hy)
    refine ⟨d :: ds, .cons h1 g1, by rw [List.length_cons, List.length_cons, g2], by rw [PyData.canLayAll0, h2, g3]; rfl, ?_⟩
    rw [PyData.depthAll]
    omega
theorem data_tup {K : PySem.W.Frag} {H : Hp} {n : Nat} {t : Addr} {xs : List V} (ht : H t = some (.tup xs)) (h : ∀ x ∈ xs, DataV K H n x) : ∃ ds, Dp K H (.ref t) (.tuple ds) ∧ ds.length = xs.length ∧ (PyData.tuple ds).canLay0 = true ∧ (PyData.tuple ds).depth ≤ n + 1 := by
  obtain ⟨ds, g1, g2, g3, g4⟩ := data_all h
  refine ⟨ds, .tup (SqT.of ht) g1, g2, by rw [PyData.canLay0]; exact g3, ?_⟩
  rw [PyData.depth]
  omega
theorem shaped_of {d : PyData} {n : Nat} (h : d.canLay0 = true) (hd : d.depth ≤ n) (hn : n ≤ 64) : SeqAt.shaped d = true := by
  unfold SeqAt.shaped
  rw [h, decide_eq_true (Nat.le_trans hd hn)]
  rfl
def WORDS : List PySem.Str := ["make", "put", "drop", "see", "open", "close", "bring", "all"]
theorem strs_lay : (PATHS ++ TEXTS ++ WORDS).all (fun s => (PyData.str s).canLay0) = true := by decide +kernel
theorem lay_of {s : PySem.Str} (h : s ∈ PATHS ++ TEXTS ++ WORDS) : (PyData.str s).canLay0 = true := List.all_eq_true.mp strs_lay s h
theorem lay_path {s : PySem.Str} (h : s ∈ PATHS) : (PyData.str s).canLay0 = true := lay_of (List.mem_append_left _ (List.mem_append_left _ h))
theorem lay_text {s : PySem.Str} (h : s ∈ TEXTS) : (PyData.str s).canLay0 = true := lay_of (List.mem_append_left _ (List.mem_append_right _ h))
theorem CountV.data {K : PySem.W.Frag} {H : Hp} {n : Nat} {c : V} (h : CountV c) : DataV K H n c := by
  rcases h with rfl | ⟨m, rfl, _⟩
  · exact .non
  · exact .int _
theorem PlainL.data {K : PySem.W.Frag} {H : Hp} {xs : List V} (h : PlainL xs) : ∀ x ∈ xs, DataV K H 0 x := by
  cases h with
  | make a b =>
    intro x hx
    simp only [List.mem_cons, List.not_mem_nil, or_false] at hx
    rcases hx with rfl | rfl | rfl | rfl | rfl
    · exact .str (lay_of (by decide +kernel))
    · exact .str (lay_path (mpath_in a))
    · exact .str (lay_text b)
    · exact .bl _
    · exact .bl _
  | put a b c =>
    intro x hx
    simp only [List.mem_cons, List.not_mem_nil, or_false] at hx
    rcases hx with rfl | rfl | rfl | rfl
    · exact .str (lay_of (by decide +kernel))
    · exact .str (lay_path a)
    · exact .str (lay_text b)
    · exact c.data
  | drop a c =>
    intro x hx
    simp only [List.mem_cons, List.not_mem_nil, or_false] at hx
    rcases hx with rfl | rfl | rfl
    · exact .str (lay_of (by decide +kernel))
    · exact .str (lay_path a)
    · exact c.data
  | see a c =>
    intro x hx
    simp only [List.mem_cons, List.not_mem_nil, or_false] at hx
    rcases hx with rfl | rfl | rfl
    · exact .str (lay_of (by decide +kernel))
    · exact .str (lay_path a)
    · exact c.data
/-- what a deed's tuple holds -/
inductive DeedL (H : Hp) : List V → Prop
  | plain {xs : List V} : PlainL xs → DeedL H xs
  | opn {n : Int} : 1 ≤ n → n ≤ 1000 → DeedL H [.str "open", .int n]
  | close : DeedL H [.str "close"]
  | bring : DeedL H [.str "bring"]
  | all {t : Addr} {ds : List V} : H t = some (.tup ds) → 1 ≤ ds.length → ds.length ≤ 3 → (∀ d ∈ ds, PlainV H d) → DeedL H [.str "all", .ref t]
def DeedV (H : Hp) (v : V) : Prop := ∃ t xs, v = .ref t ∧ H t = some (.tup xs) ∧ DeedL H xs
theorem DeedL.same {H H' : Hp} {xs : List V} (h : DeedL H xs) (s : Same H H') : DeedL H' xs := by
  cases h with
  | plain a => exact .plain a
  | opn a b => exact .opn a b
  | close => exact .close
  | bring => exact .bring
  | all a b c d => exact .all (s _ _ a) b c fun x hx => (d x hx).same s
theorem DeedV.same {H H' : Hp} {v : V} (h : DeedV H v) (s : Same H H') : DeedV H' v := by
  obtain ⟨t, xs, e, ht, p⟩ := h
  exact ⟨t, xs, e, s _ _ ht, p.same s⟩
theorem PlainV.data {K : PySem.W.Frag} {H : Hp} {v : V} (h : PlainV H v) : DataV K H 1 v := by
  obtain ⟨t, xs, rfl, ht, p⟩ := h
  obtain ⟨ds, h1, _, h2, h3⟩ := data_tup (K := K) ht p.data
  exact ⟨_, h1, h2, h3⟩
theorem DeedL.data {K : PySem.W.Frag} {H : Hp} {xs : List V} (h : DeedL H xs) : ∀ x ∈ xs, DataV K H 2 x := by
  cases h with
  | plain a =>
    intro x hx
    obtain ⟨d, h1, h2, h3⟩ := a.data (K := K) (H := H) x hx
    exact ⟨d, h1, h2, by omega⟩
  | opn a b =>
    intro x hx
    simp only [List.mem_cons, List.not_mem_nil, or_false] at hx
    rcases hx with rfl | rfl
    · exact .str (lay_of (by decide +kernel))
    · exact .int _
  | close =>
    intro x hx
    simp only [List.mem_cons, List.not_mem_nil, or_false] at hx
    subst hx
    exact .str (lay_of (by decide +kernel))
  | bring =>
    intro x hx
    simp only [List.mem_cons, List.not_mem_nil, or_false] at hx
    subst hx
    exact .str (lay_of (by decide +kernel))
  | all a b c d =>
    intro x hx
    simp only [List.mem_cons, List.not_mem_nil, or_false] at hx
    rcases hx with rfl | rfl
    · exact .str (lay_of (by decide +kernel))
    · obtain ⟨ds, h1, _, h2, h3⟩ := data_tup (K := K) a fun x hx => (d x hx).data
      exact ⟨_, h1, h2, h3⟩
theorem DeedL.first {H : Hp} {xs : List V} (h : DeedL H xs) : ∃ (wd : PySem.Str) (r : List V), xs = .str wd :: r := by
  cases h with
  | plain a =>
    obtain ⟨wd, p, r, e, _⟩ := a.len
    exact ⟨wd, _, e⟩
  | opn a b => exact ⟨_, _, rfl⟩
  | close => exact ⟨_, _, rfl⟩
  | bring => exact ⟨_, _, rfl⟩
  | all a b c d => exact ⟨_, _, rfl⟩
section
variable {P : Program} {w : World} {K : PySem.W.Frag} {mg : PySem.Str → Option Value} {base : Heap}
/-- of a deed True -/
def spIsDeed : Sp := fun vs H Q _ => ∃ v : V, vs = [v] ∧ DeedV H v ∧ ∀ H', Same H H' → Q (.bl true) H'
theorem ok_isDeed (T : Tx K w mg) (D : DB K mg "is_deed" sIsDeed pIsDeed) (cP : Cal P w K mg base 4 "is_plain" spIsPlain []) (cW : Cal P w K mg base 1 "is_whole" spIsWhole []) : Cal P w K mg base 5 "is_deed" spIsDeed [] := by
  refine D.cal scIsDeed (fun vs H Q E h => ?_) (fun f cdv A outer s H vs Q E hr h => ?_)
  · obtain ⟨v, rfl, _⟩ := h
    rfl
  · obtain ⟨v, rfl, ⟨t, xs, rfl, ht, hd⟩, k⟩ := h
    refine ⟨_, pss_cons (ps_if (pt_val (pe_c cP hr (by decide) (by rfl) (pa_cons (pv 0) pa_nil))) (pss_one (ps_ret pe_bl)) pss_nil)
      (pss_cons (ps_if (PW.pt (pw_or (pt_not (pt_val (pe_callB call_isi (by rfl) T.isinstance (by decide +kernel) (pa_cons (pv 0) (pa_cons (pe_bltn (v := .ty "tuple") (by rfl) T.tuple (by decide +kernel) rfl) pa_nil)))))
        (pw_or (pt_cmpR (op_eqD hr.units) (pv 0) (pe_tup pa_nil) (nomark _))
        (pw_or1 (pt_not (pt_val (pe_callB call_isi (by rfl) T.isinstance (by decide +kernel) (pa_cons (pe_ix ix_tup (pv 0) pe_int (fun _ _ => rfl)) (pa_cons (pe_bltn (v := .ty "str") (by rfl) T.str (by decide +kernel) rfl) pa_nil))))))))) (pss_one (ps_ret pe_bl)) pss_nil)
      (pss_cons (ps_if (pt_cmpR op_in_seq (pe_ix ix_tup (pv 0) pe_int (fun _ _ => rfl)) (pe_tup (pa_cons pe_str (pa_cons pe_str pa_nil))) rfl) (pss_one (ps_ret (pe_cmpR op_eq (pe_callB call_len_seq (by rfl) T.len PySem.boot_len (pa_cons (pv 0) pa_nil)) pe_int (nomark _)))) pss_nil)
      (pss_cons (ps_if (pt_cmpR op_ne (pe_callB call_len_seq (by rfl) T.len PySem.boot_len (pa_cons (pv 0) pa_nil)) pe_int (nomark _)) (pss_one (ps_ret pe_bl)) pss_nil)
      (pss_cons (ps_if (pt_cmpR op_eq (pe_ix ix_tup (pv 0) pe_int (fun _ _ => rfl)) pe_str (nomark _)) (pss_one (ps_ret (pe_and (pe_c cW hr (by decide) (by rfl) (pa_cons (pe_ix ix_tup (pv 0) pe_int (fun _ _ => rfl)) pa_nil)) (pe_one (pe_chain op_le op_le pe_int (pe_ix ix_tup (pv 0) pe_int (fun _ _ => rfl)) (pe_gc (by rfl) T.mostLimit)))))) pss_nil)
      (pss_cons (ps_if (PW.pt (pw_or (pt_cmpR op_ne (pe_ix ix_tup (pv 0) pe_int (fun _ _ => rfl)) pe_str (nomark _)) (pw_or1 (pt_not (pt_val (pe_callB call_isi (by rfl) T.isinstance (by decide +kernel) (pa_cons (pe_ix ix_tup (pv 0) pe_int (fun _ _ => rfl)) (pa_cons (pe_bltn (v := .ty "tuple") (by rfl) T.tuple (by decide +kernel) rfl) pa_nil)))))))) (pss_one (ps_ret pe_bl)) pss_nil)
      (pss_one (ps_ret (pe_and (pe_chain op_le op_le pe_int (pe_callB call_len_seq (by rfl) T.len PySem.boot_len (pa_cons (pe_ix ix_tup (pv 0) pe_int (fun _ _ => rfl)) pa_nil)) (pe_gc (by rfl) T.mostDeeds))
        (pe_one (pe_callB (cr_all rfl) (by rfl) T.all (by decide +kernel) (pa_cons
          (pe_lc (own := [("one", 1)]) (g := gName 1) (tt := tYes) rfl scIsDeed.nd (pi_tup (pe_ix ix_tup (pv 0) pe_int (fun _ _ => rfl))) (blkOk_by (N := nIsDeed) (sc := fnScope sIsDeed) (by decide +kernel)) (fun _ _ _ _ _ => pg_name (i := 1) scIsDeed.nd rfl (Or.inl rfl)) (fun _ _ _ _ _ => pts_nil)
            (fun _ _ _ _ _ => pe_c cP hr (by decide) (by rfl) (pa_cons (pv 1) pa_nil))) pa_nil))))))))))), ?_⟩
    refine ⟨_, rfl, t, xs, rfl, ht, ?_⟩
    by_cases hp : PlainL xs
    · exact .inl ⟨hp, fun H1 s1 => ⟨_, rfl, iteT (k _ s1)⟩⟩
    · obtain ⟨wd, r, e⟩ := hd.first
      have hlt : xs.length < 3 := by
        cases hd with
        | plain a => exact absurd a hp
        | opn a b => simp
        | close => simp
        | bring => simp
        | all a b c d => simp
      refine .inr ⟨hlt, _, rfl, iteF ?_⟩
      refine ⟨_, rfl, _, _, _, _, true, rfl, .ty _, .base (.tup ht), kit_ty (by decide +kernel), true, rfl, iteF ?_⟩
      refine ⟨_, rfl, by decide, fun q hq => ?_⟩
      have sq : Same H (upd H q (.tup [])) := same_upd hq
      have ht1 := sq _ _ ht
      obtain ⟨ds, g1, g2, g3, g4⟩ := data_tup (K := K) ht1 (hd.same sq).data
      have dne : PyData.eqv (.tuple ds) (.tuple []) = false := by
        cases ds with
        | nil =>
          rw [e] at g2
          simp at g2
        | cons d ds => simp [PyData.eqv, PyData.eqvAll]
      refine ⟨.tuple ds, .tuple [], g1, .tup (SqT.of upd_same) .nil, shaped_of g3 g4 (by decide), by decide +kernel, _, rfl, ?_⟩
      rw [dne]
      refine iteF ⟨_, rfl, t, _, _, V.str wd, rfl, rfl, SqT.of ht1, at_of (j := 0) rfl (by rw [e] <;> rfl), _, _, _, _, true, rfl, .ty _, .base (.str _), kit_ty (by decide +kernel), true, rfl, iteF ?_⟩
      refine ⟨_, rfl, t, _, _, V.str wd, rfl, rfl, SqT.of ht1, at_of (j := 0) rfl (by rw [e] <;> rfl), by decide, fun q2 hq2 => ?_⟩
      have s2 : Same H (upd (upd H q (.tup [])) q2 (.tup [.str "close", .str "bring"])) := sq.trans (same_upd hq2)
      have ht2 := s2 _ _ ht
      refine ⟨q2, _, rfl, .inr (SqT.of upd_same), rfl, rfl, _, rfl, ?_⟩
      cases hd with
      | plain a => exact absurd a hp
      | opn a b =>
        cases e
        refine ite2 (fun c => absurd c (by decide +kernel)) (fun _ => ?_)
        refine ⟨_, rfl, t, _, rfl, .inr (SqT.of ht2), rfl, _, rfl, ?_⟩
        refine ite2 (fun c => absurd c (noNe 2)) (fun _ => ?_)
        refine ⟨_, rfl, t, _, _, _, rfl, rfl, SqT.of ht2, at_of (j := 0) rfl rfl, rfl, _, rfl, ?_⟩
        refine ite2 (fun _ => ?_) (fun c => absurd (by decide +kernel) c)
        refine ⟨_, rfl, t, _, _, _, rfl, rfl, SqT.of ht2, at_of (j := 1) rfl rfl, _, rfl, _, rfl, iteT ?_⟩
        refine ⟨_, rfl, t, _, _, _, rfl, rfl, SqT.of ht2, at_of (j := 1) rfl rfl, _, _, rfl, rfl, _, rfl, ?_⟩
        rw [if_pos (decide_eq_true a)]
        exact ⟨_, _, rfl, rfl, q_true (decide_eq_true b) (k _ s2)⟩
      | close =>
        cases e
        refine ite2 (fun _ => ?_) (fun c => absurd (by decide +kernel) c)
        exact ⟨_, rfl, t, _, rfl, .inr (SqT.of ht2), rfl, q_true (by simp) (k _ s2)⟩
      | bring =>
        cases e
        refine ite2 (fun _ => ?_) (fun c => absurd (by decide +kernel) c)
        exact ⟨_, rfl, t, _, rfl, .inr (SqT.of ht2), rfl, q_true (by simp) (k _ s2)⟩
      | @all u ds' a b c d =>
        cases e
        refine ite2 (fun c => absurd c (by decide +kernel)) (fun _ => ?_)
        refine ⟨_, rfl, t, _, rfl, .inr (SqT.of ht2), rfl, _, rfl, ?_⟩
        refine ite2 (fun c => absurd c (noNe 2)) (fun _ => ?_)
        refine ⟨_, rfl, t, _, _, _, rfl, rfl, SqT.of ht2, at_of (j := 0) rfl rfl, rfl, _, rfl, ?_⟩
        refine ite2 (fun c => absurd c (by decide +kernel)) (fun _ => ?_)
        refine ⟨_, rfl, t, _, _, _, rfl, rfl, SqT.of ht2, at_of (j := 0) rfl rfl, rfl, _, rfl, ?_⟩
        refine ite2 (fun c => absurd c (by decide +kernel)) (fun _ => ?_)
        have hu2 := s2 _ _ a
        refine ⟨_, rfl, t, _, _, _, rfl, rfl, SqT.of ht2, at_of (j := 1) rfl rfl, _, _, _, _, true, rfl, .ty _, .base (.tup hu2), kit_ty (by decide +kernel), true, rfl, iteF ?_⟩
        refine ⟨_, rfl, t, _, _, _, rfl, rfl, SqT.of ht2, at_of (j := 1) rfl rfl, u, _, rfl, .inr (SqT.of hu2), _, _, rfl, rfl, _, rfl, ?_⟩
        rw [if_pos (decide_eq_true (show (1 : Int) ≤ (ds'.length : Int) by omega))]
        refine ⟨_, _, rfl, rfl, _, rfl, ?_⟩
        rw [if_pos (decide_eq_true (show (ds'.length : Int) ≤ 6 by omega))]
        refine ⟨_, rfl, t, _, _, _, rfl, rfl, SqT.of ht2, at_of (j := 1) rfl rfl, u, rfl, ⟨_, SqT.of hu2⟩, fun D hD => ?_⟩
        refine lc_true (walk_tup (K := K) (a := u) (xs := ds')) hD (by omega) (fun H s => s.tup (SqT.of hu2)) (fun i x H3 H4 Z hi s3 y kz => ?_) fun H3 s3 hL3 => ?_
        · obtain ⟨rfl, hx⟩ := y
          obtain ⟨tx, xl, rfl, htx, px⟩ := d x (List.mem_of_getElem? hx)
          exact ⟨rfl, _, rfl, tx, xl, rfl, s3 _ _ (s2 _ _ htx), .inl ⟨px, fun H5 s5 => kz H5 s5⟩⟩
        · refine ⟨D, _, rfl, SqL.of hL3, ?_⟩
          rw [all_true]
          exact k _ (s2.trans s3)
end
end K42

/-! K42H: is_entry. -/
namespace K42
open PySem L2
open PyProof.Rows (envOfC)
open C8 (Cal Met Mak Def cal0 met0 mak0 pe_c pe_mk pe_mt pe_mt0 fnScope_by fnScope fnBody fnArgs pe_gc)
def ASKERS : List PySem.Str := ["x", "y"]
theorem askers_ok : ASKERS.all wordOk = true := by decide +kernel
/-- what an entry's tuple holds -/
inductive EntryL (H : Hp) : List V → Prop
  | ask {a : PySem.Str} {n : Int} {d : V} : a ∈ ASKERS → 1 ≤ n → DeedV H d → EntryL H [.str "ask", .str a, .int n, d]
  | fin {a : PySem.Str} : a ∈ ASKERS → EntryL H [.str "end", .str a]
def EntryV (H : Hp) (v : V) : Prop := ∃ t xs, v = .ref t ∧ H t = some (.tup xs) ∧ EntryL H xs
theorem EntryL.same {H H' : Hp} {xs : List V} (h : EntryL H xs) (s : Same H H') : EntryL H' xs := by
  cases h with
  | ask a b c => exact .ask a b (c.same s)
  | fin a => exact .fin a
theorem EntryV.same {H H' : Hp} {v : V} (h : EntryV H v) (s : Same H H') : EntryV H' v := by
  obtain ⟨t, xs, e, ht, p⟩ := h
  exact ⟨t, xs, e, s _ _ ht, p.same s⟩
section
variable {P : Program} {w : World} {K : PySem.W.Frag} {mg : PySem.Str → Option Value} {base : Heap}
/-- of an entry True -/
def spIsEntry : Sp := fun vs H Q _ => ∃ v : V, vs = [v] ∧ EntryV H v ∧ ∀ H', Same H H' → Q (.bl true) H'
theorem ok_isEntry (T : Tx K w mg) (D : DB K mg "is_entry" sIsEntry pIsEntry) (cD : Cal P w K mg base 5 "is_deed" spIsDeed []) (cW : Cal P w K mg base 1 "is_whole" spIsWhole []) (cI : Cal P w K mg base 1 "is_word" spIsWord []) : Cal P w K mg base 6 "is_entry" spIsEntry [] := by
  refine D.cal scIsEntry (fun vs H Q E h => ?_) (fun f cdv A outer s H vs Q E hr h => ?_)
  · obtain ⟨v, rfl, _⟩ := h
    rfl
  · obtain ⟨v, rfl, ⟨t, xs, rfl, ht, he⟩, k⟩ := h
    refine ⟨_, pss_cons (ps_if (PW.pt (pw_or (pt_not (pt_val (pe_callB call_isi (by rfl) T.isinstance (by decide +kernel) (pa_cons (pv 0) (pa_cons (pe_bltn (v := .ty "tuple") (by rfl) T.tuple (by decide +kernel) rfl) pa_nil)))))
        (pw_or (pt_cmpR op_lt (pe_callB call_len_seq (by rfl) T.len PySem.boot_len (pa_cons (pv 0) pa_nil)) pe_int (nomark _))
        (pw_or (pt_not (pt_val (pe_callB call_isi (by rfl) T.isinstance (by decide +kernel) (pa_cons (pe_ix ix_tup (pv 0) pe_int (fun _ _ => rfl)) (pa_cons (pe_bltn (v := .ty "str") (by rfl) T.str (by decide +kernel) rfl) pa_nil)))))
        (pw_or1 (pt_not (pt_val (pe_c cI hr (by decide) (by rfl) (pa_cons (pe_ix ix_tup (pv 0) pe_int (fun _ _ => rfl)) pa_nil))))))))) (pss_one (ps_ret pe_bl)) pss_nil)
      (pss_cons (ps_if (pt_cmpR op_eq (pe_ix ix_tup (pv 0) pe_int (fun _ _ => rfl)) pe_str (nomark _)) (pss_one (ps_ret (pe_cmpR op_eq (pe_callB call_len_seq (by rfl) T.len PySem.boot_len (pa_cons (pv 0) pa_nil)) pe_int (nomark _)))) pss_nil)
      (pss_one (ps_ret (pe_and (pe_cmpR op_eq (pe_ix ix_tup (pv 0) pe_int (fun _ _ => rfl)) pe_str (nomark _))
        (pe_and (pe_cmpR op_eq (pe_callB call_len_seq (by rfl) T.len PySem.boot_len (pa_cons (pv 0) pa_nil)) pe_int (nomark _))
        (pe_and (pe_c cW hr (by decide) (by rfl) (pa_cons (pe_ix ix_tup (pv 0) pe_int (fun _ _ => rfl)) pa_nil))
        (pe_and (pe_cmpR op_ge (pe_ix ix_tup (pv 0) pe_int (fun _ _ => rfl)) pe_int (nomark _))
        (pe_one (pe_c cD hr (by decide) (by rfl) (pa_cons (pe_ix ix_tup (pv 0) pe_int (fun _ _ => rfl)) pa_nil)))))))))), ?_⟩
    cases he with
    | @ask a n d ha hn hd =>
      refine ⟨_, rfl, _, _, _, _, true, rfl, .ty _, .base (.tup ht), kit_ty (by decide +kernel), true, rfl, iteF ?_⟩
      refine ⟨_, rfl, t, _, rfl, .inr (SqT.of ht), _, _, rfl, rfl, _, rfl, ?_⟩
      refine ite2 (fun c => absurd c (show ¬ (decide ((4 : Int) < 2) = true) by decide)) (fun _ => ?_)
      refine ⟨_, rfl, t, _, _, _, rfl, rfl, SqT.of ht, at_of (j := 0) rfl rfl, _, _, _, _, true, rfl, .ty _, .base (.str _), kit_ty (by decide +kernel), true, rfl, iteF ?_⟩
      refine ⟨_, rfl, t, _, _, _, rfl, rfl, SqT.of ht, at_of (j := 1) rfl rfl, a, rfl, List.all_eq_true.mp askers_ok a ha, fun H1 s1 => ⟨true, rfl, iteF ?_⟩⟩
      have ht1 := s1 _ _ ht
      refine ⟨_, rfl, t, _, _, _, rfl, rfl, SqT.of ht1, at_of (j := 0) rfl rfl, rfl, _, rfl, ?_⟩
      refine ite2 (fun c => absurd c (by decide +kernel)) (fun _ => ?_)
      refine ⟨_, rfl, t, _, _, _, rfl, rfl, SqT.of ht1, at_of (j := 0) rfl rfl, rfl, _, rfl, ?_⟩
      refine ite2 (fun _ => ?_) (fun c => absurd (by decide +kernel) c)
      refine ⟨_, rfl, t, _, rfl, .inr (SqT.of ht1), rfl, _, rfl, ?_⟩
      refine ite2 (fun _ => ?_) (fun c => absurd (show decide (V.int 4 = V.int 4) = true by decide) c)
      refine ⟨_, rfl, t, _, _, _, rfl, rfl, SqT.of ht1, at_of (j := 2) rfl rfl, n, rfl, _, rfl, iteT ?_⟩
      refine ⟨_, rfl, t, _, _, _, rfl, rfl, SqT.of ht1, at_of (j := 2) rfl rfl, _, _, rfl, rfl, _, rfl, ?_⟩
      rw [if_pos (decide_eq_true hn)]
      exact ⟨_, rfl, t, _, _, _, rfl, rfl, SqT.of ht1, at_of (j := 3) rfl rfl, d, rfl, hd.same s1, fun H2 s2 => k _ (s1.trans s2)⟩
    | @fin a ha =>
      refine ⟨_, rfl, _, _, _, _, true, rfl, .ty _, .base (.tup ht), kit_ty (by decide +kernel), true, rfl, iteF ?_⟩
      refine ⟨_, rfl, t, _, rfl, .inr (SqT.of ht), _, _, rfl, rfl, _, rfl, ?_⟩
      refine ite2 (fun c => absurd c (show ¬ (decide ((2 : Int) < 2) = true) by decide)) (fun _ => ?_)
      refine ⟨_, rfl, t, _, _, _, rfl, rfl, SqT.of ht, at_of (j := 0) rfl rfl, _, _, _, _, true, rfl, .ty _, .base (.str _), kit_ty (by decide +kernel), true, rfl, iteF ?_⟩
      refine ⟨_, rfl, t, _, _, _, rfl, rfl, SqT.of ht, at_of (j := 1) rfl rfl, a, rfl, List.all_eq_true.mp askers_ok a ha, fun H1 s1 => ⟨true, rfl, iteF ?_⟩⟩
      have ht1 := s1 _ _ ht
      refine ⟨_, rfl, t, _, _, _, rfl, rfl, SqT.of ht1, at_of (j := 0) rfl rfl, rfl, _, rfl, ?_⟩
      refine ite2 (fun _ => ?_) (fun c => absurd (by decide +kernel) c)
      exact ⟨_, rfl, t, _, rfl, .inr (SqT.of ht1), rfl, q_true (by simp) (k _ s1)⟩
end
end K42

/-! K42U: dict comprehensions whose dict is of either kind (keys one by one, keys that are tuples), as a value and given to a name. -/
namespace K42
open PySem PySem.Spec PyProof.Rows
open L2 hiding St
/-- a kind of dict: how it stands when empty, what a store asks (key, value, dict) and leaves -/
structure DKind where
  em : HO
  put : V → V → Addr → Hp → (Hp → Prop) → Prop
structure DKind.Ok (κ : DKind) : Prop where
  fresh : ∀ {P : Program} {w : World} {H : Hp} (h : Heap), sysModules < h.objs.size → ObjOk P w H (h.push { cls := .type "dict", data := .dict #[] }) h.objs.size κ.em
  store : ∀ {X : Cx} {pins : List (Addr × Obj)} {σ : L2.St} {H : Hp} {s : Shared} {E : Value → Shared → Prop} {D : Addr} {y z : V} {u r : Value} {Q : Hp → Prop}, X.A.units + 1 < cLine → Inv X pins σ H s → RelV y u → RelV z r → κ.put y z D H Q →
    wpAny (model X.prog X.w) X.A (dictSet D u r) (fun _ s' => ∃ H', Inv X pins σ H' s' ∧ Q H') E s
/-- keys that are ints or texts -/
abbrev kdK : DKind := ⟨.dK [], fun y z D H Q => ∃ kvs k, y = kV k ∧ H D = some (.dK kvs) ∧ kvs.length < 1000 ∧ Q (upd H D (.dK (putK kvs k z)))⟩
/-- keys that are tuples of such -/
abbrev kdT : DKind := ⟨.dT [], fun y z D H Q => ∃ kvs k b, y = .ref b ∧ H b = some (.tup (k.map kV)) ∧ H D = some (.dT kvs) ∧ kvs.length < 1000 ∧ Q (upd H D (.dT (putK kvs k z)))⟩
theorem kdK_ok : kdK.Ok where
  fresh := fun h hb => dk_empty h hb
  store := fun {X pins σ H s E D y z u r Q} _ I ry rz h => by
    obtain ⟨kvs, k, rfl, hD, hl, q⟩ := h
    exact d_dictSet I hD (small1000 (by omega)) ry rz fun s' I' => ⟨_, I', q⟩
theorem kdT_ok : kdT.Ok where
  fresh := fun h hb => dt_empty h hb
  store := fun {X pins σ H s E D y z u r Q} hu I ry rz h => by
    obtain ⟨kvs, k, b, rfl, hb, hD, hl, q⟩ := h
    obtain rfl : u = Value.ref b := ry
    obtain ⟨hz, lo, xs, rel, dd⟩ := dt_of I.hok hD
    have hx : xs.length ≤ sizeLine := by rw [← Paired.length rel]; exact hz
    have hp : (putK kvs k z).length ≤ sizeLine := by
      have := length_putK kvs k z
      exact Nat.le_of_lt (small1000 (by omega))
    refine wpAny_dictSet_heap (hsz := hx) (knd := tupleKind (mixKind X.prog X.w)) (Nat.lt_of_succ_lt hu) (key_of I.hok hb) dd fun g dd' sb => ⟨_, ?_, q⟩
    obtain ⟨o, es, ep, ho, c1, c2, c3, _, c5⟩ := dd'
    exact d_write I (by rw [hD]; exact True.intro) sb ⟨o, ho⟩ ⟨hp, lo, _, KT.keeps (KT.put rel k hb rz) (fun c ys ec => by rw [upd_ne (ne_of ec hD (fun z => nomatch z))]; exact ec), o, es, ep, ho, c1, c2, c3, c5⟩

section
variable {X : Cx}
/-- {k: v for target in iter if ..}: D the new dict, of the kind κ -/
def tDcx (κ : DKind) (wi : TI) (g : TG) (tt : TT) (tk tv : TE) (vs : List Nat) : TE := fun σ H Q => wi σ H fun J H1 => ∀ D, H1 D = none → ∃ W : Nat → Nat → Hp → Prop, (∃ m, W 0 m (upd H1 D κ.em)) ∧ ∀ i m H, W i m H →
  (J.stop i H ∧ Q (.ref D) H) ∨ (J.go i H ∧ ∃ Nx : Hp → Prop, (∀ H', Nx H' → ∃ m', m' < m ∧ W (i + 1) m' H') ∧ ∀ x H', J.yld i H x H' → g x (wipe σ vs) H' fun σ2 H2 => wipe σ2 vs = wipe σ vs ∧ tt σ2 H2 fun b H3 =>
    if b = true then tk σ2 H3 fun y H4 => tv σ2 H4 fun z H5 => κ.put y z D H5 Nx else Nx H3)
theorem dcx_core {κ : DKind} (κo : κ.Ok) (hu : X.A.units + 1 < cLine) {pins : List (Addr × Obj)} {s : Shared} {σ : L2.St} {H : Hp} {Q : VK} {kx vx tg iter : Expr} {ifs : List Expr} {scope : Scope} {own : List (Str × Nat)} {p0 p1 : Pos} {wi : TI} {g : TG} {tt : TT} {tk tv : TE}
    {use : Option (Value → Sem Unit)} {Qf : Value → Shared → Prop} (hc : X.calm = true) (hN : X.N.Nodup) (I : Inv X pins σ H s) (hi : PI X tg iter wi) (bo : BlkOk X.N X.env.scope scope own)
    (hg : ∀ (s : Shared) (H : Hp) (C : Addr) (cl : List (Str × Addr)) (fp : List Addr), PG (X.blk s H scope (compEnvC scope cl C X.env) fp) tg g)
    (ht : ∀ (s : Shared) (H : Hp) (C : Addr) (cl : List (Str × Addr)) (fp : List Addr), PTs (X.blk s H scope (compEnvC scope cl C X.env) fp) ifs tt)
    (hk : ∀ (s : Shared) (H : Hp) (C : Addr) (cl : List (Str × Addr)) (fp : List Addr), PE (X.blk s H scope (compEnvC scope cl C X.env) fp) kx tk)
    (he : ∀ (s : Shared) (H : Hp) (C : Addr) (cl : List (Str × Addr)) (fp : List Addr), PE (X.blk s H scope (compEnvC scope cl C X.env) fp) vx tv) (hs : ∀ x, foldedSetIterable iter X.env x = pure x)
    (h : tDcx κ wi g tt tk tv (own.map (·.2)) σ H Q)
    (last : ∀ D C s' m H', Inv X pins σ H' s' → Q (.ref D) H' → s'.heap.Ns C m → FpOk X pins H' C → compPost (model X.prog X.w) X.A X.xe use Qf (.ref D) C (.ok .next) s') :
    wpAny (model X.prog X.w) X.A (comprehension (.DictComp kx vx [⟨tg, iter, ifs, 0⟩] scope p0) scope X.env p1 newDict false (eval iter X.env) use) Qf X.xe s := by
  have caught : ∀ y ∈ scope.names, y.2 = .free → ∃ c, X.env.cells.lookup y.1 = some c := fun y hy e => (bo.free y hy e).elim (fun k => I.ok.has _ (.inl k)) fun k => I.ok.has _ (.inr k)
  refine wpAny_comprehension_free (use := use) rfl hs (closure_ok caught) bo.kind (fun y hy e => by rw [bo.uniq y hy, e]) (thn (hi.run pins s σ H _ I h) fun _ _ a1 => thn a1 fun _ t2 a2 => ?_)
  obtain ⟨it, fp, tn, J, H2, rfl, I2, T, st2, f2, q⟩ := a2
  refine wpAny_newObj_type (newEnv_comp ?_)
  generalize dD : t2.heap.objs.size = D
  obtain ⟨W, ⟨m0, w0⟩, turn⟩ := q D (I2.hok.fresh (Nat.le_of_eq dD))
  -- the new dict is laid
  generalize d3 : ({ t2 with heap := t2.heap.push { cls := .type "dict", data := .dict #[] } } : Shared) = t3
  have e3 : t3.heap = t2.heap.push { cls := .type "dict", data := .dict #[] } := by rw [← d3]
  have I3 : Inv X pins σ (upd H2 D κ.em) t3 := by
    rw [← d3]
    refine I2.laid (t' := t2.toks) (fun b o e => Heap.get?_push_of_some _ e) (Nat.le_of_eq dD) ?_
    rw [← dD]
    exact κo.fresh t2.heap I2.big
  have low : ∀ b ∈ fp, b < t2.heap.objs.size := fun b hb => (T.obj _ _ st2 b hb).elim fun o e => Heap.lt_size e.1
  have f3 : ∀ b ∈ fp, FpOk X pins (upd H2 D κ.em) b ∧ b < t3.heap.objs.size := fun b hb => by
    refine ⟨⟨?_, (f2 b hb).2⟩, by rw [e3, Heap.size_push]; exact Nat.lt_succ_of_lt (low b hb)⟩
    rw [upd_ne (by rw [← dD]; exact Nat.ne_of_lt (low b hb))]
    exact (f2 b hb).1
  have st3 : tn 0 t3.heap := T.keep _ _ _ st2 fun b _ o e => by rw [e3]; exact Heap.get?_push_of_some _ e
  have I4 := block_start I3 bo hN f3
  have bg := hg t3 (upd H2 D κ.em) t3.heap.objs.size (cellsFrom (t3.heap.objs.size + 1) scope.names (cloFrom X.env.cells scope.names [])) fp
  have bt := ht t3 (upd H2 D κ.em) t3.heap.objs.size (cellsFrom (t3.heap.objs.size + 1) scope.names (cloFrom X.env.cells scope.names [])) fp
  have bk := hk t3 (upd H2 D κ.em) t3.heap.objs.size (cellsFrom (t3.heap.objs.size + 1) scope.names (cloFrom X.env.cells scope.names [])) fp
  have bv := he t3 (upd H2 D κ.em) t3.heap.objs.size (cellsFrom (t3.heap.objs.size + 1) scope.names (cloFrom X.env.cells scope.names [])) fp
  show codeAny _ _ (.compStart (.DictComp kx vx [⟨tg, iter, ifs, 0⟩] scope p0) 0 (.ref it) (.ref D) (compEnvC scope (cellsFrom (t3.heap.objs.size + 1) scope.names (cloFrom X.env.cells scope.names [])) t3.heap.objs.size X.env))
    (compPost (model X.prog X.w) X.A X.xe use Qf (.ref D) t3.heap.objs.size) { t3 with heap := pushCells (t3.heap.push { cls := .type "dict", data := .dict #[] }) scope.names }
  have free3 : ∀ b ∈ fp, (upd H2 D κ.em) b = none := fun b hb => (f3 b hb).1.1
  generalize dce : compEnvC scope (cellsFrom (t3.heap.objs.size + 1) scope.names (cloFrom X.env.cells scope.names [])) t3.heap.objs.size X.env = ce at I4 bg bt bk bv ⊢
  have at_ : ce.locals = t3.heap.objs.size := by subst dce; rfl
  generalize dH3 : upd H2 D κ.em = H3 at I3 I4 bg bt bk bv w0 free3 f3
  generalize d4 : ({ t3 with heap := pushCells (t3.heap.push { cls := .type "dict", data := .dict #[] }) scope.names } : Shared) = t4 at I4 ⊢
  have st4 : tn 0 t4.heap := T.keep _ _ _ st3 fun b _ o e => by rw [← d4]; exact pushCells_keeps _ _ _ _ (Heap.get?_push_of_some _ e)
  let B : Cx := X.blk t3 H3 scope ce fp
  have own_ : ∀ {σ' : L2.St} {H' : Hp} {s' : Shared}, Inv B [] σ' H' s' → (∀ b ∈ fp, H' b = none) → ∀ b ∈ fp, FpOk B [] H' b := fun {σ' H' s'} I' hn b hb =>
    ⟨hn b hb, (I'.ok.exf b hb).1, I'.ok.exfs b hb, .inl hb, fun x c e => (I'.ok.exf b hb).2 x c e, fun p hp => nomatch (show p ∈ ([] : List (Addr × Obj)) from hp)⟩
  have body : codeAny (model X.prog X.w) X.A (.compLoop (.DictComp kx vx [⟨tg, iter, ifs, 0⟩] scope p0) 0 (.ref it) (.ref D) ce) (compPost (model X.prog X.w) X.A X.xe use Qf (.ref D) t3.heap.objs.size) t4 := by
    refine compLoop_anyD (fun n s' => ∃ i H', Inv B [] (wipe σ (own.map (·.2))) H' s' ∧ tn i s'.heap ∧ (∀ b ∈ fp, H' b = none) ∧ W i n H') ?_ m0 ⟨0, H3, I4, st4, free3, w0⟩
    rintro n t5 ⟨i, H5, I5, st5, n5, w5⟩
    rcases turn i n H5 w5 with ⟨halt, qq⟩ | ⟨more, Nx, hNx, step⟩
    · refine thnF (T.done B rfl rfl rfl hc i [] t5 _ H5 (fun _ _ => False) I5 (own_ I5 n5) st5 halt) fun r t6 ⟨hr, I6⟩ => ?_
      subst hr
      have I7 : Inv X pins σ H5 t6 := I3.call' (ch := fp) I6.os I6.base I6.hok I6.bare fun b hb => ⟨(f3 b hb).1.2.2.2.1, (f3 b hb).1.2.1, (f3 b hb).1.2.2.2.2.1, (f3 b hb).1.2.2.2.2.2⟩
      have nC : H5 t3.heap.objs.size = none := at_ ▸ (show H5 ce.locals = none from I6.free)
      obtain ⟨m, hn, _⟩ := I6.loc
      have hn' : t6.heap.Ns t3.heap.objs.size m := at_ ▸ (show t6.heap.Ns ce.locals m from hn)
      exact last D t3.heap.objs.size t6 m H5 I7 qq hn' (I3.fpOk (Nat.le_refl _) nC)
    · refine thnF (T.item B rfl rfl rfl hc i [] t5 _ H5 (fun _ _ => False) I5 (own_ I5 n5) st5 more) fun r t6 ⟨u, hr, a6⟩ => ?_
      subst hr
      refine thnF a6 fun _ t7 ⟨x, H7, I7, r7, y7, st7, n7⟩ => ?_
      refine thnF (bg.run _ t7 _ H7 x u _ (I7.pinned (own_ I7 n7) (T.obj _ _ st7)) r7 (step x H7 y7)) fun _ t8 ⟨σ8, H8, I8, w8, q8⟩ => ?_
      refine thnF (bt.run _ t8 σ8 H8 _ I8 q8) fun b t9 ⟨H9, I9, q9⟩ => ?_
      have again : ∀ {s' : Shared} {H' : Hp}, Inv B ([] ++ pinsAt fp t7.heap) σ8 H' s' → Nx H' → ∃ m, m < n ∧ ∃ i H', Inv B [] (wipe σ (own.map (·.2))) H' s' ∧ tn i s'.heap ∧ (∀ b ∈ fp, H' b = none) ∧ W i m H' := fun {s' H'} I' nx => by
        obtain ⟨m', hm, w'⟩ := hNx H' nx
        have held : ∀ b ∈ fp, ∀ o, t7.heap.get? b = some o → s'.heap.get? b = some o ∧ H' b = none := fun b hb o e =>
          ⟨(I'.pin (b, o) (List.mem_append_right _ (List.mem_append_right _ (mem_pinsAt hb e)))).1, (I'.pin (b, o) (List.mem_append_right _ (List.mem_append_right _ (mem_pinsAt hb e)))).2.1⟩
        refine ⟨m', hm, i + 1, H', (I'.unpinned (pins := [])).weak (by rw [← w8, wipe_length]) (fun j v e => ?_), T.keep _ _ _ st7 fun b hb o e => (held b hb o e).1, fun b hb => ?_, w'⟩
        · rw [← w8] at e
          exact (wipe_some e).1
        · obtain ⟨o, e, _⟩ := T.obj _ _ st7 b hb
          exact (held b hb o e).2
      cases b with
      | false =>
        have q9 : Nx H9 := q9
        show ∃ m, m < n ∧ _
        exact again I9 q9
      | true =>
        refine thnF (bk.run _ t9 σ8 H9 _ I9 q9) fun z t10 ⟨yk, H10, I10, r10, q10⟩ => ?_
        refine thnF (bv.run _ t10 σ8 H10 _ I10 q10) fun z2 t11 ⟨yv, H11, I11, r11, q11⟩ => ?_
        refine wpAny_mono (κo.store (X := B) (E := fun _ _ => False) hu I11 r10 r11 q11) (fun _ t12 ⟨H12, I12, nx⟩ => again I12 nx) fun _ _ z => z.elim
  exact codeAny_compStart_dict body (T.self X.A 0 _ _ _ st4 body)
section
variable {κ : DKind} {kx vx tg iter : Expr} {ifs : List Expr} {scope : Scope} {own : List (Str × Nat)} {pos : Pos} {wi : TI} {g : TG} {tt : TT} {tk tv : TE}
theorem pe_dcx (κo : κ.Ok) (hu : X.A.units + 1 < cLine) (hc : X.calm = true) (hN : X.N.Nodup) (hi : PI X tg iter wi) (bo : BlkOk X.N X.env.scope scope own)
    (hg : ∀ (s : Shared) (H : Hp) (C : Addr) (cl : List (Str × Addr)) (fp : List Addr), PG (X.blk s H scope (compEnvC scope cl C X.env) fp) tg g)
    (ht : ∀ (s : Shared) (H : Hp) (C : Addr) (cl : List (Str × Addr)) (fp : List Addr), PTs (X.blk s H scope (compEnvC scope cl C X.env) fp) ifs tt)
    (hk : ∀ (s : Shared) (H : Hp) (C : Addr) (cl : List (Str × Addr)) (fp : List Addr), PE (X.blk s H scope (compEnvC scope cl C X.env) fp) kx tk)
    (he : ∀ (s : Shared) (H : Hp) (C : Addr) (cl : List (Str × Addr)) (fp : List Addr), PE (X.blk s H scope (compEnvC scope cl C X.env) fp) vx tv)
    (hs : ∀ x, foldedSetIterable iter X.env x = pure x := by intro _; rfl) : PE X (.DictComp kx vx [⟨tg, iter, ifs, 0⟩] scope pos) (tDcx κ wi g tt tk tv (own.map (·.2))) := by
  refine ⟨fun pins s σ H Q I h => ?_⟩
  rw [arm_eval_DictComp]
  refine dcx_core κo hu hc hN I hi bo hg ht hk he hs h fun D C t m H' I' q hn f => ⟨m, hn, fun g2 sb => ?_⟩
  obtain ⟨f0, f1, f2, f3, f4, f5⟩ := f
  exact ⟨.ref D, H', I'.turned (t' := t.toks) (fun b o hb e => (sb.2 b hb).trans e) f0 f1 f3 f4 f5, rfl, q⟩
/-- name = {..} on one line, the name a local -/
theorem ps_setDcx {i : Nat} {y : Str} {py spos : Pos} (κo : κ.Ok) (hu : X.A.units + 1 < cLine) (hc : X.calm = true) (hN : X.N.Nodup) (hy : X.N[i]? = some y) (hyl : X.env.scope.names.lookup y = some .local)
    (hsw : swapsWith (.DictComp kx vx [⟨tg, iter, ifs, 0⟩] scope pos) (some (.Name y py)) spos.line X.env = pure true) (hi : PI X tg iter wi) (bo : BlkOk X.N X.env.scope scope own)
    (hg : ∀ (s : Shared) (H : Hp) (C : Addr) (cl : List (Str × Addr)) (fp : List Addr), PG (X.blk s H scope (compEnvC scope cl C X.env) fp) tg g)
    (ht : ∀ (s : Shared) (H : Hp) (C : Addr) (cl : List (Str × Addr)) (fp : List Addr), PTs (X.blk s H scope (compEnvC scope cl C X.env) fp) ifs tt)
    (hk : ∀ (s : Shared) (H : Hp) (C : Addr) (cl : List (Str × Addr)) (fp : List Addr), PE (X.blk s H scope (compEnvC scope cl C X.env) fp) kx tk)
    (he : ∀ (s : Shared) (H : Hp) (C : Addr) (cl : List (Str × Addr)) (fp : List Addr), PE (X.blk s H scope (compEnvC scope cl C X.env) fp) vx tv)
    (hs : ∀ x, foldedSetIterable iter X.env x = pure x := by intro _; rfl) : PS X (.Assign [.Name y py] (.DictComp kx vx [⟨tg, iter, ifs, 0⟩] scope pos) spos) (tAsg (tDcx κ wi g tt tk tv (own.map (·.2))) (gName i)) := by
  refine ⟨fun pins s σ H D I h => ?_⟩
  rw [exec_Assign_Name_used _ _ _ _ hsw]
  refine wpAny_bind (wpAny_standAt (wpAny_bind ?_))
  show wpAny _ X.A (do let _ ← comprehension (.DictComp kx vx [⟨tg, iter, ifs, 0⟩] scope pos) scope X.env (firstIterPos [⟨tg, iter, ifs, 0⟩] pos) newDict false (eval iter X.env) (some (assign (.Name y py) X.env))) _ _ s
  have h : tDcx κ wi g tt tk tv (own.map (·.2)) σ H (fun x H1 => gName i x σ H1 D.nx) := h
  refine wpAny_bind (thn (dcx_core (Qf := fun _ t => SP X pins D .next t) κo hu hc hN I hi bo hg ht hk he hs h fun L C t m H' I' q hn f => ?_) fun _ t hq => wpAny_pure (wpAny_pure hq))
  show wpAny _ _ (assign (.Name y py) X.env (.ref L)) _ _ _
  refine wpAny_assign_Name (store_ok2 (v := V.ref L) I' hN hy (.inl hyl) rfl (fun t2 I2 ⟨a, sb, ha⟩ => ?_) (.inr hyl))
  obtain ⟨f0, f1, f2, f3, f4, f5⟩ := f
  have apart : C ≠ a := by
    rcases ha with z | z
    · exact z ▸ f1
    · exact fun e => f4 y a z e.symm
  exact ⟨m, hn.sameBut sb apart, fun t3 sb3 => ⟨_, H', I2.turned (t' := t2.toks) (fun b o hb e => (sb3.2 b hb).trans e) f0 f1 f3 f4 f5, q⟩⟩
theorem swd_true {y : Str} {py : Pos} {l : Nat} {env : Env} {gs : List Comprehension} (hk : env.scope.kind = .function) (hy : env.scope.names.lookup y = some .local) (hl : (py.line == pos.line) = true)
    (ha : (scope.names.any fun (n, k) => n == y && (k == .local || k == .cell)) = false) : swapsWith (.DictComp kx vx gs scope pos) (some (.Name y py)) l env = pure true := by
  have k1 : env.kindOf y = some .local := hy
  have k2 : env.blockKind = .function := by unfold Env.blockKind; rw [hk]; rfl
  unfold swapsWith
  simp only [k1, k2, ha, Expr.pos, hl]
  rfl
end
end
/-- a dict comprehension over a walk: Pv by the turn and the heap -/
theorem dcx_it {κ : DKind} {J : It} {n : Nat} {G : Hp → Prop} {Y : Nat → Hp → V → Hp → Prop} (wk : Walk J n G Y) {g : TG} {tt : TT} {tk tv : TE} {vs : List Nat} {σ : L2.St} {H1 : Hp} {D : Addr} {Qd : Hp → Prop} (Pv : Nat → Hp → Prop) (h0 : Pv 0 (upd H1 D κ.em)) (hG : ∀ i H, i ≤ n → Pv i H → G H)
    (hs : ∀ i x H H', i < n → Pv i H → Y i H x H' → g x (wipe σ vs) H' fun σ2 H2 => wipe σ2 vs = wipe σ vs ∧ tt σ2 H2 fun b H3 =>
      if b = true then tk σ2 H3 fun y H4 => tv σ2 H4 fun z H5 => κ.put y z D H5 (Pv (i + 1)) else Pv (i + 1) H3) (hd : ∀ H, Pv n H → Qd H) :
    ∃ W : Nat → Nat → Hp → Prop, (∃ m, W 0 m (upd H1 D κ.em)) ∧ ∀ i m H, W i m H →
      (J.stop i H ∧ Qd H) ∨ (J.go i H ∧ ∃ Nx : Hp → Prop, (∀ H', Nx H' → ∃ m', m' < m ∧ W (i + 1) m' H') ∧ ∀ x H', J.yld i H x H' → g x (wipe σ vs) H' fun σ2 H2 => wipe σ2 vs = wipe σ vs ∧ tt σ2 H2 fun b H3 =>
        if b = true then tk σ2 H3 fun y H4 => tv σ2 H4 fun z H5 => κ.put y z D H5 Nx else Nx H3) := by
  refine ⟨fun i m H => m = n - i ∧ i ≤ n ∧ Pv i H, ⟨n, by simp, Nat.zero_le _, h0⟩, ?_⟩
  rintro i m H ⟨rfl, hi, p⟩
  have gH := hG i H hi p
  rcases Nat.lt_or_ge i n with lt | ge
  · exact .inr ⟨wk.goes i H lt gH, Pv (i + 1), fun H' p' => ⟨n - (i + 1), by omega, rfl, lt, p'⟩, fun x H' y => hs i x H H' lt p (wk.yields i H x H' lt gH y)⟩
  · obtain rfl : i = n := Nat.le_antisymm hi ge
    exact .inl ⟨wk.stops H gH, hd H p⟩
end K42

/-! K42I: nodes: what a dict of nodes holds, and what keeps it. -/
namespace K42
open PySem L2
open PyProof.Rows (envOfC)
open C8 (Cal Met Mak Def cal0 met0 mak0 pe_c pe_mk pe_mt pe_mt0 fnScope_by fnScope fnBody fnArgs pe_gc)
/-! ### nodes -/
/-- a node's tuple, whose children so far are at most B -/
def NodeV (B : Nat) (H : Hp) (v : V) : Prop := ∃ (t : Addr) (tx : PySem.Str) (c m : Int) (ow : V), v = .ref t ∧ H t = some (.tup [.str tx, .int c, .int m, ow]) ∧ 0 ≤ m ∧ m ≤ B ∧ (ow = .non ∨ ∃ a, ow = .str a)
/-- a path that nodes may have -/
def KeyOk (s : PySem.Str) : Prop := s.length ≤ 100 ∧ 47 ∈ sgns s ∧ ∀ c ∈ sgns s, c < 1000
def KvOk (B : Nat) (H : Hp) (kv : Key × V) : Prop := (∃ s, kv.1 = .inr s ∧ KeyOk s) ∧ NodeV B H kv.2
def NodesAt (B : Nat) (H : Hp) (d : Addr) : Prop := ∃ kvs : List (Key × V), H d = some (.dK kvs) ∧ kvs.length ≤ 60 ∧ ∀ kv ∈ kvs, KvOk B H kv
theorem NodeV.same {B : Nat} {H H' : Hp} {v : V} (h : NodeV B H v) (s : Same H H') : NodeV B H' v := by
  obtain ⟨t, tx, c, m, ow, e, ht, r⟩ := h
  exact ⟨t, tx, c, m, ow, e, s _ _ ht, r⟩
theorem NodeV.mono {B C : Nat} {H : Hp} {v : V} (h : NodeV B H v) (l : B ≤ C) : NodeV C H v := by
  obtain ⟨t, tx, c, m, ow, e, ht, r1, r2, r3⟩ := h
  exact ⟨t, tx, c, m, ow, e, ht, r1, by omega, r3⟩
theorem KvOk.same {B : Nat} {H H' : Hp} {v : Key × V} (h : KvOk B H v) (s : Same H H') : KvOk B H' v := ⟨h.1, h.2.same s⟩
theorem KvOk.mono {B C : Nat} {H : Hp} {v : Key × V} (h : KvOk B H v) (l : B ≤ C) : KvOk C H v := ⟨h.1, h.2.mono l⟩
theorem NodesAt.same {B : Nat} {H H' : Hp} {d : Addr} (h : NodesAt B H d) (s : Same H H') : NodesAt B H' d := by
  obtain ⟨kvs, hd, hl, hk⟩ := h
  exact ⟨kvs, s _ _ hd, hl, fun kv m => (hk kv m).same s⟩
theorem NodesAt.mono {B C : Nat} {H : Hp} {d : Addr} (h : NodesAt B H d) (l : B ≤ C) : NodesAt C H d := by
  obtain ⟨kvs, hd, hl, hk⟩ := h
  exact ⟨kvs, hd, hl, fun kv m => (hk kv m).mono l⟩
theorem valV_in' {kvs : List (Key × V)} {k : Key} {v : V} (h : valV kvs k = some v) : (k, v) ∈ kvs := by
  unfold valV at h
  cases e : kvs.find? (fun kv => decide (kv.1 = k)) with
  | none =>
    rw [e] at h
    cases h
  | some p =>
    rw [e] at h
    have h1 : p.2 = v := Option.some.inj h
    have h2 : p.1 = k := of_decide_eq_true (List.find?_some (p := fun kv : Key × V => decide (kv.1 = k)) e)
    have h3 := List.mem_of_find?_eq_some e
    subst h1 h2
    exact h3
theorem putK_mem {kvs : List (Key × V)} {k : Key} {v : V} {kv : Key × V} (h : kv ∈ putK kvs k v) : kv = (k, v) ∨ kv ∈ kvs := by
  unfold putK at h
  split at h
  · obtain ⟨p, hp, e⟩ := List.mem_map.mp h
    split at e
    · rename_i e1
      exact .inl (by rw [← e, e1])
    · exact .inr (by rw [← e]; exact hp)
  · rcases List.mem_append.mp h with h | h
    · exact .inr h
    · exact .inl (by simpa using h)
theorem putK_old {kvs : List (Key × V)} {k : Key} {v u : V} (h : valV kvs k = some u) : (putK kvs k v).length = kvs.length := by
  unfold putK
  rw [if_pos (by rw [valV_any, h]; rfl), List.length_map]
/-- a dict's item of that key -/
theorem dget_of {H : Hp} {d : Addr} {kvs : List (Key × V)} {k : Key} {v : V} (hd : H d = some (.dK kvs)) (hv : valV kvs k = some v) : DGet H d (kV k) (some v) := by
  rw [← hv]
  exact DGet.k hd
/-! ### events, answers -/
def EVW : List PySem.Str := ["made", "kids", "text", "gone"]
theorem evw_made : ("made" : PySem.Str) ∈ EVW := by decide +kernel
theorem evw_kids : ("kids" : PySem.Str) ∈ EVW := by decide +kernel
theorem evw_text : ("text" : PySem.Str) ∈ EVW := by decide +kernel
theorem evw_gone : ("gone" : PySem.Str) ∈ EVW := by decide +kernel
/-- a list of events -/
def EventsL (H : Hp) (l : Addr) (es : List (PySem.Str × PySem.Str)) : Prop := ∃ as : List Addr, H l = some (.lst (as.map V.ref)) ∧ Paired (fun a (e : PySem.Str × PySem.Str) => H a = some (.tup [.str e.1, .str e.2])) as es
def EvOk (n : Nat) (es : List (PySem.Str × PySem.Str)) : Prop := es.length ≤ n ∧ ∀ e ∈ es, e.1 ∈ EVW
theorem paired_imp {α β : Type} {R S : α → β → Prop} (h : ∀ a b, R a b → S a b) : ∀ {l : List α} {m : List β}, Paired R l m → Paired S l m
  | _, _, .nil => .nil
  | _, _, .cons r t => .cons (h _ _ r) (paired_imp h t)
theorem paired_app {α β : Type} {R : α → β → Prop} : ∀ {l l' : List α} {m m' : List β}, Paired R l m → Paired R l' m' → Paired R (l ++ l') (m ++ m')
  | _, _, _, _, .nil, s => s
  | _, _, _, _, .cons r t, s => .cons r (paired_app t s)
theorem EventsL.same {H H' : Hp} {l : Addr} {es : List (PySem.Str × PySem.Str)} (h : EventsL H l es) (s : Same H H') : EventsL H' l es := by
  obtain ⟨as, hl, hp⟩ := h
  exact ⟨as, s _ _ hl, paired_imp (fun a e q => s _ _ q) hp⟩
/-- (nodes, (word, value ..), events) at r -/
def ResAt (B n : Nat) (H0 H : Hp) (r : Addr) : Prop := ∃ (d a e : Addr) (w : PySem.Str) (v : V) (es : List (PySem.Str × PySem.Str)), H r = some (.tup [.ref d, .ref a, .ref e]) ∧ NodesAt B H d ∧ H a = some (.tup [.str w, v]) ∧ EventsL H e es ∧ EvOk n es ∧ H0 e = none ∧ H0 d = none
theorem ResAt.back {B n : Nat} {H0 G H : Hp} {r : Addr} (h : ResAt B n G H r) (s : Same H0 G) : ResAt B n H0 H r := by
  obtain ⟨d, a, e, w, v, es, h1, h2, h3, h4, h5, h6, h7⟩ := h
  exact ⟨d, a, e, w, v, es, h1, h2, h3, h4, h5, s.free h6, s.free h7⟩
theorem ResAt.mono {B C n m : Nat} {H0 H : Hp} {r : Addr} (h : ResAt B n H0 H r) (l : B ≤ C) (k : n ≤ m) : ResAt C m H0 H r := by
  obtain ⟨d, a, e, w, v, es, h1, h2, h3, h4, ⟨h5, h6⟩, h7⟩ := h
  exact ⟨d, a, e, w, v, es, h1, h2.mono l, h3, h4, ⟨Nat.le_trans h5 k, h6⟩, h7⟩
theorem lays3 {H : Hp} {p q : Addr} {o u : HO} (hp : H p = none) (hq : upd H p o q = none) : Same H (upd (upd H p o) q u) := (same_upd hp).trans (same_upd hq)
theorem le2 : 2 ≤ sizeLine := by decide
theorem le3 : 3 ≤ sizeLine := by decide
theorem le4 : 4 ≤ sizeLine := by decide
theorem le5 : 5 ≤ sizeLine := by decide
theorem le6 : 6 ≤ sizeLine := by decide
section
variable {P : Program} {w : World} {K : PySem.W.Frag} {mg : PySem.Str → Option Value} {base : Heap}
/-- the root alone -/
def spFirstNodes : Sp := fun vs H Q _ => vs = [] ∧ ∀ d H', Same H H' → NodesAt 0 H' d → Q (.ref d) H'
/-- what is told of a deed that isn't done -/
def spRefused : Sp := fun vs H Q _ => ∃ (d : Addr) (wd : PySem.Str) (B : Nat), vs = [.ref d, .str wd] ∧ NodesAt B H d ∧ ∀ r H', Same H H' → ResAt B 0 H H' r → Q (.ref r) H'
theorem ok_refused (T : Tx K w mg) (D : DB K mg "refused" sRefused pRefused) : Cal P w K mg base 1 "refused" spRefused [] := by
  refine D.cal scRefused (fun vs H Q E h => ?_) (fun f cdv A outer s H vs Q E hr h => ?_)
  · obtain ⟨d, wd, B, rfl, _⟩ := h
    rfl
  · obtain ⟨d, wd, B, rfl, ⟨kvs, hd, hl, hk⟩, k⟩ := h
    refine ⟨_, pss_one (ps_ret (pe_tup (pa_cons (pe_callTy call_dictD (by rfl) T.dict (by decide +kernel) (pa_cons (pv 0) pa_nil)) (pa_cons (pe_tup (pa_cons pe_str (pa_cons (pv 1) pa_nil))) (pa_cons (pe_lst pa_nil) pa_nil))))), ?_⟩
    refine ⟨_, rfl, d, kvs, rfl, .inl hd, fun p hp => ?_⟩
    refine ⟨_, rfl, le2, fun q hq => ⟨by decide, fun l hl' => ⟨le3, fun r hr' => ?_⟩⟩⟩
    have s1 := same_upd (o := .dK kvs) hp
    have s2 := same_upd (o := .tup [.str "no", .str wd]) hq
    have s3 := same_upd (o := .lst []) hl'
    have s4 := same_upd (o := .tup [.ref p, .ref q, .ref l]) hr'
    refine k r _ (((s1.trans s2).trans s3).trans s4) ⟨p, q, l, "no", .str wd, [], upd_same, ⟨kvs, s4 _ _ (s3 _ _ (s2 _ _ upd_same)), hl, fun kv m => (hk kv m).same (((s1.trans s2).trans s3).trans s4)⟩, s4 _ _ (s3 _ _ upd_same), ⟨[], s4 _ _ upd_same, .nil⟩, ⟨Nat.le_refl _, by simp⟩, (s1.trans s2).free hl', hp⟩
/-- a path with a number behind -/
def spNumbered : Sp := fun vs H Q _ => ∃ (p : PySem.Str) (m : Int), vs = [.str p, .int m] ∧ p.length ≤ 60 ∧ 0 ≤ m ∧ m ≤ 900 ∧ ∀ z : PySem.Str, z.length ≤ p.length + 7 → (∀ c ∈ sgns p, c ∈ sgns z) → (∀ c ∈ sgns z, c ∈ sgns p ∨ c < 1000) → Q (.str z) H
theorem str900 : (List.range 901).all (fun n => decide ((Str.ofString (toString (n : Int))).length ≤ 6)) = true := by decide +kernel
theorem len_app (x y : PySem.Str) : (x ++ y).length = x.length + y.length := by
  rw [TL.len_tl, TL.len_tl x, TL.len_tl y, TL.tl_append, List.length_append]
theorem sgn_app (x y : PySem.Str) : sgns (x ++ y) = sgns x ++ sgns y := TL.tl_append x y
theorem ok_numbered (T : Tx K w mg) (D : DB K mg "numbered_path" sNumberedPath pNumberedPath) : Cal P w K mg base 1 "numbered_path" spNumbered [] := by
  refine D.cal scNumberedPath (fun vs H Q E h => ?_) (fun f cdv A outer s H vs Q E hr h => ?_)
  · obtain ⟨p, m, rfl, _⟩ := h
    rfl
  · obtain ⟨p, m, rfl, hp, h0, h9, k⟩ := h
    refine ⟨_, pss_one (ps_ret (pe_op op_add_str (pe_op op_add_str (pv 0) pe_str) (pe_bm PySem.F.plainAttrs_str PySem.F.slot_str_rjust PySem.F.type_str_rjust mt_rjF (pe_callTy call_str_int (by rfl) T.str (by decide +kernel) (pa_cons (pv 1) pa_nil)) (pa_cons (pe_gc (by rfl) T.manyFigures) (pa_cons pe_str pa_nil))))), ?_⟩
    have e1 : ("-" : PySem.Str).length = 1 := by decide +kernel
    obtain ⟨n, rfl⟩ : ∃ n : Nat, m = (n : Int) := ⟨m.toNat, by omega⟩
    have hn : (Str.ofString (toString (n : Int))).length ≤ 6 := of_decide_eq_true (List.all_eq_true.mp str900 n (List.mem_range.mpr (by omega)))
    refine ⟨_, rfl, _, _, rfl, rfl, by rw [e1]; exact Nat.le_trans (Nat.add_le_add_right hp 1) (by decide), ?_⟩
    have hlog : ((n : Int)).natAbs.log2 < 1920 := by
      have h1 : ((n : Int)).natAbs = n := Int.natAbs_natCast n
      rw [h1]
      have : n.log2 ≤ n := Nat.log2_le_self n
      omega
    refine ⟨_, rfl, _, rfl, hlog, rfl, _, 6, "0", rfl, rfl, by decide +kernel, by decide +kernel, ?_⟩
    have hz : (Txt.rjustF (Str.ofString (toString (n : Int))) 6 (("0" : PySem.Str).cps.getD 0 0)).length ≤ 6 := by
      unfold Txt.rjustF
      split
      · exact hn
      · rw [size_padded]
        have : (6 : Int).toNat = 6 := rfl
        rw [this]
        omega
    refine ⟨_, _, rfl, rfl, ?_, ?_⟩
    · rw [len_app, e1]
      exact Nat.le_trans (Nat.add_le_add (Nat.add_le_add_right hp 1) hz) (by decide)
    · refine k _ ?_ (fun c hc => ?_) fun c hc => ?_
      · rw [len_app, len_app, e1]
        omega
      · rw [sgn_app, sgn_app]
        exact List.mem_append_left _ (List.mem_append_left _ hc)
      · rw [sgn_app, sgn_app] at hc
        have ed : sgns ("-" : PySem.Str) = [45] := by decide +kernel
        have e0 : ("0" : PySem.Str).cps.getD 0 0 = 48 := by decide +kernel
        rcases List.mem_append.mp hc with hc | hc
        · rcases List.mem_append.mp hc with hc | hc
          · exact .inl hc
          · rw [ed] at hc
            simp only [List.mem_cons, List.not_mem_nil, or_false] at hc
            exact .inr (by omega)
        · rw [show sgns (Txt.rjustF (Str.ofString (toString (n : Int))) 6 (("0" : PySem.Str).cps.getD 0 0)) = List.replicate ((6 : Int).toNat - (Str.ofString (toString (n : Int))).length) (("0" : PySem.Str).cps.getD 0 0) ++ sgns (Str.ofString (toString (n : Int))) from PyProof.Rows.rjustF_list _ _ _, e0] at hc
          rcases List.mem_append.mp hc with hc | hc
          · have := List.eq_of_mem_replicate hc
            exact .inr (by omega)
          · rw [show sgns (Str.ofString (toString (n : Int))) = TL.numL n from TL.tl_num n] at hc
            have := TL.numL_digits n c hc
            exact .inr (by omega)
end
end K42

/-! K42J: dropped, kids_of, first_nodes, make. -/
namespace K42
open PySem L2
open PyProof.Rows (envOfC)
open C8 (Cal Met Mak Def cal0 met0 mak0 pe_c pe_mk pe_mt pe_mt0 fnScope_by fnScope fnBody fnArgs pe_gc)
section
variable {P : Program} {w : World} {K : PySem.W.Frag} {mg : PySem.Str → Option Value} {base : Heap}
/-- a node goes: (nodes, events) -/
def spDropped : Sp := fun vs H Q _ => ∃ (d : Addr) (p : PySem.Str) (B : Nat), vs = [.ref d, .str p] ∧ NodesAt B H d ∧ p.length ≤ 1000 ∧
  ∀ (r d' e : Addr) (es : List (PySem.Str × PySem.Str)) H', Same H H' → H' r = some (.tup [.ref d', .ref e]) → NodesAt B H' d' → EventsL H' e es → EvOk 2 es → H e = none → H d' = none → Q (.ref r) H'
theorem ok_dropped (D : DB K mg "dropped" sDropped pDropped) (cA : Cal P w K mg base 2 "parent_of" spParentOf []) : Cal P w K mg base 3 "dropped" spDropped [] := by
  refine D.cal scDropped (fun vs H Q E h => ?_) (fun f cdv A outer s H vs Q E hr h => ?_)
  · obtain ⟨d, p, B, rfl, _⟩ := h
    rfl
  · obtain ⟨d, p, B, rfl, ⟨kvs, hd, hl, hk⟩, hp, k⟩ := h
    have hu := hu_of hr
    refine ⟨_, pss_cons (ps_lock (ps_setDcx (κ := kdK) (g := gTup K 2 (gCons (gName 3) (gCons (gName 4) gNil))) (i := 2) (own := [("one", 3), ("node", 4)]) kdK_ok hu rfl scDropped.nd rfl rfl (swd_true rfl rfl rfl (by decide +kernel)) (pi_items (pv 0)) (blkOk_by (N := nDropped) (sc := fnScope sDropped) (by decide +kernel))
        (fun _ _ _ _ _ => pg_tup rfl (pgs_cons (pg_name (i := 3) scDropped.nd rfl (Or.inl rfl)) (pgs_cons (pg_name (i := 4) scDropped.nd rfl (Or.inl rfl)) pgs_nil)))
        (fun _ _ _ _ _ => pts_one (pt_cmpR op_ne (pv 3) (pv 1) (nomark _))) (fun _ _ _ _ _ => pv 3) (fun _ _ _ _ _ => pv 4)))
      (pss_one (ps_ret (pe_tup (pa_cons (pv 2) (pa_cons (pe_lst (pa_cons (pe_tup (pa_cons pe_str (pa_cons (pv 1) pa_nil))) (pa_cons (pe_tup (pa_cons pe_str (pa_cons (pe_c cA hr (by decide) (by rfl) (pa_cons (pv 1) pa_nil)) pa_nil))) pa_nil))) pa_nil))))), ?_⟩
    refine ⟨d, .dK kvs, hd, True.intro, fun od => ?_⟩
    have Fd : (upd H d (.frz od (.dK kvs))) d = some (.frz od (.dK kvs)) := upd_same
    refine ⟨_, rfl, d, od, kvs, rfl, Fd, fun D hD => ?_⟩
    refine dcx_it walk_items (fun i H1 => Same (upd H d (.frz od (.dK kvs))) H1 ∧ ∃ ks : List (Key × V), H1 D = some (.dK ks) ∧ ks.length ≤ i ∧ ∀ kv ∈ ks, KvOk B H kv) ⟨same_upd hD, [], upd_same, Nat.le_refl _, fun _ h => by simp at h⟩ (fun i H1 _ h => h.1 _ _ Fd) (fun i x H1 H2 hi hv y => ?_) fun H1 hv => ?_
    · obtain ⟨s1, ks, hks, hkl, hkk⟩ := hv
      obtain ⟨t, kx, vx, rfl, ht, rfl, e1, e2⟩ := y
      have hki : kvs[i]? = some kvs[i] := List.getElem?_eq_getElem hi
      simp only [hki, Option.map_some, Option.some.injEq] at e1 e2
      have hmem := hk _ (List.getElem_mem hi)
      obtain ⟨⟨sk, esk, skk⟩, nv⟩ := id hmem
      rw [esk] at e1
      subst e1 e2
      refine ⟨t, _, rfl, SqT.of upd_same, rfl, _, _, rfl, _, _, rfl, rfl, rfl, ?_⟩
      refine ⟨_, rfl, _, rfl, rfl, _, rfl, ?_⟩
      have s2 : Same H1 (upd H1 t (.tup [V.str sk, kvs[i].2])) := same_upd ht
      refine ite2 (fun _ => ?_) (fun _ => ?_)
      · refine ⟨_, rfl, _, rfl, ks, .inr sk, rfl, s2 _ _ hks, by omega, (s1.trans s2).new hD, _, upd_same, ?_, fun kv h => ?_⟩
        · have := length_putK ks (Sum.inr sk : Key) kvs[i].2
          omega
        · rcases putK_mem h with e | h
          · subst e
            exact ⟨⟨sk, rfl, skk⟩, nv⟩
          · exact hkk kv h
      · exact ⟨s1.trans s2, ks, s2 _ _ hks, by omega, hkk⟩
    · obtain ⟨s1, ks, hks, hkl, hkk⟩ := hv
      refine ⟨s1 _ _ Fd, ?_⟩
      have s2 : Same H (upd H1 d (.dK kvs)) := same_unlock hd s1
      have nDd : D ≠ d := fun e => by
        rw [e, Fd] at hD
        cases hD
      have hD2 : (upd H1 d (.dK kvs)) D = some (.dK ks) := by rw [upd_ne nDd]; exact hks
      generalize upd H1 d (.dK kvs) = G at s2 hD2
      refine ⟨_, rfl, _, rfl, le2, fun t1 h1 => ⟨_, rfl, p, rfl, hp, fun G2 g2 => ⟨le2, fun t2 h2 => ⟨le2, fun l h3 => ⟨le2, fun r h4 => ?_⟩⟩⟩⟩⟩
      have q1 := same_upd (o := .tup [.str "gone", .str p]) h1
      have q2 := same_upd (o := .tup [.str "kids", .str (parentOf p)]) h2
      have q3 := same_upd (o := .lst [.ref t1, .ref t2]) h3
      have q4 := same_upd (o := .tup [.ref D, .ref l]) h4
      have fl : H l = none := ((((s2.trans q1).trans g2).trans q2)).free h3
      refine k r D l [("gone", p), ("kids", parentOf p)] _ (((((s2.trans q1).trans g2).trans q2).trans q3).trans q4) upd_same ⟨ks, q4 _ _ (q3 _ _ (q2 _ _ (g2 _ _ (q1 _ _ hD2)))), by omega, fun kv m => (hkk kv m).same (((((s2.trans q1).trans g2).trans q2).trans q3).trans q4)⟩ ⟨[t1, t2], q4 _ _ upd_same, .cons ?_ (.cons ?_ .nil)⟩ ⟨Nat.le_refl _, ?_⟩ fl (by rw [upd_ne nDd] at hD; exact hD)
      · exact q4 _ _ (q3 _ _ (q2 _ _ (g2 _ _ upd_same)))
      · exact q4 _ _ (q3 _ _ upd_same)
      · intro e he
        simp only [List.mem_cons, List.not_mem_nil, or_false] at he
        rcases he with rfl | rfl
        · exact evw_gone
        · exact evw_kids
theorem spl47_mem : ∀ (l acc p : List Nat) (c : Nat), p ∈ TL.spl [47] 0 acc l → c ∈ p → c ∈ acc ∨ c ∈ l
  | [], acc, p, c, hp, hc => by
    rw [TL.spl_nil] at hp
    simp only [List.mem_cons, List.not_mem_nil, or_false] at hp
    subst hp
    exact .inl hc
  | d :: r, acc, p, c, hp, hc => by
    by_cases e : d = 47
    · subst e
      rw [TL.spl_hit (by simp [TL.pre]), show [47].length - 1 = 0 from rfl] at hp
      rcases List.mem_cons.mp hp with q | q
      · subst q
        exact .inl hc
      · rcases spl47_mem r [] p c q hc with z | z
        · simp at z
        · exact .inr (List.mem_cons_of_mem _ z)
    · rw [TL.spl_miss (TL.pre_of_head _ _ e)] at hp
      rcases spl47_mem r _ p c hp hc with z | z
      · rcases List.mem_append.mp z with z | z
        · exact .inl z
        · simp only [List.mem_cons, List.not_mem_nil, or_false] at z
          exact .inr (by rw [z]; exact List.mem_cons_self)
      · exact .inr (List.mem_cons_of_mem _ z)
theorem partsOf_sgn {s p : PySem.Str} (h : p ∈ partsOf s) : ∀ c ∈ sgns p, c ∈ sgns s := by
  unfold partsOf at h
  split at h
  · simp at h
  · intro c hc
    have h1 : sgns p ∈ (Txt.split s "/").map sgns := List.mem_map.mpr ⟨p, List.mem_of_mem_drop h, rfl⟩
    rw [split47] at h1
    rcases spl47_mem _ _ _ c h1 hc with z | z
    · simp at z
    · exact z
theorem lay_small {s : PySem.Str} (h : ∀ c ∈ sgns s, c < 1000) : (PyData.str s).canLay0 = true := by
  rw [PyData.canLay0]
  unfold PyData.strOk
  rw [← Array.all_toList, List.all_eq_true]
  intro c hc
  have := h c hc
  exact decide_eq_true (by omega)
theorem last_some {α : Type} {l : List α} (h : 1 ≤ l.length) : ∃ z, l.getLast? = some z ∧ z ∈ l := by
  have hne : l ≠ [] := fun e => by rw [e] at h; simp at h
  exact ⟨l.getLast hne, List.getLast?_eq_some_getLast hne, List.getLast_mem hne⟩
/-- a node's children, sorted -/
def spKidsOf : Sp := fun vs H Q _ => ∃ (d : Addr) (p : PySem.Str) (B : Nat) (kvs : List (Key × V)) (v : V), vs = [.ref d, .str p] ∧ H d = some (.dK kvs) ∧ kvs.length ≤ 60 ∧ (∀ kv ∈ kvs, KvOk B H kv) ∧ valV kvs (.inr p) = some v ∧
  ∀ (l : Addr) (ys : List PySem.Str) H', Same H H' → H' l = some (.lst (ys.map V.str)) → (∀ y ∈ ys, (PyData.str y).canLay0 = true) → Q (.ref l) H'
theorem ok_kidsOf (T : Tx K w mg) (D : DB K mg "kids_of" sKidsOf pKidsOf) (cA : Cal P w K mg base 2 "parent_of" spParentOf []) (cL : Cal P w K mg base 2 "last_part" spLastPart []) : Cal P w K mg base 3 "kids_of" spKidsOf [] := by
  refine D.cal scKidsOf (fun vs H Q E h => ?_) (fun f cdv A outer s H vs Q E hr h => ?_)
  · obtain ⟨d, p, B, kvs, v, rfl, _⟩ := h
    rfl
  · obtain ⟨d, p, B, kvs, v, rfl, hd, hl, hk, hv, k⟩ := h
    have hu := hu_of hr
    refine ⟨_, pss_cons (ps_if (pt_cmp (pc_dnotin hu (pv 1) (pv 0))) (pss_one (ps_ret pe_non)) pss_nil)
      (pss_one (ps_ret (pe_callB cr_sortedS (by rfl) T.sorted (by decide +kernel) (pa_cons (pe_lock (pe_lc (own := [("one", 2)]) (g := gName 2) rfl scKidsOf.nd (pi_keys (pv 0)) (blkOk_by (N := nKidsOf) (sc := fnScope sKidsOf) (by decide +kernel))
        (fun _ _ _ _ _ => pg_name (i := 2) scKidsOf.nd rfl (Or.inl rfl)) (fun _ _ _ _ _ => pts_one (PW.pt (pw_and (pt_cmpR op_ne (pv 2) (pe_gc (by rfl) T.root) (nomark _)) (pw_and1 (pt_cmpR op_eq (pe_c cA hr (by decide) (by rfl) (pa_cons (pv 2) pa_nil)) (pv 1) (nomark _))))))
        (fun _ _ _ _ _ => pe_c cL hr (by decide) (by rfl) (pa_cons (pv 2) pa_nil)))) pa_nil)))), ?_⟩
    refine ⟨_, rfl, _, rfl, d, some v, rfl, dget_of (k := .inr p) hd hv, _, rfl, iteF ?_⟩
    refine ⟨d, .dK kvs, hd, True.intro, fun od => ?_⟩
    have Fd : (upd H d (.frz od (.dK kvs))) d = some (.frz od (.dK kvs)) := upd_same
    refine ⟨_, rfl, d, od, rfl, .inl ⟨kvs, Fd, fun D hD => ?_⟩⟩
    refine lc_it walk_keys (fun i H1 => Same (upd H d (.frz od (.dK kvs))) H1 ∧ ∃ ys : List PySem.Str, H1 D = some (.lst (ys.map V.str)) ∧ ys.length ≤ i ∧ ∀ y ∈ ys, (PyData.str y).canLay0 = true) ⟨same_upd hD, [], upd_same, Nat.le_refl _, fun _ h => by simp at h⟩ (fun i H1 _ h => h.1 _ _ Fd) (fun i x H1 H2 hi hv y => ?_) fun H1 hv => ?_
    · obtain ⟨s1, ys, hys, hyl, hyk⟩ := hv
      obtain ⟨rfl, kx, vx, e1, rfl⟩ := y
      obtain ⟨⟨sk, esk, k100, k47, k128⟩, _⟩ := hk _ (List.mem_of_getElem? e1)
      have esk : kx = .inr sk := esk
      subst esk
      refine ⟨rfl, _, rfl, rfl, _, rfl, ?_⟩
      refine ite2 (fun c1 => ?_) (fun c1 => ?_)
      · have ne : sk ≠ "/" := fun e => by
          rw [e] at c1
          exact absurd c1 (by decide +kernel)
        refine ⟨_, rfl, sk, rfl, by omega, fun H3 s3 => ⟨_, rfl, rfl, _, rfl, ?_⟩⟩
        refine ite2 (fun _ => ?_) (fun _ => ?_)
        · obtain ⟨z, hz, hzm⟩ := last_some (partsOf_pos k47 ne)
          refine ⟨_, rfl, sk, z, rfl, by omega, hz, fun H4 s4 => ⟨_, s4 _ _ (s3 _ _ hys), ?_, ((s1.trans s3).trans s4).new hD, ys ++ [z], ?_, ?_, fun u hu' => ?_⟩⟩
          · rw [List.length_map]
            exact small1000 (by omega)
          · rw [upd_same, List.map_append]
            rfl
          · rw [List.length_append, List.length_singleton]
            omega
          · rcases List.mem_append.mp hu' with m | m
            · exact hyk u m
            · simp only [List.mem_cons, List.not_mem_nil, or_false] at m
              subst m
              exact lay_small fun c hc => k128 c (partsOf_sgn hzm c hc)
        · exact ⟨s1.trans s3, ys, s3 _ _ hys, by omega, hyk⟩
      · exact ⟨s1, ys, hys, by omega, hyk⟩
    · obtain ⟨s1, ys, hys, hyl, hyk⟩ := hv
      refine ⟨s1 _ _ Fd, ?_⟩
      have s2 : Same H (upd H1 d (.dK kvs)) := same_unlock hd s1
      have nDd : D ≠ d := fun e => by
        rw [e, Fd] at hD
        cases hD
      have hD2 : (upd H1 d (.dK kvs)) D = some (.lst (ys.map V.str)) := by rw [upd_ne nDd]; exact hys
      refine ⟨D, ys, rfl, SqL.of hD2, by omega, fun zs q hp _ hq => ?_⟩
      exact k q zs _ (s2.trans (same_upd hq)) upd_same fun y hy => hyk y (hp.mem_iff.mp hy)
end
end K42

/-! K42K: first_nodes, make. -/
namespace K42
open PySem L2
open PyProof.Rows (envOfC)
open C8 (Cal Met Mak Def cal0 met0 mak0 pe_c pe_mk pe_mt pe_mt0 fnScope_by fnScope fnBody fnArgs pe_gc)
section
variable {X : Cx} {k j : Nat} {x : PySem.Str} {sp : Sp} {dvs : List V} {p pos : Pos}
/-- f() -/
theorem pe_c0 (c : Cal X.prog X.w X.K X.mg X.base k x sp dvs) (hr : Room j X.A) (hk : k ≤ j) (hg : Gl X x) (hdb : (x == ("__debug__" : PySem.Str)) = false := by decide) : PE X (.Call (.Name x p) [] [] pos) (tCall sp dvs C8.E0 tNil) := by
  obtain ⟨f, fd, ps, ds, F, hm, kp, b, d⟩ := c.ex
  exact pe_call0 F (hr.mono hk) hg hm kp b d C8.pass0 hdb
end
theorem mpaths_key : MPATHS.all (fun p => decide (p.length ≤ 60) && decide (47 ∈ sgns p) && (sgns p).all fun c => decide (c < 1000)) = true := by decide +kernel
theorem mpath_key {p : PySem.Str} (h : p ∈ MPATHS) : p.length ≤ 60 ∧ 47 ∈ sgns p ∧ ∀ c ∈ sgns p, c < 1000 := by
  have q := List.all_eq_true.mp mpaths_key p h
  simp only [Bool.and_eq_true, decide_eq_true_eq, List.all_eq_true] at q
  exact ⟨q.1.1, q.1.2, q.2⟩
theorem root_key : KeyOk "/" := by
  refine ⟨by decide +kernel, by decide +kernel, ?_⟩
  have e : sgns ("/" : PySem.Str) = [47] := by decide +kernel
  rw [e]
  intro c hc
  simp only [List.mem_cons, List.not_mem_nil, or_false] at hc
  omega
section
variable {P : Program} {w : World} {K : PySem.W.Frag} {mg : PySem.Str → Option Value} {base : Heap}
theorem ok_firstNodes (T : Tx K w mg) (D : DB K mg "first_nodes" sFirstNodes pFirstNodes) : Cal P w K mg base 1 "first_nodes" spFirstNodes [] := by
  refine D.cal scFirstNodes (fun vs H Q E h => ?_) (fun f cdv A outer s H vs Q E hr h => ?_)
  · obtain ⟨rfl, _⟩ := h
    rfl
  · obtain ⟨rfl, k⟩ := h
    refine ⟨_, pss_one (ps_ret (pe_disp (pps_cons (pe_gc (by rfl) T.root) (pe_tup (pa_cons pe_str (pa_cons pe_int (pa_cons pe_int (pa_cons pe_non pa_nil))))) pps_nil) (by rfl) (by rfl) (fun z => by cases z) (by decide))), ?_⟩
    intro d hd
    refine ⟨le4, fun t ht => ⟨?_, [(.inr "/", .ref t)], rfl, (by show 1 ≤ 15; decide), ?_⟩⟩
    · rw [upd_ne (ne_of_none upd_same ht), upd_same]
    · have hd2 : H t = none := (upd_none ht).2
      refine k d _ (((same_upd hd).trans (same_upd ht)).new hd) ⟨_, upd_same, (by show 1 ≤ 60; decide), fun kv hm => ?_⟩
      simp only [mergeK, List.foldl, putK, List.any_nil, Bool.false_eq_true, if_false, List.nil_append, List.mem_cons, List.not_mem_nil, or_false] at hm
      subst hm
      refine ⟨⟨"/", rfl, root_key⟩, t, "", 0, 0, .non, rfl, ?_, by decide, by decide, .inl rfl⟩
      rw [upd_ne (upd_none ht).1, upd_same]
/-- the end of make: the heap G holds the copy with its parent put anew, a new node's tuple stands at t2 -/
theorem make_end {B : Nat} {H1 G : Hp} {kvs : List (Key × V)} {g t1 t2 : Addr} {pp z tx t : PySem.Str} {c m : Int} {ow ow2 : V} (hl : kvs.length < 60) (hk : ∀ kv ∈ kvs, KvOk B H1 kv) (s1 : Same H1 G) (h0 : H1 g = none)
    (hgg : G g = some (.dK (putK kvs (Sum.inr pp) (.ref t1)))) (ht1 : G t1 = some (.tup [.str tx, .int c, .int (m + 1), ow])) (m0 : 0 ≤ m) (mB : m ≤ B) (how : ow = .non ∨ ∃ a, ow = .str a) (how2 : ow2 = .non ∨ ∃ a, ow2 = .str a)
    (hv : (valV kvs (Sum.inr pp)).isSome = true) (hz : valV kvs (Sum.inr z) = none) (kz : KeyOk z) (kp : KeyOk pp) (h2 : G t2 = none) :
    Same H1 (upd (upd G t2 (.tup [.str t, .int 0, .int 0, ow2])) g (.dK (putK (putK kvs (Sum.inr pp) (.ref t1)) (Sum.inr z) (.ref t2)))) ∧
    NodesAt (B + 1) (upd (upd G t2 (.tup [.str t, .int 0, .int 0, ow2])) g (.dK (putK (putK kvs (Sum.inr pp) (.ref t1)) (Sum.inr z) (.ref t2)))) g := by
  have g2 : g ≠ t2 := ne_of_none hgg h2
  have g1 : t1 ≠ g := ne_of ht1 hgg (by intro q; cases q)
  have sm : Same H1 (upd (upd G t2 (.tup [.str t, .int 0, .int 0, ow2])) g (.dK (putK (putK kvs (Sum.inr pp) (.ref t1)) (Sum.inr z) (.ref t2)))) := (s1.trans (same_upd h2)).new h0
  refine ⟨sm, _, upd_same, ?_, fun kv hm => ?_⟩
  · obtain ⟨u, hu⟩ := Option.isSome_iff_exists.mp hv
    have e1 : (putK kvs (Sum.inr pp : Key) (.ref t1)).length = kvs.length := putK_old hu
    have := length_putK (putK kvs (Sum.inr pp : Key) (.ref t1)) (Sum.inr z) (.ref t2)
    omega
  · have ht1' : (upd (upd G t2 (.tup [.str t, .int 0, .int 0, ow2])) g (.dK (putK (putK kvs (Sum.inr pp) (.ref t1)) (Sum.inr z) (.ref t2)))) t1 = some (.tup [.str tx, .int c, .int (m + 1), ow]) := by
      rw [upd_ne g1]
      exact same_upd h2 _ _ ht1
    have ht2' : (upd (upd G t2 (.tup [.str t, .int 0, .int 0, ow2])) g (.dK (putK (putK kvs (Sum.inr pp) (.ref t1)) (Sum.inr z) (.ref t2)))) t2 = some (.tup [.str t, .int 0, .int 0, ow2]) := by
      rw [upd_ne g2.symm, upd_same]
    rcases putK_mem hm with e | hm
    · subst e
      exact ⟨⟨z, rfl, kz⟩, t2, t, 0, 0, ow2, rfl, ht2', by omega, by omega, how2⟩
    · rcases putK_mem hm with e | hm
      · subst e
        exact ⟨⟨pp, rfl, kp⟩, t1, tx, c, m + 1, ow, rfl, ht1', by omega, by omega, how⟩
      · exact ((hk kv hm).same sm).mono (by omega)
/-- make -/
def spMake : Sp := fun vs H Q _ => ∃ (d : Addr) (ak p t : PySem.Str) (own num : Bool) (B : Nat), vs = [.ref d, .str ak, .str p, .str t, .bl own, .bl num] ∧ NodesAt B H d ∧ B ≤ 800 ∧ p ∈ MPATHS ∧ ∀ r H', Same H H' → ResAt (B + 1) 2 H H' r → Q (.ref r) H'
theorem ok_make (T : Tx K w mg) (D : DB K mg "make" sMake pMake) (cA : Cal P w K mg base 2 "parent_of" spParentOf []) (cR : Cal P w K mg base 1 "refused" spRefused []) (cN : Cal P w K mg base 1 "numbered_path" spNumbered []) : Cal P w K mg base 3 "make" spMake [] := by
  refine D.cal scMake (fun vs H Q E h => ?_) (fun f cdv A outer s H vs Q E hr h => ?_)
  · obtain ⟨d, ak, p, t, own, num, B, rfl, _⟩ := h
    rfl
  · obtain ⟨d, ak, p, t, own, num, B, rfl, hN, hB, hp, k⟩ := h
    have hu := hu_of hr
    obtain ⟨p60, p47, p1000⟩ := mpath_key hp
    refine ⟨_, pss_cons (ps_set (i := 6) scMake.nd rfl (Or.inl rfl) (pe_c cA hr (by decide) (by rfl) (pa_cons (pv 2) pa_nil)))
      (pss_cons (ps_if (pt_cmp (pc_dnotin hu (pv 6) (pv 0))) (pss_one (ps_ret (pe_c cR hr (by decide) (by rfl) (pa_cons (pv 0) (pa_cons pe_str pa_nil))))) pss_nil)
      (pss_cons (ps_asg (pe_dget hu (pv 0) (pv 6) (fun _ _ => rfl)) (pg_tup rfl (pgs_cons (pg_name (i := 7) scMake.nd rfl (Or.inl rfl)) (pgs_cons (pg_name (i := 8) scMake.nd rfl (Or.inl rfl)) (pgs_cons (pg_name (i := 9) scMake.nd rfl (Or.inl rfl)) (pgs_cons (pg_name (i := 10) scMake.nd rfl (Or.inl rfl)) pgs_nil))))))
      (pss_cons (ps_if (pt_cmp (pc_notN (pv 10))) (pss_one (ps_ret (pe_c cR hr (by decide) (by rfl) (pa_cons (pv 0) (pa_cons pe_str pa_nil))))) pss_nil)
      (C8.pss_cut (ps_if (pt_val (pv 5)) (pss_one (ps_set (i := 2) scMake.nd rfl (Or.inl rfl) (pe_c cN hr (by decide) (by rfl) (pa_cons (pv 2) (pa_cons (pv 9) pa_nil))))) pss_nil)
      (pss_cons (ps_if (pt_cmp (pc_din hu (pv 2) (pv 0))) (pss_one (ps_ret (pe_c cR hr (by decide) (by rfl) (pa_cons (pv 0) (pa_cons pe_str pa_nil))))) pss_nil)
      (pss_cons (ps_if (PW.pt (pw_or (pt_cmpR op_ge (pe_callB call_lenD (by rfl) T.len PySem.boot_len (pa_cons (pv 0) pa_nil)) (pe_gc (by rfl) T.mostNodes) (nomark _)) (pw_or1 (PW.pt (pw_and (pt_val (pv 5)) (pw_and1 (pt_cmpR op_gt (pv 9) (pe_gc (by rfl) T.mostMade) (nomark _)))))))) (pss_one (ps_ret (pe_c cR hr (by decide) (by rfl) (pa_cons (pv 0) (pa_cons pe_str pa_nil))))) pss_nil)
      (pss_cons (ps_set (i := 11) scMake.nd rfl (Or.inl rfl) (pe_callTy call_dictD (by rfl) T.dict (by decide +kernel) (pa_cons (pv 0) pa_nil)))
      (pss_cons (ps_dput hu (pv 11) (pv 6) (pe_tup (pa_cons (pv 7) (pa_cons (pv 8) (pa_cons (pe_op op_add (pv 9) pe_int) (pa_cons (pv 10) pa_nil))))) rfl)
      (pss_cons (ps_dput hu (pv 11) (pv 2) (pe_tup (pa_cons (pv 3) (pa_cons pe_int (pa_cons pe_int (pa_cons (pe_ifExp (pt_val (pv 4)) (pv 1) pe_non) pa_nil))))) rfl)
      (pss_one (ps_ret (pe_tup (pa_cons (pv 11) (pa_cons (pe_tup (pa_cons pe_str (pa_cons (pv 2) pa_nil))) (pa_cons (pe_lst (pa_cons (pe_tup (pa_cons pe_str (pa_cons (pv 2) pa_nil))) (pa_cons (pe_tup (pa_cons pe_str (pa_cons (pv 6) pa_nil))) pa_nil))) pa_nil))))))))))))))), ?_⟩
    -- parent = parent_of(path)
    refine ⟨_, rfl, p, rfl, by omega, fun H1 s1 => ?_⟩
    have hN1 := hN.same s1
    have no : ∀ (wd : PySem.Str), spRefused [.ref d, .str wd] H1 Q C8.E0 := fun wd => ⟨d, wd, B, rfl, hN1, fun r H' s2 hres => k r H' (s1.trans s2) ((hres.back s1).mono (by omega) (by omega))⟩
    obtain ⟨kvs, hd, hl, hk⟩ := id hN1
    -- if parent not in nodes
    refine ⟨_, rfl, _, rfl, d, _, rfl, DGet.k (k := Sum.inr (parentOf p)) hd, _, rfl, ?_⟩
    cases e : valV kvs (Sum.inr (parentOf p) : Key) with
    | none => exact iteT ⟨_, rfl, no _⟩
    | some v =>
      refine iteF ?_
      obtain ⟨⟨sk, esk, kk⟩, t0, tx, c, m, ow, ev, ht0, m0, mB, how⟩ := hk _ (valV_in' e)
      have esk : Sum.inr (parentOf p) = (Sum.inr sk : Key) := esk
      have epk : parentOf p = sk := Sum.inr.inj esk
      have ev : v = .ref t0 := ev
      subst ev
      -- above, count, made, owner = nodes[parent]
      refine ⟨_, rfl, _, rfl, d, _, rfl, dget_of (k := .inr (parentOf p)) hd e, t0, _, rfl, SqT.of ht0, rfl, _, _, rfl, _, _, rfl, _, _, rfl, _, _, rfl, rfl, ?_⟩
      refine ⟨_, rfl, _, rfl, ?_⟩
      refine ite2 (fun _ => ⟨_, rfl, no _⟩) (fun _ => ?_)
      -- if numbered: path = ..
      refine ⟨fun σ' H' => H' = H1 ∧ ∃ z : PySem.Str, KeyOk z ∧ σ' = [some (.ref d), some (.str ak), some (.str z), some (.str t), some (.bl own), some (.bl num), some (.str (parentOf p)), some (.str tx), some (.int c), some (.int m), some ow, none], ?_, ?_⟩
      · refine ⟨_, rfl, num, rfl, ?_⟩
        refine ite2 (fun _ => ?_) (fun _ => ⟨rfl, p, ⟨by omega, p47, p1000⟩, rfl⟩)
        refine ⟨_, rfl, _, rfl, p, m, rfl, p60, m0, by omega, fun z zl zi zo => ⟨rfl, z, ⟨by omega, zi _ p47, fun c hc => ?_⟩, rfl⟩⟩
        rcases zo c hc with q | q
        · exact p1000 c q
        · exact q
      · rintro σ' H' ⟨rfl, z, kz, rfl⟩
        -- if path in nodes
        refine ⟨_, rfl, _, rfl, d, _, rfl, DGet.k (k := Sum.inr z) hd, _, rfl, ?_⟩
        cases ez : valV kvs (Sum.inr z : Key) with
        | some _ => exact iteT ⟨_, rfl, no _⟩
        | none =>
          refine iteF ?_
          refine ⟨_, rfl, d, kvs, rfl, hd, _, _, rfl, rfl, _, rfl, ?_⟩
          refine ite2 (fun _ => ⟨_, rfl, no _⟩) (fun c60 => ?_)
          have h60 : kvs.length < 60 := by
            have := of_decide_eq_false (Bool.eq_false_iff.mpr c60)
            omega
          refine ⟨_, rfl, num, rfl, ?_⟩
          refine ite2 (fun _ => ⟨_, rfl, _, _, rfl, rfl, _, rfl, ite2 (fun _ => ⟨_, rfl, no _⟩) (fun _ => ?_)⟩) (fun _ => ?_)
          all_goals
            refine ⟨_, rfl, d, kvs, rfl, .inl hd, fun g hg => ?_⟩
            have q1 := same_upd (o := .dK kvs) hg
            refine ⟨_, rfl, _, rfl, _, rfl, _, _, rfl, rfl, _, rfl, le4, fun t1 h1 => ?_⟩
            have gt1 : g ≠ t1 := ne_of_none upd_same h1
            have q2 := q1.trans (same_upd (o := .tup [.str tx, .int c, .int (m + 1), ow]) h1)
            refine ⟨_, rfl, _, rfl, g, _, rfl, DPut.k (kvs := kvs) (k := Sum.inr (parentOf p)) (by rw [upd_ne gt1, upd_same]) (small1000 (by omega)), ?_⟩
            have hg0 : H' g = none := hg
            have q3 : Same H' (upd (upd (upd H' g (.dK kvs)) t1 (.tup [.str tx, .int c, .int (m + 1), ow])) g (.dK (putK kvs (Sum.inr (parentOf p)) (.ref t1)))) := q2.new hg
            have ht1 : (upd (upd (upd H' g (.dK kvs)) t1 (.tup [.str tx, .int c, .int (m + 1), ow])) g (.dK (putK kvs (Sum.inr (parentOf p)) (.ref t1)))) t1 = some (.tup [.str tx, .int c, .int (m + 1), ow]) := by rw [upd_ne gt1.symm, upd_same]
            have hgg : (upd (upd (upd H' g (.dK kvs)) t1 (.tup [.str tx, .int c, .int (m + 1), ow])) g (.dK (putK kvs (Sum.inr (parentOf p)) (.ref t1)))) g = some (.dK (putK kvs (Sum.inr (parentOf p)) (.ref t1))) := upd_same
            generalize (upd (upd (upd H' g (.dK kvs)) t1 (.tup [.str tx, .int c, .int (m + 1), ow])) g (.dK (putK kvs (Sum.inr (parentOf p)) (.ref t1)))) = G at q3 ht1 hgg
            have l1 : (putK kvs (Sum.inr (parentOf p) : Key) (.ref t1)).length = kvs.length := putK_old e
            rcases own with _ | _
          all_goals first
            | (refine ⟨_, rfl, _, rfl, false, rfl, iteF ⟨le4, fun t2 h2 => ?_⟩⟩
               have how2 : (V.non = V.non ∨ ∃ a, V.non = V.str a) := .inl rfl)
            | (refine ⟨_, rfl, _, rfl, true, rfl, iteT ⟨_, rfl, le4, fun t2 h2 => ?_⟩⟩
               have how2 : (V.str ak = V.non ∨ ∃ a, V.str ak = V.str a) := .inr ⟨_, rfl⟩)
          all_goals
            have gt2 : g ≠ t2 := ne_of_none hgg h2
            refine ⟨_, rfl, _, rfl, g, _, rfl, DPut.k (kvs := putK kvs (Sum.inr (parentOf p)) (.ref t1)) (k := Sum.inr z) (by rw [upd_ne gt2]; exact hgg) (small1000 (by omega)), ?_⟩
            obtain ⟨sm, nm⟩ := make_end (B := B) (t := t) (by omega) hk q3 hg0 hgg ht1 m0 mB how how2 (by rw [e]; rfl) ez kz (by rw [epk]; exact kk) h2
            refine ⟨_, rfl, _, rfl, le2, fun a ha => ⟨_, rfl, le2, fun e1 he1 => ⟨_, rfl, le2, fun e2 he2 => ⟨le2, fun l hL => ⟨le3, fun r hR => ?_⟩⟩⟩⟩⟩
            have w1 := same_upd (o := .tup [.str "ok", .str z]) ha
            have w2 := same_upd (o := .tup [.str "made", .str z]) he1
            have w3 := same_upd (o := .tup [.str "kids", .str (parentOf p)]) he2
            have w4 := same_upd (o := .lst [.ref e1, .ref e2]) hL
            have w5 := same_upd (o := .tup [.ref g, .ref a, .ref l]) hR
            have w := (((w1.trans w2).trans w3).trans w4).trans w5
            refine k r _ (s1.trans (sm.trans w)) ⟨g, a, l, "ok", .str z, [("made", z), ("kids", parentOf p)], upd_same, nm.same w, w5 _ _ (w4 _ _ (w3 _ _ (w2 _ _ upd_same))), ⟨[e1, e2], w5 _ _ upd_same, .cons (w5 _ _ (w4 _ _ (w3 _ _ upd_same))) (.cons (w5 _ _ (w4 _ _ upd_same)) .nil)⟩, ⟨Nat.le_refl _, ?_⟩, (s1.trans (sm.trans ((w1.trans w2).trans w3))).free hL, s1.free hg0⟩
            intro e' he'
            simp only [List.mem_cons, List.not_mem_nil, or_false] at he'
            rcases he' with rfl | rfl
            · exact evw_made
            · exact evw_kids
end
end K42

/-! K42L: put, drop, done_plain. -/
namespace K42
open PySem L2
open PyProof.Rows (envOfC)
open C8 (Cal Met Mak Def cal0 met0 mak0 pe_c pe_mk pe_mt pe_mt0 fnScope_by fnScope fnBody fnArgs pe_gc)
section
variable {P : Program} {w : World} {K : PySem.W.Frag} {mg : PySem.Str → Option Value} {base : Heap}
/-- put, drop: the node is there -/
def spPut : Sp := fun vs H Q _ => ∃ (d : Addr) (p t : PySem.Str) (B : Nat) (kvs : List (Key × V)) (v : V), vs = [.ref d, .str p, .str t] ∧ H d = some (.dK kvs) ∧ kvs.length ≤ 60 ∧ (∀ kv ∈ kvs, KvOk B H kv) ∧ valV kvs (.inr p) = some v ∧ ∀ r H', Same H H' → ResAt B 2 H H' r → Q (.ref r) H'
theorem ok_put (T : Tx K w mg) (D : DB K mg "put" sPut pPut) : Cal P w K mg base 1 "put" spPut [] := by
  refine D.cal scPut (fun vs H Q E h => ?_) (fun f cdv A outer s H vs Q E hr h => ?_)
  · obtain ⟨d, p, t, B, kvs, v, rfl, _⟩ := h
    rfl
  · obtain ⟨d, p, t, B, kvs, v, rfl, hd, hl, hk, hv, k⟩ := h
    have hu := hu_of hr
    obtain ⟨⟨sk, esk, kk⟩, t0, tx, c, m, ow, ev, ht0, m0, mB, how⟩ := hk _ (valV_in' hv)
    have ev2 : v = .ref t0 := ev
    have esk2 : sk = p := (Sum.inr.inj esk).symm
    subst esk2
    subst ev2
    refine ⟨_, pss_cons (ps_asg (pe_dget hu (pv 0) (pv 1) (fun _ _ => rfl)) (pg_tup rfl (pgs_cons (pg_name (i := 3) scPut.nd rfl (Or.inl rfl)) (pgs_cons (pg_name (i := 4) scPut.nd rfl (Or.inl rfl)) (pgs_cons (pg_name (i := 5) scPut.nd rfl (Or.inl rfl)) (pgs_cons (pg_name (i := 6) scPut.nd rfl (Or.inl rfl)) pgs_nil))))))
      (pss_cons (ps_set (i := 7) scPut.nd rfl (Or.inl rfl) (pe_callTy call_dictD (by rfl) T.dict (by decide +kernel) (pa_cons (pv 0) pa_nil)))
      (pss_cons (ps_dput hu (pv 7) (pv 1) (pe_tup (pa_cons (pv 2) (pa_cons (pe_op op_add (pv 4) pe_int) (pa_cons (pv 5) (pa_cons (pv 6) pa_nil))))) rfl)
      (pss_one (ps_ret (pe_tup (pa_cons (pv 7) (pa_cons (pe_tup (pa_cons pe_str (pa_cons (pe_op op_add (pv 4) pe_int) pa_nil))) (pa_cons (pe_lst (pa_cons (pe_tup (pa_cons pe_str (pa_cons (pv 1) pa_nil))) pa_nil)) pa_nil)))))))), ?_⟩
    refine ⟨_, rfl, _, rfl, d, _, rfl, dget_of (k := .inr sk) hd hv, t0, _, rfl, SqT.of ht0, rfl, _, _, rfl, _, _, rfl, _, _, rfl, _, _, rfl, rfl, ?_⟩
    refine ⟨_, rfl, d, kvs, rfl, .inl hd, fun g hg => ?_⟩
    refine ⟨_, rfl, _, rfl, _, _, rfl, rfl, _, rfl, _, rfl, le4, fun t1 h1 => ?_⟩
    have gt1 : g ≠ t1 := ne_of_none upd_same h1
    refine ⟨_, rfl, _, rfl, g, _, rfl, DPut.k (kvs := kvs) (k := Sum.inr sk) (by rw [upd_ne gt1, upd_same]) (small1000 (by omega)), ?_⟩
    have q2 : Same H (upd (upd (upd H g (.dK kvs)) t1 (.tup [.str t, .int (c + 1), .int m, ow])) g (.dK (putK kvs (Sum.inr sk) (.ref t1)))) := ((same_upd hg).trans (same_upd h1)).new hg
    have ht1 : (upd (upd (upd H g (.dK kvs)) t1 (.tup [.str t, .int (c + 1), .int m, ow])) g (.dK (putK kvs (Sum.inr sk) (.ref t1)))) t1 = some (.tup [.str t, .int (c + 1), .int m, ow]) := by rw [upd_ne gt1.symm, upd_same]
    have hgg : (upd (upd (upd H g (.dK kvs)) t1 (.tup [.str t, .int (c + 1), .int m, ow])) g (.dK (putK kvs (Sum.inr sk) (.ref t1)))) g = some (.dK (putK kvs (Sum.inr sk) (.ref t1))) := upd_same
    generalize (upd (upd (upd H g (.dK kvs)) t1 (.tup [.str t, .int (c + 1), .int m, ow])) g (.dK (putK kvs (Sum.inr sk) (.ref t1)))) = G at q2 ht1 hgg
    refine ⟨_, rfl, _, rfl, _, _, rfl, rfl, le2, fun a ha => ⟨_, rfl, le2, fun e1 he1 => ⟨(by show 1 ≤ sizeLine; decide), fun l hL => ⟨le3, fun r hR => ?_⟩⟩⟩⟩
    have w1 := same_upd (o := .tup [.str "ok", .int (c + 1)]) ha
    have w2 := same_upd (o := .tup [.str "text", .str sk]) he1
    have w4 := same_upd (o := .lst [.ref e1]) hL
    have w5 := same_upd (o := .tup [.ref g, .ref a, .ref l]) hR
    have w := ((w1.trans w2).trans w4).trans w5
    have l1 : (putK kvs (Sum.inr sk : Key) (.ref t1)).length = kvs.length := putK_old hv
    refine k r _ (q2.trans w) ⟨g, a, l, "ok", .int (c + 1), [("text", sk)], upd_same, ⟨_, w _ _ hgg, by omega, fun kv hm => ?_⟩, w5 _ _ (w4 _ _ (w2 _ _ upd_same)), ⟨[e1], w5 _ _ upd_same, .cons (w5 _ _ (w4 _ _ upd_same)) .nil⟩, ⟨by simp, ?_⟩, (q2.trans (w1.trans w2)).free hL, hg⟩
    · rcases putK_mem hm with e | hm
      · subst e
        exact ⟨⟨sk, rfl, kk⟩, t1, t, c + 1, m, ow, rfl, w _ _ ht1, m0, mB, how⟩
      · exact (hk kv hm).same (q2.trans w)
    · intro e' he'
      simp only [List.mem_cons, List.not_mem_nil, or_false] at he'
      subst he'
      exact evw_text
def spDrop : Sp := fun vs H Q _ => ∃ (d : Addr) (p : PySem.Str) (B : Nat) (kvs : List (Key × V)) (v : V), vs = [.ref d, .str p] ∧ H d = some (.dK kvs) ∧ kvs.length ≤ 60 ∧ (∀ kv ∈ kvs, KvOk B H kv) ∧ valV kvs (.inr p) = some v ∧ ∀ r H', Same H H' → ResAt B 2 H H' r → Q (.ref r) H'
theorem lay_all {ys : List PySem.Str} (h : ∀ y ∈ ys, (PyData.str y).canLay0 = true) : (PyData.list (ys.map PyData.str)).canLay0 = true ∧ (PyData.list (ys.map PyData.str)).depth ≤ 1 := by
  rw [PyData.canLay0, PyData.depth]
  induction ys with
  | nil => exact ⟨rfl, by simp [PyData.depthAll]⟩
  | cons y ys ih =>
    obtain ⟨i1, i2⟩ := ih fun z hz => h z (List.mem_cons_of_mem _ hz)
    rw [List.map_cons, PyData.canLayAll0, PyData.depthAll, h y List.mem_cons_self, i1]
    refine ⟨rfl, ?_⟩
    have : (PyData.str y).depth = 0 := by simp [PyData.depth]
    omega
theorem dp_strs {H : Hp} : ∀ ys : List PySem.Str, DpAll K H (ys.map V.str) (ys.map PyData.str)
  | [] => .nil
  | y :: ys => .cons (.str y) (dp_strs ys)
theorem ok_drop (T : Tx K w mg) (D : DB K mg "drop" sDrop pDrop) (cK : Cal P w K mg base 3 "kids_of" spKidsOf []) (cR : Cal P w K mg base 1 "refused" spRefused []) (cD : Cal P w K mg base 3 "dropped" spDropped []) : Cal P w K mg base 4 "drop" spDrop [] := by
  refine D.cal scDrop (fun vs H Q E h => ?_) (fun f cdv A outer s H vs Q E hr h => ?_)
  · obtain ⟨d, p, B, kvs, v, rfl, _⟩ := h
    rfl
  · obtain ⟨d, p, B, kvs, v, rfl, hd, hl, hk, hv, k⟩ := h
    obtain ⟨⟨sk, esk, kk⟩, _⟩ := hk _ (valV_in' hv)
    have esk2 : sk = p := (Sum.inr.inj esk).symm
    subst esk2
    refine ⟨_, pss_cons (ps_if (pt_cmpR (op_neD hr.units) (pe_c cK hr (by decide) (by rfl) (pa_cons (pv 0) (pa_cons (pv 1) pa_nil))) (pe_lst pa_nil) (nomark _)) (pss_one (ps_ret (pe_c cR hr (by decide) (by rfl) (pa_cons (pv 0) (pa_cons pe_str pa_nil))))) pss_nil)
      (pss_cons (ps_asg (pe_c cD hr (by decide) (by rfl) (pa_cons (pv 0) (pa_cons (pv 1) pa_nil))) (pg_tup rfl (pgs_cons (pg_name (i := 2) scDrop.nd rfl (Or.inl rfl)) (pgs_cons (pg_name (i := 3) scDrop.nd rfl (Or.inl rfl)) pgs_nil))))
      (pss_one (ps_ret (pe_tup (pa_cons (pv 2) (pa_cons (pe_tup (pa_cons pe_str (pa_cons pe_non pa_nil))) (pa_cons (pv 3) pa_nil))))))), ?_⟩
    refine ⟨_, rfl, _, rfl, d, sk, B, kvs, v, rfl, hd, hl, hk, hv, fun l ys H1 s1 hL hys => ⟨by decide, fun q hq => ?_⟩⟩
    have s2 := s1.trans (same_upd (o := .lst []) hq)
    obtain ⟨g1, g2⟩ := lay_all hys
    have nodes2 : NodesAt B (upd H1 q (.lst [])) d := ⟨kvs, s2 _ _ hd, hl, fun kv m => (hk kv m).same s2⟩
    refine ⟨.list (ys.map PyData.str), .list [], .lst (SqL.of (same_upd hq _ _ hL)) (dp_strs ys), .lst (SqL.of upd_same) .nil, shaped_of g1 g2 (by decide), by decide +kernel, _, rfl, ?_⟩
    refine ite2 (fun _ => ?_) (fun _ => ?_)
    · exact ⟨_, rfl, d, _, B, rfl, nodes2, fun r H2 s3 hres => k r H2 (s2.trans s3) ((hres.back s2).mono (Nat.le_refl _) (by omega))⟩
    · refine ⟨_, rfl, _, rfl, d, sk, B, rfl, nodes2, by have := kk.1; omega, fun r d' e es H3 s3 hr3 hn3 he3 hev fe fd => ?_⟩
      refine ⟨r, _, rfl, SqT.of hr3, rfl, _, _, rfl, _, _, rfl, rfl, ?_⟩
      refine ⟨_, rfl, le2, fun a ha => ⟨_, rfl, le3, fun r2 hr2 => ?_⟩⟩
      have w1 := same_upd (o := .tup [.str "ok", .non]) ha
      have w2 := same_upd (o := .tup [.ref d', .ref a, .ref e]) hr2
      exact k r2 _ (((s2.trans s3).trans w1).trans w2) ⟨d', a, e, "ok", .non, es, upd_same, hn3.same (w1.trans w2), w2 _ _ upd_same, he3.same (w1.trans w2), hev, s2.free fe, s2.free fd⟩
end
end K42

/-! K42M: defs with keyword-only parameters; done_plain. -/
namespace K42
open PySem L2
open PyProof.Rows (envOfC)
open C8 (Cal Met Mak Def cal0 met0 mak0 pe_c pe_mk pe_mt pe_mt0 fnScope_by fnScope fnBody fnArgs pe_gc)
section
variable {P : Program} {w : World} {K : PySem.W.Frag} {mg : PySem.Str → Option Value} {base : Heap}
/-- a def of the module under its name, n parameters by place, those named ks by keywords alone -/
structure DK (K : PySem.W.Frag) (mg : PySem.Str → Option Value) (x : PySem.Str) (st : Stmt) (ps : List PySem.Str) (n : Nat) (ks : List PySem.Str) : Prop where
  ex : ∃ (f : Addr) (fd : FuncData), C8.Def K mg x st f fd ∧ KBn K fd ps n ks (fun us ws => us ++ ws) (fun us ws => us ++ ws)
structure CalN (P : Program) (w : World) (K : PySem.W.Frag) (mg : PySem.Str → Option Value) (base : Heap) (k : Nat) (x : PySem.Str) (n : Nat) (ks : List PySem.Str) (sp : Sp) : Prop where
  ex : ∃ (f : Addr) (fd : FuncData) (ps : List PySem.Str), FnOk P w K mg base C8.CX0 k f fd ps sp ∧ mg x = some (.ref f) ∧ PySem.W.keepIn K (.ref f) = true ∧ KBn K fd ps n ks (fun us ws => us ++ ws) (fun us ws => us ++ ws)
theorem DK.cal {x : PySem.Str} {st : Stmt} {N ps ks : List PySem.Str} {k n : Nat} {sp : Sp} (D : DK K mg x st ps n ks) (S : FnScope N ps (fnScope st)) (len : ∀ vs H Q E, sp vs H Q E → vs.length = ps.length)
    (hb : ∀ (f : Addr) (cdv : Value) (A : Around) (outer : List Env) (s : Shared) (H : Hp) (vs : List V) (Q : VK) (E : XK), Room k (A.deeper (envOfC x (fnScope st) s.heap.objs.size f cdv)) → sp vs H Q E →
      ∃ t, PSs (cxOf C8.CX0 P w K mg base N x (fnScope st) f cdv A outer s H E).nox (fnBody st) t ∧ t { nx := fun _ H' => Q .non H', rt := Q } (start N vs) H) : CalN P w K mg base (k + 1) x n ks sp := by
  obtain ⟨f, fd, F, b⟩ := D.ex
  exact ⟨f, fd, ps, C8.fn0 F.fn S len (hb f), F.mgf, F.kp, b⟩
section
variable {X : Cx} {k j n : Nat} {x : PySem.Str} {ks : List PySem.Str} {sp : Sp} {p pos : Pos} {e : Expr} {es : List Expr} {kws : List Keyword} {t tk : TA}
/-- f(e, .., k = v) -/
theorem pe_cn (c : CalN X.prog X.w X.K X.mg X.base k x n ks sp) (hr : Room j X.A) (hk : k ≤ j) (hg : Gl X x) (ha : PA X (e :: es) t) (hkw : PK X kws tk)
    (hall : (backToKw pos (keywordEach kws X.env)).all (·.1.isSome) = true := by rfl) (hks : (backToKw pos (keywordEach kws X.env)).filterMap (·.1) = ks := by rfl)
    (hdb : (x == ("__debug__" : PySem.Str)) = false := by decide) (he : starEach (e :: es) X.env = (false, eval e X.env) :: starEach es X.env := by rfl)
    (hpl : ((backTo pos (starEach (e :: es) X.env)).any (·.1) || (backToKw pos (keywordEach kws X.env)).any (·.1.isNone)) = false := by rfl) :
    PE X (.Call (.Name x p) (e :: es) kws pos) (tCallN n ks.length sp (fun us ws => us ++ ws) C8.E0 t tk) := by
  obtain ⟨f, fd, ps, F, hm, kp, b⟩ := c.ex
  exact pe_callN F (hr.mono hk) hg hm kp b C8.pass0 ha hkw hall hks hdb he hpl
end
/-- a plain deed done -/
def spDonePlain : Sp := fun vs H Q _ => ∃ (d : Addr) (v : V) (ak : PySem.Str) (B : Nat), vs = [.ref d, v, .str ak] ∧ NodesAt B H d ∧ B ≤ 800 ∧ PlainV H v ∧ ∀ r H', Same H H' → ResAt (B + 1) 2 H H' r → Q (.ref r) H'
theorem ok_donePlain (T : Tx K w mg) (D : DK K mg "done_plain" sDonePlain pDonePlain 2 ["asker"]) (cI : Cal P w K mg base 4 "is_plain" spIsPlain []) (cM : Cal P w K mg base 3 "make" spMake []) (cR : Cal P w K mg base 1 "refused" spRefused [])
    (cP : Cal P w K mg base 1 "put" spPut []) (cD : Cal P w K mg base 4 "drop" spDrop []) : CalN P w K mg base 5 "done_plain" 2 ["asker"] spDonePlain := by
  refine D.cal scDonePlain (fun vs H Q E h => ?_) (fun f cdv A outer s H vs Q E hr h => ?_)
  · obtain ⟨d, v, ak, B, rfl, _⟩ := h
    rfl
  · obtain ⟨d, v, ak, B, rfl, hN, hB, ⟨t, xs, rfl, ht, hp⟩, k⟩ := h
    have hu := hu_of hr
    refine ⟨_, pss_cons (ps_if (pt_not (pt_val (pe_c cI hr (by decide) (by rfl) (pa_cons (pv 1) pa_nil)))) pss_never pss_nil)
      (pss_cons (ps_asg (pv 1) (pg_star (i := 2) rfl (pgs_cons (pg_name (i := 3) scDonePlain.nd rfl (Or.inl rfl)) (pgs_cons (pg_name (i := 4) scDonePlain.nd rfl (Or.inl rfl)) (pgs_star (pg_name (i := 5) scDonePlain.nd rfl (Or.inl rfl)))))))
      (pss_cons (ps_if (pt_cmpR op_eq (pv 3) pe_str (nomark _)) (pss_cons (ps_asg (pv 5) (pg_unl rfl (pgs_cons (pg_name (i := 6) scDonePlain.nd rfl (Or.inl rfl)) (pgs_cons (pg_name (i := 7) scDonePlain.nd rfl (Or.inl rfl)) (pgs_cons (pg_name (i := 8) scDonePlain.nd rfl (Or.inl rfl)) pgs_nil)))))
          (pss_one (ps_ret (pe_c cM hr (by decide) (by rfl) (pa_cons (pv 0) (pa_cons (pv 2) (pa_cons (pv 4) (pa_cons (pv 6) (pa_cons (pv 7) (pa_cons (pv 8) pa_nil)))))))))) pss_nil)
      (pss_cons (ps_if (pt_cmp (pc_dnotin hu (pv 4) (pv 0))) (pss_one (ps_ret (pe_c cR hr (by decide) (by rfl) (pa_cons (pv 0) (pa_cons pe_str pa_nil))))) pss_nil)
      (pss_cons (ps_set (i := 9) scDonePlain.nd rfl (Or.inl rfl) (pe_ix ix_list (pv 5) (pe_un un_neg pe_int) (fun _ _ => rfl)))
      (C8.pss_cut (ps_if (PW.pt (pw_and (pt_cmp (pc_notN (pv 9))) (pw_and1 (pt_cmpR op_ne (pv 9) (pe_ix ix_tup (pe_dget hu (pv 0) (pv 4) (fun _ _ => rfl)) pe_int (fun _ _ => rfl)) (nomark _))))) (pss_one (ps_ret (pe_c cR hr (by decide) (by rfl) (pa_cons (pv 0) (pa_cons pe_str pa_nil))))) pss_nil)
      (pss_cons (ps_if (pt_cmpR op_eq (pv 3) pe_str (nomark _)) (pss_one (ps_ret (pe_c cP hr (by decide) (by rfl) (pa_cons (pv 0) (pa_cons (pv 4) (pa_cons (pe_ix ix_list (pv 5) pe_int (fun _ _ => rfl)) pa_nil)))))) pss_nil)
      (pss_cons (ps_if (pt_cmpR op_eq (pv 3) pe_str (nomark _)) (pss_one (ps_ret (pe_c cD hr (by decide) (by rfl) (pa_cons (pv 0) (pa_cons (pv 4) pa_nil))))) pss_nil)
      (pss_one (ps_ret (pe_tup (pa_cons (pe_callTy call_dictD (by rfl) T.dict (by decide +kernel) (pa_cons (pv 0) pa_nil)) (pa_cons (pe_tup (pa_cons pe_str (pa_cons (pe_ix ix_tup (pe_dget hu (pv 0) (pv 4) (fun _ _ => rfl)) pe_int (fun _ _ => rfl)) pa_nil))) (pa_cons (pe_lst pa_nil) pa_nil))))))))))))), ?_⟩
    refine ⟨_, rfl, t, xs, rfl, ht, .inl ⟨hp, fun H1 s1 => ⟨_, rfl, iteF ?_⟩⟩⟩
    obtain ⟨wd, p, r, rfl, r1, r3, pp⟩ := hp.len
    have ht1 := s1 _ _ ht
    refine ⟨_, rfl, t, _, rfl, SqT.of ht1, by simp, by simp; omega, fun D hD => ?_⟩
    refine ⟨_, _, rfl, _, _, rfl, _, _, rfl, rfl, ?_⟩
    have s2 : Same H (upd H1 D (.lst (List.drop 2 (V.str wd :: V.str p :: r)))) := s1.trans (same_upd hD)
    have hD2 : (upd H1 D (.lst (List.drop 2 (V.str wd :: V.str p :: r)))) D = some (.lst r) := upd_same
    have hN2 := hN.same s2
    generalize (upd H1 D (.lst (List.drop 2 (V.str wd :: V.str p :: r)))) = G at s2 hD2 hN2
    have no : ∀ (wd : PySem.Str), spRefused [.ref d, .str wd] G Q C8.E0 := fun wd => ⟨d, wd, B, rfl, hN2, fun r H' s3 hres => k r H' (s2.trans s3) ((hres.back s2).mono (by omega) (by omega))⟩
    refine ⟨_, rfl, rfl, _, rfl, ?_⟩
    refine ite2 (fun cm => ?_) (fun cm => ?_)
    · cases hp with
      | make a b => exact ⟨_, rfl, D, _, rfl, SqL.of hD2, rfl, _, _, rfl, _, _, rfl, _, _, rfl, rfl, _, rfl, _, rfl, _, rfl, _, rfl, _, rfl, _, rfl, d, ak, _, _, _, _, B, rfl, hN2, hB, a, fun r H' s3 hres => k r H' (s2.trans s3) (hres.back s2)⟩
      | put a b c => exact absurd cm (by decide +kernel)
      | drop a c => exact absurd cm (by decide +kernel)
      | see a c => exact absurd cm (by decide +kernel)
    · obtain ⟨kvs, hd, hl, hk⟩ := id hN2
      refine ⟨_, rfl, _, rfl, d, _, rfl, DGet.k (k := Sum.inr p) hd, _, rfl, ?_⟩
      cases e : valV kvs (Sum.inr p : Key) with
      | none => exact iteT ⟨_, rfl, no _⟩
      | some v =>
        refine iteF ?_
        obtain ⟨_, t0, tx, c0, m, ow, ev, ht0, m0, mB, how⟩ := hk _ (valV_in' e)
        have ev2 : v = .ref t0 := ev
        subst ev2
        -- the count that is wanted
        obtain ⟨cw, hcw, hlast⟩ : ∃ cw, CountV cw ∧ atI r (-1) = some cw := by
          cases hp with
          | make a b => exact absurd (by decide +kernel) cm
          | put a b c => exact ⟨_, c, atI_last [_] _⟩
          | drop a c => exact ⟨_, c, atI_last [] _⟩
          | see a c => exact ⟨_, c, atI_last [] _⟩
        refine ⟨_, rfl, _, rfl, D, r, _, cw, rfl, rfl, SqL.of hD2, hlast, ?_⟩
        refine ⟨fun σ' H' => H' = G ∧ σ' = [some (.ref d), some (.ref t), some (.str ak), some (.str wd), some (.str p), some (.ref D), none, none, none, some cw], ?_, ?_⟩
        · refine ⟨_, rfl, _, rfl, ?_⟩
          rcases hcw with rfl | ⟨n, rfl, _⟩
          · exact iteF ⟨rfl, rfl⟩
          · refine iteT ⟨_, rfl, _, rfl, _, rfl, d, _, rfl, dget_of (k := .inr p) hd e, t0, _, _, _, rfl, rfl, SqT.of ht0, at_of (j := 1) rfl rfl, rfl, _, rfl, ?_⟩
            exact ite2 (fun _ => ⟨_, rfl, no _⟩) (fun _ => ⟨rfl, rfl⟩)
        · rintro σ' H' ⟨rfl, rfl⟩
          refine ⟨_, rfl, rfl, _, rfl, ?_⟩
          refine ite2 (fun c1 => ?_) (fun c1 => ?_)
          · cases hp with
            | make a b => exact absurd (by decide +kernel) cm
            | @put _ tx' _ a b c => exact ⟨_, rfl, _, rfl, _, rfl, D, _, _, .str tx', rfl, rfl, SqL.of hD2, at_of (j := 0) rfl rfl, d, p, tx', B, kvs, _, rfl, hd, hl, hk, e, fun r H' s3 hres => k r H' (s2.trans s3) ((hres.back s2).mono (by omega) (Nat.le_refl _))⟩
            | drop a c => exact absurd c1 (by decide +kernel)
            | see a c => exact absurd c1 (by decide +kernel)
          · refine ⟨_, rfl, rfl, _, rfl, ?_⟩
            refine ite2 (fun c2 => ?_) (fun c2 => ?_)
            · exact ⟨_, rfl, _, rfl, d, p, B, kvs, _, rfl, hd, hl, hk, e, fun r H' s3 hres => k r H' (s2.trans s3) ((hres.back s2).mono (by omega) (Nat.le_refl _))⟩
            · refine ⟨_, rfl, d, kvs, rfl, .inl hd, fun g hg => ?_⟩
              have w1 := same_upd (o := .dK kvs) hg
              refine ⟨_, rfl, _, rfl, d, _, rfl, dget_of (k := .inr p) (w1 _ _ hd) e, t0, _, _, _, rfl, rfl, SqT.of (w1 _ _ ht0), at_of (j := 1) rfl rfl, le2, fun a ha => ⟨by decide, fun l hL => ⟨le3, fun r2 hr2 => ?_⟩⟩⟩
              have w2 := same_upd (o := .tup [.str "ok", .int c0]) ha
              have w3 := same_upd (o := .lst []) hL
              have w4 := same_upd (o := .tup [.ref g, .ref a, .ref l]) hr2
              have w := ((w1.trans w2).trans w3).trans w4
              exact k r2 _ (s2.trans w) ⟨g, a, l, "ok", .int c0, [], upd_same, ⟨kvs, w4 _ _ (w3 _ _ (w2 _ _ upd_same)), hl, fun kv hm => ((hk kv hm).same w).mono (by omega)⟩, w4 _ _ (w3 _ _ upd_same), ⟨[], w4 _ _ upd_same, .nil⟩, ⟨by simp, by simp⟩, ((s2.trans w1).trans w2).free hL, s2.free hg⟩
end
end K42

/-! K42N: first_state, without_owner. -/
namespace K42
open PySem L2
open PyProof.Rows (envOfC)
open C8 (Cal Met Mak Def cal0 met0 mak0 pe_c pe_mk pe_mt pe_mt0 fnScope_by fnScope fnBody fnArgs pe_gc)
def SessV (H : Hp) (v : V) : Prop := ∃ (t : Addr) (lim : V) (st : Int) (an pl : V), v = .ref t ∧ H t = some (.tup [lim, .int st, an, pl]) ∧ (lim = .non ∨ ∃ i, lim = .int i)
def SessAt (m : Nat) (H : Hp) (e : Addr) : Prop := ∃ kvs : List (Key × V), H e = some (.dK kvs) ∧ kvs.length ≤ m ∧ ∀ kv ∈ kvs, SessV H kv.2
def StateAt (B m : Nat) (H : Hp) (v : V) : Prop := ∃ s d e, v = .ref s ∧ H s = some (.tup [.ref d, .ref e]) ∧ NodesAt B H d ∧ SessAt m H e
theorem SessV.same {H H' : Hp} {v : V} (h : SessV H v) (s : Same H H') : SessV H' v := by
  obtain ⟨t, lim, st, an, pl, e, ht, r⟩ := h
  exact ⟨t, lim, st, an, pl, e, s _ _ ht, r⟩
theorem SessAt.same {m : Nat} {H H' : Hp} {e : Addr} (h : SessAt m H e) (s : Same H H') : SessAt m H' e := by
  obtain ⟨kvs, hd, hl, hk⟩ := h
  exact ⟨kvs, s _ _ hd, hl, fun kv q => (hk kv q).same s⟩
theorem StateAt.same {B m : Nat} {H H' : Hp} {v : V} (h : StateAt B m H v) (s : Same H H') : StateAt B m H' v := by
  obtain ⟨a, d, e, ev, h1, h2, h3⟩ := h
  exact ⟨a, d, e, ev, s _ _ h1, h2.same s, h3.same s⟩
/-- all but one list stands -/
theorem NodesAt.but {B : Nat} {H H' : Hp} {d l : Addr} {xs : List V} (h : NodesAt B H d) (hl : H l = some (.lst xs)) (k : ∀ b o, H b = some o → b ≠ l → H' b = some o) : NodesAt B H' d := by
  obtain ⟨kvs, hd, hn, hk⟩ := h
  refine ⟨kvs, k _ _ hd (ne_of hd hl (by intro q; cases q)), hn, fun kv m => ⟨(hk kv m).1, ?_⟩⟩
  obtain ⟨_, t, tx, c, mm, ow, e, ht, r⟩ := hk kv m
  exact ⟨t, tx, c, mm, ow, e, k _ _ ht (ne_of ht hl (by intro q; cases q)), r⟩
theorem paired_but {H H' : Hp} {l : Addr} {xs : List V} (hl : H l = some (.lst xs)) (k : ∀ b o, H b = some o → b ≠ l → H' b = some o) {as : List Addr} {es : List (PySem.Str × PySem.Str)}
    (h : Paired (fun a (e : PySem.Str × PySem.Str) => H a = some (.tup [.str e.1, .str e.2])) as es) : Paired (fun a (e : PySem.Str × PySem.Str) => H' a = some (.tup [.str e.1, .str e.2])) as es :=
  paired_imp (fun a e q => k _ _ q (ne_of q hl (by intro z; cases z))) h
section
variable {P : Program} {w : World} {K : PySem.W.Frag} {mg : PySem.Str → Option Value} {base : Heap}
def spFirstState : Sp := fun vs H Q _ => vs = [] ∧ ∀ v H', Same H H' → StateAt 0 0 H' v → Q v H'
theorem ok_firstState (D : DB K mg "first_state" sFirstState pFirstState) (cF : Cal P w K mg base 1 "first_nodes" spFirstNodes []) : Cal P w K mg base 2 "first_state" spFirstState [] := by
  refine D.cal scFirstState (fun vs H Q E h => ?_) (fun f cdv A outer s H vs Q E hr h => ?_)
  · obtain ⟨rfl, _⟩ := h
    rfl
  · obtain ⟨rfl, k⟩ := h
    refine ⟨_, pss_one (ps_ret (pe_tup (pa_cons (pe_c0 cF hr (by decide) (by rfl)) (pa_cons pe_dnewK pa_nil)))), ?_⟩
    refine ⟨rfl, fun d H1 s1 hn => fun e he => ⟨le2, fun r hr' => ?_⟩⟩
    have w1 := same_upd (o := .dK []) he
    have w2 := same_upd (o := .tup [.ref d, .ref e]) hr'
    exact k _ _ ((s1.trans w1).trans w2) ⟨r, d, e, rfl, upd_same, hn.same (w1.trans w2), [], w2 _ _ upd_same, Nat.le_refl _, by simp⟩
/-- all nodes of an asker go -/
def spWithout : Sp := fun vs H Q _ => ∃ (d : Addr) (ak : PySem.Str) (B : Nat), vs = [.ref d, .str ak] ∧ NodesAt B H d ∧
  ∀ (r d' e : Addr) (es : List (PySem.Str × PySem.Str)) H', Same H H' → H' r = some (.tup [.ref d', .ref e]) → NodesAt B H' d' → EventsL H' e es → EvOk 120 es → H e = none → (d' = d ∨ H d' = none) → Q (.ref r) H'
theorem keys_strs {B : Nat} {H : Hp} : ∀ {kvs : List (Key × V)}, (∀ kv ∈ kvs, KvOk B H kv) → ∃ ks : List PySem.Str, kvs.map (·.1) = ks.map Sum.inr ∧ ∀ s ∈ ks, KeyOk s
  | [], _ => ⟨[], rfl, by simp⟩
  | kv :: kvs, h => by
    obtain ⟨ks, e, hk⟩ := keys_strs (kvs := kvs) fun x hx => h x (List.mem_cons_of_mem _ hx)
    obtain ⟨⟨s, es, ks1⟩, _⟩ := h kv List.mem_cons_self
    refine ⟨s :: ks, by rw [List.map_cons, List.map_cons, e, es], fun x hx => ?_⟩
    rcases List.mem_cons.mp hx with rfl | hx
    · exact ks1
    · exact hk x hx
theorem valV_some {kvs : List (Key × V)} {k : Key} (h : k ∈ kvs.map (·.1)) : ∃ v, valV kvs k = some v := by
  obtain ⟨p, hp, e⟩ := List.mem_map.mp h
  have : (kvs.any fun kv => decide (kv.1 = k)) = true := List.any_eq_true.mpr ⟨p, hp, decide_eq_true e⟩
  rw [valV_any] at this
  exact Option.isSome_iff_exists.mp this
theorem ok_without (T : Tx K w mg) (D : DB K mg "without_owner" sWithoutOwner pWithoutOwner) (cD : Cal P w K mg base 3 "dropped" spDropped []) : Cal P w K mg base 4 "without_owner" spWithout [] := by
  refine D.cal scWithoutOwner (fun vs H Q E h => ?_) (fun f cdv A outer s H vs Q E hr h => ?_)
  · obtain ⟨d, ak, B, rfl, _⟩ := h
    rfl
  · obtain ⟨d, ak, B, rfl, hN, k⟩ := h
    have hu := hu_of hr
    refine ⟨_, pss_cons (ps_set (i := 2) scWithoutOwner.nd rfl (Or.inl rfl) (pe_lst pa_nil))
      (pss_cons (ps_for PassesOwn.never rfl (pi_list (pe_lc (own := [("path", 3)]) (g := gName 3) rfl scWithoutOwner.nd (pi_list (pe_callB (call_sortedD rfl) (by rfl) T.sorted (by decide +kernel) (pa_cons (pv 0) pa_nil))) (blkOk_by (N := nWithoutOwner) (sc := fnScope sWithoutOwner) (by decide +kernel))
          (fun _ _ _ _ _ => pg_name (i := 3) scWithoutOwner.nd rfl (Or.inl rfl))
          (tt := tTest (tOp rEq (tOp (rIxT K) (tDGet (tVar 0) (tVar 3)) (tC (.int 3))) (tVar 1))) (fun _ _ _ _ _ => pts_one (pt_cmpR op_eq (pe_ix ix_tup (pe_dget hu (pv 0) (pv 3) (fun _ _ => rfl)) pe_int (fun _ _ => rfl)) (pv 1) (nomark _)))
          (fun _ _ _ _ _ => pv 3))) (pg_name (i := 3) scWithoutOwner.nd rfl (Or.inl rfl))
        (pss_cons (ps_asg (pe_c cD hr (by decide) (by rfl) (pa_cons (pv 0) (pa_cons (pv 3) pa_nil))) (pg_tup rfl (pgs_cons (pg_name (i := 0) scWithoutOwner.nd rfl (Or.inr rfl)) (pgs_cons (pg_name (i := 4) scWithoutOwner.nd rfl (Or.inl rfl)) pgs_nil))))
        (pss_one (ps_expr (pe_bm PySem.F.plainAttrs_list PySem.F.slot_list_extend PySem.F.type_list_extend mt_extend (pv 2) (pa_cons (pv 4) pa_nil))))))
      (pss_one (ps_ret (pe_tup (pa_cons (pv 0) (pa_cons (pv 2) pa_nil)))))), ?_⟩
    refine ⟨by decide, fun ev hev => ?_⟩
    have s0 : Same H (upd H ev (.lst [])) := same_upd hev
    have hev0 : (upd H ev (.lst [])) ev = some (.lst []) := upd_same
    have hN0 := hN.same s0
    generalize (upd H ev (.lst [])) = H0 at s0 hev0 hN0
    obtain ⟨kvs, hd, hl, hk⟩ := id hN0
    obtain ⟨ks, eks, kok⟩ := keys_strs hk
    have hlen : ks.length = kvs.length := by
      have := congrArg List.length eks
      rw [List.length_map, List.length_map] at this
      exact this.symm
    -- sorted(nodes)
    refine ⟨_, rfl, d, kvs, ks, rfl, .inl hd, eks, by omega, fun ys q hperm _ hq => ?_⟩
    have s1 : Same H0 (upd H0 q (.lst (ys.map V.str))) := same_upd hq
    have hq1 : (upd H0 q (.lst (ys.map V.str))) q = some (.lst (ys.map V.str)) := upd_same
    generalize (upd H0 q (.lst (ys.map V.str))) = H1 at s1 hq1
    refine ⟨q, rfl, ⟨_, SqL.of hq1⟩, fun D hD => ?_⟩
    have nD : D ≠ ev := fun e => by
      rw [e, s1 _ _ hev0] at hD
      cases hD
    refine lc_it (walk_list (K := K) (a := q) (xs := ys.map V.str)) (fun i H2 => Same H1 H2 ∧ ∃ zs : List PySem.Str, H2 D = some (.lst (zs.map V.str)) ∧ zs.length ≤ i ∧ ∀ z ∈ zs, KeyOk z)
      ⟨same_upd hD, [], upd_same, Nat.le_refl _, by simp⟩ (fun i H2 _ h => h.1.seq (SqL.of hq1)) (fun i x H2 H3 hi hv y => ?_) fun H2 hv => ?_
    · obtain ⟨s2, zs, hzs, hzl, hzk⟩ := hv
      obtain ⟨rfl, hx⟩ := y
      rw [List.getElem?_map] at hx
      cases ex : ys[i]? with
      | none =>
        rw [ex] at hx
        cases hx
      | some u =>
        rw [ex] at hx
        cases hx
        have hu1 : u ∈ ks := hperm.mem_iff.mp (List.mem_of_getElem? ex)
        obtain ⟨v, hv⟩ := valV_some (kvs := kvs) (k := Sum.inr u) (by rw [eks]; exact List.mem_map.mpr ⟨u, hu1, rfl⟩)
        obtain ⟨_, t0, tx, c0, m, ow, ev0, ht0, m0, mB, how⟩ := hk _ (valV_in' hv)
        have ev1 : v = .ref t0 := ev0
        subst ev1
        have s12 := s1.trans s2
        refine ⟨rfl, _, rfl, _, rfl, d, _, rfl, dget_of (k := .inr u) (s12 _ _ hd) hv, t0, _, _, _, rfl, rfl, SqT.of (s12 _ _ ht0), at_of (j := 3) rfl rfl, _, rfl, ?_⟩
        refine ⟨by rcases how with rfl | ⟨a, rfl⟩ <;> rfl, _, rfl, ?_⟩
        refine ite2 (fun _ => ?_) (fun _ => ⟨s2, zs, hzs, by omega, hzk⟩)
        refine ⟨_, rfl, _, hzs, ?_, s2.new hD, zs ++ [u], ?_, ?_, fun z hz => ?_⟩
        · rw [List.length_map]
          have : ys.length = ks.length := hperm.length_eq
          rw [List.length_map] at hi
          exact small1000 (by omega)
        · rw [upd_same, List.map_append]
          rfl
        · rw [List.length_append, List.length_singleton]
          omega
        · rcases List.mem_append.mp hz with m | m
          · exact hzk z m
          · simp only [List.mem_cons, List.not_mem_nil, or_false] at m
            subst m
            exact kok _ hu1
    · obtain ⟨s2, zs, hzs, hzl, hzk⟩ := hv
      rw [List.length_map, hperm.length_eq] at hzl
      have hN2 := (hN0.same s1).same s2
      have hev2 := s2 _ _ (s1 _ _ hev0)
      have s02 := s0.trans (s1.trans s2)
      -- for path in ..
      refine ⟨D, rfl, ⟨_, SqL.of hzs⟩, for_list (K := K) (a := D) (xs := zs.map V.str) (fun i σ H3 => ∃ (d' : Addr) (es : List (PySem.Str × PySem.Str)) (y z : Option V), σ = [some (.ref d'), some (.str ak), some (.ref ev), y, z] ∧ Same H H3 ∧ H3 D = some (.lst (zs.map V.str)) ∧ NodesAt B H3 d' ∧ EventsL H3 ev es ∧ EvOk (2 * i) es ∧ (d' = d ∨ H d' = none))
        ⟨d, [], none, none, rfl, s02, hzs, hN2, ⟨[], hev2, .nil⟩, ⟨by simp, by simp⟩, .inl rfl⟩ (fun i σ H3 _ ⟨_, _, _, _, _, _, h, _⟩ => SqL.of h) ?_ ?_⟩
      · rintro i x σ H3 hx ⟨d', es, y, z, rfl, s3, hD3, hN3, he3, hev3, hfr⟩
        rw [List.getElem?_map] at hx
        cases ex : zs[i]? with
        | none =>
          rw [ex] at hx
          cases hx
        | some u =>
          rw [ex] at hx
          cases hx
          have hi : i < zs.length := (List.getElem?_eq_some_iff.mp ex).1
          have ku := hzk u (List.mem_of_getElem? ex)
          refine ⟨_, rfl, _, rfl, d', u, B, rfl, hN3, by have := ku.1; omega, fun r d2 e2 es2 H4 s4 hr4 hN4 he4 hev4 hne hnd => ?_⟩
          refine ⟨r, _, rfl, SqT.of hr4, rfl, _, _, rfl, _, _, rfl, rfl, ?_⟩
          obtain ⟨as, ha, hp⟩ := he3
          obtain ⟨bs, hb, hq⟩ := he4
          have ha4 := s4 _ _ ha
          have hl1 : as.length = es.length := Paired.length hp
          have hl2 : bs.length = es2.length := Paired.length hq
          have hv3 := hev3.1
          have hv4 := hev4.1
          refine ⟨_, rfl, .inl ⟨rfl, _, SqL.of ha4⟩, _, rfl, ev, e2, _, _, rfl, rfl, ha4, hb, ?_, ?_⟩
          · rw [List.length_map, List.length_map]
            exact Nat.le_of_lt (small1000 (by omega))
          · have keep : ∀ b o, H4 b = some o → b ≠ ev → (upd H4 ev (.lst (as.map V.ref ++ bs.map V.ref))) b = some o := fun b o q ne => by rw [upd_ne ne]; exact q
            have hev0' : H ev = none := hev
            refine ⟨d2, es ++ es2, _, _, rfl, (s3.trans s4).new hev0', by rw [upd_ne nD]; exact s4 _ _ hD3, hN4.but ha4 keep, ⟨as ++ bs, by rw [upd_same, List.map_append], paired_app (paired_but ha4 keep (paired_imp (fun a e q => s4 _ _ q) hp)) (paired_but ha4 keep hq)⟩, ⟨?_, ?_⟩, .inr (s3.free hnd)⟩
            · rw [List.length_append]
              omega
            · intro e he
              rcases List.mem_append.mp he with m | m
              · exact hev3.2 e m
              · exact hev4.2 e m
      · rintro σ H3 ⟨d', es, y, z, rfl, s3, hD3, hN3, he3, hev3, hfr⟩
        rw [List.length_map] at hev3
        refine ⟨_, rfl, _, rfl, le2, fun r hr' => ?_⟩
        have w := same_upd (o := .tup [.ref d', .ref ev]) hr'
        exact k r d' ev es _ (s3.trans w) upd_same (hN3.same w) (he3.same w) ⟨by have := hev3.1; omega, hev3.2⟩ hev hfr
end
end K42

/-! K42P: enumerate over a tuple. -/
namespace K42
open PySem PySem.Spec PyProof.Rows
open L2 hiding St
open AutoSeq1 (wpAny_loadPart')
/-- what enumerate(tuple) leaves behind -/
abbrev enuHeap (h : Heap) (l : Addr) : Heap := (h.push { cls := .type "tuple_iterator", data := .fields #[.ref l, .int 0 0] }).push
  { cls := .type "enumerate", data := .fields #[.none, .bool false, .ref h.objs.size, rawInt 0, .none, .none] }
theorem enuT_meets (l : Addr) (items : Array Value) : Meets (Builtin.«enumerate.__new__» ⟨[.type "enumerate", .ref l], []⟩)
    (fun _ R s => s.heap.IsTuple l items ∧ R (.ok (.ret (.ref (s.heap.objs.size + 1)))) { s with heap := enuHeap s.heap l }) :=
  .of_wp fun prog w A R s hyp => by
    rcases s with ⟨hp, gg, dd, tt, oo⟩
    rcases hyp with ⟨tup, fin⟩
    have hsub := sub_enumerate
    have sz : (hp.push { cls := .type "tuple_iterator", data := .fields #[.ref l, .int 0 0] }).objs.size = hp.objs.size + 1 := Heap.size_push ..
    obtain ⟨⟨c, dct, dt, sl⟩, hl, hc, n, hd⟩ := id tup
    have hc : c = .type "tuple" := hc
    have hd : dt = .seq items n := hd
    subst hc hd
    wp_walk using wpAny_loadPart' hl
    refine wpAny_stack_any fun st => wpAny_pure ?_
    split <;> (try (rename_i c _ _ _ _ _; cases (c == Value.type "enumerate"))) <;> (wp_walk using wpAny_loadPart' hl, wpAny_pyIter_tuple tup; exact ⟨_, rfl, by rw [sz]; exact fin⟩)
section
variable {prog : Program} {w : World} {A : Around} {E : Value → Shared → Prop} {s : Shared}
theorem enuT_call {l : Addr} {items : Array Value} {Q : Value → Shared → Prop} (ht : s.heap.IsTuple l items)
    (h : ∀ h', IsEnum h' (s.heap.objs.size + 1) s.heap.objs.size 0 .none → h'.IsTupleIter s.heap.objs.size l 0 → h'.IsTuple l items → h'.objs.size = s.heap.objs.size + 2 →
      (∀ b o, s.heap.get? b = some o → h'.get? b = some o) → Q (.ref (s.heap.objs.size + 1)) { s with heap := h' }) :
    wpAny (model prog w) A (call (.type "enumerate") [.ref l]) Q E s := by
  have sz : (s.heap.push { cls := .type "tuple_iterator", data := .fields #[.ref l, .int 0 0] }).objs.size = s.heap.objs.size + 1 := Heap.size_push ..
  have made : IsEnum (enuHeap s.heap l) (s.heap.objs.size + 1) s.heap.objs.size 0 .none := by
    have := Heap.get?_push_size (s.heap.push { cls := .type "tuple_iterator", data := .fields #[.ref l, .int 0 0] }) (o := { cls := .type "enumerate", data := .fields #[.none, .bool false, .ref s.heap.objs.size, rawInt 0, .none, .none] }) rfl
    rw [sz] at this
    exact this
  have kept : ∀ b o, s.heap.get? b = some o → (enuHeap s.heap l).get? b = some o := fun b o x => Heap.get?_push_of_some _ (Heap.get?_push_of_some _ x)
  refine callType_new F.called_enumerate (by decide) (F.typeCall_enumerate_1 _) (F.newCall_enumerate_1 _) (fun obj => F.args_object_init_2 obj _) F.entry_enumerate_new (enuT_meets l items) ⟨ht, ?_⟩
  exact ⟨⟨_, made, rfl⟩, h _ made ⟨_, Heap.get?_push_of_some _ (Heap.get?_push_size _ rfl), rfl, rfl⟩ (let ⟨o, a, r⟩ := ht; ⟨o, kept _ _ a, r⟩) (by rw [Heap.size_push, sz]) kept⟩
end
/-- the tuple at a, each item in a new pair behind its number -/
def Ites (K : PySem.W.Frag) (a : Addr) : It :=
  ⟨fun i H => ∃ (xs : List V) (x : V), SqT K H a xs ∧ xs[i]? = some x, fun i H v H' => ∃ T x, v = .ref T ∧ H T = none ∧ H' = upd H T (.tup [.int (i : Nat), x]) ∧ ∀ xs, SqT K H a xs → xs[i]? = some x, fun i H => ∃ xs : List V, SqT K H a xs ∧ xs.length = i⟩
theorem turn_enuT {P : Program} {w : World} {K : PySem.W.Frag} {elts : List Expr} {kk : Nat} {tpos : Pos} (a e it : Addr) :
    Turn P w K (.Tuple elts kk tpos) (Ites K a) [e, it] e (fun i h => (∃ old, IsEnum h e it ((i : Nat) : Int) old) ∧ h.IsTupleIter it a i ∧ e ≠ it) where
  mem := List.mem_cons_self
  obj := by
    rintro i h ⟨⟨old, he⟩, ⟨o, ho, hc, hd⟩, -⟩ b hb
    rcases List.mem_cons.mp hb with rfl | hb
    · exact ⟨_, he, fun v q => nomatch q⟩
    · rw [List.mem_singleton.mp hb]
      exact ⟨o, ho, fun v q => by rw [hd] at q; cases q⟩
  keep := by
    rintro i h h' ⟨⟨old, he⟩, hi, hne⟩ k
    exact ⟨⟨old, k e List.mem_cons_self _ he⟩, hi.at fun o q => k it (List.mem_cons_of_mem _ List.mem_cons_self) o q, hne⟩
  item := by
    intro X hP hw hK hc i pins s σ H E I hf st hg
    subst hP hw hK
    obtain ⟨⟨old, he⟩, hit, hne⟩ := st
    obtain ⟨xs, x, hq, hx⟩ := hg
    obtain ⟨its, rv, p, hz⟩ := I.tuple hq
    have p : s.heap.IsTuple a its.toArray := p
    have fe := hf e (by simp)
    have fi := hf it (by simp)
    have hel : e < s.heap.objs.size := Heap.lt_size he
    have hil : it < s.heap.objs.size := by obtain ⟨_, q, _⟩ := hit; exact Heap.lt_size q
    have nae : a ≠ e := fun q => by
      obtain ⟨o, ho, hcl, _⟩ := p
      rw [q, he] at ho
      cases ho
      exact absurd (Value.type.inj hcl) (by decide)
    have nai : a ≠ it := fun q => by
      obtain ⟨o, ho, hcl, _⟩ := p
      obtain ⟨o2, ho2, hcl2, _⟩ := hit
      rw [q, ho2] at ho
      cases ho
      rw [hcl2] at hcl
      exact absurd (Value.type.inj hcl) (by decide)
    have hlen : i < its.toArray.size := by
      have := (List.getElem?_eq_some_iff.mp hx).1
      have := rv.length
      simp; omega
    refine wpAny_pyNext_enum_itemD (Draws.tuple (A := X.A.in1) (I.ok.hd hc) it a nai its.toArray) he ⟨hit, p⟩ hlen hne (by simp [hne, Ne.symm nae]) fun u h' tk hu ho hst hT hsz hk => ?_
    obtain ⟨hit', _⟩ := hst
    obtain ⟨u', hu', ru⟩ := rv.get hx
    have eu : u = u' := by
      have hu : its.toArray[i]? = some u := hu
      rw [List.getElem?_toArray, hu'] at hu
      exact (Option.some.inj hu).symm
    subst eu
    refine ⟨_, rfl, wpAny_letOwnedTupleGo_enum (s := { s with heap := h', toks := tk + 1 }) ho fun h'' he' sb => ?_⟩
    have hT2 : h''.get? s.heap.objs.size = some { cls := .type "tuple", data := .seq #[.int i tk, u] } := (sb.2 _ (Nat.ne_of_gt hel)).trans hT
    have new : ObjOk X.prog X.w (upd H s.heap.objs.size (.tup [.int (i : Nat), x])) h'' s.heap.objs.size (.tup [.int (i : Nat), x]) :=
      ⟨(by decide : 2 ≤ sizeLine), [.int i tk, u], .cons ⟨_, rfl⟩ (.cons ru .nil), ⟨_, hT2, rfl, _, rfl⟩⟩
    have I1 : Inv X pins σ (upd H s.heap.objs.size (.tup [.int (i : Nat), x])) { s with heap := h'', toks := tk + 1 } :=
      I.turnedNew (ch := [e, it]) (fun b ob hb q => (sb.2 b (fun z => hb (by simp [z]))).trans (hk b ob (fun z => hb (by simp [z])) (fun z => hb (by simp [z])) q)) hf (Nat.le_refl _) new
    refine ⟨.ref s.heap.objs.size, _, I1, rfl, ⟨_, x, rfl, I.hok.fresh (Nat.le_refl _), rfl, fun ys hy => by rw [I.tuple_inj hy hq]; exact hx⟩, ⟨⟨u, ?_⟩, hit'.at fun o q => (sb.2 it (Ne.symm hne)).trans q, hne⟩, fun b hb => ?_⟩
    · rw [show ((i + 1 : Nat) : Int) = (i : Int) + 1 by omega]
      exact he'
    · have hb' : b < s.heap.objs.size := by
        rcases List.mem_cons.mp hb with z | z
        · rw [z]; exact hel
        · rw [List.mem_singleton.mp z]; exact hil
      rw [upd_ne (Nat.ne_of_lt hb')]
      exact (hf b hb).1
  done := by
    intro X hP hw hK hc i pins s σ H E I hf st hg
    subst hP hw hK
    obtain ⟨⟨old, he⟩, hit, hne⟩ := st
    obtain ⟨xs, hq, hx⟩ := hg
    obtain ⟨its, rv, p, hz⟩ := I.tuple hq
    have p : s.heap.IsTuple a its.toArray := p
    obtain ⟨f0, f1, f2, f3, f4, f5⟩ := hf it (by simp)
    have hl := rv.length
    have nai : a ≠ it := fun q => by
      obtain ⟨o, ho, hcl, _⟩ := p
      obtain ⟨o2, ho2, hcl2, _⟩ := hit
      rw [q, ho2] at ho
      cases ho
      rw [hcl2] at hcl
      exact absurd (Value.type.inj hcl) (by decide)
    have hi : i = its.toArray.size := by simp; omega
    subst hi
    exact wpAny_pyNext_enum_endD (Draws.tuple (A := X.A.in1) (I.ok.hd hc) it a nai its.toArray) he ⟨hit, p⟩ fun h' eb => ⟨rfl, I.turned (t' := s.toks) (fun b o hb q => eb b o hb q) f0 f1 f3 f4 f5⟩
  self := fun A i s Q E st h => let ⟨⟨_, he⟩, _⟩ := st; wpAny_pyIter_enum he h
def iEnumT (K : PySem.W.Frag) (ta : TA) : TI := fun σ H R => ta σ H fun vs H1 => ∃ a xs, vs = [.ref a] ∧ SqT K H1 a xs ∧ R (Ites K a) H1
theorem pi_enumT {X : Cx} {e : Expr} {ta : TA} {p pos tpos : Pos} {elts : List Expr} {kk : Nat} (hg : Gl X "enumerate") (hm : X.mg "enumerate" = none) (ha : PA X [e] ta) (plain : starEach [e] X.env = [(false, eval e X.env)] := by rfl) :
    PI X (.Tuple elts kk tpos) (.Call (.Name "enumerate" p) [e] [] pos) (iEnumT X.K ta) := by
  refine ⟨fun pins s σ H R I h => Call_ (ld_blt I hg hm boot_enumerate (PyProof.Rows.callWith_type1 (thn (ha.run pos pins s σ H _ I h) ?_) plain rfl))⟩
  rintro us s1 ⟨vs, H1, I1, r1, a, xs, rfl, hq, q⟩
  obtain ⟨u, rfl, ru⟩ := vals1 r1
  cases ru
  obtain ⟨its, rv, tup, _⟩ := I1.tuple hq
  refine enuT_call (show s1.heap.IsTuple a its.toArray from tup) fun h' made hit _ _ kept => wpAny_pyIter_enum made ?_
  refine ⟨s1.heap.objs.size + 1, [s1.heap.objs.size + 1, s1.heap.objs.size], _, _, H1, rfl, I1.kept (t' := s1.toks) kept, turn_enuT a (s1.heap.objs.size + 1) s1.heap.objs.size, ⟨⟨.none, made⟩, hit, Nat.succ_ne_self _⟩, fun b hb => ?_, q⟩
  have low : s1.heap.objs.size ≤ b := by
    rcases List.mem_cons.mp hb with z | z
    · rw [z]; exact Nat.le_add_right _ _
    · rw [List.mem_singleton.mp z]; exact Nat.le_refl _
  exact I1.fpOk low (I1.hok.fresh low)
theorem walk_enuT {K : PySem.W.Frag} {a : Addr} {xs : List V} : Walk (Ites K a) xs.length (fun H => SqT K H a xs) (YPair (fun i => some (.int (i : Nat))) (fun i => xs[i]?)) := by
  refine ⟨fun i _ hi q => ⟨xs, xs[i], q, by simp [hi]⟩, fun _ q => ⟨xs, q, rfl⟩, ?_⟩
  rintro i H v H' - q ⟨T, x, h1, h2, h3, h4⟩
  exact ⟨T, .int (i : Nat), x, h1, h2, h3, rfl, h4 xs q⟩
end K42

/-! K42Q: done_all, done_deed. -/
namespace K42
open PySem L2
open PyProof.Rows (envOfC)
open C8 (Cal Met Mak Def cal0 met0 mak0 pe_c pe_mk pe_mt pe_mt0 fnScope_by fnScope fnBody fnArgs pe_gc)
/-- (nodes, answer, events) at r; the events' list is new, the nodes are d0 or new -/
def ResW (B n : Nat) (H0 : Hp) (d0 : Addr) (H : Hp) (r : Addr) : Prop := ∃ (d e : Addr) (v : V) (es : List (PySem.Str × PySem.Str)), H r = some (.tup [.ref d, v, .ref e]) ∧ NodesAt B H d ∧ EventsL H e es ∧ EvOk n es ∧ H0 e = none ∧ (d = d0 ∨ H0 d = none)
section
variable {P : Program} {w : World} {K : PySem.W.Frag} {mg : PySem.Str → Option Value} {base : Heap}
/-- deeds all or none -/
def spDoneAll : Sp := fun vs H Q _ => ∃ (d t : Addr) (ds : List V) (ak : PySem.Str) (B : Nat), vs = [.ref d, .ref t, .str ak] ∧ NodesAt B H d ∧ B ≤ 700 ∧ H t = some (.tup ds) ∧ ds.length ≤ 3 ∧ (∀ x ∈ ds, PlainV H x) ∧ ∀ r H', Same H H' → ResW (B + 3) 6 H d H' r → Q (.ref r) H'
theorem ok_doneAll (T : Tx K w mg) (D : DB K mg "done_all" sDoneAll pDoneAll) (cP : CalN P w K mg base 5 "done_plain" 2 ["asker"] spDonePlain) : Cal P w K mg base 6 "done_all" spDoneAll [] := by
  refine D.cal scDoneAll (fun vs H Q E h => ?_) (fun f cdv A outer s H vs Q E hr h => ?_)
  · obtain ⟨d, t, ds, ak, B, rfl, _⟩ := h
    rfl
  · obtain ⟨d, t, ds, ak, B, rfl, hN, hB, ht, hdl, hds, k⟩ := h
    refine ⟨_, pss_cons (ps_par3 (i := 3) (j := 4) (l := 5) (by rfl) scDoneAll.nd rfl rfl rfl (by decide) (by decide) (by decide) rfl rfl rfl (pa_cons (pv 0) (pa_cons (pe_lst pa_nil) (pa_cons (pe_lst pa_nil) pa_nil))) (by rfl))
      (pss_cons (ps_for PassesOwn.never rfl (pi_enumT (by rfl) T.enumerate (pa_cons (pv 1) pa_nil)) (pg_tup rfl (pgs_cons (pg_name (i := 6) scDoneAll.nd rfl (Or.inl rfl)) (pgs_cons (pg_name (i := 7) scDoneAll.nd rfl (Or.inl rfl)) pgs_nil)))
        (pss_cons (ps_asg (pe_cn cP hr (by decide) (by rfl) (pa_cons (pv 3) (pa_cons (pv 7) pa_nil)) (pk_cons (pv 2) pk_nil)) (pg_tup rfl (pgs_cons (pg_name (i := 3) scDoneAll.nd rfl (Or.inl rfl)) (pgs_cons (pg_tup rfl (pgs_cons (pg_name (i := 8) scDoneAll.nd rfl (Or.inl rfl)) (pgs_cons (pg_name (i := 9) scDoneAll.nd rfl (Or.inl rfl)) pgs_nil))) (pgs_cons (pg_name (i := 10) scDoneAll.nd rfl (Or.inl rfl)) pgs_nil)))))
        (pss_cons (ps_if (pt_cmpR op_eq (pv 8) pe_str (nomark _)) (pss_one (ps_ret (pe_tup (pa_cons (pv 0) (pa_cons (pe_tup (pa_cons (pv 8) (pa_cons (pv 9) (pa_cons (pv 6) pa_nil)))) (pa_cons (pe_lst pa_nil) pa_nil)))))) pss_nil)
        (pss_cons (ps_expr (pe_bm PySem.F.plainAttrs_list PySem.F.slot_list_append PySem.F.type_list_append mt_append (pv 4) (pa_cons (pv 9) pa_nil)))
        (pss_one (ps_expr (pe_bm PySem.F.plainAttrs_list PySem.F.slot_list_extend PySem.F.type_list_extend mt_extend (pv 5) (pa_cons (pv 10) pa_nil))))))))
      (pss_one (ps_ret (pe_tup (pa_cons (pv 3) (pa_cons (pe_tup (pa_cons pe_str (pa_cons (pe_callTy call_tuple_of (by rfl) T.tuple (by decide +kernel) (pa_cons (pv 4) pa_nil)) pa_nil))) (pa_cons (pv 5) pa_nil))))))), ?_⟩
    refine ⟨_, rfl, by decide, fun vl hvl => ⟨by decide, fun ev hev => ⟨_, _, _, rfl, ?_⟩⟩⟩
    have s0 : Same H (upd H vl (.lst [])) := same_upd hvl
    have s1 : Same (upd H vl (.lst [])) (upd (upd H vl (.lst [])) ev (.lst [])) := same_upd hev
    have hvl0 := s1 _ _ (upd_same : (upd H vl (.lst [])) vl = some (.lst []))
    have hev0 : (upd (upd H vl (.lst [])) ev (.lst [])) ev = some (.lst []) := upd_same
    have nve : vl ≠ ev := fun e => by
      rw [← e, upd_same] at hev
      cases hev
    have fvl : H vl = none := hvl
    have fev : H ev = none := s0.free hev
    have s01 := s0.trans s1
    generalize (upd (upd H vl (.lst [])) ev (.lst [])) = H0 at s01 hvl0 hev0
    refine ⟨_, rfl, t, ds, rfl, SqT.of (s01 _ _ ht), ?_⟩
    refine for_it (walk_enuT (K := K) (a := t) (xs := ds)) (fun i σ H3 => ∃ (d' : Addr) (vs : List V) (es : List (PySem.Str × PySem.Str)) (z1 z2 z3 z4 z5 : Option V), σ = [some (.ref d), some (.ref t), some (.str ak), some (.ref d'), some (.ref vl), some (.ref ev), z1, z2, z3, z4, z5] ∧ Same H H3 ∧ H3 vl = some (.lst vs) ∧ vs.length ≤ i ∧ NodesAt (B + i) H3 d' ∧ EventsL H3 ev es ∧ EvOk (2 * i) es ∧ (d' = d ∨ H d' = none))
      ⟨d, [], [], none, none, none, none, none, rfl, s01, hvl0, Nat.le_refl _, hN.same s01, ⟨[], hev0, .nil⟩, ⟨by simp, by simp⟩, .inl rfl⟩ (fun i σ H3 _ ⟨_, _, _, _, _, _, _, _, _, h, _⟩ => SqT.of (h _ _ ht)) ?_ ?_
    · rintro i x σ H3 H4 hi ⟨d', vs, es, z1, z2, z3, z4, z5, rfl, s3, hv3, hvs, hN3, he3, hev3, hfr⟩ ⟨TT, a, b, rfl, hTT, rfl, e1, e2⟩
      cases e1
      have pb : PlainV H b := hds b (List.mem_of_getElem? e2)
      have s4 : Same H3 (upd H3 TT (.tup [.int (i : Nat), b])) := same_upd hTT
      have hT4 : (upd H3 TT (.tup [.int (i : Nat), b])) TT = some (.tup [.int (i : Nat), b]) := upd_same
      generalize (upd H3 TT (.tup [.int (i : Nat), b])) = H4 at s4 hT4
      refine ⟨TT, _, rfl, SqT.of hT4, rfl, _, _, rfl, _, _, rfl, rfl, ?_⟩
      have s34 := s3.trans s4
      refine ⟨_, rfl, _, rfl, _, rfl, rfl, rfl, d', b, ak, B + i, rfl, hN3.same s4, by omega, pb.same s34, fun r H5 s5 hres => ?_⟩
      obtain ⟨d2, a2, e2', wd, vv, es2, hr5, hN5, ha5, he5, hev5, hne, hnd⟩ := hres
      refine ⟨r, _, rfl, SqT.of hr5, rfl, _, _, rfl, _, _, rfl, a2, _, rfl, SqT.of ha5, rfl, _, _, rfl, _, _, rfl, rfl, _, _, rfl, rfl, ?_⟩
      have s35 := s34.trans s5
      refine ⟨_, rfl, rfl, _, rfl, ?_⟩
      refine ite2 (fun _ => ?_) (fun _ => ?_)
      · refine ⟨_, rfl, _, rfl, _, rfl, _, rfl, le3, fun a ha => ⟨by decide, fun l hl => ⟨le3, fun q hq => ?_⟩⟩⟩
        have w1 := same_upd (o := .tup [.str wd, vv, .int (i : Nat)]) ha
        have w2 := same_upd (o := .lst []) hl
        have w3 := same_upd (o := .tup [.ref d, .ref a, .ref l]) hq
        have ww := (w1.trans w2).trans w3
        exact k q _ (s35.trans ww) ⟨d, l, _, [], upd_same, (hN.same (s35.trans ww)).mono (by omega), ⟨[], w3 _ _ upd_same, .nil⟩, ⟨by simp, by simp⟩, (s35.trans (w1)).free hl, .inl rfl⟩
      · have hv5 := s5 _ _ (s4 _ _ hv3)
        refine ⟨_, rfl, .inl ⟨rfl, _, SqL.of hv5⟩, _, rfl, vl, vs, vv, rfl, rfl, hv5, small1000 (by omega), ?_⟩
        have keep : ∀ b o, H5 b = some o → b ≠ vl → (upd H5 vl (.lst (vs ++ [vv]))) b = some o := fun b o q ne => by rw [upd_ne ne]; exact q
        have hv6 : (upd H5 vl (.lst (vs ++ [vv]))) vl = some (.lst (vs ++ [vv])) := upd_same
        have s6 : Same H (upd H5 vl (.lst (vs ++ [vv]))) := s35.new fvl
        generalize (upd H5 vl (.lst (vs ++ [vv]))) = H6 at keep hv6 s6
        obtain ⟨as, ha, hp⟩ := (he3.same s4).same s5
        obtain ⟨bs, hb, hq⟩ := he5
        have hN6 := hN5.but hv5 keep
        have ha6 := keep _ _ ha (Ne.symm nve)
        have hp6 := paired_but hv5 keep hp
        have hq6 := paired_but hv5 keep hq
        have hl1 : as.length = es.length := Paired.length hp
        have hl2 : bs.length = es2.length := Paired.length hq
        have hv3' := hev3.1
        have hv5' := hev5.1
        have ne2 : e2' ≠ vl := fun q => by
          rw [q, s4 _ _ hv3] at hne
          cases hne
        have hb6 := keep _ _ hb ne2
        refine ⟨_, rfl, .inl ⟨rfl, _, SqL.of ha6⟩, _, rfl, ev, e2', _, _, rfl, rfl, ha6, hb6, ?_, ?_⟩
        · rw [List.length_map, List.length_map]
          exact Nat.le_of_lt (small1000 (by omega))
        · have keep2 : ∀ b o, H6 b = some o → b ≠ ev → (upd H6 ev (.lst (as.map V.ref ++ bs.map V.ref))) b = some o := fun b o q ne => by rw [upd_ne ne]; exact q
          refine ⟨d2, vs ++ [vv], es ++ es2, _, _, _, _, _, rfl, s6.new fev, keep2 _ _ hv6 nve, by rw [List.length_append, List.length_singleton]; omega, (hN6.but ha6 keep2).mono (by omega), ⟨as ++ bs, by rw [upd_same, List.map_append], paired_app (paired_but ha6 keep2 hp6) (paired_but ha6 keep2 hq6)⟩, ⟨?_, ?_⟩, .inr (s34.free hnd)⟩
          · rw [List.length_append]
            omega
          · intro e he
            rcases List.mem_append.mp he with m | m
            · exact hev3.2 e m
            · exact hev5.2 e m
    · rintro σ H3 ⟨d', vs, es, z1, z2, z3, z4, z5, rfl, s3, hv3, hvs, hN3, he3, hev3, hfr⟩
      refine ⟨_, rfl, _, rfl, vl, vs, rfl, .inl ⟨SqL.of hv3, fun q hq => ⟨le2, fun a ha => ⟨_, rfl, le3, fun r hr' => ?_⟩⟩⟩⟩
      have w1 := same_upd (o := .tup vs) hq
      have w2 := same_upd (o := .tup [.str "ok", .ref q]) ha
      have w3 := same_upd (o := .tup [.ref d', .ref a, .ref ev]) hr'
      have ww := (w1.trans w2).trans w3
      exact k r _ (s3.trans ww) ⟨d', ev, _, es, upd_same, (hN3.same ww).mono (by omega), he3.same ww, ⟨by have := hev3.1; omega, hev3.2⟩, fev, hfr⟩
end
end K42

/-! K42V: done_deed, ended. -/
namespace K42
open PySem L2
open PyProof.Rows (envOfC)
open C8 (Cal Met Mak Def cal0 met0 mak0 pe_c pe_mk pe_mt pe_mt0 fnScope_by fnScope fnBody fnArgs pe_gc)
def LimV (v : V) : Prop := v = .non ∨ ∃ i, v = .int i
/-- (nodes, limit, answer, events) at r -/
def ResD (B n : Nat) (H0 : Hp) (d0 : Addr) (H : Hp) (r : Addr) : Prop := ∃ (d e : Addr) (lim v : V) (es : List (PySem.Str × PySem.Str)), H r = some (.tup [.ref d, lim, v, .ref e]) ∧ LimV lim ∧ NodesAt B H d ∧ EventsL H e es ∧ EvOk n es ∧ H0 e = none ∧ (d = d0 ∨ H0 d = none)
section
variable {P : Program} {w : World} {K : PySem.W.Frag} {mg : PySem.Str → Option Value} {base : Heap}
def spDoneDeed : Sp := fun vs H Q _ => ∃ (d : Addr) (lim v : V) (ak : PySem.Str) (B : Nat), vs = [.ref d, lim, v, .str ak] ∧ NodesAt B H d ∧ B ≤ 700 ∧ LimV lim ∧ DeedV H v ∧ ∀ r H', Same H H' → ResD (B + 3) 120 H d H' r → Q (.ref r) H'
theorem ok_doneDeed (T : Tx K w mg) (D : DB K mg "done_deed" sDoneDeed pDoneDeed) (cW : Cal P w K mg base 4 "without_owner" spWithout []) (cA : Cal P w K mg base 6 "done_all" spDoneAll []) (cP : CalN P w K mg base 5 "done_plain" 2 ["asker"] spDonePlain) : Cal P w K mg base 7 "done_deed" spDoneDeed [] := by
  refine D.cal scDoneDeed (fun vs H Q E h => ?_) (fun f cdv A outer s H vs Q E hr h => ?_)
  · obtain ⟨d, lim, v, ak, B, rfl, _⟩ := h
    rfl
  · obtain ⟨d, lim, v, ak, B, rfl, hN, hB, hlim, ⟨t, xs, rfl, ht, hp⟩, k⟩ := h
    obtain ⟨ao, hok, hok2⟩ := T.ok
    refine ⟨_, pss_cons (ps_set (i := 4) scDoneDeed.nd rfl (Or.inl rfl) (pe_ix ix_tup (pv 2) pe_int (fun _ _ => rfl)))
      (pss_cons (ps_if (pt_cmpR op_eq (pv 4) pe_str (nomark _)) (pss_one (ps_ret (pe_ifExp (pt_cmp (pc_isN (pv 1))) (pe_tup (pa_cons (pv 0) (pa_cons (pe_ix ix_tup (pv 2) pe_int (fun _ _ => rfl)) (pa_cons (pe_gc (by rfl) hok) (pa_cons (pe_lst pa_nil) pa_nil)))))
          (pe_tup (pa_cons (pv 0) (pa_cons (pv 1) (pa_cons (pe_tup (pa_cons pe_str (pa_cons pe_str pa_nil))) (pa_cons (pe_lst pa_nil) pa_nil)))))))) pss_nil)
      (pss_cons (ps_if (pt_cmp (pc_isN (pv 1))) (pss_one (ps_ret (pe_tup (pa_cons (pv 0) (pa_cons pe_non (pa_cons (pe_tup (pa_cons pe_str (pa_cons pe_str pa_nil))) (pa_cons (pe_lst pa_nil) pa_nil))))))) pss_nil)
      (pss_cons (ps_if (pt_cmpR op_eq (pv 4) pe_str (nomark _)) (pss_cons (ps_asg (pe_c cW hr (by decide) (by rfl) (pa_cons (pv 0) (pa_cons (pv 3) pa_nil))) (pg_tup rfl (pgs_cons (pg_name (i := 5) scDoneDeed.nd rfl (Or.inl rfl)) (pgs_cons (pg_name (i := 6) scDoneDeed.nd rfl (Or.inl rfl)) pgs_nil))))
        (pss_one (ps_ret (pe_tup (pa_cons (pv 5) (pa_cons pe_non (pa_cons (pe_gc (by rfl) hok) (pa_cons (pv 6) pa_nil)))))))) pss_nil)
      (pss_cons (ps_if (pt_cmpR op_eq (pv 4) pe_str (nomark _)) (pss_one (ps_ret (pe_tup (pa_cons (pv 0) (pa_cons (pv 1) (pa_cons (pe_gc (by rfl) hok) (pa_cons (pe_lst pa_nil) pa_nil))))))) pss_nil)
      (C8.pss_cut (ps_if (pt_cmpR op_eq (pv 4) pe_str (nomark _)) (pss_one (ps_asg (pe_c cA hr (by decide) (by rfl) (pa_cons (pv 0) (pa_cons (pe_ix ix_tup (pv 2) pe_int (fun _ _ => rfl)) (pa_cons (pv 3) pa_nil)))) (pg_tup rfl (pgs_cons (pg_name (i := 5) scDoneDeed.nd rfl (Or.inl rfl)) (pgs_cons (pg_name (i := 7) scDoneDeed.nd rfl (Or.inl rfl)) (pgs_cons (pg_name (i := 6) scDoneDeed.nd rfl (Or.inl rfl)) pgs_nil))))))
        (pss_one (ps_asg (pe_cn cP hr (by decide) (by rfl) (pa_cons (pv 0) (pa_cons (pv 2) pa_nil)) (pk_cons (pv 3) pk_nil)) (pg_tup rfl (pgs_cons (pg_name (i := 5) scDoneDeed.nd rfl (Or.inl rfl)) (pgs_cons (pg_name (i := 7) scDoneDeed.nd rfl (Or.inl rfl)) (pgs_cons (pg_name (i := 6) scDoneDeed.nd rfl (Or.inl rfl)) pgs_nil)))))))
      (pss_one (ps_ret (pe_tup (pa_cons (pv 5) (pa_cons (pv 1) (pa_cons (pv 7) (pa_cons (pv 6) pa_nil)))))))))))), ?_⟩
    have lst0 : ∀ (G : Hp) (lim' : V) (v' : V), Same H G → LimV lim' → ∀ (l : Addr), G l = none → ∀ (r : Addr), (upd G l (.lst [])) r = none → Q (.ref r) (upd (upd G l (.lst [])) r (.tup [.ref d, lim', v', .ref l])) := by
      intro G lim' v' sG hl' l fl r fr
      have w1 := same_upd (o := .lst []) fl
      have w2 := same_upd (o := .tup [.ref d, lim', v', .ref l]) fr
      exact k r _ (sG.trans (w1.trans w2)) ⟨d, l, lim', v', [], upd_same, hl', (hN.same (sG.trans (w1.trans w2))).mono (by omega), ⟨[], w2 _ _ upd_same, .nil⟩, ⟨by simp, by simp⟩, sG.free fl, .inl rfl⟩
    have rf : Same H H := fun _ _ q => q
    cases hp with
    | @opn n h1 h2 =>
      refine ⟨_, rfl, t, _, _, _, rfl, rfl, SqT.of ht, at_of (j := 0) rfl rfl, _, rfl, rfl, _, rfl, ?_⟩
      refine ite2 (fun _ => ?_) (fun c => absurd (by decide +kernel) c)
      rcases hlim with rfl | ⟨m, rfl⟩
      · refine ⟨_, rfl, _, rfl, iteT ⟨_, rfl, _, rfl, t, _, _, _, rfl, rfl, SqT.of ht, at_of (j := 1) rfl rfl, by decide, fun l hl => ⟨le4, fun r hr => ?_⟩⟩⟩
        exact lst0 H (.int n) (.ref ao) rf (.inr ⟨_, rfl⟩) l hl r hr
      · refine ⟨_, rfl, _, rfl, iteF ⟨_, rfl, _, rfl, le2, fun a ha => ⟨by decide, fun l hl => ⟨le4, fun r hr => ?_⟩⟩⟩⟩
        exact lst0 _ (.int m) (.ref a) (same_upd ha) (.inr ⟨_, rfl⟩) l hl r hr
    | close =>
      refine ⟨_, rfl, t, _, _, _, rfl, rfl, SqT.of ht, at_of (j := 0) rfl rfl, _, rfl, rfl, _, rfl, ?_⟩
      refine ite2 (fun c => absurd c (by decide +kernel)) (fun _ => ?_)
      rcases hlim with rfl | ⟨m, rfl⟩
      · exact ⟨_, rfl, _, rfl, iteT ⟨_, rfl, le2, fun a ha => ⟨by decide, fun l hl => ⟨le4, fun r hr => lst0 _ .non (.ref a) (same_upd ha) (.inl rfl) l hl r hr⟩⟩⟩⟩
      · refine ⟨_, rfl, _, rfl, iteF ⟨_, rfl, rfl, _, rfl, ?_⟩⟩
        refine ite2 (fun _ => ?_) (fun c => absurd (by decide +kernel) c)
        refine ⟨_, rfl, _, rfl, d, ak, B, rfl, hN, fun r d' e es H1 s1 hr1 hN1 he1 hev1 hne hnd => ?_⟩
        refine ⟨r, _, rfl, SqT.of hr1, rfl, _, _, rfl, _, _, rfl, rfl, ?_⟩
        refine ⟨_, rfl, _, rfl, le4, fun q hq => ?_⟩
        have w1 := same_upd (o := .tup [.ref d', .non, .ref ao, .ref e]) hq
        exact k q _ (s1.trans w1) ⟨d', e, .non, .ref ao, es, upd_same, .inl rfl, (hN1.same w1).mono (by omega), he1.same w1, hev1, hne, hnd⟩
    | bring =>
      refine ⟨_, rfl, t, _, _, _, rfl, rfl, SqT.of ht, at_of (j := 0) rfl rfl, _, rfl, rfl, _, rfl, ?_⟩
      refine ite2 (fun c => absurd c (by decide +kernel)) (fun _ => ?_)
      rcases hlim with rfl | ⟨m, rfl⟩
      · exact ⟨_, rfl, _, rfl, iteT ⟨_, rfl, le2, fun a ha => ⟨by decide, fun l hl => ⟨le4, fun r hr => lst0 _ .non (.ref a) (same_upd ha) (.inl rfl) l hl r hr⟩⟩⟩⟩
      · refine ⟨_, rfl, _, rfl, iteF ⟨_, rfl, rfl, _, rfl, ?_⟩⟩
        refine ite2 (fun c => absurd c (by decide +kernel)) (fun _ => ?_)
        refine ⟨_, rfl, rfl, _, rfl, ?_⟩
        refine ite2 (fun _ => ?_) (fun c => absurd (by decide +kernel) c)
        refine ⟨_, rfl, _, rfl, by decide, fun l hl => ⟨le4, fun r hr => ?_⟩⟩
        exact lst0 H (.int m) (.ref ao) rf (.inr ⟨_, rfl⟩) l hl r hr
    | @all t2 ds h1 h2 h3 h4 =>
      refine ⟨_, rfl, t, _, _, _, rfl, rfl, SqT.of ht, at_of (j := 0) rfl rfl, _, rfl, rfl, _, rfl, ?_⟩
      refine ite2 (fun c => absurd c (by decide +kernel)) (fun _ => ?_)
      rcases hlim with rfl | ⟨m, rfl⟩
      · exact ⟨_, rfl, _, rfl, iteT ⟨_, rfl, le2, fun a ha => ⟨by decide, fun l hl => ⟨le4, fun r hr => lst0 _ .non (.ref a) (same_upd ha) (.inl rfl) l hl r hr⟩⟩⟩⟩
      · refine ⟨_, rfl, _, rfl, iteF ⟨_, rfl, rfl, _, rfl, ?_⟩⟩
        refine ite2 (fun c => absurd c (by decide +kernel)) (fun _ => ?_)
        refine ⟨_, rfl, rfl, _, rfl, ?_⟩
        refine ite2 (fun c => absurd c (by decide +kernel)) (fun _ => ?_)
        refine ⟨fun σ' H' => ∃ (d' e : Addr) (v' : V) (es : List (PySem.Str × PySem.Str)) (z2 z4 : Option V), σ' = [some (.ref d), some (.int m), z2, some (.str ak), z4, some (.ref d'), some (.ref e), some v'] ∧ Same H H' ∧ NodesAt (B + 3) H' d' ∧ EventsL H' e es ∧ EvOk 6 es ∧ H e = none ∧ (d' = d ∨ H d' = none), ?_, ?_⟩
        · refine ⟨_, rfl, rfl, _, rfl, ?_⟩
          refine ite2 (fun _ => ?_) (fun c => absurd (by decide +kernel) c)
          refine ⟨_, rfl, _, rfl, t, _, _, _, rfl, rfl, SqT.of ht, at_of (j := 1) rfl rfl, _, rfl, d, t2, ds, ak, B, rfl, hN, hB, h1, h3, h4, fun r H1 s1 hres => ?_⟩
          obtain ⟨d', e, v', es, hr1, hN1, he1, hev1, hne, hnd⟩ := hres
          refine ⟨r, _, rfl, SqT.of hr1, rfl, _, _, rfl, _, _, rfl, _, _, rfl, rfl, ?_⟩
          exact ⟨d', e, v', es, _, _, rfl, s1, hN1, he1, hev1, hne, hnd⟩
        · rintro σ' H' ⟨d', e, v', es, z2, z4, rfl, s1, hN1, he1, hev1, hne, hnd⟩
          refine ⟨_, rfl, _, rfl, _, rfl, _, rfl, le4, fun q hq => ?_⟩
          have w1 := same_upd (o := .tup [.ref d', .int m, v', .ref e]) hq
          exact k q _ (s1.trans w1) ⟨d', e, .int m, v', es, upd_same, .inr ⟨_, rfl⟩, hN1.same w1, he1.same w1, ⟨by have := hev1.1; omega, hev1.2⟩, hne, hnd⟩
    | @plain xs hx =>
      obtain ⟨wd, p, r0, rfl, r1, r3, pp⟩ := hx.len
      have nw : ∀ x : PySem.Str, x ∈ (["open", "close", "bring", "all"] : List PySem.Str) → ¬ (decide (V.str wd = V.str x) = true) := by
        intro x hx2
        have hw : wd ∈ (["make", "put", "drop", "see"] : List PySem.Str) := by
          cases hx <;> decide +kernel
        have := (by decide +kernel : ∀ a ∈ (["make", "put", "drop", "see"] : List PySem.Str), ∀ b ∈ (["open", "close", "bring", "all"] : List PySem.Str), ¬ (decide (V.str a = V.str b) = true))
        exact this wd hw x hx2
      refine ⟨_, rfl, t, _, _, _, rfl, rfl, SqT.of ht, at_of (j := 0) rfl rfl, _, rfl, rfl, _, rfl, ?_⟩
      refine ite2 (fun c => absurd c (nw _ (by decide +kernel))) (fun _ => ?_)
      rcases hlim with rfl | ⟨m, rfl⟩
      · exact ⟨_, rfl, _, rfl, iteT ⟨_, rfl, le2, fun a ha => ⟨by decide, fun l hl => ⟨le4, fun r hr => lst0 _ .non (.ref a) (same_upd ha) (.inl rfl) l hl r hr⟩⟩⟩⟩
      · refine ⟨_, rfl, _, rfl, iteF ⟨_, rfl, rfl, _, rfl, ?_⟩⟩
        refine ite2 (fun c => absurd c (nw _ (by decide +kernel))) (fun _ => ?_)
        refine ⟨_, rfl, rfl, _, rfl, ?_⟩
        refine ite2 (fun c => absurd c (nw _ (by decide +kernel))) (fun _ => ?_)
        refine ⟨fun σ' H' => ∃ (d' e : Addr) (v' : V) (es : List (PySem.Str × PySem.Str)) (z2 z4 : Option V), σ' = [some (.ref d), some (.int m), z2, some (.str ak), z4, some (.ref d'), some (.ref e), some v'] ∧ Same H H' ∧ NodesAt (B + 3) H' d' ∧ EventsL H' e es ∧ EvOk 6 es ∧ H e = none ∧ (d' = d ∨ H d' = none), ?_, ?_⟩
        · refine ⟨_, rfl, rfl, _, rfl, ?_⟩
          refine ite2 (fun c => absurd c (nw _ (by decide +kernel))) (fun _ => ?_)
          refine ⟨_, rfl, _, rfl, _, rfl, rfl, rfl, d, .ref t, ak, B, rfl, hN, by omega, ⟨t, _, rfl, ht, hx⟩, fun r H1 s1 hres => ?_⟩
          obtain ⟨d', a, e, wd', vv, es, hr1, hN1, ha1, he1, hev1, hne, hnd⟩ := hres
          refine ⟨r, _, rfl, SqT.of hr1, rfl, _, _, rfl, _, _, rfl, _, _, rfl, rfl, ?_⟩
          exact ⟨d', e, .ref a, es, _, _, rfl, s1, hN1.mono (by omega), he1, ⟨by have := hev1.1; omega, hev1.2⟩, hne, .inr hnd⟩
        · rintro σ' H' ⟨d', e, v', es, z2, z4, rfl, s1, hN1, he1, hev1, hne, hnd⟩
          refine ⟨_, rfl, _, rfl, _, rfl, _, rfl, le4, fun q hq => ?_⟩
          have w1 := same_upd (o := .tup [.ref d', .int m, v', .ref e]) hq
          exact k q _ (s1.trans w1) ⟨d', e, .int m, v', es, upd_same, .inr ⟨_, rfl⟩, hN1.same w1, he1.same w1, ⟨by have := hev1.1; omega, hev1.2⟩, hne, hnd⟩
end
end K42

/-! K42W: ended. -/
namespace K42
open PySem L2
open PyProof.Rows (envOfC)
open C8 (Cal Met Mak Def cal0 met0 mak0 pe_c pe_mk pe_mt pe_mt0 fnScope_by fnScope fnBody fnArgs pe_gc)
/-- all but what stands at e is kept -/
def But (e : Addr) (H H' : Hp) : Prop := ∀ b o, H b = some o → b ≠ e → H' b = some o
theorem But.of {e : Addr} {H H' : Hp} (s : Same H H') : But e H H' := fun b o q _ => s b o q
theorem But.trans {e : Addr} {H H' H'' : Hp} (s : But e H H') (t : But e H' H'') : But e H H'' := fun b o q ne => t b o (s b o q ne) ne
theorem But.same {e : Addr} {H H' : Hp} (s : But e H H') (f : H e = none) : Same H H' := fun b o q => s b o q fun z => by rw [z, f] at q; cases q
theorem But.put {e : Addr} {H : Hp} {o : HO} : But e H (upd H e o) := fun b u q ne => by rw [upd_ne ne]; exact q
theorem NodesAt.butD {B : Nat} {H H' : Hp} {d e : Addr} {kvs : List (Key × V)} (h : NodesAt B H d) (he : H e = some (.dK kvs)) (k : But e H H') (ne : d ≠ e) : NodesAt B H' d := by
  obtain ⟨ks, hd, hn, hk⟩ := h
  refine ⟨ks, k _ _ hd ne, hn, fun kv m => ⟨(hk kv m).1, ?_⟩⟩
  obtain ⟨_, t, tx, c, mm, ow, ev, ht, r⟩ := hk kv m
  exact ⟨t, tx, c, mm, ow, ev, k _ _ ht (ne_of ht he (by intro q; cases q)), r⟩
theorem SessV.butD {H H' : Hp} {e : Addr} {v : V} {kvs : List (Key × V)} (h : SessV H v) (he : H e = some (.dK kvs)) (k : But e H H') : SessV H' v := by
  obtain ⟨t, lim, st, an, pl, ev, ht, r⟩ := h
  exact ⟨t, lim, st, an, pl, ev, k _ _ ht (ne_of ht he (by intro q; cases q)), r⟩
theorem EventsL.butD {H H' : Hp} {e l : Addr} {kvs : List (Key × V)} {es : List (PySem.Str × PySem.Str)} (h : EventsL H l es) (he : H e = some (.dK kvs)) (k : But e H H') : EventsL H' l es := by
  obtain ⟨as, hl, hp⟩ := h
  exact ⟨as, k _ _ hl (ne_of hl he (by intro q; cases q)), paired_imp (fun a e q => k _ _ q (ne_of q he (by intro z; cases z))) hp⟩
/-- what sessions.get(asker, NEVER) gives -/
theorem sess_get {K : PySem.W.Frag} {H : Hp} {nv : Addr} {z : V} (hn : ∀ H, SqT K H nv [.non, .int 0, .non, z]) {kvs : List (Key × V)} (hk : ∀ kv ∈ kvs, SessV H kv.2) (k : Key) :
    ∃ (t : Addr) (lim : V) (st : Int) (an pl : V), (valV kvs k).getD (.ref nv) = .ref t ∧ SqT K H t [lim, .int st, an, pl] ∧ LimV lim := by
  cases ev : valV kvs k with
  | none => exact ⟨nv, .non, 0, .non, z, rfl, hn H, .inl rfl⟩
  | some v =>
    obtain ⟨t, lim, st, an, pl, e1, ht, hl⟩ := hk _ (valV_in' ev)
    exact ⟨t, lim, st, an, pl, e1, SqT.of ht, hl⟩
section
variable {P : Program} {w : World} {K : PySem.W.Frag} {mg : PySem.Str → Option Value} {base : Heap}
def spEnded : Sp := fun vs H Q _ => ∃ (d e : Addr) (ak : PySem.Str) (B m : Nat), vs = [.ref d, .ref e, .str ak] ∧ NodesAt B H d ∧ SessAt m H e ∧ m < 900 ∧ d ≠ e ∧
  ∀ (r s d' l : Addr) (v : V) (es : List (PySem.Str × PySem.Str)) H', But e H H' → H' r = some (.tup [.ref s, v, .ref l]) → H' s = some (.tup [.ref d', .ref e]) → NodesAt B H' d' → SessAt (m + 1) H' e → EventsL H' l es → EvOk 120 es → H l = none → Q (.ref r) H'
theorem ok_ended (T : Tx K w mg) (D : DB K mg "ended" sEnded pEnded) (cW : Cal P w K mg base 4 "without_owner" spWithout []) : Cal P w K mg base 5 "ended" spEnded [] := by
  refine D.cal scEnded (fun vs H Q E h => ?_) (fun f cdv A outer s H vs Q E hr h => ?_)
  · obtain ⟨d, e, ak, B, m, rfl, _⟩ := h
    rfl
  · obtain ⟨d, e, ak, B, m, rfl, hN, ⟨kvs, he, hkl, hk⟩, hm, hde, k⟩ := h
    have hu := hu_of hr
    obtain ⟨nv, z, hnv, hnv2⟩ := T.never
    refine ⟨_, pss_cons (ps_asg (pe_dget2 hu (pv 1) (pv 2) (pe_gc (by rfl) hnv) ⟨by rfl, by rfl, by rfl, by rfl⟩) (pg_tup rfl (pgs_cons (pg_name (i := 3) scEnded.nd rfl (Or.inl rfl)) (pgs_cons (pg_name (i := 4) scEnded.nd rfl (Or.inl rfl)) (pgs_cons (pg_name (i := 5) scEnded.nd rfl (Or.inl rfl)) (pgs_cons (pg_name (i := 6) scEnded.nd rfl (Or.inl rfl)) pgs_nil))))))
      (pss_cons (ps_if (pt_cmp (pc_isN (pv 3))) (pss_one (ps_ret (pe_tup (pa_cons (pe_tup (pa_cons (pv 0) (pa_cons (pv 1) pa_nil))) (pa_cons pe_non (pa_cons (pe_lst pa_nil) pa_nil)))))) pss_nil)
      (pss_cons (ps_asg (pe_c cW hr (by decide) (by rfl) (pa_cons (pv 0) (pa_cons (pv 2) pa_nil))) (pg_tup rfl (pgs_cons (pg_name (i := 7) scEnded.nd rfl (Or.inl rfl)) (pgs_cons (pg_name (i := 8) scEnded.nd rfl (Or.inl rfl)) pgs_nil))))
      (pss_cons (ps_dput hu (pv 1) (pv 2) (pe_tup (pa_cons pe_non (pa_cons (pv 4) (pa_cons (pv 5) (pa_cons (pv 6) pa_nil))))) rfl)
      (pss_one (ps_ret (pe_tup (pa_cons (pe_tup (pa_cons (pv 7) (pa_cons (pv 1) pa_nil))) (pa_cons pe_non (pa_cons (pv 8) pa_nil))))))))), ?_⟩
    obtain ⟨t, lim, st, an, pl, et, ht, hlim⟩ := sess_get hnv2 hk (Sum.inr ak : Key)
    refine ⟨_, rfl, e, rfl, .inl ⟨kvs, .inl he⟩, _, rfl, _, DGet.k (k := Sum.inr ak) he, ?_⟩
    rw [et]
    refine ⟨t, _, rfl, ht, rfl, _, _, rfl, _, _, rfl, _, _, rfl, _, _, rfl, rfl, ?_⟩
    rcases hlim with rfl | ⟨i, rfl⟩
    · refine ⟨_, rfl, _, rfl, iteT ⟨_, rfl, _, rfl, le2, fun a ha => ⟨by decide, fun l hl => ⟨le3, fun r hr' => ?_⟩⟩⟩⟩
      have w1 := same_upd (o := .tup [.ref d, .ref e]) ha
      have w2 := same_upd (o := .lst []) hl
      have w3 := same_upd (o := .tup [.ref a, .non, .ref l]) hr'
      have ww := (w1.trans w2).trans w3
      exact k r a d l _ [] _ (.of ww) upd_same (w3 _ _ (w2 _ _ upd_same)) (hN.same ww) ⟨kvs, ww _ _ he, by omega, fun kv q => (hk kv q).same ww⟩ ⟨[], w3 _ _ upd_same, .nil⟩ ⟨by simp, by simp⟩ (w1.free hl)
    · refine ⟨_, rfl, _, rfl, iteF ?_⟩
      refine ⟨_, rfl, _, rfl, d, ak, B, rfl, hN, fun r1 d' l es H1 s1 hr1 hN1 he1 hev1 hne hnd => ?_⟩
      refine ⟨r1, _, rfl, SqT.of hr1, rfl, _, _, rfl, _, _, rfl, rfl, ?_⟩
      have he1' := s1 _ _ he
      have nde : d' ≠ e := by
        rcases hnd with rfl | hnd
        · exact hde
        · exact fun q => by
            rw [q, he] at hnd
            cases hnd
      refine ⟨_, rfl, _, rfl, _, rfl, le4, fun t1 ht1 => ?_⟩
      have w1 := same_upd (o := .tup [.non, .int st, an, pl]) ht1
      have ht1' : (upd H1 t1 (.tup [.non, .int st, an, pl])) t1 = some (.tup [.non, .int st, an, pl]) := upd_same
      generalize (upd H1 t1 (.tup [.non, .int st, an, pl])) = H2 at w1 ht1'
      have he2 := w1 _ _ he1'
      have s2 := s1.trans w1
      refine ⟨_, rfl, _, rfl, e, _, rfl, DPut.k (kvs := kvs) (k := Sum.inr ak) he2 (small1000 (by omega)), ?_⟩
      have bp : But e H2 (upd H2 e (.dK (putK kvs (Sum.inr ak) (.ref t1)))) := .put
      have he3 : (upd H2 e (.dK (putK kvs (Sum.inr ak) (.ref t1)))) e = some (.dK (putK kvs (Sum.inr ak) (.ref t1))) := upd_same
      have hN3 := (hN1.same w1).butD he2 bp nde
      have hE3 := (he1.same w1).butD he2 bp
      have sess : SessAt (m + 1) (upd H2 e (.dK (putK kvs (Sum.inr ak) (.ref t1)))) e := by
        refine ⟨_, he3, ?_, fun kv q => ?_⟩
        · have := length_putK kvs (Sum.inr ak : Key) (.ref t1)
          omega
        · rcases putK_mem q with e1 | q
          · subst e1
            exact ⟨t1, .non, st, an, pl, rfl, bp _ _ ht1' (ne_of ht1' he2 (by intro z; cases z)), .inl rfl⟩
          · exact ((hk kv q).same s2).butD he2 bp
      generalize (upd H2 e (.dK (putK kvs (Sum.inr ak) (.ref t1)))) = H3 at bp he3 hN3 hE3 sess
      refine ⟨_, rfl, _, rfl, le2, fun a ha => ⟨_, rfl, le3, fun r hr' => ?_⟩⟩
      have w3 := same_upd (o := .tup [.ref d', .ref e]) ha
      have w4 := same_upd (o := .tup [.ref a, .non, .ref l]) hr'
      have ww := w3.trans w4
      exact k r a d' l _ es _ (((But.of s2).trans bp).trans (.of ww)) upd_same (w4 _ _ upd_same) (hN3.same ww) (sess.same ww) (hE3.same ww) hev1 hne
end
end K42

/-! K42X: done. -/
namespace K42
open PySem L2
open PyProof.Rows (envOfC)
open C8 (Cal Met Mak Def cal0 met0 mak0 pe_c pe_mk pe_mt pe_mt0 fnScope_by fnScope fnBody fnArgs pe_gc)
section
variable {P : Program} {w : World} {K : PySem.W.Frag} {mg : PySem.Str → Option Value} {base : Heap}
def spDone : Sp := fun vs H Q _ => ∃ (st en pl : V) (B m : Nat), vs = [st, en, pl] ∧ StateAt B m H st ∧ B ≤ 700 ∧ m < 800 ∧ EntryV H en ∧
  ∀ (r l : Addr) (s v : V) (es : List (PySem.Str × PySem.Str)) H', Same H H' → H' r = some (.tup [s, v, .ref l]) → StateAt (B + 3) (m + 1) H' s → EventsL H' l es → EvOk 120 es → H l = none → Q (.ref r) H'
theorem ok_done (T : Tx K w mg) (D : DK K mg "done" sDone pDone 2 ["place"]) (cE : Cal P w K mg base 6 "is_entry" spIsEntry []) (cN : Cal P w K mg base 5 "ended" spEnded []) (cD : Cal P w K mg base 7 "done_deed" spDoneDeed []) : CalN P w K mg base 8 "done" 2 ["place"] spDone := by
  refine D.cal scDone (fun vs H Q E h => ?_) (fun f cdv A outer s H vs Q E hr h => ?_)
  · obtain ⟨st, en, pl, B, m, rfl, _⟩ := h
    rfl
  · obtain ⟨_, en, pl, B, m, rfl, ⟨sa, d, e, rfl, hs, hN, hS⟩, hB, hm, hE, k⟩ := h
    have hu := hu_of hr
    obtain ⟨nv, z, hnv, hnv2⟩ := T.never
    refine ⟨_, pss_cons (ps_if (pt_not (pt_val (pe_c cE hr (by decide) (by rfl) (pa_cons (pv 1) pa_nil)))) pss_never pss_nil)
      (pss_cons (ps_asg (pe_lc (own := [("one", 15)]) (g := gName 15) (tt := tYes) rfl scDone.nd (pi_tup (pv 0)) (blkOk_by (N := nDone) (sc := fnScope sDone) (by decide +kernel)) (fun _ _ _ _ _ => pg_name (i := 15) scDone.nd rfl (Or.inl rfl)) (fun _ _ _ _ _ => pts_nil)
          (fun _ _ _ _ _ => pe_callTy call_dictD (by rfl) T.dict (by decide +kernel) (pa_cons (pv 15) pa_nil))) (pg_unl rfl (pgs_cons (pg_name (i := 3) scDone.nd rfl (Or.inl rfl)) (pgs_cons (pg_name (i := 4) scDone.nd rfl (Or.inl rfl)) pgs_nil))))
      (pss_cons (ps_set (i := 5) scDone.nd rfl (Or.inl rfl) (pe_ix ix_tup (pv 1) pe_int (fun _ _ => rfl)))
      (pss_cons (ps_if (pt_cmpR op_eq (pe_ix ix_tup (pv 1) pe_int (fun _ _ => rfl)) pe_str (nomark _)) (pss_one (ps_ret (pe_c cN hr (by decide) (by rfl) (pa_cons (pv 3) (pa_cons (pv 4) (pa_cons (pv 5) pa_nil)))))) pss_nil)
      (pss_cons (ps_asg (pe_slice sl_tup (pv 1) (po_some pe_int) po_none) (pg_tup rfl (pgs_cons (pg_name (i := 6) scDone.nd rfl (Or.inl rfl)) (pgs_cons (pg_name (i := 7) scDone.nd rfl (Or.inl rfl)) pgs_nil))))
      (C8.pss_cut (ps_asg (pe_dget2 hu (pv 4) (pv 5) (pe_gc (by rfl) hnv) ⟨by rfl, by rfl, by rfl, by rfl⟩) (pg_tup rfl (pgs_cons (pg_name (i := 8) scDone.nd rfl (Or.inl rfl)) (pgs_cons (pg_name (i := 9) scDone.nd rfl (Or.inl rfl)) (pgs_cons (pg_name (i := 10) scDone.nd rfl (Or.inl rfl)) (pgs_cons (pg_name (i := 11) scDone.nd rfl (Or.inl rfl)) pgs_nil))))))
      (pss_cons (ps_if (pt_cmpR op_le (pv 6) (pv 9) (nomark _)) (pss_one (ps_ret (pe_tup (pa_cons (pe_tup (pa_cons (pv 3) (pa_cons (pv 4) pa_nil))) (pa_cons (pe_ifExp (pt_cmpR op_eq (pv 6) (pv 9) (nomark _)) (pv 10) pe_non) (pa_cons (pe_lst pa_nil) pa_nil)))))) pss_nil)
      (C8.pss_cut (ps_asg (pe_c cD hr (by decide) (by rfl) (pa_cons (pv 3) (pa_cons (pv 8) (pa_cons (pv 7) (pa_cons (pv 5) pa_nil))))) (pg_tup rfl (pgs_cons (pg_name (i := 12) scDone.nd rfl (Or.inl rfl)) (pgs_cons (pg_name (i := 8) scDone.nd rfl (Or.inl rfl)) (pgs_cons (pg_name (i := 13) scDone.nd rfl (Or.inl rfl)) (pgs_cons (pg_name (i := 14) scDone.nd rfl (Or.inl rfl)) pgs_nil))))))
      (pss_cons (ps_dput hu (pv 4) (pv 5) (pe_tup (pa_cons (pv 8) (pa_cons (pv 6) (pa_cons (pv 13) (pa_cons (pv 2) pa_nil))))) rfl)
      (pss_one (ps_ret (pe_tup (pa_cons (pe_tup (pa_cons (pe_callTy call_dictD (by rfl) T.dict (by decide +kernel) (pa_cons (pv 12) pa_nil)) (pa_cons (pv 4) pa_nil))) (pa_cons (pv 13) (pa_cons (pv 14) pa_nil)))))))))))))), ?_⟩
    refine ⟨_, rfl, en, rfl, hE, fun H1 s1 => ⟨true, rfl, iteF ?_⟩⟩
    have hs1 := s1 _ _ hs
    obtain ⟨kvs, hd, hl, hk⟩ := hN.same s1
    obtain ⟨ks, he, hl2, hk2⟩ := hS.same s1
    refine ⟨_, rfl, sa, rfl, ⟨_, SqT.of hs1⟩, fun D hD => ?_⟩
    refine lc_it (walk_tup (K := K) (a := sa) (xs := [.ref d, .ref e])) (fun i H2 => Same H1 H2 ∧ ∃ xs, H2 D = some (.lst xs) ∧ ((i = 0 ∧ xs = []) ∨ (i = 1 ∧ ∃ n, xs = [.ref n] ∧ H1 n = none ∧ H2 n = some (.dK kvs)) ∨ (i = 2 ∧ ∃ n e', xs = [.ref n, .ref e'] ∧ H1 n = none ∧ H1 e' = none ∧ n ≠ e' ∧ H2 n = some (.dK kvs) ∧ H2 e' = some (.dK ks))))
      ⟨same_upd hD, [], upd_same, .inl ⟨rfl, rfl⟩⟩ (fun i H2 _ h => SqT.of (h.1 _ _ hs1)) (fun i x H2 H3 hi hv y => ?_) fun H2 hv => ?_
    · obtain ⟨s2, xs, hxs, hh⟩ := hv
      obtain ⟨rfl, hx⟩ := y
      rcases hh with ⟨rfl, rfl⟩ | ⟨rfl, n, rfl, hn, hn2⟩ | ⟨rfl, _⟩
      · cases hx
        refine ⟨rfl, _, rfl, d, kvs, rfl, .inl (s2 _ _ hd), fun n hn => ⟨[], ?_, by decide, ?_⟩⟩
        · rw [upd_ne (ne_of_none hxs hn)]
          exact hxs
        · have nD : n ≠ D := Ne.symm (ne_of_none hxs hn)
          exact ⟨(s2.trans (same_upd hn)).new hD, _, upd_same, .inr (.inl ⟨rfl, n, rfl, s2.free hn, by rw [upd_ne nD, upd_same]⟩)⟩
      · cases hx
        refine ⟨rfl, _, rfl, e, ks, rfl, .inl (s2 _ _ he), fun n' hn' => ⟨[.ref n], ?_, small1000 (by simp), ?_⟩⟩
        · rw [upd_ne (ne_of_none hxs hn')]
          exact hxs
        · have nD : n' ≠ D := Ne.symm (ne_of_none hxs hn')
          have nn : n ≠ n' := ne_of_none hn2 hn'
          have nD2 : n ≠ D := ne_of hn2 hxs (by intro z; cases z)
          exact ⟨(s2.trans (same_upd hn')).new hD, _, upd_same, .inr (.inr ⟨rfl, n, n', rfl, hn, s2.free hn', nn, by rw [upd_ne nD2, upd_ne nn]; exact hn2, by rw [upd_ne nD, upd_same]⟩)⟩
      · exact absurd hi (Nat.lt_irrefl 2)
    · obtain ⟨s2, xs, hxs, hh⟩ := hv
      rcases hh with ⟨h0, _⟩ | ⟨h0, _⟩ | ⟨_, n, e', rfl, hn, he', nne, hn2, he2⟩
      · cases h0
      · cases h0
      refine ⟨D, _, rfl, SqL.of hxs, rfl, _, _, rfl, _, _, rfl, rfl, ?_⟩
      have s12 := s1.trans s2
      have hN2 : NodesAt B H2 n := ⟨kvs, hn2, hl, fun kv q => (hk kv q).same s2⟩
      have hS2 : SessAt m H2 e' := ⟨ks, he2, hl2, fun kv q => (hk2 kv q).same s2⟩
      have hk3 : ∀ kv ∈ ks, SessV H2 kv.2 := fun kv q => (hk2 kv q).same s2
      have fe' : H e' = none := s1.free he'
      have fn : H n = none := s1.free hn
      obtain ⟨te, xe, rfl, hte, hel⟩ := hE
      have hte2 := s12 _ _ hte
      cases hel with
      | @fin ak ha =>
        refine ⟨_, rfl, te, _, _, _, rfl, rfl, SqT.of hte2, at_of (j := 1) rfl rfl, ?_⟩
        refine ⟨_, rfl, te, _, _, _, rfl, rfl, SqT.of hte2, at_of (j := 0) rfl rfl, rfl, _, rfl, ?_⟩
        refine ite2 (fun _ => ?_) (fun c => absurd (by decide +kernel) c)
        refine ⟨_, rfl, _, rfl, _, rfl, n, e', ak, B, m, rfl, hN2, hS2, by omega, nne, fun r q d' l v es H3 b3 hr3 hq3 hN3 hS3 hE3 hev3 hl3 => ?_⟩
        exact k r l (.ref q) v es H3 (fun b o z => b3 _ _ (s12 _ _ z) fun y => by rw [y, fe'] at z; cases z) hr3 ⟨q, d', e', rfl, hq3, hN3.mono (by omega), hS3⟩ hE3 hev3 (s12.free hl3)
      | @ask ak stp dv ha hst hdv =>
        refine ⟨_, rfl, te, _, _, _, rfl, rfl, SqT.of hte2, at_of (j := 1) rfl rfl, ?_⟩
        refine ⟨_, rfl, te, _, _, _, rfl, rfl, SqT.of hte2, at_of (j := 0) rfl rfl, rfl, _, rfl, ?_⟩
        refine ite2 (fun c => absurd c (by decide +kernel)) (fun _ => ?_)
        refine ⟨_, rfl, _, rfl, te, _, rfl, SqT.of hte2, (by show ¬ (2 = 0 ∧ _); simp), fun tq htq => ?_⟩
        have ecut : cutV [V.str "ask", .str ak, .int stp, dv] (some 2) none = [.int stp, dv] := rfl
        rw [ecut]
        have s3 : Same H2 (upd H2 tq (.tup [.int stp, dv])) := same_upd htq
        have htq3 : (upd H2 tq (.tup [.int stp, dv])) tq = some (.tup [.int stp, dv]) := upd_same
        generalize (upd H2 tq (.tup [.int stp, dv])) = H3 at s3 htq3
        refine ⟨tq, _, rfl, SqT.of htq3, rfl, _, _, rfl, _, _, rfl, rfl, ?_⟩
        have he3 := s3 _ _ he2
        have hk4 : ∀ kv ∈ ks, SessV H3 kv.2 := fun kv q => (hk3 kv q).same s3
        obtain ⟨t, lim, st, an, pl', et, ht, hlim⟩ := sess_get hnv2 hk4 (Sum.inr ak : Key)
        refine ⟨fun σ' H' => H3 = H' ∧ σ' = [some (.ref sa), some (.ref te), some pl, some (.ref n), some (.ref e'), some (.str ak), some (.int stp), some dv, some lim, some (.int st), some an, some pl', none, none, none, none], ?_, ?_⟩
        · refine ⟨_, rfl, e', rfl, .inl ⟨ks, .inl he3⟩, _, rfl, _, DGet.k (k := Sum.inr ak) he3, ?_⟩
          rw [et]
          exact ⟨t, _, rfl, ht, rfl, _, _, rfl, _, _, rfl, _, _, rfl, _, _, rfl, rfl, rfl, rfl⟩
        rintro σ' H' ⟨rfl, rfl⟩
        have s13 := s12.trans s3
        refine ⟨_, rfl, _, rfl, _, _, rfl, rfl, _, rfl, ?_⟩
        refine ite2 (fun _ => ?_) (fun _ => ?_)
        · refine ⟨_, rfl, _, rfl, le2, fun a ha' => ⟨_, rfl, _, rfl, rfl, _, rfl, ?_⟩⟩
          have w1 := same_upd (o := .tup [.ref n, .ref e']) ha'
          have fin : ∀ (v : V) (l : Addr), (upd H3 a (.tup [.ref n, .ref e'])) l = none → ∀ r, (upd (upd H3 a (.tup [.ref n, .ref e'])) l (.lst [])) r = none → Q (.ref r) (upd (upd (upd H3 a (.tup [.ref n, .ref e'])) l (.lst [])) r (.tup [.ref a, v, .ref l])) := by
            intro v l hl' r hr'
            have w2 := same_upd (o := .lst []) hl'
            have w3 := same_upd (o := .tup [.ref a, v, .ref l]) hr'
            have ww := (w1.trans w2).trans w3
            exact k r l (.ref a) v [] _ (s13.trans ww) upd_same ⟨a, n, e', rfl, w3 _ _ (w2 _ _ upd_same), ((hN2.same s3).same ww).mono (by omega), ⟨ks, ww _ _ he3, by omega, fun kv q => (hk4 kv q).same ww⟩⟩ ⟨[], w3 _ _ upd_same, .nil⟩ ⟨by simp, by simp⟩ ((s13.trans w1).free hl')
          refine ite2 (fun _ => ?_) (fun _ => ?_)
          · exact ⟨_, rfl, by decide, fun l hl' => ⟨le3, fun r hr' => fin an l hl' r hr'⟩⟩
          · exact ⟨by decide, fun l hl' => ⟨le3, fun r hr' => fin .non l hl' r hr'⟩⟩
        · refine ⟨fun σ' H4 => ∃ (d' l : Addr) (lim' v' : V) (es : List (PySem.Str × PySem.Str)), σ' = [some (.ref sa), some (.ref te), some pl, some (.ref n), some (.ref e'), some (.str ak), some (.int stp), some dv, some lim', some (.int st), some an, some pl', some (.ref d'), some v', some (.ref l), none] ∧
            Same H3 H4 ∧ LimV lim' ∧ NodesAt (B + 3) H4 d' ∧ EventsL H4 l es ∧ EvOk 120 es ∧ H3 l = none ∧ (d' = n ∨ H3 d' = none), ?_, ?_⟩
          · refine ⟨_, rfl, _, rfl, _, rfl, _, rfl, n, lim, dv, ak, B, rfl, hN2.same s3, hB, hlim, hdv.same s13, fun r1 H4 s4 hres => ?_⟩
            obtain ⟨d', l, lim', v', es, hr1, hlim', hN4, hE4, hev4, hne, hnd⟩ := hres
            refine ⟨r1, _, rfl, SqT.of hr1, rfl, _, _, rfl, _, _, rfl, _, _, rfl, _, _, rfl, rfl, ?_⟩
            exact ⟨d', l, lim', v', es, rfl, s4, hlim', hN4, hE4, hev4, hne, hnd⟩
          rintro σ' H4 ⟨d', l, lim', v', es, rfl, s4, hlim', hN4, hE4, hev4, hne, hnd⟩
          have nde : d' ≠ e' := by
            rcases hnd with rfl | hnd
            · exact nne
            · exact fun q => by
                rw [q, he3] at hnd
                cases hnd
          refine ⟨_, rfl, _, rfl, _, rfl, _, rfl, le4, fun t1 ht1 => ?_⟩
          have w1 := same_upd (o := .tup [lim', .int stp, v', pl]) ht1
          have ht1' : (upd H4 t1 (.tup [lim', .int stp, v', pl])) t1 = some (.tup [lim', .int stp, v', pl]) := upd_same
          generalize (upd H4 t1 (.tup [lim', .int stp, v', pl])) = H5 at w1 ht1'
          have s5 := s4.trans w1
          have he5 := s5 _ _ he3
          refine ⟨_, rfl, _, rfl, e', _, rfl, DPut.k (kvs := ks) (k := Sum.inr ak) he5 (small1000 (by omega)), ?_⟩
          have bp : But e' H5 (upd H5 e' (.dK (putK ks (Sum.inr ak) (.ref t1)))) := .put
          have he6 : (upd H5 e' (.dK (putK ks (Sum.inr ak) (.ref t1)))) e' = some (.dK (putK ks (Sum.inr ak) (.ref t1))) := upd_same
          have hN6 := (hN4.same w1).butD he5 bp nde
          have hE6 := (hE4.same w1).butD he5 bp
          have sess : SessAt (m + 1) (upd H5 e' (.dK (putK ks (Sum.inr ak) (.ref t1)))) e' := by
            refine ⟨_, he6, ?_, fun kv q => ?_⟩
            · have := length_putK ks (Sum.inr ak : Key) (.ref t1)
              omega
            · rcases putK_mem q with e1 | q
              · subst e1
                exact ⟨t1, lim', stp, v', pl, rfl, bp _ _ ht1' (ne_of ht1' he5 (by intro z; cases z)), hlim'⟩
              · exact ((hk4 kv q).same s5).butD he5 bp
          generalize (upd H5 e' (.dK (putK ks (Sum.inr ak) (.ref t1)))) = H6 at bp he6 hN6 hE6 sess
          have s16 : Same H H6 := But.same ((But.of (s13.trans s5)).trans bp) fe'
          obtain ⟨kd, hkd, hkl, hkv⟩ := hN6
          refine ⟨_, rfl, d', kd, rfl, .inl hkd, fun g hg => ⟨_, rfl, le2, fun a ha' => ?_⟩⟩
          refine ⟨_, rfl, _, rfl, le3, fun r hr' => ?_⟩
          have w2 := same_upd (o := .dK kd) hg
          have w3 := same_upd (o := .tup [.ref g, .ref e']) ha'
          have w4 := same_upd (o := .tup [.ref a, v', .ref l]) hr'
          have ww := (w2.trans w3).trans w4
          exact k r l (.ref a) v' es _ (s16.trans ww) upd_same ⟨a, g, e', rfl, w4 _ _ upd_same, ⟨kd, w4 _ _ (w3 _ _ upd_same), hkl, fun kv q => (hkv kv q).same ww⟩, sess.same ww⟩ (hE6.same ww) hev4 (s13.free hne)
end
end K42

/-! K42Y: told_by. -/
namespace K42
open PySem L2
open PyProof.Rows (envOfC)
open C8 (Cal Met Mak Def cal0 met0 mak0 pe_c pe_mk pe_mt pe_mt0 fnScope_by fnScope fnBody fnArgs pe_gc)
abbrev Plc := Int × Int
abbrev Ev := PySem.Str × PySem.Str
/-- a row's thing -/
def RowIt (H : Hp) (a : Addr) (p : Plc) : Prop := ∃ (pa : Addr) (en : V), H a = some (.tup [.ref pa, en]) ∧ H pa = some (.tup [.int p.1, .int p.2]) ∧ EntryV H en
def RowAt (H : Hp) (l : Addr) (ps : List Plc) : Prop := ∃ as : List Addr, H l = some (.lst (as.map V.ref)) ∧ Paired (RowIt H) as ps
/-- what is told of an entry -/
def ToldIt (H : Hp) (a : Addr) (t : Plc × List Ev) : Prop := ∃ (pa : Addr) (v : V) (e : Addr), H a = some (.tup [.ref pa, v, .ref e]) ∧ H pa = some (.tup [.int t.1.1, .int t.1.2]) ∧ EventsL H e t.2
def ToldAt (H : Hp) (l : Addr) (ts : List (Plc × List Ev)) : Prop := ∃ as : List Addr, H l = some (.lst (as.map V.ref)) ∧ Paired (ToldIt H) as ts
theorem RowIt.same {H H' : Hp} {a : Addr} {p : Plc} (h : RowIt H a p) (s : Same H H') : RowIt H' a p := by
  obtain ⟨pa, en, h1, h2, h3⟩ := h
  exact ⟨pa, en, s _ _ h1, s _ _ h2, h3.same s⟩
theorem RowAt.same {H H' : Hp} {l : Addr} {ps : List Plc} (h : RowAt H l ps) (s : Same H H') : RowAt H' l ps := by
  obtain ⟨as, h1, h2⟩ := h
  exact ⟨as, s _ _ h1, paired_imp (fun a p q => q.same s) h2⟩
theorem ToldIt.same {H H' : Hp} {a : Addr} {p : Plc × List Ev} (h : ToldIt H a p) (s : Same H H') : ToldIt H' a p := by
  obtain ⟨pa, v, e, h1, h2, h3⟩ := h
  exact ⟨pa, v, e, s _ _ h1, s _ _ h2, h3.same s⟩
theorem ToldAt.same {H H' : Hp} {l : Addr} {ps : List (Plc × List Ev)} (h : ToldAt H l ps) (s : Same H H') : ToldAt H' l ps := by
  obtain ⟨as, h1, h2⟩ := h
  exact ⟨as, s _ _ h1, paired_imp (fun a p q => q.same s) h2⟩
theorem SessAt.but {m : Nat} {H H' : Hp} {d l : Addr} {xs : List V} (h : SessAt m H d) (hl : H l = some (.lst xs)) (k : But l H H') : SessAt m H' d := by
  obtain ⟨kvs, hd, hn, hk⟩ := h
  refine ⟨kvs, k _ _ hd (ne_of hd hl (by intro q; cases q)), hn, fun kv q => ?_⟩
  obtain ⟨t, lim, st, an, pl, e, ht, r⟩ := hk kv q
  exact ⟨t, lim, st, an, pl, e, k _ _ ht (ne_of ht hl (by intro q; cases q)), r⟩
theorem StateAt.but {B m : Nat} {H H' : Hp} {v : V} {l : Addr} {xs : List V} (h : StateAt B m H v) (hl : H l = some (.lst xs)) (k : But l H H') : StateAt B m H' v := by
  obtain ⟨s, d, e, ev, h1, h2, h3⟩ := h
  exact ⟨s, d, e, ev, k _ _ h1 (ne_of h1 hl (by intro q; cases q)), h2.but hl k, h3.but hl k⟩
theorem EventsL.but {H H' : Hp} {e l : Addr} {xs : List V} {es : List Ev} (h : EventsL H e es) (hl : H l = some (.lst xs)) (k : But l H H') (ne : e ≠ l) : EventsL H' e es := by
  obtain ⟨as, h1, h2⟩ := h
  exact ⟨as, k _ _ h1 ne, paired_but hl k h2⟩
theorem paired_at {α β : Type} {R : α → β → Prop} : ∀ {l : List α} {m : List β} {i : Nat} {x : α}, Paired R l m → l[i]? = some x → ∃ y, m[i]? = some y ∧ R x y
  | _, _, 0, _, .cons r _, h => by
    cases h
    exact ⟨_, rfl, r⟩
  | _, _, i + 1, _, .cons _ t, h => by
    obtain ⟨y, h1, h2⟩ := paired_at (i := i) t (by simpa using h)
    exact ⟨y, by simpa using h1, h2⟩
section
variable {P : Program} {w : World} {K : PySem.W.Frag} {mg : PySem.Str → Option Value} {base : Heap}
def spToldBy : Sp := fun vs H Q _ => ∃ (l : Addr) (ps : List Plc), vs = [.ref l] ∧ RowAt H l ps ∧ ps.length ≤ 30 ∧
  ∀ (q : Addr) (ts : List (Plc × List Ev)) H', Same H H' → ToldAt H' q ts → ts.map (·.1) = ps → (∀ t ∈ ts, EvOk 120 t.2) → Q (.ref q) H'
theorem ok_toldBy (D : DB K mg "told_by" sToldBy pToldBy) (cF : Cal P w K mg base 2 "first_state" spFirstState []) (cD : CalN P w K mg base 8 "done" 2 ["place"] spDone) : Cal P w K mg base 9 "told_by" spToldBy [] := by
  refine D.cal scToldBy (fun vs H Q E h => ?_) (fun f cdv A outer s H vs Q E hr h => ?_)
  · obtain ⟨l, ps, rfl, _⟩ := h
    rfl
  · obtain ⟨l, ps, rfl, hR, hl, k⟩ := h
    refine ⟨_, pss_cons (ps_set (i := 1) scToldBy.nd rfl (Or.inl rfl) (pe_lst pa_nil))
      (pss_cons (ps_set (i := 2) scToldBy.nd rfl (Or.inl rfl) (pe_c0 cF hr (by decide) (by rfl)))
      (pss_cons (ps_for PassesOwn.never rfl (pi_list (pv 0)) (pg_tup rfl (pgs_cons (pg_name (i := 3) scToldBy.nd rfl (Or.inl rfl)) (pgs_cons (pg_name (i := 4) scToldBy.nd rfl (Or.inl rfl)) pgs_nil)))
        (pss_cons (ps_asg (pe_cn cD hr (by decide) (by rfl) (pa_cons (pv 2) (pa_cons (pv 4) pa_nil)) (pk_cons (pv 3) pk_nil)) (pg_tup rfl (pgs_cons (pg_name (i := 2) scToldBy.nd rfl (Or.inl rfl)) (pgs_cons (pg_name (i := 5) scToldBy.nd rfl (Or.inl rfl)) (pgs_cons (pg_name (i := 6) scToldBy.nd rfl (Or.inl rfl)) pgs_nil)))))
        (pss_one (ps_expr (pe_bm PySem.F.plainAttrs_list PySem.F.slot_list_append PySem.F.type_list_append mt_append (pv 1) (pa_cons (pe_tup (pa_cons (pv 3) (pa_cons (pv 5) (pa_cons (pv 6) pa_nil)))) pa_nil))))))
      (pss_one (ps_ret (pv 1))))), ?_⟩
    refine ⟨by decide, fun fd hfd => ?_⟩
    have s0 : Same H (upd H fd (.lst [])) := same_upd hfd
    have hf0 : (upd H fd (.lst [])) fd = some (.lst []) := upd_same
    have ffd : H fd = none := hfd
    generalize (upd H fd (.lst [])) = H0 at s0 hf0
    refine ⟨rfl, fun st H1 s1 hst => ?_⟩
    obtain ⟨as, hl1, hp⟩ := hR
    have hlen : as.length = ps.length := Paired.length hp
    have s01 := s0.trans s1
    have hl2 := s01 _ _ hl1
    have nlf : l ≠ fd := fun e => by
      rw [e, ffd] at hl1
      cases hl1
    refine ⟨_, rfl, l, rfl, ⟨_, SqL.of hl2⟩, ?_⟩
    refine for_list (K := K) (a := l) (xs := as.map V.ref) (fun i σ H3 => ∃ (st : V) (ts : List (Plc × List Ev)) (bs : List Addr) (z3 z4 z5 z6 : Option V), σ = [some (.ref l), some (.ref fd), some st, z3, z4, z5, z6] ∧ Same H H3 ∧ H3 fd = some (.lst (bs.map V.ref)) ∧
        Paired (fun a (t : Plc × List Ev) => ∃ (pa : Addr) (v : V) (e : Addr), H3 a = some (.tup [.ref pa, v, .ref e]) ∧ H3 pa = some (.tup [.int t.1.1, .int t.1.2]) ∧ EventsL H3 e t.2 ∧ e ≠ fd) bs ts ∧ ts.map (·.1) = ps.take i ∧ (∀ t ∈ ts, EvOk 120 t.2) ∧ StateAt (3 * i) i H3 st)
      ⟨st, [], [], none, none, none, none, rfl, s01, s1 _ _ hf0, .nil, by simp, by simp, hst⟩ (fun i σ H3 _ ⟨_, _, _, _, _, _, _, _, h, _⟩ => SqL.of (h _ _ hl1)) ?_ ?_
    · rintro i x σ H3 hx ⟨st, ts, bs, z3, z4, z5, z6, rfl, s3, hf3, hT, hts, hev, hst⟩
      rw [List.getElem?_map] at hx
      cases ex : as[i]? with
      | none =>
        rw [ex] at hx
        cases hx
      | some a =>
        rw [ex] at hx
        cases hx
        obtain ⟨p, hpi, pa, en, h1, h2, h3⟩ := paired_at hp ex
        have hi : i < ps.length := (List.getElem?_eq_some_iff.mp hpi).1
        have hbl : bs.length = i := by
          have e1 := Paired.length hT
          have e2 := congrArg List.length hts
          rw [List.length_map, List.length_take] at e2
          omega
        refine ⟨a, _, rfl, SqT.of (s3 _ _ h1), rfl, _, _, rfl, _, _, rfl, rfl, ?_⟩
        refine ⟨_, rfl, _, rfl, _, rfl, rfl, rfl, st, en, .ref pa, 3 * i, i, rfl, hst, by omega, by omega, h3.same s3, fun r e s' v es H4 s4 hr4 hst4 hE4 hev4 hne => ?_⟩
        refine ⟨r, _, rfl, SqT.of hr4, rfl, _, _, rfl, _, _, rfl, _, _, rfl, rfl, ?_⟩
        have hf4 := s4 _ _ hf3
        refine ⟨_, rfl, .inl ⟨rfl, _, SqL.of hf4⟩, _, rfl, _, rfl, _, rfl, le3, fun q hq => ?_⟩
        have w1 := same_upd (o := .tup [.ref pa, v, .ref e]) hq
        have hq1 : (upd H4 q (.tup [.ref pa, v, .ref e])) q = some (.tup [.ref pa, v, .ref e]) := upd_same
        generalize (upd H4 q (.tup [.ref pa, v, .ref e])) = H5 at w1 hq1
        have hf5 := w1 _ _ hf4
        have s5 := s4.trans w1
        refine ⟨fd, _, _, rfl, rfl, hf5, ?_, ?_⟩
        · rw [List.length_map]
          exact small1000 (by omega)
        · have bp : But fd H5 (upd H5 fd (.lst (bs.map V.ref ++ [.ref q]))) := .put
          have nef : e ≠ fd := fun z => by
            rw [z, hf3] at hne
            cases hne
          have tp : ∀ {b : Addr} {xs : List V}, H5 b = some (.tup xs) → (upd H5 fd (.lst (bs.map V.ref ++ [.ref q]))) b = some (.tup xs) := fun z => bp _ _ z (ne_of z hf5 (by intro y; cases y))
          refine ⟨s', ts ++ [(p, es)], bs ++ [q], _, _, _, _, rfl, (s3.trans s5).new ffd, by rw [upd_same, List.map_append]; rfl, ?_, ?_, ?_, ?_⟩
          · refine paired_app (paired_imp (fun b t z => ?_) hT) (.cons ?_ .nil)
            · obtain ⟨pb, vb, eb, y1, y2, y3, y4⟩ := z
              exact ⟨pb, vb, eb, tp (s5 _ _ y1), tp (s5 _ _ y2), (y3.same s5).but hf5 bp y4, y4⟩
            · exact ⟨pa, v, e, tp hq1, tp (s5 _ _ (s3 _ _ h2)), (hE4.same w1).but hf5 bp nef, nef⟩
          · rw [List.map_append, hts, List.take_succ, hpi]
            rfl
          · intro t ht
            rcases List.mem_append.mp ht with m | m
            · exact hev t m
            · simp only [List.mem_cons, List.not_mem_nil, or_false] at m
              subst m
              exact hev4
          · exact (hst4.same w1).but hf5 bp
    · rintro σ H3 ⟨st, ts, bs, z3, z4, z5, z6, rfl, s3, hf3, hT, hts, hev, hst⟩
      refine ⟨_, rfl, k fd ts H3 s3 ⟨bs, hf3, paired_imp (fun b t z => ?_) hT⟩ ?_ hev⟩
      · obtain ⟨pb, vb, eb, y1, y2, y3, y4⟩ := z
        exact ⟨pb, vb, eb, y1, y2, y3⟩
      · rw [hts, List.length_map, hlen, List.take_length]
end
end K42

/-! K42Za: plain: names in order, watchers met as a row goes on, and anew. -/
namespace K42
open PySem PySem.Spec PyProof.Rows
open L2 (kV)
/-- a name: the texts of a key tuple -/
abbrev Nm := List L2.Key
abbrev Lt := Nm × PySem.Str × Plc
/-! ### order of names -/
def leN (a b : Nm) : Bool := PySem.W.dataLe false kData a b
def srt (l : List Nm) : List Nm := l.mergeSort leN
theorem leN_total : PySem.W.TotalLe leN := PySem.W.sortLe_total _ false _
theorem toks_cons (x : L2.Key) (k : Nm) : PySem.W.keyToks (kData (x :: k)) = Sum.inl 1 :: (PySem.W.keyToks (kD x) ++ PySem.W.keyToks (kData k)) := by
  show PySem.W.keyToks (.tuple (kD x :: k.map kD)) = _
  rw [PySem.W.keyToks, PySem.W.toks_all_cons]
  show _ = _ :: (_ ++ PySem.W.keyToks (.tuple (k.map kD)))
  rw [PySem.W.keyToks]
theorem toks_nil : PySem.W.keyToks (kData []) = [Sum.inl 0] := by
  show PySem.W.keyToks (.tuple []) = _
  rw [PySem.W.keyToks, PySem.W.keyToksAll]
theorem toks_one (x : L2.Key) : ∃ t, PySem.W.keyToks (kD x) = [t] ∧ ∀ y, PySem.W.keyToks (kD y) = [t] → y = x := by
  cases x with
  | inl i =>
    refine ⟨.inl i, by rw [kD, PySem.W.keyToks], fun y h => ?_⟩
    cases y with
    | inl j =>
      rw [kD, PySem.W.keyToks] at h
      rw [Sum.inl.inj (List.cons.inj h).1]
    | inr z =>
      rw [kD, PySem.W.keyToks] at h
      cases (List.cons.inj h).1
  | inr s =>
    refine ⟨.inr s.cps.toList, by rw [kD, PySem.W.keyToks], fun y h => ?_⟩
    cases y with
    | inl j =>
      rw [kD, PySem.W.keyToks] at h
      cases (List.cons.inj h).1
    | inr z =>
      rw [kD, PySem.W.keyToks] at h
      rw [PySem.W.str_of_cps (Sum.inr.inj (List.cons.inj h).1)]
theorem toks_inj : ∀ (a b : Nm), PySem.W.keyToks (kData a) = PySem.W.keyToks (kData b) → a = b
  | [], [], _ => rfl
  | [], y :: b, h => by
    rw [toks_nil, toks_cons] at h
    cases (List.cons.inj h).1
  | x :: a, [], h => by
    rw [toks_nil, toks_cons] at h
    cases (List.cons.inj h).1
  | x :: a, y :: b, h => by
    rw [toks_cons, toks_cons] at h
    have h := (List.cons.inj h).2
    obtain ⟨t, h1, h1'⟩ := toks_one x
    obtain ⟨u, h2, h2'⟩ := toks_one y
    rw [h1, h2] at h
    obtain ⟨e1, e2⟩ := List.cons.inj h
    rw [toks_inj a b e2, h2' x (by rw [h1, e1])]
theorem leN_anti {a b : Nm} (h : leN a b = true) (g : leN b a = true) : a = b := by
  refine toks_inj a b ?_
  have h : (!PyProof.Rows.lexLt itemOrd (PySem.W.keyToks (kData b)) (PySem.W.keyToks (kData a))) = true := h
  have g : (!PyProof.Rows.lexLt itemOrd (PySem.W.keyToks (kData a)) (PySem.W.keyToks (kData b))) = true := g
  rw [Bool.not_eq_true'] at h g
  exact (PyProof.Rows.listOrd itemOrd).total _ _ g h
theorem leN_cons (x : L2.Key) (a b : Nm) : leN (x :: a) (x :: b) = leN a b := by
  show (!PyProof.Rows.lexLt itemOrd (PySem.W.keyToks (kData (x :: b))) (PySem.W.keyToks (kData (x :: a)))) = !PyProof.Rows.lexLt itemOrd (PySem.W.keyToks (kData b)) (PySem.W.keyToks (kData a))
  rw [toks_cons, toks_cons]
  have e : ∀ k : Nm, (Sum.inl 1 :: (PySem.W.keyToks (kD x) ++ PySem.W.keyToks (kData k)) : List (Int ⊕ List Nat)) = (Sum.inl 1 :: PySem.W.keyToks (kD x)) ++ PySem.W.keyToks (kData k) := fun k => rfl
  rw [e, e, PySem.W.lex_pre]
theorem srt_cons (x : L2.Key) (l : List Nm) : srt (l.map (x :: ·)) = (srt l).map (x :: ·) := by
  unfold srt
  exact (PySem.W.sort_maps (fun k : Nm => x :: k) (fun a _ b _ => (leN_cons x a b).symm)).symm
theorem srt_perm (l : List Nm) : (srt l).Perm l := List.mergeSort_perm l leN
theorem srt_pw (l : List Nm) : (srt l).Pairwise (fun a b => leN a b = true) := PySem.W.sort_pairwise leN_total l
/-- two rows in order with the same names are one -/
theorem same_sorted : ∀ {l m : List Nm}, l.Pairwise (fun a b => leN a b = true) → m.Pairwise (fun a b => leN a b = true) → l.Perm m → l = m
  | [], m, _, _, p => (List.nil_perm.mp p).symm
  | a :: l, [], _, _, p => by simpa using p.length_eq
  | a :: l, b :: m, h, g, p => by
    obtain ⟨h1, h2⟩ := List.pairwise_cons.mp h
    obtain ⟨g1, g2⟩ := List.pairwise_cons.mp g
    have ab : a = b := by
      have ha : a ∈ b :: m := p.mem_iff.mp List.mem_cons_self
      have hb : b ∈ a :: l := p.mem_iff.mpr List.mem_cons_self
      rcases List.mem_cons.mp ha with e | ha
      · exact e
      · rcases List.mem_cons.mp hb with e | hb
        · exact e.symm
        · exact leN_anti (h1 b hb) (g1 a ha)
    subst ab
    rw [same_sorted h2 g2 (List.Perm.cons_inv p)]
theorem srt_of_perm {l m : List Nm} (p : l.Perm m) : srt l = srt m := same_sorted (srt_pw l) (srt_pw m) ((srt_perm l).trans (p.trans (srt_perm m).symm))
theorem srt_filter (q : Nm → Bool) (l : List Nm) : (srt l).filter q = srt (l.filter q) :=
  same_sorted ((srt_pw l).filter q) (srt_pw _) (((srt_perm l).filter q).trans (srt_perm _).symm)
/-! ### watchers met -/
/-- the words of events that meet a kind -/
def MW (k : PySem.Str) : List PySem.Str := if k = "text" then ["text", "gone"] else if k = "there" then ["made", "text", "gone"] else ["kids", "gone"]
def metB (k p : PySem.Str) (ev : Ev) : Bool := decide (L2.V.str p = L2.V.str ev.2) && L2.inV (.str ev.1) ((MW k).map L2.V.str)
def mt (n : Nm) (ev : Ev) : Bool := match n with
  | [.inr k, .inr p] => metB k p ev
  | _ => false
def meetF (p : Plc) : List Ev → List Nm → List Nm × List Lt
  | [], L => (L, [])
  | ev :: es, L => ((meetF p es (L.filter fun n => !mt n ev)).1, ((srt L).filter fun n => mt n ev).map (fun n => (n, ev.1, p)) ++ (meetF p es (L.filter fun n => !mt n ev)).2)
def ltP (a b : Plc) : Bool := HT.lexLt [a.1, a.2] [b.1, b.2]
def plc (W : List (Nm × Plc)) (n : Nm) : Plc := (((W.find? fun x => decide (x.1 = n)).map (·.2)).getD (0, 0))
def hitA (p : Plc) (ev : Ev) (W : List (Nm × Plc)) (n : Nm) : Bool := ltP (plc W n) p && mt n ev
def meetA (p : Plc) : List Ev → List (Nm × Plc) → List (Nm × Plc) × List Lt
  | [], W => (W, [])
  | ev :: es, W => ((meetA p es (W.filter fun x => !hitA p ev W x.1)).1, ((srt (W.map (·.1))).filter fun n => hitA p ev W n).map (fun n => (n, ev.1, p)) ++ (meetA p es (W.filter fun x => !hitA p ev W x.1)).2)
/-- entry by entry: place, events, names laid behind it -/
abbrev En := Plc × List Ev × List Nm
def fwd : List En → List Nm → List Nm × List Lt
  | [], L => (L, [])
  | t :: r, L => ((fwd r ((meetF t.1 t.2.1 L).1 ++ t.2.2)).1, (meetF t.1 t.2.1 L).2 ++ (fwd r ((meetF t.1 t.2.1 L).1 ++ t.2.2)).2)
def anw : List (Plc × List Ev) → List (Nm × Plc) → List (Nm × Plc) × List Lt
  | [], W => (W, [])
  | t :: r, W => ((anw r (meetA t.1 t.2 W).1).1, (meetA t.1 t.2 W).2 ++ (anw r (meetA t.1 t.2 W).1).2)
/-- what is laid from here on -/
def fut (T : List En) : List (Nm × Plc) := T.flatMap fun t => t.2.2.map fun n => (n, t.1)
theorem plc_of {W : List (Nm × Plc)} (nd : (W.map (·.1)).Nodup) {x : Nm × Plc} (h : x ∈ W) : plc W x.1 = x.2 := by
  unfold plc
  have : W.find? (fun y => decide (y.1 = x.1)) = some x := by
    induction W with
    | nil => simp at h
    | cons y W ih =>
      rw [List.map_cons, List.nodup_cons] at nd
      by_cases e : y.1 = x.1
      · rw [List.find?_cons_of_pos (by simp [e])]
        rcases List.mem_cons.mp h with rfl | h
        · rfl
        · exact absurd (e ▸ List.mem_map_of_mem h) nd.1
      · rw [List.find?_cons_of_neg (by simp [e])]
        rcases List.mem_cons.mp h with rfl | h
        · exact absurd rfl e
        · exact ih nd.2 h
  rw [this]
  rfl
/-- one event: what stands laid before the place, and what is laid from there on -/
theorem meet_same (p : Plc) : ∀ (es : List Ev) (W F : List (Nm × Plc)), ((W ++ F).map (·.1)).Nodup → (∀ x ∈ W, ltP x.2 p = true) → (∀ x ∈ F, ltP x.2 p = false) →
    ∃ W', (meetA p es (W ++ F)).1 = W' ++ F ∧ (meetF p es (W.map (·.1))).1 = W'.map (·.1) ∧ W'.Sublist W ∧ (meetA p es (W ++ F)).2 = (meetF p es (W.map (·.1))).2
  | [], W, F, _, _, _ => ⟨W, rfl, rfl, List.Sublist.refl _, rfl⟩
  | ev :: es, W, F, nd, hW, hF => by
    have q : ∀ x ∈ W ++ F, hitA p ev (W ++ F) x.1 = (ltP x.2 p && mt x.1 ev) := fun x hx => by rw [hitA, plc_of nd hx]
    have e1 : (W ++ F).filter (fun x => !hitA p ev (W ++ F) x.1) = W.filter (fun x => !mt x.1 ev) ++ F := by
      rw [List.filter_append]
      congr 1
      · exact List.filter_congr fun x hx => by rw [q x (List.mem_append_left _ hx), hW x hx, Bool.true_and]
      · exact List.filter_eq_self.mpr fun x hx => by rw [q x (List.mem_append_right _ hx), hF x hx]; rfl
    have e2 : (W.filter fun x => !mt x.1 ev).map (·.1) = (W.map (·.1)).filter fun n => !mt n ev := by
      rw [List.filter_map]
      rfl
    have e3 : (srt ((W ++ F).map (·.1))).filter (fun n => hitA p ev (W ++ F) n) = (srt (W.map (·.1))).filter fun n => mt n ev := by
      rw [srt_filter, srt_filter]
      congr 1
      rw [List.filter_map, List.filter_map, List.filter_append]
      have f1 : F.filter ((fun n => hitA p ev (W ++ F) n) ∘ (·.1)) = [] := List.filter_eq_nil_iff.mpr fun x hx => by
        show ¬ hitA p ev (W ++ F) x.1 = true
        rw [q x (List.mem_append_right _ hx), hF x hx]
        simp
      have f2 : W.filter ((fun n => hitA p ev (W ++ F) n) ∘ (·.1)) = W.filter ((fun n => mt n ev) ∘ (·.1)) := List.filter_congr fun x hx => by
        show hitA p ev (W ++ F) x.1 = mt x.1 ev
        rw [q x (List.mem_append_left _ hx), hW x hx, Bool.true_and]
      rw [f1, f2, List.append_nil]
    have sl : (W.filter fun x => !mt x.1 ev).Sublist W := List.filter_sublist
    obtain ⟨W', h1, h2, h3, h4⟩ := meet_same p es (W.filter fun x => !mt x.1 ev) F (nd.sublist ((sl.append (List.Sublist.refl F)).map _)) (fun x hx => hW x (sl.mem hx)) hF
    refine ⟨W', ?_, ?_, h3.trans sl, ?_⟩
    · show (meetA p es _).1 = _
      rw [e1, h1]
    · show (meetF p es _).1 = _
      rw [← e2, h2]
    · show _ ++ (meetA p es _).2 = _ ++ (meetF p es _).2
      rw [e1, h4, e3, e2]
/-! ### places -/
theorem ltP_iff (a b : Plc) : ltP a b = true ↔ a.1 < b.1 ∨ (a.1 = b.1 ∧ a.2 < b.2) := by
  unfold ltP
  rw [HT.lexLt_cons]
  by_cases e : a.1 = b.1
  · rw [if_pos e, HT.lexLt_cons]
    by_cases f : a.2 = b.2
    · rw [if_pos f, HT.lexLt_nil_nil]
      constructor
      · intro h
        cases h
      · rintro (h | ⟨_, h⟩) <;> omega
    · rw [if_neg f, decide_eq_true_iff]
      constructor
      · exact fun h => .inr ⟨e, h⟩
      · rintro (h | ⟨_, h⟩)
        · omega
        · exact h
  · rw [if_neg e, decide_eq_true_iff]
    constructor
    · exact fun h => .inl h
    · rintro (h | ⟨h, _⟩)
      · exact h
      · exact absurd h e
theorem ltP_irr (a : Plc) : ltP a a = false := by
  cases h : ltP a a with
  | false => rfl
  | true =>
    have := (ltP_iff a a).mp h
    omega
theorem ltP_asym {a b : Plc} (h : ltP a b = true) : ltP b a = false := by
  cases g : ltP b a with
  | false => rfl
  | true =>
    have h := (ltP_iff a b).mp h
    have g := (ltP_iff b a).mp g
    omega
theorem ltP_trans {a b c : Plc} (h : ltP a b = true) (g : ltP b c = true) : ltP a c = true := by
  rw [ltP_iff] at h g ⊢
  omega
abbrev toldOf (T : List En) : List (Plc × List Ev) := T.map fun t => (t.1, t.2.1)
/-- what is met as the row goes on is what anew tells at the end -/
theorem mirror : ∀ (T : List En) (W : List (Nm × Plc)), ((W ++ fut T).map (·.1)).Nodup → (T.map (·.1)).Pairwise (fun a b => ltP a b = true) → (∀ x ∈ W, ∀ t ∈ T, ltP x.2 t.1 = true) →
    (anw (toldOf T) (W ++ fut T)).1.map (·.1) = (fwd T (W.map (·.1))).1 ∧ (anw (toldOf T) (W ++ fut T)).2 = (fwd T (W.map (·.1))).2
  | [], W, _, _, _ => by
    show (W ++ []).map (fun x : Nm × Plc => x.1) = W.map (·.1) ∧ ([] : List Lt) = []
    rw [List.append_nil]
    exact ⟨rfl, rfl⟩
  | t :: r, W, nd, up, hW => by
    rw [List.map_cons, List.pairwise_cons] at up
    have ef : fut (t :: r) = t.2.2.map (fun n => (n, t.1)) ++ fut r := rfl
    have hF : ∀ x ∈ fut (t :: r), ltP x.2 t.1 = false := by
      intro x hx
      rw [ef] at hx
      rcases List.mem_append.mp hx with h | h
      · obtain ⟨n, _, rfl⟩ := List.mem_map.mp h
        exact ltP_irr _
      · obtain ⟨u, hu, h⟩ := List.mem_flatMap.mp h
        obtain ⟨n, _, rfl⟩ := List.mem_map.mp h
        exact ltP_asym (up.1 _ (List.mem_map_of_mem hu))
    obtain ⟨W', h1, h2, h3, h4⟩ := meet_same t.1 t.2.1 W (fut (t :: r)) nd (fun x hx => hW x hx t List.mem_cons_self) hF
    have e5 : W' ++ fut (t :: r) = (W' ++ t.2.2.map fun n => (n, t.1)) ++ fut r := by rw [ef, List.append_assoc]
    have e6 : (W' ++ t.2.2.map fun n => (n, t.1)).map (·.1) = W'.map (·.1) ++ t.2.2 := by
      rw [List.map_append, List.map_map]
      congr 1
      exact List.map_id'' (fun _ => rfl) _
    obtain ⟨g1, g2⟩ := mirror r (W' ++ t.2.2.map fun n => (n, t.1)) (by rw [← e5]; exact nd.sublist ((h3.append (List.Sublist.refl _)).map _)) up.2 (fun x hx u hu => by
      rcases List.mem_append.mp hx with h | h
      · exact hW x (h3.mem h) u (List.mem_cons_of_mem _ hu)
      · obtain ⟨n, _, rfl⟩ := List.mem_map.mp h
        exact up.1 _ (List.mem_map_of_mem hu))
    rw [← e5, e6] at g1 g2
    constructor
    · show (anw (toldOf r) (meetA t.1 t.2.1 _).1).1.map (·.1) = (fwd r ((meetF t.1 t.2.1 _).1 ++ t.2.2)).1
      rw [h1, h2]
      exact g1
    · show (meetA t.1 t.2.1 _).2 ++ (anw (toldOf r) (meetA t.1 t.2.1 _).1).2 = (meetF t.1 t.2.1 _).2 ++ (fwd r ((meetF t.1 t.2.1 _).1 ++ t.2.2)).2
      rw [h4, h1, h2, g2]
/-- each is told once, or left -/
theorem filter_split (q : Nm → Bool) : ∀ l : List Nm, (l.filter q ++ l.filter fun n => !q n).Perm l
  | [] => List.Perm.refl _
  | a :: l => by
    cases h : q a with
    | true =>
      rw [List.filter_cons_of_pos h, List.filter_cons_of_neg (by simp [h])]
      exact (filter_split q l).cons a
    | false =>
      rw [List.filter_cons_of_neg (by simp [h]), List.filter_cons_of_pos (by simp [h])]
      exact List.perm_middle.trans ((filter_split q l).cons a)
theorem meetF_perm (p : Plc) : ∀ (es : List Ev) (L : List Nm), ((meetF p es L).2.map (·.1) ++ (meetF p es L).1).Perm L
  | [], L => List.Perm.refl _
  | ev :: es, L => by
    show ((((srt L).filter fun n => mt n ev).map (fun n => (n, ev.1, p)) ++ (meetF p es (L.filter fun n => !mt n ev)).2).map (·.1) ++ (meetF p es (L.filter fun n => !mt n ev)).1).Perm L
    rw [List.map_append, List.map_map, List.append_assoc]
    have e : ((srt L).filter fun n => mt n ev).map ((·.1) ∘ fun n => (n, ev.1, p)) = (srt L).filter fun n => mt n ev := List.map_id'' (fun _ => rfl) _
    rw [e]
    exact (((srt_perm L).filter _).append (meetF_perm p es _)).trans (filter_split _ L)
theorem fwd_perm : ∀ (T : List En) (L : List Nm), ((fwd T L).2.map (·.1) ++ (fwd T L).1).Perm (L ++ (fut T).map (·.1))
  | [], L => by
    show ([] ++ L : List Nm).Perm (L ++ [])
    rw [List.append_nil, List.nil_append]
  | t :: r, L => by
    have ef : (fut (t :: r)).map (·.1) = t.2.2 ++ (fut r).map (·.1) := by
      show ((t.2.2.map fun n => (n, t.1)) ++ fut r).map (·.1) = _
      rw [List.map_append, List.map_map]
      congr 1
      exact List.map_id'' (fun _ => rfl) _
    show (((meetF t.1 t.2.1 L).2 ++ (fwd r ((meetF t.1 t.2.1 L).1 ++ t.2.2)).2).map (·.1) ++ (fwd r ((meetF t.1 t.2.1 L).1 ++ t.2.2)).1).Perm _
    rw [List.map_append, List.append_assoc, ef]
    have ih := fwd_perm r ((meetF t.1 t.2.1 L).1 ++ t.2.2)
    refine (List.Perm.append_left _ ih).trans ?_
    rw [List.append_assoc, ← List.append_assoc]
    exact (meetF_perm t.1 t.2.1 L).append_right _
/-- in the order of the row -/
theorem meetF_place (p : Plc) : ∀ (es : List Ev) (L : List Nm), ∀ x ∈ (meetF p es L).2, x.2.2 = p
  | [], _, x, h => by cases h
  | ev :: es, L, x, h => by
    rcases List.mem_append.mp h with h | h
    · obtain ⟨n, _, rfl⟩ := List.mem_map.mp h
      rfl
    · exact meetF_place p es _ x h
theorem fwd_place : ∀ (T : List En) (L : List Nm), ∀ x ∈ (fwd T L).2, ∃ t ∈ T, x.2.2 = t.1
  | [], _, x, h => by cases h
  | t :: r, L, x, h => by
    rcases List.mem_append.mp h with h | h
    · exact ⟨t, List.mem_cons_self, meetF_place _ _ _ x h⟩
    · obtain ⟨u, hu, e⟩ := fwd_place r _ x h
      exact ⟨u, List.mem_cons_of_mem _ hu, e⟩
theorem fwd_order : ∀ (T : List En) (L : List Nm), (T.map (·.1)).Pairwise (fun a b => ltP a b = true) → (fwd T L).2.Pairwise fun x y => ltP y.2.2 x.2.2 = false
  | [], _, _ => List.Pairwise.nil
  | t :: r, L, up => by
    rw [List.map_cons, List.pairwise_cons] at up
    refine List.pairwise_append.mpr ⟨?_, fwd_order r _ up.2, fun x hx y hy => ?_⟩
    · exact List.Pairwise.imp_of_mem (R := fun _ _ => True) (fun {x y} hx hy _ => by rw [meetF_place _ _ _ x hx, meetF_place _ _ _ y hy]; exact ltP_irr _) (List.pairwise_iff_forall_sublist.mpr fun _ => True.intro)
    · obtain ⟨u, hu, e⟩ := fwd_place r _ y hy
      rw [meetF_place _ _ _ x hx, e]
      exact ltP_asym (up.1 _ (List.mem_map_of_mem hu))
end K42

/-! K42Zb: is_met, Watchers. -/
namespace K42
open PySem L2
open PyProof.Rows (envOfC)
open C8 (Cal Met Mak Def cal0 met0 mak0 pe_c pe_mk pe_mt pe_mt0 fnScope_by fnScope fnBody fnArgs pe_gc)
def KINDS : List PySem.Str := ["text", "there", "kids"]
/-- what of the module's MEETS is wanted -/
structure Mx (K : PySem.W.Frag) (w : World) (mg : PySem.Str → Option Value) : Prop where
  meets : ∃ a : Addr, Cn mg "MEETS" (.ref a) ∧ ∀ k ∈ KINDS, ∃ t : Addr, KDct K w a k (.ref t) ∧ ∀ H, SqT K H t ((MW k).map V.str)
section
variable {P : Program} {w : World} {K : PySem.W.Frag} {mg : PySem.Str → Option Value} {base : Heap}
def spIsMet : Sp := fun vs H Q _ => ∃ (k p : PySem.Str) (ev : Ev) (e : Addr), vs = [.str k, .str p, .ref e] ∧ k ∈ KINDS ∧ H e = some (.tup [.str ev.1, .str ev.2]) ∧ Q (.bl (metB k p ev)) H
theorem flat_strs : ∀ l : List PySem.Str, (l.map V.str).all flatV = true
  | [] => rfl
  | _ :: l => by
    rw [List.map_cons, List.all_cons, flat_strs l]
    rfl
theorem ok_isMet (M : Mx K w mg) (D : DB K mg "is_met" sIsMet pIsMet) : Cal P w K mg base 1 "is_met" spIsMet [] := by
  refine D.cal scIsMet (fun vs H Q E h => ?_) (fun f cdv A outer s H vs Q E hr h => ?_)
  · obtain ⟨k, p, ev, e, rfl, _⟩ := h
    rfl
  · obtain ⟨k, p, ev, e, rfl, hk, he, q⟩ := h
    obtain ⟨ma, hm, hms⟩ := M.meets
    obtain ⟨t, ht1, ht2⟩ := hms k hk
    refine ⟨_, pss_cons (ps_asg (pv 2) (pg_tup rfl (pgs_cons (pg_name (i := 3) scIsMet.nd rfl (Or.inl rfl)) (pgs_cons (pg_name (i := 4) scIsMet.nd rfl (Or.inl rfl)) pgs_nil))))
      (pss_one (ps_ret (pe_and (pe_cmpR op_eq (pv 1) (pv 4) (nomark _)) (pe_one (pe_cmpR op_in_seq (pv 3) (pe_ix ix_kdict (pe_gc (by rfl) hm) (pv 0) (fun _ _ => rfl)) rfl))))), ?_⟩
    refine ⟨_, rfl, e, _, rfl, SqT.of he, rfl, _, _, rfl, _, _, rfl, rfl, ?_⟩
    refine ⟨_, rfl, _, rfl, rfl, _, rfl, ?_⟩
    unfold metB at q
    cases c : decide (V.str p = V.str ev.2) with
    | false =>
      rw [c] at q
      rw [if_neg (by decide)]
      exact q
    | true =>
      rw [c, Bool.true_and] at q
      rw [if_pos rfl]
      exact ⟨_, rfl, _, rfl, ma, k, _, rfl, rfl, ht1, t, _, rfl, .inr (ht2 _), rfl, flat_strs _, q⟩
/-- a method of the class at C -/
structure MB (K : PySem.W.Frag) (C : Addr) (m qual : PySem.Str) (st : Stmt) (ps : List PySem.Str) : Prop where
  ex : ∃ (f : Addr) (fd : FuncData), Meth K C m f ∧ C8.Fun K m qual st f fd ∧ Binds K fd ps []
/-- the class of watchers -/
structure Wc (K : PySem.W.Frag) (mg : PySem.Str → Option Value) (C : Addr) : Prop where
  cls : Cls K C
  na : NoAttr K C "laid_ones"
  mgC : mg "Watchers" = some (.ref C)
  init : ∃ (f : Addr) (fd : FuncData), Mk K C f ∧ C8.Fun K "__init__" "Watchers.__init__" sWInit f fd ∧ Binds K fd pWInit []
  lay : MB K C "lay" "Watchers.lay" sWLay pWLay
  meet : MB K C "meet" "Watchers.meet" sWMeet pWMeet
  letGo : MB K C "let_go" "Watchers.let_go" sWLetGo pWLetGo
  anew : MB K C "anew" "Watchers.anew" sWAnew pWAnew
  kept : MB K C "kept" "Watchers.kept" sWKept pWKept
theorem MB.met {m qual : PySem.Str} {C : Addr} {st : Stmt} {N ps : List PySem.Str} {k : Nat} {sp : Sp} (c : Cls K C) (B : MB K C m qual st ps) (S : FnScope N ps (fnScope st)) (len : ∀ vs H Q E, sp vs H Q E → vs.length = ps.length)
    (hb : ∀ (f : Addr) (cdv : Value) (A : Around) (outer : List Env) (s : Shared) (H : Hp) (vs : List V) (Q : VK) (E : XK), Room k (A.deeper (envOfC qual (fnScope st) s.heap.objs.size f cdv)) → sp vs H Q E →
      ∃ t, PSs (cxOf C8.CX0 P w K mg base N qual (fnScope st) f cdv A outer s H E).nox (fnBody st) t ∧ t { nx := fun _ H' => Q .non H', rt := Q } (start N vs) H) : Met P w K mg base (k + 1) C m sp [] := by
  obtain ⟨f, fd, me, F, b⟩ := B.ex
  exact met0 c me F b S len (hb f)
/-- a dict's items for names that are laid -/
abbrev laidKv (L : List Nm) : List (List Key × V) := L.map fun n => (.inr "w" :: n, .bl true)
/-- watchers at x, their dict at D -/
structure WAt (C x dx D : Addr) (H : Hp) (L : List Nm) : Prop where
  ins : H x = some (.ins C dx [("laid_ones", .ref D)])
  dct : H D = some (.dT (laidKv L))
/-- all but what stands at D is kept: But -/
def NmOk (n : Nm) : Prop := ∃ k ∈ KINDS, ∃ p : PySem.Str, (PyData.str p).canLay0 = true ∧ n = [.inr k, .inr p]
def spWInit : Addr → Sp := fun C vs H Q _ => ∃ x dx : Addr, vs = [.ref x] ∧ H x = some (.ins C dx []) ∧ ∀ D, H D = none → Q .non (upd (upd H D (.dT [])) x (.ins C dx [("laid_ones", .ref D)]))
theorem ok_wInit {C : Addr} (W : Wc K mg C) : Mak P w K mg base 1 "Watchers" C (spWInit C) [] := by
  obtain ⟨f, fd, M, F, b⟩ := W.init
  refine mak0 M W.mgC F b .nil scWInit (fun vs H Q E h => ?_) (fun cdv A outer s H vs Q E hr h => ?_)
  · obtain ⟨x, dx, rfl, _⟩ := h
    rfl
  · obtain ⟨x, dx, rfl, hx, q⟩ := h
    refine ⟨_, pss_one (ps_fld (pv 0) pe_dnewT rfl), ?_⟩
    refine fun D hD => ⟨_, rfl, x, C, dx, [], rfl, ?_, W.cls, W.na, by simp, q D hD⟩
    rw [upd_ne (ne_of_none hx hD)]
    exact hx
def spWLay : Addr → Sp := fun C vs H Q _ => ∃ (x dx D : Addr) (a k p : PySem.Str) (kvs : List (List Key × V)), vs = [.ref x, .str a, .str k, .str p] ∧ H x = some (.ins C dx [("laid_ones", .ref D)]) ∧ H D = some (.dT kvs) ∧ kvs.length ≤ 900 ∧
  ∀ t, H t = none → Q .non (upd (upd H t (.tup [.str a, .str k, .str p])) D (.dT (putK kvs [.inr a, .inr k, .inr p] (.bl true))))
theorem ok_wLay {C : Addr} (W : Wc K mg C) : Met P w K mg base 1 C "lay" (spWLay C) [] := by
  refine MB.met W.cls W.lay scWLay (fun vs H Q E h => ?_) (fun f cdv A outer s H vs Q E hr h => ?_)
  · obtain ⟨x, dx, D, a, k, p, kvs, rfl, _⟩ := h
    rfl
  · obtain ⟨x, dx, D, a, k, p, kvs, rfl, hx, hD, hl, q⟩ := h
    have hu := hu_of hr
    refine ⟨_, pss_one (ps_dput hu (pe_fld (pv 0) rfl) (pe_tup (pa_cons (pv 1) (pa_cons (pv 2) (pa_cons (pv 3) pa_nil)))) pe_bl rfl), ?_⟩
    refine ⟨_, rfl, x, C, dx, _, _, rfl, hx, W.cls, W.na, rfl, _, rfl, _, rfl, _, rfl, le3, fun t ht => ?_⟩
    have nt : D ≠ t := ne_of_none hD ht
    exact ⟨D, _, rfl, DPut.t (kvs := kvs) (k := [.inr a, .inr k, .inr p]) (by rw [upd_ne nt]; exact hD) (by exact upd_same) (small1000 (by omega)), q t ht⟩
theorem alike_strs : ∀ {a b : List PySem.Str}, PySem.W.alikeAll (a.map PyData.str) (b.map PyData.str) = true
  | [], [] => by rw [List.map_nil, PySem.W.alikeAll]
  | [], _ :: _ => by rw [List.map_nil, PySem.W.alikeAll]
  | _ :: _, [] => by rw [List.map_nil, List.map_cons, PySem.W.alikeAll]
  | x :: a, y :: b => by rw [List.map_cons, List.map_cons, PySem.W.alikeAll, PySem.W.alike, alike_strs, Bool.and_self]
theorem alike_tups {l : List (List PySem.Str)} : PySem.W.AllAlike (l.map fun a => PyData.tuple (a.map PyData.str)) := by
  intro d hd d' hd'
  obtain ⟨a, _, rfl⟩ := List.mem_map.mp hd
  obtain ⟨b, _, rfl⟩ := List.mem_map.mp hd'
  rw [PySem.W.alike]
  exact alike_strs
theorem sortable_tups {l : List (List PySem.Str)} (h : ∀ a ∈ l, a ≠ []) : PySem.W.Sortable (l.map fun a => PyData.tuple (a.map PyData.str)) := by
  refine .inl fun d hd => ?_
  obtain ⟨a, ha, rfl⟩ := List.mem_map.mp hd
  cases a with
  | nil => exact absurd rfl (h _ ha)
  | cons x r => exact ⟨_, _, rfl⟩
/-- names as rows of texts -/
theorem nm_strs {L : List Nm} (h : ∀ n ∈ L, NmOk n) : ∃ l : List (List PySem.Str), L.map kData = l.map (fun a => PyData.tuple (a.map PyData.str)) ∧ (L.map fun n => kData (.inr "w" :: n)) = (l.map fun a => ("w" : PySem.Str) :: a).map (fun a => PyData.tuple (a.map PyData.str)) ∧ ∀ a ∈ l, a ≠ [] := by
  induction L with
  | nil => exact ⟨[], rfl, rfl, by simp⟩
  | cons n L ih =>
    obtain ⟨l, e1, e2, h1⟩ := ih fun m hm => h m (List.mem_cons_of_mem _ hm)
    obtain ⟨k, _, p, _, rfl⟩ := h n List.mem_cons_self
    refine ⟨[k, p] :: l, by rw [List.map_cons, List.map_cons, e1]; rfl, by rw [List.map_cons, List.map_cons, List.map_cons, e2]; rfl, fun a ha => ?_⟩
    rcases List.mem_cons.mp ha with rfl | ha
    · exact nofun
    · exact h1 a ha
theorem paired_zip {α β : Type} {R : α → β → Prop} : ∀ {bs : List (α × β)}, (∀ b ∈ bs, R b.1 b.2) → Paired R (bs.map (·.1)) (bs.map (·.2))
  | [], _ => .nil
  | b :: _, h => .cons (h b List.mem_cons_self) (paired_zip fun c hc => h c (List.mem_cons_of_mem _ hc))
theorem sorted_snd (bs : List (Addr × Nm)) : (bs.mergeSort leK).map (·.2) = srt (bs.map (·.2)) := PySem.W.sort_maps (fun b : Addr × Nm => b.2) fun _ _ _ _ => rfl
def spWKept : Addr → Sp := fun C vs H Q _ => ∃ (x dx D : Addr) (L : List Nm), vs = [.ref x] ∧ WAt C x dx D H L ∧ (∀ n ∈ L, NmOk n) ∧
  ∀ (q : Addr) (as : List Addr), H q = none → Paired (fun a (n : Nm) => H a = some (.tup (V.str "w" :: n.map kV))) as (srt L) → Q (.ref q) (upd H q (.lst (as.map V.ref)))
theorem ok_wKept {C : Addr} (T : Tx K w mg) (W : Wc K mg C) : Met P w K mg base 1 C "kept" (spWKept C) [] := by
  refine MB.met W.cls W.kept scWKept (fun vs H Q E h => ?_) (fun f cdv A outer s H vs Q E hr h => ?_)
  · obtain ⟨x, dx, D, L, rfl, _⟩ := h
    rfl
  · obtain ⟨x, dx, D, L, rfl, hW, hL, q⟩ := h
    refine ⟨_, pss_one (ps_ret (pe_callB (cr_sortT rfl hr.units) (by rfl) T.sorted (by decide +kernel) (pa_cons (pe_fld (pv 0) rfl) pa_nil))), ?_⟩
    obtain ⟨l, _, e2, h1⟩ := nm_strs hL
    have e3 : ((laidKv L).map fun p => kData p.1) = (l.map fun a => ("w" : PySem.Str) :: a).map (fun a => PyData.tuple (a.map PyData.str)) := by
      rw [← e2, List.map_map]
      rfl
    refine ⟨_, rfl, x, C, dx, _, _, rfl, hW.ins, W.cls, W.na, rfl, D, laidKv L, rfl, .inl hW.dct, by rw [e3]; exact alike_tups, by rw [e3]; exact sortable_tups (fun a ha => by obtain ⟨b, _, rfl⟩ := List.mem_map.mp ha; exact nofun), fun p bs hb ht hp => ?_⟩
    · have e4 : bs.map (·.2) = L.map fun n => (Sum.inr "w" :: n : Nm) := by
        rw [hb, List.map_map]
        rfl
      have e5 : ((bs.mergeSort leK).map fun b => V.ref b.1) = ((bs.mergeSort leK).map (·.1)).map V.ref := by rw [List.map_map]; rfl
      rw [e5]
      refine q p _ hp ?_
      have z : Paired (fun a (n : Nm) => H a = some (.tup (n.map kV))) ((bs.mergeSort leK).map (·.1)) ((bs.mergeSort leK).map (·.2)) := paired_zip fun b hb => ht b ((List.mergeSort_perm bs leK).mem_iff.mp hb)
      rw [sorted_snd, e4, srt_cons] at z
      clear e5 q hb ht e4
      revert z
      generalize ((bs.mergeSort leK).map (·.1)) = as
      generalize srt L = m
      intro z
      induction m generalizing as with
      | nil =>
        cases z
        exact .nil
      | cons n m ih =>
        cases z with
        | cons r t => exact .cons r (ih _ t)
end
end K42

/-! K42Zc: Watchers.meet. -/
namespace K42
open PySem L2
open PyProof.Rows (envOfC)
open C8 (Cal Met Mak Def cal0 met0 mak0 pe_c pe_mk pe_mt pe_mt0 fnScope_by fnScope fnBody fnArgs pe_gc)
/-- all but what stands at a and b is kept -/
def Fr2 (a b : Addr) (H H' : Hp) : Prop := ∀ c o, H c = some o → c ≠ a → c ≠ b → H' c = some o
theorem Fr2.of {a b : Addr} {H H' : Hp} (s : Same H H') : Fr2 a b H H' := fun c o q _ _ => s c o q
theorem Fr2.trans {a b : Addr} {H H' H'' : Hp} (s : Fr2 a b H H') (t : Fr2 a b H' H'') : Fr2 a b H H'' := fun c o q n m => t c o (s c o q n m) n m
theorem Fr2.l {a b : Addr} {H : Hp} {o : HO} : Fr2 a b H (upd H a o) := fun c u q n _ => by rw [upd_ne n]; exact q
theorem Fr2.r {a b : Addr} {H : Hp} {o : HO} : Fr2 a b H (upd H b o) := fun c u q _ m => by rw [upd_ne m]; exact q
theorem Fr2.tup {a b c : Addr} {H H' : Hp} {xs ys : List V} {kvs : List (List Key × V)} (s : Fr2 a b H H') (ha : H a = some (.dT kvs)) (hb : H b = some (.lst ys)) (hc : H c = some (.tup xs)) : H' c = some (.tup xs) :=
  s c _ hc (ne_of hc ha (by intro z; cases z)) (ne_of hc hb (by intro z; cases z))
theorem Fr2.but {a b : Addr} {H H' : Hp} (s : Fr2 a b H H') (f : H b = none) : But a H H' := fun c o q n => s c o q n fun z => by rw [z, f] at q; cases q
/-- a letter told at the place at pa -/
def LetAt (H : Hp) (pa a : Addr) (x : Lt) : Prop := H a = some (.tup (.str "event" :: .str "w" :: (x.1.map kV ++ [.str x.2.1, .ref pa])))
/-! ### a dict of names -/
theorem laid_val : ∀ {L : List Nm} {n : Nm}, n ∈ L → valV (laidKv L) (.inr "w" :: n) = some (.bl true)
  | m :: L, n, h => by
    by_cases e : m = n
    · subst e
      exact valV_pos rfl
    · refine (valV_neg (p := (.inr "w" :: m, .bl true)) (fun q => e (List.cons.inj q).2)).trans (laid_val ?_)
      rcases List.mem_cons.mp h with q | q
      · exact absurd q.symm e
      · exact q
theorem laid_drop (L : List Nm) (n : Nm) : dropK (laidKv L) (.inr "w" :: n) = laidKv (L.filter fun m => !decide (m = n)) := by
  unfold dropK laidKv
  rw [List.filter_map]
  congr 1
  refine List.filter_congr fun m _ => ?_
  simp
/-! ### one event, name by name -/
def inB (Y : List Nm) (n : Nm) : Bool := Y.any fun m => decide (m = n)
theorem inB_iff {Y : List Nm} {n : Nm} : inB Y n = true ↔ n ∈ Y := by
  unfold inB
  rw [List.any_eq_true]
  exact ⟨fun ⟨m, h, e⟩ => of_decide_eq_true e ▸ h, fun h => ⟨n, h, decide_eq_true rfl⟩⟩
theorem inB_snoc (Y : List Nm) (n m : Nm) : inB (Y ++ [n]) m = (inB Y m || decide (n = m)) := by
  unfold inB
  rw [List.any_append]
  simp
section
variable {α : Type} (f : α → Nm) (hit : Nm → Bool)
def cutG (Y : List Nm) (l : List α) : List α := l.filter fun x => !(inB Y (f x) && hit (f x))
theorem cutG_nil (l : List α) : cutG f hit [] l = l := List.filter_eq_self.mpr fun x _ => rfl
theorem cutG_hit {Y : List Nm} {n : Nm} {l : List α} (h : hit n = true) : cutG f hit (Y ++ [n]) l = (cutG f hit Y l).filter fun x => !decide (f x = n) := by
  unfold cutG
  rw [List.filter_filter]
  refine List.filter_congr fun x _ => ?_
  rw [inB_snoc]
  by_cases e : f x = n
  · subst e
    simp [h]
  · rw [decide_eq_false (Ne.symm e), decide_eq_false e, Bool.or_false]
    simp
theorem cutG_miss {Y : List Nm} {n : Nm} {l : List α} (h : hit n = false) : cutG f hit (Y ++ [n]) l = cutG f hit Y l := by
  unfold cutG
  refine List.filter_congr fun x _ => ?_
  rw [inB_snoc]
  by_cases e : f x = n
  · subst e
    simp [h]
  · rw [decide_eq_false (Ne.symm e), Bool.or_false]
theorem cutG_in {Y : List Nm} {l : List α} {x : α} (h : x ∈ l) (n : f x ∉ Y) : x ∈ cutG f hit Y l := by
  refine List.mem_filter.mpr ⟨h, ?_⟩
  cases e : inB Y (f x) with
  | false => rfl
  | true => exact absurd (inB_iff.mp e) n
theorem cutG_all {Y : List Nm} {l : List α} (h : ∀ x ∈ l, f x ∈ Y) : cutG f hit Y l = l.filter fun x => !hit (f x) := List.filter_congr fun x hx => by rw [inB_iff.mpr (h x hx), Bool.true_and]
end
theorem take_nodup {α : Type} {l : List α} (nd : l.Nodup) {i : Nat} {x : α} (h : l[i]? = some x) : x ∉ l.take i := by
  intro m
  obtain ⟨hi, e⟩ := List.getElem?_eq_some_iff.mp h
  obtain ⟨j, hj, e2⟩ := List.mem_take_iff_getElem.mp m
  exact List.pairwise_iff_getElem.mp nd j i (by omega) hi (by omega) (by rw [e, ← e2])
section
variable {P : Program} {w : World} {K : PySem.W.Frag} {mg : PySem.Str → Option Value} {base : Heap}
def spWMeet : Addr → Sp := fun C vs H Q _ => ∃ (x dx D pa e : Addr) (L : List Nm) (es : List Ev) (p : Plc), vs = [.ref x, .ref pa, .ref e] ∧ WAt C x dx D H L ∧ (∀ n ∈ L, NmOk n) ∧ L.Nodup ∧ L.length ≤ 200 ∧ EventsL H e es ∧ es.length ≤ 120 ∧
  ∀ (l : Addr) (as : List Addr) H', But D H H' → H' D = some (.dT (laidKv (meetF p es L).1)) → H l = none → H' l = some (.lst (as.map V.ref)) → Paired (LetAt H' pa) as (meetF p es L).2 → Q (.ref l) H'
theorem meet_few (p : Plc) : ∀ (es : List Ev) (L : List Nm), (meetF p es L).2.length + (meetF p es L).1.length = L.length := by
  intro es L
  have := (meetF_perm p es L).length_eq
  rw [List.length_append, List.length_map] at this
  exact this
theorem ok_wMeet {C : Addr} (T : Tx K w mg) (W : Wc K mg C) (cM : Cal P w K mg base 1 "is_met" spIsMet []) (cK : Met P w K mg base 1 C "kept" (spWKept C) []) : Met P w K mg base 2 C "meet" (spWMeet C) [] := by
  refine MB.met W.cls W.meet scWMeet (fun vs H Q E h => ?_) (fun f cdv A outer s H vs Q E hr h => ?_)
  · obtain ⟨x, dx, D, pa, e, L, es, p, rfl, _⟩ := h
    rfl
  · obtain ⟨x, dx, D, pa, e, L, es, p, rfl, hW, hL, nd, hLl, hE, hel, k⟩ := h
    have hu := hu_of hr
    refine ⟨_, pss_cons (ps_set (i := 3) scWMeet.nd rfl (Or.inl rfl) (pe_lst pa_nil))
      (pss_cons (ps_for PassesOwn.never rfl (pi_list (pv 2)) (pg_name (i := 4) scWMeet.nd rfl (Or.inl rfl))
        (pss_one (ps_for PassesOwn.never rfl (pi_list (pe_mt0 cK hr (by decide) (pv 0))) (pg_tup rfl (pgs_cons (pg_name (i := 5) scWMeet.nd rfl (Or.inl rfl)) (pgs_cons (pg_name (i := 6) scWMeet.nd rfl (Or.inl rfl)) (pgs_cons (pg_name (i := 7) scWMeet.nd rfl (Or.inl rfl)) pgs_nil))))
          (pss_one (ps_if (pt_val (pe_c cM hr (by decide) (by rfl) (pa_cons (pv 6) (pa_cons (pv 7) (pa_cons (pv 4) pa_nil)))))
            (pss_cons (ps_expr (pe_bm PySem.F.plainAttrs_dict PySem.F.slot_dict_pop PySem.F.type_dict_pop (mt_pop1T hu) (pe_fld (pv 0) rfl) (pa_cons (pe_tup (pa_cons (pv 5) (pa_cons (pv 6) (pa_cons (pv 7) pa_nil)))) pa_nil)))
            (pss_one (ps_expr (pe_bm PySem.F.plainAttrs_list PySem.F.slot_list_append PySem.F.type_list_append mt_append (pv 3) (pa_cons (pe_tup (pa_cons pe_str (pa_cons (pv 5) (pa_cons (pv 6) (pa_cons (pv 7) (pa_cons (pe_ix ix_tup (pv 4) pe_int (fun _ _ => rfl)) (pa_cons (pv 1) pa_nil))))))) pa_nil))))) pss_nil)))))
      (pss_one (ps_ret (pv 3)))), ?_⟩
    refine ⟨by decide, fun lt hlt => ?_⟩
    have flt : H lt = none := hlt
    have s0 : Same H (upd H lt (.lst [])) := same_upd hlt
    have hl0 : (upd H lt (.lst [])) lt = some (.lst []) := upd_same
    generalize (upd H lt (.lst [])) = H0 at s0 hl0
    obtain ⟨ae, he, hp⟩ := hE
    have hlen : ae.length = es.length := Paired.length hp
    have nDl : D ≠ lt := fun z => by
      rw [← z, hW.dct] at flt
      cases flt
    have nel : e ≠ lt := fun z => by
      rw [← z, he] at flt
      cases flt
    refine ⟨_, rfl, e, rfl, ⟨_, SqL.of (s0 _ _ he)⟩, ?_⟩
    refine for_list (K := K) (a := e) (xs := ae.map V.ref) (fun i σ H3 => ∃ (L' : List Nm) (as : List Addr) (ls : List Lt) (z4 z5 z6 z7 : Option V), σ = [some (.ref x), some (.ref pa), some (.ref e), some (.ref lt), z4, z5, z6, z7] ∧ Fr2 D lt H H3 ∧ H3 D = some (.dT (laidKv L')) ∧ H3 lt = some (.lst (as.map V.ref)) ∧
        Paired (LetAt H3 pa) as ls ∧ L'.Sublist L ∧ ls.length ≤ L.length ∧ (meetF p es L).1 = (meetF p (es.drop i) L').1 ∧ (meetF p es L).2 = ls ++ (meetF p (es.drop i) L').2)
      ⟨L, [], [], none, none, none, none, rfl, .of s0, s0 _ _ hW.dct, hl0, .nil, List.Sublist.refl _, Nat.zero_le _, rfl, rfl⟩ (fun i σ H3 _ ⟨_, _, _, _, _, _, _, _, h, _⟩ => SqL.of (h _ _ he (ne_of he hW.dct (by intro z; cases z)) nel)) ?_ ?_
    · rintro i xv σ H3 hx ⟨L', as, ls, z4, z5, z6, z7, rfl, f3, hD3, hl3, hp3, sub, few, e1, e2⟩
      rw [List.getElem?_map] at hx
      cases ex : ae[i]? with
      | none =>
        rw [ex] at hx
        cases hx
      | some a =>
        rw [ex] at hx
        cases hx
        obtain ⟨ev, hev, ha⟩ := paired_at hp ex
        have hd : es.drop i = ev :: es.drop (i + 1) := by
          obtain ⟨hi, e⟩ := List.getElem?_eq_some_iff.mp hev
          rw [← e]
          exact List.drop_eq_getElem_cons hi
        rw [hd] at e1 e2
        have tupH : ∀ {c : Addr} {ys : List V}, H c = some (.tup ys) → H3 c = some (.tup ys) := fun {c ys} z => f3 _ _ z (ne_of z hW.dct (by intro y; cases y)) fun y => by
          rw [y, flt] at z
          cases z
        have hx3 : H3 x = some (.ins C dx [("laid_ones", .ref D)]) := f3 _ _ hW.ins (ne_of hW.ins hW.dct (by intro y; cases y)) fun y => by
          have z := hW.ins
          rw [y, flt] at z
          cases z
        have hL' : ∀ n ∈ L', NmOk n := fun n hn => hL n (sub.mem hn)
        have nd' : L'.Nodup := nd.sublist sub
        have ndY : (srt L').Nodup := (srt_perm L').symm.nodup nd'
        refine ⟨_, rfl, x, dx, _, rfl, hx3, rfl, x, dx, D, L', rfl, ⟨hx3, hD3⟩, hL', fun q bs hq hbs => ?_⟩
        have s4 : Same H3 (upd H3 q (.lst (bs.map V.ref))) := same_upd hq
        have hq4 : (upd H3 q (.lst (bs.map V.ref))) q = some (.lst (bs.map V.ref)) := upd_same
        have nqD : q ≠ D := Ne.symm (ne_of_none hD3 hq)
        have nql : q ≠ lt := Ne.symm (ne_of_none hl3 hq)
        generalize (upd H3 q (.lst (bs.map V.ref))) = H4 at s4 hq4
        have hbl : bs.length = (srt L').length := Paired.length hbs
        refine ⟨q, rfl, ⟨_, SqL.of hq4⟩, ?_⟩
        refine for_list (K := K) (a := q) (xs := bs.map V.ref) (fun j σ H5 => ∃ (as5 : List Addr) (z5 z6 z7 : Option V), σ = [some (.ref x), some (.ref pa), some (.ref e), some (.ref lt), some (.ref a), z5, z6, z7] ∧ Fr2 D lt H4 H5 ∧
            H5 D = some (.dT (laidKv (cutG (fun n => n) (fun n => mt n ev) ((srt L').take j) L'))) ∧ H5 lt = some (.lst ((as ++ as5).map V.ref)) ∧ Paired (LetAt H5 pa) as5 ((((srt L').take j).filter fun n => mt n ev).map fun n => (n, ev.1, p)))
          ⟨[], z5, z6, z7, rfl, fun _ _ y _ _ => y, by rw [List.take_zero, cutG_nil]; exact s4 _ _ hD3, by rw [List.append_nil]; exact s4 _ _ hl3, .nil⟩ (fun j σ H5 _ ⟨_, _, _, _, _, h, _⟩ => SqL.of (h _ _ hq4 nqD nql)) ?_ ?_
        · rintro j xv σ H5 hx ⟨as5, y5, y6, y7, rfl, f5, hD5, hl5, hp5⟩
          rw [List.getElem?_map] at hx
          cases eb : bs[j]? with
          | none =>
            rw [eb] at hx
            cases hx
          | some b =>
            rw [eb] at hx
            cases hx
            obtain ⟨n, hn, hb⟩ := paired_at hbs eb
            have hnL : n ∈ L' := (srt_perm L').mem_iff.mp (List.mem_of_getElem? hn)
            obtain ⟨kk, hkk, pp, _, en⟩ := hL' n hnL
            have tk : (srt L').take (j + 1) = (srt L').take j ++ [n] := by
              rw [List.take_succ, hn]
              rfl
            have f35 : Fr2 D lt H3 H5 := (Fr2.of s4).trans f5
            have hb5 := f35.tup hD3 hl3 hb
            have ha5 := f35.tup hD3 hl3 (tupH ha)
            have hx5 : H5 x = some (.ins C dx [("laid_ones", .ref D)]) := f35 _ _ hx3 (ne_of hx3 hD3 (by intro y; cases y)) (ne_of hx3 hl3 (by intro y; cases y))
            subst en
            refine ⟨b, _, rfl, SqT.of hb5, rfl, _, _, rfl, _, _, rfl, _, _, rfl, rfl, ?_⟩
            refine ⟨_, rfl, _, rfl, _, rfl, kk, pp, ev, a, rfl, hkk, ha5, _, rfl, ?_⟩
            cases hm : metB kk pp ev with
            | false =>
              have hm' : mt [.inr kk, .inr pp] ev = false := hm
              refine iteF ⟨as5, _, _, _, rfl, f5, by rw [tk, cutG_miss _ _ hm']; exact hD5, hl5, ?_⟩
              rw [tk, List.filter_append, List.filter_cons_of_neg (by rw [hm']; simp), List.filter_nil, List.append_nil]
              exact hp5
            | true =>
              have hm' : mt [.inr kk, .inr pp] ev = true := hm
              refine iteT ?_
              have val := laid_val (cutG_in (fun n => n) (fun n => mt n ev) (Y := (srt L').take j) hnL (take_nodup ndY hn))
              refine ⟨_, rfl, x, C, dx, _, _, rfl, hx5, W.cls, W.na, rfl, .inr (.inr (.inl ⟨rfl, .inr ⟨_, hD5⟩⟩)), _, rfl, _, rfl, _, rfl, le3, fun t ht => ?_⟩
              have s6 : Same H5 (upd H5 t (.tup [.str "w", kV (.inr kk), kV (.inr pp)])) := same_upd ht
              have ht6 : (upd H5 t (.tup [.str "w", kV (.inr kk), kV (.inr pp)])) t = some (.tup [.str "w", kV (.inr kk), kV (.inr pp)]) := upd_same
              generalize (upd H5 t (.tup [.str "w", kV (.inr kk), kV (.inr pp)])) = H6 at s6 ht6
              have hD6 := s6 _ _ hD5
              have hl6 := s6 _ _ hl5
              refine ⟨D, _, [.inr "w", .inr kk, .inr pp], t, _, rfl, rfl, hD6, ht6, val, ?_⟩
              rw [laid_drop, ← cutG_hit (fun n => n) (fun n => mt n ev) hm', ← tk]
              generalize hL6 : cutG (fun n => n) (fun n => mt n ev) ((srt L').take (j + 1)) L' = L6
              have f67 : Fr2 D lt H6 (upd H6 D (.dT (laidKv L6))) := .l
              have hD7 : (upd H6 D (.dT (laidKv L6))) D = some (.dT (laidKv L6)) := upd_same
              have hl7 : (upd H6 D (.dT (laidKv L6))) lt = some (.lst ((as ++ as5).map V.ref)) := by rw [upd_ne (Ne.symm nDl)]; exact hl6
              have ha7 := f67.tup hD6 hl6 (s6 _ _ ha5)
              generalize (upd H6 D (.dT (laidKv L6))) = H7 at f67 hD7 hl7 ha7
              refine ⟨_, rfl, .inl ⟨rfl, _, SqL.of hl7⟩, _, rfl, _, rfl, _, rfl, _, rfl, a, _, _, _, rfl, rfl, SqT.of ha7, at_of (j := 0) rfl rfl, _, rfl, le6, fun u hu8 => ?_⟩
              have s8 := same_upd (o := .tup [.str "event", .str "w", kV (.inr kk), kV (.inr pp), .str ev.1, .ref pa]) hu8
              have hu9 : (upd H7 u (.tup [.str "event", .str "w", kV (.inr kk), kV (.inr pp), .str ev.1, .ref pa])) u = some (.tup [.str "event", .str "w", kV (.inr kk), kV (.inr pp), .str ev.1, .ref pa]) := upd_same
              generalize (upd H7 u (.tup [.str "event", .str "w", kV (.inr kk), kV (.inr pp), .str ev.1, .ref pa])) = H8 at s8 hu9
              have hl8 := s8 _ _ hl7
              have hD8 := s8 _ _ hD7
              have f9 : Fr2 D lt H8 (upd H8 lt (.lst ((as ++ as5).map V.ref ++ [.ref u]))) := .r
              have f59 : Fr2 D lt H5 (upd H8 lt (.lst ((as ++ as5).map V.ref ++ [.ref u]))) := ((((Fr2.of s6).trans f67).trans (.of s8)).trans f9)
              refine ⟨lt, _, _, rfl, rfl, hl8, ?_, ?_⟩
              · have l1 : as.length = ls.length := Paired.length hp3
                have l2 := Paired.length hp5
                have l3 : ((((srt L').take j).filter fun n => mt n ev).map fun n => (n, ev.1, p)).length ≤ (srt L').length := by
                  rw [List.length_map]
                  exact Nat.le_trans (List.length_filter_le _ _) (by rw [List.length_take]; omega)
                have l4 : (srt L').length = L'.length := (srt_perm L').length_eq
                have l5 := sub.length_le
                rw [List.length_map, List.length_append]
                exact small1000 (by omega)
              · refine ⟨as5 ++ [u], _, _, _, rfl, f5.trans f59, ?_, ?_, ?_⟩
                · rw [upd_ne nDl]
                  exact hD8
                · rw [upd_same, ← List.append_assoc, List.map_append (l₁ := as ++ as5)]
                  rfl
                · rw [tk, List.filter_append, List.filter_cons_of_pos (p := fun n => mt n ev) hm', List.filter_nil, List.map_append (f := fun n : Nm => (n, ev.1, p))]
                  exact paired_app (paired_imp (fun b t z => f59.tup hD5 hl5 z) hp5) (.cons (show LetAt _ pa u (([.inr kk, .inr pp] : Nm), ev.1, p) from f9.tup hD8 hl8 hu9) .nil)
        · rintro σ H5 ⟨as5, y5, y6, y7, rfl, f5, hD5, hl5, hp5⟩
          have tk : (srt L').take (bs.map V.ref).length = srt L' := by rw [List.length_map, hbl, List.take_length]
          rw [tk] at hD5 hp5
          rw [cutG_all _ _ (fun n hn => (srt_perm L').mem_iff.mpr hn)] at hD5
          have f35 : Fr2 D lt H3 H5 := (Fr2.of s4).trans f5
          refine ⟨L'.filter fun n => !mt n ev, as ++ as5, ls ++ (((srt L').filter fun n => mt n ev).map fun n => (n, ev.1, p)), _, _, _, _, rfl, f3.trans f35, hD5, hl5, paired_app (paired_imp (fun b t z => f35.tup hD3 hl3 z) hp3) hp5, List.filter_sublist.trans sub, ?_, e1, ?_⟩
          · have := meet_few p es L
            rw [e2, List.length_append] at this
            have h3 : ((meetF p (ev :: es.drop (i + 1)) L').2).length = (((srt L').filter fun n => mt n ev).map fun n => (n, ev.1, p)).length + (meetF p (es.drop (i + 1)) (L'.filter fun n => !mt n ev)).2.length := List.length_append
            rw [List.length_append]
            omega
          · rw [e2, List.append_assoc]
            rfl
    · rintro σ H3 ⟨L', as, ls, z4, z5, z6, z7, rfl, f3, hD3, hl3, hp3, sub, few, e1, e2⟩
      have z : es.drop (ae.map V.ref).length = [] := by rw [List.length_map, hlen, List.drop_length]
      rw [z] at e1 e2
      refine ⟨_, rfl, k lt as H3 (f3.but flt) (by rw [e1]; exact hD3) flt hl3 ?_⟩
      rw [e2]
      show Paired _ _ (ls ++ [])
      rw [List.append_nil]
      exact hp3
end
end K42

/-! K42Zd: Watchers.let_go. -/
namespace K42
open PySem L2
open PyProof.Rows (envOfC)
open C8 (Cal Met Mak Def cal0 met0 mak0 pe_c pe_mk pe_mt pe_mt0 fnScope_by fnScope fnBody fnArgs pe_gc)
section
variable {P : Program} {w : World} {K : PySem.W.Frag} {mg : PySem.Str → Option Value} {base : Heap}
def spWLetGo : Addr → Sp := fun C vs H Q _ => ∃ (x dx D : Addr) (L : List Nm), vs = [.ref x, .str "w"] ∧ WAt C x dx D H L ∧
  ∀ (D2 : Addr) H', But x H H' → H D2 = none → H' D2 = some (.dT []) → H' x = some (.ins C dx [("laid_ones", .ref D2)]) → Q .non H'
theorem ok_wLetGo {C : Addr} (W : Wc K mg C) : Met P w K mg base 1 C "let_go" (spWLetGo C) [] := by
  refine MB.met W.cls W.letGo scWLetGo (fun vs H Q E h => ?_) (fun f cdv A outer s H vs Q E hr h => ?_)
  · obtain ⟨x, dx, D, L, rfl, _⟩ := h
    rfl
  · obtain ⟨x, dx, D, L, rfl, hW, q⟩ := h
    have hu := hu_of hr
    refine ⟨_, pss_one (ps_fld (pv 0) (pe_lock (pe_dcx (κ := kdT) (g := gName 2) (own := [("one", 2)]) (tt := tTest (tOp rNe (tOp (rIxT K) (tVar 2) (tC (.int 0))) (tVar 1))) kdT_ok hu rfl scWLetGo.nd (pi_keys (pe_fld (pv 0) rfl)) (blkOk_by (N := nWLetGo) (sc := fnScope sWLetGo) (by decide +kernel))
      (fun _ _ _ _ _ => pg_name (i := 2) scWLetGo.nd rfl (Or.inl rfl)) (fun _ _ _ _ _ => pts_one (pt_cmpR op_ne (pe_ix ix_tup (pv 2) pe_int (fun _ _ => rfl)) (pv 1) (nomark _))) (fun _ _ _ _ _ => pv 2) (fun _ _ _ _ _ => pe_bl))) rfl), ?_⟩
    refine ⟨D, .dT (laidKv L), hW.dct, True.intro, fun od => ?_⟩
    have nxD : x ≠ D := ne_of hW.ins hW.dct (by intro z; cases z)
    have Fd : (upd H D (.frz od (.dT (laidKv L)))) D = some (.frz od (.dT (laidKv L))) := upd_same
    have Fx : (upd H D (.frz od (.dT (laidKv L)))) x = some (.ins C dx [("laid_ones", .ref D)]) := by
      rw [upd_ne nxD]
      exact hW.ins
    refine ⟨_, rfl, x, C, dx, _, _, rfl, Fx, W.cls, W.na, rfl, D, od, rfl, .inr ⟨laidKv L, Fd, fun D2 hD2 => ?_⟩⟩
    refine dcx_it walk_keysT (fun i H1 => Same (upd H D (.frz od (.dT (laidKv L)))) H1 ∧ H1 D2 = some (.dT [])) ⟨same_upd hD2, upd_same⟩ (fun i H1 _ h => h.1 _ _ Fd) (fun i v H1 H2 hi hv y => ?_) fun H1 hv => ?_
    · obtain ⟨rfl, kk, vv, qq, hk, rfl, hq⟩ := y
      obtain ⟨n, _, e⟩ := List.mem_map.mp (List.mem_of_getElem? hk)
      cases e
      refine ⟨rfl, _, rfl, qq, _, _, _, rfl, rfl, SqT.of hq, at_of (j := 0) rfl rfl, _, rfl, rfl, _, rfl, ?_⟩
      exact ite2 (fun c => absurd c (by decide +kernel)) fun _ => hv
    · obtain ⟨s1, hD3⟩ := hv
      refine ⟨s1 _ _ Fd, ?_⟩
      have s2 : Same H (upd H1 D (.dT (laidKv L))) := same_unlock hW.dct s1
      have nDD : D2 ≠ D := fun z => by
        rw [z, Fd] at hD2
        cases hD2
      have hD4 : (upd H1 D (.dT (laidKv L))) D2 = some (.dT []) := by
        rw [upd_ne nDD]
        exact hD3
      have f2 : H D2 = none := by
        rw [upd_ne nDD] at hD2
        exact hD2
      generalize (upd H1 D (.dT (laidKv L))) = G at s2 hD4
      have nx2 : D2 ≠ x := ne_of hD4 (s2 _ _ hW.ins) (by intro z; cases z)
      exact ⟨_, rfl, x, C, dx, _, rfl, s2 _ _ hW.ins, W.cls, W.na, by simp, q D2 _ (fun b o z nb => by rw [upd_ne nb]; exact s2 _ _ z) f2 (by rw [upd_ne nx2]; exact hD4) upd_same⟩
end
end K42

/-! K42Ze: Watchers.anew. -/
namespace K42
open PySem L2
open PyProof.Rows (envOfC)
open C8 (Cal Met Mak Def cal0 met0 mak0 pe_c pe_mk pe_mt pe_mt0 fnScope_by fnScope fnBody fnArgs pe_gc)
/-- a letter told -/
def LetIt (H : Hp) (a : Addr) (x : Lt) : Prop := ∃ pa, LetAt H pa a x ∧ H pa = some (.tup [.int x.2.2.1, .int x.2.2.2])
theorem LetIt.same {H H' : Hp} {a : Addr} {x : Lt} (h : LetIt H a x) (s : Same H H') : LetIt H' a x := by
  obtain ⟨pa, h1, h2⟩ := h
  exact ⟨pa, s _ _ h1, s _ _ h2⟩
theorem LetIt.fr {b c : Addr} {H H' : Hp} {a : Addr} {x : Lt} {ys : List V} {kvs : List (List Key × V)} (h : LetIt H a x) (s : Fr2 b c H H') (hb : H b = some (.dT kvs)) (hc : H c = some (.lst ys)) : LetIt H' a x := by
  obtain ⟨pa, h1, h2⟩ := h
  exact ⟨pa, s.tup hb hc h1, s.tup hb hc h2⟩
/-- the watchers that are to be laid anew -/
def SomeIt (H : Hp) (b : Addr) (x : Nm × Plc) : Prop := ∃ (pa : Addr) (k p : PySem.Str), x.1 = [.inr k, .inr p] ∧ H b = some (.tup [.str k, .str p, .ref pa]) ∧ H pa = some (.tup [.int x.2.1, .int x.2.2])
def SomeAt (H : Hp) (a : Addr) (W : List (Nm × Plc)) : Prop := ∃ as : List Addr, H a = some (.tup (as.map V.ref)) ∧ Paired (SomeIt H) as W
/-- an item of the dict of those that wait -/
def WRel (H : Hp) (kv : List Key × V) (x : Nm × Plc) : Prop := kv.1 = x.1 ∧ ∃ pa, kv.2 = .ref pa ∧ H pa = some (.tup [.int x.2.1, .int x.2.2])
theorem paired_filter {α β : Type} {R : α → β → Prop} {p : α → Bool} {q : β → Bool} (h : ∀ a b, R a b → p a = q b) : ∀ {l : List α} {m : List β}, Paired R l m → Paired R (l.filter p) (m.filter q)
  | _, _, .nil => .nil
  | a :: l, b :: m, .cons r t => by
    have e := h a b r
    cases c : p a with
    | true =>
      rw [List.filter_cons_of_pos c, List.filter_cons_of_pos (by rw [← e]; exact c)]
      exact .cons r (paired_filter h t)
    | false =>
      rw [List.filter_cons_of_neg (by simp [c]), List.filter_cons_of_neg (by rw [← e]; simp [c])]
      exact paired_filter h t
theorem wait_keys {H : Hp} : ∀ {kvs : List (List Key × V)} {W : List (Nm × Plc)}, Paired (WRel H) kvs W → kvs.map (·.1) = W.map (·.1)
  | _, _, .nil => rfl
  | _, _, .cons r t => by rw [List.map_cons, List.map_cons, wait_keys t, r.1]
theorem wait_val {H : Hp} {n : Nm} : ∀ {kvs : List (List Key × V)} {W : List (Nm × Plc)}, Paired (WRel H) kvs W → n ∈ W.map (·.1) → ∃ pa, valV kvs n = some (.ref pa) ∧ H pa = some (.tup [.int (plc W n).1, .int (plc W n).2])
  | _, _, .nil, h => by simp at h
  | kv :: kvs, x :: W, .cons r t, h => by
    obtain ⟨r1, pa, r2, r3⟩ := r
    by_cases e : x.1 = n
    · have ep : plc (x :: W) n = x.2 := by
        unfold plc
        rw [List.find?_cons_of_pos (by simp [e])]
        rfl
      rw [ep]
      exact ⟨pa, (valV_pos (p := kv) (r1.trans e)).trans (by rw [r2]), r3⟩
    · have ep : plc (x :: W) n = plc W n := by
        unfold plc
        rw [List.find?_cons_of_neg (by simp [e])]
      rw [ep]
      have hm : n ∈ W.map (·.1) := by
        rw [List.map_cons] at h
        rcases List.mem_cons.mp h with q | q
        · exact absurd q.symm e
        · exact q
      obtain ⟨pb, h1, h2⟩ := wait_val t hm
      exact ⟨pb, (valV_neg (p := kv) (fun q => e (r1.symm.trans q))).trans h1, h2⟩
theorem wait_drop {H : Hp} {kvs : List (List Key × V)} {W : List (Nm × Plc)} (h : Paired (WRel H) kvs W) (n : Nm) : Paired (WRel H) (dropK kvs n) (W.filter fun x => !decide (x.1 = n)) := by
  unfold dropK
  exact paired_filter (fun a b r => by rw [r.1]; by_cases e : b.1 = n <;> simp [e]) h
theorem putK_new {kvs : List (List Key × V)} {n : List Key} {v : V} (h : n ∉ kvs.map (·.1)) : putK kvs n v = kvs ++ [(n, v)] := by
  unfold putK
  rw [if_neg]
  intro c
  obtain ⟨kv, m, e⟩ := List.any_eq_true.mp c
  exact h (of_decide_eq_true e ▸ List.mem_map_of_mem m)
theorem len_split {α : Type} (q : α → Bool) : ∀ l : List α, (l.filter q).length + (l.filter fun x => !q x).length = l.length
  | [] => rfl
  | a :: l => by
    have ih := len_split q l
    cases h : q a with
    | true =>
      rw [List.filter_cons_of_pos h, List.filter_cons_of_neg (by simp [h]), List.length_cons, List.length_cons]
      omega
    | false =>
      rw [List.filter_cons_of_neg (by simp [h]), List.filter_cons_of_pos (by simp [h]), List.length_cons, List.length_cons]
      omega
theorem wait_few (q : Nm → Bool) (W : List (Nm × Plc)) : ((srt (W.map (·.1))).filter q).length + (W.filter fun x => !q x.1).length = W.length := by
  have h1 : ((srt (W.map (·.1))).filter q).length = (W.filter fun x => q x.1).length := by
    rw [((srt_perm (W.map (·.1))).filter q).length_eq, List.filter_map, List.length_map]
    rfl
  rw [h1]
  exact len_split (fun x : Nm × Plc => q x.1) W
theorem WRel.same {H H' : Hp} {kv : List Key × V} {x : Nm × Plc} (h : WRel H kv x) (s : Same H H') : WRel H' kv x := by
  obtain ⟨e, pa, e2, hp⟩ := h
  exact ⟨e, pa, e2, s _ _ hp⟩
theorem WRel.fr {b c : Addr} {H H' : Hp} {kv : List Key × V} {x : Nm × Plc} {ys : List V} {kvs : List (List Key × V)} (h : WRel H kv x) (s : Fr2 b c H H') (hb : H b = some (.dT kvs)) (hc : H c = some (.lst ys)) : WRel H' kv x := by
  obtain ⟨e, pa, e2, hp⟩ := h
  exact ⟨e, pa, e2, s.tup hb hc hp⟩
section
variable {P : Program} {w : World} {K : PySem.W.Frag} {mg : PySem.Str → Option Value} {base : Heap}
def spWAnew : Addr → Sp := fun C vs H Q _ => ∃ (x dx D ws tl : Addr) (L : List Nm) (W : List (Nm × Plc)) (ts : List (Plc × List Ev)), vs = [.ref x, .str "w", .ref ws, .ref tl] ∧ WAt C x dx D H L ∧ SomeAt H ws W ∧ (∀ y ∈ W, NmOk y.1) ∧ (W.map (·.1)).Nodup ∧ W.length ≤ 200 ∧ ToldAt H tl ts ∧
  ∀ (l D2 : Addr) (as : List Addr) H', But x H H' → WAt C x dx D2 H' ((anw ts W).1.map (·.1)) → H l = none → H' l = some (.lst (as.map V.ref)) → Paired (LetIt H') as (anw ts W).2 → Q (.ref l) H'
theorem ok_wAnew {C : Addr} (T : Tx K w mg) (Wx : Wc K mg C) (cM : Cal P w K mg base 1 "is_met" spIsMet []) (cG : Met P w K mg base 1 C "let_go" (spWLetGo C) []) (cL : Met P w K mg base 1 C "lay" (spWLay C) []) : Met P w K mg base 2 C "anew" (spWAnew C) [] := by
  refine MB.met Wx.cls Wx.anew scWAnew (fun vs H Q E h => ?_) (fun f cdv A outer s H vs Q E hr h => ?_)
  · obtain ⟨x, dx, D, ws, tl, L, W, ts, rfl, _⟩ := h
    rfl
  · obtain ⟨x, dx, D, ws, tl, L, W, ts, rfl, hW, hS, hOk, nd, hWl, hT, k⟩ := h
    have hu := hu_of hr
    refine ⟨_, pss_cons (ps_expr (pe_mt cG hr (by decide) (pv 0) (pa_cons (pv 1) pa_nil)))
      (C8.pss_cut (ps_setDcx (κ := kdT) (g := gTup K 3 (gCons (gName 10) (gCons (gName 11) (gCons (gName 6) gNil)))) (tt := tYes) (i := 4) (own := [("kind", 10), ("path", 11), ("place", 6)]) kdT_ok hu rfl scWAnew.nd rfl rfl (swd_true rfl rfl rfl (by decide +kernel)) (pi_tup (pv 2)) (blkOk_by (N := nWAnew) (sc := fnScope sWAnew) (by decide +kernel))
        (fun _ _ _ _ _ => pg_tup rfl (pgs_cons (pg_name (i := 10) scWAnew.nd rfl (Or.inl rfl)) (pgs_cons (pg_name (i := 11) scWAnew.nd rfl (Or.inl rfl)) (pgs_cons (pg_name (i := 6) scWAnew.nd rfl (Or.inl rfl)) pgs_nil)))) (fun _ _ _ _ _ => pts_nil)
        (fun _ _ _ _ _ => pe_tup (pa_cons (pv 10) (pa_cons (pv 11) pa_nil))) (fun _ _ _ _ _ => pv 6))
      (pss_cons (ps_set (i := 5) scWAnew.nd rfl (Or.inl rfl) (pe_lst pa_nil))
      (C8.pss_cut (ps_for PassesOwn.never rfl (pi_list (pv 3)) (pg_tup rfl (pgs_cons (pg_name (i := 6) scWAnew.nd rfl (Or.inl rfl)) (pgs_cons (pg_name (i := 7) scWAnew.nd rfl (Or.inl rfl)) (pgs_cons (pg_name (i := 8) scWAnew.nd rfl (Or.inl rfl)) pgs_nil))))
        (pss_one (ps_for PassesOwn.never rfl (pi_list (pv 8)) (pg_name (i := 9) scWAnew.nd rfl (Or.inl rfl))
          (pss_one (ps_for PassesOwn.never rfl (pi_list (pe_callB (cr_sortT rfl hr.units) (by rfl) T.sorted (by decide +kernel) (pa_cons (pv 4) pa_nil))) (pg_tup rfl (pgs_cons (pg_name (i := 10) scWAnew.nd rfl (Or.inl rfl)) (pgs_cons (pg_name (i := 11) scWAnew.nd rfl (Or.inl rfl)) pgs_nil)))
            (pss_one (ps_if (PW.pt (pw_and (pt_cmpR (op_ltT (Nat.lt_of_succ_lt hu)) (pe_dget hu (pv 4) (pe_tup (pa_cons (pv 10) (pa_cons (pv 11) pa_nil))) (fun _ _ => rfl)) (pv 6) (nomark _)) (pw_and1 (pt_val (pe_c cM hr (by decide) (by rfl) (pa_cons (pv 10) (pa_cons (pv 11) (pa_cons (pv 9) pa_nil))))))))
              (pss_cons (ps_expr (pe_bm PySem.F.plainAttrs_dict PySem.F.slot_dict_pop PySem.F.type_dict_pop (mt_pop1T hu) (pv 4) (pa_cons (pe_tup (pa_cons (pv 10) (pa_cons (pv 11) pa_nil))) pa_nil)))
              (pss_one (ps_expr (pe_bm PySem.F.plainAttrs_list PySem.F.slot_list_append PySem.F.type_list_append mt_append (pv 5) (pa_cons (pe_tup (pa_cons pe_str (pa_cons (pv 1) (pa_cons (pv 10) (pa_cons (pv 11) (pa_cons (pe_ix ix_tup (pv 9) pe_int (fun _ _ => rfl)) (pa_cons (pv 6) pa_nil))))))) pa_nil))))) pss_nil)))))))
      (pss_cons (ps_lock (ps_for PassesOwn.never rfl (pi_keys (pv 4)) (pg_tup rfl (pgs_cons (pg_name (i := 10) scWAnew.nd rfl (Or.inl rfl)) (pgs_cons (pg_name (i := 11) scWAnew.nd rfl (Or.inl rfl)) pgs_nil)))
        (pss_one (ps_expr (pe_mt cL hr (by decide) (pv 0) (pa_cons (pv 1) (pa_cons (pv 10) (pa_cons (pv 11) pa_nil))))))))
      (pss_one (ps_ret (pv 5))))))), ?_⟩
    refine ⟨_, rfl, x, dx, _, rfl, hW.ins, rfl, _, rfl, x, dx, D, L, rfl, hW, fun D2 H1 b1 f2 hD2 hx1 => ?_⟩
    have tup1 : ∀ {c : Addr} {ys : List V}, H c = some (.tup ys) → H1 c = some (.tup ys) := fun {c ys} z => b1 _ _ z (ne_of z hW.ins (by intro y; cases y))
    obtain ⟨aw, hws, hwp⟩ := hS
    have hawl : aw.length = W.length := Paired.length hwp
    -- those that wait
    refine ⟨fun σ' H' => ∃ (D4 : Addr) (kvs : List (List Key × V)), σ' = [some (.ref x), some (.str "w"), some (.ref ws), some (.ref tl), some (.ref D4), none, none, none, none, none, none, none] ∧ Same H1 H' ∧ H1 D4 = none ∧ H' D4 = some (.dT kvs) ∧ Paired (WRel H') kvs W, ?_, ?_⟩
    · refine ⟨_, rfl, ws, rfl, ⟨_, SqT.of (tup1 hws)⟩, fun D4 hD4 => ?_⟩
      refine dcx_it (walk_tup (K := K) (a := ws) (xs := aw.map V.ref)) (fun i H2 => Same H1 H2 ∧ ∃ kvs, H2 D4 = some (.dT kvs) ∧ Paired (WRel H2) kvs (W.take i)) ⟨same_upd hD4, [], upd_same, .nil⟩ (fun i H2 _ h => SqT.of (h.1 _ _ (tup1 hws))) (fun i v H2 H3 hi hv y => ?_) fun H2 hv => ?_
      · obtain ⟨s2, kvs, hk2, hp2⟩ := hv
        obtain ⟨rfl, hx⟩ := y
        rw [List.getElem?_map] at hx
        cases ex : aw[i]? with
        | none =>
          rw [ex] at hx
          cases hx
        | some b =>
          rw [ex] at hx
          cases hx
          obtain ⟨z, hz, pa, kk, pp, ez, hb, hpa⟩ := paired_at hwp ex
          refine ⟨b, _, rfl, SqT.of (s2 _ _ (tup1 hb)), rfl, _, _, rfl, _, _, rfl, _, _, rfl, rfl, rfl, ?_⟩
          refine ⟨_, rfl, _, rfl, le2, fun t ht => ⟨_, rfl, ?_⟩⟩
          have w1 := same_upd (o := .tup [.str kk, .str pp]) ht
          have ht1 : (upd H3 t (.tup [.str kk, .str pp])) t = some (.tup [.str kk, .str pp]) := upd_same
          generalize (upd H3 t (.tup [.str kk, .str pp])) = H4 at w1 ht1
          have hk4 := w1 _ _ hk2
          have few : kvs.length ≤ i := by
            rw [Paired.length hp2, List.length_take]
            omega
          rw [List.length_map, hawl] at hi
          refine ⟨kvs, [.inr kk, .inr pp], t, rfl, ht1, hk4, by omega, ?_⟩
          have new : ([.inr kk, .inr pp] : Nm) ∉ kvs.map (·.1) := by
            rw [wait_keys hp2, List.map_take, ← ez]
            exact take_nodup nd (by rw [List.getElem?_map, hz]; rfl)
          rw [putK_new new]
          have bp : But D4 H4 (upd H4 D4 (.dT (kvs ++ [([.inr kk, .inr pp], .ref pa)]))) := .put
          have tp : ∀ {b : Addr} {xs : List V}, H4 b = some (.tup xs) → (upd H4 D4 (.dT (kvs ++ [([.inr kk, .inr pp], .ref pa)]))) b = some (.tup xs) := fun z => bp _ _ z (ne_of z hk4 (by intro y; cases y))
          refine ⟨(s2.trans w1).new hD4, _, upd_same, ?_⟩
          rw [List.take_succ, hz]
          refine paired_app (paired_imp (fun kv y r => ?_) hp2) (.cons ?_ .nil)
          · obtain ⟨e, pb, e2, hpb⟩ := r
            exact ⟨e, pb, e2, tp (w1 _ _ hpb)⟩
          · exact ⟨ez.symm, pa, rfl, tp (w1 _ _ (s2 _ _ (tup1 hpa)))⟩
      · obtain ⟨s2, kvs, hk2, hp2⟩ := hv
        rw [List.length_map, hawl, List.take_length] at hp2
        exact ⟨D4, kvs, rfl, s2, hD4, hk2, hp2⟩
    rintro σ' H2 ⟨D4, kv0, rfl, s2, fD4, hD4, hwt⟩
    refine ⟨by decide, fun lt hlt => ?_⟩
    have s3 : Same H2 (upd H2 lt (.lst [])) := same_upd hlt
    have hl3 : (upd H2 lt (.lst [])) lt = some (.lst []) := upd_same
    have flt2 : H2 lt = none := hlt
    generalize (upd H2 lt (.lst [])) = H3 at s3 hl3
    have hD3 := s3 _ _ hD4
    have nDl : D4 ≠ lt := ne_of hD3 hl3 (by intro z; cases z)
    have s13 := s2.trans s3
    have tup3 : ∀ {c : Addr} {ys : List V}, H c = some (.tup ys) → H3 c = some (.tup ys) := fun z => s13 _ _ (tup1 z)
    obtain ⟨at_, htl, htp⟩ := hT
    have hatl : at_.length = ts.length := Paired.length htp
    have lst3 : ∀ {c : Addr} {ys : List V}, H c = some (.lst ys) → H3 c = some (.lst ys) ∧ c ≠ lt := fun {c ys} z => by
      have z1 := b1 _ _ z (ne_of z hW.ins (by intro y; cases y))
      have z2 := s2 _ _ z1
      exact ⟨s3 _ _ z2, fun y => by rw [y, flt2] at z2; cases z2⟩
    -- the loops
    refine ⟨fun σ' H' => ∃ (kvs : List (List Key × V)) (as : List Addr) (z6 z7 z8 z9 z10 z11 : Option V), σ' = [some (.ref x), some (.str "w"), some (.ref ws), some (.ref tl), some (.ref D4), some (.ref lt), z6, z7, z8, z9, z10, z11] ∧ Fr2 D4 lt H3 H' ∧ H' D4 = some (.dT kvs) ∧ Paired (WRel H') kvs (anw ts W).1 ∧
      H' lt = some (.lst (as.map V.ref)) ∧ Paired (LetIt H') as (anw ts W).2 ∧ (anw ts W).1.Sublist W, ?_, ?_⟩
    · refine ⟨_, rfl, tl, rfl, ⟨_, SqL.of (lst3 htl).1⟩, ?_⟩
      refine for_list (K := K) (a := tl) (xs := at_.map V.ref) (fun i σ H5 => ∃ (W' : List (Nm × Plc)) (ls : List Lt) (kvs : List (List Key × V)) (as : List Addr) (z6 z7 z8 z9 z10 z11 : Option V), σ = [some (.ref x), some (.str "w"), some (.ref ws), some (.ref tl), some (.ref D4), some (.ref lt), z6, z7, z8, z9, z10, z11] ∧ Fr2 D4 lt H3 H5 ∧
          H5 D4 = some (.dT kvs) ∧ Paired (WRel H5) kvs W' ∧ H5 lt = some (.lst (as.map V.ref)) ∧ Paired (LetIt H5) as ls ∧ W'.Sublist W ∧ ls.length + W'.length ≤ W.length ∧ (anw ts W).1 = (anw (ts.drop i) W').1 ∧ (anw ts W).2 = ls ++ (anw (ts.drop i) W').2)
        ⟨W, [], kv0, [], none, none, none, none, none, none, rfl, fun _ _ y _ _ => y, hD3, paired_imp (fun _ _ r => r.same s3) hwt, hl3, .nil, List.Sublist.refl _, by simp, rfl, rfl⟩ (fun i σ H5 _ ⟨_, _, _, _, _, _, _, _, _, _, _, h, _⟩ => SqL.of (h _ _ (lst3 htl).1 (ne_of (lst3 htl).1 hD3 (by intro y; cases y)) (lst3 htl).2)) ?_ ?_
      · rintro i xv σ H5 hx ⟨W', ls, kvs, as, z6, z7, z8, z9, z10, z11, rfl, f5, hD5, hw5, hl5, hp5, sub, few, e1, e2⟩
        rw [List.getElem?_map] at hx
        cases ex : at_[i]? with
        | none =>
          rw [ex] at hx
          cases hx
        | some a =>
          rw [ex] at hx
          cases hx
          obtain ⟨⟨p, es⟩, hti, pa, va, e, ha, hpa, hE⟩ := paired_at htp ex
          have hd : ts.drop i = (p, es) :: ts.drop (i + 1) := by
            obtain ⟨hi, ee⟩ := List.getElem?_eq_some_iff.mp hti
            rw [← ee]
            exact List.drop_eq_getElem_cons hi
          rw [hd] at e1 e2
          have e1 : (anw ts W).1 = (anw (ts.drop (i + 1)) (meetA p es W').1).1 := e1
          have e2 : (anw ts W).2 = ls ++ ((meetA p es W').2 ++ (anw (ts.drop (i + 1)) (meetA p es W').1).2) := e2
          obtain ⟨ae, he, hep⟩ := hE
          have hael : ae.length = es.length := Paired.length hep
          refine ⟨a, _, rfl, SqT.of (f5.tup hD3 hl3 (tup3 ha)), rfl, _, _, rfl, _, _, rfl, _, _, rfl, rfl, ?_⟩
          have he5 : ∀ {H6 : Hp}, Fr2 D4 lt H3 H6 → H6 e = some (.lst (ae.map V.ref)) := fun f => f _ _ (lst3 he).1 (ne_of (lst3 he).1 hD3 (by intro y; cases y)) (lst3 he).2
          refine ⟨_, rfl, e, rfl, ⟨_, SqL.of (he5 f5)⟩, ?_⟩
          refine for_list (K := K) (a := e) (xs := ae.map V.ref) (fun j σ H6 => ∃ (W2 : List (Nm × Plc)) (ls : List Lt) (kvs : List (List Key × V)) (as : List Addr) (z9 z10 z11 : Option V), σ = [some (.ref x), some (.str "w"), some (.ref ws), some (.ref tl), some (.ref D4), some (.ref lt), some (.ref pa), some va, some (.ref e), z9, z10, z11] ∧ Fr2 D4 lt H3 H6 ∧
              H6 D4 = some (.dT kvs) ∧ Paired (WRel H6) kvs W2 ∧ H6 lt = some (.lst (as.map V.ref)) ∧ Paired (LetIt H6) as ls ∧ W2.Sublist W ∧ ls.length + W2.length ≤ W.length ∧ (anw ts W).1 = (anw (ts.drop (i + 1)) (meetA p (es.drop j) W2).1).1 ∧ (anw ts W).2 = ls ++ ((meetA p (es.drop j) W2).2 ++ (anw (ts.drop (i + 1)) (meetA p (es.drop j) W2).1).2))
            ⟨W', ls, kvs, as, _, _, _, rfl, f5, hD5, hw5, hl5, hp5, sub, few, e1, e2⟩ (fun j σ H6 _ ⟨_, _, _, _, _, _, _, _, h, _⟩ => SqL.of (he5 h)) ?_ ?_
          · rintro j xv σ H6 hx ⟨W2, ls, kvs, as, z9, z10, z11, rfl, f6, hD6, hw6, hl6, hp6, sub, few, e1, e2⟩
            rw [List.getElem?_map] at hx
            cases eb : ae[j]? with
            | none =>
              rw [eb] at hx
              cases hx
            | some b =>
              rw [eb] at hx
              cases hx
              obtain ⟨ev, hev, hb⟩ := paired_at hep eb
              have hde : es.drop j = ev :: es.drop (j + 1) := by
                obtain ⟨hj, ee⟩ := List.getElem?_eq_some_iff.mp hev
                rw [← ee]
                exact List.drop_eq_getElem_cons hj
              rw [hde] at e1 e2
              have hok2 : ∀ n ∈ W2.map (·.1), NmOk n := fun n hn => by
                obtain ⟨y, hy, rfl⟩ := List.mem_map.mp hn
                exact hOk y (sub.mem hy)
              have nd2 : (W2.map (·.1)).Nodup := nd.sublist (sub.map _)
              have ndY : (srt (W2.map (·.1))).Nodup := (srt_perm _).symm.nodup nd2
              obtain ⟨sl, es1, _, sl1⟩ := nm_strs hok2
              have ek : (kvs.map fun p => kData p.1) = sl.map (fun a => PyData.tuple (a.map PyData.str)) := by
                rw [← es1, ← wait_keys hw6, List.map_map]
                rfl
              refine ⟨_, rfl, D4, kvs, rfl, .inl hD6, by rw [ek]; exact alike_tups, by rw [ek]; exact sortable_tups sl1, fun q bs hbk hbt hq => ?_⟩
              have e5 : ((bs.mergeSort leK).map fun b => V.ref b.1) = ((bs.mergeSort leK).map (·.1)).map V.ref := by rw [List.map_map]; rfl
              rw [e5]
              have hpq : Paired (fun a (n : Nm) => H6 a = some (.tup (n.map kV))) ((bs.mergeSort leK).map (·.1)) (srt (W2.map (·.1))) := by
                have z : Paired (fun a (n : Nm) => H6 a = some (.tup (n.map kV))) ((bs.mergeSort leK).map (·.1)) ((bs.mergeSort leK).map (·.2)) := paired_zip fun b hb => hbt b ((List.mergeSort_perm bs leK).mem_iff.mp hb)
                rw [sorted_snd, hbk, wait_keys hw6] at z
                exact z
              generalize ((bs.mergeSort leK).map (·.1)) = cs at hpq
              have s7 : Same H6 (upd H6 q (.lst (cs.map V.ref))) := same_upd hq
              have hq7 : (upd H6 q (.lst (cs.map V.ref))) q = some (.lst (cs.map V.ref)) := upd_same
              have nqD : q ≠ D4 := Ne.symm (ne_of_none hD6 hq)
              have nql : q ≠ lt := Ne.symm (ne_of_none hl6 hq)
              generalize (upd H6 q (.lst (cs.map V.ref))) = H7 at s7 hq7
              have hcl : cs.length = (srt (W2.map (·.1))).length := Paired.length hpq
              refine ⟨q, rfl, ⟨_, SqL.of hq7⟩, ?_⟩
              refine for_list (K := K) (a := q) (xs := cs.map V.ref) (fun l σ H8 => ∃ (kv8 : List (List Key × V)) (as5 : List Addr) (z10 z11 : Option V), σ = [some (.ref x), some (.str "w"), some (.ref ws), some (.ref tl), some (.ref D4), some (.ref lt), some (.ref pa), some va, some (.ref e), some (.ref b), z10, z11] ∧ Fr2 D4 lt H7 H8 ∧
                  H8 D4 = some (.dT kv8) ∧ Paired (WRel H8) kv8 (cutG (·.1) (hitA p ev W2) ((srt (W2.map (·.1))).take l) W2) ∧ H8 lt = some (.lst ((as ++ as5).map V.ref)) ∧ Paired (LetIt H8) as5 ((((srt (W2.map (·.1))).take l).filter (hitA p ev W2)).map fun n => (n, ev.1, p)))
                ⟨kvs, [], _, _, rfl, fun _ _ y _ _ => y, s7 _ _ hD6, by rw [List.take_zero, cutG_nil]; exact paired_imp (fun _ _ r => r.same s7) hw6, by rw [List.append_nil]; exact s7 _ _ hl6, .nil⟩ (fun l σ H8 _ ⟨_, _, _, _, _, h, _⟩ => SqL.of (h _ _ hq7 nqD nql)) ?_ ?_
              · rintro l xv σ H8 hx ⟨kv8, as5, z10, z11, rfl, f8, hD8, hw8, hl8, hp8⟩
                rw [List.getElem?_map] at hx
                cases eb : cs[l]? with
                | none =>
                  rw [eb] at hx
                  cases hx
                | some c =>
                  rw [eb] at hx
                  cases hx
                  obtain ⟨n, hn, hc⟩ := paired_at hpq eb
                  have hnW : n ∈ W2.map (·.1) := (srt_perm _).mem_iff.mp (List.mem_of_getElem? hn)
                  obtain ⟨y, hy, ey⟩ := List.mem_map.mp hnW
                  have tk : (srt (W2.map (·.1))).take (l + 1) = (srt (W2.map (·.1))).take l ++ [n] := by
                    rw [List.take_succ, hn]
                    rfl
                  have notin : n ∉ (srt (W2.map (·.1))).take l := take_nodup ndY hn
                  have hyc : y ∈ cutG (·.1) (hitA p ev W2) ((srt (W2.map (·.1))).take l) W2 := cutG_in (·.1) (hitA p ev W2) hy (by rw [ey]; exact notin)
                  have csub : (cutG (·.1) (hitA p ev W2) ((srt (W2.map (·.1))).take l) W2).Sublist W2 := List.filter_sublist
                  obtain ⟨pb, hval, hpb⟩ := wait_val hw8 (n := n) (ey ▸ List.mem_map_of_mem hyc)
                  have epl : plc (cutG (·.1) (hitA p ev W2) ((srt (W2.map (·.1))).take l) W2) n = plc W2 n := by
                    rw [← ey, plc_of nd2 hy, plc_of (nd2.sublist (csub.map _)) hyc]
                  rw [epl] at hpb
                  obtain ⟨kk, hkk, pp, _, en⟩ := hok2 n hnW
                  have f68 : Fr2 D4 lt H6 H8 := (Fr2.of s7).trans f8
                  have hc8 := f68.tup hD6 hl6 hc
                  have f38 : Fr2 D4 lt H3 H8 := f6.trans f68
                  have hpa8 := f38.tup hD3 hl3 (tup3 hpa)
                  have hb8 := f38.tup hD3 hl3 (tup3 hb)
                  subst en
                  have miss : ∀ (H9 : Hp) (z10 z11 : Option V), Same H8 H9 → hitA p ev W2 [.inr kk, .inr pp] = false → ∃ (kv8 : List (List Key × V)) (as5 : List Addr) (y10 y11 : Option V), [some (V.ref x), some (.str "w"), some (.ref ws), some (.ref tl), some (.ref D4), some (.ref lt), some (.ref pa), some va, some (.ref e), some (.ref b), z10, z11] = [some (.ref x), some (.str "w"), some (.ref ws), some (.ref tl), some (.ref D4), some (.ref lt), some (.ref pa), some va, some (.ref e), some (.ref b), y10, y11] ∧ Fr2 D4 lt H7 H9 ∧
                      H9 D4 = some (.dT kv8) ∧ Paired (WRel H9) kv8 (cutG (·.1) (hitA p ev W2) ((srt (W2.map (·.1))).take (l + 1)) W2) ∧ H9 lt = some (.lst ((as ++ as5).map V.ref)) ∧ Paired (LetIt H9) as5 ((((srt (W2.map (·.1))).take (l + 1)).filter (hitA p ev W2)).map fun n => (n, ev.1, p)) := by
                    intro H9 z10 z11 s9 hm
                    refine ⟨kv8, as5, _, _, rfl, f8.trans (.of s9), s9 _ _ hD8, ?_, s9 _ _ hl8, ?_⟩
                    · rw [tk, cutG_miss _ _ hm]
                      exact paired_imp (fun _ _ r => r.same s9) hw8
                    · rw [tk, List.filter_append, List.filter_cons_of_neg (by rw [hm]; simp), List.filter_nil, List.append_nil]
                      exact paired_imp (fun _ _ r => r.same s9) hp8
                  refine ⟨c, _, rfl, SqT.of hc8, rfl, _, _, rfl, _, _, rfl, rfl, ?_⟩
                  refine ⟨_, rfl, _, rfl, _, rfl, le2, fun t ht => ?_⟩
                  have s9 : Same H8 (upd H8 t (.tup [kV (.inr kk), kV (.inr pp)])) := same_upd ht
                  have ht9 : (upd H8 t (.tup [kV (.inr kk), kV (.inr pp)])) t = some (.tup [kV (.inr kk), kV (.inr pp)]) := upd_same
                  generalize (upd H8 t (.tup [kV (.inr kk), kV (.inr pp)])) = H9 at s9 ht9
                  have hD9 := s9 _ _ hD8
                  have hl9 := s9 _ _ hl8
                  have dg : DGet H9 D4 (.ref t) (some (.ref pb)) := by
                    have z := DGet.t (kvs := kv8) (k := [.inr kk, .inr pp]) hD9 ht9
                    rw [hval] at z
                    exact z
                  refine ⟨D4, _, rfl, dg, _, rfl, pb, pa, [(plc W2 [.inr kk, .inr pp]).1, (plc W2 [.inr kk, .inr pp]).2], [p.1, p.2], rfl, rfl, SqT.of (s9 _ _ hpb), SqT.of (s9 _ _ hpa8), _, rfl, ?_⟩
                  cases hlt : ltP (plc W2 [.inr kk, .inr pp]) p with
                  | false =>
                    have hlt' : HT.lexLt [(plc W2 [.inr kk, .inr pp]).1, (plc W2 [.inr kk, .inr pp]).2] [p.1, p.2] = false := hlt
                    rw [hlt']
                    exact miss H9 _ _ s9 (by unfold hitA; rw [hlt]; rfl)
                  | true =>
                    have hlt' : HT.lexLt [(plc W2 [.inr kk, .inr pp]).1, (plc W2 [.inr kk, .inr pp]).2] [p.1, p.2] = true := hlt
                    rw [hlt']
                    refine iteT ?_
                    refine ⟨_, rfl, _, rfl, _, rfl, kk, pp, ev, b, rfl, hkk, s9 _ _ hb8, _, rfl, ?_⟩
                    cases hm : metB kk pp ev with
                    | false => exact miss H9 _ _ s9 (by unfold hitA; rw [hlt]; exact hm)
                    | true =>
                      have hit : hitA p ev W2 [.inr kk, .inr pp] = true := by
                        unfold hitA
                        rw [hlt]
                        exact hm
                      refine iteT ?_
                      refine ⟨_, rfl, .inr (.inr (.inl ⟨rfl, .inr ⟨_, hD9⟩⟩)), _, rfl, _, rfl, le2, fun u fu => ?_⟩
                      have s10 : Same H9 (upd H9 u (.tup [kV (.inr kk), kV (.inr pp)])) := same_upd fu
                      have hu10 : (upd H9 u (.tup [kV (.inr kk), kV (.inr pp)])) u = some (.tup [kV (.inr kk), kV (.inr pp)]) := upd_same
                      generalize (upd H9 u (.tup [kV (.inr kk), kV (.inr pp)])) = H10 at s10 hu10
                      have hD10 := s10 _ _ hD9
                      have hl10 := s10 _ _ hl9
                      have s810 := s9.trans s10
                      have hw10 := paired_imp (fun _ _ r => r.same s810) hw8
                      have hdr := wait_drop hw10 ([.inr kk, .inr pp] : Nm)
                      rw [← cutG_hit (fun y : Nm × Plc => y.1) (hitA p ev W2) hit, ← tk] at hdr
                      refine ⟨D4, kv8, [.inr kk, .inr pp], u, _, rfl, rfl, hD10, hu10, hval, ?_⟩
                      generalize dropK kv8 [.inr kk, .inr pp] = kv9 at hdr
                      have f11 : Fr2 D4 lt H10 (upd H10 D4 (.dT kv9)) := .l
                      have hD11 : (upd H10 D4 (.dT kv9)) D4 = some (.dT kv9) := upd_same
                      have hl11 : (upd H10 D4 (.dT kv9)) lt = some (.lst ((as ++ as5).map V.ref)) := by rw [upd_ne (Ne.symm nDl)]; exact hl10
                      have hdr11 := paired_imp (fun _ _ r => WRel.fr r f11 hD10 hl10) hdr
                      have hb11 := f11.tup hD10 hl10 (s810 _ _ hb8)
                      have hpa11 := f11.tup hD10 hl10 (s810 _ _ hpa8)
                      generalize (upd H10 D4 (.dT kv9)) = H11 at f11 hD11 hl11 hdr11 hb11 hpa11
                      refine ⟨_, rfl, .inl ⟨rfl, _, SqL.of hl11⟩, _, rfl, _, rfl, _, rfl, _, rfl, b, _, _, _, rfl, rfl, SqT.of hb11, at_of (j := 0) rfl rfl, _, rfl, le6, fun v fv => ?_⟩
                      have s12 := same_upd (o := .tup [.str "event", .str "w", kV (.inr kk), kV (.inr pp), .str ev.1, .ref pa]) fv
                      have hv12 : (upd H11 v (.tup [.str "event", .str "w", kV (.inr kk), kV (.inr pp), .str ev.1, .ref pa])) v = some (.tup [.str "event", .str "w", kV (.inr kk), kV (.inr pp), .str ev.1, .ref pa]) := upd_same
                      generalize (upd H11 v (.tup [.str "event", .str "w", kV (.inr kk), kV (.inr pp), .str ev.1, .ref pa])) = H12 at s12 hv12
                      have hl12 := s12 _ _ hl11
                      have hD12 := s12 _ _ hD11
                      have hpa12 := s12 _ _ hpa11
                      have hdr12 := paired_imp (fun _ _ r => WRel.same r s12) hdr11
                      have f13 : Fr2 D4 lt H12 (upd H12 lt (.lst ((as ++ as5).map V.ref ++ [.ref v]))) := .r
                      have f813 : Fr2 D4 lt H8 (upd H12 lt (.lst ((as ++ as5).map V.ref ++ [.ref v]))) := (((Fr2.of s810).trans f11).trans (.of s12)).trans f13
                      refine ⟨lt, _, _, rfl, rfl, hl12, ?_, ?_⟩
                      · have l1 : as.length = ls.length := Paired.length hp6
                        have l2 := Paired.length hp8
                        have l3 : ((((srt (W2.map (·.1))).take l).filter (hitA p ev W2)).map fun n => (n, ev.1, p)).length ≤ (srt (W2.map (·.1))).length := by
                          rw [List.length_map]
                          exact Nat.le_trans (List.length_filter_le _ _) (by rw [List.length_take]; omega)
                        have l4 : (srt (W2.map (·.1))).length = W2.length := by rw [(srt_perm _).length_eq, List.length_map]
                        rw [List.length_map, List.length_append]
                        exact small1000 (by omega)
                      · refine ⟨kv9, as5 ++ [v], _, _, rfl, f8.trans f813, ?_, paired_imp (fun _ _ r => WRel.fr r f13 hD12 hl12) hdr12, ?_, ?_⟩
                        · rw [upd_ne nDl]
                          exact hD12
                        · rw [upd_same, ← List.append_assoc, List.map_append (l₁ := as ++ as5)]
                          rfl
                        · rw [tk, List.filter_append, List.filter_cons_of_pos (p := hitA p ev W2) hit, List.filter_nil, List.map_append (f := fun n : Nm => (n, ev.1, p))]
                          exact paired_app (paired_imp (fun _ _ z => z.fr f813 hD8 hl8) hp8) (.cons ⟨pa, f13.tup hD12 hl12 hv12, f13.tup hD12 hl12 hpa12⟩ .nil)
              · rintro σ H8 ⟨kv8, as5, z10, z11, rfl, f8, hD8, hw8, hl8, hp8⟩
                have tk : (srt (W2.map (·.1))).take (cs.map V.ref).length = srt (W2.map (·.1)) := by rw [List.length_map, hcl, List.take_length]
                rw [tk] at hw8 hp8
                rw [cutG_all _ _ (fun y hy => (srt_perm _).mem_iff.mpr (List.mem_map_of_mem hy))] at hw8
                have f68 : Fr2 D4 lt H6 H8 := (Fr2.of s7).trans f8
                have wf := wait_few (hitA p ev W2) W2
                refine ⟨W2.filter fun y => !hitA p ev W2 y.1, ls ++ (((srt (W2.map (·.1))).filter (hitA p ev W2)).map fun n => (n, ev.1, p)), kv8, as ++ as5, _, _, _, rfl, f6.trans f68, hD8, hw8, hl8, paired_app (paired_imp (fun _ _ z => z.fr f68 hD6 hl6) hp6) hp8, List.filter_sublist.trans sub, ?_, e1, ?_⟩
                · rw [List.length_append, List.length_map]
                  omega
                · rw [e2, List.append_assoc]
                  show ls ++ ((_ ++ _) ++ _) = _
                  rw [List.append_assoc]
                  rfl
          · rintro σ H6 ⟨W2, ls, kvs, as, z9, z10, z11, rfl, f6, hD6, hw6, hl6, hp6, sub, few, e1, e2⟩
            have z : es.drop (ae.map V.ref).length = [] := by rw [List.length_map, hael, List.drop_length]
            rw [z] at e1 e2
            exact ⟨W2, ls, kvs, as, _, _, _, _, _, _, rfl, f6, hD6, hw6, hl6, hp6, sub, few, e1, e2⟩
      · rintro σ H5 ⟨W', ls, kvs, as, z6, z7, z8, z9, z10, z11, rfl, f5, hD5, hw5, hl5, hp5, sub, few, e1, e2⟩
        have z : ts.drop (at_.map V.ref).length = [] := by rw [List.length_map, hatl, List.drop_length]
        rw [z] at e1 e2
        have e1 : (anw ts W).1 = W' := e1
        have e2 : (anw ts W).2 = ls ++ [] := e2
        rw [List.append_nil] at e2
        rw [e1, e2]
        exact ⟨kvs, as, _, _, _, _, _, _, rfl, f5, hD5, hw5, hl5, hp5, sub⟩
    rintro σ' H5 ⟨kvs, as, z6, z7, z8, z9, z10, z11, rfl, f5, hD5, hw5, hl5, hp5, sub⟩
    have hD2' : H3 D2 = some (.dT []) := s13 _ _ hD2
    have n24 : D2 ≠ D4 := fun z => by
      rw [z, fD4] at hD2
      cases hD2
    have n2l : D2 ≠ lt := ne_of hD2' hl3 (by intro z; cases z)
    have hD2'' : H5 D2 = some (.dT []) := f5 _ _ hD2' n24 n2l
    have hx3 : H3 x = some (.ins C dx [("laid_ones", .ref D2)]) := s13 _ _ hx1
    have hx5 : H5 x = some (.ins C dx [("laid_ones", .ref D2)]) := f5 _ _ hx3 (ne_of hx3 hD3 (by intro z; cases z)) (ne_of hx3 hl3 (by intro z; cases z))
    have nx4 : x ≠ D4 := ne_of hx5 hD5 (by intro z; cases z)
    have nx2 : x ≠ D2 := ne_of hx5 hD2'' (by intro z; cases z)
    have flt : H lt = none := by
      cases e : H lt with
      | none => rfl
      | some o =>
        exfalso
        by_cases ex : lt = x
        · have z := s2 _ _ hx1
          rw [← ex, flt2] at z
          cases z
        · have z := s2 _ _ (b1 _ _ e ex)
          rw [flt2] at z
          cases z
    have ndN : ((anw ts W).1.map (·.1)).Nodup := nd.sublist (sub.map _)
    have okN : ∀ n ∈ (anw ts W).1.map (·.1), NmOk n := fun n hn => by
      obtain ⟨y, hy, rfl⟩ := List.mem_map.mp hn
      exact hOk y (sub.mem hy)
    have ekv := wait_keys hw5
    have lenN : ((anw ts W).1.map (·.1)).length ≤ 200 := by
      rw [List.length_map]
      exact Nat.le_trans sub.length_le hWl
    have kvl : kvs.length = ((anw ts W).1.map (·.1)).length := by rw [← ekv, List.length_map]
    generalize hN : (anw ts W).1.map (·.1) = N at k ndN okN ekv lenN kvl
    refine ⟨D4, .dT kvs, hD5, True.intro, fun od => ?_⟩
    have Fd : (upd H5 D4 (.frz od (.dT kvs))) D4 = some (.frz od (.dT kvs)) := upd_same
    have keepL : ∀ {c : Addr} {o : HO}, H5 c = some o → c ≠ D4 → (upd H5 D4 (.frz od (.dT kvs))) c = some o := fun z n => by
      rw [upd_ne n]
      exact z
    generalize (upd H5 D4 (.frz od (.dT kvs))) = HL at Fd keepL
    refine ⟨_, rfl, D4, od, rfl, .inr ⟨kvs, Fd, ?_⟩⟩
    refine for_it walk_keysT (fun i σ H6 => ∃ (z10 z11 : Option V), σ = [some (.ref x), some (.str "w"), some (.ref ws), some (.ref tl), some (.ref D4), some (.ref lt), z6, z7, z8, z9, z10, z11] ∧ But D2 HL H6 ∧ H6 D2 = some (.dT (laidKv (N.take i))))
      ⟨_, _, rfl, fun _ _ y _ => y, keepL hD2'' n24⟩ (fun i σ H6 _ ⟨_, _, _, h, _⟩ => h _ _ Fd (Ne.symm n24)) ?_ ?_
    · rintro i v σ H6 H7 hi ⟨z10, z11, rfl, b6, hD6⟩ ⟨rfl, kk0, vv, q, hk, rfl, hq⟩
      have hn : N[i]? = some kk0 := by
        rw [← ekv, List.getElem?_map, hk]
        rfl
      obtain ⟨kk, hkk, pp, _, rfl⟩ := okN kk0 (List.mem_of_getElem? hn)
      have hx6 := b6 _ _ (keepL hx5 nx4) nx2
      refine ⟨q, _, rfl, SqT.of hq, rfl, _, _, rfl, _, _, rfl, rfl, ?_⟩
      refine ⟨_, rfl, x, dx, _, rfl, hx6, rfl, _, rfl, _, rfl, _, rfl, x, dx, D2, "w", kk, pp, laidKv (N.take i), rfl, hx6, hD6, ?_, fun t ht => ?_⟩
      · rw [List.length_map, List.length_take]
        omega
      · have new : ([.inr "w", .inr kk, .inr pp] : Nm) ∉ (laidKv (N.take i)).map (·.1) := by
          rw [List.map_map]
          intro m
          obtain ⟨n, hn2, e⟩ := List.mem_map.mp m
          have e : (.inr "w" :: n : Nm) = [.inr "w", .inr kk, .inr pp] := e
          exact take_nodup ndN hn ((List.cons.inj e).2 ▸ hn2)
        rw [putK_new new]
        have n2t : D2 ≠ t := ne_of_none hD6 ht
        refine ⟨_, _, rfl, b6.trans ((But.of (same_upd ht)).trans .put), ?_⟩
        rw [upd_same, List.take_succ, hn]
        unfold laidKv
        rw [List.map_append]
        rfl
    · rintro σ H6 ⟨z10, z11, rfl, b6, hD6⟩
      refine ⟨b6 _ _ Fd (Ne.symm n24), _, rfl, ?_⟩
      have f57 : ∀ c o, H5 c = some o → c ≠ D4 → c ≠ D2 → (upd H6 D4 (.dT kvs)) c = some o := fun c o z n m => by
        rw [upd_ne n]
        exact b6 _ _ (keepL z n) m
      have tp : ∀ {c : Addr} {ys : List V}, H5 c = some (.tup ys) → (upd H6 D4 (.dT kvs)) c = some (.tup ys) := fun z => f57 _ _ z (ne_of z hD5 (by intro y; cases y)) (ne_of z hD2'' (by intro y; cases y))
      rw [kvl, List.take_length] at hD6
      refine k lt D2 as _ (fun c o z n => ?_) ⟨f57 _ _ hx5 nx4 nx2, by rw [upd_ne n24]; exact hD6⟩ flt (f57 _ _ hl5 (Ne.symm nDl) (Ne.symm n2l)) (paired_imp (fun a y r => ?_) hp5)
      · have z1 := b1 _ _ z n
        have nc4 : c ≠ D4 := fun e => by
          rw [e, fD4] at z1
          cases z1
        have ncl : c ≠ lt := fun e => by
          rw [e, flt] at z
          cases z
        have nc2 : c ≠ D2 := fun e => by
          rw [e, f2] at z
          cases z
        exact f57 _ _ (f5 _ _ (s13 _ _ z1) nc4 ncl) nc4 nc2
      · obtain ⟨pa, h1, h2⟩ := r
        exact ⟨pa, tp h1, tp h2⟩
end
end K42

/-! K42Zf: the law's draws. -/
namespace K42
open PySem L2
open PyProof.Rows (envOfC)
open C8 (Cal Met Mak Def cal0 met0 mak0 pe_c pe_mk pe_mt pe_mt0 fnScope_by fnScope fnBody fnArgs pe_gc)
/-- a pool of draws -/
def PoolAt (H : Hp) (p : Addr) : Prop := ∃ a b : Nat, H p = some (.lst [.int (a : Nat), .int (b : Nat)]) ∧ b < 2147483647
theorem PoolAt.same {H H' : Hp} {p : Addr} (h : PoolAt H p) (s : Same H H') : PoolAt H' p := by
  obtain ⟨a, b, h1, h2⟩ := h
  exact ⟨a, b, s _ _ h1, h2⟩
theorem fmod_nat (a m : Nat) : ((a : Int)).fmod (m : Int) = ((a % m : Nat) : Int) := by
  rw [Int.fmod_eq_emod_of_nonneg _ (Int.natCast_nonneg m)]
  exact (Int.natCast_emod a m).symm
theorem fdiv_nat (a m : Nat) : ((a : Int)).fdiv (m : Int) = ((a / m : Nat) : Int) := by
  rw [Int.fdiv_eq_ediv_of_nonneg _ (Int.natCast_nonneg m)]
  exact (Int.natCast_ediv a m).symm
theorem small64 {a : Nat} (h : a < 4294967296) : -(2 ^ 64) < ((a : Nat) : Int) ∧ ((a : Nat) : Int) < 2 ^ 64 := by omega
section
variable {X : Cx}
def rU2 (C : Nat → Nat → Prop) (g : Nat → Nat → Nat) : V → V → Hp → VK → Prop := fun x y H Q => ∃ a b : Nat, x = .int (a : Nat) ∧ y = .int (b : Nat) ∧ C a b ∧ Q (.int ((g a b : Nat) : Int)) H
theorem op_addU : OpR X (binaryOp .Add) (rU2 (fun _ _ => True) (· + ·)) := fun pins s σ H x y v u Q I rx ry ⟨a, b, ex, ey, _, q⟩ =>
  op_add pins s σ H x y v u Q I rx ry ⟨_, _, ex, ey, (show Q (.int (((a + b : Nat) : Int))) H from q)⟩
theorem op_mulU : OpR X (binaryOp .Mult) (rU2 (fun _ b => b < 4294967296) (· * ·)) := fun pins s σ H x y v u Q I rx ry ⟨a, b, ex, ey, c, q⟩ =>
  op_mul pins s σ H x y v u Q I rx ry ⟨_, _, ex, ey, .inr (small64 c), (show Q (.int (((a * b : Nat) : Int))) H from q)⟩
theorem op_modU : OpR X (binaryOp .Mod) (rU2 (fun _ b => 1 ≤ b) (· % ·)) := fun pins s σ H x y v u Q I rx ry ⟨a, b, ex, ey, c, q⟩ =>
  op_modN pins s σ H x y v u Q I rx ry ⟨_, _, ex, ey, by omega, by show Q (.int ((a : Int).fmod (b : Int))) H; rw [fmod_nat]; exact q⟩
theorem op_fdivU : OpR X (binaryOp .FloorDiv) (rU2 (fun _ b => 1 ≤ b ∧ b < 1073741824) (· / ·)) := fun pins s σ H x y v u Q I rx ry ⟨a, b, ex, ey, c, q⟩ =>
  op_fdivN pins s σ H x y v u Q I rx ry ⟨_, _, ex, ey, ⟨by omega, by omega⟩, by show Q (.int ((a : Int).fdiv (b : Int))) H; rw [fdiv_nat]; exact q⟩
end
section
variable {P : Program} {w : World} {K : PySem.W.Frag} {mg : PySem.Str → Option Value} {base : Heap}
theorem cut_ints (ns : List Int) (lo hi : Option Int) : ∃ cs : List Int, cutV (ns.map V.int) lo hi = cs.map V.int ∧ cs.length ≤ ns.length := by
  unfold cutV
  rw [← List.map_drop, ← List.map_take]
  refine ⟨_, rfl, ?_⟩
  rw [List.length_take, List.length_drop]
  omega
def spPool (K : PySem.W.Frag) : Sp := fun vs H Q _ => ∃ (s : Addr) (ns : List Int) (i : Int), vs = [.ref s, .int i] ∧ SqL K H s (ns.map V.int) ∧ ns.length ≤ 63 ∧ 0 ≤ i ∧ i ≤ 100 ∧
  ∀ p H', Same H H' → H p = none → PoolAt H' p → Q (.ref p) H'
theorem ok_pool (T : Tx K w mg) (D : DB K mg "_law_pool" sLawPool pLawPool) : Cal P w K mg base 1 "_law_pool" (spPool K) [] := by
  refine D.cal scLawPool (fun vs H Q E h => ?_) (fun f cdv A outer s H vs Q E hr h => ?_)
  · obtain ⟨s, ns, i, rfl, _⟩ := h
    rfl
  · obtain ⟨sc, ns, i, rfl, hS, hn, i0, i1, k⟩ := h
    refine ⟨_, pss_cons (ps_set (i := 2) scLawPool.nd rfl (Or.inl rfl) (pe_ix ix_list (pe_op op_cat (pe_slice sl_list (pv 0) (po_some (pv 1)) (po_some (pe_op op_add (pv 1) pe_int))) (pe_lst (pa_cons pe_int pa_nil))) pe_int (fun _ _ => rfl)))
      (C8.pss_cut (ps_set (i := 3) scLawPool.nd rfl (Or.inl rfl) (pe_callB call_abs (by rfl) T.abs (by decide +kernel) (pa_cons (pv 2) pa_nil)))
      (C8.pss_cut (ps_set (i := 4) scLawPool.nd rfl (Or.inl rfl) (pe_op op_modU (pe_op op_mulU (pe_op op_addU (pe_op op_addU (pe_op op_modU (pv 3) pe_int) (pe_op op_mulU pe_int (pv 1))) pe_int) pe_int) pe_int))
      (pss_one (ps_ret (pe_lst (pa_cons (pe_op op_mulU (pv 3) (pe_callTy call_int1 (by rfl) T.int (by decide +kernel) (pa_cons (pe_cmpR op_ge (pv 3) (pe_op op_pow pe_int pe_int) (nomark _)) pa_nil))) (pa_cons (pv 4) pa_nil))))))), ?_⟩
    obtain ⟨j, rfl⟩ : ∃ j : Nat, i = (j : Nat) := ⟨i.toNat, by omega⟩
    obtain ⟨cs, ecs, lcs⟩ := cut_ints ns (some (j : Nat)) (some ((j : Nat) + 1))
    refine ⟨_, rfl, _, rfl, _, rfl, _, rfl, _, _, rfl, rfl, _, rfl, sc, _, rfl, hS, fun q hq => ⟨(by show 1 ≤ sizeLine; decide), fun r hr' => ?_⟩⟩
    rw [ecs] at hr' ⊢
    have w1 := same_upd (o := .lst (cs.map V.int)) hq
    have w2 := same_upd (o := .lst [.int 0]) hr'
    have hq1 := w2 _ _ (upd_same : (upd H q (.lst (cs.map V.int))) q = some (.lst (cs.map V.int)))
    have hr1 : (upd (upd H q (.lst (cs.map V.int))) r (.lst [.int 0])) r = some (.lst [.int 0]) := upd_same
    generalize (upd (upd H q (.lst (cs.map V.int))) r (.lst [.int 0])) = H1 at w2 hq1 hr1
    refine ⟨q, r, _, _, rfl, rfl, hq1, hr1, ?_, fun t ht => ?_⟩
    · rw [List.length_map]
      exact Nat.le_of_lt (small1000 (by show cs.length + 1 ≤ 1000; omega))
    have w3 := same_upd (o := .lst (cs.map V.int ++ [.int 0])) ht
    have ht1 : (upd H1 t (.lst (cs.map V.int ++ [.int 0]))) t = some (.lst (cs.map V.int ++ [.int 0])) := upd_same
    generalize (upd H1 t (.lst (cs.map V.int ++ [.int 0]))) = H2 at w3 ht1
    obtain ⟨c, hc⟩ : ∃ c : Int, (cs.map V.int ++ [.int 0])[0]? = some (V.int c) := by
      cases cs with
      | nil => exact ⟨0, rfl⟩
      | cons c cs => exact ⟨c, rfl⟩
    have s2 : Same H H2 := (w1.trans w2).trans w3
    have hix : atI (cs.map V.int ++ [.int 0]) 0 = some (V.int c) := at_of (j := 0) rfl hc
    refine ⟨t, _, _, _, rfl, rfl, SqL.of ht1, hix, ?_⟩
    refine ⟨fun σ' H' => H2 = H' ∧ σ' = [some (.ref sc), some (.int (j : Nat)), some (.int c), some (.int (c.natAbs : Nat)), none], ?_, ?_⟩
    · refine ⟨_, rfl, c, rfl, ?_⟩
      have e : (if c < 0 then -c else c) = (c.natAbs : Nat) := by split <;> omega
      rw [e]
      exact ⟨rfl, rfl⟩
    rintro σ' H' ⟨rfl, rfl⟩
    generalize c.natAbs = n
    refine ⟨fun σ' H' => H2 = H' ∧ ∃ b : Nat, b < 2147483647 ∧ σ' = [some (.ref sc), some (.int (j : Nat)), some (.int c), some (.int (n : Nat)), some (.int (b : Nat))], ?_, ?_⟩
    · refine ⟨_, rfl, n, 2147483629, rfl, rfl, (show 1 ≤ 2147483629 by decide), _, rfl, 7919, j, rfl, rfl, (show j < 4294967296 by omega), _, _, rfl, rfl, True.intro, _, 1, rfl, rfl, True.intro, _, 48271, rfl, rfl, (show 48271 < 4294967296 by decide), _, 2147483647, rfl, rfl, (show 1 ≤ 2147483647 by decide), ?_⟩
      exact ⟨rfl, _, Nat.mod_lt _ (by decide), rfl⟩
    rintro σ' H' ⟨rfl, b, hb, rfl⟩
    refine ⟨_, rfl, _, rfl, _, _, rfl, rfl, ⟨by decide, by decide, by decide⟩, _, _, rfl, rfl, .inr ⟨_, rfl, ?_⟩⟩
    have fin : ∀ m : Nat, ∀ p, H2 p = none → Q (.ref p) (upd H2 p (.lst [.int (m : Nat), .int (b : Nat)])) := fun m p hp => k p _ (s2.trans (same_upd hp)) (s2.free hp) ⟨m, b, upd_same, hb⟩
    by_cases hd : (10 ^ (18 : Int).toNat : Int) ≤ (n : Nat)
    · rw [decide_eq_true hd]
      exact ⟨n, 1, rfl, rfl, (show 1 < 4294967296 by decide), _, rfl, le2, fun p hp => fin _ p hp⟩
    · rw [decide_eq_false hd]
      exact ⟨n, 0, rfl, rfl, (show 0 < 4294967296 by decide), _, rfl, le2, fun p hp => fin _ p hp⟩
def spTake : Sp := fun vs H Q _ => ∃ (p : Addr) (m : Nat), vs = [.ref p, .int (m : Nat)] ∧ PoolAt H p ∧ 1 ≤ m ∧ m ≤ 1000 ∧ ∀ (r : Nat) H', r < m → But p H H' → PoolAt H' p → Q (.int (r : Nat)) H'
theorem ok_take (D : DB K mg "_law_take" sLawTake pLawTake) : Cal P w K mg base 1 "_law_take" spTake [] := by
  refine D.cal scLawTake (fun vs H Q E h => ?_) (fun f cdv A outer s H vs Q E hr h => ?_)
  · obtain ⟨p, m, rfl, _⟩ := h
    rfl
  · obtain ⟨p, m, rfl, ⟨a, b, hp, hb⟩, m1, m2, k⟩ := h
    refine ⟨_, pss_cons (ps_if (pt_cmpR op_gt (pe_ix ix_list (pv 0) pe_int (fun _ _ => rfl)) pe_int (nomark _))
        (pss_cons (ps_set (i := 2) scLawTake.nd rfl (Or.inl rfl) (pe_op op_modU (pe_ix ix_list (pv 0) pe_int (fun _ _ => rfl)) (pv 1)))
        (pss_cons (ps_asg (pe_op op_fdivU (pe_ix ix_list (pv 0) pe_int (fun _ _ => rfl)) (pv 1)) (pg_sub (pv 0) pe_int set_list))
        (pss_one (ps_ret (pv 2))))) pss_nil)
      (C8.pss_cut (ps_asg (pe_op op_modU (pe_op op_addU (pe_op op_mulU (pe_ix ix_list (pv 0) pe_int (fun _ _ => rfl)) pe_int) pe_int) pe_int) (pg_sub (pv 0) pe_int set_list))
      (pss_one (ps_ret (pe_op op_modU (pe_op op_fdivU (pe_op op_modU (pe_op op_mulU (pe_ix ix_list (pv 0) pe_int (fun _ _ => rfl)) (pe_ix ix_list (pv 0) pe_int (fun _ _ => rfl))) pe_int) pe_int) (pv 1))))), ?_⟩
    refine ⟨_, rfl, p, _, _, _, rfl, rfl, SqL.of hp, at_of (j := 0) rfl rfl, _, _, rfl, rfl, _, rfl, ?_⟩
    refine ite2 (fun _ => ?_) (fun _ => ?_)
    · refine ⟨_, rfl, p, _, _, _, rfl, rfl, SqL.of hp, at_of (j := 0) rfl rfl, _, rfl, a, m, rfl, rfl, m1, ?_⟩
      refine ⟨_, rfl, p, _, _, _, rfl, rfl, SqL.of hp, at_of (j := 0) rfl rfl, _, rfl, a, m, rfl, rfl, ⟨m1, by omega⟩, ?_⟩
      refine ⟨_, rfl, p, _, _, 0, rfl, rfl, hp, rfl, _, rfl, ?_⟩
      exact k _ _ (Nat.mod_lt _ (by omega)) .put ⟨a / m, b, upd_same, hb⟩
    · refine ⟨fun σ' H' => ∃ c : Nat, c < 2147483647 ∧ H' = upd H p (.lst [.int (a : Nat), .int (c : Nat)]) ∧ σ' = [some (.ref p), some (.int (m : Nat)), none], ?_, ?_⟩
      · refine ⟨_, rfl, p, _, _, _, rfl, rfl, SqL.of hp, at_of (j := 1) rfl rfl, b, 48271, rfl, rfl, (show 48271 < 4294967296 by decide), _, 11, rfl, rfl, True.intro, _, 2147483647, rfl, rfl, (show 1 ≤ 2147483647 by decide), ?_⟩
        refine ⟨_, rfl, p, _, _, 1, rfl, rfl, hp, rfl, ?_⟩
        exact ⟨(b * 48271 + 11) % 2147483647, Nat.mod_lt _ (by decide), rfl, rfl⟩
      · rintro σ' H' ⟨c, hc, rfl, rfl⟩
        have hp2 : (upd H p (.lst [.int (a : Nat), .int (c : Nat)])) p = some (.lst [.int (a : Nat), .int (c : Nat)]) := upd_same
        have bp : But p H (upd H p (.lst [.int (a : Nat), .int (c : Nat)])) := .put
        generalize (upd H p (.lst [.int (a : Nat), .int (c : Nat)])) = G at hp2 bp
        refine ⟨_, rfl, p, _, _, _, rfl, rfl, SqL.of hp2, at_of (j := 1) rfl rfl, _, rfl, p, _, _, _, rfl, rfl, SqL.of hp2, at_of (j := 1) rfl rfl, c, c, rfl, rfl, (show c < 4294967296 by omega), _, 2147483629, rfl, rfl, (show 1 ≤ 2147483629 by decide), _, 64, rfl, rfl, (show 1 ≤ 64 ∧ 64 < 1073741824 by decide), _, rfl, _, m, rfl, rfl, m1, ?_⟩
        exact k _ _ (Nat.mod_lt _ (by omega)) bp ⟨a, c, hp2, hc⟩
end
end K42

/-! K42Zg: the law's draws of deeds. -/
namespace K42
open PySem L2
open PyProof.Rows (envOfC)
open C8 (Cal Met Mak Def cal0 met0 mak0 pe_c pe_mk pe_mt pe_mt0 fnScope_by fnScope fnBody fnArgs pe_gc)
section
variable {P : Program} {w : World} {K : PySem.W.Frag} {mg : PySem.Str → Option Value} {base : Heap}
def spOne : Sp := fun vs H Q _ => ∃ (p l : Addr) (xs : List V), vs = [.ref p, .ref l] ∧ PoolAt H p ∧ H l = some (.lst xs) ∧ l ≠ p ∧ 1 ≤ xs.length ∧ xs.length ≤ 100 ∧ ∀ x ∈ xs, ∀ H', But p H H' → PoolAt H' p → Q x H'
theorem ok_one (T : Tx K w mg) (D : DB K mg "_law_one" sLawOne pLawOne) (cT : Cal P w K mg base 1 "_law_take" spTake []) : Cal P w K mg base 2 "_law_one" spOne [] := by
  refine D.cal scLawOne (fun vs H Q E h => ?_) (fun f cdv A outer s H vs Q E hr h => ?_)
  · obtain ⟨p, l, xs, rfl, _⟩ := h
    rfl
  · obtain ⟨p, l, xs, rfl, hp, hl, ne, l1, l2, k⟩ := h
    refine ⟨_, pss_one (ps_ret (pe_ix ix_list (pv 1) (pe_c cT hr (by decide) (by rfl) (pa_cons (pv 0) (pa_cons (pe_callB call_len_seq (by rfl) T.len PySem.boot_len (pa_cons (pv 1) pa_nil)) pa_nil))) (fun _ _ => rfl))), ?_⟩
    refine ⟨_, rfl, _, rfl, _, rfl, l, xs, rfl, .inl (SqL.of hl), p, xs.length, rfl, hp, l1, by omega, fun r H' hr b hp' => ?_⟩
    refine ⟨l, xs, _, xs[r], rfl, rfl, SqL.of (b _ _ hl ne), ?_, k _ (List.getElem_mem hr) H' b hp'⟩
    have e : ((r : Nat) : Int) = ((r : Nat) : Int) := rfl
    unfold atI ixN
    rw [if_pos (Int.natCast_nonneg r), if_pos (Int.ofNat_lt.mpr hr)]
    show xs[((r : Nat) : Int).toNat]? = _
    rw [Int.toNat_natCast]
    exact List.getElem?_eq_getElem hr
def spStr (S : List PySem.Str) : Sp := fun vs H Q _ => ∃ p : Addr, vs = [.ref p] ∧ PoolAt H p ∧ ∀ t ∈ S, ∀ H', But p H H' → PoolAt H' p → Q (.str t) H'
theorem ok_text (D : DB K mg "_law_text" sLawText pLawText) (cO : Cal P w K mg base 2 "_law_one" spOne []) : Cal P w K mg base 3 "_law_text" (spStr TEXTS) [] := by
  refine D.cal scLawText (fun vs H Q E h => ?_) (fun f cdv A outer s H vs Q E hr h => ?_)
  · obtain ⟨p, rfl, _⟩ := h
    rfl
  · obtain ⟨p, rfl, hp, k⟩ := h
    refine ⟨_, pss_one (ps_ret (pe_c cO hr (by decide) (by rfl) (pa_cons (pv 0) (pa_cons (pe_lst (pa_cons pe_str (pa_cons pe_str (pa_cons pe_str (pa_cons pe_str pa_nil))))) pa_nil)))), ?_⟩
    refine ⟨_, rfl, le4, fun l hl => ?_⟩
    have w1 := same_upd (o := .lst (TEXTS.map V.str)) hl
    obtain ⟨a, b, hp1, hb⟩ := id hp
    refine ⟨p, l, TEXTS.map V.str, rfl, hp.same w1, upd_same, Ne.symm (ne_of_none hp1 hl), by decide, by decide, fun x hx H' b' hp' => ?_⟩
    obtain ⟨t, ht, rfl⟩ := List.mem_map.mp hx
    exact k t ht H' ((But.of w1).trans b') hp'
def LPATHS : List PySem.Str := ["/a", "/a", "/b", "/a/c", "/a/d", "/a/q-000000", "/b/e"]
theorem lpaths : ∀ p ∈ LPATHS, p ∈ PATHS := by decide +kernel
theorem ok_path (D : DB K mg "_law_path" sLawPath pLawPath) (cO : Cal P w K mg base 2 "_law_one" spOne []) : Cal P w K mg base 3 "_law_path" (spStr PATHS) [] := by
  refine D.cal scLawPath (fun vs H Q E h => ?_) (fun f cdv A outer s H vs Q E hr h => ?_)
  · obtain ⟨p, rfl, _⟩ := h
    rfl
  · obtain ⟨p, rfl, hp, k⟩ := h
    refine ⟨_, pss_one (ps_ret (pe_c cO hr (by decide) (by rfl) (pa_cons (pv 0) (pa_cons (pe_lst (pa_cons pe_str (pa_cons pe_str (pa_cons pe_str (pa_cons pe_str (pa_cons pe_str (pa_cons pe_str (pa_cons pe_str pa_nil)))))))) pa_nil)))), ?_⟩
    refine ⟨_, rfl, (by show 7 ≤ sizeLine; decide), fun l hl => ?_⟩
    have w1 := same_upd (o := .lst (LPATHS.map V.str)) hl
    obtain ⟨a, b, hp1, hb⟩ := id hp
    refine ⟨p, l, LPATHS.map V.str, rfl, hp.same w1, upd_same, Ne.symm (ne_of_none hp1 hl), by decide, by decide, fun x hx H' b' hp' => ?_⟩
    obtain ⟨t, ht, rfl⟩ := List.mem_map.mp hx
    exact k t (lpaths t ht) H' ((But.of w1).trans b') hp'
def spCount : Sp := fun vs H Q _ => ∃ p : Addr, vs = [.ref p] ∧ PoolAt H p ∧ ∀ v, CountV v → ∀ H', But p H H' → PoolAt H' p → Q v H'
theorem ok_count (D : DB K mg "_law_count" sLawCount pLawCount) (cO : Cal P w K mg base 2 "_law_one" spOne []) : Cal P w K mg base 3 "_law_count" spCount [] := by
  refine D.cal scLawCount (fun vs H Q E h => ?_) (fun f cdv A outer s H vs Q E hr h => ?_)
  · obtain ⟨p, rfl, _⟩ := h
    rfl
  · obtain ⟨p, rfl, hp, k⟩ := h
    refine ⟨_, pss_one (ps_ret (pe_c cO hr (by decide) (by rfl) (pa_cons (pv 0) (pa_cons (pe_lst (pa_cons pe_non (pa_cons pe_non (pa_cons pe_int (pa_cons pe_int pa_nil))))) pa_nil)))), ?_⟩
    refine ⟨_, rfl, le4, fun l hl => ?_⟩
    have w1 := same_upd (o := .lst [.non, .non, .int 0, .int 1]) hl
    obtain ⟨a, b, hp1, hb⟩ := id hp
    refine ⟨p, l, [.non, .non, .int 0, .int 1], rfl, hp.same w1, upd_same, Ne.symm (ne_of_none hp1 hl), by decide, by decide, fun x hx H' b' hp' => k x ?_ H' ((But.of w1).trans b') hp'⟩
    simp only [List.mem_cons, List.not_mem_nil, or_false] at hx
    rcases hx with rfl | rfl | rfl | rfl
    · exact .inl rfl
    · exact .inl rfl
    · exact .inr ⟨0, rfl, by decide⟩
    · exact .inr ⟨1, rfl, by decide⟩
def spPlain : Sp := fun vs H Q _ => ∃ p : Addr, vs = [.ref p] ∧ PoolAt H p ∧ ∀ v H', But p H H' → PoolAt H' p → PlainV H' v → Q v H'
theorem ok_plain (D : DB K mg "_law_plain" sLawPlain pLawPlain) (cT : Cal P w K mg base 1 "_law_take" spTake []) (cO : Cal P w K mg base 2 "_law_one" spOne []) (cX : Cal P w K mg base 3 "_law_text" (spStr TEXTS) []) (cP : Cal P w K mg base 3 "_law_path" (spStr PATHS) [])
    (cC : Cal P w K mg base 3 "_law_count" spCount []) : Cal P w K mg base 4 "_law_plain" spPlain [] := by
  refine D.cal scLawPlain (fun vs H Q E h => ?_) (fun f cdv A outer s H vs Q E hr h => ?_)
  · obtain ⟨p, rfl, _⟩ := h
    rfl
  · obtain ⟨p, rfl, hp, k⟩ := h
    refine ⟨_, pss_cons (ps_set (i := 1) scLawPlain.nd rfl (Or.inl rfl) (pe_c cT hr (by decide) (by rfl) (pa_cons (pv 0) (pa_cons pe_int pa_nil))))
      (pss_cons (ps_if (pt_cmpR op_lt (pv 1) pe_int (nomark _)) (pss_cons (ps_set (i := 2) scLawPlain.nd rfl (Or.inl rfl) (pe_c cO hr (by decide) (by rfl) (pa_cons (pv 0) (pa_cons (pe_lst (pa_cons pe_str (pa_cons pe_str (pa_cons pe_str (pa_cons pe_str (pa_cons pe_str (pa_cons pe_str pa_nil))))))) pa_nil))))
          (pss_one (ps_ret (pe_tup (pa_cons pe_str (pa_cons (pv 2) (pa_cons (pe_c cX hr (by decide) (by rfl) (pa_cons (pv 0) pa_nil)) (pa_cons (pe_cmpR op_eq (pe_c cT hr (by decide) (by rfl) (pa_cons (pv 0) (pa_cons pe_int pa_nil))) pe_int (nomark _))
            (pa_cons (pe_cmpR op_eq (pe_c cT hr (by decide) (by rfl) (pa_cons (pv 0) (pa_cons pe_int pa_nil))) pe_int (nomark _)) pa_nil))))))))) pss_nil)
      (pss_cons (ps_if (pt_cmpR op_lt (pv 1) pe_int (nomark _)) (pss_one (ps_ret (pe_tup (pa_cons pe_str (pa_cons (pe_c cP hr (by decide) (by rfl) (pa_cons (pv 0) pa_nil)) (pa_cons (pe_c cX hr (by decide) (by rfl) (pa_cons (pv 0) pa_nil)) (pa_cons (pe_c cC hr (by decide) (by rfl) (pa_cons (pv 0) pa_nil)) pa_nil))))))) pss_nil)
      (pss_cons (ps_if (pt_cmpR op_lt (pv 1) pe_int (nomark _)) (pss_one (ps_ret (pe_tup (pa_cons pe_str (pa_cons (pe_c cP hr (by decide) (by rfl) (pa_cons (pv 0) pa_nil)) (pa_cons (pe_c cC hr (by decide) (by rfl) (pa_cons (pv 0) pa_nil)) pa_nil)))))) pss_nil)
      (pss_one (ps_ret (pe_tup (pa_cons pe_str (pa_cons (pe_c cP hr (by decide) (by rfl) (pa_cons (pv 0) pa_nil)) (pa_cons (pe_c cC hr (by decide) (by rfl) (pa_cons (pv 0) pa_nil)) pa_nil))))))))), ?_⟩
    have fin : ∀ (H5 : Hp) (xs : List V), But p H H5 → PoolAt H5 p → PlainL xs → ∀ t, H5 t = none → Q (.ref t) (upd H5 t (.tup xs)) := fun H5 xs b5 hp5 hx t ht =>
      k _ _ (b5.trans (.of (same_upd ht))) (hp5.same (same_upd ht)) ⟨t, xs, rfl, upd_same, hx⟩
    refine ⟨_, rfl, p, 10, rfl, hp, by decide, by decide, fun r H1 _ b1 hp1 => ?_⟩
    refine ⟨_, rfl, _, _, rfl, rfl, _, rfl, ?_⟩
    refine ite2 (fun _ => ?_) (fun _ => ?_)
    · refine ⟨_, rfl, le6, fun l hl => ?_⟩
      have w1 := same_upd (o := .lst (MPATHS.map V.str)) hl
      obtain ⟨a, b, hpp, _⟩ := id hp1
      refine ⟨p, l, MPATHS.map V.str, rfl, hp1.same w1, upd_same, Ne.symm (ne_of_none hpp hl), by decide, by decide, fun x hx H2 b2 hp2 => ?_⟩
      obtain ⟨z, hz, rfl⟩ := List.mem_map.mp hx
      refine ⟨_, rfl, _, rfl, p, rfl, hp2, fun t ht H3 b3 hp3 => ?_⟩
      refine ⟨_, rfl, p, 3, rfl, hp3, by decide, by decide, fun r3 H4 _ b4 hp4 => ⟨rfl, ?_⟩⟩
      refine ⟨_, rfl, p, 4, rfl, hp4, by decide, by decide, fun r5 H5 _ b5 hp5 => ⟨rfl, le5, fun q hq => ?_⟩⟩
      exact fin H5 _ (b1.trans (((((But.of w1).trans b2).trans b3).trans b4).trans b5)) hp5 (.make hz ht) q hq
    · refine ⟨_, rfl, _, _, rfl, rfl, _, rfl, ?_⟩
      refine ite2 (fun _ => ?_) (fun _ => ?_)
      · refine ⟨_, rfl, p, rfl, hp1, fun z hz H2 b2 hp2 => ⟨_, rfl, p, rfl, hp2, fun t ht H3 b3 hp3 => ⟨_, rfl, p, rfl, hp3, fun c hc H4 b4 hp4 => ⟨le4, fun q hq => ?_⟩⟩⟩⟩
        exact fin H4 _ (((b1.trans b2).trans b3).trans b4) hp4 (.put hz ht hc) q hq
      · refine ⟨_, rfl, _, _, rfl, rfl, _, rfl, ?_⟩
        refine ite2 (fun _ => ?_) (fun _ => ?_)
        · refine ⟨_, rfl, p, rfl, hp1, fun z hz H2 b2 hp2 => ⟨_, rfl, p, rfl, hp2, fun c hc H4 b4 hp4 => ⟨le3, fun q hq => ?_⟩⟩⟩
          exact fin H4 _ ((b1.trans b2).trans b4) hp4 (.drop hz hc) q hq
        · refine ⟨_, rfl, p, rfl, hp1, fun z hz H2 b2 hp2 => ⟨_, rfl, p, rfl, hp2, fun c hc H4 b4 hp4 => ⟨le3, fun q hq => ?_⟩⟩⟩
          exact fin H4 _ ((b1.trans b2).trans b4) hp4 (.see hz hc) q hq
end
end K42

/-! K42Zh: the law's draws: deeds, reads. -/
namespace K42
open PySem L2
open PyProof.Rows (envOfC)
open C8 (Cal Met Mak Def cal0 met0 mak0 pe_c pe_mk pe_mt pe_mt0 fnScope_by fnScope fnBody fnArgs pe_gc)
theorem PoolAt.tup {H H' : Hp} {p a : Addr} {xs : List V} (hp : PoolAt H p) (b : But p H H') (h : H a = some (.tup xs)) : H' a = some (.tup xs) := by
  obtain ⟨x, y, h1, _⟩ := hp
  exact b _ _ h (ne_of h h1 (by intro z; cases z))
theorem PlainV.butp {H H' : Hp} {p : Addr} {v : V} (h : PlainV H v) (hp : PoolAt H p) (b : But p H H') : PlainV H' v := by
  obtain ⟨t, xs, e, ht, q⟩ := h
  exact ⟨t, xs, e, hp.tup b ht, q⟩
theorem DeedV.butp {H H' : Hp} {p : Addr} {v : V} (h : DeedV H v) (hp : PoolAt H p) (b : But p H H') : DeedV H' v := by
  obtain ⟨t, xs, e, ht, q⟩ := h
  refine ⟨t, xs, e, hp.tup b ht, ?_⟩
  cases q with
  | plain a => exact .plain a
  | opn a c => exact .opn a c
  | close => exact .close
  | bring => exact .bring
  | all a c d f => exact .all (hp.tup b a) c d fun x hx => (f x hx).butp hp b
section
variable {P : Program} {w : World} {K : PySem.W.Frag} {mg : PySem.Str → Option Value} {base : Heap}
def spDeed : Sp := fun vs H Q _ => ∃ p : Addr, vs = [.ref p] ∧ PoolAt H p ∧ ∀ v H', But p H H' → PoolAt H' p → DeedV H' v → Q v H'
theorem ok_deed (T : Tx K w mg) (D : DB K mg "_law_deed" sLawDeed pLawDeed) (cT : Cal P w K mg base 1 "_law_take" spTake []) (cO : Cal P w K mg base 2 "_law_one" spOne []) (cP : Cal P w K mg base 4 "_law_plain" spPlain []) : Cal P w K mg base 5 "_law_deed" spDeed [] := by
  refine D.cal scLawDeed (fun vs H Q E h => ?_) (fun f cdv A outer s H vs Q E hr h => ?_)
  · obtain ⟨p, rfl, _⟩ := h
    rfl
  · obtain ⟨p, rfl, hp, k⟩ := h
    refine ⟨_, pss_cons (ps_set (i := 1) scLawDeed.nd rfl (Or.inl rfl) (pe_c cT hr (by decide) (by rfl) (pa_cons (pv 0) (pa_cons pe_int pa_nil))))
      (pss_cons (ps_if (pt_cmpR op_eq (pv 1) pe_int (nomark _)) (pss_one (ps_ret (pe_tup (pa_cons pe_str (pa_cons (pe_callTy call_tuple_of (by rfl) T.tuple (by decide +kernel) (pa_cons
          (pe_lc (own := [("_law_turn", 2)]) (g := gName 2) (tt := tYes) rfl scLawDeed.nd (pi_range1 (by rfl) T.range (pa_cons (pe_op op_add pe_int (pe_c cT hr (by decide) (by rfl) (pa_cons (pv 0) (pa_cons pe_int pa_nil)))) pa_nil)) (blkOk_by (N := nLawDeed) (sc := fnScope sLawDeed) (by decide +kernel)) (fun _ _ _ _ _ => pg_name (i := 2) scLawDeed.nd rfl (Or.inl rfl)) (fun _ _ _ _ _ => pts_nil)
            (fun _ _ _ _ _ => pe_c cP hr (by decide) (by rfl) (pa_cons (pv 0) pa_nil))) pa_nil)) pa_nil))))) pss_nil)
      (pss_cons (ps_if (pt_cmpR op_eq (pv 1) pe_int (nomark _)) (pss_one (ps_ret (pe_c cO hr (by decide) (by rfl) (pa_cons (pv 0) (pa_cons (pe_lst (pa_cons (pe_tup (pa_cons pe_str (pa_cons (pe_op op_add pe_int (pe_c cT hr (by decide) (by rfl) (pa_cons (pv 0) (pa_cons pe_int pa_nil)))) pa_nil)))
          (pa_cons (pe_tup (pa_cons pe_str pa_nil)) (pa_cons (pe_tup (pa_cons pe_str pa_nil)) pa_nil)))) pa_nil))))) pss_nil)
      (pss_one (ps_ret (pe_c cP hr (by decide) (by rfl) (pa_cons (pv 0) pa_nil)))))), ?_⟩
    refine ⟨_, rfl, p, 10, rfl, hp, by decide, by decide, fun r H1 _ b1 hp1 => ?_⟩
    refine ⟨_, rfl, rfl, _, rfl, ?_⟩
    refine ite2 (fun _ => ?_) (fun _ => ?_)
    · refine ⟨_, rfl, p, 3, rfl, hp1, by decide, by decide, fun n H2 hn b2 hp2 => ?_⟩
      refine ⟨_, _, rfl, rfl, _, rfl, by omega, by omega, fun D hD => ?_⟩
      have en : ((1 + (n : Int))).toNat = n + 1 := by omega
      have w1 := same_upd (o := .lst []) hD
      obtain ⟨pa, pb, hpp, _⟩ := id hp2
      have nD : D ≠ p := Ne.symm (ne_of_none hpp hD)
      refine lc_it walk_range (fun i H3 => But p H2 H3 ∧ PoolAt H3 p ∧ ∃ ds : List V, H3 D = some (.lst ds) ∧ ds.length = i ∧ ∀ d ∈ ds, PlainV H3 d) ⟨.of w1, hp2.same w1, [], upd_same, rfl, by simp⟩ (fun i H3 _ h => True.intro) (fun i x H3 H4 hi hv y => ?_) fun H3 hv => ?_
      · obtain ⟨b3, hp3, ds, hds, hdl, hdp⟩ := hv
        obtain ⟨rfl, rfl⟩ := y
        refine ⟨rfl, _, rfl, p, rfl, hp3, fun v H5 b5 hp5 hv => ?_⟩
        have hds5 := b5 _ _ hds nD
        refine ⟨ds, hds5, small1000 (by omega), ?_⟩
        have bD : But D H5 (upd H5 D (.lst (ds ++ [v]))) := .put
        obtain ⟨qa, qb, hq, hqb⟩ := id hp5
        have nP : p ≠ D := Ne.symm nD
        refine ⟨fun c o z n => ?_, ⟨qa, qb, bD _ _ hq nP, hqb⟩, _, upd_same, by rw [List.length_append, List.length_singleton, hdl], fun d hd => ?_⟩
        · have ncD : c ≠ D := fun e => by
            rw [e, hD] at z
            cases z
          exact bD _ _ (b5 _ _ (b3 _ _ z n) n) ncD
        · have keep : PlainV H5 d := by
            rcases List.mem_append.mp hd with m | m
            · exact (hdp d m).butp hp3 b5
            · simp only [List.mem_cons, List.not_mem_nil, or_false] at m
              subst m
              exact hv
          obtain ⟨t, xs, e, ht, q⟩ := keep
          exact ⟨t, xs, e, bD _ _ ht (ne_of ht hds5 (by intro z; cases z)), q⟩
      · obtain ⟨b3, hp3, ds, hds, hdl, hdp⟩ := hv
        refine ⟨D, ds, rfl, .inl ⟨SqL.of hds, fun q hq => ⟨le2, fun t ht => ?_⟩⟩⟩
        have u1 := same_upd (o := .tup ds) hq
        have u2 := same_upd (o := .tup [.str "all", .ref q]) ht
        exact k _ _ ((b1.trans (b2.trans b3)).trans (.of (u1.trans u2))) (hp3.same (u1.trans u2)) ⟨t, _, rfl, upd_same, .all (u2 _ _ upd_same) (by omega) (by omega) fun d hd => (hdp d hd).same (u1.trans u2)⟩
    · refine ⟨_, rfl, rfl, _, rfl, ?_⟩
      refine ite2 (fun _ => ?_) (fun _ => ?_)
      · refine ⟨_, rfl, _, rfl, p, 30, rfl, hp1, by decide, by decide, fun n H2 hn b2 hp2 => ⟨_, _, rfl, rfl, le2, fun t1 h1 => ⟨(by show 1 ≤ sizeLine; decide), fun t2 h2 => ⟨(by show 1 ≤ sizeLine; decide), fun t3 h3 => ⟨le3, fun l h4 => ?_⟩⟩⟩⟩⟩
        have u1 := same_upd (o := .tup [.str "open", .int (1 + (n : Nat))]) h1
        have u2 := same_upd (o := .tup [.str "close"]) h2
        have u3 := same_upd (o := .tup [.str "bring"]) h3
        have u4 := same_upd (o := .lst [.ref t1, .ref t2, .ref t3]) h4
        have u := ((u1.trans u2).trans u3).trans u4
        obtain ⟨pa, pb, hpp, _⟩ := id hp2
        have nl : l ≠ p := Ne.symm (ne_of_none (((u1.trans u2).trans u3) _ _ hpp) h4)
        have g1 : DeedV _ (.ref t1) := ⟨t1, _, rfl, u4 _ _ (u3 _ _ (u2 _ _ upd_same)), DeedL.opn (H := upd (upd (upd (upd H2 t1 (.tup [.str "open", .int (1 + (n : Nat))])) t2 (.tup [.str "close"])) t3 (.tup [.str "bring"])) l (.lst [.ref t1, .ref t2, .ref t3])) (n := 1 + (n : Nat)) (by omega) (by omega)⟩
        have g2 : DeedV _ (.ref t2) := ⟨t2, _, rfl, u4 _ _ (u3 _ _ upd_same), DeedL.close (H := upd (upd (upd (upd H2 t1 (.tup [.str "open", .int (1 + (n : Nat))])) t2 (.tup [.str "close"])) t3 (.tup [.str "bring"])) l (.lst [.ref t1, .ref t2, .ref t3]))⟩
        have g3 : DeedV _ (.ref t3) := ⟨t3, _, rfl, u4 _ _ upd_same, DeedL.bring (H := upd (upd (upd (upd H2 t1 (.tup [.str "open", .int (1 + (n : Nat))])) t2 (.tup [.str "close"])) t3 (.tup [.str "bring"])) l (.lst [.ref t1, .ref t2, .ref t3]))⟩
        have hp4 := hp2.same u
        refine ⟨p, l, [.ref t1, .ref t2, .ref t3], rfl, hp4, upd_same, nl, (by show 1 ≤ 3; decide), (by show 3 ≤ 100; decide), fun x hx H' b' hp' => ?_⟩
        refine k x H' ((b1.trans (b2.trans (.of u))).trans b') hp' ?_
        simp only [List.mem_cons, List.not_mem_nil, or_false] at hx
        rcases hx with rfl | rfl | rfl
        · exact g1.butp hp4 b'
        · exact g2.butp hp4 b'
        · exact g3.butp hp4 b'
      · exact ⟨_, rfl, p, rfl, hp1, fun v H' b' hp' hv => k v H' (b1.trans b') hp' (by obtain ⟨t, xs, e, ht, q⟩ := hv; exact ⟨t, xs, e, ht, .plain q⟩)⟩
end
end K42

/-! K42Zi: the law's draws: reads, the row. -/
namespace K42
open PySem L2
open PyProof.Rows (envOfC)
open C8 (Cal Met Mak Def cal0 met0 mak0 pe_c pe_mk pe_mt pe_mt0 fnScope_by fnScope fnBody fnArgs pe_gc)
def RPATHS : List PySem.Str := ["/", "/a", "/a", "/b", "/a/c", "/a/d", "/a/q-000000"]
theorem rpaths : ∀ p ∈ RPATHS, (PyData.str p).canLay0 = true := by decide +kernel
section
variable {P : Program} {w : World} {K : PySem.W.Frag} {mg : PySem.Str → Option Value} {base : Heap}
def spRead : Sp := fun vs H Q _ => ∃ (p : Addr) (a : PySem.Str), vs = [.ref p, .str a] ∧ PoolAt H p ∧ ∀ (k : PySem.Str) (z : PySem.Str) (b : Bool) (t : Addr) (H' : Hp), k ∈ KINDS → z ∈ RPATHS → But p H H' → PoolAt H' p → H' t = some (.tup [.str "read", .str a, .str k, .str z, .bl b]) → Q (.ref t) H'
theorem ok_read (D : DB K mg "_law_read" sLawRead pLawRead) (cT : Cal P w K mg base 1 "_law_take" spTake []) (cO : Cal P w K mg base 2 "_law_one" spOne []) : Cal P w K mg base 3 "_law_read" spRead [] := by
  refine D.cal scLawRead (fun vs H Q E h => ?_) (fun f cdv A outer s H vs Q E hr h => ?_)
  · obtain ⟨p, a, rfl, _⟩ := h
    rfl
  · obtain ⟨p, a, rfl, hp, k⟩ := h
    refine ⟨_, pss_cons (ps_set (i := 2) scLawRead.nd rfl (Or.inl rfl) (pe_c cO hr (by decide) (by rfl) (pa_cons (pv 0) (pa_cons (pe_lst (pa_cons pe_str (pa_cons pe_str (pa_cons pe_str pa_nil)))) pa_nil))))
      (pss_cons (ps_set (i := 3) scLawRead.nd rfl (Or.inl rfl) (pe_c cO hr (by decide) (by rfl) (pa_cons (pv 0) (pa_cons (pe_lst (pa_cons pe_str (pa_cons pe_str (pa_cons pe_str (pa_cons pe_str (pa_cons pe_str (pa_cons pe_str (pa_cons pe_str pa_nil)))))))) pa_nil))))
      (pss_one (ps_ret (pe_tup (pa_cons pe_str (pa_cons (pv 1) (pa_cons (pv 2) (pa_cons (pv 3) (pa_cons (pe_cmpR op_eq (pe_c cT hr (by decide) (by rfl) (pa_cons (pv 0) (pa_cons pe_int pa_nil))) pe_int (nomark _)) pa_nil))))))))), ?_⟩
    refine ⟨_, rfl, le3, fun l hl => ?_⟩
    have w1 := same_upd (o := .lst (KINDS.map V.str)) hl
    obtain ⟨x, y, hpp, _⟩ := id hp
    refine ⟨p, l, KINDS.map V.str, rfl, hp.same w1, upd_same, Ne.symm (ne_of_none hpp hl), by decide, by decide, fun x hx H1 b1 hp1 => ?_⟩
    obtain ⟨kk, hkk, rfl⟩ := List.mem_map.mp hx
    refine ⟨_, rfl, (by show 7 ≤ sizeLine; decide), fun l2 hl2 => ?_⟩
    have w2 := same_upd (o := .lst (RPATHS.map V.str)) hl2
    obtain ⟨x2, y2, hpp2, _⟩ := id hp1
    refine ⟨p, l2, RPATHS.map V.str, rfl, hp1.same w2, upd_same, Ne.symm (ne_of_none hpp2 hl2), by decide, by decide, fun x hx2 H2 b2 hp2 => ?_⟩
    obtain ⟨z, hz, rfl⟩ := List.mem_map.mp hx2
    refine ⟨_, rfl, _, rfl, _, rfl, _, rfl, p, 2, rfl, hp2, by decide, by decide, fun r H3 _ b3 hp3 => ⟨rfl, le5, fun t ht => ?_⟩⟩
    have w3 := same_upd (o := .tup [.str "read", .str a, .str kk, .str z, .bl (decide (V.int (r : Nat) = V.int 0))]) ht
    exact k kk z _ t _ hkk hz (((((But.of w1).trans b1).trans (.of w2)).trans b2).trans (b3.trans (.of w3))) (hp3.same w3) upd_same
/-- tuples stand -/
def TupS (H H' : Hp) : Prop := ∀ c xs, H c = some (.tup xs) → H' c = some (.tup xs)
theorem TupS.of {H H' : Hp} (s : Same H H') : TupS H H' := fun c _ h => s c _ h
theorem TupS.trans {H H' H'' : Hp} (s : TupS H H') (t : TupS H' H'') : TupS H H'' := fun c xs h => t c xs (s c xs h)
theorem TupS.but {H H' : Hp} {p : Addr} (b : But p H H') (h : ∀ xs, H p ≠ some (.tup xs)) : TupS H H' := fun c xs z => b c _ z fun e => h xs (e ▸ z)
theorem PlainV.tups {H H' : Hp} {v : V} (h : PlainV H v) (s : TupS H H') : PlainV H' v := by
  obtain ⟨t, xs, e, ht, q⟩ := h
  exact ⟨t, xs, e, s _ _ ht, q⟩
theorem DeedV.tups {H H' : Hp} {v : V} (h : DeedV H v) (s : TupS H H') : DeedV H' v := by
  obtain ⟨t, xs, e, ht, q⟩ := h
  refine ⟨t, xs, e, s _ _ ht, ?_⟩
  cases q with
  | plain a => exact .plain a
  | opn a c => exact .opn a c
  | close => exact .close
  | bring => exact .bring
  | all a c d f => exact .all (s _ _ a) c d fun x hx => (f x hx).tups s
theorem EntryV.tups {H H' : Hp} {v : V} (h : EntryV H v) (s : TupS H H') : EntryV H' v := by
  obtain ⟨t, xs, e, ht, q⟩ := h
  refine ⟨t, xs, e, s _ _ ht, ?_⟩
  cases q with
  | ask a b c => exact .ask a b (c.tups s)
  | fin a => exact .fin a
theorem RowIt.tups {H H' : Hp} {a : Addr} {p : Plc} (h : RowIt H a p) (s : TupS H H') : RowIt H' a p := by
  obtain ⟨pa, en, h1, h2, h3⟩ := h
  exact ⟨pa, en, s _ _ h1, s _ _ h2, h3.tups s⟩
def StampsOk (kvs : List (Key × V)) : Prop := kvs.length ≤ 2 ∧ ∀ a ∈ ASKERS, ∃ v : Int, valV kvs (.inr a) = some (.int v) ∧ 1 ≤ v
theorem StampsOk.put {kvs : List (Key × V)} (h : StampsOk kvs) {a : PySem.Str} (ha : a ∈ ASKERS) {v : Int} (hv : 1 ≤ v) : StampsOk (putK kvs (.inr a) (.int v)) := by
  obtain ⟨u, hu, _⟩ := h.2 a ha
  refine ⟨by rw [putK_old hu]; exact h.1, fun b hb => ?_⟩
  rw [valV_put]
  by_cases e : (Sum.inr b : Key) = Sum.inr a
  · exact ⟨v, by rw [if_pos e], hv⟩
  · rw [if_neg e]
    exact h.2 b hb
/-- places so far, the last at (e, n) -/
def Upto (ps : List Plc) (e n : Int) : Prop := ps.Pairwise (fun a b => ltP a b = true) ∧ ∀ q ∈ ps, q.1 < e ∨ (q.1 = e ∧ q.2 ≤ n)
theorem Upto.add {ps : List Plc} {e n e' n' : Int} (h : Upto ps e n) (g : e < e' ∨ (e = e' ∧ n < n')) : Upto (ps ++ [(e', n')]) e' n' := by
  refine ⟨List.pairwise_append.mpr ⟨h.1, List.pairwise_singleton _ _, fun a ha b hb => ?_⟩, fun q hq => ?_⟩
  · simp only [List.mem_cons, List.not_mem_nil, or_false] at hb
    subst hb
    rw [ltP_iff]
    have := h.2 a ha
    show a.1 < e' ∨ (a.1 = e' ∧ a.2 < n')
    omega
  · rcases List.mem_append.mp hq with m | m
    · have := h.2 q m
      omega
    · simp only [List.mem_cons, List.not_mem_nil, or_false] at m
      subst m
      exact .inr ⟨rfl, Int.le_refl _⟩
theorem stamps0 : StampsOk (mergeK [] [(Sum.inr "x", V.int 1), (Sum.inr "y", V.int 1)]) := by
  refine ⟨by decide +kernel, fun a ha => ⟨1, ?_, by decide⟩⟩
  simp only [ASKERS, List.mem_cons, List.not_mem_nil, or_false] at ha
  rcases ha with rfl | rfl <;> decide +kernel
def spRow : Sp := fun vs H Q _ => ∃ p : Addr, vs = [.ref p] ∧ PoolAt H p ∧ ∀ (l : Addr) (ps : List Plc) H', But p H H' → PoolAt H' p → RowAt H' l ps → ps.length ≤ 30 → ps.Pairwise (fun a b => ltP a b = true) → Q (.ref l) H'
theorem ok_row (T : Tx K w mg) (D : DB K mg "_law_row" sLawRow pLawRow) (cT : Cal P w K mg base 1 "_law_take" spTake []) (cO : Cal P w K mg base 2 "_law_one" spOne []) (cD : Cal P w K mg base 5 "_law_deed" spDeed []) : Cal P w K mg base 6 "_law_row" spRow [] := by
  refine D.cal scLawRow (fun vs H Q E h => ?_) (fun f cdv A outer s H vs Q E hr h => ?_)
  · obtain ⟨p, rfl, _⟩ := h
    rfl
  · obtain ⟨p, rfl, hp, k⟩ := h
    have hu := hu_of hr
    refine ⟨_, pss_cons (ps_set (i := 1) scLawRow.nd rfl (Or.inl rfl) (pe_lst (pa_cons (pe_tup (pa_cons (pe_tup (pa_cons pe_int (pa_cons pe_int pa_nil))) (pa_cons (pe_tup (pa_cons pe_str (pa_cons pe_str (pa_cons pe_int (pa_cons (pe_tup (pa_cons pe_str (pa_cons pe_int pa_nil))) pa_nil))))) pa_nil)))
        (pa_cons (pe_tup (pa_cons (pe_tup (pa_cons pe_int (pa_cons pe_int pa_nil))) (pa_cons (pe_tup (pa_cons pe_str (pa_cons pe_str (pa_cons pe_int (pa_cons (pe_tup (pa_cons pe_str (pa_cons pe_int pa_nil))) pa_nil))))) pa_nil))) pa_nil))))
      (pss_cons (ps_set (i := 2) scLawRow.nd rfl (Or.inl rfl) (pe_disp (pps_cons pe_str pe_int (pps_cons pe_str pe_int pps_nil)) (by rfl) (by rfl) (fun z => by cases z) (by decide)))
      (C8.pss_cut (ps_asg (pe_tup (pa_cons pe_int (pa_cons pe_int pa_nil))) (pg_tup rfl (pgs_cons (pg_name (i := 3) scLawRow.nd rfl (Or.inl rfl)) (pgs_cons (pg_name (i := 4) scLawRow.nd rfl (Or.inl rfl)) pgs_nil))))
      (pss_cons (ps_for PassesOwn.never rfl (pi_range1 (by rfl) T.range (pa_cons (pe_op op_add pe_int (pe_c cT hr (by decide) (by rfl) (pa_cons (pv 0) (pa_cons pe_int pa_nil)))) pa_nil)) (pg_name (i := 5) scLawRow.nd rfl (Or.inl rfl))
        (pss_cons (ps_set (i := 6) scLawRow.nd rfl (Or.inl rfl) (pe_c cO hr (by decide) (by rfl) (pa_cons (pv 0) (pa_cons (pe_lst (pa_cons pe_str (pa_cons pe_str pa_nil))) pa_nil))))
        (pss_cons (ps_dput hu (pv 2) (pv 6) (pe_op op_add (pe_dget hu (pv 2) (pv 6) (fun _ _ => rfl)) pe_int) rfl)
        (pss_cons (ps_set (i := 4) scLawRow.nd rfl (Or.inl rfl) (pe_op op_add (pv 4) pe_int))
        (C8.pss_cut (ps_if (pt_cmpR op_eq (pe_c cT hr (by decide) (by rfl) (pa_cons (pv 0) (pa_cons pe_int pa_nil))) pe_int (nomark _)) (pss_one (ps_par (by rfl) scLawRow.nd (i := 3) (j := 4) rfl rfl (by decide) rfl rfl (pa_cons (pe_op op_add (pv 3) pe_int) (pa_cons pe_int pa_nil)) (by rfl))) pss_nil)
        (pss_cons (ps_set (i := 7) scLawRow.nd rfl (Or.inl rfl) (pe_tup (pa_cons pe_str (pa_cons (pv 6) (pa_cons (pe_dget hu (pv 2) (pv 6) (fun _ _ => rfl)) (pa_cons (pe_c cD hr (by decide) (by rfl) (pa_cons (pv 0) pa_nil)) pa_nil))))))
        (C8.pss_cut (ps_if (pt_cmpR op_eq (pe_c cT hr (by decide) (by rfl) (pa_cons (pv 0) (pa_cons pe_int pa_nil))) pe_int (nomark _)) (pss_one (ps_set (i := 7) scLawRow.nd rfl (Or.inl rfl) (pe_tup (pa_cons pe_str (pa_cons (pv 6) pa_nil))))) pss_nil)
        (pss_one (ps_expr (pe_bm PySem.F.plainAttrs_list PySem.F.slot_list_append PySem.F.type_list_append mt_append (pv 1) (pa_cons (pe_tup (pa_cons (pe_tup (pa_cons (pv 3) (pa_cons (pv 4) pa_nil))) (pa_cons (pv 7) pa_nil))) pa_nil)))))))))))
      (pss_one (ps_ret (pv 1)))))), ?_⟩
    obtain ⟨pa0, pb0, hp0, _⟩ := id hp
    have askx : ("x" : PySem.Str) ∈ ASKERS := by decide +kernel
    have asky : ("y" : PySem.Str) ∈ ASKERS := by decide +kernel
    refine ⟨le2, fun a1 fa1 => ?_⟩
    have ua1 : Same H (upd H a1 (.tup [.int 1, .int 1])) := same_upd fa1
    have ka1 : (upd H a1 (.tup [.int 1, .int 1])) a1 = some (.tup [.int 1, .int 1]) := upd_same
    generalize (upd H a1 (.tup [.int 1, .int 1])) = Ga1 at ua1 ka1 ⊢
    refine ⟨le2, fun a2 fa2 => ?_⟩
    have ua2 : Same Ga1 (upd Ga1 a2 (.tup [.str "open", .int 9])) := same_upd fa2
    have ka2 : (upd Ga1 a2 (.tup [.str "open", .int 9])) a2 = some (.tup [.str "open", .int 9]) := upd_same
    generalize (upd Ga1 a2 (.tup [.str "open", .int 9])) = Ga2 at ua2 ka2 ⊢
    refine ⟨le4, fun a3 fa3 => ?_⟩
    have ua3 : Same Ga2 (upd Ga2 a3 (.tup [.str "ask", .str "x", .int 1, .ref a2])) := same_upd fa3
    have ka3 : (upd Ga2 a3 (.tup [.str "ask", .str "x", .int 1, .ref a2])) a3 = some (.tup [.str "ask", .str "x", .int 1, .ref a2]) := upd_same
    generalize (upd Ga2 a3 (.tup [.str "ask", .str "x", .int 1, .ref a2])) = Ga3 at ua3 ka3 ⊢
    refine ⟨le2, fun a4 fa4 => ?_⟩
    have ua4 : Same Ga3 (upd Ga3 a4 (.tup [.ref a1, .ref a3])) := same_upd fa4
    have ka4 : (upd Ga3 a4 (.tup [.ref a1, .ref a3])) a4 = some (.tup [.ref a1, .ref a3]) := upd_same
    generalize (upd Ga3 a4 (.tup [.ref a1, .ref a3])) = Ga4 at ua4 ka4 ⊢
    refine ⟨le2, fun b1 fb1 => ?_⟩
    have ub1 : Same Ga4 (upd Ga4 b1 (.tup [.int 1, .int 2])) := same_upd fb1
    have kb1 : (upd Ga4 b1 (.tup [.int 1, .int 2])) b1 = some (.tup [.int 1, .int 2]) := upd_same
    generalize (upd Ga4 b1 (.tup [.int 1, .int 2])) = Gb1 at ub1 kb1 ⊢
    refine ⟨le2, fun b2 fb2 => ?_⟩
    have ub2 : Same Gb1 (upd Gb1 b2 (.tup [.str "open", .int 9])) := same_upd fb2
    have kb2 : (upd Gb1 b2 (.tup [.str "open", .int 9])) b2 = some (.tup [.str "open", .int 9]) := upd_same
    generalize (upd Gb1 b2 (.tup [.str "open", .int 9])) = Gb2 at ub2 kb2 ⊢
    refine ⟨le4, fun b3 fb3 => ?_⟩
    have ub3 : Same Gb2 (upd Gb2 b3 (.tup [.str "ask", .str "y", .int 1, .ref b2])) := same_upd fb3
    have kb3 : (upd Gb2 b3 (.tup [.str "ask", .str "y", .int 1, .ref b2])) b3 = some (.tup [.str "ask", .str "y", .int 1, .ref b2]) := upd_same
    generalize (upd Gb2 b3 (.tup [.str "ask", .str "y", .int 1, .ref b2])) = Gb3 at ub3 kb3 ⊢
    refine ⟨le2, fun b4 fb4 => ?_⟩
    have ub4 : Same Gb3 (upd Gb3 b4 (.tup [.ref b1, .ref b3])) := same_upd fb4
    have kb4 : (upd Gb3 b4 (.tup [.ref b1, .ref b3])) b4 = some (.tup [.ref b1, .ref b3]) := upd_same
    generalize (upd Gb3 b4 (.tup [.ref b1, .ref b3])) = Gb4 at ub4 kb4 ⊢
    refine ⟨le2, fun rl frl => ?_⟩
    have url : Same Gb4 (upd Gb4 rl (.lst [.ref a4, .ref b4])) := same_upd frl
    have krl : (upd Gb4 rl (.lst [.ref a4, .ref b4])) rl = some (.lst [.ref a4, .ref b4]) := upd_same
    generalize (upd Gb4 rl (.lst [.ref a4, .ref b4])) = Grl at url krl ⊢
    have sAll : Same H Grl := (((((((ua1.trans ua2).trans ua3).trans ua4).trans ub1).trans ub2).trans ub3).trans ub4).trans url
    have frlH : H rl = none := ((((((((ua1.trans ua2).trans ua3).trans ua4).trans ub1).trans ub2).trans ub3).trans ub4).free frl)
    have hb4 := url _ _ kb4
    have hb3 := url _ _ (ub4 _ _ kb3)
    have hb2 := url _ _ (ub4 _ _ (ub3 _ _ kb2))
    have hb1 := url _ _ (ub4 _ _ (ub3 _ _ (ub2 _ _ kb1)))
    have sb := ((ub1.trans ub2).trans (ub3.trans ub4)).trans url
    have ha4 := sb _ _ ka4
    have ha3 := sb _ _ (ua4 _ _ ka3)
    have ha2 := sb _ _ (ua4 _ _ (ua3 _ _ ka2))
    have ha1 := sb _ _ (ua4 _ _ (ua3 _ _ (ua2 _ _ ka1)))
    have r1 : RowIt Grl a4 (1, 1) := ⟨a1, .ref a3, ha4, ha1, a3, _, rfl, ha3, .ask askx (by decide) ⟨a2, _, rfl, ha2, .opn (by decide) (by decide)⟩⟩
    have r2 : RowIt Grl b4 (1, 2) := ⟨b1, .ref b3, hb4, hb1, b3, _, rfl, hb3, .ask asky (by decide) ⟨b2, _, rfl, hb2, .opn (by decide) (by decide)⟩⟩
    clear hb4 hb3 hb2 hb1 sb ha4 ha3 ha2 ha1
    refine fun sd fsd => ⟨upd_same, [(Sum.inr "x", .int 1), (Sum.inr "y", .int 1)], rfl, by decide, ?_⟩
    have hsd0 : (upd (upd Grl sd (.dK [])) sd (.dK (mergeK [] [(Sum.inr "x", V.int 1), (Sum.inr "y", V.int 1)]))) sd = some (.dK (mergeK [] [(Sum.inr "x", V.int 1), (Sum.inr "y", V.int 1)])) := upd_same
    have ssd : Same Grl (upd (upd Grl sd (.dK [])) sd (.dK (mergeK [] [(Sum.inr "x", V.int 1), (Sum.inr "y", V.int 1)]))) := (same_upd fsd).new fsd
    generalize hkv0 : mergeK [] [((Sum.inr "x" : Key), V.int 1), (Sum.inr "y", V.int 1)] = kv0 at hsd0 ssd ⊢
    have hst0 : StampsOk kv0 := hkv0 ▸ stamps0
    generalize (upd (upd Grl sd (.dK [])) sd (.dK kv0)) = G1 at hsd0 ssd ⊢
    have hrl1 := ssd _ _ krl
    have s1 := sAll.trans ssd
    have fsdH : H sd = none := sAll.free fsd
    refine ⟨fun σ' H' => Same G1 H' ∧ σ' = [some (.ref p), some (.ref rl), some (.ref sd), some (.int 1), some (.int 2), none, none, none], ?_, ?_⟩
    · exact ⟨le2, fun t ht => ⟨t, _, rfl, SqT.of upd_same, rfl, _, _, rfl, _, _, rfl, rfl, same_upd ht, rfl⟩⟩
    rintro σ' G2 ⟨s12, rfl⟩
    have s2 := s1.trans s12
    refine ⟨_, rfl, p, 17, rfl, hp.same s2, by decide, by decide, fun n H3 hn b3 hp3 => ?_⟩
    refine ⟨_, _, rfl, rfl, _, rfl, by omega, by omega, ?_⟩
    have nrp : rl ≠ p := fun e => by
      rw [e, hp0] at frlH
      cases frlH
    have nsp : sd ≠ p := fun e => by
      rw [e, hp0] at fsdH
      cases fsdH
    have nrs : rl ≠ sd := ne_of hrl1 hsd0 (by intro z; cases z)
    have tup3 : TupS G2 H3 := .but b3 (fun xs z => by rw [s2 _ _ hp0] at z; cases z)
    have tupR : TupS Grl H3 := (TupS.of (ssd.trans s12)).trans tup3
    refine for_it walk_range (fun i σ H4 => ∃ (as : List Addr) (ps : List Plc) (kvs : List (Key × V)) (e m : Int) (z5 z6 z7 : Option V), σ = [some (.ref p), some (.ref rl), some (.ref sd), some (.int e), some (.int m), z5, z6, z7] ∧ But p H H4 ∧ PoolAt H4 p ∧
        H4 rl = some (.lst (as.map V.ref)) ∧ Paired (RowIt H4) as ps ∧ ps.length = i + 2 ∧ Upto ps e m ∧ H4 sd = some (.dK kvs) ∧ StampsOk kvs)
      ⟨[a4, b4], [(1, 1), (1, 2)], kv0, 1, 2, none, none, none, rfl, (But.of s2).trans b3, hp3, b3 _ _ (s12 _ _ hrl1) nrp, .cons (r1.tups tupR) (.cons (r2.tups tupR) .nil), rfl, ?_, b3 _ _ (s12 _ _ hsd0) nsp, hst0⟩ (fun _ _ _ _ _ => True.intro) ?_ ?_
    · refine ⟨by simp [ltP_iff], fun q hq => ?_⟩
      simp only [List.mem_cons, List.not_mem_nil, or_false] at hq
      rcases hq with rfl | rfl <;> simp
    · rintro i x σ H4 H5 hi ⟨as, ps, kvs, e, m, z5, z6, z7, rfl, b4', hp4, hrl4, hps, hpl, hup, hsd4, hst⟩ ⟨rfl, rfl⟩
      refine ⟨_, rfl, ⟨le2, fun l fl => ?_⟩⟩
      have ul : Same H5 (upd H5 l (.lst [.str "x", .str "y"])) := same_upd fl
      have kl : (upd H5 l (.lst [.str "x", .str "y"])) l = some (.lst [.str "x", .str "y"]) := upd_same
      generalize (upd H5 l (.lst [.str "x", .str "y"])) = H6 at ul kl ⊢
      obtain ⟨pa6, pb6, hp6', _⟩ := id hp4
      have nlp : l ≠ p := Ne.symm (ne_of_none hp6' fl)
      refine ⟨p, l, ASKERS.map V.str, rfl, hp4.same ul, kl, nlp, by decide, by decide, fun xv hx H7 b7 hp7 => ?_⟩
      obtain ⟨ak, hak, rfl⟩ := List.mem_map.mp hx
      have b57 : But p H5 H7 := (But.of ul).trans b7
      have t57 : TupS H5 H7 := .but b57 (fun xs z => by rw [hp6'] at z; cases z)
      have hrl7 := b57 _ _ hrl4 nrp
      have hsd7 := b57 _ _ hsd4 nsp
      obtain ⟨v, hv, hv1⟩ := hst.2 ak hak
      refine ⟨_, rfl, _, rfl, sd, _, rfl, dget_of (k := .inr ak) hsd7 hv, _, _, rfl, rfl, _, rfl, _, rfl, sd, _, rfl, DPut.k (kvs := kvs) (k := Sum.inr ak) hsd7 (small1000 (by have := hst.1; omega)), ?_⟩
      have bsd : But sd H7 (upd H7 sd (.dK (putK kvs (Sum.inr ak) (.int (v + 1))))) := .put
      have hsd8 : (upd H7 sd (.dK (putK kvs (Sum.inr ak) (.int (v + 1))))) sd = some (.dK (putK kvs (Sum.inr ak) (.int (v + 1)))) := upd_same
      have hst8 : StampsOk (putK kvs (Sum.inr ak) (.int (v + 1))) := hst.put hak (by omega)
      generalize putK kvs (Sum.inr ak) (.int (v + 1)) = kv8 at bsd hsd8 hst8 ⊢
      generalize (upd H7 sd (.dK kv8)) = H8 at bsd hsd8 ⊢
      have t78 : TupS H7 H8 := .but bsd (fun xs z => by rw [hsd7] at z; cases z)
      have hrl8 := bsd _ _ hrl7 nrs
      have hp8 : PoolAt H8 p := by
        obtain ⟨x1, x2, x3, x4⟩ := hp7
        exact ⟨x1, x2, bsd _ _ x3 (Ne.symm nsp), x4⟩
      have b08 : But p H H8 := fun c o z n => by
        have z7 := b57 _ _ (b4' _ _ z n) n
        exact bsd _ _ z7 fun y => by rw [y, fsdH] at z; cases z
      have t08 := t57.trans t78
      clear b57 t57 bsd t78 hrl7 hsd7 hrl4 hsd4 b7 hp7 kl ul nlp fl hst hv
      refine ⟨_, rfl, _, _, rfl, rfl, ?_⟩
      refine ⟨fun σ' H9 => ∃ (e' m' : Int), σ' = [some (.ref p), some (.ref rl), some (.ref sd), some (.int e'), some (.int m'), some (.int (0 + (i : Nat))), some (.str ak), z7] ∧ But p H8 H9 ∧ PoolAt H9 p ∧ (e < e' ∨ (e = e' ∧ m < m')), ?_, ?_⟩
      · refine ⟨_, rfl, p, 9, rfl, hp8, by decide, by decide, fun r H9 _ b9 hp9 => ⟨rfl, _, rfl, ?_⟩⟩
        refine ite2 (fun _ => ?_) (fun _ => ?_)
        · exact ⟨_, rfl, _, _, rfl, rfl, _, _, rfl, e + 1, 1, rfl, b9, hp9, .inl (by omega)⟩
        · exact ⟨e, m + 1, rfl, b9, hp9, .inr ⟨rfl, by omega⟩⟩
      rintro σ' H9 ⟨e', m', rfl, b9, hp9, hem⟩
      obtain ⟨x1, x2, hx8, _⟩ := id hp8
      have t89 : TupS H8 H9 := .but b9 (fun xs z => by rw [hx8] at z; cases z)
      have hrl9 := b9 _ _ hrl8 nrp
      have hsd9 := b9 _ _ hsd8 nsp
      obtain ⟨v2, hv2, hv21⟩ := hst8.2 ak hak
      refine ⟨_, rfl, _, rfl, _, rfl, sd, _, rfl, dget_of (k := .inr ak) hsd9 hv2, _, rfl, p, rfl, hp9, fun dv HA bA hpA hdv => ⟨le4, fun t ft => ?_⟩⟩
      obtain ⟨y1, y2, hy9, _⟩ := id hp9
      have t9A : TupS H9 HA := .but bA (fun xs z => by rw [hy9] at z; cases z)
      have hrlA := bA _ _ hrl9 nrp
      have hsdA := bA _ _ hsd9 nsp
      have uB : Same HA (upd HA t (.tup [.str "ask", .str ak, .int v2, dv])) := same_upd ft
      have kB : (upd HA t (.tup [.str "ask", .str ak, .int v2, dv])) t = some (.tup [.str "ask", .str ak, .int v2, dv]) := upd_same
      generalize (upd HA t (.tup [.str "ask", .str ak, .int v2, dv])) = HB at uB kB ⊢
      refine ⟨fun σ' HC => ∃ (en : V), σ' = [some (.ref p), some (.ref rl), some (.ref sd), some (.int e'), some (.int m'), some (.int (0 + (i : Nat))), some (.str ak), some en] ∧ But p HB HC ∧ PoolAt HC p ∧ EntryV HC en, ?_, ?_⟩
      · refine ⟨_, rfl, p, 12, rfl, hpA.same uB, by decide, by decide, fun r HC _ bC hpC => ⟨rfl, _, rfl, ?_⟩⟩
        refine ite2 (fun _ => ?_) (fun _ => ?_)
        · refine ⟨_, rfl, le2, fun u fu => ?_⟩
          exact ⟨.ref u, rfl, bC.trans (.of (same_upd fu)), hpC.same (same_upd fu), u, _, rfl, upd_same, .fin hak⟩
        · refine ⟨.ref t, rfl, bC, hpC, t, _, rfl, (hpA.same uB).tup bC kB, .ask hak hv21 ((hdv.same uB).butp (hpA.same uB) bC)⟩
      rintro σ' HC ⟨en, rfl, bC, hpC, hen⟩
      have tBC : TupS HB HC := .but bC (fun xs z => by
        obtain ⟨y1, y2, y3, _⟩ := hpA.same uB
        rw [y3] at z
        cases z)
      have hrlC := bC _ _ (uB _ _ hrlA) nrp
      have hsdC := bC _ _ (uB _ _ hsdA) nsp
      refine ⟨_, rfl, .inl ⟨rfl, _, SqL.of hrlC⟩, _, rfl, _, rfl, le2, fun pa fpa => ?_⟩
      have uD : Same HC (upd HC pa (.tup [.int e', .int m'])) := same_upd fpa
      have kD' : (upd HC pa (.tup [.int e', .int m'])) pa = some (.tup [.int e', .int m']) := upd_same
      generalize (upd HC pa (.tup [.int e', .int m'])) = HD at uD kD' ⊢
      refine ⟨_, rfl, le2, fun a fa => ?_⟩
      have uE : Same HD (upd HD a (.tup [.ref pa, en])) := same_upd fa
      have kE : (upd HD a (.tup [.ref pa, en])) a = some (.tup [.ref pa, en]) := upd_same
      generalize (upd HD a (.tup [.ref pa, en])) = HE at uE kE ⊢
      have hrlE := uE _ _ (uD _ _ hrlC)
      have hsdE := uE _ _ (uD _ _ hsdC)
      have bl : But rl HE (upd HE rl (.lst (as.map V.ref ++ [.ref a]))) := .put
      have tl : TupS HE (upd HE rl (.lst (as.map V.ref ++ [.ref a]))) := .but bl (fun xs z => by rw [hrlE] at z; cases z)
      have asl : as.length = ps.length := Paired.length hps
      refine ⟨rl, _, _, rfl, rfl, hrlE, by rw [List.length_map]; exact small1000 (by omega), ?_⟩
      have t0 := t08.trans (t89.trans (t9A.trans ((TupS.of uB).trans (tBC.trans ((TupS.of (uD.trans uE)).trans tl)))))
      have b8E : But p H8 HE := (b9.trans (bA.trans (.of uB))).trans (bC.trans (.of (uD.trans uE)))
      refine ⟨as ++ [a], ps ++ [(e', m')], kv8, e', m', _, _, _, rfl, fun c o z n => bl _ _ (b8E _ _ (b08 _ _ z n) n) (fun y => by rw [y, frlH] at z; cases z), ?_, by rw [upd_same, List.map_append]; rfl, ?_, by rw [List.length_append, List.length_singleton, hpl], hup.add hem, bl _ _ hsdE (Ne.symm nrs), hst8⟩
      · obtain ⟨y1, y2, y3, y4⟩ := hpC.same (uD.trans uE)
        exact ⟨y1, y2, bl _ _ y3 (Ne.symm nrp), y4⟩
      · exact paired_app (paired_imp (fun _ _ z => z.tups t0) hps) (.cons ⟨pa, en, tl _ _ kE, tl _ _ (uE _ _ kD'), (hen.same (uD.trans uE)).tups tl⟩ .nil)
    · rintro σ H4 ⟨as, ps, kvs, e, m, z5, z6, z7, rfl, b4', hp4, hrl4, hps, hpl, hup, _⟩
      refine ⟨_, rfl, k rl ps H4 b4' hp4 ⟨as, hrl4, hps⟩ (by omega) hup.1⟩
end
end K42

/-! K42Zj: the law's watchers laid. -/
namespace K42
open PySem L2
open PyProof.Rows (envOfC)
open C8 (Cal Met Mak Def cal0 met0 mak0 pe_c pe_mk pe_mt pe_mt0 fnScope_by fnScope fnBody fnArgs pe_gc)
theorem notin_of_none : ∀ {kvs : List (List Key × V)} {k : List Key}, valV kvs k = none → k ∉ kvs.map (·.1)
  | [], _, _ => by simp
  | p :: kvs, k, h => by
    intro m
    rw [List.map_cons] at m
    by_cases e : p.1 = k
    · rw [valV_pos e] at h
      cases h
    · rw [valV_neg e] at h
      rcases List.mem_cons.mp m with q | q
      · exact e q.symm
      · exact notin_of_none h q
section
variable {P : Program} {w : World} {K : PySem.W.Frag} {mg : PySem.Str → Option Value} {base : Heap}
def spLaid : Sp := fun vs H Q _ => ∃ (p d pa : Addr) (a : PySem.Str) (kvs : List (List Key × V)), vs = [.ref p, .str a, .ref d, .ref pa] ∧ PoolAt H p ∧ H d = some (.dT kvs) ∧ kvs.length ≤ 900 ∧
  ∀ (N : List Nm) H', Fr2 p d H H' → PoolAt H' p → H' d = some (.dT (kvs ++ N.map fun n => (n, .ref pa))) → (∀ n ∈ N, NmOk n) → N.Nodup → (∀ n ∈ N, n ∉ kvs.map (·.1)) → N.length ≤ 2 → Q .non H'
theorem ok_laid (T : Tx K w mg) (D : DB K mg "_law_laid" sLawLaid pLawLaid) (cT : Cal P w K mg base 1 "_law_take" spTake []) (cR : Cal P w K mg base 3 "_law_read" spRead []) : Cal P w K mg base 4 "_law_laid" spLaid [] := by
  refine D.cal scLawLaid (fun vs H Q E h => ?_) (fun f cdv A outer s H vs Q E hr h => ?_)
  · obtain ⟨p, d, pa, a, kvs, rfl, _⟩ := h
    rfl
  · obtain ⟨p, d, pa, a, kvs, rfl, hp, hd, hl, k⟩ := h
    have hu := hu_of hr
    refine ⟨_, pss_one (ps_for PassesOwn.never rfl (pi_range1 (by rfl) T.range (pa_cons (pe_c cT hr (by decide) (by rfl) (pa_cons (pv 0) (pa_cons pe_int pa_nil))) pa_nil)) (pg_name (i := 4) scLawLaid.nd rfl (Or.inl rfl))
        (pss_cons (ps_set (i := 5) scLawLaid.nd rfl (Or.inl rfl) (pe_c cR hr (by decide) (by rfl) (pa_cons (pv 0) (pa_cons (pv 1) pa_nil))))
        (pss_one (ps_expr (pe_bm PySem.F.plainAttrs_dict PySem.F.slot_dict_setdefault PySem.F.type_dict_setdefault (mt_setdT hu) (pv 2) (pa_cons (pe_tup (pa_cons (pe_ix ix_tup (pv 5) pe_int (fun _ _ => rfl)) (pa_cons (pe_ix ix_tup (pv 5) pe_int (fun _ _ => rfl)) pa_nil))) (pa_cons (pv 3) pa_nil))))))), ?_⟩
    obtain ⟨x1, x2, hp0, _⟩ := id hp
    have ndp : d ≠ p := ne_of hd hp0 (by intro z; cases z)
    refine ⟨_, rfl, p, 3, rfl, hp, by decide, by decide, fun r H1 hr1 b1 hp1 => ?_⟩
    refine ⟨_, rfl, by omega, by omega, ?_⟩
    refine for_it walk_range (fun i σ H2 => ∃ (N : List Nm) (z4 z5 : Option V), σ = [some (.ref p), some (.str a), some (.ref d), some (.ref pa), z4, z5] ∧ Fr2 p d H H2 ∧ PoolAt H2 p ∧ H2 d = some (.dT (kvs ++ N.map fun n => (n, .ref pa))) ∧ (∀ n ∈ N, NmOk n) ∧ N.Nodup ∧ (∀ n ∈ N, n ∉ kvs.map (·.1)) ∧ N.length ≤ i)
      ⟨[], none, none, rfl, fun c o z n _ => b1 _ _ z n, hp1, by rw [List.map_nil, List.append_nil]; exact b1 _ _ hd ndp, by simp, List.nodup_nil, by simp, Nat.le_refl _⟩ (fun _ _ _ _ _ => True.intro) ?_ ?_
    · rintro i x σ H2 H3 hi ⟨N, z4, z5, rfl, f2, hp2, hd2, hN, nd, hnew, hNl⟩ ⟨rfl, rfl⟩
      refine ⟨_, rfl, _, rfl, p, a, rfl, hp2, fun kk z bo t H4 hkk hz b4 hp4 ht => ?_⟩
      obtain ⟨y1, y2, hy, _⟩ := id hp2
      have hd4 := b4 _ _ hd2 ndp
      refine ⟨_, rfl, .inr (.inr (.inl ⟨rfl, .inr ⟨_, hd4⟩⟩)), _, rfl, t, _, _, _, rfl, rfl, SqT.of ht, at_of (j := 2) rfl rfl, _, rfl, t, _, _, _, rfl, rfl, SqT.of ht, at_of (j := 3) rfl rfl, le2, fun u fu => ⟨_, rfl, ?_⟩⟩
      have w1 := same_upd (o := .tup [.str kk, .str z]) fu
      have hu1 : (upd H4 u (.tup [.str kk, .str z])) u = some (.tup [.str kk, .str z]) := upd_same
      generalize (upd H4 u (.tup [.str kk, .str z])) = H5 at w1 hu1 ⊢
      have hd5 := w1 _ _ hd4
      have hp5 := hp4.same w1
      have f5 : Fr2 p d H H5 := fun c o y n m => w1 _ _ (b4 _ _ (f2 _ _ y n m) n)
      refine ⟨d, _, [.inr kk, .inr z], u, _, rfl, rfl, hd5, hu1, ?_, fun v hv => ?_, fun hv => ?_⟩
      · rw [List.length_append, List.length_map]
        omega
      · exact ⟨N, _, _, rfl, f5, hp5, hd5, hN, nd, hnew, by omega⟩
      · have nn := notin_of_none hv
        rw [List.map_append, List.mem_append, List.map_map] at nn
        have nN : ([.inr kk, .inr z] : Nm) ∉ N := fun m => nn (.inr (List.mem_map.mpr ⟨_, m, rfl⟩))
        have nK : ([.inr kk, .inr z] : Nm) ∉ kvs.map (·.1) := fun m => nn (.inl m)
        rw [L2.putK_new _ hv]
        have bp : But d H5 (upd H5 d (.dT (kvs ++ N.map (fun n => (n, .ref pa)) ++ [([.inr kk, .inr z], .ref pa)]))) := .put
        obtain ⟨q1, q2, q3, q4⟩ := id hp5
        refine ⟨N ++ [[.inr kk, .inr z]], _, _, rfl, fun c o y n m => bp _ _ (f5 _ _ y n m) m, ⟨q1, q2, bp _ _ q3 (Ne.symm ndp), q4⟩, ?_, ?_, ?_, ?_, ?_⟩
        · rw [upd_same, List.map_append, List.append_assoc]
          rfl
        · intro n hn
          rcases List.mem_append.mp hn with m | m
          · exact hN n m
          · simp only [List.mem_cons, List.not_mem_nil, or_false] at m
            exact ⟨kk, hkk, z, rpaths z hz, m⟩
        · refine List.nodup_append.mpr ⟨nd, by simp, fun x hx y hy => ?_⟩
          simp only [List.mem_cons, List.not_mem_nil, or_false] at hy
          subst hy
          exact fun e => nN (e ▸ hx)
        · intro n hn
          rcases List.mem_append.mp hn with m | m
          · exact hnew n m
          · simp only [List.mem_cons, List.not_mem_nil, or_false] at m
            subst m
            exact nK
        · rw [List.length_append, List.length_singleton]
          omega
    · rintro σ H2 ⟨N, z4, z5, rfl, f2, hp2, hd2, hN, nd, hnew, hNl⟩
      exact k N H2 f2 hp2 hd2 hN nd hnew (by omega)
end
end K42

/-! K42Zk: len(set(..)) of distinct tuples of ints and texts. -/
namespace K42
open PySem PySem.Spec PyProof.Rows
open L2 hiding St
abbrev nmH (P : Program) (w : World) (n : Nm) : Int := tupleKeyHash (mixKind P w) n
abbrev TupN (P : Program) (w : World) (g : Heap) (n : Nm) (b : Addr) : Prop := IsTupleKey (mixKind P w) g n b
/-- the steps of a probe for a hash, from the first on -/
abbrev step (m : Nat) (z : Int) (c : Nat) : SetTable.Probe := nth m (runAt m (SetTable.bits z % (m + 1)) (SetTable.bits z)) c
section
variable {P : Program} {w : World} {A : Around} {E : Value → Shared → Prop} {s : Shared}
theorem plain_items {n : Nm} {vs : List Value} (it : ItemsAre (mixKind P w) n vs) : ∀ v ∈ vs, ∀ d, ofAClassStatement d v = pure false ∧ ∃ c, hashByValue d v = pure c := by
  induction it with
  | nil => exact fun v m => nomatch m
  | @cons k u ks us e _ ih =>
    intro v m d
    rcases List.mem_cons.mp m with rfl | m
    · rcases keyIs_shape (show keyIs k v = true from e) with ⟨i, t, rfl, rfl⟩ | ⟨x, t, rfl, rfl⟩ <;> cases d <;> exact ⟨rfl, _, rfl⟩
    · exact ih v m d
theorem class_none {n : Nm} {b : Addr} {Q : Bool → Shared → Prop} (tup : TupN P w s.heap n b) (fin : Q false s) : wpAny (model P w) A (ofAClassStatement 8 (.ref b)) Q E s := by
  obtain ⟨ob, its, c, at_, _, dt, it⟩ := id tup
  unfold ofAClassStatement
  refine wpAny_bind (wpAny_typeOf tup.typeIs ?_)
  simp only [show (("tuple" : String) == "tuple") = true from rfl, if_true, Bool.not_true, Bool.false_eq_true, if_false]
  try (refine wpAny_bind (wpAny_pure ?_); simp only [Bool.not_true, Bool.false_eq_true, if_false])
  show wpAny _ _ (seqItems? (.ref b) >>= _) _ _ s
  refine wpAny_bind (wpAny_seqItems at_ dt ?_)
  show wpAny _ _ (forIn its _ _ >>= _) _ _ s
  rw [← Array.forIn_toList]
  refine wpAny_bind (wpAny_forIn_list _ (fun left r t => (r.1 = none ∧ t = s) ∧ ∀ v ∈ left, ofAClassStatement 7 v = pure false) _ ?turn ?last _ _ ⟨⟨rfl, rfl⟩, fun v m => (plain_items it v m 7).1⟩)
  case turn =>
    rintro v left r t ⟨⟨e, rfl⟩, all⟩
    rw [all v List.mem_cons_self]
    refine wpAny_bind (wpAny_pure ?_)
    simp only [Bool.false_eq_true, if_false]
    exact wpAny_pure ⟨⟨rfl, rfl⟩, fun u m => all u (List.mem_cons_of_mem _ m)⟩
  case last =>
    rintro ⟨r1, r2⟩ t ⟨⟨e, rfl⟩, _⟩
    have e : r1 = none := e
    subst e
    exact wpAny_pure fin
theorem by_value {n : Nm} {b : Addr} {Q : Bool → Shared → Prop} (tup : TupN P w s.heap n b) (fin : ∀ c, Q c s) : wpAny (model P w) A (hashByValue 8 (.ref b)) Q E s := by
  obtain ⟨ob, its, c, at_, _, dt, it⟩ := id tup
  unfold hashByValue
  refine wpAny_bind (wpAny_specialOf tup.typeIs F.slot_tuple_hash.lookup ?_)
  show wpAny _ _ (seqItems? (.ref b) >>= _) _ _ s
  refine wpAny_bind (wpAny_seqItems at_ dt ?_)
  show wpAny _ _ (forIn its _ _ >>= _) _ _ s
  rw [← Array.forIn_toList]
  refine wpAny_bind (wpAny_forIn_list _ (fun left r t => (r.1 = none ∧ t = s) ∧ ∀ v ∈ left, ∃ c, hashByValue 7 v = pure c) _ ?turn ?last _ _ ⟨⟨rfl, rfl⟩, fun v m => (plain_items it v m 7).2⟩)
  case turn =>
    rintro v left r t ⟨⟨e, rfl⟩, all⟩
    obtain ⟨c, hc⟩ := all v List.mem_cons_self
    rw [hc]
    refine wpAny_bind (wpAny_pure ?_)
    cases c with
    | true =>
      simp only [Bool.not_true, Bool.false_eq_true, if_false]
      exact wpAny_pure ⟨⟨rfl, rfl⟩, fun u m => all u (List.mem_cons_of_mem _ m)⟩
    | false =>
      simp only [Bool.not_false, if_true]
      exact wpAny_pure (wpAny_pure (fin false))
  case last =>
    rintro ⟨r1, r2⟩ t ⟨⟨e, rfl⟩, _⟩
    have e : r1 = none := e
    subst e
    exact wpAny_pure (fin true)
theorem not_seen {n : Nm} {b : Addr} {Q : Bool → Shared → Prop} (tup : TupN P w s.heap n b) {ys : List Value} (old : ∀ y ∈ ys, ∃ m c, y = Value.ref c ∧ TupN P w s.heap m c) (fin : Q false s) : wpAny (model P w) A (searchCouldBeSeen (.ref b) ys) Q E s := by
  unfold searchCouldBeSeen
  refine wpAny_bind (wpAny_forIn_list _ (fun left r t => (r.1 = none ∧ t = s) ∧ ∀ y ∈ left, ∃ m c, y = Value.ref c ∧ TupN P w t.heap m c) _ ?turn ?last _ _ ⟨⟨rfl, rfl⟩, old⟩)
  case turn =>
    rintro y left r t ⟨⟨e, rfl⟩, all⟩
    have later : ∀ u ∈ left, ∃ m c, u = Value.ref c ∧ TupN P w t.heap m c := fun u z => all u (List.mem_cons_of_mem _ z)
    obtain ⟨m, c, rfl, tup2⟩ := all y List.mem_cons_self
    dsimp only
    cases q : (b == c || (carriedByValue (.ref b) && carriedByValue (.ref c))) with
    | true =>
      simp only [if_true]
      exact wpAny_pure ⟨⟨rfl, rfl⟩, later⟩
    | false =>
      simp only [Bool.false_eq_true, if_false]
      refine wpAny_bind (wpAny_eqIsQuiet_tuple tup ?_)
      simp only [Bool.not_true, Bool.false_eq_true, if_false]
      refine wpAny_bind (wpAny_eqIsQuiet_tuple tup2 ?_)
      simp only [Bool.not_true, Bool.false_eq_true, if_false]
      refine wpAny_bind (class_none tup ?_)
      simp only [Bool.false_eq_true, if_false]
      refine wpAny_bind (class_none tup2 ?_)
      simp only [Bool.false_eq_true, if_false]
      exact wpAny_pure ⟨⟨rfl, rfl⟩, later⟩
  case last =>
    rintro ⟨r1, r2⟩ t ⟨⟨e, rfl⟩, _⟩
    have e : r1 = none := e
    subst e
    exact wpAny_pure fin
/-! ### the set so far -/
structure NSet (P : Program) (w : World) (g : Heap) (a : Addr) (L : List (Addr × Nm)) (es : Array (Int × Value)) (ep : Nat) (t : SetTable) : Prop where
  ob : ∃ o, g.get? a = some o ∧ o.ExactSet ∧ o.data = .set es ep t
  rows : es.toList = L.map fun x => (nmH P w x.2, Value.ref x.1)
  tab : TabOk t (L.map fun x => nmH P w x.2)
  tup : ∀ x ∈ L, TupN P w g x.2 x.1
  room : L.length * 5 < t.mask * 3
  few : L.length < 64
variable {a : Addr} {L : List (Addr × Nm)} {es : Array (Int × Value)} {ep : Nat} {t : SetTable}
theorem NSet.size {g : Heap} (S : NSet P w g a L es ep t) : es.size = L.length := by
  rw [← Array.length_toList, S.rows, List.length_map]
theorem fits_of {hs : List Int} (T : TabOk t hs) {n : Nat} (h : hs.length = n) (le : n ≤ t.mask) : t.fits n = true := by
  have sz := T.sz
  unfold SetTable.fits SetTable.fill
  rw [T.dm]
  simp only [Bool.and_eq_true, beq_iff_eq, decide_eq_true_eq]
  exact ⟨by omega, by show t.place.size + 0 ≤ _; omega⟩
theorem NSet.fits {g : Heap} (S : NSet P w g a L es ep t) : t.fits es.size = true := by
  have r := S.room
  exact fits_of S.tab (by rw [List.length_map, S.size]) (by rw [S.size]; omega)
theorem NSet.row {g : Heap} (S : NSet P w g a L es ep t) {i : Nat} {x : Addr × Nm} (h : L[i]? = some x) : es[i]? = some (nmH P w x.2, Value.ref x.1) := by
  rw [← Array.getElem?_toList, S.rows, List.getElem?_map, h]
  rfl
theorem step_dummy (m : Nat) (z : Int) (c : Nat) : (step m z c).dummy = none := by
  have all : ∀ (n : Nat) (p : SetTable.Probe), p.dummy = none → (nth m p n).dummy = none := by
    intro n
    induction n with
    | zero => exact fun p e => e
    | succ n ih => exact fun p e => ih (adv m p) (by unfold adv; split <;> exact e)
  exact all c _ rfl
theorem step_add (m : Nat) (z : Int) (c q : Nat) : nth m (step m z c) q = step m z (c + q) := (nth_add m c _ q).symm
/-- a new name is not found: the first empty slot on its way -/
theorem seek (S : NSet P w s.heap a L es ep t) {b : Addr} {n : Nm} (tup : TupN P w s.heap n b) (hu : A.units < cLine) (new : ∀ x ∈ L, x.2 ≠ n) {K : Nat} (far : K < 10 * SetTable.turns t.mask)
    (free : way t.mask (nmH P w n) K ∉ t.place.toList) (taken : ∀ c, c < K → way t.mask (nmH P w n) c ∈ t.place.toList) {Q : SetFound → Shared → Prop} (fin : Q (.free (way t.mask (nmH P w n) K) false) s) :
    ∀ (f c : Nat) (stand : Option SetTable.Probe), stand.getD (t.probeStart (nmH P w n)) = step t.mask (nmH P w n) c → c ≤ K → K - c < f → wpAny (model P w) A (setSearchFrom a (.ref b) (nmH P w n) true f stand) Q E s := by
  obtain ⟨o, ho, ex, dt⟩ := S.ob
  intro f
  induction f with
  | zero => exact fun c stand _ _ lt => absurd lt (Nat.not_lt_zero _)
  | succ f again =>
    intro c stand at_ ck lt
    have way_at : ∀ q, (nth t.mask (step t.mask (nmH P w n) c) q).j = way t.mask (nmH P w n) (c + q) := fun q => congrArg SetTable.Probe.j (step_add t.mask (nmH P w n) c q)
    have end_at : c + (K - c) = K := by omega
    have told := go_spec t S.tab.ris S.tab.dm (fun i => (es[i]?.map (·.1)).getD 0) (nmH P w n) (10 * SetTable.turns t.mask) (K - c) (step t.mask (nmH P w n) c) (step_dummy _ _ _) (by omega)
      (fun q lq => by rw [way_at]; exact taken _ (by omega)) (by rw [way_at, end_at]; exact free)
    rw [setSearchFrom_succ]
    refine wpAny_bind (wpAny_setState_of ho dt S.fits ?_)
    have kept : ¬ t.gaveWay = true := by unfold SetTable.gaveWay; rw [mask_odd S.tab.mok]; decide
    simp only [if_neg kept]
    try refine wpAny_bind (wpAny_pure ?_)
    rw [at_]
    rcases told with ⟨q, i, lq, place, -, -, met⟩ | ⟨-, met⟩
    · have met' : t.probe (fun i => (es[i]?.map (·.1)).getD 0) (nmH P w n) (step t.mask (nmH P w n) c) = some (.candidate (way t.mask (nmH P w n) (c + q)) i (step t.mask (nmH P w n) (c + (q + 1)))) := by
        rw [← step_add, ← way_at]
        exact met
      rw [met']
      rw [way_at] at place
      have il : i < L.length := by
        have l1 := (List.getElem?_eq_some_iff.mp place).1
        have l2 := S.tab.sz
        rw [List.length_map] at l2
        rw [Array.length_toList] at l1
        omega
      obtain ⟨x, hx⟩ : ∃ x, L[i]? = some x := ⟨_, List.getElem?_eq_getElem il⟩
      have xm := List.mem_of_getElem? hx
      have ne : decide (x.2 = n) = false := decide_eq_false (new x xm)
      have tail : wpAny (model P w) A (searchRest a (.ref b) (nmH P w n) true f es t (way t.mask (nmH P w n) (c + q)) i (step t.mask (nmH P w n) (c + (q + 1)))) Q E s := by
        unfold searchRest
        rw [S.row hx]
        refine wpAny_bind (wpAny_holding (wpAny_eqBool_tuple hu (S.tup x xm) tup ?_))
        rw [ne]
        refine wpAny_bind (wpAny_setState_of ho dt S.fits ?_)
        simp only [Bool.and_false, Bool.false_eq_true, if_false]
        try refine wpAny_bind (wpAny_pure ?_)
        rw [sameMem]
        simp only [if_true, slot_live S.tab.ris place, S.row hx]
        refine wpAny_bind (wpAny_isSame_ref_self (wpAny_bind (wpAny_pure ?_)))
        simp only [if_true]
        exact again (c + (q + 1)) _ rfl (by omega) (by omega)
      cases ld : t.led with
      | true =>
        simp only [Bool.not_true, Bool.false_eq_true, if_false]
        try refine wpAny_bind (wpAny_pure ?_)
        exact tail
      | false =>
        simp only [Bool.not_false, if_true]
        refine wpAny_bind (not_seen tup (fun y hy => ?_) ?_)
        · obtain ⟨r, hr, rfl⟩ := List.mem_map.mp hy
          have hr2 : r ∈ es.toList := by
            have z : r ∈ es.filter fun e => e.1 == nmH P w n := by simpa using hr
            have z2 := (Array.mem_filter.mp z).1
            simpa using z2
          rw [S.rows] at hr2
          obtain ⟨x2, hx2, rfl⟩ := List.mem_map.mp hr2
          exact ⟨x2.2, x2.1, rfl, S.tup x2 hx2⟩
        · simp only [Bool.false_eq_true, if_false]
          try refine wpAny_bind (wpAny_pure ?_)
          exact tail
    · have met' : t.probe (fun i => (es[i]?.map (·.1)).getD 0) (nmH P w n) (step t.mask (nmH P w n) c) = some (.empty (way t.mask (nmH P w n) K) none) := by
        have e := way_at (K - c)
        rw [end_at] at e
        rw [← e]
        exact met
      rw [met']
      exact wpAny_pure fin
theorem seek_all (S : NSet P w s.heap a L es ep t) {b : Addr} {n : Nm} (tup : TupN P w s.heap n b) (hu : A.units < cLine) (new : ∀ x ∈ L, x.2 ≠ n) {Q : SetFound → Shared → Prop}
    (fin : ∀ K, way t.mask (nmH P w n) K ∉ t.place.toList → (∀ c, c < K → way t.mask (nmH P w n) c ∈ t.place.toList) → Q (.free (way t.mask (nmH P w n) K) false) s) : wpAny (model P w) A (setSearch a (.ref b) (nmH P w n) true) Q E s := by
  have r := S.room
  obtain ⟨K, far, free, taken⟩ := S.tab.first (by rw [List.length_map]; omega) (nmH P w n)
  refine seek S tup hu new far free taken (fin K free taken) 100000 0 none rfl (Nat.zero_le _) ?_
  have : 10 * SetTable.turns t.mask ≤ 1420 := by
    unfold SetTable.turns
    rcases S.tab.mok with e | e | e <;> omega
  omega
/-! ### adding -/
abbrev nRow (P : Program) (w : World) (x : Addr × Nm) : Int × Value := (nmH P w x.2, Value.ref x.1)
theorem rows_order (rows : es.toList = L.map (nRow P w)) : ∀ l : List Nat, (∀ i ∈ l, i < L.length) →
    l.filterMap (fun i => es[i]?) = (l.filterMap fun i => L[i]?).map (nRow P w) ∧ (l.filterMap fun i => L[i]?).map (fun x => nmH P w x.2) = l.map fun i => (es.map (·.1)).getD i 0
  | [], _ => ⟨rfl, rfl⟩
  | i :: l, low => by
    obtain ⟨e1, e2⟩ := rows_order rows l fun j m => low j (List.mem_cons_of_mem _ m)
    have il := low i List.mem_cons_self
    have hL : L[i]? = some L[i] := List.getElem?_eq_getElem il
    have hE : es[i]? = some (nRow P w L[i]) := by
      rw [← Array.getElem?_toList, rows, List.getElem?_map, hL]
      rfl
    have hG : (es.map (·.1)).getD i 0 = nmH P w (L[i]).2 := by
      have z : (es.map (·.1))[i]? = some (nmH P w (L[i]).2) := by rw [Array.getElem?_map, hE]; rfl
      simp [Array.getD_eq_getD_getElem?, z]
    rw [List.filterMap_cons_some hE, List.filterMap_cons_some hL, e1, List.map_cons, List.map_cons, List.map_cons, e2, hG]
    exact ⟨rfl, rfl⟩
theorem all_of_range {α : Type} (l : List α) : (List.range l.length).filterMap (fun i => l[i]?) = l := by
  have e : (List.range l.length).map (fun i => l[i]?) = l.map some := by
    refine List.ext_getElem? fun j => ?_
    rw [List.getElem?_map, List.getElem?_map]
    rcases Nat.lt_or_ge j l.length with lt | ge
    · rw [List.getElem?_range lt, List.getElem?_eq_getElem lt]
      exact congrArg some (List.getElem?_eq_getElem lt)
    · rw [List.getElem?_eq_none (by rw [List.length_range]; exact ge), List.getElem?_eq_none ge]
      rfl
  have z := congrArg (List.filterMap id) e
  rw [List.filterMap_map, List.filterMap_map] at z
  exact z.trans List.filterMap_some
theorem tup_same {g g' : Heap} {n : Nm} {b : Addr} {o : Obj} (tup : TupN P w g n b) (ho : g.get? a = some o) (dt : o.data = .set es ep t) (sb : Heap.SameBut a g g') : TupN P w g' n b := by
  obtain ⟨o2, its, c, ho2, cl, dt2, it⟩ := tup
  refine ⟨o2, its, c, (sb.2 b fun e => ?_).trans ho2, cl, dt2, it⟩
  rw [e, ho] at ho2
  rw [Option.some.inj ho2, dt2] at dt
  cases dt
/-- the table is laid anew, larger -/
theorem lay_anew {o : Obj} (ho : s.heap.get? a = some o) (ex : o.ExactSet) (dt : o.data = .set es ep t) (rows : es.toList = L.map (nRow P w)) (tab : TabOk t (L.map fun x => nmH P w x.2)) (le : L.length ≤ t.mask) (tup : ∀ x ∈ L, TupN P w s.heap x.2 x.1) (few : L.length < 64)
    {wanted M : Nat} (size : SetTable.sizeAbove wanted - 1 = M) (mask : MaskOk M) (small : SetTable.sizeAbove wanted ≤ 128) (room : L.length * 5 < M * 3) {Q : Unit → Shared → Prop}
    (fin : ∀ g L2 es2 ep2 t2, Heap.SameBut a s.heap g → NSet P w g a L2 es2 ep2 t2 → L2.Perm L → Q () { s with heap := g }) : wpAny (model P w) A (setRelay a wanted) Q E s := by
  have zs : es.size = L.length := by rw [← Array.length_toList, rows, List.length_map]
  have fit : t.fits es.size = true := fits_of tab (by rw [List.length_map, zs]) (by rw [zs]; exact le)
  obtain ⟨t2, order, got, perm, tab2, mask2, -, -, -⟩ := relaid_ok t (hs := es.map (·.1)) (wanted := wanted) size mask (by rw [Array.size_map, zs]; omega)
  rw [Array.size_map, zs] at perm
  obtain ⟨r1, r2⟩ := rows_order rows order.toList fun i m => List.mem_range.mp (perm.mem_iff.mp m)
  have pm : (order.toList.filterMap fun i => L[i]?).Perm L := by
    have z := perm.filterMap fun i => L[i]?
    rw [all_of_range] at z
    exact z
  rw [← r2] at tab2
  generalize (order.toList.filterMap fun i => L[i]?) = L2 at r1 r2 pm tab2
  have rows2 : (order.filterMap (es[·]?)).toList = L2.map (nRow P w) := by
    first
      | (rw [Array.toList_filterMap]; exact r1)
      | simpa using r1
  have zs2 : (order.filterMap (es[·]?)).size = es.size := by rw [← Array.length_toList, rows2, List.length_map, pm.length_eq, zs]
  have big := sizeLine_eq
  rw [setRelay_eq]
  refine wpAny_bind (wpAny_setState_of ho dt fit ?_)
  have notBig : ¬ SetTable.sizeAbove wanted > sizeLine := by omega
  simp only [if_neg notBig]
  try refine wpAny_bind (wpAny_pure ?_)
  rw [got]
  refine wpAny_bind ?_
  have same : ((order.filterMap (es[·]?)).size != es.size) = false := by rw [zs2]; simp
  simp only [same, Bool.false_eq_true, if_false]
  try refine wpAny_bind (wpAny_pure ?_)
  refine wpAny_pure (wpAny_storeSet_of ho dt ?_ (by dsimp only; omega))
  have sb : Heap.SameBut a s.heap (s.heap.update a (Obj.putSet (order.filterMap (es[·]?)) t2)) := Heap.SameBut.update ..
  exact fin _ L2 _ (ep + 1) t2 sb ⟨⟨_, store_at ho dt, ⟨ex.1, ex.2.1, ex.2.2⟩, rfl⟩, rows2, tab2, fun x m => tup_same (tup x (pm.mem_iff.mp m)) ho dt sb, by rw [pm.length_eq, mask2]; exact room, by rw [pm.length_eq]; exact few⟩ pm
/-- a new name is put in -/
theorem put_in (S : NSet P w s.heap a L es ep t) {b : Addr} {n : Nm} (tup : TupN P w s.heap n b) (hu : A.units < cLine) (new : ∀ x ∈ L, x.2 ≠ n) (few : L.length + 1 < 64) {Q : Bool → Shared → Prop}
    (fin : ∀ c g L2 es2 ep2 t2, Heap.SameBut a s.heap g → NSet P w g a L2 es2 ep2 t2 → L2.Perm ((b, n) :: L) → Q c { s with heap := g }) : wpAny (model P w) A (setAddHashed a (.ref b) (nmH P w n)) Q E s := by
  obtain ⟨o, ho, ex, dt⟩ := S.ob
  have zs := S.size
  have room := S.room
  have big := sizeLine_eq
  unfold setAddHashed
  rw [show (100000 : Nat) = 99999 + 1 from rfl]
  refine wpAny_holding ?_
  rw [setAddHashedIn_succ]
  refine wpAny_bind (wpAny_setState_of ho dt S.fits ?_)
  have noScan : byScan (Value.ref b) es = false := by simp [byScan, Value.scannable]
  simp only [noScan, Bool.false_eq_true, if_false]
  try refine wpAny_bind (wpAny_pure ?_)
  refine wpAny_bind (seek_all S tup hu new fun K free taken => ?_)
  dsimp only
  refine wpAny_bind (wpAny_setState_of ho dt S.fits ?_)
  obtain ⟨q1, q2, q3, q4, -, -, -, -, q9⟩ := S.tab.put free taken
  dsimp only
  generalize hput : t.put (way t.mask (nmH P w n) K) = put at q1 q3 q4 q9 ⊢
  obtain ⟨t1, at1⟩ := put
  dsimp only at q1 q3 q4 q9 ⊢
  generalize hbelow : SetTable.below t.place (way t.mask (nmH P w n) K) = pos at q1 q2 q3
  subst q1
  -- whatever the value's kind of hash: the table but for one mark
  have rest : ∀ c : Bool, wpAny (model P w) A (do
      storeSet a (SetTable.insertAt es at1 (nmH P w n, .ref b)) (if c then t1 else { t1 with plain := false })
      if !false && (if c then t1 else { t1 with plain := false }).tooFull then setRelay a (SetTable.grown (es.size + 1))
      return true) Q E s := by
    intro c
    have mk : ∃ t3 : SetTable, (if c then t1 else { t1 with plain := false }) = t3 ∧ t3.place = t1.place ∧ t3.dummies = t1.dummies ∧ t3.mask = t1.mask := by
      cases c
      · exact ⟨_, rfl, rfl, rfl, rfl⟩
      · exact ⟨_, rfl, rfl, rfl, rfl⟩
    obtain ⟨t3, e3, pl3, dm3, mk3⟩ := mk
    rw [e3]
    have ins : (SetTable.insertAt es at1 (nmH P w n, Value.ref b)).toList = (L.take at1 ++ (b, n) :: L.drop at1).map (nRow P w) := by
      rw [SetTable.toList_insertAt, S.rows, List.map_append, List.map_cons, List.map_take, List.map_drop]
    have hashes : (L.take at1 ++ (b, n) :: L.drop at1).map (fun x => nmH P w x.2) = (L.map fun x => nmH P w x.2).take at1 ++ nmH P w n :: (L.map fun x => nmH P w x.2).drop at1 := by
      rw [List.map_append, List.map_cons, List.map_take, List.map_drop]
    have pm := put_perm L at1 (b, n)
    rw [← hashes] at q3
    have tab3 : TabOk t3 ((L.take at1 ++ (b, n) :: L.drop at1).map fun x => nmH P w x.2) := ⟨by rw [pl3]; exact q3.ris, by rw [dm3]; exact q3.dm, by rw [pl3]; exact q3.sz, by rw [mk3]; exact q3.mok, by rw [pl3, mk3]; exact q3.bd, by rw [pl3, mk3]; exact q3.reach⟩
    have full : t3.tooFull = decide ((L.length + 1) * 5 ≥ t.mask * 3) := by
      have f3 : t3.fill = L.length + 1 := by
        have f1 : t1.fill = L.length + 1 := by rw [q9, List.length_map]
        unfold SetTable.fill at f1 ⊢
        rw [pl3, dm3]
        exact f1
      unfold SetTable.tooFull
      rw [f3, mk3, q4]
    have len : (L.take at1 ++ (b, n) :: L.drop at1).length = L.length + 1 := pm.length_eq
    generalize L.take at1 ++ (b, n) :: L.drop at1 = L1 at ins pm tab3 len
    have zs1 : (SetTable.insertAt es at1 (nmH P w n, Value.ref b)).size = L.length + 1 := by rw [← Array.length_toList, ins, List.length_map, len]
    generalize SetTable.insertAt es at1 (nmH P w n, Value.ref b) = es1 at ins zs1
    refine wpAny_bind (wpAny_storeSet_of ho dt ?_ (by omega))
    have sb : Heap.SameBut a s.heap (s.heap.update a (Obj.putSet es1 t3)) := Heap.SameBut.update ..
    have ho1 := store_at (es' := es1) (t' := t3) ho dt
    generalize s.heap.update a (Obj.putSet es1 t3) = g at sb ho1 ⊢
    have tup1 : ∀ x ∈ L1, TupN P w g x.2 x.1 := fun x m => by
      rcases List.mem_cons.mp (pm.mem_iff.mp m) with rfl | m
      · exact tup_same tup ho dt sb
      · exact tup_same (S.tup x m) ho dt sb
    rw [full]
    by_cases hf : (L.length + 1) * 5 ≥ t.mask * 3
    · simp only [decide_eq_true hf, Bool.not_false, Bool.true_and, if_true]
      rw [zs]
      have go : ∀ M, SetTable.sizeAbove (SetTable.grown (L.length + 1)) - 1 = M → MaskOk M → SetTable.sizeAbove (SetTable.grown (L.length + 1)) ≤ 128 → (L.length + 1) * 5 < M * 3 →
          wpAny (model P w) A (setRelay a (SetTable.grown (L.length + 1))) (fun _ s' => wpAny (model P w) A (pure true) Q E s') E { s with heap := g } := fun M z1 z2 z3 z4 =>
        lay_anew (s := { s with heap := g }) ho1 ⟨ex.1, ex.2.1, ex.2.2⟩ rfl ins tab3 (by rw [len, mk3, q4]; omega) tup1 (by rw [len]; exact few) z1 z2 z3 (by rw [len]; exact z4) fun g2 L2 es2 ep2 t2 sb2 S2 pm2 => wpAny_pure (fin true g2 L2 es2 ep2 t2 (sb.trans sb2) S2 (pm2.trans pm))
      refine wpAny_bind ?_
      rcases S.tab.mok with e | e | e
      · have l4 : L.length = 4 := by omega
        refine go 31 ?_ (.inr (.inl rfl)) ?_ (by omega)
        · rw [l4, size_20]
        · rw [l4, size_20]; decide
      · have l18 : L.length = 18 := by omega
        refine go 127 ?_ (.inr (.inr rfl)) ?_ (by omega)
        · rw [l18, size_76]
        · rw [l18, size_76]; decide
      · omega
    · simp only [decide_eq_false hf, Bool.not_false, Bool.true_and, Bool.false_eq_true, if_false]
      try refine wpAny_bind (wpAny_pure ?_)
      exact wpAny_pure (fin true g L1 es1 (ep + 1) t3 sb ⟨⟨_, ho1, ⟨ex.1, ex.2.1, ex.2.2⟩, rfl⟩, ins, tab3, tup1, by rw [len, mk3, q4]; omega, by rw [len]; exact few⟩ pm)
  cases pl : t1.plain with
  | true =>
    simp only [if_true]
    refine wpAny_bind (by_value tup fun c => ?_)
    exact rest c
  | false =>
    simp only [Bool.false_eq_true, if_false]
    refine wpAny_bind (wpAny_pure ?_)
    exact rest true
/-! ### set(list) -/
abbrev newSet (led : Bool) : Obj := { cls := .type "set", dict := none, data := .set #[] 0 (.fresh 0 0 led) }
theorem empty_set {g : Heap} {led : Bool} (at_ : g.get? a = some (newSet led)) : NSet P w g a [] #[] 0 (.fresh 0 0 led) :=
  ⟨⟨_, at_, ⟨rfl, rfl, rfl⟩, rfl⟩, rfl, ⟨List.Pairwise.nil, rfl, rfl, .inl rfl, (fun _ m => nomatch m), (fun _ _ _ z => nomatch z)⟩, (fun _ m => nomatch m), (by show 0 * 5 < 7 * 3; decide), (by show 0 < 64; decide)⟩
theorem tup_kept {g g' : Heap} {n : Nm} {b : Addr} (tup : TupN P w g n b) (k : ∀ c o, g.get? c = some o → g'.get? c = some o) : TupN P w g' n b := by
  obtain ⟨o, its, c, ho, r⟩ := tup
  exact ⟨o, its, c, k _ _ ho, r⟩
/-- the names one by one, none twice -/
theorem set_loop {I : Addr} {fp wr : List Addr} {G : Array GenState → Array GenState → Prop} {num : Nat} {Pv : Nat → Value → Prop} {St : Nat → Shared → Prop} {R : Result → Shared → Prop} (W : WalksS P w A.in1 I fp wr G num Pv St) {S : Addr} (apart : S ∉ fp)
    (bs : List (Addr × Nm)) (len : num = bs.length) (few : bs.length < 64) (nd : (bs.map (·.2)).Nodup) (vals : ∀ i v, Pv i v → ∃ x, bs[i]? = some x ∧ v = .ref x.1) (g0 : Heap) (tups : ∀ x ∈ bs, TupN P w g0 x.2 x.1) (freeS : g0.get? S = none) (freeW : ∀ b ∈ wr, g0.get? b = none) (hu : A.in1.units < cLine) :
    ∀ (left i : Nat) (s : Shared), num - i = left → i ≤ num → St i s → (∀ b o, g0.get? b = some o → s.heap.get? b = some o) → (∃ L es ep t, NSet P w s.heap S L es ep t ∧ L.Perm (bs.take i)) →
      (∀ s' L es ep t, Moved (S :: wr) G s s' → NSet P w s'.heap S L es ep t → L.length = num → (∀ b o, g0.get? b = some o → s'.heap.get? b = some o) → R (.ok (.ret .none)) s') →
      codeAny (model P w) A (.builtin "set.update.loop" ⟨[.ref S, .ref I], []⟩) R s := by
  have outW : S ∉ wr := fun h => apart (W.sub _ h)
  have more : ∀ b ∈ wr, b ∈ S :: wr := fun b m => List.mem_cons_of_mem _ m
  have old : ∀ {s s' : Shared}, Moved wr G s s' → (∀ b o, g0.get? b = some o → s.heap.get? b = some o) → ∀ b o, g0.get? b = some o → s'.heap.get? b = some o := fun mv k b o e =>
    mv.heap b o (fun m => by rw [freeW b m] at e; cases e) (k b o e)
  have carry : ∀ {s s' : Shared} {L es ep t i}, NSet P w s.heap S L es ep t → L.Perm (bs.take i) → Moved wr G s s' → (∀ b o, g0.get? b = some o → s.heap.get? b = some o) → NSet P w s'.heap S L es ep t := fun {s s' L es ep t i} N pm mv k => by
    obtain ⟨o, ho, r⟩ := N.ob
    exact ⟨⟨o, mv.heap S o outW ho, r⟩, N.rows, N.tab, fun x m => tup_kept (tups x (List.mem_of_mem_take (pm.mem_iff.mp m))) (old mv k), N.room, N.few⟩
  intro left
  induction left with
  | zero =>
    rintro i s hl hi st k ⟨L, es, ep, t, N, pm⟩ fin
    obtain rfl : i = num := by omega
    refine codeAny_builtin PyProof.Rows.F.entry_set_update_loop ?_
    rw [Around.under_plainId PyProof.Rows.F.plain_set_update_loop _]
    refine wpAny_bind (m := pyNext (.ref I)) (W.done s _ _ st fun s' mv => ?_)
    exact wpAny_pure (fin s' L es ep t (mv.mono more) (carry N pm mv k) (by rw [pm.length_eq, len, List.take_length]) (old mv k))
  | succ left again =>
    rintro i s hl hi st k ⟨L, es, ep, t, N, pm⟩ fin
    have lt : i < num := by omega
    refine codeAny_builtin PyProof.Rows.F.entry_set_update_loop ?_
    rw [Around.under_plainId PyProof.Rows.F.plain_set_update_loop _]
    refine wpAny_bind (m := pyNext (.ref I)) (W.item i s _ _ lt st fun v s1 hv st1 mv => ?_)
    obtain ⟨x, hx, rfl⟩ := vals i v hv
    have N1 := carry N pm mv k
    have k1 := old mv k
    have tup := tup_kept (tups x (List.mem_of_getElem? hx)) k1
    have new : ∀ y ∈ L, y.2 ≠ x.2 := fun y m e => by
      have hx2 : (bs.map (·.2))[i]? = some x.2 := by rw [List.getElem?_map, hx]; rfl
      refine take_nodup nd hx2 ?_
      rw [← e, ← List.map_take]
      exact List.mem_map_of_mem (pm.mem_iff.mp m)
    have lenL : L.length = i := by rw [pm.length_eq, List.length_take]; omega
    refine wpAny_bind (m := holding [Value.ref x.1] (setAdd S (.ref x.1))) (wpAny_holding ?_)
    unfold setAdd
    refine wpAny_holding (wpAny_bind (wpAny_pyHash_tuple hu tup ?_))
    refine put_in (s := { s1 with toks := s1.toks + (x.2.length + 1) }) N1 tup hu new (by omega) fun c g L2 es2 ep2 t2 sb N2 pm2 => ?_
    have kg : ∀ b o, g0.get? b = some o → g.get? b = some o := fun b o e => (sb.2 b (fun z => by rw [z, freeS] at e; cases e)).trans (k1 b o e)
    have perm2 : L2.Perm (bs.take (i + 1)) := by
      rw [take_next hx]
      exact pm2.trans ((pm.cons x).trans (List.perm_append_singleton x _).symm)
    refine wpAny_pure ⟨plainId_quiet PyProof.Rows.F.plain_set_update_loop _, ?_⟩
    refine again (i + 1) _ (by omega) lt (W.frame _ s1 _ _ st1 (Nat.le_add_right _ _) fun b m o e => (sb.2 b fun z => apart (z ▸ m)).trans e) kg ⟨L2, es2, ep2, t2, N2, perm2⟩ fun s2 L3 es3 ep3 t3 mv2 N3 l3 k3 => ?_
    exact fin s2 L3 es3 ep3 t3 (Moved.trans W.gtrans ((mv.mono more).then_heap (Nat.le_add_right _ _) fun b o m e => (sb.2 b fun z => m (by rw [z]; exact List.mem_cons_self)).trans e) mv2) N3 l3 k3
/-- set(bs) of a list of distinct names -/
theorem call_set_names {l : Addr} {items : Array Value} (bs : List (Addr × Nm)) {Q : Value → Shared → Prop} (hh : A.handled = none) (hl : s.heap.IsList l items) (vals : items.toList = bs.map fun x => Value.ref x.1) (nd : (bs.map (·.2)).Nodup) (few : bs.length < 64)
    (tups : ∀ x ∈ bs, TupN P w s.heap x.2 x.1) (hu : A.units + 3 < cLine)
    (fin : ∀ (g : Heap) (tk : Nat) L es ep t, NSet P w g s.heap.objs.size L es ep t → L.length = bs.length → (∀ b o, s.heap.get? b = some o → g.get? b = some o) → Q (.ref s.heap.objs.size) { s with heap := g, toks := tk }) :
    wpAny (model P w) A (call (.type "set") [.ref l]) Q E s := by
  have num : items.size = bs.length := by rw [← Array.length_toList, vals, List.length_map]
  have called := PySem.F.called_set
  obtain ⟨c, tl, hmro⟩ := called.mro
  have hmade := called.made
  have hsub := called.sub
  have h1 := called.notType
  have h2 := called.canCreate
  have hct := PySem.F.typeCall_set_1 (.ref l)
  refine wpAny_call (codeAny_of_tree ?start)
  case start =>
    show wpAny _ _ (callAny (.type "set") _) _ _ s
    refine wpAny_pure ⟨Code.quiet_builtin _ (by decide +kernel), codeAny_builtin PySem.F.entry_type_call ?_⟩
    rw [Around.under_plain (weight_type_call_type "set" [.ref l] []) rfl]
    repeat (any_goals (first | assumption | wp_step))
    refine codeAny_mono (code_set_new_1 (.ref l) (E := E) (Q₁ := fun v t => ∃ led : Bool, v = .ref s.heap.objs.size ∧ t = { s with heap := s.heap.push (newSet led) }) fun led => ⟨led, rfl, rfl⟩) fun r t hr => ?_
    rcases r with e | fl
    · exact hr
    cases fl with
    | ret v =>
      obtain ⟨led, rfl, rfl⟩ := hr
      have atS : (s.heap.push (newSet led)).get? s.heap.objs.size = some (newSet led) := Heap.get?_push_size _ rfl
      have isS : Shared.TypeIs { s with heap := s.heap.push (newSet led) } (.ref s.heap.objs.size) "set" := ⟨_, atS, rfl⟩
      have hli := called.init.lookup
      have hbi := called.init.bind (.ref s.heap.objs.size)
      repeat (any_goals (first | assumption | wp_step))
      refine codeAny_mono (codeAny_call_builtin (R := wants (fun v t => v = .none ∧ ∃ g tk L es ep tb, t = { s with heap := g, toks := tk } ∧ NSet P w g s.heap.objs.size L es ep tb ∧ L.length = bs.length ∧ ∀ b o, s.heap.get? b = some o → g.get? b = some o) E) called.init.plain PySem.F.entry_set_init (check_set_init_1 isS ?update)) fun r2 t2 hr2 => ?back
      case back =>
        rcases r2 with e | fl2
        · exact hr2
        cases fl2 with
        | ret v2 =>
          obtain ⟨rfl, g, tk, L, es, ep, tb, rfl, N, len, k⟩ := hr2
          repeat (any_goals (first | assumption | wp_step))
          exact fin g tk L es ep tb N len k
        | _ => exact hr2.elim
      case update =>
        obtain ⟨⟨cls, dic, dat, slo⟩, hol, hcl, nl, hdl⟩ := hl
        dsimp only at hcl hdl
        subst hcl hdl
        have onPush := Heap.get?_push_of_some (newSet led) hol
        have sub1 := PySem.F.sub_list_set
        have sub2 := PySem.F.sub_list_frozenset
        have noDict : (Value.type "list" == Value.type "dict") = false := by decide
        have isL : (s.heap.push (newSet led)).IsList l items := ⟨_, onPush, rfl, nl, rfl⟩
        unfold Builtin.«set.__init__» noKeywords Builtin.Frozenset.updateFrom
        generalize hit : pyIter = iter
        wp_walk
        subst hit
        refine wpAny_pyIter_list isL (wpAny_bind (wpAny_runValue ?_))
        have low : l < s.heap.objs.size := Heap.lt_size hol
        have one : (s.heap.push (newSet led)).objs.size = s.heap.objs.size + 1 := Heap.size_push ..
        have hh3 : A.in1.in1.in1.handled = none := by simp [hh]
        have apartI : l ≠ (s.heap.push (newSet led)).objs.size := by rw [one]; exact Nat.ne_of_lt (Nat.lt_succ_of_lt low)
        have apartS : s.heap.objs.size ∉ [(s.heap.push (newSet led)).objs.size, l] := by
          rw [one]
          simp only [List.mem_cons, List.not_mem_nil, or_false, not_or]
          exact ⟨Nat.ne_of_lt (Nat.lt_succ_self _), Nat.ne_of_gt low⟩
        have vals2 : ∀ (i : Nat) (v : Value), items[i]? = some v → ∃ x, bs[i]? = some x ∧ v = .ref x.1 := fun i v hv => by
          rw [← Array.getElem?_toList, vals, List.getElem?_map] at hv
          cases hb : bs[i]? with
          | none =>
            rw [hb] at hv
            cases hv
          | some x =>
            rw [hb] at hv
            exact ⟨x, rfl, (Option.some.inj hv).symm⟩
        have none_at : ∀ b, s.heap.objs.size ≤ b → s.heap.get? b = none := fun b hb => by
          cases q : s.heap.get? b with
          | none => rfl
          | some o => exact absurd (Heap.lt_size q) (Nat.not_lt.mpr hb)
        refine set_loop ((Walks.list hh3 _ l apartI items).toS) apartS bs num few nd vals2 s.heap tups (none_at _ (Nat.le_refl _)) (fun b m => none_at b (by rw [List.mem_singleton.mp m, one]; exact Nat.le_succ _)) hu (items.size - 0) 0 _ (by omega) (Nat.zero_le _)
          ⟨⟨_, Heap.get?_push_size _ rfl, rfl, rfl⟩, isL.push _⟩ (fun b o e => Heap.get?_push_of_some _ (Heap.get?_push_of_some _ e)) ⟨[], #[], 0, _, empty_set (Heap.get?_push_of_some _ atS), List.Perm.refl _⟩ ?_
        rintro ⟨g, g2, d2, tk, os2⟩ L es ep tb mv N len k
        obtain rfl : g2 = s.gens := mv.gens
        obtain rfl : d2 = s.drawn := mv.drawn
        obtain rfl : os2 = s.os := mv.os
        exact wpAny_pure (wpAny_pure ⟨rfl, g, tk, L, es, ep, tb, rfl, N, len.trans num, k⟩)
    | _ => exact hr.elim
end
end K42

/-! K42Zl: len(set(..)) as a rule. -/
namespace K42
open PySem PySem.Spec PyProof.Rows
open L2 hiding St
theorem refs_vals : ∀ {bs : List (Addr × Nm)} {us : List Value}, Vals (bs.map fun b => V.ref b.1) us → us = bs.map fun b => Value.ref b.1
  | [], _, .nil => rfl
  | _ :: _, _, .cons (.refl _) t => congrArg _ (refs_vals t)
section
variable {X : Cx}
def tLenSetN (K : PySem.W.Frag) (ta : TE) : TE := fun σ H Q => ta σ H fun x H1 => ∃ (l : Addr) (bs : List (Addr × Nm)), x = V.ref l ∧ SqL K H1 l (bs.map fun b => V.ref b.1) ∧ (∀ b ∈ bs, H1 b.1 = some (.tup (b.2.map kV))) ∧ (bs.map (·.2)).Nodup ∧ bs.length < 64 ∧ Q (.int (bs.length : Nat)) H1
theorem pe_lenSetN {a : Expr} {ta : TE} {p p2 q pos : Pos} (hc : X.calm = true) (hu : X.A.units + 64 < cLine) (g1 : Gl X "len") (m1 : X.mg "len" = none) (g2 : Gl X "set") (m2 : X.mg "set" = none) (ha : PE X a ta)
    (plain : starEach [a] X.env = (false, eval a X.env) :: starEach [] X.env := by rfl) : PE X (.Call (.Name "len" p) [.Call (.Name "set" p2) [a] [] q] [] pos) (tLenSetN X.K ta) := by
  refine ⟨fun pins s σ H Q I h => Call_ (ld_blt I g1 m1 PySem.boot_len (PyProof.Rows.callWith_builtin1 (PyProof.Rows.args_cons (Call_ (ld_blt I g2 m2 PyProof.Rows.boot_set ?made)) rfl) rfl rfl))⟩
  case made =>
    refine PyProof.Rows.callWith_type1 (PyProof.Rows.args_cons (thn (ha.run pins s σ H _ I h) ?_) plain) plain rfl
    rintro v s1 ⟨x, H1, I1, rx, l, bs, rfl, hl, hb, nd, few, fin⟩
    cases rx
    obtain ⟨its, rv, isL, _⟩ := I1.list hl
    refine PyProof.Rows.args_nil (call_set_names (P := X.prog) (w := X.w) bs (I1.ok.hd hc) isL.isList (by simpa using refs_vals rv) nd few (fun b m => key_of I1.hok (hb b m)) (by omega) fun g tk L es ep t N len k => PyProof.Rows.args_nil ?_)
    obtain ⟨o, ho, ex, dt⟩ := N.ob
    have I2 : Inv X pins σ H1 { s1 with heap := g, toks := tk } := I1.kept k
    have zs := N.size
    exact call_len_set ho ex dt N.fits (by omega) ⟨.int (bs.length : Nat), H1, I2.tok _, ⟨_, by rw [zs, len]⟩, fin⟩
end
end K42

/-! K42Zm: plain facts and data for the law. -/
namespace K42
open PySem PySem.Spec PyProof.Rows
open L2 hiding St
/-! ### one entry more -/
theorem fwd_snoc (t : En) : ∀ (T : List En) (L : List Nm), fwd (T ++ [t]) L = ((meetF t.1 t.2.1 (fwd T L).1).1 ++ t.2.2, (fwd T L).2 ++ (meetF t.1 t.2.1 (fwd T L).1).2)
  | [], L => by
    show ((meetF t.1 t.2.1 L).1 ++ t.2.2, (meetF t.1 t.2.1 L).2 ++ []) = (_, [] ++ _)
    rw [List.append_nil]
    rfl
  | u :: T, L => by
    have ih := fwd_snoc t T ((meetF u.1 u.2.1 L).1 ++ u.2.2)
    show ((fwd (T ++ [t]) _).1, (meetF u.1 u.2.1 L).2 ++ (fwd (T ++ [t]) _).2) = _
    rw [ih]
    show (_, _ ++ (_ ++ _)) = (_, (_ ++ _) ++ _)
    rw [List.append_assoc]
    rfl
theorem fut_snoc (t : En) (T : List En) : fut (T ++ [t]) = fut T ++ t.2.2.map fun n => (n, t.1) := by
  unfold fut
  rw [List.flatMap_append, List.flatMap_cons, List.flatMap_nil, List.append_nil]
theorem meetF_word (p : Plc) : ∀ (es : List Ev) (L : List Nm), ∀ x ∈ (meetF p es L).2, x.1 ∈ L ∧ ∃ ev ∈ es, x.2.1 = ev.1
  | [], _, x, h => by cases h
  | ev :: es, L, x, h => by
    rcases List.mem_append.mp h with h | h
    · obtain ⟨n, hn, rfl⟩ := List.mem_map.mp h
      exact ⟨(srt_perm L).mem_iff.mp ((List.mem_filter.mp hn).1), ev, List.mem_cons_self, rfl⟩
    · obtain ⟨h1, e, he, h2⟩ := meetF_word p es _ x h
      exact ⟨(List.mem_filter.mp h1).1, e, List.mem_cons_of_mem _ he, h2⟩
theorem fwd_word : ∀ (T : List En) (L : List Nm), ∀ x ∈ (fwd T L).2, ∃ t ∈ T, ∃ ev ∈ t.2.1, x.2.1 = ev.1
  | [], _, x, h => by cases h
  | t :: r, L, x, h => by
    rcases List.mem_append.mp h with h | h
    · obtain ⟨_, e, he, h2⟩ := meetF_word _ _ _ x h
      exact ⟨t, List.mem_cons_self, e, he, h2⟩
    · obtain ⟨u, hu, r⟩ := fwd_word r _ x h
      exact ⟨u, List.mem_cons_of_mem _ hu, r⟩
/-- the names in play are those laid so far -/
theorem fwd_in {T : List En} {n : Nm} (h : n ∈ (fwd T []).1) : n ∈ (fut T).map (·.1) := by
  have p := fwd_perm T []
  rw [List.nil_append] at p
  exact p.mem_iff.mp (List.mem_append_right _ h)
theorem fwd_letter {T : List En} {x : Lt} (h : x ∈ (fwd T []).2) : x.1 ∈ (fut T).map (·.1) := by
  have p := fwd_perm T []
  rw [List.nil_append] at p
  exact p.mem_iff.mp (List.mem_append_left _ (List.mem_map_of_mem h))
theorem fwd_nodup {T : List En} (nd : ((fut T).map (·.1)).Nodup) : ((fwd T []).2.map (·.1) ++ (fwd T []).1).Nodup := by
  have p := fwd_perm T []
  rw [List.nil_append] at p
  exact p.symm.nodup nd
/-! ### data -/
theorem kData_alike {a b : Nm} (ha : NmOk a) (hb : NmOk b) : PySem.W.alike (kData a) (kData b) = true := by
  obtain ⟨k, _, p, _, rfl⟩ := ha
  obtain ⟨l, _, q, _, rfl⟩ := hb
  show PySem.W.alike (.tuple [.str k, .str p]) (.tuple [.str l, .str q]) = true
  simp [PySem.W.alike, PySem.W.alikeAll]
theorem eqv_names {a b : Nm} (ha : NmOk a) (hb : NmOk b) : PyData.eqv (kData a) (kData b) = decide (a = b) := by
  by_cases e : a = b
  · subst e
    rw [decide_eq_true rfl]
    exact PySem.W.eqv_refl_alike _ (kData_alike ha ha)
  · rw [decide_eq_false e]
    cases h : PyData.eqv (kData a) (kData b) with
    | false => rfl
    | true => exact absurd (toks_inj a b ((PySem.W.toks_eqv _ _ (kData_alike ha hb)).1 h)) e
theorem kData_lay {a : Nm} (ha : NmOk a) : (kData a).canLay0 = true := by
  obtain ⟨k, hk, p, hp, rfl⟩ := ha
  have kl : ∀ k ∈ KINDS, (PyData.str k).canLay0 = true := by decide +kernel
  show (PyData.tuple [.str k, .str p]).canLay0 = true
  rw [PyData.canLay0, PyData.canLayAll0, PyData.canLayAll0, PyData.canLayAll0, kl k hk, hp]
  rfl
theorem kData3_lay {a : Nm} (ha : NmOk a) : (kData (.inr "w" :: a)).canLay0 = true := by
  obtain ⟨k, hk, p, hp, rfl⟩ := ha
  have kl : ∀ k ∈ KINDS, (PyData.str k).canLay0 = true := by decide +kernel
  have wl : (PyData.str "w").canLay0 = true := by decide +kernel
  show (PyData.tuple [.str "w", .str k, .str p]).canLay0 = true
  rw [PyData.canLay0, PyData.canLayAll0, PyData.canLayAll0, PyData.canLayAll0, PyData.canLayAll0, wl, kl k hk, hp]
  rfl
/-- a letter as data -/
def letD (x : Lt) : PyData := .tuple (.str "event" :: .str "w" :: (x.1.map kD ++ [.str x.2.1, .tuple [.int x.2.2.1, .int x.2.2.2]]))
theorem letD_lay {x : Lt} (ha : NmOk x.1) (hw : x.2.1 ∈ EVW) : (letD x).canLay0 = true ∧ (letD x).depth ≤ 10 ∧ PySem.W.alike (letD x) (letD x) = true := by
  obtain ⟨a, wd, q⟩ := x
  obtain ⟨k, hk, p, hp, rfl⟩ := ha
  have kl : ∀ k ∈ KINDS, (PyData.str k).canLay0 = true := by decide +kernel
  have el : ∀ k ∈ EVW, (PyData.str k).canLay0 = true := by decide +kernel
  have wl : (PyData.str "w").canLay0 = true := by decide +kernel
  have vl : (PyData.str "event").canLay0 = true := by decide +kernel
  have hw2 := el wd hw
  have e : letD ([.inr k, .inr p], wd, q) = .tuple [.str "event", .str "w", .str k, .str p, .str wd, .tuple [.int q.1, .int q.2]] := rfl
  rw [e]
  refine ⟨?_, ?_, ?_⟩
  · rw [PyData.canLay0, PyData.canLayAll0, PyData.canLayAll0, PyData.canLayAll0, PyData.canLayAll0, PyData.canLayAll0, PyData.canLayAll0, PyData.canLayAll0, vl, wl, kl k hk, hp, hw2]
    rfl
  · simp [PyData.depth, PyData.depthAll]
  · simp [PySem.W.alike, PySem.W.alikeAll]
theorem lay_list {ds : List PyData} (h : ∀ d ∈ ds, d.canLay0 = true) : PyData.canLayAll0 ds = true := by
  induction ds with
  | nil => rfl
  | cons d ds ih =>
    rw [PyData.canLayAll0, h d List.mem_cons_self, ih fun e m => h e (List.mem_cons_of_mem _ m)]
    rfl
theorem depth_list {ds : List PyData} {n : Nat} (h : ∀ d ∈ ds, d.depth ≤ n) : PyData.depthAll ds ≤ n := by
  induction ds with
  | nil => simp [PyData.depthAll]
  | cons d ds ih =>
    rw [PyData.depthAll]
    have := h d List.mem_cons_self
    have := ih fun e m => h e (List.mem_cons_of_mem _ m)
    omega
theorem alike_list {ds : List PyData} (h : ∀ d ∈ ds, PySem.W.alike d d = true) : PySem.W.alikeAll ds ds = true := by
  induction ds with
  | nil => rw [PySem.W.alikeAll]
  | cons d ds ih =>
    rw [PySem.W.alikeAll, h d List.mem_cons_self, ih fun e m => h e (List.mem_cons_of_mem _ m)]
    rfl
theorem shaped_list {ds : List PyData} (h : ∀ d ∈ ds, d.canLay0 = true) (g : ∀ d ∈ ds, d.depth ≤ 10) : SeqAt.shaped (.list ds) = true := by
  refine shaped_of (n := 11) (by rw [PyData.canLay0]; exact lay_list h) ?_ (by decide)
  rw [PyData.depth]
  have := depth_list g
  omega
theorem eqv_list {ds : List PyData} (h : ∀ d ∈ ds, PySem.W.alike d d = true) : PyData.eqv (.list ds) (.list ds) = true :=
  PySem.W.eqv_refl_alike _ (by rw [PySem.W.alike]; exact alike_list h)
/-- addresses with what they read as -/
theorem dp_all {K : PySem.W.Frag} {H : Hp} {α : Type} {f : α → PyData} : ∀ {as : List Addr} {xs : List α}, Paired (fun a x => Dp K H (.ref a) (f x)) as xs → DpAll K H (as.map V.ref) (xs.map f)
  | _, _, .nil => .nil
  | _, _, .cons r t => .cons r (dp_all t)
theorem dp_let {K : PySem.W.Frag} {H : Hp} {a : Addr} {x : Lt} (h : LetIt H a x) : Dp K H (.ref a) (letD x) := by
  obtain ⟨pa, h1, h2⟩ := h
  refine .tup (SqT.of h1) (.cons (.str _) (.cons (.str _) ?_))
  have tail : DpAll K H [.str x.2.1, .ref pa] [.str x.2.1, .tuple [.int x.2.2.1, .int x.2.2.2]] := .cons (.str _) (.cons (.tup (SqT.of h2) (.cons (.int _) (.cons (.int _) .nil))) .nil)
  have app : ∀ k : Nm, DpAll K H (k.map kV ++ [.str x.2.1, .ref pa]) (k.map kD ++ [.str x.2.1, .tuple [.int x.2.2.1, .int x.2.2.2]]) := by
    intro k
    induction k with
    | nil => exact tail
    | cons y k ih =>
      cases y with
      | inl i => exact .cons (.int _) ih
      | inr z => exact .cons (.str _) ih
  exact app x.1
/-- a place as data -/
def plD (p : Plc) : PyData := .tuple [.int p.1, .int p.2]
theorem plD_ok (p : Plc) : (plD p).canLay0 = true ∧ (plD p).depth ≤ 10 := by
  unfold plD
  exact ⟨rfl, by simp [PyData.depth, PyData.depthAll]⟩
theorem plD_alike (p q : Plc) : PySem.W.alike (plD p) (plD q) = true := by
  unfold plD
  simp [PySem.W.alike, PySem.W.alikeAll]
end K42

/-! K42Zn: the law. -/
namespace K42
open PySem L2
open PyProof.Rows (envOfC)
open C8 (Cal Met Mak Def cal0 met0 mak0 pe_c pe_mk pe_mt pe_mt0 fnScope_by fnScope fnBody fnArgs pe_gc)
section
variable {X : Cx} {k j : Nat} {C : Addr} {x : PySem.Str} {sp : Sp} {dvs : List V} {p pos : Pos}
/-- C() -/
theorem pe_mk0 (c : Mak X.prog X.w X.K X.mg X.base k x C sp dvs) (hr : Room j X.A) (hk : k + 1 ≤ j) (hg : Gl X x) (hdb : (x == ("__debug__" : PySem.Str)) = false := by decide) : PE X (.Call (.Name x p) [] [] pos) (tMake C sp dvs C8.E0 tNil) := by
  obtain ⟨f, fd, ps, ds, M, F, hm, b, d⟩ := c.ex
  exact pe_make0 M F (hr.mono hk) hg hm b d C8.pass0 hdb
end
/-- all but what stands at a, b and c is kept -/
def Fr3 (a b c : Addr) (H H' : Hp) : Prop := ∀ d o, H d = some o → d ≠ a → d ≠ b → d ≠ c → H' d = some o
theorem LetIt.tups {H H' : Hp} {a : Addr} {x : Lt} (h : LetIt H a x) (s : TupS H H') : LetIt H' a x := by
  obtain ⟨pa, h1, h2⟩ := h
  exact ⟨pa, s _ _ h1, s _ _ h2⟩
theorem WRel.tups {H H' : Hp} {kv : List Key × V} {x : Nm × Plc} (h : WRel H kv x) (s : TupS H H') : WRel H' kv x := by
  obtain ⟨e, pa, e2, hp⟩ := h
  exact ⟨e, pa, e2, s _ _ hp⟩
theorem pool_ne {H : Hp} {p l : Addr} {as : List Addr} (hp : PoolAt H p) (hl : H l = some (.lst (as.map V.ref))) : l ≠ p := by
  obtain ⟨a, b, h1, _⟩ := hp
  intro e
  rw [e, h1] at hl
  cases as with
  | nil => cases hl
  | cons x r => cases hl
theorem TupS.fr2 {a b : Addr} {H H' : Hp} (f : Fr2 a b H H') (ha : ∀ xs, H a ≠ some (.tup xs)) (hb : ∀ xs, H b ≠ some (.tup xs)) : TupS H H' := fun c xs h => f c _ h (fun e => ha xs (e ▸ h)) fun e => hb xs (e ▸ h)
theorem TupS.fr3 {a b c : Addr} {H H' : Hp} (f : Fr3 a b c H H') (ha : ∀ xs, H a ≠ some (.tup xs)) (hb : ∀ xs, H b ≠ some (.tup xs)) (hc : ∀ xs, H c ≠ some (.tup xs)) : TupS H H' := fun d xs h => f d _ h (fun e => ha xs (e ▸ h)) (fun e => hb xs (e ▸ h)) fun e => hc xs (e ▸ h)
theorem notup_l {H : Hp} {a : Addr} {ys : List V} (h : H a = some (.lst ys)) : ∀ xs, H a ≠ some (.tup xs) := fun xs e => by rw [h] at e; cases e
theorem notup_d {H : Hp} {a : Addr} {ys : List (List Key × V)} (h : H a = some (.dT ys)) : ∀ xs, H a ≠ some (.tup xs) := fun xs e => by rw [h] at e; cases e
theorem PoolAt.notup {H : Hp} {p : Addr} (h : PoolAt H p) : ∀ xs, H p ≠ some (.tup xs) := by
  obtain ⟨a, b, h1, _⟩ := h
  exact notup_l h1
/-- a key among known ones, or not -/
theorem any_known {kvs : List (List Key × V)} {n : Nm} (hn : NmOk n) (hk : ∀ m ∈ kvs.map (·.1), NmOk m) : ((kvs.map fun kv => kData kv.1).any fun z => PyData.eqv z (kData n)) = inB (kvs.map (·.1)) n := by
  cases e : inB (kvs.map (·.1)) n with
  | true =>
    obtain ⟨kv, hkv, rfl⟩ := List.mem_map.mp (inB_iff.mp e)
    exact List.any_eq_true.mpr ⟨_, List.mem_map_of_mem hkv, by rw [eqv_names hn hn]; exact decide_eq_true rfl⟩
  | false =>
    refine Bool.eq_false_iff.mpr fun c => ?_
    obtain ⟨d, hd, c⟩ := List.any_eq_true.mp c
    obtain ⟨kv, hkv, rfl⟩ := List.mem_map.mp hd
    rw [eqv_names (hk _ (List.mem_map_of_mem hkv)) hn] at c
    have c := of_decide_eq_true c
    rw [inB_iff.mpr (c ▸ List.mem_map_of_mem (f := (·.1)) hkv)] at e
    cases e
theorem paired_flip {α β : Type} {R : α → β → Prop} : ∀ {l : List α} {m : List β}, Paired R l m → Paired (fun b a => R a b) m l
  | _, _, .nil => .nil
  | _, _, .cons r t => .cons r (paired_flip t)
theorem new_items {H : Hp} {pa : Addr} {pl : Plc} (h : H pa = some (.tup [.int pl.1, .int pl.2])) : ∀ N : List Nm, Paired (WRel H) (N.map fun n => ((n : List Key), V.ref pa)) (N.map fun n => (n, pl))
  | [] => .nil
  | _ :: N => .cons ⟨rfl, pa, rfl, h⟩ (new_items h N)
theorem paired_mem_imp {α β : Type} {R S : α → β → Prop} : ∀ {l : List α} {m : List β}, (∀ a b, b ∈ m → R a b → S a b) → Paired R l m → Paired S l m
  | _, _, _, .nil => .nil
  | _, _, h, .cons r t => .cons (h _ _ List.mem_cons_self r) (paired_mem_imp (fun a b m => h a b (List.mem_cons_of_mem _ m)) t)
/-- new watchers -/
theorem made_at {C x dx D : Addr} {H : Hp} (fx : H x = none) (fdx : H dx = none) (nex : dx ≠ x) (fD : (upd (upd H dx (.own x)) x (.ins C dx [])) D = none) :
    Same H (upd (upd (upd (upd H dx (.own x)) x (.ins C dx [])) D (.dT [])) x (.ins C dx [("laid_ones", .ref D)])) ∧ WAt C x dx D (upd (upd (upd (upd H dx (.own x)) x (.ins C dx [])) D (.dT [])) x (.ins C dx [("laid_ones", .ref D)])) [] ∧ H D = none := by
  have fx2 : (upd H dx (.own x)) x = none := by rw [upd_ne (Ne.symm nex)]; exact fx
  have sab := (same_upd (o := .own x) fdx).trans (same_upd (o := .ins C dx []) fx2)
  have nDx : D ≠ x := Ne.symm (ne_of_none upd_same fD)
  exact ⟨(sab.trans (same_upd fD)).new fx, ⟨upd_same, by rw [upd_ne nDx, upd_same]; rfl⟩, sab.free fD⟩
theorem SomeAt.same {H H' : Hp} {a : Addr} {W : List (Nm × Plc)} (h : SomeAt H a W) (s : Same H H') : SomeAt H' a W := by
  obtain ⟨as, h1, h2⟩ := h
  refine ⟨as, s _ _ h1, paired_imp (fun b x z => ?_) h2⟩
  obtain ⟨pa, k, p, e, z1, z2⟩ := z
  exact ⟨pa, k, p, e, s _ _ z1, s _ _ z2⟩
theorem WAt.same {C x dx D : Addr} {H H' : Hp} {L : List Nm} (h : WAt C x dx D H L) (s : Same H H') : WAt C x dx D H' L := ⟨s _ _ h.ins, s _ _ h.dct⟩
theorem paired_unzip {α β : Type} {R : α → β → Prop} : ∀ {l : List α} {m : List β}, Paired R l m → ∃ bs : List (α × β), bs.map (·.1) = l ∧ bs.map (·.2) = m ∧ ∀ b ∈ bs, R b.1 b.2
  | _, _, .nil => ⟨[], rfl, rfl, fun _ m => nomatch m⟩
  | a :: l, b :: m, .cons r t => by
    obtain ⟨bs, e1, e2, h⟩ := paired_unzip t
    refine ⟨(a, b) :: bs, by rw [List.map_cons, e1], by rw [List.map_cons, e2], fun c hc => ?_⟩
    rcases List.mem_cons.mp hc with rfl | hc
    · exact r
    · exact h c hc
theorem plD_lt (q p : Plc) : PySem.W.dataLt (plD q) (plD p) = ltP q p := by
  unfold plD
  rw [PySem.W.dataLt_ii]
  cases h : ltP q p with
  | true => exact decide_eq_true ((ltP_iff q p).mp h)
  | false => exact decide_eq_false fun c => by rw [(ltP_iff q p).mpr c] at h; cases h
theorem in_order {cs : List (Addr × Lt)} (h : (cs.map (·.2)).Pairwise fun x y => ltP y.2.2 x.2.2 = false) : (cs.map fun c => (V.ref c.1, plD c.2.2.2)).mergeSort leD = cs.map fun c => (V.ref c.1, plD c.2.2.2) := by
  refine (PySem.W.sort_unique (PySem.W.sortLe_total _ false _) ?_ fun _ => rfl).symm
  rw [List.pairwise_map] at h ⊢
  refine h.imp fun {a b} z => ?_
  show (!PySem.W.dataLt (plD b.2.2.2) (plD a.2.2.2)) = true
  rw [plD_lt, z]
  rfl
theorem names_sorted (cs : List (Addr × Nm)) : (cs.map fun c => (V.ref c.1, kData c.2)).mergeSort leD = (cs.mergeSort leK).map fun c => (V.ref c.1, kData c.2) :=
  (PySem.W.sort_maps (r := leK) (s := leD) (fun c : Addr × Nm => (V.ref c.1, kData c.2)) fun _ _ _ _ => rfl).symm
theorem paired_mapr {α β γ : Type} {f : β → γ} {R : α → γ → Prop} : ∀ {l : List α} {m : List β}, Paired (fun a b => R a (f b)) l m → Paired R l (m.map f)
  | _, _, .nil => .nil
  | _, _, .cons r t => .cons r (paired_mapr t)
/-- the law's things behind some entries -/
structure LInv (p ld D lt : Addr) (G H' : Hp) (ts : List (Plc × List Ev)) (i : Nat) (T : List En) : Prop where
  fr : Fr3 p ld D G H'
  pool : PoolAt H' p
  told : toldOf T = ts.take i
  dct : H' D = some (.dT (laidKv (fwd T []).1))
  laid : ∃ kvs : List (List Key × V), H' ld = some (.dT kvs) ∧ Paired (WRel H') kvs (fut T)
  lets : ∃ as : List Addr, H' lt = some (.lst (as.map V.ref)) ∧ Paired (LetIt H') as (fwd T []).2
  ok : ∀ y ∈ fut T, NmOk y.1
  nd : ((fut T).map (·.1)).Nodup
  few : (fut T).length ≤ 2 * i
section
variable {P : Program} {w : World} {K : PySem.W.Frag} {mg : PySem.Str → Option Value} {base : Heap}
def spLaw (K : PySem.W.Frag) : Sp := fun vs H Q _ => ∃ (a : Addr) (ns : List Int), vs = [.ref a] ∧ SqL K H a (ns.map V.int) ∧ ns.length ≤ 63 ∧ ∀ H', Q (.bl true) H'
theorem ok_law {C f : Addr} {fd : FuncData} (T : Tx K w mg) (Wx : Wc K mg C) (F : C8.Def K mg "law" sLaw f fd) (cP : Cal P w K mg base 1 "_law_pool" (spPool K) []) (cR : Cal P w K mg base 6 "_law_row" spRow []) (cT : Cal P w K mg base 9 "told_by" spToldBy [])
    (cL : Cal P w K mg base 4 "_law_laid" spLaid []) (cI : Mak P w K mg base 1 "Watchers" C (spWInit C) []) (cY : Met P w K mg base 1 C "lay" (spWLay C) []) (cK : Met P w K mg base 1 C "kept" (spWKept C) []) (cM : Met P w K mg base 2 C "meet" (spWMeet C) [])
    (cA : Met P w K mg base 2 C "anew" (spWAnew C) []) : FnOk P w K mg base C8.CX0 10 f fd pLaw (spLaw K) := by
  refine C8.fn0 F.fn scLaw (fun vs H Q E h => ?_) (fun cdv A outer s H vs Q E hr h => ?_)
  · obtain ⟨a, ns, rfl, _⟩ := h
    rfl
  · obtain ⟨sc, ns, rfl, hS, hns, k⟩ := h
    have hu := hu_of hr
    have hu64 := hr.units
    have hu65 : (A.deeper (envOfC "law" (fnScope sLaw) s.heap.objs.size f cdv)).units + 65 < cLine := by
      have := hr.un
      omega
    refine ⟨_, pss_cons (ps_for PassesOwn.never rfl (pi_range1 (by rfl) T.range (pa_cons (pe_callB (call_max2 rfl) (by rfl) T.max (by decide +kernel) (pa_cons pe_int (pa_cons (pe_callB (call_min2 rfl) (by rfl) T.min (by decide +kernel) (pa_cons (pe_callB call_len_seq (by rfl) T.len PySem.boot_len (pa_cons (pv 0) pa_nil)) (pa_cons pe_int pa_nil))) pa_nil))) pa_nil)) (pg_name (i := 1) scLaw.nd rfl (Or.inl rfl))
        (pss_cons (ps_set (i := 2) scLaw.nd rfl (Or.inl rfl) (pe_c cP hr (by decide) (by rfl) (pa_cons (pv 0) (pa_cons (pv 1) pa_nil))))
        (pss_cons (ps_set (i := 3) scLaw.nd rfl (Or.inl rfl) (pe_c cT hr (by decide) (by rfl) (pa_cons (pe_c cR hr (by decide) (by rfl) (pa_cons (pv 2) pa_nil)) pa_nil)))
        (pss_cons (ps_set (i := 4) scLaw.nd rfl (Or.inl rfl) (pe_mk0 cI hr (by decide) (by rfl)))
        (pss_cons (ps_set (i := 5) scLaw.nd rfl (Or.inr rfl) pe_dnewT)
        (C8.pss_cut (ps_set (i := 6) scLaw.nd rfl (Or.inl rfl) (pe_lst pa_nil))
        (C8.pss_cut (ps_for PassesOwn.never rfl (pi_list (pv 3)) (pg_tup rfl (pgs_cons (pg_name (i := 7) scLaw.nd rfl (Or.inl rfl)) (pgs_cons (pg_name (i := 8) scLaw.nd rfl (Or.inl rfl)) (pgs_cons (pg_name (i := 9) scLaw.nd rfl (Or.inl rfl)) pgs_nil))))
          (pss_cons (ps_set (i := 6) scLaw.nd rfl (Or.inl rfl) (pe_op op_cat (pv 6) (pe_mt cM hr (by decide) (pv 4) (pa_cons (pv 7) (pa_cons (pv 9) pa_nil)))))
          (pss_cons (ps_set (i := 10) scLaw.nd rfl (Or.inr rfl) (pe_callTy (call_list_dT rfl) (by rfl) T.list (by decide +kernel) (pa_cons (pv 5) pa_nil)))
          (pss_cons (ps_expr (pe_c cL hr (by decide) (by rfl) (pa_cons (pv 2) (pa_cons pe_str (pa_cons (pv 5) (pa_cons (pv 7) pa_nil))))))
          (pss_one (ps_for PassesOwn.never rfl (pi_list (pe_lock (pe_lc (own := [("_law_one_here", 19)]) (g := gName 19) (tt := tTest (tOp (rNotInD K) (tVar 19) (tVar 10))) rfl scLaw.nd (pi_keys (pv 5)) (blkOk_by (N := nLaw) (sc := fnScope sLaw) (by decide +kernel))
              (fun _ _ _ _ _ => pg_name (i := 19) scLaw.nd rfl (Or.inl rfl)) (fun _ _ _ _ _ => pts_one (pt_cmpR (op_notInD hu65) (pv 19) (pv 10) rfl)) (fun _ _ _ _ _ => pv 19))))
            (pg_tup rfl (pgs_cons (pg_name (i := 11) scLaw.nd rfl (Or.inl rfl)) (pgs_cons (pg_name (i := 12) scLaw.nd rfl (Or.inl rfl)) pgs_nil)))
            (pss_one (ps_expr (pe_mt cY hr (by decide) (pv 4) (pa_cons pe_str (pa_cons (pv 11) (pa_cons (pv 12) pa_nil))))))))))))
        (C8.pss_cut (ps_set (i := 13) scLaw.nd rfl (Or.inl rfl) (pe_callTy call_tuple_of (by rfl) T.tuple (by decide +kernel) (pa_cons (pe_lock (pe_lc (own := [("_law_kind", 11), ("_law_path_here", 12)]) (g := gTup K 2 (gCons (gName 11) (gCons (gName 12) gNil))) (tt := tYes) rfl scLaw.nd (pi_keys (pv 5)) (blkOk_by (N := nLaw) (sc := fnScope sLaw) (by decide +kernel))
              (fun _ _ _ _ _ => pg_tup rfl (pgs_cons (pg_name (i := 11) scLaw.nd rfl (Or.inl rfl)) (pgs_cons (pg_name (i := 12) scLaw.nd rfl (Or.inl rfl)) pgs_nil))) (fun _ _ _ _ _ => pts_nil)
              (fun _ _ _ _ _ => pe_tup (pa_cons (pv 11) (pa_cons (pv 12) (pa_cons (pe_dget hu (pv 5) (pe_tup (pa_cons (pv 11) (pa_cons (pv 12) pa_nil))) (fun _ _ => rfl)) pa_nil)))))) pa_nil)))
        (C8.pss_cut (ps_for PassesOwn.never rfl (pi_range1 (by rfl) T.range (pa_cons pe_int pa_nil)) (pg_name (i := 14) scLaw.nd rfl (Or.inl rfl))
          (pss_cons (ps_set (i := 15) scLaw.nd rfl (Or.inl rfl) (pe_mk0 cI hr (by decide) (by rfl)))
          (pss_cons (ps_expr (pe_mt cY hr (by decide) (pv 15) (pa_cons pe_str (pa_cons pe_str (pa_cons pe_str pa_nil)))))
          (pss_one (ps_if (PW.pt (pw_or (pt_cmpR (op_neD hu64) (pe_mt cA hr (by decide) (pv 15) (pa_cons pe_str (pa_cons (pv 13) (pa_cons (pv 3) pa_nil)))) (pv 6) (nomark _)) (pw_or1 (pt_cmpR (op_neD hu64) (pe_mt0 cK hr (by decide) (pv 15)) (pe_mt0 cK hr (by decide) (pv 4)) (nomark _))))) (pss_one (ps_ret pe_bl)) pss_nil)))))
        (pss_cons (ps_setLc (i := 16) (own := [("_law_letter", 20)]) (g := gName 20) (tt := tYes) (te := tSl (rSlT K) (tVar 20) (tPart (tC (.int 2))) (tPart (tC (.int 4)))) rfl scLaw.nd rfl rfl (sw_true rfl rfl rfl (by decide +kernel)) (pi_list (pv 6)) (blkOk_by (N := nLaw) (sc := fnScope sLaw) (by decide +kernel))
              (fun _ _ _ _ _ => pg_name (i := 20) scLaw.nd rfl (Or.inl rfl)) (fun _ _ _ _ _ => pts_nil) (fun _ _ _ _ _ => pe_slice sl_tup (pv 20) (po_some pe_int) (po_some pe_int)))
        (C8.pss_cut (ps_setLc (i := 17) (own := [("_law_letter", 20)]) (g := gName 20) (tt := tYes) (te := tOp (rIxT K) (tVar 20) (tC (.int 5))) rfl scLaw.nd rfl rfl (sw_true rfl rfl rfl (by decide +kernel)) (pi_list (pv 6)) (blkOk_by (N := nLaw) (sc := fnScope sLaw) (by decide +kernel))
              (fun _ _ _ _ _ => pg_name (i := 20) scLaw.nd rfl (Or.inl rfl)) (fun _ _ _ _ _ => pts_nil) (fun _ _ _ _ _ => pe_ix ix_tup (pv 20) pe_int (fun _ _ => rfl)))
        (pss_cons (ps_if (PW.pt (pw_or (pt_cmpR op_ne (pe_callB call_len_seq (by rfl) T.len PySem.boot_len (pa_cons (pv 16) pa_nil)) (pe_lenSetN rfl hu64 (by rfl) T.len (by rfl) T.set (pv 16)) (nomark _)) (pw_or1 (pt_cmpR (op_neD hu64) (pv 17) (pe_callB (cr_sortV hu64) (by rfl) T.sorted (by decide +kernel) (pa_cons (pv 17) pa_nil)) (nomark _))))) (pss_one (ps_ret pe_bl)) pss_nil)
        (C8.pss_cut (ps_setLc (i := 18) (own := [("_law_one_here", 19)]) (g := gName 19) (tt := tYes) (te := tSl (rSlT K) (tVar 19) (tPart (tC (.int 1))) tNoPart) rfl scLaw.nd rfl rfl (sw_true rfl rfl rfl (by decide +kernel)) (pi_list (pe_mt0 cK hr (by decide) (pv 4))) (blkOk_by (N := nLaw) (sc := fnScope sLaw) (by decide +kernel))
              (fun _ _ _ _ _ => pg_name (i := 19) scLaw.nd rfl (Or.inl rfl)) (fun _ _ _ _ _ => pts_nil) (fun _ _ _ _ _ => pe_slice sl_tup (pv 19) (po_some pe_int) po_none))
        (pss_one (ps_if (pt_cmpR (op_neD hu64) (pe_callB (cr_sortV hu64) (by rfl) T.sorted (by decide +kernel) (pa_cons (pe_op op_cat (pv 16) (pv 18)) pa_nil)) (pe_callB (cr_sortT rfl hu64) (by rfl) T.sorted (by decide +kernel) (pa_cons (pv 5) pa_nil)) (nomark _)) (pss_one (ps_ret pe_bl)) pss_nil)))))))))))))))
      (pss_one (ps_ret pe_bl)), ?_⟩
    have mx : ∀ n : Nat, ∃ m : Nat, m ≤ 6 ∧ (if (if (6 : Int) < (n : Int) then 6 else (n : Int)) > 1 then (if (6 : Int) < (n : Int) then 6 else (n : Int)) else 1) = (m : Int) := by
      intro n
      by_cases h1 : (6 : Int) < (n : Int)
      · exact ⟨6, Nat.le_refl _, by rw [if_pos h1, if_pos (by decide)]; rfl⟩
      · by_cases h2 : (n : Int) > 1
        · exact ⟨n, by omega, by rw [if_neg h1, if_pos h2]⟩
        · exact ⟨1, by decide, by rw [if_neg h1, if_neg h2]; rfl⟩
    obtain ⟨m, hm, em⟩ := mx (ns.map V.int).length
    refine ⟨_, rfl, sc, _, rfl, .inl hS, _, _, rfl, _, _, rfl, ?_⟩
    rw [em]
    refine ⟨_, rfl, by omega, by omega, ?_⟩
    have em2 : ((m : Nat) : Int).toNat = m := Int.toNat_natCast m
    rw [em2]
    refine for_it walk_range (fun _ σ H' => Same H H' ∧ ∃ (z1 z2 z3 z4 z5 z6 z7 z8 z9 z10 z11 z12 z13 z14 z15 z16 z17 z18 z19 z20 : Option V), σ = [some (.ref sc), z1, z2, z3, z4, z5, z6, z7, z8, z9, z10, z11, z12, z13, z14, z15, z16, z17, z18, z19, z20]) ⟨Same.refl H, none, none, none, none, none, none, none, none, none, none, none, none, none, none, none, none, none, none, none, none, rfl⟩ (fun _ _ _ _ _ => True.intro) ?_ ?_
    · rintro i _ σ H0 H1 hi ⟨s1, z1, z2, z3, z4, z5, z6, z7, z8, z9, z10, z11, z12, z13, z14, z15, z16, z17, z18, z19, z20, rfl⟩ ⟨rfl, rfl⟩
      have ki : (0 : Int) ≤ 0 + (i : Nat) ∧ (0 + (i : Nat) : Int) ≤ 100 := by omega
      refine ⟨_, rfl, _, rfl, sc, ns, _, rfl, s1.seq hS, hns, ki.1, ki.2, fun p H2 s2 fp1 hp2 => ?_⟩
      refine ⟨_, rfl, p, rfl, hp2, fun rl ps H3 b3 hp3 hR hpsl hup => ?_⟩
      refine ⟨rl, ps, rfl, hR, hpsl, fun tl ts H4 s4 hT4 hts hev => ?_⟩
      have hp4 := hp3.same s4
      have s14 : Same H1 H4 := fun c o z => s4 _ _ (b3 _ _ (s2 _ _ z) fun y => by rw [y, fp1] at z; cases z)
      refine fun x dx fx fdx nex => ⟨x, dx, rfl, upd_same, fun D fD => ⟨rfl, ?_⟩⟩
      have nxd : x ≠ dx := Ne.symm nex
      have sa : Same H4 (upd H4 dx (.own x)) := same_upd fdx
      have fx2 : (upd H4 dx (.own x)) x = none := by rw [upd_ne nxd]; exact fx
      have sb : Same (upd H4 dx (.own x)) (upd (upd H4 dx (.own x)) x (.ins C dx [])) := same_upd fx2
      have hx0 : (upd (upd H4 dx (.own x)) x (.ins C dx [])) x = some (.ins C dx []) := upd_same
      generalize (upd (upd H4 dx (.own x)) x (.ins C dx [])) = H5 at sb hx0 fD ⊢
      have sab := sa.trans sb
      have nDx : D ≠ x := Ne.symm (ne_of_none hx0 fD)
      have fD4 : H4 D = none := sab.free fD
      have sc6 : Same H4 (upd (upd H5 D (.dT [])) x (.ins C dx [("laid_ones", .ref D)])) := (sab.trans (same_upd fD)).new fx
      have hx6 : (upd (upd H5 D (.dT [])) x (.ins C dx [("laid_ones", .ref D)])) x = some (.ins C dx [("laid_ones", .ref D)]) := upd_same
      have hD6 : (upd (upd H5 D (.dT [])) x (.ins C dx [("laid_ones", .ref D)])) D = some (.dT []) := by rw [upd_ne nDx, upd_same]
      generalize (upd (upd H5 D (.dT [])) x (.ins C dx [("laid_ones", .ref D)])) = H6 at sc6 hx6 hD6 ⊢
      refine fun ld fld => ?_
      have s67 : Same H6 (upd H6 ld (.dT [])) := same_upd fld
      have hld7 : (upd H6 ld (.dT [])) ld = some (.dT []) := upd_same
      have nDld : D ≠ ld := ne_of_none hD6 fld
      generalize (upd H6 ld (.dT [])) = H7 at s67 hld7 ⊢
      refine ⟨fun σ' H' => ∃ (lt : Addr) (y7 y8 y9 y10 y11 y12 y13 y14 y15 y16 y17 y18 y19 y20 : Option V), σ' = [some (.ref sc), some (.int (0 + (i : Nat))), some (.ref p), some (.ref tl), some (.ref x), some (.ref ld), some (.ref lt), y7, y8, y9, y10, y11, y12, y13, y14, y15, y16, y17, y18, y19, y20] ∧ Same H7 H' ∧ H' lt = some (.lst []), ?_, ?_⟩
      · exact ⟨by decide, fun lt flt => ⟨lt, _, _, _, _, _, _, _, _, _, _, _, _, _, _, rfl, same_upd flt, upd_same⟩⟩
      rintro σ' G ⟨lt, y7, y8, y9, y10, y11, y12, y13, y14, y15, y16, y17, y18, y19, y20, rfl, s7G, hlt⟩
      have hpG := hp4.same (sc6.trans (s67.trans s7G))
      have hTG := hT4.same (sc6.trans (s67.trans s7G))
      have hxG := s7G _ _ (s67 _ _ hx6)
      have hDG := s7G _ _ (s67 _ _ hD6)
      have hldG := s7G _ _ hld7
      have sHG : Same H G := s1.trans (s14.trans (sc6.trans (s67.trans s7G)))
      have fpH : H p = none := s1.free fp1
      have fldH : H ld = none := (s1.trans (s14.trans sc6)).free fld
      have fDH : H D = none := (s1.trans s14).free fD4
      have tsl : ts.length ≤ 30 := by rw [← List.length_map (f := (·.1)), hts]; exact hpsl
      have tup : (ts.map (·.1)).Pairwise (fun a b => ltP a b = true) := by rw [hts]; exact hup
      clear hR hp2 hp3 hp4 hT4 sc6 sab sa sb fx2 hx0 s67 s7G hx6 hD6 hld7 s14 b3 s4 s2 hup hpsl hts
      obtain ⟨at_, htl, htp⟩ := id hTG
      have atl : at_.length = ts.length := Paired.length htp
      have nTp : tl ≠ p := pool_ne hpG htl
      have nldD : ld ≠ D := Ne.symm nDld
      refine ⟨fun σ' H' => ∃ (T : List En) (lt2 : Addr) (y7 y8 y9 y10 y11 y12 y13 y14 y15 y16 y17 y18 y19 y20 : Option V), σ' = [some (.ref sc), some (.int (0 + (i : Nat))), some (.ref p), some (.ref tl), some (.ref x), some (.ref ld), some (.ref lt2), y7, y8, y9, y10, y11, y12, y13, y14, y15, y16, y17, y18, y19, y20] ∧ LInv p ld D lt2 G H' ts ts.length T, ?_, ?_⟩
      · refine ⟨_, rfl, tl, rfl, ⟨_, SqL.of htl⟩, ?_⟩
        have keepT : ∀ {H' : Hp}, Fr3 p ld D G H' → H' tl = some (.lst (at_.map V.ref)) := fun f => f _ _ htl nTp (ne_of htl hldG (by intro z; cases z)) (ne_of htl hDG (by intro z; cases z))
        refine for_list (K := K) (a := tl) (xs := at_.map V.ref) (fun j σ H' => ∃ (T : List En) (lt2 : Addr) (y7 y8 y9 y10 y11 y12 y13 y14 y15 y16 y17 y18 y19 y20 : Option V), σ = [some (.ref sc), some (.int (0 + (i : Nat))), some (.ref p), some (.ref tl), some (.ref x), some (.ref ld), some (.ref lt2), y7, y8, y9, y10, y11, y12, y13, y14, y15, y16, y17, y18, y19, y20] ∧ LInv p ld D lt2 G H' ts j T)
          ⟨[], lt, _, _, _, _, _, _, _, _, _, _, _, _, _, _, rfl, ⟨fun _ _ z _ _ _ => z, hpG, rfl, hDG, ⟨[], hldG, .nil⟩, ⟨[], hlt, .nil⟩, (fun _ m => nomatch m), List.nodup_nil, Nat.le_refl _⟩⟩ (fun j σ H' _ ⟨_, _, _, _, _, _, _, _, _, _, _, _, _, _, _, _, _, I⟩ => SqL.of (keepT I.fr)) ?_ ?_
        · rintro j xv σ Ha hx ⟨T, lt2, y7, y8, y9, y10, y11, y12, y13, y14, y15, y16, y17, y18, y19, y20, rfl, I⟩
          rw [List.getElem?_map] at hx
          cases ex : at_[j]? with
          | none =>
            rw [ex] at hx
            cases hx
          | some a =>
            rw [ex] at hx
            cases hx
            obtain ⟨⟨pl, es⟩, htj, pa, va, e, ha, hpa, hE⟩ := paired_at htp ex
            have jl : j < ts.length := (List.getElem?_eq_some_iff.mp htj).1
            have tG : TupS G Ha := .fr3 I.fr hpG.notup (notup_d hldG) (notup_d hDG)
            obtain ⟨ae, he, hep⟩ := hE
            have hea : EventsL Ha e es := ⟨ae, I.fr _ _ he (pool_ne hpG he) (ne_of he hldG (by intro z; cases z)) (ne_of he hDG (by intro z; cases z)), paired_imp (fun _ _ z => tG _ _ z) hep⟩
            have hxa : Ha x = some (.ins C dx [("laid_ones", .ref D)]) := I.fr _ _ hxG (fun y => by obtain ⟨_, _, z, _⟩ := id hpG; rw [← y, hxG] at z; cases z) (ne_of hxG hldG (by intro z; cases z)) (ne_of hxG hDG (by intro z; cases z))
            have hevj : EvOk 120 es := hev _ (List.mem_of_getElem? htj)
            obtain ⟨kvs, hlda, hkva⟩ := I.laid
            obtain ⟨as, hlta, hasa⟩ := I.lets
            have okL : ∀ n ∈ (fwd T []).1, NmOk n := fun n hn => by
              obtain ⟨y, hy, rfl⟩ := List.mem_map.mp (fwd_in hn)
              exact I.ok y hy
            have ndL : (fwd T []).1.Nodup := (List.nodup_append.mp (fwd_nodup I.nd)).2.1
            have lenP : (fwd T []).2.length + (fwd T []).1.length = (fut T).length := by
              have z := (fwd_perm T []).length_eq
              rw [List.length_append, List.length_map, List.nil_append, List.length_map] at z
              exact z
            have few := I.few
            have kvl : kvs.length = (fut T).length := Paired.length hkva
            have asl : as.length = (fwd T []).2.length := Paired.length hasa
            refine ⟨a, _, rfl, SqT.of (tG _ _ ha), rfl, _, _, rfl, _, _, rfl, _, _, rfl, rfl, ?_⟩
            refine ⟨_, rfl, _, rfl, x, dx, _, rfl, hxa, rfl, _, rfl, _, rfl, x, dx, D, pa, e, (fwd T []).1, es, pl, rfl, ⟨hxa, I.dct⟩, okL, ndL, by omega, hea, hevj.1, fun l as2 Hb bb hDb fl hlb hlet => ?_⟩
            have tab : TupS Ha Hb := .but bb (notup_d I.dct)
            have nlD : lt2 ≠ D := ne_of hlta I.dct (by intro z; cases z)
            have hltb := bb _ _ hlta nlD
            have as2l : as2.length = (meetF pl es (fwd T []).1).2.length := Paired.length hlet
            have mfew := meet_few pl es (fwd T []).1
            refine ⟨lt2, l, _, _, rfl, rfl, hltb, hlb, by rw [List.length_map, List.length_map]; exact Nat.le_of_lt (small1000 (by omega)), fun l3 fl3 => ?_⟩
            have sbc : Same Hb (upd Hb l3 (.lst (as.map V.ref ++ as2.map V.ref))) := same_upd fl3
            have hl3 : (upd Hb l3 (.lst (as.map V.ref ++ as2.map V.ref))) l3 = some (.lst (as.map V.ref ++ as2.map V.ref)) := upd_same
            generalize (upd Hb l3 (.lst (as.map V.ref ++ as2.map V.ref))) = Hc at sbc hl3 ⊢
            have hldc : Hc ld = some (.dT kvs) := sbc _ _ (bb _ _ hlda nldD)
            refine ⟨_, rfl, ld, kvs, rfl, .inl hldc, fun kn ks fkn hks => ?_⟩
            have scd : Same Hc (upd Hc kn (.lst (ks.map V.ref))) := same_upd fkn
            have hkn : (upd Hc kn (.lst (ks.map V.ref))) kn = some (.lst (ks.map V.ref)) := upd_same
            generalize (upd Hc kn (.lst (ks.map V.ref))) = Hd at scd hkn ⊢
            have hpd : PoolAt Hd p := by
              obtain ⟨q1, q2, q3, q4⟩ := I.pool
              exact ⟨q1, q2, scd _ _ (sbc _ _ (bb _ _ q3 (ne_of q3 I.dct (by intro z; cases z)))), q4⟩
            refine ⟨_, rfl, _, rfl, _, rfl, p, ld, pa, "w", kvs, rfl, hpd, scd _ _ hldc, by omega, fun N He fe hpe hlde okN ndN newN lenN => ?_⟩
            have nknp : kn ≠ p := pool_ne hpd hkn
            have tde : TupS Hd He := .fr2 fe hpd.notup (notup_d (scd _ _ hldc))
            have hkne : He kn = some (.lst (ks.map V.ref)) := fe _ _ hkn nknp (ne_of hkn (scd _ _ hldc) (by intro z; cases z))
            have okK : ∀ n ∈ kvs.map (·.1), NmOk n := fun n hn => by
              rw [wait_keys hkva] at hn
              obtain ⟨y, hy, rfl⟩ := List.mem_map.mp hn
              exact I.ok y hy
            have kse : Paired (fun b kv => He b = some (.tup ((kv : List Key × V).1.map kV))) ks kvs := paired_flip (paired_imp (fun _ _ z => tde _ _ (scd _ _ z)) hks)
            have ksl : ks.length = kvs.length := Paired.length kse
            generalize hkv5 : kvs ++ (N.map fun n => ((n : List Key), V.ref pa)) = kv5 at hlde
            have kv5l : kv5.length = kvs.length + N.length := by rw [← hkv5, List.length_append, List.length_map]
            have kv5k : kv5.map (·.1) = kvs.map (·.1) ++ N := by
              rw [← hkv5, List.map_append, List.map_map]
              congr 1
              exact List.map_id'' (fun _ => rfl) _
            refine ⟨ld, .dT kv5, hlde, True.intro, fun od => ?_⟩
            have Fd : (upd He ld (.frz od (.dT kv5))) ld = some (.frz od (.dT kv5)) := upd_same
            have fL : ∀ {c : Addr} {o : HO}, He c = some o → c ≠ ld → (upd He ld (.frz od (.dT kv5))) c = some o := fun z n => by
              rw [upd_ne n]
              exact z
            have toG : ∀ {H' : Hp}, Same (upd He ld (.frz od (.dT kv5))) H' → Same He (upd H' ld (.dT kv5)) := fun s => same_unlock hlde s
            generalize (upd He ld (.frz od (.dT kv5))) = HL at Fd fL toG
            refine ⟨_, rfl, ld, od, rfl, .inr ⟨kv5, Fd, fun nl fnl => ?_⟩⟩
            have hknL := fL hkne (ne_of hkne hlde (by intro z; cases z))
            have kseL : Paired (fun b kv => HL b = some (.tup ((kv : List Key × V).1.map kV))) ks kvs := paired_imp (fun _ _ z => fL z (ne_of z hlde (by intro y; cases y))) kse
            refine lc_it walk_keysT (fun q H1 => Same HL H1 ∧ ∃ qs : List Addr, H1 nl = some (.lst (qs.map V.ref)) ∧ Paired (fun b (n : Nm) => H1 b = some (.tup (n.map kV))) qs (N.take (q - kvs.length)))
              ⟨same_upd fnl, [], upd_same, by rw [Nat.zero_sub]; exact .nil⟩ (fun q H1 _ h => h.1 _ _ Fd) (fun q v H1 H2 hq hv y => ?_) fun H1 hv => ?_
            · obtain ⟨sL, qs, hqs, hqp⟩ := hv
              obtain ⟨rfl, kk0, vv, b, hk, rfl, hb⟩ := y
              have nlL : nl ≠ ld := fun y => by rw [y, Fd] at fnl; cases fnl
              have hkey : (kvs.map (·.1) ++ N)[q]? = some kk0 := by rw [← kv5k, List.getElem?_map, hk]; rfl
              have okk : NmOk kk0 := by
                rcases List.mem_append.mp (List.mem_of_getElem? hkey) with m | m
                · exact okK _ m
                · exact okN _ m
              have lay1 := kData_lay okk
              have shp : SeqAt.shaped (.list (kvs.map fun kv => kData kv.1)) = true := shaped_list (fun d hd => by
                obtain ⟨kv, hkv, rfl⟩ := List.mem_map.mp hd
                exact kData_lay (okK _ (List.mem_map_of_mem hkv))) (fun d hd => by
                obtain ⟨kv, hkv, rfl⟩ := List.mem_map.mp hd
                exact depth_key _)
              refine ⟨rfl, _, rfl, _, rfl, kData kk0, kvs.map (fun kv => kData kv.1), dp_key hb, .lst (SqL.of (sL _ _ hknL)) (dp_all (f := fun kv : List Key × V => kData kv.1) (paired_imp (fun _ _ z => dp_key (sL _ _ z)) kseL)), shaped_of lay1 (depth_key _) (by decide), shp, ?_⟩
              rw [any_known okk okK]
              refine ⟨_, rfl, ?_⟩
              rcases Nat.lt_or_ge q kvs.length with lt | ge
              · have old : kk0 ∈ kvs.map (·.1) := by
                  rw [List.getElem?_append_left (by rw [List.length_map]; exact lt)] at hkey
                  exact List.mem_of_getElem? hkey
                rw [inB_iff.mpr old]
                refine ⟨sL, qs, hqs, ?_⟩
                rw [show q + 1 - kvs.length = q - kvs.length by omega]
                exact hqp
              · have hN : N[q - kvs.length]? = some kk0 := by
                  rw [List.getElem?_append_right (by rw [List.length_map]; exact ge), List.length_map] at hkey
                  exact hkey
                have fresh : inB (kvs.map (·.1)) kk0 = false := by
                  cases e : inB (kvs.map (·.1)) kk0 with
                  | false => rfl
                  | true => exact absurd (inB_iff.mp e) (newN _ (List.mem_of_getElem? hN))
                rw [fresh]
                have qsl : qs.length ≤ N.length := by
                  rw [Paired.length hqp, List.length_take]
                  omega
                refine ⟨_, rfl, _, hqs, by rw [List.length_map]; exact small1000 (by omega), sL.new fnl, qs ++ [b], by rw [upd_same, List.map_append]; rfl, ?_⟩
                rw [show q + 1 - kvs.length = (q - kvs.length) + 1 by omega, List.take_succ, hN]
                have bp : But nl H2 (upd H2 nl (.lst (qs.map V.ref ++ [.ref b]))) := .put
                have tp : TupS H2 (upd H2 nl (.lst (qs.map V.ref ++ [.ref b]))) := .but bp (notup_l hqs)
                exact paired_app (paired_imp (fun _ _ z => tp _ _ z) hqp) (.cons (tp _ _ hb) .nil)
            · obtain ⟨sL, qs, hqs, hqp⟩ := hv
              refine ⟨sL _ _ Fd, ?_⟩
              rw [show kv5.length - kvs.length = N.length by omega, List.take_length] at hqp
              have sef := toG sL
              have nlL : nl ≠ ld := fun y => by rw [y, Fd] at fnl; cases fnl
              have hqf : (upd H1 ld (.dT kv5)) nl = some (.lst (qs.map V.ref)) := by rw [upd_ne nlL]; exact hqs
              have hqpf : Paired (fun b (n : Nm) => (upd H1 ld (.dT kv5)) b = some (.tup (n.map kV))) qs N := paired_imp (fun b n z => by rw [upd_ne (ne_of z (sL _ _ Fd) (by intro y; cases y))]; exact z) hqp
              generalize (upd H1 ld (.dT kv5)) = Hf at sef hqf hqpf ⊢
              have nDp : D ≠ p := by
                obtain ⟨_, _, q3, _⟩ := I.pool
                exact ne_of I.dct q3 (by intro z; cases z)
              have hDd := scd _ _ (sbc _ _ hDb)
              have hDf : Hf D = some (.dT (laidKv (meetF pl es (fwd T []).1).1)) := sef _ _ (fe _ _ hDd nDp nDld)
              have hxd := scd _ _ (sbc _ _ (bb _ _ hxa (ne_of hxa I.dct (by intro z; cases z))))
              have hxf : Hf x = some (.ins C dx [("laid_ones", .ref D)]) := sef _ _ (fe _ _ hxd (fun y => by obtain ⟨_, _, q3, _⟩ := hpd; rw [← y, hxd] at q3; cases q3) (ne_of hxd (scd _ _ hldc) (by intro z; cases z)))
              have nxD : x ≠ D := ne_of hxf hDf (by intro z; cases z)
              have qsl : qs.length = N.length := Paired.length hqpf
              refine ⟨nl, rfl, ⟨_, SqL.of hqf⟩, ?_⟩
              refine for_list (K := K) (a := nl) (xs := qs.map V.ref) (fun q σ Hg => ∃ (y11 y12 y13 y14 y15 y16 y17 y18 y19 y20 : Option V), σ = [some (.ref sc), some (.int (0 + (i : Nat))), some (.ref p), some (.ref tl), some (.ref x), some (.ref ld), some (.ref l3), some (.ref pa), some va, some (.ref e), some (.ref kn), y11, y12, y13, y14, y15, y16, y17, y18, y19, y20] ∧ But D Hf Hg ∧ Hg D = some (.dT (laidKv ((meetF pl es (fwd T []).1).1 ++ N.take q))))
                ⟨_, _, _, _, _, _, _, _, _, _, rfl, fun _ _ z _ => z, by rw [List.take_zero, List.append_nil]; exact hDf⟩ (fun q σ Hg _ ⟨_, _, _, _, _, _, _, _, _, _, _, h, _⟩ => SqL.of (h _ _ hqf (ne_of hqf hDf (by intro z; cases z)))) ?_ ?_
              · rintro q xw σ Hg hq ⟨y11, y12, y13, y14, y15, y16, y17, y18, y19, y20, rfl, bg, hDg⟩
                rw [List.getElem?_map] at hq
                cases eq : qs[q]? with
                | none =>
                  rw [eq] at hq
                  cases hq
                | some b =>
                  rw [eq] at hq
                  cases hq
                  obtain ⟨n, hn, hbf⟩ := paired_at hqpf eq
                  have hnN := List.mem_of_getElem? hn
                  obtain ⟨kk, hkk, pp, _, en⟩ := okN n hnN
                  subst en
                  have hbg := bg _ _ hbf (ne_of hbf hDf (by intro z; cases z))
                  have hxg := bg _ _ hxf nxD
                  refine ⟨b, _, rfl, SqT.of hbg, rfl, _, _, rfl, _, _, rfl, rfl, ?_⟩
                  refine ⟨_, rfl, x, dx, _, rfl, hxg, rfl, _, rfl, _, rfl, x, dx, D, "w", kk, pp, _, rfl, hxg, hDg, ?_, fun t ht => ?_⟩
                  · rw [List.length_map, List.length_append, List.length_take]
                    omega
                  · have new : ([.inr "w", .inr kk, .inr pp] : Nm) ∉ (laidKv ((meetF pl es (fwd T []).1).1 ++ N.take q)).map (·.1) := by
                      rw [List.map_map]
                      intro z
                      obtain ⟨n2, hn2, e⟩ := List.mem_map.mp z
                      have e : (.inr "w" :: n2 : Nm) = [.inr "w", .inr kk, .inr pp] := e
                      have e2 : n2 = [.inr kk, .inr pp] := (List.cons.inj e).2
                      subst e2
                      rcases List.mem_append.mp hn2 with z | z
                      · have z2 : ([.inr kk, .inr pp] : Nm) ∈ (fwd T []).1 := (meetF_perm pl es (fwd T []).1).mem_iff.mp (List.mem_append_right _ z)
                        have z3 := fwd_in z2
                        rw [← wait_keys hkva] at z3
                        exact newN _ hnN z3
                      · exact take_nodup ndN hn z
                    rw [putK_new new]
                    have nDt : D ≠ t := ne_of_none hDg ht
                    refine ⟨_, _, _, _, _, _, _, _, _, _, rfl, bg.trans ((But.of (same_upd ht)).trans .put), ?_⟩
                    rw [upd_same, List.take_succ, hn]
                    unfold laidKv
                    rw [← List.append_assoc, List.map_append (l₁ := (meetF pl es (fwd T []).1).1 ++ N.take q)]
                    rfl
              · rintro σ Hg ⟨y11, y12, y13, y14, y15, y16, y17, y18, y19, y20, rfl, bg, hDg⟩
                rw [List.length_map, qsl, List.take_length] at hDg
                have tfg : TupS Hf Hg := .but bg (notup_d hDf)
                have tbg : TupS Hb Hg := (TupS.of (sbc.trans scd)).trans (tde.trans ((TupS.of sef).trans tfg))
                have tag : TupS Ha Hg := tab.trans tbg
                have hldf := sef _ _ hlde
                have hldg : Hg ld = some (.dT kv5) := bg _ _ hldf nldD
                have hl3d := scd _ _ hl3
                have hl3g : Hg l3 = some (.lst (as.map V.ref ++ as2.map V.ref)) := bg _ _ (sef _ _ (fe _ _ hl3d (pool_ne (as := as ++ as2) hpd (by rw [List.map_append]; exact hl3d)) (ne_of hl3d (scd _ _ hldc) (by intro z; cases z)))) (ne_of (sef _ _ (fe _ _ hl3d (pool_ne (as := as ++ as2) hpd (by rw [List.map_append]; exact hl3d)) (ne_of hl3d (scd _ _ hldc) (by intro z; cases z)))) hDf (by intro z; cases z))
                have fs := fwd_snoc (pl, es, N) T []
                have us := fut_snoc (pl, es, N) T
                have hpaG : Hg pa = some (.tup [.int pl.1, .int pl.2]) := tag _ _ (tG _ _ hpa)
                refine ⟨T ++ [(pl, es, N)], l3, _, _, _, _, _, _, _, _, _, _, _, _, _, _, rfl, ⟨?_, ?_, ?_, ?_, ?_, ?_, ?_, ?_, ?_⟩⟩
                · intro c o z n1 n2 n3
                  exact bg _ _ (sef _ _ (fe _ _ (scd _ _ (sbc _ _ (bb _ _ (I.fr _ _ z n1 n2 n3) n3))) n1 n2)) n3
                · obtain ⟨q1, q2, q3, q4⟩ := hpe
                  exact ⟨q1, q2, bg _ _ (sef _ _ q3) (Ne.symm nDp), q4⟩
                · show (T ++ [(pl, es, N)]).map (fun t => (t.1, t.2.1)) = _
                  rw [List.map_append, List.take_succ, htj]
                  exact congrArg (· ++ _) I.told
                · rw [fs]
                  exact hDg
                · rw [us, ← hkv5] at *
                  exact ⟨_, hldg, paired_app (paired_imp (fun _ _ z => z.tups tag) hkva) (new_items hpaG N)⟩
                · rw [fs]
                  refine ⟨as ++ as2, by rw [List.map_append]; exact hl3g, paired_app (paired_imp (fun _ _ z => z.tups tag) hasa) ?_⟩
                  refine paired_mem_imp (fun b y m z => ?_) hlet
                  exact ⟨pa, tbg _ _ z, by rw [meetF_place _ _ _ y m]; exact hpaG⟩
                · rw [us]
                  intro y hy
                  rcases List.mem_append.mp hy with m | m
                  · exact I.ok y m
                  · obtain ⟨n, hn, rfl⟩ := List.mem_map.mp m
                    exact okN n hn
                · rw [us, List.map_append, List.map_map]
                  have e : N.map ((fun x : Nm × Plc => x.1) ∘ fun n => (n, pl)) = N := List.map_id'' (fun _ => rfl) _
                  rw [e]
                  refine List.nodup_append.mpr ⟨I.nd, ndN, fun y hy z hz q => ?_⟩
                  rw [← wait_keys hkva] at hy
                  exact newN z hz (q ▸ hy)
                · rw [us, List.length_append, List.length_map]
                  show (fut T).length + N.length ≤ 2 * (j + 1)
                  omega
        · rintro σ H' ⟨T, lt2, y7, y8, y9, y10, y11, y12, y13, y14, y15, y16, y17, y18, y19, y20, rfl, I⟩
          rw [List.length_map, atl] at I
          exact ⟨T, lt2, _, _, _, _, _, _, _, _, _, _, _, _, _, _, rfl, I⟩
      rintro σ' H' ⟨T, lt2, y7, y8, y9, y10, y11, y12, y13, y14, y15, y16, y17, y18, y19, y20, rfl, I⟩
      have hpaired := I.laid
      obtain ⟨kvs, hld, hkv⟩ := hpaired
      obtain ⟨as, hlt2, has⟩ := I.lets
      have toldT : toldOf T = ts := by rw [I.told, List.take_length]
      have upT : (T.map (·.1)).Pairwise (fun a b => ltP a b = true) := by
        have e : T.map (·.1) = ts.map (·.1) := by
          rw [← toldT, List.map_map]
          rfl
        rw [e]
        exact tup
      have few := I.few
      have futl : (fut T).length ≤ 60 := by omega
      have kvl : kvs.length = (fut T).length := Paired.length hkv
      have asl : as.length = (fwd T []).2.length := Paired.length has
      have lenP : (fwd T []).2.length + (fwd T []).1.length = (fut T).length := by
        have z := (fwd_perm T []).length_eq
        rw [List.length_append, List.length_map, List.nil_append, List.length_map] at z
        exact z
      obtain ⟨mir1, mir2⟩ := mirror T [] (by rw [List.nil_append]; exact I.nd) upT (fun _ m => nomatch m)
      rw [toldT, List.nil_append] at mir1 mir2
      replace mir1 : (anw ts (fut T)).1.map (·.1) = (fwd T []).1 := mir1
      replace mir2 : (anw ts (fut T)).2 = (fwd T []).2 := mir2
      have okL : ∀ n ∈ (fwd T []).1, NmOk n := fun n hn => by
        obtain ⟨y, hy, rfl⟩ := List.mem_map.mp (fwd_in hn)
        exact I.ok y hy
      have okls : ∀ z ∈ (fwd T []).2, NmOk z.1 := fun z hz => by
        obtain ⟨y, hy, e⟩ := List.mem_map.mp (fwd_letter hz)
        exact e ▸ I.ok y hy
      have wordls : ∀ z ∈ (fwd T []).2, z.2.1 ∈ EVW := fun z hz => by
        obtain ⟨t, ht, ev, he, e⟩ := fwd_word T [] z hz
        have ht2 : (t.1, t.2.1) ∈ ts := by rw [← toldT]; exact List.mem_map_of_mem (f := fun t : En => (t.1, t.2.1)) ht
        rw [e]
        exact (hev _ ht2).2 ev he
      have tG : TupS G H' := .fr3 I.fr hpG.notup (notup_d hldG) (notup_d hDG)
      have hx' : H' x = some (.ins C dx [("laid_ones", .ref D)]) := I.fr _ _ hxG (fun y => by obtain ⟨_, _, z, _⟩ := id hpG; rw [← y, hxG] at z; cases z) (ne_of hxG hldG (by intro z; cases z)) (ne_of hxG hDG (by intro z; cases z))
      have hT' : ToldAt H' tl ts := by
        obtain ⟨at_, htl, htp⟩ := hTG
        refine ⟨at_, I.fr _ _ htl (pool_ne hpG htl) (ne_of htl hldG (by intro z; cases z)) (ne_of htl hDG (by intro z; cases z)), paired_imp (fun a t z => ?_) htp⟩
        obtain ⟨pa, v, e, z1, z2, ae, z3, z4⟩ := z
        exact ⟨pa, v, e, tG _ _ z1, tG _ _ z2, ae, I.fr _ _ z3 (pool_ne hpG z3) (ne_of z3 hldG (by intro z; cases z)) (ne_of z3 hDG (by intro z; cases z)), paired_imp (fun _ _ y => tG _ _ y) z4⟩
      have hD' := I.dct
      have sHH' : Same H H' := fun c o z => by
        refine I.fr _ _ (sHG _ _ z) (fun y => ?_) (fun y => ?_) fun y => ?_
        · rw [y, fpH] at z; cases z
        · rw [y, fldH] at z; cases z
        · rw [y, fDH] at z; cases z
      have okfut : ∀ y ∈ fut T, NmOk y.1 := I.ok
      have ndfut := I.nd
      clear hTG hpG hxG hDG hldG sHG hlt tG fpH fldH fDH
      -- some
      refine ⟨fun σ' H2 => ∃ (ws : Addr) (y7 y8 y9 y10 y11 y12 y14 y15 y16 y17 y18 y19 y20 : Option V), σ' = [some (.ref sc), some (.int (0 + (i : Nat))), some (.ref p), some (.ref tl), some (.ref x), some (.ref ld), some (.ref lt2), y7, y8, y9, y10, y11, y12, some (.ref ws), y14, y15, y16, y17, y18, y19, y20] ∧ Same H' H2 ∧ SomeAt H2 ws (fut T), ?_, ?_⟩
      · refine ⟨ld, .dT kvs, hld, True.intro, fun od => ?_⟩
        have Fd : (upd H' ld (.frz od (.dT kvs))) ld = some (.frz od (.dT kvs)) := upd_same
        have toG : ∀ {H2 : Hp}, Same (upd H' ld (.frz od (.dT kvs))) H2 → Same H' (upd H2 ld (.dT kvs)) := fun s => same_unlock hld s
        have hkvL : Paired (WRel (upd H' ld (.frz od (.dT kvs)))) kvs (fut T) := paired_imp (fun _ _ z => z.tups (fun c xs y => by rw [upd_ne (ne_of y hld (by intro q; cases q))]; exact y)) hkv
        generalize (upd H' ld (.frz od (.dT kvs))) = HL at Fd toG hkvL
        refine ⟨_, rfl, ld, od, rfl, .inr ⟨kvs, Fd, fun nl fnl => ?_⟩⟩
        refine lc_it walk_keysT (fun q H1 => Same HL H1 ∧ ∃ qs : List Addr, H1 nl = some (.lst (qs.map V.ref)) ∧ Paired (SomeIt H1) qs ((fut T).take q)) ⟨same_upd fnl, [], upd_same, .nil⟩ (fun q H1 _ h => h.1 _ _ Fd) (fun q v H1 H2 hq hv y => ?_) fun H1 hv => ?_
        · obtain ⟨sL, qs, hqs, hqp⟩ := hv
          obtain ⟨rfl, kk0, vv, b, hk, rfl, hb⟩ := y
          obtain ⟨y, hy, e1, _⟩ := paired_at hkvL hk
          have e1 : kk0 = y.1 := e1
          subst e1
          have hym := List.mem_of_getElem? hy
          obtain ⟨kk, hkk, pp, _, en⟩ := okfut y hym
          obtain ⟨pb, hval, hpb⟩ := wait_val hkvL (n := y.1) (List.mem_map_of_mem hym)
          rw [plc_of ndfut hym] at hpb
          rw [en] at hb hval
          refine ⟨b, _, rfl, SqT.of hb, rfl, _, _, rfl, _, _, rfl, rfl, rfl, ?_⟩
          refine ⟨_, rfl, _, rfl, _, rfl, _, rfl, _, rfl, le2, fun t ft => ?_⟩
          have s3 : Same H2 (upd H2 t (.tup [kV (.inr kk), kV (.inr pp)])) := same_upd ft
          have ht3 : (upd H2 t (.tup [kV (.inr kk), kV (.inr pp)])) t = some (.tup [kV (.inr kk), kV (.inr pp)]) := upd_same
          generalize (upd H2 t (.tup [kV (.inr kk), kV (.inr pp)])) = H3 at s3 ht3 ⊢
          refine ⟨ld, .ref pb, rfl, .inr ⟨kvs, [.inr kk, .inr pp], t, .inr ⟨od, s3 _ _ (sL _ _ Fd)⟩, rfl, ht3, hval.symm⟩, le3, fun u fu => ?_⟩
          have s4 : Same H3 (upd H3 u (.tup [kV (.inr kk), kV (.inr pp), .ref pb])) := same_upd fu
          have hu4 : (upd H3 u (.tup [kV (.inr kk), kV (.inr pp), .ref pb])) u = some (.tup [kV (.inr kk), kV (.inr pp), .ref pb]) := upd_same
          generalize (upd H3 u (.tup [kV (.inr kk), kV (.inr pp), .ref pb])) = H4 at s4 hu4 ⊢
          have hq4 := s4 _ _ (s3 _ _ hqs)
          have qsl : qs.length ≤ 60 := by
            rw [Paired.length hqp, List.length_take]
            omega
          refine ⟨_, hq4, by rw [List.length_map]; exact small1000 (by omega), (sL.trans (s3.trans s4)).new fnl, qs ++ [u], by rw [upd_same, List.map_append]; rfl, ?_⟩
          have bp : But nl H4 (upd H4 nl (.lst (qs.map V.ref ++ [.ref u]))) := .put
          have tp : TupS H4 (upd H4 nl (.lst (qs.map V.ref ++ [.ref u]))) := .but bp (notup_l hq4)
          rw [List.take_succ, hy]
          refine paired_app (paired_imp (fun a x z => ?_) hqp) (.cons ⟨pb, kk, pp, en, tp _ _ hu4, tp _ _ (s4 _ _ (s3 _ _ (sL _ _ hpb)))⟩ .nil)
          obtain ⟨pa, k1, p1, z1, z2, z3⟩ := z
          exact ⟨pa, k1, p1, z1, tp _ _ (s4 _ _ (s3 _ _ z2)), tp _ _ (s4 _ _ (s3 _ _ z3))⟩
        · obtain ⟨sL, qs, hqs, hqp⟩ := hv
          rw [kvl, List.take_length] at hqp
          have nlL : nl ≠ ld := fun y => by rw [y, Fd] at fnl; cases fnl
          refine ⟨sL _ _ Fd, nl, qs.map V.ref, rfl, .inl ⟨SqL.of (by rw [upd_ne nlL]; exact hqs), fun ws fws => ?_⟩⟩
          have s5 := toG sL
          have t5 : TupS H1 (upd H1 ld (.dT kvs)) := fun c xs z => by rw [upd_ne (ne_of z (sL _ _ Fd) (by intro y; cases y))]; exact z
          have s6 : Same (upd H1 ld (.dT kvs)) (upd (upd H1 ld (.dT kvs)) ws (.tup (qs.map V.ref))) := same_upd fws
          refine ⟨ws, _, _, _, _, _, _, _, _, _, _, _, _, _, rfl, s5.trans s6, qs, upd_same, paired_imp (fun a x z => ?_) hqp⟩
          obtain ⟨pa, k1, p1, z1, z2, z3⟩ := z
          exact ⟨pa, k1, p1, z1, s6 _ _ (t5 _ _ z2), s6 _ _ (t5 _ _ z3)⟩
      rintro σ' H2 ⟨ws, y7, y8, y9, y10, y11, y12, y14, y15, y16, y17, y18, y19, y20, rfl, s2, hws⟩
      replace hT' := hT'.same s2
      replace hx' := s2 _ _ hx'
      replace hD' := s2 _ _ hD'
      replace hld := s2 _ _ hld
      replace hkv := paired_imp (fun _ _ z => WRel.same z s2) hkv
      replace hlt2 := s2 _ _ hlt2
      replace has := paired_imp (fun _ _ z => LetIt.same z s2) has
      replace sHH' := sHH'.trans s2
      clear s2 I
      have ndL : (fwd T []).1.Nodup := (List.nodup_append.mp (fwd_nodup ndfut)).2.1
      have okA : ∀ n ∈ (anw ts (fut T)).1.map (·.1), NmOk n := fun n hn => okL n (by rw [mir1] at hn; exact hn)
      have shl : SeqAt.shaped (.list ((fwd T []).2.map letD)) = true := shaped_list (fun d hd => by
        obtain ⟨z, hz, rfl⟩ := List.mem_map.mp hd
        exact (letD_lay (okls z hz) (wordls z hz)).1) (fun d hd => by
        obtain ⟨z, hz, rfl⟩ := List.mem_map.mp hd
        exact (letD_lay (okls z hz) (wordls z hz)).2.1)
      have eql : PyData.eqv (.list ((fwd T []).2.map letD)) (.list ((fwd T []).2.map letD)) = true := eqv_list fun d hd => by
        obtain ⟨z, hz, rfl⟩ := List.mem_map.mp hd
        exact (letD_lay (okls z hz) (wordls z hz)).2.2
      have okS : ∀ n ∈ srt (fwd T []).1, NmOk n := fun n hn => okL n ((srt_perm _).mem_iff.mp hn)
      have shk : SeqAt.shaped (.list ((srt (fwd T []).1).map fun n => kData (.inr "w" :: n))) = true := shaped_list (fun d hd => by
        obtain ⟨z, hz, rfl⟩ := List.mem_map.mp hd
        exact kData3_lay (okS z hz)) (fun d hd => by
        obtain ⟨z, hz, rfl⟩ := List.mem_map.mp hd
        exact depth_key _)
      have eqk : PyData.eqv (.list ((srt (fwd T []).1).map fun n => kData (.inr "w" :: n))) (.list ((srt (fwd T []).1).map fun n => kData (.inr "w" :: n))) = true := eqv_list fun d hd => by
        obtain ⟨z, hz, rfl⟩ := List.mem_map.mp hd
        obtain ⟨k1, _, p1, _, rfl⟩ := okS z hz
        show PySem.W.alike (.tuple [.str "w", .str k1, .str p1]) (.tuple [.str "w", .str k1, .str p1]) = true
        simp [PySem.W.alike, PySem.W.alikeAll]
      refine ⟨fun σ' H3 => Same H2 H3 ∧ ∃ (y7 y8 y9 y10 y11 y12 y14 y15 y16 y17 y18 y19 y20 : Option V), σ' = [some (.ref sc), some (.int (0 + (i : Nat))), some (.ref p), some (.ref tl), some (.ref x), some (.ref ld), some (.ref lt2), y7, y8, y9, y10, y11, y12, some (.ref ws), y14, y15, y16, y17, y18, y19, y20], ?_, ?_⟩
      · refine ⟨_, rfl, by decide, by decide, ?_⟩
        refine for_it walk_range (fun _ σ H3 => Same H2 H3 ∧ ∃ (y7 y8 y9 y10 y11 y12 y14 y15 y16 y17 y18 y19 y20 : Option V), σ = [some (.ref sc), some (.int (0 + (i : Nat))), some (.ref p), some (.ref tl), some (.ref x), some (.ref ld), some (.ref lt2), y7, y8, y9, y10, y11, y12, some (.ref ws), y14, y15, y16, y17, y18, y19, y20]) ⟨Same.refl H2, _, _, _, _, _, _, _, _, _, _, _, _, _, rfl⟩ (fun _ _ _ _ _ => True.intro) ?_ ?_
        · rintro q _ σ H3 H4 hq ⟨s3, y7, y8, y9, y10, y11, y12, y14, y15, y16, y17, y18, y19, y20, rfl⟩ ⟨rfl, rfl⟩
          refine fun x2 dx2 fx2 fdx2 nex2 => ⟨x2, dx2, rfl, upd_same, fun D2 fD2 => ⟨rfl, ?_⟩⟩
          obtain ⟨s5, hW5, fD2'⟩ := made_at fx2 fdx2 nex2 fD2
          generalize (upd (upd (upd (upd H4 dx2 (.own x2)) x2 (.ins C dx2 [])) D2 (.dT [])) x2 (.ins C dx2 [("laid_ones", .ref D2)])) = H5 at s5 hW5 ⊢
          refine ⟨_, rfl, x2, dx2, _, rfl, hW5.ins, rfl, x2, dx2, D2, "w", "text", "/never", [], rfl, hW5.ins, hW5.dct, Nat.zero_le _, fun t ft => ?_⟩
          have s6 : Same H4 (upd (upd H5 t (.tup [.str "w", .str "text", .str "/never"])) D2 (.dT (putK [] [.inr "w", .inr "text", .inr "/never"] (.bl true)))) := (s5.trans (same_upd ft)).new fD2'
          have hW6 : WAt C x2 dx2 D2 (upd (upd H5 t (.tup [.str "w", .str "text", .str "/never"])) D2 (.dT (putK [] [.inr "w", .inr "text", .inr "/never"] (.bl true)))) [[.inr "text", .inr "/never"]] := by
            refine ⟨?_, upd_same⟩
            rw [upd_ne (ne_of hW5.ins hW5.dct (by intro z; cases z))]
            exact same_upd ft _ _ hW5.ins
          generalize (upd (upd H5 t (.tup [.str "w", .str "text", .str "/never"])) D2 (.dT (putK [] [.inr "w", .inr "text", .inr "/never"] (.bl true)))) = H6 at s6 hW6 ⊢
          have s26 := s3.trans s6
          refine ⟨_, rfl, x2, dx2, _, rfl, hW6.ins, rfl, _, rfl, _, rfl, x2, dx2, D2, ws, tl, _, fut T, ts, rfl, hW6, hws.same s26, okfut, ndfut, by omega, hT'.same s26, fun l D3 bs H7 b7 hW7 fl hl hlet => ?_⟩
          have s27 : Same H2 H7 := fun c o z => b7 _ _ (s26 _ _ z) fun y => by
            have z1 := s3 _ _ z
            rw [y, fx2] at z1
            cases z1
          rw [mir2] at hlet
          rw [mir1] at hW7
          refine ⟨_, rfl, _, _, .lst (SqL.of hl) (dp_all (f := letD) (paired_imp (fun _ _ z => dp_let z) hlet)), .lst (SqL.of (s27 _ _ hlt2)) (dp_all (f := letD) (paired_imp (fun _ _ z => dp_let (z.same s27)) has)), shl, shl, ?_⟩
          rw [eql]
          refine ⟨_, rfl, iteF ?_⟩
          refine ⟨_, rfl, x2, dx2, _, rfl, hW7.ins, rfl, x2, dx2, D3, _, rfl, hW7, okL, fun q1 as1 fq1 hq1 => ?_⟩
          have w8 := same_upd (o := .lst (as1.map V.ref)) fq1
          have hq8 : (upd H7 q1 (.lst (as1.map V.ref))) q1 = some (.lst (as1.map V.ref)) := upd_same
          generalize (upd H7 q1 (.lst (as1.map V.ref))) = H8 at w8 hq8 ⊢
          have s28 := s27.trans w8
          refine ⟨_, rfl, x, dx, _, rfl, s28 _ _ hx', rfl, x, dx, D, _, rfl, ⟨s28 _ _ hx', s28 _ _ hD'⟩, okL, fun q2 as2 fq2 hq2 => ?_⟩
          have w9 := same_upd (o := .lst (as2.map V.ref)) fq2
          have hq9 : (upd H8 q2 (.lst (as2.map V.ref))) q2 = some (.lst (as2.map V.ref)) := upd_same
          generalize (upd H8 q2 (.lst (as2.map V.ref))) = H9 at w9 hq9 ⊢
          have d1 : Dp K H9 (.ref q1) (.list ((srt (fwd T []).1).map fun n => kData (.inr "w" :: n))) := .lst (SqL.of (w9 _ _ hq8)) (dp_all (f := fun n : Nm => kData (.inr "w" :: n)) (paired_imp (fun a n z => dp_key (k := .inr "w" :: n) (w9 _ _ (w8 _ _ z))) hq1))
          have d2 : Dp K H9 (.ref q2) (.list ((srt (fwd T []).1).map fun n => kData (.inr "w" :: n))) := .lst (SqL.of hq9) (dp_all (f := fun n : Nm => kData (.inr "w" :: n)) (paired_imp (fun a n z => dp_key (k := .inr "w" :: n) (w9 _ _ z)) hq2))
          refine ⟨_, _, d1, d2, shk, shk, ?_⟩
          rw [eqk]
          exact ⟨_, rfl, iteF ⟨s28.trans w9, _, _, _, _, _, _, _, _, _, _, _, _, _, rfl⟩⟩
        · rintro σ H3 ⟨s3, y7, y8, y9, y10, y11, y12, y14, y15, y16, y17, y18, y19, y20, rfl⟩
          exact ⟨s3, _, _, _, _, _, _, _, _, _, _, _, _, _, rfl⟩
      rintro σ' H3 ⟨s3, y7, y8, y9, y10, y11, y12, y14, y15, y16, y17, y18, y19, y20, rfl⟩
      replace hx' := s3 _ _ hx'
      replace hD' := s3 _ _ hD'
      replace hld := s3 _ _ hld
      replace hkv := paired_imp (fun _ _ z => WRel.same z s3) hkv
      replace hlt2 := s3 _ _ hlt2
      replace has := paired_imp (fun _ _ z => LetIt.same z s3) has
      replace sHH' := sHH'.trans s3
      clear s3 hT' hws
      have lsl : (fwd T []).2.length ≤ 60 := by omega
      -- names
      refine ⟨_, rfl, lt2, rfl, ⟨_, SqL.of hlt2⟩, fun nm fnm => ?_⟩
      refine lc_it (walk_list (K := K) (a := lt2) (xs := as.map V.ref)) (fun q H4 => Same H3 H4 ∧ ∃ qs : List Addr, H4 nm = some (.lst (qs.map V.ref)) ∧ Paired (fun a (z : Lt) => H4 a = some (.tup (z.1.map kV))) qs ((fwd T []).2.take q)) ⟨same_upd fnm, [], upd_same, .nil⟩ (fun q H4 _ h => SqL.of (h.1 _ _ hlt2)) (fun q v H4 H5 hq hv y => ?_) fun H4 hv => ?_
      · obtain ⟨s4, qs, hqs, hqp⟩ := hv
        obtain ⟨rfl, hx⟩ := y
        rw [List.getElem?_map] at hx
        cases ex : as[q]? with
        | none =>
          rw [ex] at hx
          cases hx
        | some a =>
          rw [ex] at hx
          cases hx
          obtain ⟨z, hz, pa, h1, h2⟩ := paired_at has ex
          obtain ⟨kk, _, pp, _, en⟩ := okls z (List.mem_of_getElem? hz)
          have h1 : H3 a = some (.tup (.str "event" :: .str "w" :: (z.1.map kV ++ [.str z.2.1, .ref pa]))) := h1
          rw [en] at h1
          refine ⟨rfl, _, rfl, _, rfl, _, rfl, a, _, rfl, SqT.of (s4 _ _ h1), (by show ¬ (2 = 0 ∧ _); simp), fun t ft => ?_⟩
          have s5 := same_upd (o := .tup [kV (.inr kk), kV (.inr pp)]) ft
          have qsl : qs.length ≤ 60 := by
            rw [Paired.length hqp, List.length_take]
            omega
          refine ⟨_, s5 _ _ hqs, by rw [List.length_map]; exact small1000 (by omega), (s4.trans s5).new fnm, qs ++ [t], by rw [upd_same, List.map_append]; rfl, ?_⟩
          have tp : TupS (upd H5 t (.tup [kV (.inr kk), kV (.inr pp)])) (upd (upd H5 t (.tup [kV (.inr kk), kV (.inr pp)])) nm (.lst (qs.map V.ref ++ [.ref t]))) := .but .put (notup_l (s5 _ _ hqs))
          rw [List.take_succ, hz]
          refine paired_app (paired_imp (fun _ _ z => tp _ _ (s5 _ _ z)) hqp) (.cons ?_ .nil)
          rw [en]
          exact tp _ _ upd_same
      obtain ⟨s4, qs, hqs, hqp⟩ := hv
      rw [List.length_map, asl, List.take_length] at hqp
      -- places
      refine ⟨fun σ' H6 => ∃ (pls : Addr) (pas : List Addr) (y7 y8 y9 y10 y11 y12 y14 y15 y18 y19 y20 : Option V), σ' = [some (.ref sc), some (.int (0 + (i : Nat))), some (.ref p), some (.ref tl), some (.ref x), some (.ref ld), some (.ref lt2), y7, y8, y9, y10, y11, y12, some (.ref ws), y14, y15, some (.ref nm), some (.ref pls), y18, y19, y20] ∧ Same H4 H6 ∧ H6 pls = some (.lst (pas.map V.ref)) ∧ Paired (fun a (z : Lt) => H6 a = some (.tup [.int z.2.2.1, .int z.2.2.2])) pas (fwd T []).2, ?_, ?_⟩
      · refine ⟨_, rfl, lt2, rfl, ⟨_, SqL.of (s4 _ _ hlt2)⟩, fun pls fpls => ?_⟩
        refine lc_it (walk_list (K := K) (a := lt2) (xs := as.map V.ref)) (fun q H5 => Same H4 H5 ∧ ∃ pas : List Addr, H5 pls = some (.lst (pas.map V.ref)) ∧ Paired (fun a (z : Lt) => H5 a = some (.tup [.int z.2.2.1, .int z.2.2.2])) pas ((fwd T []).2.take q)) ⟨same_upd fpls, [], upd_same, .nil⟩ (fun q H5 _ h => SqL.of (h.1 _ _ (s4 _ _ hlt2))) (fun q v H5 H6 hq hv y => ?_) fun H5 hv => ?_
        · obtain ⟨s5, pas, hpas, hpp⟩ := hv
          obtain ⟨rfl, hx⟩ := y
          rw [List.getElem?_map] at hx
          cases ex : as[q]? with
          | none =>
            rw [ex] at hx
            cases hx
          | some a =>
            rw [ex] at hx
            cases hx
            obtain ⟨z, hz, pa, h1, h2⟩ := paired_at has ex
            obtain ⟨kk, _, pp, _, en⟩ := okls z (List.mem_of_getElem? hz)
            have h1 : H3 a = some (.tup (.str "event" :: .str "w" :: (z.1.map kV ++ [.str z.2.1, .ref pa]))) := h1
            rw [en] at h1
            have qsl : pas.length ≤ 60 := by
              rw [Paired.length hpp, List.length_take]
              omega
            refine ⟨rfl, _, rfl, a, _, _, _, rfl, rfl, SqT.of (s5 _ _ (s4 _ _ h1)), at_of (j := 5) rfl rfl, _, hpas, by rw [List.length_map]; exact small1000 (by omega), s5.new fpls, pas ++ [pa], by rw [upd_same, List.map_append]; rfl, ?_⟩
            have tp : TupS H6 (upd H6 pls (.lst (pas.map V.ref ++ [.ref pa]))) := .but .put (notup_l hpas)
            rw [List.take_succ, hz]
            exact paired_app (paired_imp (fun _ _ z => tp _ _ z) hpp) (.cons (tp _ _ (s5 _ _ (s4 _ _ h2))) .nil)
        · obtain ⟨s5, pas, hpas, hpp⟩ := hv
          rw [List.length_map, asl, List.take_length] at hpp
          exact ⟨pls, pas, _, _, _, _, _, _, _, _, _, _, _, rfl, s5, hpas, hpp⟩
      rintro σ' H6 ⟨pls, pas, y7, y8, y9, y10, y11, y12, y14, y15, y18, y19, y20, rfl, s46, hpas, hpp⟩
      have hnm := s46 _ _ hqs
      have hnmp := paired_imp (fun _ _ z => s46 _ _ z) hqp
      have s36 := s4.trans s46
      replace hx' := s36 _ _ hx'
      replace hD' := s36 _ _ hD'
      replace hld := s36 _ _ hld
      replace hkv := paired_imp (fun _ _ z => WRel.same z s36) hkv
      replace sHH' := sHH'.trans s36
      clear hqs hqp s36 s46 s4 has hlt2
      have ndl : ((fwd T []).2.map (·.1)).Nodup := (List.nodup_append.mp (fwd_nodup ndfut)).1
      have hnmq : Paired (fun a (n : Nm) => H6 a = some (.tup (n.map kV))) qs ((fwd T []).2.map (·.1)) := paired_mapr hnmp
      obtain ⟨bs, eb1, eb2, eb3⟩ := paired_unzip hnmq
      have bsl : bs.length = (fwd T []).2.length := by rw [← List.length_map (f := (·.2)), eb2, List.length_map]
      have ebr : qs.map V.ref = bs.map fun c => V.ref c.1 := by
        rw [← eb1, List.map_map]
        rfl
      refine ⟨_, rfl, nm, _, rfl, .inl (SqL.of hnm), _, rfl, nm, bs, rfl, SqL.of (by rw [hnm, ebr]), eb3, by rw [eb2]; exact ndl, by omega, rfl, _, rfl, ?_⟩
      have el : (!decide ((V.int ((qs.map V.ref).length : Nat)) = V.int (bs.length : Nat))) = false := by
        rw [ebr, List.length_map, decide_eq_true rfl]
        rfl
      rw [el]
      refine iteF ?_
      -- places in order
      obtain ⟨cs, ec1, ec2, ec3⟩ := paired_unzip hpp
      have ecr : pas.map V.ref = (cs.map fun c => (V.ref c.1, plD c.2.2.2)).map (·.1) := by
        rw [← ec1, List.map_map, List.map_map]
        rfl
      have ord := in_order (cs := cs) (by rw [ec2]; exact fwd_order T [] upT)
      have dpc : ∀ c ∈ cs, Dp K H6 (.ref c.1) (plD c.2.2.2) := fun c hc => .tup (SqT.of (ec3 c hc)) (.cons (.int _) (.cons (.int _) .nil))
      refine ⟨_, rfl, _, rfl, pls, cs.map (fun c => (V.ref c.1, plD c.2.2.2)), rfl, SqL.of (by rw [hpas, ecr]), fun z hz => ?_, fun d hd d' hd' => ?_, .inl fun d hd => ?_, fun z hz => ?_, fun r fr => ?_⟩
      · obtain ⟨c, hc, rfl⟩ := List.mem_map.mp hz
        exact dpc c hc
      · rw [List.map_map] at hd hd'
        obtain ⟨c, _, rfl⟩ := List.mem_map.mp hd
        obtain ⟨c', _, rfl⟩ := List.mem_map.mp hd'
        exact plD_alike _ _
      · rw [List.map_map] at hd
        obtain ⟨c, _, rfl⟩ := List.mem_map.mp hd
        exact ⟨_, _, rfl⟩
      · obtain ⟨c, hc, rfl⟩ := List.mem_map.mp hz
        exact (plD_ok _).2
      rw [ord, ← ecr]
      have s67 := same_upd (o := .lst (pas.map V.ref)) fr
      have hr7 : (upd H6 r (.lst (pas.map V.ref))) r = some (.lst (pas.map V.ref)) := upd_same
      generalize (upd H6 r (.lst (pas.map V.ref))) = H7 at s67 hr7 ⊢
      have dpp : DpAll K H7 (pas.map V.ref) ((fwd T []).2.map fun z => plD z.2.2) := dp_all (f := fun z : Lt => plD z.2.2) (paired_imp (fun a z q => .tup (SqT.of (s67 _ _ q)) (.cons (.int _) (.cons (.int _) .nil))) hpp)
      have shp : SeqAt.shaped (.list ((fwd T []).2.map fun z => plD z.2.2)) = true := shaped_list (fun d hd => by
        obtain ⟨z, _, rfl⟩ := List.mem_map.mp hd
        exact (plD_ok _).1) (fun d hd => by
        obtain ⟨z, _, rfl⟩ := List.mem_map.mp hd
        exact (plD_ok _).2)
      have eqp : PyData.eqv (.list ((fwd T []).2.map fun z => plD z.2.2)) (.list ((fwd T []).2.map fun z => plD z.2.2)) = true := eqv_list fun d hd => by
        obtain ⟨z, _, rfl⟩ := List.mem_map.mp hd
        exact plD_alike _ _
      refine ⟨_, _, .lst (SqL.of (s67 _ _ hpas)) dpp, .lst (SqL.of hr7) dpp, shp, shp, ?_⟩
      rw [eqp]
      refine ⟨_, rfl, iteF ?_⟩
      replace hx' := s67 _ _ hx'
      replace hD' := s67 _ _ hD'
      replace hld := s67 _ _ hld
      replace hkv := paired_imp (fun _ _ z => WRel.same z s67) hkv
      replace sHH' := sHH'.trans s67
      replace hnm := s67 _ _ hnm
      replace hnmq := paired_imp (fun _ _ z => s67 _ _ z) hnmq
      clear hnmp hpas hpp dpp dpc ec3 eb3 ord ecr ec1 ec2 eb1 eb2 ebr bsl el shp eqp hr7 s67 shl eql shk eqk mir1 mir2
      -- left
      have sll : (srt (fwd T []).1).length = (fwd T []).1.length := (srt_perm _).length_eq
      refine ⟨fun σ' H8 => ∃ (lf : Addr) (ls : List Addr) (y7 y8 y9 y10 y11 y12 y14 y15 y19 y20 : Option V), σ' = [some (.ref sc), some (.int (0 + (i : Nat))), some (.ref p), some (.ref tl), some (.ref x), some (.ref ld), some (.ref lt2), y7, y8, y9, y10, y11, y12, some (.ref ws), y14, y15, some (.ref nm), some (.ref pls), some (.ref lf), y19, y20] ∧ Same H7 H8 ∧ H8 lf = some (.lst (ls.map V.ref)) ∧ Paired (fun a (n : Nm) => H8 a = some (.tup (n.map kV))) ls (srt (fwd T []).1), ?_, ?_⟩
      · refine ⟨_, rfl, x, dx, _, rfl, hx', rfl, x, dx, D, _, rfl, ⟨hx', hD'⟩, okL, fun q1 as1 fq1 hq1 => ?_⟩
        have w8 := same_upd (o := .lst (as1.map V.ref)) fq1
        have hq8 : (upd H7 q1 (.lst (as1.map V.ref))) q1 = some (.lst (as1.map V.ref)) := upd_same
        generalize (upd H7 q1 (.lst (as1.map V.ref))) = H8 at w8 hq8 ⊢
        have as1l : as1.length = (srt (fwd T []).1).length := Paired.length hq1
        refine ⟨q1, rfl, ⟨_, SqL.of hq8⟩, fun lf flf => ?_⟩
        refine lc_it (walk_list (K := K) (a := q1) (xs := as1.map V.ref)) (fun q H9 => Same H8 H9 ∧ ∃ ls : List Addr, H9 lf = some (.lst (ls.map V.ref)) ∧ Paired (fun a (n : Nm) => H9 a = some (.tup (n.map kV))) ls ((srt (fwd T []).1).take q)) ⟨same_upd flf, [], upd_same, .nil⟩ (fun q H9 _ h => SqL.of (h.1 _ _ hq8)) (fun q v H9 HA hq hv y => ?_) fun H9 hv => ?_
        · obtain ⟨s9, ls, hls, hlp⟩ := hv
          obtain ⟨rfl, hx⟩ := y
          rw [List.getElem?_map] at hx
          cases ex : as1[q]? with
          | none =>
            rw [ex] at hx
            cases hx
          | some a =>
            rw [ex] at hx
            cases hx
            obtain ⟨n, hn, h1⟩ := paired_at hq1 ex
            obtain ⟨kk, _, pp, _, en⟩ := okS n (List.mem_of_getElem? hn)
            rw [en] at h1
            refine ⟨rfl, _, rfl, _, rfl, a, _, rfl, SqT.of (s9 _ _ (w8 _ _ h1)), (by show ¬ (1 = 0 ∧ _); simp), fun t ft => ?_⟩
            have s5 := same_upd (o := .tup [kV (.inr kk), kV (.inr pp)]) ft
            have qsl : ls.length ≤ 60 := by
              rw [Paired.length hlp, List.length_take]
              omega
            refine ⟨_, s5 _ _ hls, by rw [List.length_map]; exact small1000 (by omega), (s9.trans s5).new flf, ls ++ [t], by rw [upd_same, List.map_append]; rfl, ?_⟩
            have tp : TupS (upd HA t (.tup [kV (.inr kk), kV (.inr pp)])) (upd (upd HA t (.tup [kV (.inr kk), kV (.inr pp)])) lf (.lst (ls.map V.ref ++ [.ref t]))) := .but .put (notup_l (s5 _ _ hls))
            rw [List.take_succ, hn]
            refine paired_app (paired_imp (fun _ _ z => tp _ _ (s5 _ _ z)) hlp) (.cons ?_ .nil)
            rw [en]
            exact tp _ _ upd_same
        · obtain ⟨s9, ls, hls, hlp⟩ := hv
          rw [List.length_map, as1l, List.take_length] at hlp
          exact ⟨lf, ls, _, _, _, _, _, _, _, _, _, _, rfl, w8.trans s9, hls, hlp⟩
      rintro σ' H8 ⟨lf, ls, y7, y8, y9, y10, y11, y12, y14, y15, y19, y20, rfl, s78, hlf, hlp⟩
      replace hld := s78 _ _ hld
      replace hnm := s78 _ _ hnm
      replace hnmq := paired_imp (fun _ _ z => s78 _ _ z) hnmq
      replace sHH' := sHH'.trans s78
      have qsl : qs.length = (fwd T []).2.length := by rw [Paired.length hnmq, List.length_map]
      have lsl2 : ls.length = (fwd T []).1.length := by rw [Paired.length hlp, sll]
      refine ⟨_, rfl, _, rfl, nm, lf, _, _, rfl, rfl, hnm, hlf, by rw [List.length_map, List.length_map]; exact Nat.le_of_lt (small1000 (by omega)), fun c fc => ?_⟩
      have s89 := same_upd (o := .lst (qs.map V.ref ++ ls.map V.ref)) fc
      have hc9 : (upd H8 c (.lst (qs.map V.ref ++ ls.map V.ref))) c = some (.lst (qs.map V.ref ++ ls.map V.ref)) := upd_same
      generalize (upd H8 c (.lst (qs.map V.ref ++ ls.map V.ref))) = H9 at s89 hc9 ⊢
      have both : Paired (fun a (n : Nm) => H9 a = some (.tup (n.map kV))) (qs ++ ls) ((fwd T []).2.map (·.1) ++ srt (fwd T []).1) := paired_app (paired_imp (fun _ _ z => s89 _ _ z) hnmq) (paired_imp (fun _ _ z => s89 _ _ z) hlp)
      obtain ⟨cs2, ed1, ed2, ed3⟩ := paired_unzip both
      have okX : ∀ n ∈ (fwd T []).2.map (·.1) ++ srt (fwd T []).1, NmOk n := fun n hn => by
        rcases List.mem_append.mp hn with m | m
        · obtain ⟨z, hz, rfl⟩ := List.mem_map.mp m
          exact okls z hz
        · exact okS n m
      have edr : qs.map V.ref ++ ls.map V.ref = (cs2.map fun c => (V.ref c.1, kData c.2)).map (·.1) := by
        rw [← List.map_append, ← ed1, List.map_map, List.map_map]
        rfl
      have eds : (cs2.map fun c => (V.ref c.1, kData c.2)).map (·.2) = ((fwd T []).2.map (·.1) ++ srt (fwd T []).1).map kData := by
        rw [← ed2, List.map_map, List.map_map]
        rfl
      obtain ⟨sl1, es1, _, sn1⟩ := nm_strs okX
      refine ⟨c, cs2.map (fun c => (V.ref c.1, kData c.2)), rfl, SqL.of (by rw [hc9, edr]), fun z hz => ?_, by rw [eds, es1]; exact alike_tups, by rw [eds, es1]; exact sortable_tups sn1, fun z hz => ?_, fun r fr => ?_⟩
      · obtain ⟨y, hy, rfl⟩ := List.mem_map.mp hz
        exact dp_key (ed3 y hy)
      · obtain ⟨y, hy, rfl⟩ := List.mem_map.mp hz
        exact depth_key _
      rw [names_sorted, List.map_map]
      have e9 : (cs2.mergeSort leK).map ((·.1) ∘ fun c : Addr × Nm => (V.ref c.1, kData c.2)) = ((cs2.mergeSort leK).map (·.1)).map V.ref := by
        rw [List.map_map]
        rfl
      rw [e9]
      have w10 := same_upd (o := .lst (((cs2.mergeSort leK).map (·.1)).map V.ref)) fr
      have hrA : (upd H9 r (.lst (((cs2.mergeSort leK).map (·.1)).map V.ref))) r = some (.lst (((cs2.mergeSort leK).map (·.1)).map V.ref)) := upd_same
      generalize (upd H9 r (.lst (((cs2.mergeSort leK).map (·.1)).map V.ref))) = HA at w10 hrA ⊢
      have pr1 : Paired (fun a (n : Nm) => HA a = some (.tup (n.map kV))) ((cs2.mergeSort leK).map (·.1)) (srt ((fwd T []).2.map (·.1) ++ srt (fwd T []).1)) := by
        have z : Paired (fun a (n : Nm) => HA a = some (.tup (n.map kV))) ((cs2.mergeSort leK).map (·.1)) ((cs2.mergeSort leK).map (·.2)) := paired_zip fun b hb => w10 _ _ (ed3 b ((List.mergeSort_perm cs2 leK).mem_iff.mp hb))
        rw [sorted_snd, ed2] at z
        exact z
      have hldA := w10 _ _ (s89 _ _ hld)
      have keyK := wait_keys hkv
      have okK : ∀ n ∈ (fut T).map (·.1), NmOk n := fun n hn => by
        obtain ⟨y, hy, rfl⟩ := List.mem_map.mp hn
        exact okfut y hy
      obtain ⟨sl2, es2, _, sn2⟩ := nm_strs okK
      have ek : (kvs.map fun p => kData p.1) = sl2.map (fun a => PyData.tuple (a.map PyData.str)) := by
        rw [← es2, ← keyK, List.map_map]
        rfl
      refine ⟨_, rfl, ld, kvs, rfl, .inl hldA, by rw [ek]; exact alike_tups, by rw [ek]; exact sortable_tups sn2, fun r2 bs2 hb2 ht2 fr2 => ?_⟩
      have e10 : ((bs2.mergeSort leK).map fun b => V.ref b.1) = ((bs2.mergeSort leK).map (·.1)).map V.ref := by
        rw [List.map_map]
        rfl
      rw [e10]
      have w11 := same_upd (o := .lst (((bs2.mergeSort leK).map (·.1)).map V.ref)) fr2
      have hrB : (upd HA r2 (.lst (((bs2.mergeSort leK).map (·.1)).map V.ref))) r2 = some (.lst (((bs2.mergeSort leK).map (·.1)).map V.ref)) := upd_same
      generalize (upd HA r2 (.lst (((bs2.mergeSort leK).map (·.1)).map V.ref))) = HB at w11 hrB ⊢
      have pr2 : Paired (fun a (n : Nm) => HB a = some (.tup (n.map kV))) ((bs2.mergeSort leK).map (·.1)) (srt ((fut T).map (·.1))) := by
        have z : Paired (fun a (n : Nm) => HB a = some (.tup (n.map kV))) ((bs2.mergeSort leK).map (·.1)) ((bs2.mergeSort leK).map (·.2)) := paired_zip fun b hb => w11 _ _ (ht2 b ((List.mergeSort_perm bs2 leK).mem_iff.mp hb))
        rw [sorted_snd, hb2, keyK] at z
        exact z
      have same : srt ((fwd T []).2.map (·.1) ++ srt (fwd T []).1) = srt ((fut T).map (·.1)) := srt_of_perm (((List.Perm.refl _).append (srt_perm _)).trans (by
        have z := fwd_perm T []
        rw [List.nil_append] at z
        exact z))
      rw [same] at pr1
      have okF : ∀ n ∈ srt ((fut T).map (·.1)), NmOk n := fun n hn => okK n ((srt_perm _).mem_iff.mp hn)
      have shF : SeqAt.shaped (.list ((srt ((fut T).map (·.1))).map kData)) = true := shaped_list (fun d hd => by
        obtain ⟨z, hz, rfl⟩ := List.mem_map.mp hd
        exact kData_lay (okF z hz)) (fun d hd => by
        obtain ⟨z, hz, rfl⟩ := List.mem_map.mp hd
        exact depth_key _)
      have eqF : PyData.eqv (.list ((srt ((fut T).map (·.1))).map kData)) (.list ((srt ((fut T).map (·.1))).map kData)) = true := eqv_list fun d hd => by
        obtain ⟨z, hz, rfl⟩ := List.mem_map.mp hd
        exact kData_alike (okF z hz) (okF z hz)
      refine ⟨_, _, .lst (SqL.of (w11 _ _ hrA)) (dp_all (f := kData) (paired_imp (fun _ _ z => dp_key (w11 _ _ z)) pr1)), .lst (SqL.of hrB) (dp_all (f := kData) (paired_imp (fun _ _ z => dp_key z) pr2)), shF, shF, ?_⟩
      rw [eqF]
      refine ⟨_, rfl, iteF ?_⟩
      exact ⟨sHH'.trans (s89.trans (w10.trans w11)), _, _, _, _, _, _, _, _, _, _, _, _, _, _, _, _, _, _, _, _, rfl⟩
    · rintro σ H' ⟨_, z1, z2, z3, z4, z5, z6, z7, z8, z9, z10, z11, z12, z13, z14, z15, z16, z17, z18, z19, z20, rfl⟩
      exact k H'
end
end K42

/-! K42Zo: all defs together; what the end asks of the top. -/
namespace K42
open PySem L2
open C8 (Cal Met Mak)
section
variable {P : Program} {w : World} {K : PySem.W.Frag} {mg : PySem.Str → Option Value} {base : Heap}
theorem ok_all {C f : Addr} {fd : FuncData} (T : Tx K w mg) (M : Mx K w mg) (Wx : Wc K mg C) (F : C8.Def K mg "law" sLaw f fd)
    (d1 : DB K mg "is_whole" sIsWhole pIsWhole)
    (d2 : DB K mg "is_word" sIsWord pIsWord)
    (d3 : DB K mg "parts_of" sPartsOf pPartsOf)
    (d4 : DB K mg "is_part" sIsPart pIsPart)
    (d5 : DB K mg "is_path" sIsPath pIsPath)
    (d6 : DB K mg "path_of" sPathOf pPathOf)
    (d7 : DB K mg "parent_of" sParentOf pParentOf)
    (d8 : DB K mg "last_part" sLastPart pLastPart)
    (d9 : DB K mg "is_text" sIsText pIsText)
    (d10 : DB K mg "is_count" sIsCount pIsCount)
    (d11 : DB K mg "is_make" sIsMake pIsMake)
    (d12 : DB K mg "is_plain" sIsPlain pIsPlain)
    (d13 : DB K mg "is_deed" sIsDeed pIsDeed)
    (d14 : DB K mg "is_entry" sIsEntry pIsEntry)
    (d15 : DB K mg "refused" sRefused pRefused)
    (d16 : DB K mg "numbered_path" sNumberedPath pNumberedPath)
    (d17 : DB K mg "dropped" sDropped pDropped)
    (d18 : DB K mg "kids_of" sKidsOf pKidsOf)
    (d19 : DB K mg "first_nodes" sFirstNodes pFirstNodes)
    (d20 : DB K mg "make" sMake pMake)
    (d21 : DB K mg "put" sPut pPut)
    (d22 : DB K mg "drop" sDrop pDrop)
    (d23 : DK K mg "done_plain" sDonePlain pDonePlain 2 ["asker"])
    (d24 : DB K mg "first_state" sFirstState pFirstState)
    (d25 : DB K mg "without_owner" sWithoutOwner pWithoutOwner)
    (d26 : DB K mg "done_all" sDoneAll pDoneAll)
    (d27 : DB K mg "done_deed" sDoneDeed pDoneDeed)
    (d28 : DB K mg "ended" sEnded pEnded)
    (d29 : DK K mg "done" sDone pDone 2 ["place"])
    (d30 : DB K mg "told_by" sToldBy pToldBy)
    (d31 : DB K mg "is_met" sIsMet pIsMet)
    (d38 : DB K mg "_law_pool" sLawPool pLawPool)
    (d39 : DB K mg "_law_take" sLawTake pLawTake)
    (d40 : DB K mg "_law_one" sLawOne pLawOne)
    (d41 : DB K mg "_law_text" sLawText pLawText)
    (d42 : DB K mg "_law_path" sLawPath pLawPath)
    (d43 : DB K mg "_law_count" sLawCount pLawCount)
    (d44 : DB K mg "_law_plain" sLawPlain pLawPlain)
    (d45 : DB K mg "_law_deed" sLawDeed pLawDeed)
    (d46 : DB K mg "_law_read" sLawRead pLawRead)
    (d47 : DB K mg "_law_row" sLawRow pLawRow)
    (d48 : DB K mg "_law_laid" sLawLaid pLawLaid)
    : FnOk P w K mg base C8.CX0 10 f fd pLaw (spLaw K) := by
  have c1 : Cal P w K mg base 1 "is_whole" spIsWhole [] := ok_isWhole T d1
  have c2 : Cal P w K mg base 1 "is_word" spIsWord [] := ok_isWord T d2
  have c3 : Cal P w K mg base 1 "parts_of" spPartsOf [] := ok_partsOf T d3
  have c4 : Cal P w K mg base 2 "is_part" spIsPart [] := ok_isPart T d4 c2
  have c5 : Cal P w K mg base 3 "is_path" spIsPath [] := ok_isPath T d5 c3 c4
  have c6 : Cal P w K mg base 1 "path_of" (spPathOf K) [] := ok_pathOf T d6
  have c7 : Cal P w K mg base 2 "parent_of" spParentOf [] := ok_parentOf d7 c3 c6
  have c8 : Cal P w K mg base 2 "last_part" spLastPart [] := ok_lastPart d8 c3
  have c9 : Cal P w K mg base 1 "is_text" spIsText [] := ok_isText T d9
  have c10 : Cal P w K mg base 2 "is_count" spIsCount [] := ok_isCount d10 c1
  have c11 : Cal P w K mg base 3 "is_make" (spIsMake K) [] := ok_isMake T d11 c9 c2 c8
  have c12 : Cal P w K mg base 4 "is_plain" spIsPlain [] := ok_isPlain T d12 c5 c11 c9 c10
  have c13 : Cal P w K mg base 5 "is_deed" spIsDeed [] := ok_isDeed T d13 c12 c1
  have c14 : Cal P w K mg base 6 "is_entry" spIsEntry [] := ok_isEntry T d14 c13 c1 c2
  have c15 : Cal P w K mg base 1 "refused" spRefused [] := ok_refused T d15
  have c16 : Cal P w K mg base 1 "numbered_path" spNumbered [] := ok_numbered T d16
  have c17 : Cal P w K mg base 3 "dropped" spDropped [] := ok_dropped d17 c7
  have c18 : Cal P w K mg base 3 "kids_of" spKidsOf [] := ok_kidsOf T d18 c7 c8
  have c19 : Cal P w K mg base 1 "first_nodes" spFirstNodes [] := ok_firstNodes T d19
  have c20 : Cal P w K mg base 3 "make" spMake [] := ok_make T d20 c7 c15 c16
  have c21 : Cal P w K mg base 1 "put" spPut [] := ok_put T d21
  have c22 : Cal P w K mg base 4 "drop" spDrop [] := ok_drop T d22 c18 c15 c17
  have c23 : CalN P w K mg base 5 "done_plain" 2 ["asker"] spDonePlain := ok_donePlain T d23 c12 c20 c15 c21 c22
  have c24 : Cal P w K mg base 2 "first_state" spFirstState [] := ok_firstState d24 c19
  have c25 : Cal P w K mg base 4 "without_owner" spWithout [] := ok_without T d25 c17
  have c26 : Cal P w K mg base 6 "done_all" spDoneAll [] := ok_doneAll T d26 c23
  have c27 : Cal P w K mg base 7 "done_deed" spDoneDeed [] := ok_doneDeed T d27 c25 c26 c23
  have c28 : Cal P w K mg base 5 "ended" spEnded [] := ok_ended T d28 c25
  have c29 : CalN P w K mg base 8 "done" 2 ["place"] spDone := ok_done T d29 c14 c28 c27
  have c30 : Cal P w K mg base 9 "told_by" spToldBy [] := ok_toldBy d30 c24 c29
  have c31 : Cal P w K mg base 1 "is_met" spIsMet [] := ok_isMet M d31
  have c32 : Mak P w K mg base 1 "Watchers" C (spWInit C) [] := ok_wInit Wx
  have c33 : Met P w K mg base 1 C "lay" (spWLay C) [] := ok_wLay Wx
  have c34 : Met P w K mg base 1 C "kept" (spWKept C) [] := ok_wKept T Wx
  have c35 : Met P w K mg base 2 C "meet" (spWMeet C) [] := ok_wMeet T Wx c31 c34
  have c36 : Met P w K mg base 1 C "let_go" (spWLetGo C) [] := ok_wLetGo Wx
  have c37 : Met P w K mg base 2 C "anew" (spWAnew C) [] := ok_wAnew T Wx c31 c36 c33
  have c38 : Cal P w K mg base 1 "_law_pool" (spPool K) [] := ok_pool T d38
  have c39 : Cal P w K mg base 1 "_law_take" spTake [] := ok_take d39
  have c40 : Cal P w K mg base 2 "_law_one" spOne [] := ok_one T d40 c39
  have c41 : Cal P w K mg base 3 "_law_text" (spStr TEXTS) [] := ok_text d41 c40
  have c42 : Cal P w K mg base 3 "_law_path" (spStr PATHS) [] := ok_path d42 c40
  have c43 : Cal P w K mg base 3 "_law_count" spCount [] := ok_count d43 c40
  have c44 : Cal P w K mg base 4 "_law_plain" spPlain [] := ok_plain d44 c39 c40 c41 c42 c43
  have c45 : Cal P w K mg base 5 "_law_deed" spDeed [] := ok_deed T d45 c39 c40 c44
  have c46 : Cal P w K mg base 3 "_law_read" spRead [] := ok_read d46 c39 c40
  have c47 : Cal P w K mg base 6 "_law_row" spRow [] := ok_row T d47 c39 c40 c45
  have c48 : Cal P w K mg base 4 "_law_laid" spLaid [] := ok_laid T d48 c39 c46
  exact ok_law T Wx F c38 c47 c30 c48 c32 c33 c34 c35 c37
end
/-! ### facts of the top -/
section
variable {K : PySem.W.Frag} {h : Heap} {mg : PySem.Str → Option Value} {x : PySem.Str} {st : Stmt} {ps : List PySem.Str} {f : Addr} {oc kV dc pm cd ct : Value} {od an : Option Addr} {sl : Array (Option Value)}
theorem def_at (X : K.In h) (G : h.Ns mainGlobals mg) (a : PySem.W.nsIn K mainGlobals x = some (some (.ref f))) (l : K.lookup f = some ⟨oc, od, .func (PySem.W.fnOf x x (C8.fnArgs st) (C8.fnBody st) (C8.fnScope st) .none kV dc pm an cd ct), sl⟩)
    (c : PySem.W.codeIn K cd x = true) (k : PySem.W.keepIn K (.ref f) = true) : C8.Def K mg x st f (PySem.W.fnOf x x (C8.fnArgs st) (C8.fnBody st) (C8.fnScope st) .none kV dc pm an cd ct) :=
  ⟨⟨oc, od, .none, kV, dc, pm, an, cd, ct, sl, rfl, l, c⟩, PySem.W.mg_of X G a, k⟩
theorem db_at (X : K.In h) (G : h.Ns mainGlobals mg) (a : PySem.W.nsIn K mainGlobals x = some (some (.ref f))) (l : K.lookup f = some ⟨oc, od, .func (PySem.W.fnOf x x (C8.fnArgs st) (C8.fnBody st) (C8.fnScope st) .none kV dc pm an cd ct), sl⟩)
    (c : PySem.W.codeIn K cd x = true) (k : PySem.W.keepIn K (.ref f) = true)
    (b : ∀ (kV doc pm : Value) (an : Option Addr) (cdv ct : Value) (us : List Value), us.length = ps.length → bindArgs (PySem.W.fnOf x x (C8.fnArgs st) (C8.fnBody st) (C8.fnScope st) .none kV doc pm an cdv ct) ⟨us, []⟩ = pure (ps.zip us)) : DB K mg x st ps := by
  have D := def_at X G a l c k
  exact ⟨_, _, D, D.fn.binds rfl b⟩
theorem dk_at {n : Nat} {ks : List PySem.Str} (X : K.In h) (G : h.Ns mainGlobals mg) (a : PySem.W.nsIn K mainGlobals x = some (some (.ref f))) (l : K.lookup f = some ⟨oc, od, .func (PySem.W.fnOf x x (C8.fnArgs st) (C8.fnBody st) (C8.fnScope st) .none kV dc pm an cd ct), sl⟩)
    (c : PySem.W.codeIn K cd x = true) (k : PySem.W.keepIn K (.ref f) = true)
    (b : ∀ (kV doc pm : Value) (an : Option Addr) (cdv ct : Value) (us ws : List Value), us.length = n → ws.length = ks.length → bindArgs (PySem.W.fnOf x x (C8.fnArgs st) (C8.fnBody st) (C8.fnScope st) .none kV doc pm an cdv ct) ⟨us, ks.zip ws⟩ = pure (ps.zip (us ++ ws))) : DK K mg x st ps n ks := by
  have D := def_at X G a l c k
  exact ⟨_, _, D, ⟨fun s us ws _ h1 h2 => .of_eq (b _ _ _ _ _ _ us ws h1 h2), fun r1 r2 => r1.append r2⟩⟩
theorem mb_at {C : Addr} {q : PySem.Str} (a : PySem.W.findIn K (.ref C) x = some (some (.ref f))) (i : PySem.W.isFn K (.ref f) = true) (l : K.lookup f = some ⟨oc, od, .func (PySem.W.fnOf x q (C8.fnArgs st) (C8.fnBody st) (C8.fnScope st) .none kV dc pm an cd ct), sl⟩)
    (c : PySem.W.codeIn K cd q = true) (k : PySem.W.keepIn K (.ref f) = true)
    (b : ∀ (kV doc pm : Value) (an : Option Addr) (cdv ct : Value) (us : List Value), us.length = ps.length → bindArgs (PySem.W.fnOf x q (C8.fnArgs st) (C8.fnBody st) (C8.fnScope st) .none kV doc pm an cdv ct) ⟨us, []⟩ = pure (ps.zip us)) : MB K C x q st ps := by
  have F : C8.Fun K x q st f _ := ⟨oc, od, .none, kV, dc, pm, an, cd, ct, sl, rfl, l, c⟩
  exact ⟨_, _, ⟨a, i, k⟩, F, F.binds rfl b⟩
theorem init_at {C : Addr} {q : PySem.Str} (mk : PySem.W.makesIn K C = true) (kc : PySem.W.keepIn K (.ref C) = true) (a : PySem.W.findIn K (.ref C) "__init__" = some (some (.ref f))) (i : PySem.W.isFn K (.ref f) = true)
    (l : K.lookup f = some ⟨oc, od, .func (PySem.W.fnOf "__init__" q (C8.fnArgs st) (C8.fnBody st) (C8.fnScope st) .none kV dc pm an cd ct), sl⟩) (c : PySem.W.codeIn K cd q = true)
    (b : ∀ (kV doc pm : Value) (an : Option Addr) (cdv ct : Value) (us : List Value), us.length = ps.length → bindArgs (PySem.W.fnOf "__init__" q (C8.fnArgs st) (C8.fnBody st) (C8.fnScope st) .none kV doc pm an cdv ct) ⟨us, []⟩ = pure (ps.zip us)) :
    ∃ (f : Addr) (fd : FuncData), Mk K C f ∧ C8.Fun K "__init__" q st f fd ∧ Binds K fd ps [] := by
  have F : C8.Fun K "__init__" q st f _ := ⟨oc, od, .none, kV, dc, pm, an, cd, ct, sl, rfl, l, c⟩
  exact ⟨_, _, ⟨mk, a, i, kc⟩, F, F.binds rfl b⟩
theorem cn_str {s : PySem.Str} {t : Tok} (X : K.In h) (G : h.Ns mainGlobals mg) (a : PySem.W.nsIn K mainGlobals x = some (some (.str s t))) : Cn mg x (.str s) := ⟨_, PySem.W.mg_of X G a, t, rfl⟩
theorem cn_int {i : Int} {t : Tok} (X : K.In h) (G : h.Ns mainGlobals mg) (a : PySem.W.nsIn K mainGlobals x = some (some (.int i t))) : Cn mg x (.int i) := ⟨_, PySem.W.mg_of X G a, t, rfl⟩
theorem cn_ref {r : Addr} (X : K.In h) (G : h.Ns mainGlobals mg) (a : PySem.W.nsIn K mainGlobals x = some (some (.ref r))) : Cn mg x (.ref r) := ⟨_, PySem.W.mg_of X G a, rfl⟩
theorem tup_at {r : Addr} {its : List Value} {n : Nat} {xs : List V} (l : K.lookup r = some ⟨.type "tuple", od, .seq its.toArray n, sl⟩) (hz : its.length ≤ 100) (v : Vals xs its) : ∀ H, SqT K H r xs := fun H =>
  .inr ⟨_, its.toArray, n, l, rfl, rfl, by rw [List.size_toArray]; exact Nat.le_of_lt (small1000 (by omega)), by simpa using v⟩
end
theorem bd1 (kV doc pm : Value) (an : Option Addr) (cdv ct : Value) (us : List Value) (hl : us.length = pIsWhole.length) : bindArgs (PySem.W.fnOf "is_whole" "is_whole" (C8.fnArgs sIsWhole) (C8.fnBody sIsWhole) (C8.fnScope sIsWhole) .none kV doc pm an cdv ct) ⟨us, []⟩ = pure (pIsWhole.zip us) := match us, hl with | [_], _ => rfl
theorem bd2 (kV doc pm : Value) (an : Option Addr) (cdv ct : Value) (us : List Value) (hl : us.length = pIsWord.length) : bindArgs (PySem.W.fnOf "is_word" "is_word" (C8.fnArgs sIsWord) (C8.fnBody sIsWord) (C8.fnScope sIsWord) .none kV doc pm an cdv ct) ⟨us, []⟩ = pure (pIsWord.zip us) := match us, hl with | [_], _ => rfl
theorem bd3 (kV doc pm : Value) (an : Option Addr) (cdv ct : Value) (us : List Value) (hl : us.length = pPartsOf.length) : bindArgs (PySem.W.fnOf "parts_of" "parts_of" (C8.fnArgs sPartsOf) (C8.fnBody sPartsOf) (C8.fnScope sPartsOf) .none kV doc pm an cdv ct) ⟨us, []⟩ = pure (pPartsOf.zip us) := match us, hl with | [_], _ => rfl
theorem bd4 (kV doc pm : Value) (an : Option Addr) (cdv ct : Value) (us : List Value) (hl : us.length = pIsPart.length) : bindArgs (PySem.W.fnOf "is_part" "is_part" (C8.fnArgs sIsPart) (C8.fnBody sIsPart) (C8.fnScope sIsPart) .none kV doc pm an cdv ct) ⟨us, []⟩ = pure (pIsPart.zip us) := match us, hl with | [_], _ => rfl
theorem bd5 (kV doc pm : Value) (an : Option Addr) (cdv ct : Value) (us : List Value) (hl : us.length = pIsPath.length) : bindArgs (PySem.W.fnOf "is_path" "is_path" (C8.fnArgs sIsPath) (C8.fnBody sIsPath) (C8.fnScope sIsPath) .none kV doc pm an cdv ct) ⟨us, []⟩ = pure (pIsPath.zip us) := match us, hl with | [_], _ => rfl
theorem bd6 (kV doc pm : Value) (an : Option Addr) (cdv ct : Value) (us : List Value) (hl : us.length = pPathOf.length) : bindArgs (PySem.W.fnOf "path_of" "path_of" (C8.fnArgs sPathOf) (C8.fnBody sPathOf) (C8.fnScope sPathOf) .none kV doc pm an cdv ct) ⟨us, []⟩ = pure (pPathOf.zip us) := match us, hl with | [_], _ => rfl
theorem bd7 (kV doc pm : Value) (an : Option Addr) (cdv ct : Value) (us : List Value) (hl : us.length = pParentOf.length) : bindArgs (PySem.W.fnOf "parent_of" "parent_of" (C8.fnArgs sParentOf) (C8.fnBody sParentOf) (C8.fnScope sParentOf) .none kV doc pm an cdv ct) ⟨us, []⟩ = pure (pParentOf.zip us) := match us, hl with | [_], _ => rfl
theorem bd8 (kV doc pm : Value) (an : Option Addr) (cdv ct : Value) (us : List Value) (hl : us.length = pLastPart.length) : bindArgs (PySem.W.fnOf "last_part" "last_part" (C8.fnArgs sLastPart) (C8.fnBody sLastPart) (C8.fnScope sLastPart) .none kV doc pm an cdv ct) ⟨us, []⟩ = pure (pLastPart.zip us) := match us, hl with | [_], _ => rfl
theorem bd9 (kV doc pm : Value) (an : Option Addr) (cdv ct : Value) (us : List Value) (hl : us.length = pIsText.length) : bindArgs (PySem.W.fnOf "is_text" "is_text" (C8.fnArgs sIsText) (C8.fnBody sIsText) (C8.fnScope sIsText) .none kV doc pm an cdv ct) ⟨us, []⟩ = pure (pIsText.zip us) := match us, hl with | [_], _ => rfl
theorem bd10 (kV doc pm : Value) (an : Option Addr) (cdv ct : Value) (us : List Value) (hl : us.length = pIsCount.length) : bindArgs (PySem.W.fnOf "is_count" "is_count" (C8.fnArgs sIsCount) (C8.fnBody sIsCount) (C8.fnScope sIsCount) .none kV doc pm an cdv ct) ⟨us, []⟩ = pure (pIsCount.zip us) := match us, hl with | [_], _ => rfl
theorem bd11 (kV doc pm : Value) (an : Option Addr) (cdv ct : Value) (us : List Value) (hl : us.length = pIsMake.length) : bindArgs (PySem.W.fnOf "is_make" "is_make" (C8.fnArgs sIsMake) (C8.fnBody sIsMake) (C8.fnScope sIsMake) .none kV doc pm an cdv ct) ⟨us, []⟩ = pure (pIsMake.zip us) := match us, hl with | [_, _], _ => rfl
theorem bd12 (kV doc pm : Value) (an : Option Addr) (cdv ct : Value) (us : List Value) (hl : us.length = pIsPlain.length) : bindArgs (PySem.W.fnOf "is_plain" "is_plain" (C8.fnArgs sIsPlain) (C8.fnBody sIsPlain) (C8.fnScope sIsPlain) .none kV doc pm an cdv ct) ⟨us, []⟩ = pure (pIsPlain.zip us) := match us, hl with | [_], _ => rfl
theorem bd13 (kV doc pm : Value) (an : Option Addr) (cdv ct : Value) (us : List Value) (hl : us.length = pIsDeed.length) : bindArgs (PySem.W.fnOf "is_deed" "is_deed" (C8.fnArgs sIsDeed) (C8.fnBody sIsDeed) (C8.fnScope sIsDeed) .none kV doc pm an cdv ct) ⟨us, []⟩ = pure (pIsDeed.zip us) := match us, hl with | [_], _ => rfl
theorem bd14 (kV doc pm : Value) (an : Option Addr) (cdv ct : Value) (us : List Value) (hl : us.length = pIsEntry.length) : bindArgs (PySem.W.fnOf "is_entry" "is_entry" (C8.fnArgs sIsEntry) (C8.fnBody sIsEntry) (C8.fnScope sIsEntry) .none kV doc pm an cdv ct) ⟨us, []⟩ = pure (pIsEntry.zip us) := match us, hl with | [_], _ => rfl
theorem bd15 (kV doc pm : Value) (an : Option Addr) (cdv ct : Value) (us : List Value) (hl : us.length = pRefused.length) : bindArgs (PySem.W.fnOf "refused" "refused" (C8.fnArgs sRefused) (C8.fnBody sRefused) (C8.fnScope sRefused) .none kV doc pm an cdv ct) ⟨us, []⟩ = pure (pRefused.zip us) := match us, hl with | [_, _], _ => rfl
theorem bd16 (kV doc pm : Value) (an : Option Addr) (cdv ct : Value) (us : List Value) (hl : us.length = pNumberedPath.length) : bindArgs (PySem.W.fnOf "numbered_path" "numbered_path" (C8.fnArgs sNumberedPath) (C8.fnBody sNumberedPath) (C8.fnScope sNumberedPath) .none kV doc pm an cdv ct) ⟨us, []⟩ = pure (pNumberedPath.zip us) := match us, hl with | [_, _], _ => rfl
theorem bd17 (kV doc pm : Value) (an : Option Addr) (cdv ct : Value) (us : List Value) (hl : us.length = pDropped.length) : bindArgs (PySem.W.fnOf "dropped" "dropped" (C8.fnArgs sDropped) (C8.fnBody sDropped) (C8.fnScope sDropped) .none kV doc pm an cdv ct) ⟨us, []⟩ = pure (pDropped.zip us) := match us, hl with | [_, _], _ => rfl
theorem bd18 (kV doc pm : Value) (an : Option Addr) (cdv ct : Value) (us : List Value) (hl : us.length = pKidsOf.length) : bindArgs (PySem.W.fnOf "kids_of" "kids_of" (C8.fnArgs sKidsOf) (C8.fnBody sKidsOf) (C8.fnScope sKidsOf) .none kV doc pm an cdv ct) ⟨us, []⟩ = pure (pKidsOf.zip us) := match us, hl with | [_, _], _ => rfl
theorem bd19 (kV doc pm : Value) (an : Option Addr) (cdv ct : Value) (us : List Value) (hl : us.length = pFirstNodes.length) : bindArgs (PySem.W.fnOf "first_nodes" "first_nodes" (C8.fnArgs sFirstNodes) (C8.fnBody sFirstNodes) (C8.fnScope sFirstNodes) .none kV doc pm an cdv ct) ⟨us, []⟩ = pure (pFirstNodes.zip us) := match us, hl with | [], _ => rfl
theorem bd20 (kV doc pm : Value) (an : Option Addr) (cdv ct : Value) (us : List Value) (hl : us.length = pMake.length) : bindArgs (PySem.W.fnOf "make" "make" (C8.fnArgs sMake) (C8.fnBody sMake) (C8.fnScope sMake) .none kV doc pm an cdv ct) ⟨us, []⟩ = pure (pMake.zip us) := match us, hl with | [_, _, _, _, _, _], _ => rfl
theorem bd21 (kV doc pm : Value) (an : Option Addr) (cdv ct : Value) (us : List Value) (hl : us.length = pPut.length) : bindArgs (PySem.W.fnOf "put" "put" (C8.fnArgs sPut) (C8.fnBody sPut) (C8.fnScope sPut) .none kV doc pm an cdv ct) ⟨us, []⟩ = pure (pPut.zip us) := match us, hl with | [_, _, _], _ => rfl
theorem bd22 (kV doc pm : Value) (an : Option Addr) (cdv ct : Value) (us : List Value) (hl : us.length = pDrop.length) : bindArgs (PySem.W.fnOf "drop" "drop" (C8.fnArgs sDrop) (C8.fnBody sDrop) (C8.fnScope sDrop) .none kV doc pm an cdv ct) ⟨us, []⟩ = pure (pDrop.zip us) := match us, hl with | [_, _], _ => rfl
theorem bd23 (kV doc pm : Value) (an : Option Addr) (cdv ct : Value) (us ws : List Value) (h1 : us.length = 2) (h2 : ws.length = (["asker"] : List PySem.Str).length) : bindArgs (PySem.W.fnOf "done_plain" "done_plain" (C8.fnArgs sDonePlain) (C8.fnBody sDonePlain) (C8.fnScope sDonePlain) .none kV doc pm an cdv ct) ⟨us, (["asker"] : List PySem.Str).zip ws⟩ = pure (pDonePlain.zip (us ++ ws)) := match us, ws, h1, h2 with | [_, _], [_], _, _ => rfl
theorem bd24 (kV doc pm : Value) (an : Option Addr) (cdv ct : Value) (us : List Value) (hl : us.length = pFirstState.length) : bindArgs (PySem.W.fnOf "first_state" "first_state" (C8.fnArgs sFirstState) (C8.fnBody sFirstState) (C8.fnScope sFirstState) .none kV doc pm an cdv ct) ⟨us, []⟩ = pure (pFirstState.zip us) := match us, hl with | [], _ => rfl
theorem bd25 (kV doc pm : Value) (an : Option Addr) (cdv ct : Value) (us : List Value) (hl : us.length = pWithoutOwner.length) : bindArgs (PySem.W.fnOf "without_owner" "without_owner" (C8.fnArgs sWithoutOwner) (C8.fnBody sWithoutOwner) (C8.fnScope sWithoutOwner) .none kV doc pm an cdv ct) ⟨us, []⟩ = pure (pWithoutOwner.zip us) := match us, hl with | [_, _], _ => rfl
theorem bd26 (kV doc pm : Value) (an : Option Addr) (cdv ct : Value) (us : List Value) (hl : us.length = pDoneAll.length) : bindArgs (PySem.W.fnOf "done_all" "done_all" (C8.fnArgs sDoneAll) (C8.fnBody sDoneAll) (C8.fnScope sDoneAll) .none kV doc pm an cdv ct) ⟨us, []⟩ = pure (pDoneAll.zip us) := match us, hl with | [_, _, _], _ => rfl
theorem bd27 (kV doc pm : Value) (an : Option Addr) (cdv ct : Value) (us : List Value) (hl : us.length = pDoneDeed.length) : bindArgs (PySem.W.fnOf "done_deed" "done_deed" (C8.fnArgs sDoneDeed) (C8.fnBody sDoneDeed) (C8.fnScope sDoneDeed) .none kV doc pm an cdv ct) ⟨us, []⟩ = pure (pDoneDeed.zip us) := match us, hl with | [_, _, _, _], _ => rfl
theorem bd28 (kV doc pm : Value) (an : Option Addr) (cdv ct : Value) (us : List Value) (hl : us.length = pEnded.length) : bindArgs (PySem.W.fnOf "ended" "ended" (C8.fnArgs sEnded) (C8.fnBody sEnded) (C8.fnScope sEnded) .none kV doc pm an cdv ct) ⟨us, []⟩ = pure (pEnded.zip us) := match us, hl with | [_, _, _], _ => rfl
theorem bd29 (kV doc pm : Value) (an : Option Addr) (cdv ct : Value) (us ws : List Value) (h1 : us.length = 2) (h2 : ws.length = (["place"] : List PySem.Str).length) : bindArgs (PySem.W.fnOf "done" "done" (C8.fnArgs sDone) (C8.fnBody sDone) (C8.fnScope sDone) .none kV doc pm an cdv ct) ⟨us, (["place"] : List PySem.Str).zip ws⟩ = pure (pDone.zip (us ++ ws)) := match us, ws, h1, h2 with | [_, _], [_], _, _ => rfl
theorem bd30 (kV doc pm : Value) (an : Option Addr) (cdv ct : Value) (us : List Value) (hl : us.length = pToldBy.length) : bindArgs (PySem.W.fnOf "told_by" "told_by" (C8.fnArgs sToldBy) (C8.fnBody sToldBy) (C8.fnScope sToldBy) .none kV doc pm an cdv ct) ⟨us, []⟩ = pure (pToldBy.zip us) := match us, hl with | [_], _ => rfl
theorem bd31 (kV doc pm : Value) (an : Option Addr) (cdv ct : Value) (us : List Value) (hl : us.length = pIsMet.length) : bindArgs (PySem.W.fnOf "is_met" "is_met" (C8.fnArgs sIsMet) (C8.fnBody sIsMet) (C8.fnScope sIsMet) .none kV doc pm an cdv ct) ⟨us, []⟩ = pure (pIsMet.zip us) := match us, hl with | [_, _, _], _ => rfl
theorem bd38 (kV doc pm : Value) (an : Option Addr) (cdv ct : Value) (us : List Value) (hl : us.length = pLawPool.length) : bindArgs (PySem.W.fnOf "_law_pool" "_law_pool" (C8.fnArgs sLawPool) (C8.fnBody sLawPool) (C8.fnScope sLawPool) .none kV doc pm an cdv ct) ⟨us, []⟩ = pure (pLawPool.zip us) := match us, hl with | [_, _], _ => rfl
theorem bd39 (kV doc pm : Value) (an : Option Addr) (cdv ct : Value) (us : List Value) (hl : us.length = pLawTake.length) : bindArgs (PySem.W.fnOf "_law_take" "_law_take" (C8.fnArgs sLawTake) (C8.fnBody sLawTake) (C8.fnScope sLawTake) .none kV doc pm an cdv ct) ⟨us, []⟩ = pure (pLawTake.zip us) := match us, hl with | [_, _], _ => rfl
theorem bd40 (kV doc pm : Value) (an : Option Addr) (cdv ct : Value) (us : List Value) (hl : us.length = pLawOne.length) : bindArgs (PySem.W.fnOf "_law_one" "_law_one" (C8.fnArgs sLawOne) (C8.fnBody sLawOne) (C8.fnScope sLawOne) .none kV doc pm an cdv ct) ⟨us, []⟩ = pure (pLawOne.zip us) := match us, hl with | [_, _], _ => rfl
theorem bd41 (kV doc pm : Value) (an : Option Addr) (cdv ct : Value) (us : List Value) (hl : us.length = pLawText.length) : bindArgs (PySem.W.fnOf "_law_text" "_law_text" (C8.fnArgs sLawText) (C8.fnBody sLawText) (C8.fnScope sLawText) .none kV doc pm an cdv ct) ⟨us, []⟩ = pure (pLawText.zip us) := match us, hl with | [_], _ => rfl
theorem bd42 (kV doc pm : Value) (an : Option Addr) (cdv ct : Value) (us : List Value) (hl : us.length = pLawPath.length) : bindArgs (PySem.W.fnOf "_law_path" "_law_path" (C8.fnArgs sLawPath) (C8.fnBody sLawPath) (C8.fnScope sLawPath) .none kV doc pm an cdv ct) ⟨us, []⟩ = pure (pLawPath.zip us) := match us, hl with | [_], _ => rfl
theorem bd43 (kV doc pm : Value) (an : Option Addr) (cdv ct : Value) (us : List Value) (hl : us.length = pLawCount.length) : bindArgs (PySem.W.fnOf "_law_count" "_law_count" (C8.fnArgs sLawCount) (C8.fnBody sLawCount) (C8.fnScope sLawCount) .none kV doc pm an cdv ct) ⟨us, []⟩ = pure (pLawCount.zip us) := match us, hl with | [_], _ => rfl
theorem bd44 (kV doc pm : Value) (an : Option Addr) (cdv ct : Value) (us : List Value) (hl : us.length = pLawPlain.length) : bindArgs (PySem.W.fnOf "_law_plain" "_law_plain" (C8.fnArgs sLawPlain) (C8.fnBody sLawPlain) (C8.fnScope sLawPlain) .none kV doc pm an cdv ct) ⟨us, []⟩ = pure (pLawPlain.zip us) := match us, hl with | [_], _ => rfl
theorem bd45 (kV doc pm : Value) (an : Option Addr) (cdv ct : Value) (us : List Value) (hl : us.length = pLawDeed.length) : bindArgs (PySem.W.fnOf "_law_deed" "_law_deed" (C8.fnArgs sLawDeed) (C8.fnBody sLawDeed) (C8.fnScope sLawDeed) .none kV doc pm an cdv ct) ⟨us, []⟩ = pure (pLawDeed.zip us) := match us, hl with | [_], _ => rfl
theorem bd46 (kV doc pm : Value) (an : Option Addr) (cdv ct : Value) (us : List Value) (hl : us.length = pLawRead.length) : bindArgs (PySem.W.fnOf "_law_read" "_law_read" (C8.fnArgs sLawRead) (C8.fnBody sLawRead) (C8.fnScope sLawRead) .none kV doc pm an cdv ct) ⟨us, []⟩ = pure (pLawRead.zip us) := match us, hl with | [_, _], _ => rfl
theorem bd47 (kV doc pm : Value) (an : Option Addr) (cdv ct : Value) (us : List Value) (hl : us.length = pLawRow.length) : bindArgs (PySem.W.fnOf "_law_row" "_law_row" (C8.fnArgs sLawRow) (C8.fnBody sLawRow) (C8.fnScope sLawRow) .none kV doc pm an cdv ct) ⟨us, []⟩ = pure (pLawRow.zip us) := match us, hl with | [_], _ => rfl
theorem bd48 (kV doc pm : Value) (an : Option Addr) (cdv ct : Value) (us : List Value) (hl : us.length = pLawLaid.length) : bindArgs (PySem.W.fnOf "_law_laid" "_law_laid" (C8.fnArgs sLawLaid) (C8.fnBody sLawLaid) (C8.fnScope sLawLaid) .none kV doc pm an cdv ct) ⟨us, []⟩ = pure (pLawLaid.zip us) := match us, hl with | [_, _, _, _], _ => rfl
theorem bwi (kV doc pm : Value) (an : Option Addr) (cdv ct : Value) (us : List Value) (hl : us.length = pWInit.length) : bindArgs (PySem.W.fnOf "__init__" "Watchers.__init__" (C8.fnArgs sWInit) (C8.fnBody sWInit) (C8.fnScope sWInit) .none kV doc pm an cdv ct) ⟨us, []⟩ = pure (pWInit.zip us) := match us, hl with | [_], _ => rfl
theorem bwl (kV doc pm : Value) (an : Option Addr) (cdv ct : Value) (us : List Value) (hl : us.length = pWLay.length) : bindArgs (PySem.W.fnOf "lay" "Watchers.lay" (C8.fnArgs sWLay) (C8.fnBody sWLay) (C8.fnScope sWLay) .none kV doc pm an cdv ct) ⟨us, []⟩ = pure (pWLay.zip us) := match us, hl with | [_, _, _, _], _ => rfl
theorem bwm (kV doc pm : Value) (an : Option Addr) (cdv ct : Value) (us : List Value) (hl : us.length = pWMeet.length) : bindArgs (PySem.W.fnOf "meet" "Watchers.meet" (C8.fnArgs sWMeet) (C8.fnBody sWMeet) (C8.fnScope sWMeet) .none kV doc pm an cdv ct) ⟨us, []⟩ = pure (pWMeet.zip us) := match us, hl with | [_, _, _], _ => rfl
theorem bwg (kV doc pm : Value) (an : Option Addr) (cdv ct : Value) (us : List Value) (hl : us.length = pWLetGo.length) : bindArgs (PySem.W.fnOf "let_go" "Watchers.let_go" (C8.fnArgs sWLetGo) (C8.fnBody sWLetGo) (C8.fnScope sWLetGo) .none kV doc pm an cdv ct) ⟨us, []⟩ = pure (pWLetGo.zip us) := match us, hl with | [_, _], _ => rfl
theorem bwa (kV doc pm : Value) (an : Option Addr) (cdv ct : Value) (us : List Value) (hl : us.length = pWAnew.length) : bindArgs (PySem.W.fnOf "anew" "Watchers.anew" (C8.fnArgs sWAnew) (C8.fnBody sWAnew) (C8.fnScope sWAnew) .none kV doc pm an cdv ct) ⟨us, []⟩ = pure (pWAnew.zip us) := match us, hl with | [_, _, _, _], _ => rfl
theorem bwk (kV doc pm : Value) (an : Option Addr) (cdv ct : Value) (us : List Value) (hl : us.length = pWKept.length) : bindArgs (PySem.W.fnOf "kept" "Watchers.kept" (C8.fnArgs sWKept) (C8.fnBody sWKept) (C8.fnScope sWKept) .none kV doc pm an cdv ct) ⟨us, []⟩ = pure (pWKept.zip us) := match us, hl with | [_], _ => rfl
theorem bLaw (kV doc pm : Value) (an : Option Addr) (cdv ct : Value) (u : Value) : bindArgs (PySem.W.fnOf "law" "law" (C8.fnArgs sLaw) (C8.fnBody sLaw) (C8.fnScope sLaw) .none kV doc pm an cdv ct) ⟨[u], []⟩ = pure [(("_law_script" : PySem.Str), u)] := rfl
section
variable {K : PySem.W.Frag} {h : Heap} {mg : PySem.Str → Option Value} {w : World}
theorem all_end {l : PySem.W.OpenLaw} {fa f C : Addr} {oc kV dc pm cd ct : Value} {od an : Option Addr} {sl : Array (Option Value)} (X : K.In h) (G : h.Ns mainGlobals mg) (hfa : mg "law" = some (.ref fa)) (a : PySem.W.nsIn K mainGlobals "law" = some (some (.ref f)))
    (lk : K.lookup f = some ⟨oc, od, .func (PySem.W.fnOf "law" "law" (C8.fnArgs sLaw) (C8.fnBody sLaw) (C8.fnScope sLaw) .none kV dc pm an cd ct), sl⟩) (c : PySem.W.codeIn K cd "law" = true) (k : PySem.W.keepIn K (.ref f) = true) (T : Tx K w mg) (M : Mx K w mg) (Wx : Wc K mg C)
    (d1 : DB K mg "is_whole" sIsWhole pIsWhole)
    (d2 : DB K mg "is_word" sIsWord pIsWord)
    (d3 : DB K mg "parts_of" sPartsOf pPartsOf)
    (d4 : DB K mg "is_part" sIsPart pIsPart)
    (d5 : DB K mg "is_path" sIsPath pIsPath)
    (d6 : DB K mg "path_of" sPathOf pPathOf)
    (d7 : DB K mg "parent_of" sParentOf pParentOf)
    (d8 : DB K mg "last_part" sLastPart pLastPart)
    (d9 : DB K mg "is_text" sIsText pIsText)
    (d10 : DB K mg "is_count" sIsCount pIsCount)
    (d11 : DB K mg "is_make" sIsMake pIsMake)
    (d12 : DB K mg "is_plain" sIsPlain pIsPlain)
    (d13 : DB K mg "is_deed" sIsDeed pIsDeed)
    (d14 : DB K mg "is_entry" sIsEntry pIsEntry)
    (d15 : DB K mg "refused" sRefused pRefused)
    (d16 : DB K mg "numbered_path" sNumberedPath pNumberedPath)
    (d17 : DB K mg "dropped" sDropped pDropped)
    (d18 : DB K mg "kids_of" sKidsOf pKidsOf)
    (d19 : DB K mg "first_nodes" sFirstNodes pFirstNodes)
    (d20 : DB K mg "make" sMake pMake)
    (d21 : DB K mg "put" sPut pPut)
    (d22 : DB K mg "drop" sDrop pDrop)
    (d23 : DK K mg "done_plain" sDonePlain pDonePlain 2 ["asker"])
    (d24 : DB K mg "first_state" sFirstState pFirstState)
    (d25 : DB K mg "without_owner" sWithoutOwner pWithoutOwner)
    (d26 : DB K mg "done_all" sDoneAll pDoneAll)
    (d27 : DB K mg "done_deed" sDoneDeed pDoneDeed)
    (d28 : DB K mg "ended" sEnded pEnded)
    (d29 : DK K mg "done" sDone pDone 2 ["place"])
    (d30 : DB K mg "told_by" sToldBy pToldBy)
    (d31 : DB K mg "is_met" sIsMet pIsMet)
    (d38 : DB K mg "_law_pool" sLawPool pLawPool)
    (d39 : DB K mg "_law_take" sLawTake pLawTake)
    (d40 : DB K mg "_law_one" sLawOne pLawOne)
    (d41 : DB K mg "_law_text" sLawText pLawText)
    (d42 : DB K mg "_law_path" sLawPath pLawPath)
    (d43 : DB K mg "_law_count" sLawCount pLawCount)
    (d44 : DB K mg "_law_plain" sLawPlain pLawPlain)
    (d45 : DB K mg "_law_deed" sLawDeed pLawDeed)
    (d46 : DB K mg "_law_read" sLawRead pLawRead)
    (d47 : DB K mg "_law_row" sLawRow pLawRow)
    (d48 : DB K mg "_law_laid" sLawLaid pLawLaid)
    : ∃ fd : FuncData, (∀ (s : Shared) (v : Value), BindsTo s fd ⟨[v], []⟩ [("_law_script", v)]) ∧ ∀ base : Heap, K.In base → base.Ns mainGlobals mg → FnOk l.prog w K mg base C8.CX0 10 fa fd ["_law_script"] (spLaw K) := by
  have e := hfa.symm.trans (PySem.W.mg_of X G a)
  cases e
  exact ⟨_, fun s v => .of_eq (bLaw _ _ _ _ _ _ v), fun base _ _ => ok_all T M Wx (def_at X G a lk c k) d1 d2 d3 d4 d5 d6 d7 d8 d9 d10 d11 d12 d13 d14 d15 d16 d17 d18 d19 d20 d21 d22 d23 d24 d25 d26 d27 d28 d29 d30 d31 d38 d39 d40 d41 d42 d43 d44 d45 d46 d47 d48⟩
theorem long_at {d : Addr} {es : Array DictEntry} {n : Nat} {t1 t2 t3 t4 : Tok} (X : K.In h) (G : h.Ns mainGlobals mg) (a : PySem.W.nsIn K mainGlobals "LONG" = some (some (.ref d))) (l : K.lookup d = some ⟨.type "dict", none, .dict es n, #[]⟩) (lit : PySem.W.KeysLit w.params es.toList) (low : (d == sysModules) = false)
    (m1 : PySem.W.nsIn K d "make" = some (some (.int 5 t1))) (m2 : PySem.W.nsIn K d "put" = some (some (.int 4 t2))) (m3 : PySem.W.nsIn K d "drop" = some (some (.int 3 t3))) (m4 : PySem.W.nsIn K d "see" = some (some (.int 3 t4))) :
    ∃ (d : Addr) (es : Array DictEntry) (n : Nat), Cn mg "LONG" (.ref d) ∧ KDict K w d es n ∧ (∃ u, PySem.W.nsIn K d "make" = some (some u) ∧ RelV (.int 5) u) ∧ (∃ u, PySem.W.nsIn K d "put" = some (some u) ∧ RelV (.int 4) u) ∧
    (∃ u, PySem.W.nsIn K d "drop" = some (some u) ∧ RelV (.int 3) u) ∧ ∃ u, PySem.W.nsIn K d "see" = some (some u) ∧ RelV (.int 3) u :=
  ⟨d, es, n, cn_ref X G a, ⟨l, lit, low⟩, ⟨_, m1, t1, rfl⟩, ⟨_, m2, t2, rfl⟩, ⟨_, m3, t3, rfl⟩, ⟨_, m4, t4, rfl⟩⟩
theorem never_at {r z : Addr} {t : Tok} {od : Option Addr} {n : Nat} {sl : Array (Option Value)} (X : K.In h) (G : h.Ns mainGlobals mg) (a : PySem.W.nsIn K mainGlobals "NEVER" = some (some (.ref r))) (l : K.lookup r = some ⟨.type "tuple", od, .seq #[.none, .int 0 t, .none, .ref z] n, sl⟩) :
    ∃ (a : Addr) (z : V), Cn mg "NEVER" (.ref a) ∧ ∀ H, SqT K H a [.non, .int 0, .non, z] :=
  ⟨r, .ref z, cn_ref X G a, tup_at (its := [.none, .int 0 t, .none, .ref z]) l (by simp) (.cons rfl (.cons ⟨t, rfl⟩ (.cons rfl (.cons rfl .nil))))⟩
theorem ok_at {r : Addr} {t : Tok} {od : Option Addr} {n : Nat} {sl : Array (Option Value)} (X : K.In h) (G : h.Ns mainGlobals mg) (a : PySem.W.nsIn K mainGlobals "OK" = some (some (.ref r))) (l : K.lookup r = some ⟨.type "tuple", od, .seq #[.str "ok" t, .none] n, sl⟩) :
    ∃ a : Addr, Cn mg "OK" (.ref a) ∧ ∀ H, SqT K H a [.str "ok", .non] :=
  ⟨r, cn_ref X G a, tup_at (its := [.str "ok" t, .none]) l (by simp) (.cons ⟨t, rfl⟩ (.cons rfl .nil))⟩
theorem meets_at {d r1 r2 r3 : Addr} {es : Array DictEntry} {n n1 n2 n3 : Nat} {t1 t2 t3 t4 t5 t6 t7 : Tok} {od1 od2 od3 : Option Addr} {sl1 sl2 sl3 : Array (Option Value)} (X : K.In h) (G : h.Ns mainGlobals mg) (a : PySem.W.nsIn K mainGlobals "MEETS" = some (some (.ref d)))
    (l : K.lookup d = some ⟨.type "dict", none, .dict es n, #[]⟩) (lit : PySem.W.KeysLit w.params es.toList) (m1 : PySem.W.nsIn K d "text" = some (some (.ref r1))) (m2 : PySem.W.nsIn K d "there" = some (some (.ref r2))) (m3 : PySem.W.nsIn K d "kids" = some (some (.ref r3)))
    (l1 : K.lookup r1 = some ⟨.type "tuple", od1, .seq #[.str "text" t1, .str "gone" t2] n1, sl1⟩) (l2 : K.lookup r2 = some ⟨.type "tuple", od2, .seq #[.str "made" t3, .str "text" t4, .str "gone" t5] n2, sl2⟩) (l3 : K.lookup r3 = some ⟨.type "tuple", od3, .seq #[.str "kids" t6, .str "gone" t7] n3, sl3⟩) : Mx K w mg := by
  refine ⟨d, cn_ref X G a, fun k hk => ?_⟩
  simp only [KINDS, List.mem_cons, List.not_mem_nil, or_false] at hk
  have e1 : MW "text" = (["text", "gone"] : List PySem.Str) := by decide +kernel
  have e2 : MW "there" = (["made", "text", "gone"] : List PySem.Str) := by decide +kernel
  have e3 : MW "kids" = (["kids", "gone"] : List PySem.Str) := by decide +kernel
  rcases hk with rfl | rfl | rfl
  · refine ⟨r1, ⟨es, n, _, l, lit, m1, rfl⟩, ?_⟩
    rw [e1]
    exact tup_at (its := [.str "text" t1, .str "gone" t2]) l1 (by simp) (.cons ⟨t1, rfl⟩ (.cons ⟨t2, rfl⟩ .nil))
  · refine ⟨r2, ⟨es, n, _, l, lit, m2, rfl⟩, ?_⟩
    rw [e2]
    exact tup_at (its := [.str "made" t3, .str "text" t4, .str "gone" t5]) l2 (by simp) (.cons ⟨t3, rfl⟩ (.cons ⟨t4, rfl⟩ (.cons ⟨t5, rfl⟩ .nil)))
  · refine ⟨r3, ⟨es, n, _, l, lit, m3, rfl⟩, ?_⟩
    rw [e3]
    exact tup_at (its := [.str "kids" t6, .str "gone" t7]) l3 (by simp) (.cons ⟨t6, rfl⟩ (.cons ⟨t7, rfl⟩ .nil))
end
theorem walk_law {l : PySem.W.OpenLaw} {q : Program} {loose : List PySem.Str} {XP : (PySem.Str → Option Value) → Heap → Prop} {YP : World → Heap → Prop} {d : DefRec} {K : Params → PySem.W.Frag} (most : l.most = some 63) (noDef : d.params.defaults = [])
    (hY : ∀ (w : World) (h : Heap), YP w h → (K w.params).In h)
    (F : ∀ (w : World) (mg : PySem.Str → Option Value) (fa : Addr) (h : Heap), (K w.params).In h → h.Ns mainGlobals mg → mg d.name = some (.ref fa) →
      ∃ fd : FuncData, (∀ (s : Shared) (u : Value), BindsTo s fd ⟨[u], []⟩ [("_law_script", u)]) ∧ ∀ base : Heap, (K w.params).In base → base.Ns mainGlobals mg → FnOk l.prog w (K w.params) mg base C8.CX0 10 fa fd ["_law_script"] (spLaw (K w.params))) :
    PySem.W.WalkO q loose XP YP l.row.toRowW d [] (fun f vs => PySem.call f vs) :=
  L2.walk_of (n := 63) (k := 10) (x := "_law_script") (CX := fun _ => C8.CX0) (sp := fun w => spLaw (K w.params)) most (by decide) noDef ⟨rfl, by decide, by decide⟩ hY F (fun _ _ a ns hl _ hS => ⟨a, ns, rfl, hS, hl, fun _ => rfl⟩) fun _ _ _ _ _ z => z
end K42

open PySem PySem.W PyProof.Rows
set_option maxRecDepth 100000 in
set_option maxHeartbeats 0 in
theorem PySem.Challenge.cw_watchednodes_k42_whole_laid_anew_as_kept_holds : PySem.Challenge.rw_watchednodes_k42_whole_laid_anew_as_kept.Holds := by
  w_on; o_law; k_head; (case hw => w_witness2)
  k_fill
  refine K42.walk_law (l := PySem.Challenge.rw_watchednodes_k42_whole_laid_anew_as_kept) rfl rfl (fun w h Y => PySem.W.kIn_of Y) ?F
  case F =>
    intro w mg fa h KX G hmg
    refine' K42.all_end (C := ?cC) KX G hmg ?lawa ?lawl ?lawc ?lawk
      ⟨PySem.W.mg_none_of KX G ?z_isinstance, PySem.W.mg_none_of KX G ?z_all, PySem.W.mg_none_of KX G ?z_len, PySem.W.mg_none_of KX G ?z_sorted, PySem.W.mg_none_of KX G ?z_dict, PySem.W.mg_none_of KX G ?z_list, PySem.W.mg_none_of KX G ?z_tuple, PySem.W.mg_none_of KX G ?z_set, PySem.W.mg_none_of KX G ?z_int, PySem.W.mg_none_of KX G ?z_str, PySem.W.mg_none_of KX G ?z_bool, PySem.W.mg_none_of KX G ?z_range, PySem.W.mg_none_of KX G ?z_enumerate, PySem.W.mg_none_of KX G ?z_abs, PySem.W.mg_none_of KX G ?z_max, PySem.W.mg_none_of KX G ?z_min, K42.cn_str KX G ?v_letters, K42.cn_str KX G ?v_figures, K42.cn_int KX G ?v_longest, K42.cn_int KX G ?v_mostParts, K42.cn_int KX G ?v_manyFigures, K42.cn_str KX G ?v_root, K42.cn_int KX G ?v_mostNodes, K42.cn_int KX G ?v_mostMade, K42.cn_int KX G ?v_mostText, K42.cn_int KX G ?v_mostDeeds, K42.long_at (w := w) KX G ?loa ?lol ?lot ?low ?lo1 ?lo2 ?lo3 ?lo4, K42.never_at KX G ?nea ?nel, K42.ok_at KX G ?oka ?okl, K42.cn_int KX G ?v_mostLimit⟩
      (K42.meets_at (w := w) KX G ?mea ?mel ?met ?me1 ?me2 ?me3 ?mex ?mey ?mez)
      ⟨⟨?pg, ?hd, ?po, ?sa⟩, ?na, PySem.W.mg_of KX G ?aC, K42.init_at ?mk ?kc ?i1 ?i2 ?i3 ?i4 K42.bwi, K42.mb_at ?wl1 ?wl2 ?wl3 ?wl4 ?wl5 K42.bwl, K42.mb_at ?wm1 ?wm2 ?wm3 ?wm4 ?wm5 K42.bwm, K42.mb_at ?wg1 ?wg2 ?wg3 ?wg4 ?wg5 K42.bwg, K42.mb_at ?wa1 ?wa2 ?wa3 ?wa4 ?wa5 K42.bwa, K42.mb_at ?wk1 ?wk2 ?wk3 ?wk4 ?wk5 K42.bwk⟩
      (K42.db_at KX G ?d1a ?d1l ?d1c ?d1k K42.bd1)
      (K42.db_at KX G ?d2a ?d2l ?d2c ?d2k K42.bd2)
      (K42.db_at KX G ?d3a ?d3l ?d3c ?d3k K42.bd3)
      (K42.db_at KX G ?d4a ?d4l ?d4c ?d4k K42.bd4)
      (K42.db_at KX G ?d5a ?d5l ?d5c ?d5k K42.bd5)
      (K42.db_at KX G ?d6a ?d6l ?d6c ?d6k K42.bd6)
      (K42.db_at KX G ?d7a ?d7l ?d7c ?d7k K42.bd7)
      (K42.db_at KX G ?d8a ?d8l ?d8c ?d8k K42.bd8)
      (K42.db_at KX G ?d9a ?d9l ?d9c ?d9k K42.bd9)
      (K42.db_at KX G ?d10a ?d10l ?d10c ?d10k K42.bd10)
      (K42.db_at KX G ?d11a ?d11l ?d11c ?d11k K42.bd11)
      (K42.db_at KX G ?d12a ?d12l ?d12c ?d12k K42.bd12)
      (K42.db_at KX G ?d13a ?d13l ?d13c ?d13k K42.bd13)
      (K42.db_at KX G ?d14a ?d14l ?d14c ?d14k K42.bd14)
      (K42.db_at KX G ?d15a ?d15l ?d15c ?d15k K42.bd15)
      (K42.db_at KX G ?d16a ?d16l ?d16c ?d16k K42.bd16)
      (K42.db_at KX G ?d17a ?d17l ?d17c ?d17k K42.bd17)
      (K42.db_at KX G ?d18a ?d18l ?d18c ?d18k K42.bd18)
      (K42.db_at KX G ?d19a ?d19l ?d19c ?d19k K42.bd19)
      (K42.db_at KX G ?d20a ?d20l ?d20c ?d20k K42.bd20)
      (K42.db_at KX G ?d21a ?d21l ?d21c ?d21k K42.bd21)
      (K42.db_at KX G ?d22a ?d22l ?d22c ?d22k K42.bd22)
      (K42.dk_at KX G ?d23a ?d23l ?d23c ?d23k K42.bd23)
      (K42.db_at KX G ?d24a ?d24l ?d24c ?d24k K42.bd24)
      (K42.db_at KX G ?d25a ?d25l ?d25c ?d25k K42.bd25)
      (K42.db_at KX G ?d26a ?d26l ?d26c ?d26k K42.bd26)
      (K42.db_at KX G ?d27a ?d27l ?d27c ?d27k K42.bd27)
      (K42.db_at KX G ?d28a ?d28l ?d28c ?d28k K42.bd28)
      (K42.dk_at KX G ?d29a ?d29l ?d29c ?d29k K42.bd29)
      (K42.db_at KX G ?d30a ?d30l ?d30c ?d30k K42.bd30)
      (K42.db_at KX G ?d31a ?d31l ?d31c ?d31k K42.bd31)
      (K42.db_at KX G ?d38a ?d38l ?d38c ?d38k K42.bd38)
      (K42.db_at KX G ?d39a ?d39l ?d39c ?d39k K42.bd39)
      (K42.db_at KX G ?d40a ?d40l ?d40c ?d40k K42.bd40)
      (K42.db_at KX G ?d41a ?d41l ?d41c ?d41k K42.bd41)
      (K42.db_at KX G ?d42a ?d42l ?d42c ?d42k K42.bd42)
      (K42.db_at KX G ?d43a ?d43l ?d43c ?d43k K42.bd43)
      (K42.db_at KX G ?d44a ?d44l ?d44c ?d44k K42.bd44)
      (K42.db_at KX G ?d45a ?d45l ?d45c ?d45k K42.bd45)
      (K42.db_at KX G ?d46a ?d46l ?d46c ?d46k K42.bd46)
      (K42.db_at KX G ?d47a ?d47l ?d47c ?d47k K42.bd47)
      (K42.db_at KX G ?d48a ?d48l ?d48c ?d48k K42.bd48)
    (case aC => k_is)
    (case lawa => k_is)
    (case lawl => k_is)
    (case lawc => k_is)
    (case lawk => k_is)
    (case z_isinstance => k_is)
    (case z_all => k_is)
    (case z_len => k_is)
    (case z_sorted => k_is)
    (case z_dict => k_is)
    (case z_list => k_is)
    (case z_tuple => k_is)
    (case z_set => k_is)
    (case z_int => k_is)
    (case z_str => k_is)
    (case z_bool => k_is)
    (case z_range => k_is)
    (case z_enumerate => k_is)
    (case z_abs => k_is)
    (case z_max => k_is)
    (case z_min => k_is)
    (case v_letters => k_is)
    (case v_figures => k_is)
    (case v_longest => k_is)
    (case v_mostParts => k_is)
    (case v_manyFigures => k_is)
    (case v_root => k_is)
    (case v_mostNodes => k_is)
    (case v_mostMade => k_is)
    (case v_mostText => k_is)
    (case v_mostDeeds => k_is)
    (case loa => k_is)
    (case lol => k_is)
    (case lot => first | k_is | exact ⟨⟨_, _, rfl, rfl⟩, ⟨_, _, rfl, rfl⟩, ⟨_, _, rfl, rfl⟩, ⟨_, _, rfl, rfl⟩, True.intro⟩)
    (case low => first | k_is | decide | rfl)
    (case lo1 => k_is)
    (case lo2 => k_is)
    (case lo3 => k_is)
    (case lo4 => k_is)
    (case nea => k_is)
    (case nel => k_is)
    (case oka => k_is)
    (case okl => k_is)
    (case v_mostLimit => k_is)
    (case mea => k_is)
    (case mel => k_is)
    (case met => first | k_is | exact ⟨⟨_, _, rfl, rfl⟩, ⟨_, _, rfl, rfl⟩, ⟨_, _, rfl, rfl⟩, True.intro⟩)
    (case me1 => k_is)
    (case me2 => k_is)
    (case me3 => k_is)
    (case mex => k_is)
    (case mey => k_is)
    (case mez => k_is)
    (case pg => k_is)
    (case hd => k_is)
    (case po => k_is)
    (case sa => k_is)
    (case na => unfold L2.NoAttr; k_is)
    (case mk => k_is)
    (case kc => k_is)
    (case i1 => k_is)
    (case i2 => k_is)
    (case i3 => k_is)
    (case i4 => k_is)
    (case wl1 => k_is)
    (case wl2 => k_is)
    (case wl3 => k_is)
    (case wl4 => k_is)
    (case wl5 => k_is)
    (case wm1 => k_is)
    (case wm2 => k_is)
    (case wm3 => k_is)
    (case wm4 => k_is)
    (case wm5 => k_is)
    (case wg1 => k_is)
    (case wg2 => k_is)
    (case wg3 => k_is)
    (case wg4 => k_is)
    (case wg5 => k_is)
    (case wa1 => k_is)
    (case wa2 => k_is)
    (case wa3 => k_is)
    (case wa4 => k_is)
    (case wa5 => k_is)
    (case wk1 => k_is)
    (case wk2 => k_is)
    (case wk3 => k_is)
    (case wk4 => k_is)
    (case wk5 => k_is)
    (case d1a => k_is)
    (case d1l => k_is)
    (case d1c => k_is)
    (case d1k => k_is)
    (case d2a => k_is)
    (case d2l => k_is)
    (case d2c => k_is)
    (case d2k => k_is)
    (case d3a => k_is)
    (case d3l => k_is)
    (case d3c => k_is)
    (case d3k => k_is)
    (case d4a => k_is)
    (case d4l => k_is)
    (case d4c => k_is)
    (case d4k => k_is)
    (case d5a => k_is)
    (case d5l => k_is)
    (case d5c => k_is)
    (case d5k => k_is)
    (case d6a => k_is)
    (case d6l => k_is)
    (case d6c => k_is)
    (case d6k => k_is)
    (case d7a => k_is)
    (case d7l => k_is)
    (case d7c => k_is)
    (case d7k => k_is)
    (case d8a => k_is)
    (case d8l => k_is)
    (case d8c => k_is)
    (case d8k => k_is)
    (case d9a => k_is)
    (case d9l => k_is)
    (case d9c => k_is)
    (case d9k => k_is)
    (case d10a => k_is)
    (case d10l => k_is)
    (case d10c => k_is)
    (case d10k => k_is)
    (case d11a => k_is)
    (case d11l => k_is)
    (case d11c => k_is)
    (case d11k => k_is)
    (case d12a => k_is)
    (case d12l => k_is)
    (case d12c => k_is)
    (case d12k => k_is)
    (case d13a => k_is)
    (case d13l => k_is)
    (case d13c => k_is)
    (case d13k => k_is)
    (case d14a => k_is)
    (case d14l => k_is)
    (case d14c => k_is)
    (case d14k => k_is)
    (case d15a => k_is)
    (case d15l => k_is)
    (case d15c => k_is)
    (case d15k => k_is)
    (case d16a => k_is)
    (case d16l => k_is)
    (case d16c => k_is)
    (case d16k => k_is)
    (case d17a => k_is)
    (case d17l => k_is)
    (case d17c => k_is)
    (case d17k => k_is)
    (case d18a => k_is)
    (case d18l => k_is)
    (case d18c => k_is)
    (case d18k => k_is)
    (case d19a => k_is)
    (case d19l => k_is)
    (case d19c => k_is)
    (case d19k => k_is)
    (case d20a => k_is)
    (case d20l => k_is)
    (case d20c => k_is)
    (case d20k => k_is)
    (case d21a => k_is)
    (case d21l => k_is)
    (case d21c => k_is)
    (case d21k => k_is)
    (case d22a => k_is)
    (case d22l => k_is)
    (case d22c => k_is)
    (case d22k => k_is)
    (case d23a => k_is)
    (case d23l => k_is)
    (case d23c => k_is)
    (case d23k => k_is)
    (case d24a => k_is)
    (case d24l => k_is)
    (case d24c => k_is)
    (case d24k => k_is)
    (case d25a => k_is)
    (case d25l => k_is)
    (case d25c => k_is)
    (case d25k => k_is)
    (case d26a => k_is)
    (case d26l => k_is)
    (case d26c => k_is)
    (case d26k => k_is)
    (case d27a => k_is)
    (case d27l => k_is)
    (case d27c => k_is)
    (case d27k => k_is)
    (case d28a => k_is)
    (case d28l => k_is)
    (case d28c => k_is)
    (case d28k => k_is)
    (case d29a => k_is)
    (case d29l => k_is)
    (case d29c => k_is)
    (case d29k => k_is)
    (case d30a => k_is)
    (case d30l => k_is)
    (case d30c => k_is)
    (case d30k => k_is)
    (case d31a => k_is)
    (case d31l => k_is)
    (case d31c => k_is)
    (case d31k => k_is)
    (case d38a => k_is)
    (case d38l => k_is)
    (case d38c => k_is)
    (case d38k => k_is)
    (case d39a => k_is)
    (case d39l => k_is)
    (case d39c => k_is)
    (case d39k => k_is)
    (case d40a => k_is)
    (case d40l => k_is)
    (case d40c => k_is)
    (case d40k => k_is)
    (case d41a => k_is)
    (case d41l => k_is)
    (case d41c => k_is)
    (case d41k => k_is)
    (case d42a => k_is)
    (case d42l => k_is)
    (case d42c => k_is)
    (case d42k => k_is)
    (case d43a => k_is)
    (case d43l => k_is)
    (case d43c => k_is)
    (case d43k => k_is)
    (case d44a => k_is)
    (case d44l => k_is)
    (case d44c => k_is)
    (case d44k => k_is)
    (case d45a => k_is)
    (case d45l => k_is)
    (case d45c => k_is)
    (case d45k => k_is)
    (case d46a => k_is)
    (case d46l => k_is)
    (case d46c => k_is)
    (case d46k => k_is)
    (case d47a => k_is)
    (case d47l => k_is)
    (case d47c => k_is)
    (case d47k => k_is)
    (case d48a => k_is)
    (case d48l => k_is)
    (case d48c => k_is)
    (case d48k => k_is)
#print axioms PySem.Challenge.cw_watchednodes_k42_whole_laid_anew_as_kept_holds
