import PyProof.Rows.All
import Wide.All
import OpenK.AllK
import Wide.FinOn
import HandS.ForMost
import HandS.ForExc
import HandS.IsInst
import HandS.TupAny
import HandS.FStr
import HandS.Style
import HandS.NoneIn
import HandS.Walk
import HandS.ExcInit
import HandS.ExcField
import HandS.Lambda
import HandS.EndTab
import HandS.RaiseMore
import KE.SortKeyHeap
import KE.GoesEnum
import PySem.Challenge.RW_rightage_k73_whole_texts_there_and_back
set_option Elab.async false
set_option linter.all false
set_option maxRecDepth 100000
set_option maxHeartbeats 4000000
/-! The text by places, the names' slots, what is known of the text behind the top. -/
namespace Rt
open PySem PySem.Spec PyProof.Rows L2
/-! ### the text -/
def topS (i : Nat) : Stmt := PySem.Challenge.pw_rightage_k73_whole_texts_there_and_back.main.body.getD i (.Pass ⟨0, 0, 0, 0⟩)
abbrev sNTinit : Stmt := inClass (topS 11) 0
abbrev sIsNumber : Stmt := topS 16
abbrev sIsName : Stmt := topS 17
abbrev sIsRow : Stmt := topS 18
abbrev sKindsFault : Stmt := topS 19
abbrev sIsKind : Stmt := topS 20
abbrev sSourceFault : Stmt := topS 21
abbrev sPartFault : Stmt := topS 22
abbrev sAreHours : Stmt := topS 23
abbrev sWayFault : Stmt := topS 24
abbrev sHoursText : Stmt := topS 28
abbrev sWayText : Stmt := topS 29
abbrev sWorldText : Stmt := topS 30
abbrev sNumberIn : Stmt := topS 31
abbrev sNumbersIn : Stmt := topS 32
abbrev sHoursIn : Stmt := topS 33
abbrev sPartsIn : Stmt := topS 34
abbrev sRInit : Stmt := inClass (topS 35) 0
abbrev sTakeRound : Stmt := inClass (topS 35) 1
abbrev sTakeKinds : Stmt := inClass (topS 35) 2
abbrev sTakeSource : Stmt := inClass (topS 35) 3
abbrev sTakeWay : Stmt := inClass (topS 35) 4
abbrev sTake : Stmt := inClass (topS 35) 5
abbrev sReadWorld : Stmt := topS 36
abbrev sDraws : Stmt := topS 38
abbrev sNext : Stmt := topS 39
abbrev sNames : Stmt := topS 40
abbrev sWords : Stmt := topS 45
abbrev sLines : Stmt := topS 46
abbrev sRead : Stmt := topS 47
abbrev sLaw : Stmt := topS 48
/-! ### the slots -/
abbrev nNTinit : List Str := ["self", "line"]
abbrev nIsNumber : List Str := ["thing", "low", "high"]
abbrev nIsName : List Str := ["thing", "sign"]
abbrev nIsRow : List Str := ["thing", "least", "most"]
abbrev nKindsFault : List Str := ["kinds", "at", "kind"]
abbrev nIsKind : List Str := ["kinds", "thing"]
abbrev nSourceFault : List Str := ["size", "kinds", "source", "path", "bounds", "at", "word", "low", "high"]
abbrev nPartFault : List Str := ["kinds", "part", "path"]
abbrev nAreHours : List Str := ["size", "thing", "at", "place"]
abbrev nWayFault : List Str := ["size", "kinds", "way", "path", "at", "part", "fault"]
abbrev nHoursText : List Str := ["hours", "hour"]
abbrev nWayText : List Str := ["way", "kind", "parts", "keeps", "hours", "wait", "words", "name", "least", "greatest"]
abbrev nWorldText : List Str := ["world", "size", "kinds", "sources", "ways", "lines", "source", "thing", "way"]
abbrev nNumberIn : List Str := ["word", "sign"]
abbrev nNumbersIn : List Str := ["words", "word"]
abbrev nHoursIn : List Str := ["word"]
abbrev nPartsIn : List Str := ["words", "at"]
abbrev nRInit : List Str := ["self"]
abbrev nTakeRound : List Str := ["self", "words", "size"]
abbrev nTakeKinds : List Str := ["self", "words"]
abbrev nTakeSource : List Str := ["self", "words", "source"]
abbrev nTakeWay : List Str := ["self", "words", "way"]
abbrev nTake : List Str := ["self", "at", "line", "words"]
abbrev nReadWorld : List Str := ["text", "lines", "reader", "at", "line"]
abbrev nDraws : List Str := ["_law_script", "_law_may", "_law_cells", "_law_cell"]
abbrev nNext : List Str := ["_law_drawn", "_law_many", "_law_cells", "_law_turns", "_law_rests", "_law_may", "_law_at", "_law_digit", "_law_mixed", "_law_more"]
abbrev nNames : List Str := ["_law_drawn", "_law_many", "_law_left", "_law_stem", "_law_at", "_law_k"]
abbrev nWords : List Str := ["_law_drawn", "_law_kinds", "_law_size", "_law_kind", "_law_numbers", "_law_hours", "_law_words_here", "_law_k", "_law_hour"]
abbrev nLines : List Str := ["_law_drawn", "_law_size", "_law_kinds", "_law_lines_here", "_law_some", "_law_found", "_law_at", "_law_k", "_law_words_here"]
abbrev nRead : List Str := ["_law_text", "_law_found", "e"]
abbrev nLaw : List Str := ["_law_script", "_law_drawn", "_law_read_here", "_law_turn", "_law_lines_here", "_law_text", "_law_found", "_law_twins", "_law_ahead", "_law_more", "_law_one", "_law_other"]
theorem scNTinit : FnScope nNTinit ["self", "line"] (defScope sNTinit) := ⟨rfl, rfl, rfl, by decide +kernel, rfl, by decide +kernel, by decide +kernel⟩
theorem scIsNumber : FnScope nIsNumber ["thing", "low", "high"] (defScope sIsNumber) := ⟨rfl, rfl, rfl, by decide +kernel, rfl, by decide +kernel, by decide +kernel⟩
theorem scIsName : FnScope nIsName ["thing"] (defScope sIsName) := ⟨rfl, rfl, rfl, by decide +kernel, rfl, by decide +kernel, by decide +kernel⟩
theorem scIsRow : FnScope nIsRow ["thing", "least", "most"] (defScope sIsRow) := ⟨rfl, rfl, rfl, by decide +kernel, rfl, by decide +kernel, by decide +kernel⟩
theorem scKindsFault : FnScope nKindsFault ["kinds"] (defScope sKindsFault) := ⟨rfl, rfl, rfl, by decide +kernel, rfl, by decide +kernel, by decide +kernel⟩
theorem scIsKind : FnScope nIsKind ["kinds", "thing"] (defScope sIsKind) := ⟨rfl, rfl, rfl, by decide +kernel, rfl, by decide +kernel, by decide +kernel⟩
theorem scSourceFault : FnScope nSourceFault ["size", "kinds", "source", "path"] (defScope sSourceFault) := ⟨rfl, rfl, rfl, by decide +kernel, rfl, by decide +kernel, by decide +kernel⟩
theorem scPartFault : FnScope nPartFault ["kinds", "part", "path"] (defScope sPartFault) := ⟨rfl, rfl, rfl, by decide +kernel, rfl, by decide +kernel, by decide +kernel⟩
theorem scAreHours : FnScope nAreHours ["size", "thing"] (defScope sAreHours) := ⟨rfl, rfl, rfl, by decide +kernel, rfl, by decide +kernel, by decide +kernel⟩
theorem scWayFault : FnScope nWayFault ["size", "kinds", "way", "path"] (defScope sWayFault) := ⟨rfl, rfl, rfl, by decide +kernel, rfl, by decide +kernel, by decide +kernel⟩
theorem scHoursText : FnScope nHoursText ["hours"] (defScope sHoursText) := ⟨rfl, rfl, rfl, by decide +kernel, rfl, by decide +kernel, by decide +kernel⟩
theorem scWayText : FnScope nWayText ["way"] (defScope sWayText) := ⟨rfl, rfl, rfl, by decide +kernel, rfl, by decide +kernel, by decide +kernel⟩
theorem scWorldText : FnScope nWorldText ["world"] (defScope sWorldText) := ⟨rfl, rfl, rfl, by decide +kernel, rfl, by decide +kernel, by decide +kernel⟩
theorem scNumberIn : FnScope nNumberIn ["word"] (defScope sNumberIn) := ⟨rfl, rfl, rfl, by decide +kernel, rfl, by decide +kernel, by decide +kernel⟩
theorem scNumbersIn : FnScope nNumbersIn ["words"] (defScope sNumbersIn) := ⟨rfl, rfl, rfl, by decide +kernel, rfl, by decide +kernel, by decide +kernel⟩
theorem scHoursIn : FnScope nHoursIn ["word"] (defScope sHoursIn) := ⟨rfl, rfl, rfl, by decide +kernel, rfl, by decide +kernel, by decide +kernel⟩
theorem scPartsIn : FnScope nPartsIn ["words"] (defScope sPartsIn) := ⟨rfl, rfl, rfl, by decide +kernel, rfl, by decide +kernel, by decide +kernel⟩
theorem scRInit : FnScope nRInit ["self"] (defScope sRInit) := ⟨rfl, rfl, rfl, by decide +kernel, rfl, by decide +kernel, by decide +kernel⟩
theorem scTakeRound : FnScope nTakeRound ["self", "words"] (defScope sTakeRound) := ⟨rfl, rfl, rfl, by decide +kernel, rfl, by decide +kernel, by decide +kernel⟩
theorem scTakeKinds : FnScope nTakeKinds ["self", "words"] (defScope sTakeKinds) := ⟨rfl, rfl, rfl, by decide +kernel, rfl, by decide +kernel, by decide +kernel⟩
theorem scTakeSource : FnScope nTakeSource ["self", "words"] (defScope sTakeSource) := ⟨rfl, rfl, rfl, by decide +kernel, rfl, by decide +kernel, by decide +kernel⟩
theorem scTakeWay : FnScope nTakeWay ["self", "words"] (defScope sTakeWay) := ⟨rfl, rfl, rfl, by decide +kernel, rfl, by decide +kernel, by decide +kernel⟩
theorem scTake : FnScope nTake ["self", "at", "line"] (defScope sTake) := ⟨rfl, rfl, rfl, by decide +kernel, rfl, by decide +kernel, by decide +kernel⟩
theorem scReadWorld : FnScope nReadWorld ["text"] (defScope sReadWorld) := ⟨rfl, rfl, rfl, by decide +kernel, rfl, by decide +kernel, by decide +kernel⟩
theorem scDraws : FnScope nDraws ["_law_script", "_law_may"] (defScope sDraws) := ⟨rfl, rfl, rfl, by decide +kernel, rfl, by decide +kernel, by decide +kernel⟩
theorem scNext : FnScope nNext ["_law_drawn", "_law_many"] (defScope sNext) := ⟨rfl, rfl, rfl, by decide +kernel, rfl, by decide +kernel, by decide +kernel⟩
theorem scNames : FnScope nNames ["_law_drawn", "_law_many"] (defScope sNames) := ⟨rfl, rfl, rfl, by decide +kernel, rfl, by decide +kernel, by decide +kernel⟩
theorem scWords : FnScope nWords ["_law_drawn", "_law_kinds", "_law_size"] (defScope sWords) := ⟨rfl, rfl, rfl, by decide +kernel, rfl, by decide +kernel, by decide +kernel⟩
theorem scLines : FnScope nLines ["_law_drawn"] (defScope sLines) := ⟨rfl, rfl, rfl, by decide +kernel, rfl, by decide +kernel, by decide +kernel⟩
theorem scRead : FnScope nRead ["_law_text"] (defScope sRead) := ⟨rfl, rfl, rfl, by decide +kernel, rfl, by decide +kernel, by decide +kernel⟩
theorem scLaw : FnScope nLaw ["_law_script"] (defScope sLaw) := ⟨rfl, rfl, rfl, by decide +kernel, rfl, by decide +kernel, by decide +kernel⟩
/-! ### what stands behind the top -/
structure DefAt (K : PySem.W.Frag) (mg : Str → Option Value) (name : Str) (st : Stmt) (ps : List Str) where
  f : Addr
  fd : FuncData
  F : Fun K name name st f fd
  b : Binds K fd ps []
  g : mg name = some (.ref f)
structure MethAt (K : PySem.W.Frag) (C : Addr) (name qual : Str) (st : Stmt) (ps : List Str) where
  f : Addr
  fd : FuncData
  F : Fun K name qual st f fd
  b : Binds K fd ps []
  m : Meth K C name f
structure Txt (K : PySem.W.Frag) (mg : Str → Option Value) where
  isNumber : DefAt K mg "is_number" sIsNumber ["thing", "low", "high"]
  isName : DefAt K mg "is_name" sIsName ["thing"]
  isRow : DefAt K mg "is_row" sIsRow ["thing", "least", "most"]
  kindsFault : DefAt K mg "kinds_fault" sKindsFault ["kinds"]
  isKind : DefAt K mg "is_kind" sIsKind ["kinds", "thing"]
  sourceFault : DefAt K mg "source_fault" sSourceFault ["size", "kinds", "source", "path"]
  partFault : DefAt K mg "part_fault" sPartFault ["kinds", "part", "path"]
  areHours : DefAt K mg "are_hours" sAreHours ["size", "thing"]
  wayFault : DefAt K mg "way_fault" sWayFault ["size", "kinds", "way", "path"]
  hoursText : DefAt K mg "hours_text" sHoursText ["hours"]
  wayText : DefAt K mg "way_text" sWayText ["way"]
  worldText : DefAt K mg "world_text" sWorldText ["world"]
  numberIn : DefAt K mg "number_in" sNumberIn ["word"]
  numbersIn : DefAt K mg "numbers_in" sNumbersIn ["words"]
  hoursIn : DefAt K mg "hours_in" sHoursIn ["word"]
  partsIn : DefAt K mg "parts_in" sPartsIn ["words"]
  readWorld : DefAt K mg "read_world" sReadWorld ["text"]
  draws : DefAt K mg "_law_draws" sDraws ["_law_script", "_law_may"]
  next : DefAt K mg "_law_next" sNext ["_law_drawn", "_law_many"]
  names : DefAt K mg "_law_names" sNames ["_law_drawn", "_law_many"]
  words : DefAt K mg "_law_words" sWords ["_law_drawn", "_law_kinds", "_law_size"]
  lines : DefAt K mg "_law_lines" sLines ["_law_drawn"]
  read : DefAt K mg "_law_read" sRead ["_law_text"]
  law : DefAt K mg "law" sLaw ["_law_script"]
  -- the class Reader
  C : Addr
  cl : Cls K C
  nSize : NoAttr K C "size"
  nKinds : NoAttr K C "kinds"
  nSources : NoAttr K C "sources"
  nWays : NoAttr K C "ways"
  mgC : mg "Reader" = some (.ref C)
  rInit : MethAt K C "__init__" "Reader.__init__" sRInit ["self"]
  rmk : Mk K C rInit.f
  takeRound : MethAt K C "take_round" "Reader.take_round" sTakeRound ["self", "words"]
  takeKinds : MethAt K C "take_kinds" "Reader.take_kinds" sTakeKinds ["self", "words"]
  takeSource : MethAt K C "take_source" "Reader.take_source" sTakeSource ["self", "words"]
  takeWay : MethAt K C "take_way" "Reader.take_way" sTakeWay ["self", "words"]
  take : MethAt K C "take" "Reader.take" sTake ["self", "at", "line"]
  -- the class NoText
  CN : Addr
  fN : Addr
  fdN : FuncData
  FN : Fun K "__init__" "NoText.__init__" sNTinit fN fdN
  bN : Binds K fdN ["self", "line"] []
  oex : OexC K CN
  iN : PySem.W.findIn K (.ref CN) "__init__" = some (some (.ref fN))
  tN : PySem.W.typeIn K (.ref fN) = some (.type "function")
  mgN : mg "NoText" = some (.ref CN)
  nLine : PySem.W.findIn K (.ref CN) "line" = some none
  xf : XfC K CN
  exm : PySem.W.exmOne K (.ref CN) (.ref CN) = some true
  -- the module's constants
  kROUND : ∃ t, mg "ROUND" = some (.int 6 t)
  kKINDS : ∃ t, mg "KINDS" = some (.int 4 t)
  kSOURCES : ∃ t, mg "SOURCES" = some (.int 6 t)
  kOLD : ∃ t, mg "OLD" = some (.int 20 t)
  kSINCE : ∃ t, mg "SINCE" = some (.int 1000000 t)
  kMANY : ∃ t, mg "MANY" = some (.int 9 t)
  kWAYS : ∃ t, mg "WAYS" = some (.int 8 t)
  kPARTS : ∃ t, mg "PARTS" = some (.int 3 t)
  kWAIT : ∃ t, mg "WAIT" = some (.int 6 t)
  kLETTERS : ∃ t, mg "LETTERS" = some (.str "abcdefghijklmnopqrstuvwxyz" t)
  kOLDEST : ∃ t, mg "OLDEST" = some (.str "oldest" t)
  kYOUNGEST : ∃ t, mg "YOUNGEST" = some (.str "youngest" t)
  kLONGEST : ∃ t, mg "LONGEST" = some (.int 7 t)
  kNOHOURS : ∃ t, mg "NO_HOURS" = some (.str "-" t)
  -- the built-in names
  bIsinstance : mg "isinstance" = none
  bInt : mg "int" = none
  bBool : mg "bool" = none
  bStr : mg "str" = none
  bTuple : mg "tuple" = none
  bList : mg "list" = none
  bLen : mg "len" = none
  bAll : mg "all" = none
  bEnumerate : mg "enumerate" = none
  bRange : mg "range" = none
  bSorted : mg "sorted" = none
end Rt
set_option Elab.async false
set_option linter.all false
set_option maxRecDepth 100000
set_option maxHeartbeats 4000000
/-! Rules that the layer lacks: enumerate(tuple), list(text), text * int. -/
namespace Rt
open PySem PySem.Spec PyProof.Rows L2
/-! ### enumerate(tuple) -/
theorem meets_enum1 {v : Value} {o : Obj} {Z : Heap → Prop} (B : Begins v o Z) :
    Meets (Builtin.«enumerate.__new__» ⟨[.type "enumerate", v], []⟩) (fun _ R s => Z s.heap ∧
      R (.ok (.ret (.ref (s.heap.push o).objs.size))) { s with heap := (s.heap.push o).push { cls := .type "enumerate", data := .fields #[.none, .bool false, .ref s.heap.objs.size, rawInt 0, .none, .none] } }) :=
  .of_wp fun prog w A R s h => by
    obtain ⟨hp, g, d, tk, os⟩ := s
    obtain ⟨hz, hR⟩ := h
    have subE := sub_enumerate
    have itr : ∀ {A' : Around} {E : Value → Shared → Prop} {Q : Value → Shared → Prop}, Q (.ref hp.objs.size) ⟨hp.push o, g, d, tk, os⟩ → wpAny (model prog w) A' (pyIter v) Q E ⟨hp, g, d, tk, os⟩ :=
      fun q => B.iter prog w _ _ ⟨hp, g, d, tk, os⟩ _ hz q
    wp_walk using itr
    refine wpAny_stack_any fun st => wpAny_pure ?_
    split
    · rename_i c _ _ _ _ _
      cases (c == Value.type "enumerate") <;> (wp_walk using itr; exact ⟨_, rfl, hR⟩)
    · wp_walk using itr
      exact ⟨_, rfl, hR⟩
section
variable {prog : Program} {w : World} {A : Around} {E : Value → Shared → Prop} {s : Shared}
theorem call_enum_tup {t : Addr} {items : Array Value} {Q : Value → Shared → Prop} (hT : s.heap.IsTuple t items)
    (h : ∀ h', IsEnum h' (s.heap.objs.size + 1) s.heap.objs.size 0 .none → h'.IsTupleIter s.heap.objs.size t 0 →
      (∀ b o, s.heap.get? b = some o → h'.get? b = some o) → Q (.ref (s.heap.objs.size + 1)) { s with heap := h' }) :
    wpAny (model prog w) A (call (.type "enumerate") [.ref t]) Q E s := by
  refine callType_new F.called_enumerate (by decide) (F.typeCall_enumerate_1 _) (F.newCall_enumerate_1 _) (fun obj => F.args_object_init_2 obj _) F.entry_enumerate_new (meets_enum1 (begins_tuple t items)) ⟨hT, ?_⟩
  have sz : (s.heap.push { cls := .type "tuple_iterator", data := .fields #[.ref t, .int 0 0] }).objs.size = s.heap.objs.size + 1 := Heap.size_push ..
  show _ ∧ _
  rw [sz]
  have at1 : IsEnum ((s.heap.push { cls := .type "tuple_iterator", data := .fields #[.ref t, .int 0 0] }).push { cls := .type "enumerate", data := .fields #[.none, .bool false, .ref s.heap.objs.size, rawInt 0, .none, .none] })
      (s.heap.objs.size + 1) s.heap.objs.size 0 .none := by
    have g := Heap.get?_push_size (s.heap.push { cls := .type "tuple_iterator", data := .fields #[.ref t, .int 0 0] }) (o := { cls := .type "enumerate", data := .fields #[.none, .bool false, .ref s.heap.objs.size, rawInt 0, .none, .none] }) rfl
    rw [sz] at g
    exact g
  refine ⟨⟨_, at1, rfl⟩, h _ at1 ?_ fun b o x => Heap.get?_push_of_some _ (Heap.get?_push_of_some _ x)⟩
  exact ⟨_, Heap.get?_push_of_some _ (Heap.get?_push_size _ rfl), rfl, rfl⟩
end
/-- the tuple at a as it stands, each item in a new pair -/
def ItE (K : PySem.W.Frag) (a : Addr) : It :=
  ⟨fun i H => ∃ (xs : List V) (x : V), SqT K H a xs ∧ xs[i]? = some x,
   fun i H v H' => ∃ T x, v = .ref T ∧ H T = none ∧ H' = upd H T (.tup [.int (i : Nat), x]) ∧ ∀ xs, SqT K H a xs → xs[i]? = some x,
   fun i H => ∃ xs : List V, SqT K H a xs ∧ xs.length = i⟩
theorem turn_enumT {P : Program} {w : World} {K : PySem.W.Frag} {elts : List Expr} {kk : Nat} {tpos : Pos} (a e it : Addr) :
    Turn P w K (.Tuple elts kk tpos) (ItE K a) [e, it] e (fun i h => (∃ old, IsEnum h e it ((i : Nat) : Int) old) ∧ h.IsTupleIter it a i ∧ e ≠ it ∧ a ≠ it ∧ a ≠ e) where
  mem := by simp
  obj := fun i h st b hb => by
    obtain ⟨⟨old, he⟩, ⟨o, ho, hc, hd⟩, _⟩ := st
    have e2 : b = e ∨ b = it := by simpa using hb
    rcases e2 with z | z
    · subst z
      exact ⟨_, he, fun v q => nomatch q⟩
    · subst z
      exact ⟨o, ho, fun v q => by rw [hd] at q; cases q⟩
  keep := fun i h h' st k => by
    obtain ⟨⟨old, he⟩, hi, hne⟩ := st
    exact ⟨⟨old, k e (by simp) _ he⟩, hi.at fun o q => k it (by simp) o q, hne⟩
  item := by
    intro X hP hw hK hc i pins s σ H E I hf st hg
    subst hP hw hK
    obtain ⟨⟨old, he⟩, hit, hne, ha1, ha2⟩ := st
    obtain ⟨xs, x, hq, hx⟩ := hg
    obtain ⟨its, rv, p, hz⟩ := I.tuple hq
    obtain ⟨u, hu, ru⟩ := rv.get hx
    have hlt : i < its.toArray.size := by
      have q := (List.getElem?_eq_some_iff.mp hu).1
      simpa using q
    have hel : e < s.heap.objs.size := Heap.lt_size he
    have hil : it < s.heap.objs.size := by
      obtain ⟨_, q, _⟩ := hit
      exact Heap.lt_size q
    refine wpAny_pyNext_enum_itemD (Draws.tuple (A := X.A.in1) (by exact I.ok.hd hc) it a ha1 its.toArray) he ⟨hit, p⟩ hlt hne (by
      intro z
      have z2 : e = it ∨ e = a := by simpa using z
      rcases z2 with z | z
      · exact hne z
      · exact ha2 z.symm) fun y h' tk hy ho hit' hT hsz hk => ?_
    have ey : y = u := by
      have h1 : its.toArray[i]? = some u := by simpa using hu
      exact Option.some.inj (hy.symm.trans h1)
    subst ey
    refine ⟨_, rfl, wpAny_letOwnedTupleGo_enum (s := { s with heap := h', toks := tk + 1 }) ho fun h'' he' sb => ?_⟩
    have hT2 : h''.get? s.heap.objs.size = some { cls := .type "tuple", data := .seq #[.int i tk, y] } := (sb.2 _ (Nat.ne_of_gt hel)).trans hT
    have new : ObjOk X.prog X.w (upd H s.heap.objs.size (.tup [.int (i : Nat), x])) h'' s.heap.objs.size (.tup [.int (i : Nat), x]) :=
      ⟨by show 2 ≤ sizeLine; decide, [.int i tk, y], .cons ⟨_, rfl⟩ (.cons ru .nil), ⟨_, hT2, rfl, _, rfl⟩⟩
    have I1 : Inv X pins σ (upd H s.heap.objs.size (.tup [.int (i : Nat), x])) { s with heap := h'', toks := tk + 1 } :=
      I.turnedNew (ch := [e, it]) (fun b ob hb q => (sb.2 b (fun z => hb (by simp [z]))).trans (hk b ob (fun z => hb (by simp [z])) (fun z => hb (by simp [z])) q)) hf (Nat.le_refl _) new
    refine ⟨.ref s.heap.objs.size, _, I1, rfl, ⟨_, x, rfl, I.hok.fresh (Nat.le_refl _), rfl, fun ys hy => by rw [I.tuple_inj hy hq]; exact hx⟩, ⟨⟨y, ?_⟩, hit'.1.at fun o q => (sb.2 it (Ne.symm hne)).trans q, hne, ha1, ha2⟩, fun b hb => ?_⟩
    · have e1 : ((i + 1 : Nat) : Int) = (i : Int) + 1 := by omega
      rw [e1]
      exact he'
    · have hb' : b < s.heap.objs.size := by
        have e2 : b = e ∨ b = it := by simpa using hb
        rcases e2 with z | z
        · rw [z]; exact hel
        · rw [z]; exact hil
      rw [upd_ne (Nat.ne_of_lt hb')]
      exact (hf b hb).1
  done := by
    intro X hP hw hK hc i pins s σ H E I hf st hg
    subst hP hw hK
    obtain ⟨⟨old, he⟩, hit, hne, ha1, ha2⟩ := st
    obtain ⟨xs, hq, hx⟩ := hg
    obtain ⟨its, rv, p, hz⟩ := I.tuple hq
    obtain ⟨f0, f1, f2, f3, f4, f5⟩ := hf it (by simp)
    have f6 := hf it (by simp)
    have ei : its.toArray.size = i := by
      have q := rv.length
      simp
      omega
    have hit2 : s.heap.IsTupleIter it a its.toArray.size := by rw [ei]; exact hit
    exact wpAny_pyNext_enum_endD (Draws.tuple (A := X.A.in1) (by exact I.ok.hd hc) it a ha1 its.toArray) he ⟨hit2, p⟩ fun h' eb =>
      ⟨rfl, I.turned (t' := s.toks) (fun b o hb q => eb b o hb q) f6.1 f6.2.1 f6.2.2.2.1 f6.2.2.2.2.1 f6.2.2.2.2.2⟩
  self := fun A i s Q E st h => by
    obtain ⟨⟨_, he⟩, _⟩ := st
    exact wpAny_pyIter_enum he h
def iEnumT (K : PySem.W.Frag) (ta : TA) : TI := fun σ H R => ta σ H fun vs H1 => ∃ a xs, vs = [.ref a] ∧ SqT K H1 a xs ∧ R (ItE K a) H1
theorem pi_enumT {X : Cx} {e : Expr} {ta : TA} {p pos tpos : Pos} {elts : List Expr} {kk : Nat} (hg : Gl X "enumerate") (hm : X.mg "enumerate" = none) (ha : PA X [e] ta) (hs : starEach [e] X.env = [(false, eval e X.env)] := by rfl) :
    PI X (.Tuple elts kk tpos) (.Call (.Name "enumerate" p) [e] [] pos) (iEnumT X.K ta) := by
  refine ⟨fun pins s σ H R I h => ?_⟩
  refine Call_ (ld_blt I hg hm boot_enumerate (PyProof.Rows.callWith_type1 (thn (ha.run pos pins s σ H _ I h) fun us s1 ⟨vs, H1, I1, r1, q1⟩ => ?_) hs rfl))
  obtain ⟨a, xs, rfl, hq, q⟩ := q1
  obtain rfl := Vals.ref1 r1
  obtain ⟨its, rv, p', hz⟩ := I1.tuple hq
  have hal : a < s1.heap.objs.size := by
    obtain ⟨o, ho, _⟩ := p'
    exact Heap.lt_size ho
  refine call_enum_tup p' fun h' he hit hk => wpAny_pyIter_enum he ?_
  have I2 : Inv X pins σ H1 { s1 with heap := h' } := I1.kept (t' := s1.toks) hk
  refine ⟨s1.heap.objs.size + 1, [s1.heap.objs.size + 1, s1.heap.objs.size], _, _, H1, rfl, I2, turn_enumT a (s1.heap.objs.size + 1) s1.heap.objs.size,
    ⟨⟨.none, he⟩, hit, Nat.succ_ne_self _, Nat.ne_of_lt hal, Nat.ne_of_lt (Nat.lt_succ_of_lt hal)⟩, fun b hb => ?_, q⟩
  have hle : s1.heap.objs.size ≤ b := by
    have e2 : b = s1.heap.objs.size + 1 ∨ b = s1.heap.objs.size := by simpa using hb
    rcases e2 with z | z
    · rw [z]; exact Nat.le_succ _
    · rw [z]; exact Nat.le_refl _
  exact I1.fpOk hle (I1.hok.fresh hle)
theorem walk_enumT {K : PySem.W.Frag} {a : Addr} {xs : List V} : Walk (ItE K a) xs.length (fun H => SqT K H a xs) (YPair (fun i => some (.int (i : Nat))) (fun i => xs[i]?)) := by
  refine ⟨fun i _ hi q => ⟨xs, xs[i], q, by simp [hi]⟩, fun _ q => ⟨xs, q, rfl⟩, fun i H v H' _ q y => ?_⟩
  obtain ⟨T, x, z1, z2, z3, z4⟩ := y
  exact ⟨T, .int (i : Nat), x, z1, z2, z3, rfl, z4 xs q⟩
/-! ### list(text), text * int -/
theorem vals_signs : ∀ (us : List Value) (cs : List Nat), us.length = cs.length → (∀ (j : Nat) (v : Value), us[j]? = some v → ∃ c t, cs[j]? = some c ∧ v = Value.str ⟨#[c]⟩ t) → Vals (cs.map fun c => V.str ⟨#[c]⟩) us
  | [], [], _, _ => .nil
  | u :: us, c :: cs, hl, h => by
    refine .cons ?_ (vals_signs us cs (by simpa using hl) fun j v hv => ?_)
    · obtain ⟨d, t, e, rfl⟩ := h 0 u rfl
      have e2 : c = d := Option.some.inj e
      subst e2
      exact ⟨t, rfl⟩
    · exact h (j + 1) v (by simpa using hv)
  | [], _ :: _, hl, _ => by simp at hl
  | _ :: _, [], hl, _ => by simp at hl
section
variable {X : Cx}
theorem call_list_txt (hc : X.calm = true) : CallR X (.type "list") (fun xs H Q => ∃ z : Str, xs = [.str z] ∧ z.cps.size ≤ sizeLine ∧
    ∀ p, H p = none → Q (.ref p) (upd H p (.lst (z.cps.toList.map fun c => .str ⟨#[c]⟩)))) := by
  intro pins s σ H xs us Q I r h
  obtain ⟨z, rfl, hz, q⟩ := h
  obtain ⟨u, rfl, t, rfl⟩ := vals1 r
  refine call_list_str (I.ok.hd hc) z t (hn := hz) fun h' tk acc c hk hS hacc => ?_
  refine ⟨.ref s.heap.objs.size, _, I.laid (t' := tk) hk (Nat.le_refl _) (o := .lst (z.cps.toList.map fun c => .str ⟨#[c]⟩)) ⟨by simpa using hz, acc.toList, c, ?_, by simpa using hS⟩, rfl, q _ I.fresh⟩
  exact vals_signs acc.toList z.cps.toList (by simpa using hacc.1) fun j v hv => by
    obtain ⟨c, u, hc, rfl⟩ := hacc.2 j v (by simpa using hv)
    exact ⟨c, u, by simpa using hc, rfl⟩
theorem op_dash : OpR X (binaryOp .Mult) (fun x y H Q => ∃ k : Int, x = .str "-" ∧ y = .int k ∧ (k = 0 ∨ k = 1) ∧ Q (.str (if k = 0 then Str.empty else "-")) H) := by
  intro pins s σ H x y v u Q I rx ry h
  obtain ⟨k, rfl, rfl, hk, q⟩ := h
  obtain ⟨t, rfl⟩ := rx
  obtain ⟨t', rfl⟩ := ry
  rcases hk with rfl | rfl
  · exact P.mul_str_none (by decide) (by decide) ⟨.str Str.empty, H, I.tok _, ⟨_, rfl⟩, q⟩
  · refine P.mul_str (by decide) (fun _ z => by simp at z) (fun _ z => by simp at z) ?_
    rw [if_neg (by decide), if_pos (by decide)]
    exact ⟨.str "-", H, I, ⟨t, rfl⟩, q⟩
end
end Rt
set_option Elab.async false
set_option linter.all false
set_option maxRecDepth 100000
set_option maxHeartbeats 4000000
/-! The plain mirror of what reads and what writes, and its law. -/
namespace Rt
open PySem PySem.Spec PyProof.Rows L2
/-! ### small things -/
def upTo (g : Nat → Bool) (n : Nat) : Bool := (List.range n).all g
theorem upTo_succ (g : Nat → Bool) (n : Nat) : upTo g (n + 1) = (upTo g n && g n) := by
  unfold upTo
  rw [List.range_succ, List.all_append]
  simp
theorem upTo_zero (g : Nat → Bool) : upTo g 0 = true := rfl
theorem upTo_false {g : Nat → Bool} {n i : Nat} (hi : i < n) (h : g i = false) : upTo g n = false := by
  unfold upTo
  rw [List.all_eq_false]
  exact ⟨i, List.mem_range.mpr hi, by rw [h]; decide⟩
theorem upTo_at {g : Nat → Bool} {n i : Nat} (h : upTo g n = true) (hi : i < n) : g i = true := by
  unfold upTo at h
  exact List.all_eq_true.mp h i (List.mem_range.mpr hi)
def optV : Option Int → V
  | none => .non
  | some i => .int i
def optD : Option Int → PyData
  | none => .none
  | some i => .int i
def numS : Option Int → Str
  | none => "None"
  | some i => Str.ofString (toString i)
/-! ### numbers in texts -/
def isNum (o : Option Int) (lo hi : Int) : Bool := match o with
  | none => false
  | some i => decide (lo ≤ i) && decide (i ≤ hi)
theorem isNum_some {o : Option Int} {lo hi : Int} (h : isNum o lo hi = true) : ∃ i, o = some i ∧ lo ≤ i ∧ i ≤ hi := by
  cases o with
  | none => cases h
  | some i =>
    have h2 : (decide (lo ≤ i) && decide (i ≤ hi)) = true := h
    rw [Bool.and_eq_true, decide_eq_true_eq, decide_eq_true_eq] at h2
    exact ⟨i, rfl, h2.1, h2.2⟩
abbrev digs : Str := "0123456789"
abbrev lets : Str := "abcdefghijklmnopqrstuvwxyz"
def allIn (z : Str) (w : Str) : Bool := w.cps.toList.all fun c => decide (c ∈ z.cps.toList)
def short (lo hi : Int) (w : Str) : Bool := decide (lo ≤ (w.length : Int)) && decide ((w.length : Int) ≤ hi)
def canon (w : Str) : Bool := decide (V.str w = V.str "0") || !decide (V.str ⟨#[w.cps.toList.getD 0 0]⟩ = V.str "0")
def numIn (w : Str) : Option Int :=
  if short 1 7 w = true ∧ allIn digs w = true ∧ canon w = true then some (NumText.digitsVal w.cps.toList : Nat) else none
theorem digs_tl : digs.cps.toList = [48, 49, 50, 51, 52, 53, 54, 55, 56, 57] := by decide +kernel
theorem zero_tl : ("0" : Str) = ⟨#[48]⟩ := by decide +kernel
theorem allIn_digits {w : Str} (h : allIn digs w = true) : NumText.AllDigits w.cps.toList := fun c hc => by
  unfold allIn at h
  have q := of_decide_eq_true (List.all_eq_true.mp h c hc)
  rw [digs_tl] at q
  simp at q
  omega
theorem dv_snoc (l : List Nat) (c : Nat) : NumText.digitsVal (l ++ [c]) = NumText.digitsVal l * 10 + (c - 48) := by
  unfold NumText.digitsVal
  rw [List.foldl_append]
  rfl
theorem dv_pos : ∀ (l : List Nat) (c : Nat), NumText.AllDigits (c :: l) → c ≠ 48 → 1 ≤ NumText.digitsVal (c :: l) := by
  intro l c h hc
  have h0 := h.head
  have key : ∀ (l : List Nat) (a : Nat), 1 ≤ a → 1 ≤ l.foldl (fun acc c => acc * 10 + (c - 48)) a := by
    intro l
    induction l with
    | nil => intro a h; exact h
    | cons d r ih => intro a h; exact ih _ (show 1 ≤ a * 10 + (d - 48) by omega)
  exact key l _ (show 1 ≤ 0 * 10 + (c - 48) by omega)
theorem numL_back : ∀ (n : Nat) (l : List Nat), l.length = n → NumText.AllDigits l → l ≠ [] → (l = [48] ∨ l.head? ≠ some 48) → TL.numL (NumText.digitsVal l) = l
  | 0, l, e, _, hn, _ => absurd (List.length_eq_zero_iff.mp e) hn
  | n + 1, l, e, hd, hn, hc => by
    obtain ⟨l', c, rfl⟩ : ∃ l' c, l = l' ++ [c] := ⟨l.dropLast, l.getLast hn, (List.dropLast_concat_getLast hn).symm⟩
    have hcd := hd c (by simp)
    rw [dv_snoc]
    cases l' with
    | nil =>
      show TL.numL (0 * 10 + (c - 48)) = [c]
      rw [TL.numL_lt (by omega)]
      congr 1
      omega
    | cons d r =>
      have hd2 : NumText.AllDigits (d :: r) := fun x hx => hd x (List.mem_append_left _ hx)
      have hne : d ≠ 48 := fun z => by
        subst z
        rcases hc with hc | hc
        · have q := congrArg List.length hc
          simp at q
        · exact hc rfl
      have hp := dv_pos r d hd2 hne
      have ih := numL_back n (d :: r) (by simpa using e) hd2 (by simp) (.inr fun z => hne (Option.some.inj z))
      rw [TL.numL_step (by omega)]
      have e1 : (NumText.digitsVal (d :: r) * 10 + (c - 48)) / 10 = NumText.digitsVal (d :: r) := by omega
      have e2 : 48 + (NumText.digitsVal (d :: r) * 10 + (c - 48)) % 10 = c := by omega
      rw [e1, e2, ih]
theorem numIn_back {w : Str} {i : Int} (h : numIn w = some i) : numS (some i) = w := by
  unfold numIn at h
  split at h
  · rename_i hc
    obtain ⟨h1, h2, h3⟩ := hc
    have e := Option.some.inj h
    rw [← e]
    refine TL.ext_tl ?_
    show TL.tl (Str.ofString (toString ((NumText.digitsVal w.cps.toList : Nat) : Int))) = _
    rw [TL.tl_num]
    refine numL_back _ _ rfl (allIn_digits h2) (fun z => ?_) ?_
    · unfold short at h1
      have q : (w.length : Int) = 0 := by
        rw [TL.len_tl]
        show ((w.cps.toList.length : Nat) : Int) = 0
        rw [z]
        rfl
      rw [q] at h1
      revert h1
      decide
    · unfold canon at h3
      rw [Bool.or_eq_true] at h3
      rcases h3 with h3 | h3
      · have q := V.str.inj (of_decide_eq_true h3)
        left
        rw [q]
        decide +kernel
      · right
        intro z
        have q : w.cps.toList.getD 0 0 = 48 := by
          cases hw : w.cps.toList with
          | nil => rw [hw] at z; cases z
          | cons a r =>
            rw [hw] at z
            exact Option.some.inj z
        rw [q, zero_tl] at h3
        simp at h3
  · cases h
theorem numIn_int {w : Str} (h1 : short 1 7 w = true) (h2 : allIn digs w = true) : PySem.intText? w = some (NumText.digitsVal w.cps.toList : Nat) ∧ w.length ≤ 640 := by
  unfold short at h1
  rw [Bool.and_eq_true, decide_eq_true_eq, decide_eq_true_eq] at h1
  have hl : w.length ≤ 7 := by omega
  refine ⟨intText_digits (allIn_digits h2) (fun z => ?_) (by omega), by omega⟩
  have q : (w.length : Int) = 0 := by
    rw [TL.len_tl]
    show ((w.cps.toList.length : Nat) : Int) = 0
    rw [z]
    rfl
  omega
/-! ### worlds -/
structure Src where
  k : Str
  ns : List (Option Int)
structure Prt where
  k : Str
  a : Option Int
  b : Option Int
structure Wy where
  k : Str
  ps : List Prt
  keeps : Str
  hs : List (Option Int)
  w : Option Int
structure Wd where
  size : Int
  ks : List Str
  ss : List Src
  ws : List Wy
def isKindB (ks : List Str) (k : Str) : Bool := inV (.str k) (ks.map V.str)
def isNameS (s : Str) : Bool := short 1 8 s && allIn lets s
def kindGood (ks : List Str) (i : Nat) : Bool := isNameS (ks.getD i Str.empty) && !(decide (0 < i) && !decide ((ks.getD (i - 1) Str.empty).cps.toList < (ks.getD i Str.empty).cps.toList))
def sized (lo hi n : Nat) : Bool := decide ((lo : Int) ≤ (n : Int)) && decide ((n : Int) ≤ (hi : Int))
def kindsOk (ks : List Str) : Bool := sized 1 4 ks.length && upTo (kindGood ks) ks.length
def lows : List Int := [0, 0, 0, 1]
def highs (size : Int) : List Int := [20, size - 1, 1000000, 9]
def srcGood (size : Int) (s : Src) (i : Nat) : Bool := isNum (s.ns.getD i none) (lows.getD i 0) ((highs size).getD i 0)
def srcOk (size : Int) (ks : List Str) (s : Src) : Bool := isKindB ks s.k && upTo (srcGood size s) 4
def partOk (ks : List Str) (p : Prt) : Bool := isKindB ks p.k && (isNum p.a 0 20 && isNum p.b (p.a.getD 0) 20)
def hourGood (size : Int) (hs : List (Option Int)) (i : Nat) : Bool :=
  isNum (hs.getD i none) 0 (size - 1) && !(decide (0 < i) && decide ((hs.getD i none).getD 0 ≤ (hs.getD (i - 1) none).getD 0))
def hoursOk (size : Int) (hs : List (Option Int)) : Bool := upTo (hourGood size hs) hs.length
def keepsOk (k : Str) : Bool := inV (.str k) [V.str "oldest", V.str "youngest"]
def noPart : Prt := ⟨Str.empty, none, none⟩
def wayOk (size : Int) (ks : List Str) (y : Wy) : Bool :=
  isKindB ks y.k && (sized 1 3 y.ps.length && (upTo (fun i => partOk ks (y.ps.getD i noPart)) y.ps.length && (keepsOk y.keeps && (hoursOk size y.hs && isNum y.w 1 6))))
/-! ### what a line tells -/
def partsIn (ws : List Str) (m : Nat) : List Prt := (List.range m).map fun i => ⟨ws.getD (3 * i) Str.empty, numIn (ws.getD (3 * i + 1) Str.empty), numIn (ws.getD (3 * i + 2) Str.empty)⟩
def hoursIn (w : Str) : List (Option Int) := if w = "-" then [] else (Txt.split w ",").map numIn
def wordsOf (line : Str) : List Str := Txt.split line " "
def w0 (ws : List Str) (i : Nat) : Str := ws.getD i Str.empty
def takeRound (ws : List Str) (r : Wd) : Option Wd :=
  if ws.length = 2 ∧ w0 ws 0 = "round" ∧ isNum (numIn (w0 ws 1)) 1 6 = true then some { r with size := (numIn (w0 ws 1)).getD 0 } else none
def takeKinds (ws : List Str) (r : Wd) : Option Wd :=
  if w0 ws 0 = "kinds" ∧ kindsOk (ws.drop 1) = true then some { r with ks := ws.drop 1 } else none
def srcOf (ws : List Str) : Src := ⟨w0 ws 1, (ws.drop 2).map numIn⟩
def takeSource (ws : List Str) (r : Wd) : Option Wd :=
  if ws.length = 6 ∧ r.ss.length < 6 ∧ r.ws = [] ∧ srcOk r.size r.ks (srcOf ws) = true then some { r with ss := r.ss ++ [srcOf ws] } else none
def wayOf (ws : List Str) : Wy := ⟨w0 ws 1, partsIn (ws.drop 5) ((ws.length - 5) / 3), w0 ws 2, hoursIn (w0 ws 3), numIn (w0 ws 4)⟩
def takeWay (ws : List Str) (r : Wd) : Option Wd :=
  if (ws.length = 8 ∨ ws.length = 11 ∨ ws.length = 14) ∧ r.ws.length < 8 ∧ wayOk r.size r.ks (wayOf ws) = true then some { r with ws := r.ws ++ [wayOf ws] } else none
def take (i : Nat) (line : Str) (r : Wd) : Option Wd :=
  if i = 0 then takeRound (wordsOf line) r
  else if i = 1 then takeKinds (wordsOf line) r
  else if w0 (wordsOf line) 0 = "source" then takeSource (wordsOf line) r
  else if w0 (wordsOf line) 0 = "way" then takeWay (wordsOf line) r
  else none
def wd0 : Wd := ⟨0, [], [], []⟩
/-- from the line of the number i on: the number of the refused line, or what was read -/
def readFrom : Nat → Wd → List Str → Sum Nat Wd
  | _, r, [] => .inr r
  | i, r, l :: ls => match take i l r with
    | none => .inl i
    | some r' => readFrom (i + 1) r' ls
def readS (ls : List Str) : Sum Nat Wd := match readFrom 0 wd0 ls with
  | .inl k => .inl k
  | .inr r => if ls.length < 2 then .inl ls.length else .inr r
/-! ### a world's lines -/
abbrev sp1 : Str := " "
def roundL (size : Int) : Str := Str.join sp1 ["round", numS (some size)]
def kindsL (ks : List Str) : Str := Str.join sp1 ("kinds" :: ks)
def srcL (s : Src) : Str := Str.join sp1 ("source" :: s.k :: s.ns.map numS)
def hoursS (hs : List (Option Int)) : Str := if hs = [] then "-" else Str.join "," (hs.map numS)
def partW (p : Prt) : List Str := [p.k, numS p.a, numS p.b]
def wayL (y : Wy) : Str := Str.join sp1 ("way" :: y.k :: y.keeps :: hoursS y.hs :: numS y.w :: (y.ps.map partW).flatten)
def linesOf (w : Wd) : List Str := roundL w.size :: kindsL w.ks :: (w.ss.map srcL ++ w.ws.map wayL)
def textOf (w : Wd) : Str := Str.join "\n" (linesOf w)
/-- a number that is there, and small -/
def Sml (o : Option Int) : Prop := ∃ i, o = some i ∧ 0 ≤ i ∧ i ≤ 1000000
/-- all numbers are there -/
def Src.Full (s : Src) : Prop := s.ns.length = 4 ∧ ∀ o ∈ s.ns, Sml o
def Wy.Full (y : Wy) : Prop := (∀ p ∈ y.ps, Sml p.a ∧ Sml p.b) ∧ (∀ o ∈ y.hs, Sml o) ∧ Sml y.w
def Wd.Full (w : Wd) : Prop := (0 ≤ w.size ∧ w.size ≤ 6) ∧ (∀ s ∈ w.ss, s.Full) ∧ ∀ y ∈ w.ws, y.Full
end Rt
set_option Elab.async false
set_option linter.all false
set_option maxRecDepth 100000
set_option maxHeartbeats 4000000
/-! The plain law: what is read has the lines it was read from; a refusal hangs on the lines up to it alone. -/
namespace Rt
open PySem PySem.Spec PyProof.Rows L2
theorem words_join (line : Str) : Str.join sp1 (wordsOf line) = line := StrLaws.join_split line " "
theorem numS_map {ws : List Str} (h : ∀ w ∈ ws, ∃ i, numIn w = some i) : (ws.map numIn).map numS = ws := by
  induction ws with
  | nil => rfl
  | cons w r ih =>
    obtain ⟨i, hi⟩ := h w (List.mem_cons_self ..)
    rw [List.map_cons, List.map_cons, ih fun x hx => h x (List.mem_cons_of_mem _ hx), hi, numIn_back hi]
theorem split_ne (w y : Str) : Txt.split w y ≠ [] := by
  unfold Txt.split
  split
  · simp
  · split
    · simp
    · intro z
      have q := congrArg List.length z
      rw [length_partsBetween] at q
      simp at q
theorem hours_back {w : Str} (h : ∀ o ∈ hoursIn w, ∃ i, o = some i) : hoursS (hoursIn w) = w := by
  unfold hoursS
  unfold hoursIn at h ⊢
  by_cases c : w = "-"
  · rw [if_pos c, if_pos rfl, c]
  · rw [if_neg c] at h ⊢
    rw [if_neg (fun z => split_ne w "," (List.map_eq_nil_iff.mp z)), numS_map (fun x hx => h (numIn x) (List.mem_map_of_mem hx))]
    exact StrLaws.join_split w ","
theorem cons3 {α : Type} {l : List α} {n : Nat} (h : l.length = n + 3) : ∃ a b c r, l = a :: b :: c :: r ∧ r.length = n := by
  match l, h with
  | a :: b :: c :: r, h => exact ⟨a, b, c, r, rfl, by simpa using h⟩
theorem parts_succ (a b c : Str) (r : List Str) (m : Nat) : partsIn (a :: b :: c :: r) (m + 1) = ⟨a, numIn b, numIn c⟩ :: partsIn r m := by
  unfold partsIn
  rw [List.range_succ_eq_map, List.map_cons, List.map_map]
  have key : List.map ((fun i => (⟨(a :: b :: c :: r).getD (3 * i) Str.empty, numIn ((a :: b :: c :: r).getD (3 * i + 1) Str.empty), numIn ((a :: b :: c :: r).getD (3 * i + 2) Str.empty)⟩ : Prt)) ∘ Nat.succ) (List.range m) =
      List.map (fun i => (⟨r.getD (3 * i) Str.empty, numIn (r.getD (3 * i + 1) Str.empty), numIn (r.getD (3 * i + 2) Str.empty)⟩ : Prt)) (List.range m) := ?key
  · rw [key]
    rfl
  refine List.map_congr_left fun i _ => ?_
  show (⟨(a :: b :: c :: r).getD (3 * (i + 1)) Str.empty, numIn ((a :: b :: c :: r).getD (3 * (i + 1) + 1) Str.empty), numIn ((a :: b :: c :: r).getD (3 * (i + 1) + 2) Str.empty)⟩ : Prt) = _
  rw [show 3 * (i + 1) = 3 * i + 1 + 1 + 1 by omega, show 3 * i + 1 + 1 + 1 + 1 = (3 * i + 1) + 1 + 1 + 1 by omega, show 3 * i + 1 + 1 + 1 + 2 = (3 * i + 2) + 1 + 1 + 1 by omega]
  simp only [List.getD_cons_succ]
theorem parts_back : ∀ (m : Nat) (ws : List Str), ws.length = 3 * m → (∀ p ∈ partsIn ws m, (∃ i, p.a = some i) ∧ ∃ i, p.b = some i) → ((partsIn ws m).map partW).flatten = ws
  | 0, ws, h, _ => by
    have e : ws = [] := List.length_eq_zero_iff.mp (by omega)
    subst e
    rfl
  | m + 1, ws, h, hp => by
    obtain ⟨a, b, c, r, rfl, hr⟩ := cons3 (l := ws) (n := 3 * m) (by omega)
    rw [parts_succ] at hp ⊢
    have ih := parts_back m r hr fun p hp' => hp p (List.mem_cons_of_mem _ hp')
    obtain ⟨⟨i, hi⟩, j, hj⟩ := hp _ (List.mem_cons_self ..)
    have hi : numIn b = some i := hi
    have hj : numIn c = some j := hj
    rw [List.map_cons, List.flatten_cons, ih]
    show [a, numS (numIn b), numS (numIn c)] ++ r = _
    rw [hi, hj, numIn_back hi, numIn_back hj]
    rfl
theorem drop_get {ws : List Str} {n : Nat} (h : n < ws.length) : ws.drop n = w0 ws n :: ws.drop (n + 1) := by
  rw [List.drop_eq_getElem_cons h]
  unfold w0
  rw [List.getD_eq_getElem?_getD, List.getElem?_eq_getElem h]
  rfl
theorem w0_ne {ws : List Str} {n : Nat} {z : Str} (h : w0 ws n = z) (hz : z ≠ Str.empty) : n < ws.length := by
  by_cases c : n < ws.length
  · exact c
  · unfold w0 at h
    rw [List.getD_eq_getElem?_getD, List.getElem?_eq_none (by omega)] at h
    exact absurd h.symm hz
def Good (i : Nat) (r : Wd) (done : List Str) : Prop :=
  (i = 0 ∧ r = wd0 ∧ done = []) ∨ (i = 1 ∧ (0 ≤ r.size ∧ r.size ≤ 6) ∧ r.ss = [] ∧ r.ws = [] ∧ done = [roundL r.size]) ∨ (2 ≤ i ∧ r.Full ∧ done = linesOf r)
theorem Sml.is {o : Option Int} (h : Sml o) : ∃ i, o = some i := by
  obtain ⟨i, e, _⟩ := h
  exact ⟨i, e⟩
theorem isNum_sml {o : Option Int} {lo hi : Int} (h : isNum o lo hi = true) (h0 : 0 ≤ lo) (h1 : hi ≤ 1000000) : Sml o := by
  obtain ⟨i, e, a, b⟩ := isNum_some h
  exact ⟨i, e, by omega, by omega⟩
theorem src_full {size : Int} {ks : List Str} {s : Src} (hz : size ≤ 6) (hl : s.ns.length = 4) (h : srcOk size ks s = true) : s.Full := by
  unfold srcOk at h
  rw [Bool.and_eq_true] at h
  refine ⟨hl, fun o ho => ?_⟩
  obtain ⟨j, hj, e⟩ := List.mem_iff_getElem.mp ho
  have hj4 : j < 4 := by omega
  have q := upTo_at h.2 hj4
  unfold srcGood at q
  have e2 : s.ns.getD j none = o := by
    rw [List.getD_eq_getElem?_getD, List.getElem?_eq_getElem hj, e]
    rfl
  rw [e2] at q
  match j, hj4, q with
  | 0, _, q => exact isNum_sml q (by decide) (by show (20 : Int) ≤ 1000000; decide)
  | 1, _, q => exact isNum_sml q (by decide) (by show size - 1 ≤ 1000000; omega)
  | 2, _, q => exact isNum_sml q (by decide) (by show (1000000 : Int) ≤ 1000000; decide)
  | 3, _, q => exact isNum_sml q (by decide) (by show (9 : Int) ≤ 1000000; decide)
theorem way_full {size : Int} {ks : List Str} {y : Wy} (hz : size ≤ 6) (h : wayOk size ks y = true) : y.Full := by
  unfold wayOk at h
  simp only [Bool.and_eq_true] at h
  obtain ⟨_, _, hp, _, hh, hw⟩ := h
  refine ⟨fun p hpm => ?_, fun o ho => ?_, isNum_sml hw (by decide) (by decide)⟩
  · obtain ⟨j, hj, e⟩ := List.mem_iff_getElem.mp hpm
    have q := upTo_at hp hj
    simp only [List.getD_eq_getElem?_getD, List.getElem?_eq_getElem hj, Option.getD_some, e] at q
    unfold partOk at q
    simp only [Bool.and_eq_true] at q
    have sa := isNum_sml q.2.1 (by decide) (by decide)
    obtain ⟨i, ei, i0, i1⟩ := id sa
    refine ⟨sa, isNum_sml q.2.2 ?_ (by decide)⟩
    rw [ei]
    exact i0
  · obtain ⟨j, hj, e⟩ := List.mem_iff_getElem.mp ho
    have q := upTo_at hh hj
    unfold hourGood at q
    rw [Bool.and_eq_true] at q
    have q1 := q.1
    rw [List.getD_eq_getElem?_getD, List.getElem?_eq_getElem hj, e] at q1
    exact isNum_sml q1 (by decide) (by omega)
theorem take_good {i : Nat} {r r' : Wd} {done : List Str} {line : Str} (h : Good i r done) (e : take i line r = some r') : Good (i + 1) r' (done ++ [line]) := by
  have hj := words_join line
  unfold take at e
  generalize hw : wordsOf line = ws at e hj
  rcases h with ⟨rfl, rfl, rfl⟩ | ⟨rfl, hz, hs, hy, rfl⟩ | ⟨hi, hf, rfl⟩
  · rw [if_pos rfl] at e
    unfold takeRound at e
    split at e
    · rename_i c
      obtain ⟨c1, c2, c3⟩ := c
      obtain ⟨n, hn, n1, n2⟩ := isNum_some c3
      have e2 := Option.some.inj e
      refine .inr (.inl ⟨rfl, ?_, ?_, ?_, ?_⟩)
      · rw [← e2]
        show 0 ≤ (numIn (w0 ws 1)).getD 0 ∧ (numIn (w0 ws 1)).getD 0 ≤ 6
        rw [hn]
        exact ⟨by show 0 ≤ n; omega, n2⟩
      · rw [← e2]; rfl
      · rw [← e2]; rfl
      · rw [← e2, ← hj]
        show [Str.join sp1 ws] = [Str.join sp1 ["round", numS (some ((numIn (w0 ws 1)).getD 0))]]
        rw [hn]
        show [Str.join sp1 ws] = [Str.join sp1 ["round", numS (some n)]]
        rw [numIn_back hn]
        have a0 := drop_get (ws := ws) (n := 0) (by omega)
        have a1 := drop_get (ws := ws) (n := 1) (by omega)
        have a2 : ws.drop 2 = [] := List.drop_of_length_le (by omega)
        rw [List.drop_zero] at a0
        rw [a1, a2, c2] at a0
        exact congrArg (fun z => [Str.join sp1 z]) a0
    · cases e
  · rw [if_neg (by decide), if_pos rfl] at e
    unfold takeKinds at e
    split at e
    · rename_i c
      have e2 := Option.some.inj e
      have hl := w0_ne c.1 (by decide +kernel)
      have a0 := drop_get (ws := ws) (n := 0) hl
      rw [List.drop_zero, c.1] at a0
      refine .inr (.inr ⟨Nat.le_refl _, ?_, ?_⟩)
      · rw [← e2]
        refine ⟨hz, fun s m => ?_, fun s m => ?_⟩
        · have m : s ∈ r.ss := m
          rw [hs] at m
          exact absurd m (by simp)
        · have m : s ∈ r.ws := m
          rw [hy] at m
          exact absurd m (by simp)
      · rw [← e2, ← hj]
        show [roundL r.size] ++ [Str.join sp1 ws] = roundL r.size :: Str.join sp1 ("kinds" :: ws.drop 1) :: (r.ss.map srcL ++ r.ws.map wayL)
        rw [hs, hy, ← a0]
        rfl
    · cases e
  · rw [if_neg (by omega), if_neg (by omega)] at e
    split at e
    · rename_i hsrc
      unfold takeSource at e
      split at e
      · rename_i c
        obtain ⟨c1, c2, c3, c4⟩ := c
        have e2 := Option.some.inj e
        have fl := src_full hf.1.2 (by show ((ws.drop 2).map numIn).length = 4; rw [List.length_map, List.length_drop, c1]) c4
        have a0 := drop_get (ws := ws) (n := 0) (by omega)
        have a1 := drop_get (ws := ws) (n := 1) (by omega)
        rw [List.drop_zero, a1, hsrc] at a0
        refine .inr (.inr ⟨by omega, ?_, ?_⟩)
        · rw [← e2]
          refine ⟨hf.1, fun s hs' => ?_, hf.2.2⟩
          rcases List.mem_append.mp hs' with z | z
          · exact hf.2.1 s z
          · rw [List.mem_singleton.mp z]
            exact fl
        · rw [← e2, ← hj]
          show (roundL r.size :: kindsL r.ks :: (r.ss.map srcL ++ r.ws.map wayL)) ++ [Str.join sp1 ws] = roundL r.size :: kindsL r.ks :: ((r.ss ++ [srcOf ws]).map srcL ++ r.ws.map wayL)
          have el : srcL (srcOf ws) = Str.join sp1 ws := by
            show Str.join sp1 ("source" :: w0 ws 1 :: ((ws.drop 2).map numIn).map numS) = _
            rw [numS_map fun w hw => (fl.2 (numIn w) (List.mem_map_of_mem hw)).is, ← a0]
          rw [c3, List.map_append, List.map_singleton, el]
          simp
      · cases e
    · split at e
      · rename_i hway
        unfold takeWay at e
        split at e
        · rename_i c
          obtain ⟨c1, c2, c3⟩ := c
          have e2 := Option.some.inj e
          have fl := way_full hf.1.2 c3
          have hl : 5 < ws.length := by omega
          have a0 := drop_get (ws := ws) (n := 0) (by omega)
          have a1 := drop_get (ws := ws) (n := 1) (by omega)
          have a2 := drop_get (ws := ws) (n := 2) (by omega)
          have a3 := drop_get (ws := ws) (n := 3) (by omega)
          have a4 := drop_get (ws := ws) (n := 4) (by omega)
          rw [List.drop_zero, a1, a2, a3, a4, hway] at a0
          have el : wayL (wayOf ws) = Str.join sp1 ws := by
            have f1 : hoursS (hoursIn (w0 ws 3)) = w0 ws 3 := hours_back fun o ho => (fl.2.1 o ho).is
            obtain ⟨n, hn⟩ := fl.2.2.is
            have hn : numIn (w0 ws 4) = some n := hn
            have f2 : ((partsIn (ws.drop 5) ((ws.length - 5) / 3)).map partW).flatten = ws.drop 5 := parts_back _ _ (by rw [List.length_drop]; omega) fun p hp => ⟨(fl.1 p hp).1.is, (fl.1 p hp).2.is⟩
            show Str.join sp1 ("way" :: w0 ws 1 :: w0 ws 2 :: hoursS (hoursIn (w0 ws 3)) :: numS (numIn (w0 ws 4)) :: ((partsIn (ws.drop 5) ((ws.length - 5) / 3)).map partW).flatten) = _
            rw [f1, hn, numIn_back hn, f2, ← a0]
          refine .inr (.inr ⟨by omega, ?_, ?_⟩)
          · rw [← e2]
            refine ⟨hf.1, hf.2.1, fun s hs' => ?_⟩
            rcases List.mem_append.mp hs' with z | z
            · exact hf.2.2 s z
            · rw [List.mem_singleton.mp z]
              exact fl
          · rw [← e2, ← hj]
            show (roundL r.size :: kindsL r.ks :: (r.ss.map srcL ++ r.ws.map wayL)) ++ [Str.join sp1 ws] = roundL r.size :: kindsL r.ks :: (r.ss.map srcL ++ (r.ws ++ [wayOf ws]).map wayL)
            rw [List.map_append, List.map_singleton, el]
            simp
        · cases e
      · cases e
theorem readFrom_good : ∀ (ls : List Str) (i : Nat) (r r' : Wd) (done : List Str), Good i r done → readFrom i r ls = .inr r' → Good (i + ls.length) r' (done ++ ls)
  | [], i, r, r', done, h, e => by
    have e2 : r = r' := Sum.inr.inj e
    subst e2
    simpa using h
  | l :: ls, i, r, r', done, h, e => by
    unfold readFrom at e
    cases q : take i l r with
    | none => rw [q] at e; cases e
    | some r1 =>
      rw [q] at e
      have ih := readFrom_good ls (i + 1) r1 r' (done ++ [l]) (take_good h q) e
      rw [List.append_assoc] at ih
      rw [List.length_cons, show i + (ls.length + 1) = i + 1 + ls.length by omega]
      exact ih
theorem readS_text {ls : List Str} {w : Wd} (h : readS ls = .inr w) : linesOf w = ls ∧ w.Full := by
  unfold readS at h
  cases q : readFrom 0 wd0 ls with
  | inl k => rw [q] at h; cases h
  | inr r =>
    rw [q] at h
    have h : (if ls.length < 2 then Sum.inl ls.length else Sum.inr r) = Sum.inr w := h
    split at h
    · cases h
    · rename_i hl
      have e := Sum.inr.inj h
      subst e
      rcases readFrom_good ls 0 wd0 _ [] (.inl ⟨rfl, rfl, rfl⟩) q with z | z | z
      · omega
      · omega
      · exact ⟨by simpa using z.2.2.symm, z.2.1⟩
theorem readFrom_inl : ∀ (ls : List Str) (i : Nat) (r : Wd) (k : Nat), readFrom i r ls = .inl k →
    ∃ j, k = i + j ∧ j < ls.length ∧ (∃ r', readFrom i r (ls.take j) = .inr r') ∧ ∀ more, readFrom i r (ls.take (j + 1) ++ more) = .inl k
  | [], i, r, k, e => by cases e
  | l :: ls, i, r, k, e => by
    unfold readFrom at e
    cases q : take i l r with
    | none =>
      rw [q] at e
      have e2 : i = k := Sum.inl.inj e
      subst e2
      refine ⟨0, rfl, by simp, ⟨r, rfl⟩, fun more => ?_⟩
      show readFrom i r (l :: (ls.take 0 ++ more)) = _
      unfold readFrom
      rw [q]
    | some r1 =>
      rw [q] at e
      obtain ⟨j, h1, h2, ⟨r', h3⟩, h4⟩ := readFrom_inl ls (i + 1) r1 k e
      refine ⟨j + 1, by omega, by simpa using h2, ⟨r', ?_⟩, fun more => ?_⟩
      · show readFrom i r (l :: ls.take j) = _
        unfold readFrom
        rw [q]
        exact h3
      · show readFrom i r (l :: (ls.take (j + 1) ++ more)) = _
        unfold readFrom
        rw [q]
        exact h4 more
theorem readS_inl {ls : List Str} {k : Nat} (h : readS ls = .inl k) :
    k ≤ ls.length ∧ (k < ls.length → ∀ more, readS (ls.take (k + 1) ++ more) = .inl k) ∧ (1 < k → ∃ w, readS (ls.take k) = .inr w) ∧ (k = 1 → readS (ls.take 1) = .inl 1) := by
  unfold readS at h
  cases q : readFrom 0 wd0 ls with
  | inl k' =>
    rw [q] at h
    have e : k' = k := Sum.inl.inj h
    subst e
    obtain ⟨j, h1, h2, ⟨r', h3⟩, h4⟩ := readFrom_inl ls 0 wd0 _ q
    have e : j = k' := by omega
    subst e
    have hl : (ls.take j).length = j := by rw [List.length_take]; omega
    refine ⟨by omega, fun _ more => ?_, fun hk => ⟨r', ?_⟩, fun hk => ?_⟩
    · unfold readS
      rw [h4 more]
    · unfold readS
      rw [h3]
      show (if (ls.take j).length < 2 then Sum.inl (ls.take j).length else Sum.inr r') = _
      rw [if_neg (by omega)]
    · subst hk
      unfold readS
      rw [h3]
      show (if (ls.take 1).length < 2 then Sum.inl (ls.take 1).length else Sum.inr r') = _
      rw [if_pos (by omega), hl]
  | inr r =>
    rw [q] at h
    have h : (if ls.length < 2 then Sum.inl ls.length else Sum.inr r) = Sum.inl k := h
    split at h
    · rename_i hl
      have e : ls.length = k := Sum.inl.inj h
      refine ⟨by omega, fun z => by omega, fun z => by omega, fun z => ?_⟩
      rw [List.take_of_length_le (by omega)]
      unfold readS
      rw [q]
      show (if ls.length < 2 then Sum.inl ls.length else Sum.inr r) = _
      rw [if_pos hl]
      exact congrArg Sum.inl (by omega)
    · cases h
/-! ### plain signs -/
def Asc (z : Str) : Prop := ∀ c ∈ z.cps.toList, c < 256
def Wy.Asc (y : Wy) : Prop := Rt.Asc y.k ∧ Rt.Asc y.keeps ∧ ∀ p ∈ y.ps, Rt.Asc p.k
def Wd.Asc (w : Wd) : Prop := (∀ k ∈ w.ks, Rt.Asc k) ∧ (∀ s ∈ w.ss, Rt.Asc s.k) ∧ ∀ y ∈ w.ws, y.Asc
theorem join_mem (sep : Str) : ∀ (ps : List Str) (p : Str) (c : Nat), p ∈ ps → c ∈ p.cps.toList → c ∈ (Str.join sep ps).cps.toList
  | [], p, c, h, _ => by cases h
  | [x], p, c, h, hc => by
    rw [List.mem_singleton.mp h] at hc
    exact hc
  | x :: y :: r, p, c, h, hc => by
    have e : (Str.join sep (x :: y :: r)).cps.toList = x.cps.toList ++ (sep.cps.toList ++ (Str.join sep (y :: r)).cps.toList) := by
      show TL.tl (Str.join sep (x :: y :: r)) = TL.tl x ++ (TL.tl sep ++ TL.tl (Str.join sep (y :: r)))
      rw [TL.tl_join, TL.tl_join]
      rfl
    rw [e]
    rcases List.mem_cons.mp h with rfl | h
    · exact List.mem_append_left _ hc
    · exact List.mem_append_right _ (List.mem_append_right _ (join_mem sep (y :: r) p c h hc))
theorem words_asc {line z : Str} (h : Rt.Asc line) (hz : z ∈ wordsOf line) : Rt.Asc z := fun c hc => by
  have q := join_mem sp1 _ z c hz hc
  rw [words_join] at q
  exact h c q
theorem empty_asc : Rt.Asc Str.empty := fun c hc => by
  have e : Str.empty.cps.toList = [] := by decide +kernel
  rw [e] at hc
  cases hc
theorem w0_asc {line : Str} (h : Rt.Asc line) (i : Nat) : Rt.Asc (w0 (wordsOf line) i) := by
  unfold w0
  rw [List.getD_eq_getElem?_getD]
  cases e : (wordsOf line)[i]? with
  | none => exact empty_asc
  | some z => exact words_asc h (List.mem_of_getElem? e)
theorem take_asc {i : Nat} {line : Str} {r r' : Wd} (h : Rt.Asc line) (hr : r.Asc) (e : take i line r = some r') : r'.Asc := by
  have hw := fun i => w0_asc h i
  have hm := fun z (hz : z ∈ wordsOf line) => words_asc h hz
  unfold take at e
  generalize wordsOf line = ws at e hw hm
  split at e
  · unfold takeRound at e
    split at e
    · rw [← Option.some.inj e]
      exact hr
    · cases e
  · split at e
    · unfold takeKinds at e
      split at e
      · rw [← Option.some.inj e]
        exact ⟨fun k hk => hm k (List.mem_of_mem_drop hk), hr.2⟩
      · cases e
    · split at e
      · unfold takeSource at e
        split at e
        · rw [← Option.some.inj e]
          refine ⟨hr.1, fun s hs => ?_, hr.2.2⟩
          rcases List.mem_append.mp hs with z | z
          · exact hr.2.1 s z
          · rw [List.mem_singleton.mp z]
            exact hw 1
        · cases e
      · split at e
        · unfold takeWay at e
          split at e
          · rw [← Option.some.inj e]
            refine ⟨hr.1, hr.2.1, fun y hy => ?_⟩
            rcases List.mem_append.mp hy with z | z
            · exact hr.2.2 y z
            · rw [List.mem_singleton.mp z]
              refine ⟨hw 1, hw 2, fun p hp => ?_⟩
              obtain ⟨j, _, rfl⟩ := List.mem_map.mp hp
              show Rt.Asc ((ws.drop 5).getD (3 * j) Str.empty)
              rw [List.getD_eq_getElem?_getD]
              cases e : (ws.drop 5)[3 * j]? with
              | none => exact empty_asc
              | some z => exact hm z (List.mem_of_mem_drop (List.mem_of_getElem? e))
          · cases e
        · cases e
theorem wd0_asc : wd0.Asc := ⟨fun k hk => absurd hk (by simp [wd0]), fun k hk => absurd hk (by simp [wd0]), fun k hk => absurd hk (by simp [wd0])⟩
theorem readFrom_asc : ∀ (ls : List Str) (i : Nat) (r r' : Wd), (∀ l ∈ ls, Rt.Asc l) → r.Asc → readFrom i r ls = .inr r' → r'.Asc
  | [], i, r, r', _, h, e => by
    rw [← Sum.inr.inj e]
    exact h
  | l :: ls, i, r, r', hl, h, e => by
    unfold readFrom at e
    cases q : take i l r with
    | none => rw [q] at e; cases e
    | some r1 =>
      rw [q] at e
      exact readFrom_asc ls (i + 1) r1 r' (fun x hx => hl x (List.mem_cons_of_mem _ hx)) (take_asc (hl l (List.mem_cons_self ..)) h q) e
theorem readS_asc {ls : List Str} {w : Wd} (hl : ∀ l ∈ ls, Rt.Asc l) (h : readS ls = .inr w) : w.Asc := by
  unfold readS at h
  cases q : readFrom 0 wd0 ls with
  | inl k => rw [q] at h; cases h
  | inr r =>
    rw [q] at h
    have h : (if ls.length < 2 then Sum.inl ls.length else Sum.inr r) = Sum.inr w := h
    split at h
    · cases h
    · rw [← Sum.inr.inj h]
      exact readFrom_asc ls 0 wd0 r hl wd0_asc q
end Rt
set_option Elab.async false
set_option linter.all false
set_option maxRecDepth 100000
set_option maxHeartbeats 4000000
/-! Heaps, data in heaps, comprehensions that map. -/
namespace Rt
open PySem PySem.Spec PyProof.Rows L2
/-! ### heaps that grow -/
theorem same_new {H : Hp} {p : Addr} {o : HO} (h : H p = none) : Same H (upd H p o) := fun b x e => by
  rw [upd_ne (ne_of_none e h)]
  exact e
theorem _root_.L2.Same.tu {K : PySem.W.Frag} {H H' : Hp} {a : Addr} {xs : List V} (e : Same H H') (h : SqT K H a xs) : SqT K H' a xs := by
  rcases h with (h | ⟨o, h⟩) | h
  · exact .inl (.inl (e _ _ h))
  · exact .inl (.inr ⟨o, e _ _ h⟩)
  · exact .inr h
/-- what H does not know may change -/
theorem _root_.L2.Same.wr {H H' : Hp} {p : Addr} {o : HO} (e : Same H H') (h : H p = none) : Same H (upd H' p o) := fun a u ha => by
  rw [upd_ne (ne_of_none ha h)]
  exact e a u ha
mutual
theorem Dp.same {K : PySem.W.Frag} {H H' : Hp} (e : Same H H') : ∀ {v : V} {d : PyData}, Dp K H v d → Dp K H' v d
  | _, _, .non => .non
  | _, _, .bl b => .bl b
  | _, _, .int i => .int i
  | _, _, .str x => .str x
  | _, _, .lst h a => .lst (e.seq h) (DpAll.same e a)
  | _, _, .tup h a => .tup (e.tu h) (DpAll.same e a)
theorem DpAll.same {K : PySem.W.Frag} {H H' : Hp} (e : Same H H') : ∀ {vs : List V} {ds : List PyData}, DpAll K H vs ds → DpAll K H' vs ds
  | _, _, .nil => .nil
  | _, _, .cons h a => .cons (Dp.same e h) (DpAll.same e a)
end
theorem DpAll.len {K : PySem.W.Frag} {H : Hp} : ∀ {vs : List V} {ds : List PyData}, DpAll K H vs ds → vs.length = ds.length
  | _, _, .nil => rfl
  | _, _, .cons _ a => congrArg (· + 1) (DpAll.len a)
theorem DpAll.at {K : PySem.W.Frag} {H : Hp} : ∀ {vs : List V} {ds : List PyData} {i : Nat} {d : PyData}, DpAll K H vs ds → ds[i]? = some d → ∃ v, vs[i]? = some v ∧ Dp K H v d
  | _, _, _, _, .nil, h => by simp at h
  | _, _, 0, d, .cons (v := v) x a, h => by
    have e := Option.some.inj h
    subst e
    exact ⟨v, rfl, x⟩
  | _, _, i + 1, d, .cons x a, h => by
    obtain ⟨v, e, q⟩ := DpAll.at (i := i) a (by simpa using h)
    exact ⟨v, by simpa using e, q⟩
theorem DpAll.snoc {K : PySem.W.Frag} {H : Hp} {v : V} {d : PyData} (hd : Dp K H v d) : ∀ {vs : List V} {ds : List PyData}, DpAll K H vs ds → DpAll K H (vs ++ [v]) (ds ++ [d])
  | _, _, .nil => .cons hd .nil
  | _, _, .cons x a => .cons x (DpAll.snoc hd a)
theorem dp_opt (K : PySem.W.Frag) (H : Hp) : ∀ o : Option Int, Dp K H (optV o) (optD o)
  | none => .non
  | some i => .int i
theorem dp_opts (K : PySem.W.Frag) (H : Hp) : ∀ os : List (Option Int), DpAll K H (os.map optV) (os.map optD)
  | [] => .nil
  | o :: r => .cons (dp_opt K H o) (dp_opts K H r)
theorem dp_strs (K : PySem.W.Frag) (H : Hp) : ∀ ks : List Str, DpAll K H (ks.map V.str) (ks.map PyData.str)
  | [] => .nil
  | k :: r => .cons (.str k) (dp_strs K H r)
theorem Dp.opt {K : PySem.W.Frag} {H : Hp} {v : V} : ∀ {o : Option Int}, Dp K H v (optD o) → v = optV o
  | none, h => by cases h; rfl
  | some i, h => by cases h; rfl
theorem Dp.st {K : PySem.W.Frag} {H : Hp} {v : V} {x : Str} (h : Dp K H v (.str x)) : v = .str x := by cases h; rfl
theorem Dp.it {K : PySem.W.Frag} {H : Hp} {v : V} {x : Int} (h : Dp K H v (.int x)) : v = .int x := by cases h; rfl
theorem Dp.tp {K : PySem.W.Frag} {H : Hp} {v : V} {ds : List PyData} (h : Dp K H v (.tuple ds)) : ∃ a xs, v = .ref a ∧ SqT K H a xs ∧ DpAll K H xs ds := by
  cases h with
  | tup h a => exact ⟨_, _, rfl, h, a⟩
theorem DpAll.opts {K : PySem.W.Frag} {H : Hp} : ∀ {os : List (Option Int)} {vs : List V}, DpAll K H vs (os.map optD) → vs = os.map optV
  | [], _, .nil => rfl
  | o :: r, _, .cons x a => by
    rw [Dp.opt x, DpAll.opts a]
    rfl
theorem DpAll.strs {K : PySem.W.Frag} {H : Hp} : ∀ {os : List Str} {vs : List V}, DpAll K H vs (os.map PyData.str) → vs = os.map V.str
  | [], _, .nil => rfl
  | o :: r, _, .cons x a => by
    rw [Dp.st x, DpAll.strs a]
    rfl
/-! ### worlds as data -/
def Src.d (s : Src) : PyData := .tuple (.str s.k :: s.ns.map optD)
def Prt.d (p : Prt) : PyData := .tuple [.str p.k, optD p.a, optD p.b]
def Wy.d (y : Wy) : PyData := .tuple [.str y.k, .tuple (y.ps.map Prt.d), .str y.keeps, .tuple (y.hs.map optD), optD y.w]
def Wd.ds (w : Wd) : List PyData := [.int w.size, .tuple (w.ks.map PyData.str), .tuple (w.ss.map Src.d), .tuple (w.ws.map Wy.d)]
def Wd.d (w : Wd) : PyData := .tuple w.ds
/-! ### a comprehension that maps -/
theorem lc_map {J : It} {n : Nat} {G : Hp → Prop} {Y : Nat → Hp → V → Hp → Prop} (w : Walk J n G Y) {g : TG} {te : TE} {vs : List Nat} {σ : L2.St} {H1 : Hp} {D : Addr} {Qd : Hp → Prop} (ys : List V) (hn : ys.length = n) (hz : n ≤ 100000) (nD : H1 D = none)
    (hG : ∀ H, Same H1 H → G H) (hY : ∀ i H x H', i < n → Y i H x H' → Same H H')
    (hs : ∀ (i : Nat) (x : V) (H H' : Hp), i < n → Same H1 H → Y i H x H' → ∀ Q : VK, (∀ y H4, ys[i]? = some y → Same H' H4 → Q y H4) → g x (wipe σ vs) H' fun σ2 H2 => wipe σ2 vs = wipe σ vs ∧ te σ2 H2 Q)
    (hd : ∀ H, Same H1 H → H D = some (.lst ys) → Qd H) :
    ∃ W : Nat → Nat → Hp → Prop, (∃ m, W 0 m (upd H1 D (.lst []))) ∧ ∀ i m H, W i m H →
      (J.stop i H ∧ Qd H) ∨ (J.go i H ∧ ∃ Nx : Hp → Prop, (∀ H', Nx H' → ∃ m', m' < m ∧ W (i + 1) m' H') ∧ ∀ x H', J.yld i H x H' → g x (wipe σ vs) H' fun σ2 H2 => wipe σ2 vs = wipe σ vs ∧ tYes σ2 H2 fun b H3 =>
        if b = true then te σ2 H3 fun y H4 => ∃ acc, H4 D = some (.lst acc) ∧ acc.length < sizeLine ∧ Nx (upd H4 D (.lst (acc ++ [y]))) else Nx H3) := by
  have sl : (100000 : Nat) < sizeLine := by decide
  refine lc_it w (fun i H => Same H1 H ∧ H D = some (.lst (ys.take i))) ⟨same_new nD, by rw [upd_same]; rfl⟩ (fun i H _ p => hG H p.1) (fun i x H H' hi p y => ?_) fun H p => hd H p.1 (by rw [p.2, ← hn, List.take_length])
  refine hs i x H H' hi p.1 y _ fun v H4 hv s4 => ?_
  have s2 := hY i H x H' hi y
  refine ⟨ys.take i, s4 _ _ (s2 _ _ p.2), by rw [List.length_take]; omega, (p.1.trans (s2.trans s4)).wr nD, ?_⟩
  rw [upd_same, List.take_add_one, hv]
  rfl
theorem yAt_same {xs : List V} {n : Nat} : ∀ i H x H', i < n → YAt xs i H x H' → Same H H' := fun _ _ _ _ _ y => by
  rw [y.1]
  exact Same.refl _
theorem yFn_same {f : Nat → V} {n : Nat} : ∀ i H x H', i < n → YFn f i H x H' → Same H H' := fun _ _ _ _ _ y => by
  rw [y.1]
  exact Same.refl _
theorem yPair_same {f g : Nat → Option V} {n : Nat} : ∀ i H x H', i < n → YPair f g i H x H' → Same H H' := fun _ _ _ _ _ y => by
  obtain ⟨T, _, _, _, h, e, _⟩ := y
  rw [e]
  exact same_new h
/-! ### what tells that a thing is faultless -/
def FaultV (ok : Bool) (v : V) : Prop := decide (v = .non) = ok
theorem sz_le {n : Nat} (h : n ≤ 100000) : n ≤ sizeLine := Nat.le_trans h (by decide)
theorem sz_lt {n : Nat} (h : n < 100000) : n < sizeLine := Nat.lt_of_lt_of_le h (by decide)
end Rt
set_option Elab.async false
set_option linter.all false
set_option maxRecDepth 100000
set_option maxHeartbeats 4000000
/-! is_number, is_name, is_row, is_kind. -/
namespace Rt
open PySem PySem.Spec PyProof.Rows L2
section
variable {P : Program} {w : World} {K : PySem.W.Frag} {mg : Str → Option Value} {base : Heap}
/-! ### short words -/
theorem pe_isi {X : Cx} {i : Nat} {n : String} {x nm : Str} {p1 p2 p3 p4 : Pos} (hx : X.N[i]? = some x) (hv : Vis X.env.scope x) (hg : Gl X "isinstance") (hm : X.mg "isinstance" = none) (hgn : Gl X nm) (hmn : X.mg nm = none) (hb : bootBuiltins nm = some (.type n))
    (d1 : (x == ("__debug__" : Str)) = false := by decide) (d2 : (x == ("__classdict__" : Str)) = false := by decide) (d3 : nm ≠ "__name__" := by decide) (d4 : (nm == ("__debug__" : Str)) = false := by decide) :
    PE X (.Call (.Name "isinstance" p1) [.Name x p2, .Name nm p3] [] p4) (tCB (rIsi X.K) (tCons (tVar i) (tCons (tC (.ty n)) tNil))) :=
  pe_callB call_isi hg hm boot_isinstance (pa_cons (pe_var hx hv d1 d2) (pa_cons (pe_bltn hgn hmn hb rfl d3 d4) pa_nil))
abbrev tIsi (K : PySem.W.Frag) (i : Nat) (n : String) : TE := tCB (rIsi K) (tCons (tVar i) (tCons (tC (.ty n)) tNil))
section
variable {K : PySem.W.Frag} {H : Hp} {Q : VK} {σ : L2.St} {i : Nat}
theorem isi_opt (o : Option Int) (hi : σ[i]? = some (some (optV o))) (h : Q (.bl o.isSome) H) : tIsi K i "int" σ H Q := by
  cases o with
  | none => exact ⟨_, hi, _, _, _, _, false, rfl, .ty "int", .base .non, kit_ty (by decide +kernel), h⟩
  | some i => exact ⟨_, hi, _, _, _, _, true, rfl, .ty "int", .base (.int i), kit_ty (by decide +kernel), h⟩
theorem isi_bool (n : Int) (hi : σ[i]? = some (some (.int n))) (h : Q (.bl false) H) : tIsi K i "bool" σ H Q :=
  ⟨_, hi, _, _, _, _, false, rfl, .ty "bool", .base (.int n), kit_ty (by decide +kernel), h⟩
theorem isi_str (z : Str) (hi : σ[i]? = some (some (.str z))) (h : Q (.bl true) H) : tIsi K i "str" σ H Q :=
  ⟨_, hi, _, _, _, _, true, rfl, .ty "str", .base (.str z), kit_ty (by decide +kernel), h⟩
theorem isi_tup {a : Addr} {xs : List V} (e : H a = some (.tup xs)) (hi : σ[i]? = some (some (.ref a))) (h : Q (.bl true) H) : tIsi K i "tuple" σ H Q :=
  ⟨_, hi, _, _, _, _, true, rfl, .ty "tuple", .base (.tup e), kit_ty (by decide +kernel), h⟩
theorem isi_tupI (n : Int) (hi : σ[i]? = some (some (.int n))) (h : Q (.bl false) H) : tIsi K i "tuple" σ H Q :=
  ⟨_, hi, _, _, _, _, false, rfl, .ty "tuple", .base (.int n), kit_ty (by decide +kernel), h⟩
end
/-! ### is_number -/
def spIsNumber : Sp := fun vs H Q _ => ∃ (o : Option Int) (lo hi : Int), vs = [optV o, .int lo, .int hi] ∧ Q (.bl (isNum o lo hi)) H
theorem ok_isNumber (T : Txt K mg) : FnOk P w K mg base CX0 1 T.isNumber.f T.isNumber.fd ["thing", "low", "high"] spIsNumber := by
  refine T.isNumber.F.ok scIsNumber (fun vs H Q E h => ?_) (fun cdv A outer s H vs Q E hr h => ?_)
  · obtain ⟨o, lo, hi, rfl, _⟩ := h
    rfl
  · obtain ⟨o, lo, hi, rfl, q⟩ := h
    refine ⟨_, pss_one (ps_ret (pe_and (pe_isi (i := 0) rfl (.inl rfl) (by rfl) T.bIsinstance (by rfl) T.bInt boot_int)
      (pe_and (pe_not (pe_isi (i := 0) rfl (.inl rfl) (by rfl) T.bIsinstance (by rfl) T.bBool boot_bool)) (pe_one (pe_chain op_le op_le (pv 1) (pv 0) (pv 2)))))), ?_⟩
    refine isi_opt o rfl ⟨_, rfl, ?_⟩
    cases o with
    | none => exact q
    | some i =>
      refine isi_bool i rfl ⟨_, rfl, _, rfl, ?_⟩
      refine ⟨_, rfl, _, rfl, lo, i, rfl, rfl, _, rfl, ?_⟩
      have q : Q (.bl (decide (lo ≤ i) && decide (i ≤ hi))) H := q
      cases c : decide (lo ≤ i) with
      | true =>
        rw [c] at q
        exact ⟨_, rfl, i, hi, rfl, rfl, q⟩
      | false =>
        rw [c] at q
        exact q
/-! ### is_row: of a tuple -/
def spIsRow : Sp := fun vs H Q _ => ∃ (a : Addr) (xs : List V) (lo hi : Nat), vs = [.ref a, .int lo, .int hi] ∧ H a = some (.tup xs) ∧ Q (.bl (sized lo hi xs.length)) H
theorem ok_isRow (T : Txt K mg) : FnOk P w K mg base CX0 1 T.isRow.f T.isRow.fd ["thing", "least", "most"] spIsRow := by
  refine T.isRow.F.ok scIsRow (fun vs H Q E h => ?_) (fun cdv A outer s H vs Q E hr h => ?_)
  · obtain ⟨a, xs, lo, hi, rfl, _⟩ := h
    rfl
  · obtain ⟨a, xs, lo, hi, rfl, ha, q⟩ := h
    refine ⟨_, pss_one (ps_ret (pe_and (pe_isi (i := 0) rfl (.inl rfl) (by rfl) T.bIsinstance (by rfl) T.bTuple boot_tuple)
      (pe_one (pe_chain op_le op_le (pv 1) (pe_callB call_len_seq (by rfl) T.bLen PySem.boot_len (pa_cons (pv 0) pa_nil)) (pv 2))))), ?_⟩
    refine isi_tup ha rfl ⟨_, rfl, ?_⟩
    refine ⟨_, rfl, _, rfl, a, xs, rfl, .inr (SqT.of ha), _, _, rfl, rfl, _, rfl, ?_⟩
    have q : Q (.bl (decide ((lo : Int) ≤ (xs.length : Int)) && decide ((xs.length : Int) ≤ (hi : Int)))) H := q
    cases c : decide ((lo : Int) ≤ (xs.length : Int)) with
    | true =>
      rw [c] at q
      exact ⟨_, rfl, _, _, rfl, rfl, q⟩
    | false =>
      rw [c] at q
      exact q
/-! ### is_kind -/
def spIsKind : Sp := fun vs H Q _ => ∃ (a : Addr) (ks : List Str) (k : Str), vs = [.ref a, .str k] ∧ H a = some (.tup (ks.map V.str)) ∧ Q (.bl (isKindB ks k)) H
theorem flat_strs (ks : List Str) : (ks.map V.str).all flatV = true := by
  rw [List.all_map, List.all_eq_true]
  intro k _
  rfl
theorem ok_isKind (T : Txt K mg) : FnOk P w K mg base CX0 1 T.isKind.f T.isKind.fd ["kinds", "thing"] spIsKind := by
  refine T.isKind.F.ok scIsKind (fun vs H Q E h => ?_) (fun cdv A outer s H vs Q E hr h => ?_)
  · obtain ⟨a, ks, k, rfl, _⟩ := h
    rfl
  · obtain ⟨a, ks, k, rfl, ha, q⟩ := h
    refine ⟨_, pss_one (ps_ret (pe_and (pe_isi (i := 1) rfl (.inl rfl) (by rfl) T.bIsinstance (by rfl) T.bStr boot_str) (pe_one (pe_cmpR op_in_seq (pv 1) (pv 0) (by rfl))))), ?_⟩
    refine isi_str k rfl ⟨_, rfl, ?_⟩
    exact ⟨_, rfl, _, rfl, a, _, rfl, .inr (SqT.of ha), rfl, flat_strs ks, q⟩
/-! ### is_name -/
def spIsName : Sp := fun vs H Q _ => ∃ z : Str, vs = [.str z] ∧ z.length ≤ 10000 ∧ ∀ H', Same H H' → Q (.bl (isNameS z)) H'
/-- all([sign in TEXT for sign in z]) -/
theorem ok_isName (T : Txt K mg) : FnOk P w K mg base CX0 1 T.isName.f T.isName.fd ["thing"] spIsName := by
  refine T.isName.F.ok scIsName (fun vs H Q E h => ?_) (fun cdv A outer s H vs Q E hr h => ?_)
  · obtain ⟨z, rfl, _⟩ := h
    rfl
  · obtain ⟨z, rfl, hz, q⟩ := h
    obtain ⟨tL, hL⟩ := T.kLETTERS
    refine ⟨_, pss_one (ps_ret (pe_and (pe_isi (i := 0) rfl (.inl rfl) (by rfl) T.bIsinstance (by rfl) T.bStr boot_str)
      (pe_and (pe_chain op_le op_le pe_int (pe_callB call_len_str (by rfl) T.bLen PySem.boot_len (pa_cons (pv 0) pa_nil)) pe_int)
      (pe_one (pe_callB (cr_all rfl) (by rfl) T.bAll boot_all (pa_cons (pe_lc (own := [("sign", 1)]) (g := gName 1) (tt := tYes) rfl scIsName.nd (pi_str (pv 0)) (blkOk_by (N := nIsName) (sc := defScope sIsName) (by decide +kernel))
        (fun _ _ _ _ _ => pg_name (i := 1) scIsName.nd rfl (Or.inl rfl)) (fun _ _ _ _ _ => pts_nil) (fun _ _ _ _ _ => pe_cmpR op_in_sign (pv 1) (pe_glob (v := .str lets) (by rfl) hL ⟨_, rfl⟩) (by rfl))) pa_nil)))))), ?_⟩
    have zl : z.length ≤ sizeLine := sz_le (by omega)
    refine isi_str z rfl ⟨_, rfl, ?_⟩
    refine ⟨_, rfl, z, rfl, zl, _, _, rfl, rfl, _, rfl, ?_⟩
    have q : ∀ H', Same H H' → Q (.bl ((decide ((1 : Int) ≤ (z.length : Int)) && decide ((z.length : Int) ≤ 8)) && allIn lets z)) H' := q
    cases c1 : decide ((1 : Int) ≤ (z.length : Int)) with
    | false =>
      rw [c1] at q
      exact ⟨_, rfl, q H (Same.refl H)⟩
    | true =>
      rw [c1] at q
      refine ⟨_, _, rfl, rfl, _, rfl, ?_⟩
      cases c2 : decide ((z.length : Int) ≤ 8) with
      | false =>
        rw [c2] at q
        exact q H (Same.refl H)
      | true =>
        rw [c2] at q
        refine ⟨_, rfl, z, rfl, fun D nD => lc_map walk_str (z.cps.toList.map fun c => V.bl (decide (c ∈ lets.cps.toList))) (by simp) (by rw [show z.cps.size = z.length from rfl]; omega) nD (fun _ _ => trivial) (fun i H x H' _ y => by rw [y.1]; exact Same.refl _) (fun i x H2 H3 hi s2 y Q2 q2 => ?_) fun H2 s2 e2 => ?_⟩
        · obtain ⟨rfl, c, hc, rfl⟩ := y
          refine ⟨rfl, _, rfl, c, lets, rfl, rfl, q2 _ _ ?_ (Same.refl _)⟩
          rw [List.getElem?_map, Array.getElem?_toList, hc]
          rfl
        · refine ⟨D, z.cps.toList.map fun c => decide (c ∈ lets.cps.toList), rfl, SqL.of (by rw [e2, List.map_map]; rfl), ?_⟩
          have e3 : (z.cps.toList.map fun c => decide (c ∈ lets.cps.toList)).all id = allIn lets z := by
            unfold allIn
            rw [List.all_map]
            rfl
          rw [e3]
          exact q H2 s2
end
end Rt
set_option Elab.async false
set_option linter.all false
set_option maxRecDepth 100000
set_option maxHeartbeats 4000000
/-! kinds_fault, are_hours, part_fault. -/
namespace Rt
open PySem PySem.Spec PyProof.Rows L2
theorem faultRef {ok : Bool} {p : Addr} (h : ok = false) : FaultV ok (.ref p) := by
  subst h
  rfl
theorem faultNon {ok : Bool} (h : ok = true) : FaultV ok .non := by
  subst h
  rfl
theorem notT {b : Bool} (h : (!b) = true) : b = false := by
  cases b
  · rfl
  · cases h
theorem notF {b : Bool} (h : ¬ (!b) = true) : b = true := by
  cases b
  · exact absurd rfl h
  · rfl
theorem getD_at {α : Type} {l : List α} {i : Nat} {x d : α} (h : l[i]? = some x) : l.getD i d = x := by
  rw [List.getD_eq_getElem?_getD, h]
  rfl
theorem strs_at {ks : List Str} {i : Nat} {v : V} (h : (ks.map V.str)[i]? = some v) : ∃ k, v = .str k ∧ ks[i]? = some k := by
  rw [List.getElem?_map] at h
  cases e : ks[i]? with
  | none => rw [e] at h; cases h
  | some k =>
    rw [e] at h
    exact ⟨k, (Option.some.inj h).symm, rfl⟩
theorem map_at {α : Type} {f : α → V} {ks : List α} {i : Nat} {v : V} (h : (ks.map f)[i]? = some v) : ∃ k, v = f k ∧ ks[i]? = some k := by
  rw [List.getElem?_map] at h
  cases e : ks[i]? with
  | none => rw [e] at h; cases h
  | some k =>
    rw [e] at h
    exact ⟨k, (Option.some.inj h).symm, rfl⟩
theorem at_map {α : Type} (f : α → V) {ks : List α} {i : Nat} {k : α} (h : ks[i]? = some k) : (ks.map f)[i]? = some (f k) := by
  rw [List.getElem?_map, h]
  rfl
section
variable {P : Program} {w : World} {K : PySem.W.Frag} {mg : Str → Option Value} {base : Heap}
/-! ### kinds_fault -/
def spKindsFault : Sp := fun vs H Q _ => ∃ (a : Addr) (ks : List Str), vs = [.ref a] ∧ H a = some (.tup (ks.map V.str)) ∧ (∀ k ∈ ks, k.length ≤ 10000) ∧ ∀ H' v, Same H H' → FaultV (kindsOk ks) v → Q v H'
theorem ok_kindsFault (T : Txt K mg) : FnOk P w K mg base CX0 2 T.kindsFault.f T.kindsFault.fd ["kinds"] spKindsFault := by
  have G1 : FnOk P w K mg base CX0 1 T.isRow.f T.isRow.fd ["thing", "least", "most"] spIsRow := ok_isRow T
  have G2 : FnOk P w K mg base CX0 1 T.isName.f T.isName.fd ["thing"] spIsName := ok_isName T
  refine T.kindsFault.F.ok scKindsFault (fun vs H Q E h => ?_) (fun cdv A outer s H vs Q E hr h => ?_)
  · obtain ⟨a, ks, rfl, _⟩ := h
    rfl
  · obtain ⟨a, ks, rfl, ha, hk, q⟩ := h
    obtain ⟨tK, hK⟩ := T.kKINDS
    refine ⟨_, pss_cons (ps_if (pt_not (pt_val (pe_call G1 hr (by rfl) T.isRow.g T.isRow.F.kp T.isRow.b .nil pass0 (pa_cons (pv 0) (pa_cons pe_int (pa_cons (pe_glob (v := .int 4) (by rfl) hK ⟨_, rfl⟩) pa_nil))))))
        (pss_one (ps_ret (pe_tup (pa_cons (pe_tup (pa_cons pe_int pa_nil)) (pa_cons pe_str pa_nil))))) pss_nil)
      (pss_cons (ps_for PassesOwn.never rfl (pi_enumT (by rfl) T.bEnumerate (pa_cons (pv 0) pa_nil)) (pg_tup rfl (pgs_cons (pg_name (i := 1) scKindsFault.nd rfl (.inl rfl)) (pgs_cons (pg_name (i := 2) scKindsFault.nd rfl (.inl rfl)) pgs_nil)))
        (pss_one (ps_if (PW.pt (pw_or (pt_not (pt_val (pe_call G2 hr (by rfl) T.isName.g T.isName.F.kp T.isName.b .nil pass0 (pa_cons (pv 2) pa_nil))))
            (pw_or1 (PW.pt (pw_and (pt_cmpR op_gt (pv 1) pe_int (nomark _)) (pw_and1 (pt_cmpR op_le_str (pv 2) (pe_ix ix_tup (pv 0) (pe_op op_sub (pv 1) pe_int) (fun _ _ => rfl)) (nomark _))))))))
          (pss_one (ps_ret (pe_tup (pa_cons (pe_tup (pa_cons pe_int (pa_cons (pv 1) pa_nil))) (pa_cons pe_str pa_nil))))) pss_nil)))
      (pss_one (ps_ret pe_non))), ?_⟩
    refine ⟨.ref a, rfl, a, _, 1, 4, rfl, ha, _, rfl, ?_⟩
    rw [List.length_map]
    refine ite2 (fun e => ?_) (fun e => ?_)
    · refine ⟨sz_le (by show 1 ≤ 100000; decide), fun p hp => ⟨sz_le (by show 2 ≤ 100000; decide), fun p2 hp2 => q _ _ ((same_new hp).trans (same_new hp2)) (faultRef ?_)⟩⟩
      unfold kindsOk
      rw [notT e]
      rfl
    · have eS := notF e
      refine ⟨.ref a, rfl, a, _, rfl, SqT.of ha, for_it walk_enumT (fun i σ H2 => ∃ y1 y2, σ = [some (.ref a), y1, y2] ∧ Same H H2 ∧ upTo (kindGood ks) i = true) ⟨none, none, rfl, Same.refl H, rfl⟩
        (fun i σ H2 _ ⟨_, _, _, s2, _⟩ => SqT.of (s2 _ _ ha)) ?_ ?_⟩
      · rintro i x σ H2 H3 hi ⟨y1, y2, rfl, s2, u⟩ ⟨T1, v1, v2, rfl, nT, rfl, e1, e2⟩
        rw [List.length_map] at hi
        have ev1 : v1 = .int (i : Nat) := (Option.some.inj e1).symm
        subst ev1
        obtain ⟨k, rfl, hk1⟩ := strs_at e2
        have s3 := s2.trans (same_new (o := .tup [V.int (i : Nat), V.str k]) nT)
        refine ⟨T1, [V.int (i : Nat), V.str k], rfl, SqT.of upd_same, rfl, _, _, rfl, _, _, rfl, rfl, ?_⟩
        refine ⟨.str k, rfl, k, rfl, hk k (List.mem_of_getElem? hk1), fun H4 s4 => ⟨_, rfl, ?_⟩⟩
        have s5 := s3.trans s4
        have bad : kindGood ks i = false → ∀ H5, Same H H5 → tRet (tTup (tCons (tTup (tCons (tC (.int 1)) (tCons (tVar 1) tNil))) (tCons (tC (.str "name")) tNil))) ({ nx := fun _ _ => True, rt := Q } : Ends) [some (.ref a), some (.int (i : Nat)), some (.str k)] H5 := fun hb H5 s6 =>
          ⟨_, rfl, sz_le (by show 2 ≤ 100000; decide), fun p hp => ⟨sz_le (by show 2 ≤ 100000; decide), fun p2 hp2 => q _ _ (s6.trans ((same_new hp).trans (same_new hp2))) (faultRef (by
            unfold kindsOk
            rw [upTo_false hi hb, Bool.and_false]))⟩⟩
        refine ite2 (fun e3 => ?_) (fun e3 => ?_)
        · refine iteT (bad ?_ H4 s5)
          unfold kindGood
          rw [getD_at hk1, notT e3]
          rfl
        · have gN := notF e3
          refine ⟨_, rfl, _, _, rfl, rfl, _, rfl, ?_⟩
          have more : ∀ H5, Same H H5 → kindGood ks i = true → ∃ y1 y2, [some (V.ref a), some (V.int (i : Nat)), some (V.str k)] = [some (.ref a), y1, y2] ∧ Same H H5 ∧ upTo (kindGood ks) (i + 1) = true := fun H5 s6 hg =>
            ⟨_, _, rfl, s6, by rw [upTo_succ, u, hg]; rfl⟩
          refine ite2 (fun e4 => ?_) (fun e4 => ?_)
          · have hpos : (0 : Int) < (i : Nat) := of_decide_eq_true e4
            obtain ⟨j, rfl⟩ : ∃ j, i = j + 1 := ⟨i - 1, by omega⟩
            obtain ⟨k0, hk0⟩ : ∃ k0, ks[j]? = some k0 := ⟨ks[j]'(by omega), List.getElem?_eq_getElem _⟩
            have hgood : kindGood ks (j + 1) = !(!decide (k0.cps.toList < k.cps.toList)) := by
              unfold kindGood
              rw [getD_at hk1, show j + 1 - 1 = j from rfl, getD_at hk0, gN, decide_eq_true (show 0 < j + 1 by omega)]
              rfl
            refine ⟨.str k, rfl, .ref a, rfl, .int ((j + 1 : Nat) : Int), rfl, _, _, rfl, rfl, a, _, _, .str k0, rfl, rfl, SqT.of (s5 _ _ ha), at_of (j := j) (by omega) (at_map V.str hk0), k, k0, rfl, rfl, _, rfl, ?_⟩
            refine ite2 (fun e5 => ?_) (fun e5 => ?_)
            · refine bad ?_ H4 s5
              rw [hgood, e5]
              rfl
            · refine more H4 s5 ?_
              rw [hgood]
              cases c : decide (k0.cps.toList < k.cps.toList)
              · rw [c] at e5
                exact absurd rfl e5
              · rfl
          · refine iteF (more H4 s5 ?_)
            unfold kindGood
            have h0 : decide (0 < i) = false := decide_eq_false fun z => e4 (decide_eq_true (show (0 : Int) < (i : Nat) by omega))
            rw [getD_at hk1, gN, h0]
            rfl
      · rintro σ H2 ⟨y1, y2, rfl, s2, u⟩
        rw [List.length_map] at u
        exact q _ _ s2 (faultNon (by unfold kindsOk; rw [eS, u]; rfl))
/-! ### are_hours -/
def spAreHours : Sp := fun vs H Q _ => ∃ (a : Addr) (size : Int) (hs : List (Option Int)), vs = [.int size, .ref a] ∧ H a = some (.tup (hs.map optV)) ∧ ∀ H', Same H H' → Q (.bl (hoursOk size hs)) H'
theorem ok_areHours (T : Txt K mg) : FnOk P w K mg base CX0 2 T.areHours.f T.areHours.fd ["size", "thing"] spAreHours := by
  have G1 : FnOk P w K mg base CX0 1 T.isNumber.f T.isNumber.fd ["thing", "low", "high"] spIsNumber := ok_isNumber T
  refine T.areHours.F.ok scAreHours (fun vs H Q E h => ?_) (fun cdv A outer s H vs Q E hr h => ?_)
  · obtain ⟨a, z, hs, rfl, _⟩ := h
    rfl
  · obtain ⟨a, size, hs, rfl, ha, q⟩ := h
    refine ⟨_, pss_cons (ps_if (pt_not (pt_val (pe_isi (i := 1) rfl (.inl rfl) (by rfl) T.bIsinstance (by rfl) T.bTuple boot_tuple))) (pss_one (ps_ret pe_bl)) pss_nil)
      (pss_cons (ps_for PassesOwn.never rfl (pi_enumT (by rfl) T.bEnumerate (pa_cons (pv 1) pa_nil)) (pg_tup rfl (pgs_cons (pg_name (i := 2) scAreHours.nd rfl (.inl rfl)) (pgs_cons (pg_name (i := 3) scAreHours.nd rfl (.inl rfl)) pgs_nil)))
        (pss_one (ps_if (PW.pt (pw_or (pt_not (pt_val (pe_call G1 hr (by rfl) T.isNumber.g T.isNumber.F.kp T.isNumber.b .nil pass0 (pa_cons (pv 3) (pa_cons pe_int (pa_cons (pe_op op_sub (pv 0) pe_int) pa_nil))))))
            (pw_or1 (PW.pt (pw_and (pt_cmpR op_gt (pv 2) pe_int (nomark _)) (pw_and1 (pt_cmpR op_le (pv 3) (pe_ix ix_tup (pv 1) (pe_op op_sub (pv 2) pe_int) (fun _ _ => rfl)) (nomark _))))))))
          (pss_one (ps_ret pe_bl)) pss_nil)))
      (pss_one (ps_ret pe_bl))), ?_⟩
    refine isi_tup ha rfl ⟨_, rfl, iteF ?_⟩
    refine ⟨.ref a, rfl, a, _, rfl, SqT.of ha, for_it walk_enumT (fun i σ H2 => ∃ y1 y2, σ = [some (.int size), some (.ref a), y1, y2] ∧ Same H H2 ∧ upTo (hourGood size hs) i = true) ⟨none, none, rfl, Same.refl H, rfl⟩
      (fun i σ H2 _ ⟨_, _, _, s2, _⟩ => SqT.of (s2 _ _ ha)) ?_ ?_⟩
    · rintro i x σ H2 H3 hi ⟨y1, y2, rfl, s2, u⟩ ⟨T1, v1, v2, rfl, nT, rfl, e1, e2⟩
      rw [List.length_map] at hi
      have ev1 : v1 = .int (i : Nat) := (Option.some.inj e1).symm
      subst ev1
      obtain ⟨k, rfl, hk1⟩ := map_at e2
      have s3 := s2.trans (same_new (o := .tup [V.int (i : Nat), optV k]) nT)
      refine ⟨T1, [V.int (i : Nat), optV k], rfl, SqT.of upd_same, rfl, _, _, rfl, _, _, rfl, rfl, ?_⟩
      refine ⟨_, rfl, _, rfl, size, 1, rfl, rfl, k, 0, size - 1, rfl, _, rfl, ?_⟩
      have bad : hourGood size hs i = false → ∀ H5, Same H H5 → Q (.bl false) H5 := fun hb H5 s6 => by
        have z := q H5 s6
        unfold hoursOk at z
        rw [upTo_false hi hb] at z
        exact z
      refine ite2 (fun e3 => ?_) (fun e3 => ?_)
      · refine iteT (bad ?_ _ s3)
        unfold hourGood
        rw [getD_at hk1, notT e3]
        rfl
      · have gN := notF e3
        obtain ⟨n, rfl, _⟩ := isNum_some gN
        refine ⟨_, rfl, _, _, rfl, rfl, _, rfl, ?_⟩
        refine ite2 (fun e4 => ?_) (fun e4 => ?_)
        · have hpos : (0 : Int) < (i : Nat) := of_decide_eq_true e4
          obtain ⟨j, rfl⟩ : ∃ j, i = j + 1 := ⟨i - 1, by omega⟩
          obtain ⟨k0, hk0⟩ : ∃ k0, hs[j]? = some k0 := ⟨hs[j]'(by omega), List.getElem?_eq_getElem _⟩
          have g0 := upTo_at u (show j < j + 1 by omega)
          unfold hourGood at g0
          rw [Bool.and_eq_true, getD_at hk0] at g0
          obtain ⟨n0, rfl, _⟩ := isNum_some g0.1
          have hgood : hourGood size hs (j + 1) = !(decide (n ≤ n0)) := by
            unfold hourGood
            rw [getD_at hk1, show j + 1 - 1 = j from rfl, getD_at hk0, gN, decide_eq_true (show 0 < j + 1 by omega)]
            rfl
          refine ⟨_, rfl, .ref a, rfl, .int ((j + 1 : Nat) : Int), rfl, _, _, rfl, rfl, a, _, _, .int n0, rfl, rfl, SqT.of (s3 _ _ ha), at_of (j := j) (by omega) (at_map optV hk0), n, n0, rfl, rfl, _, rfl, ?_⟩
          refine ite2 (fun e5 => ?_) (fun e5 => ?_)
          · refine bad ?_ _ s3
            rw [hgood, e5]
            rfl
          · refine ⟨_, _, rfl, s3, ?_⟩
            rw [upTo_succ, u, hgood]
            cases c : decide (n ≤ n0)
            · rfl
            · exact absurd c e5
        · refine iteF ⟨_, _, rfl, s3, ?_⟩
          rw [upTo_succ, u]
          unfold hourGood
          have h0 : decide (0 < i) = false := decide_eq_false fun z => e4 (decide_eq_true (show (0 : Int) < (i : Nat) by omega))
          rw [getD_at hk1, gN, h0]
          rfl
    · rintro σ H2 ⟨y1, y2, rfl, s2, u⟩
      rw [List.length_map] at u
      have z := q _ s2
      unfold hoursOk at z
      rw [u] at z
      exact z
/-! ### part_fault -/
theorem cat_any {H : Hp} {a b : Addr} {xs ys : List V} {Q : VK} (ha : H a = some (.tup xs)) (hb : H b = some (.tup ys)) (hl : xs.length + ys.length ≤ 100000) (h : ∀ p H', Same H H' → H' p = some (.tup (xs ++ ys)) → Q (.ref p) H') : rCatA K (.ref a) (.ref b) H Q := by
  refine ⟨a, b, xs, ys, rfl, rfl, SqT.of ha, SqT.of hb, sz_le hl, fun e => ?_, fun _ e => ?_, fun _ _ p hp => h p _ (same_new hp) upd_same⟩
  · subst e
    exact h b H (Same.refl H) hb
  · subst e
    exact h a H (Same.refl H) (by rw [List.append_nil]; exact ha)
theorem rd_ixT {H : Hp} {σ : L2.St} {i j : Nat} {b : Addr} {zs : List V} {v : V} {n : Int} {R : VK} (h : σ[i]? = some (some (.ref b))) (hs : SqT K H b zs) (e : n = (j : Int)) (hv : zs[j]? = some v) (r : R v H) : tOp (rIxT K) (tVar i) (tC (.int n)) σ H R :=
  ⟨_, h, b, zs, n, v, rfl, rfl, hs, at_of e hv, r⟩
def prtV (p : Prt) : List V := [.str p.k, optV p.a, optV p.b]
def spPartFault : Sp := fun vs H Q _ => ∃ (a pa z : Addr) (ks : List Str) (p : Prt) (xs : List V), vs = [.ref a, .ref pa, .ref z] ∧ H a = some (.tup (ks.map V.str)) ∧ H pa = some (.tup (prtV p)) ∧ H z = some (.tup xs) ∧ xs.length ≤ 1000 ∧
  ∀ H' v, Same H H' → FaultV (partOk ks p) v → Q v H'
theorem ok_partFault (T : Txt K mg) : FnOk P w K mg base CX0 2 T.partFault.f T.partFault.fd ["kinds", "part", "path"] spPartFault := by
  have G1 : FnOk P w K mg base CX0 1 T.isRow.f T.isRow.fd ["thing", "least", "most"] spIsRow := ok_isRow T
  have G2 : FnOk P w K mg base CX0 1 T.isKind.f T.isKind.fd ["kinds", "thing"] spIsKind := ok_isKind T
  have G3 : FnOk P w K mg base CX0 1 T.isNumber.f T.isNumber.fd ["thing", "low", "high"] spIsNumber := ok_isNumber T
  refine T.partFault.F.ok scPartFault (fun vs H Q E h => ?_) (fun cdv A outer s H vs Q E hr h => ?_)
  · obtain ⟨a, pa, z, ks, p, xs, rfl, _⟩ := h
    rfl
  · obtain ⟨a, pa, z, ks, p, xs, rfl, ha, hp, hz, hl, q⟩ := h
    obtain ⟨tO, hO⟩ := T.kOLD
    refine ⟨_, pss_cons (ps_if (pt_not (pt_val (pe_call G1 hr (by rfl) T.isRow.g T.isRow.F.kp T.isRow.b .nil pass0 (pa_cons (pv 1) (pa_cons pe_int (pa_cons pe_int pa_nil)))))) (pss_one (ps_ret (pe_tup (pa_cons (pv 2) (pa_cons pe_str pa_nil))))) pss_nil)
      (pss_cons (ps_if (pt_not (pt_val (pe_call G2 hr (by rfl) T.isKind.g T.isKind.F.kp T.isKind.b .nil pass0 (pa_cons (pv 0) (pa_cons (pe_ix ix_tup (pv 1) pe_int (fun _ _ => rfl)) pa_nil)))))
        (pss_one (ps_ret (pe_tup (pa_cons (pe_op op_catA (pv 2) (pe_tup (pa_cons pe_int pa_nil))) (pa_cons pe_str pa_nil))))) pss_nil)
      (pss_cons (ps_if (pt_not (pt_val (pe_call G3 hr (by rfl) T.isNumber.g T.isNumber.F.kp T.isNumber.b .nil pass0 (pa_cons (pe_ix ix_tup (pv 1) pe_int (fun _ _ => rfl)) (pa_cons pe_int (pa_cons (pe_glob (v := .int 20) (by rfl) hO ⟨_, rfl⟩) pa_nil))))))
        (pss_one (ps_ret (pe_tup (pa_cons (pe_op op_catA (pv 2) (pe_tup (pa_cons pe_int pa_nil))) (pa_cons pe_str pa_nil))))) pss_nil)
      (pss_cons (ps_if (pt_not (pt_val (pe_call G3 hr (by rfl) T.isNumber.g T.isNumber.F.kp T.isNumber.b .nil pass0 (pa_cons (pe_ix ix_tup (pv 1) pe_int (fun _ _ => rfl)) (pa_cons (pe_ix ix_tup (pv 1) pe_int (fun _ _ => rfl)) (pa_cons (pe_glob (v := .int 20) (by rfl) hO ⟨_, rfl⟩) pa_nil))))))
        (pss_one (ps_ret (pe_tup (pa_cons (pe_op op_catA (pv 2) (pe_tup (pa_cons pe_int pa_nil))) (pa_cons pe_str pa_nil))))) pss_nil)
      (pss_one (ps_ret pe_non))))), ?_⟩
    refine ⟨.ref pa, rfl, pa, _, 3, 3, rfl, hp, _, rfl, iteF ?_⟩
    have bad : ∀ (n : Int) (m : Str), partOk ks p = false → tRet (tTup (tCons (tOp (rCatA K) (tVar 2) (tTup (tCons (tC (.int n)) tNil))) (tCons (tC (.str m)) tNil))) ({ nx := fun _ _ => True, rt := Q } : Ends) [some (.ref a), some (.ref pa), some (.ref z)] H := fun n m hb =>
      ⟨.ref z, rfl, sz_le (by show 1 ≤ 100000; decide), fun p1 hp1 => cat_any (by rw [upd_ne (ne_of_none hz hp1)]; exact hz) upd_same (by show xs.length + 1 ≤ 100000; omega) fun p2 H2 s2 _ => ⟨sz_le (by show 2 ≤ 100000; decide), fun p3 hp3 =>
        q _ _ ((same_new hp1).trans (s2.trans (same_new hp3))) (faultRef hb)⟩⟩
    refine ⟨.ref a, rfl, rd_ixT (j := 0) rfl (SqT.of hp) rfl rfl ⟨a, ks, p.k, rfl, ha, _, rfl, ?_⟩⟩
    refine ite2 (fun e => bad 0 "kind" ?_) (fun e => ?_)
    · unfold partOk
      rw [notT e]
      rfl
    · refine rd_ixT (j := 1) rfl (SqT.of hp) rfl rfl ⟨p.a, 0, 20, rfl, _, rfl, ?_⟩
      refine ite2 (fun e2 => bad 1 "least" ?_) (fun e2 => ?_)
      · unfold partOk
        rw [notT e2, notF e]
        rfl
      · obtain ⟨n, hn, _⟩ := isNum_some (notF e2)
        refine rd_ixT (j := 2) rfl (SqT.of hp) rfl rfl (rd_ixT (j := 1) (v := .int n) rfl (SqT.of hp) rfl (by show some (optV p.a) = _; rw [hn]; rfl) ⟨p.b, n, 20, rfl, _, rfl, ?_⟩)
        have ep : partOk ks p = isNum p.b n 20 := by
          unfold partOk
          rw [notF e, notF e2, hn]
          rfl
        refine ite2 (fun e3 => bad 2 "greatest" ?_) (fun e3 => ?_)
        · rw [ep, notT e3]
        · exact q _ _ (Same.refl H) (faultNon (by rw [ep, notF e3]))
end
end Rt
set_option Elab.async false
set_option linter.all false
set_option maxRecDepth 100000
set_option maxHeartbeats 4000000
/-! source_fault, way_fault. -/
namespace Rt
open PySem PySem.Spec PyProof.Rows L2
theorem szr {n : Nat} (h : Nat.ble n 100000 = true := by rfl) : n ≤ sizeLine := sz_le (Nat.le_of_ble_eq_true h)
def srcV (s : Src) : List V := .str s.k :: s.ns.map optV
section
variable {P : Program} {w : World} {K : PySem.W.Frag} {mg : Str → Option Value} {base : Heap}
theorem rd_catT {H : Hp} {σ : L2.St} {i : Nat} {z : Addr} {xs : List V} {te : TA} {ys : List V} {R : VK} (hi : σ[i]? = some (some (.ref z))) (hz : H z = some (.tup xs)) (hl : xs.length + ys.length ≤ 100000)
    (ht : ∀ Q : List V → Hp → Prop, Q ys H → te σ H Q) (h : ∀ p H', Same H H' → R (.ref p) H') : tOp (rCatA K) (tVar i) (tTup te) σ H R :=
  ⟨.ref z, hi, ht _ ⟨sz_le (by omega), fun p hp => cat_any (by rw [upd_ne (ne_of_none hz hp)]; exact hz) upd_same hl fun p2 H2 s2 _ => h _ _ ((same_new hp).trans s2)⟩⟩
/-! ### source_fault -/
def spSourceFault : Sp := fun vs H Q _ => ∃ (a sa z : Addr) (size : Int) (ks : List Str) (s : Src), vs = [.int size, .ref a, .ref sa, .ref z] ∧ H a = some (.tup (ks.map V.str)) ∧ H sa = some (.tup (srcV s)) ∧ s.ns.length = 4 ∧ H z = some (.tup []) ∧
  ∀ H' v, Same H H' → FaultV (srcOk size ks s) v → Q v H'
theorem ok_sourceFault (T : Txt K mg) : FnOk P w K mg base CX0 2 T.sourceFault.f T.sourceFault.fd ["size", "kinds", "source", "path"] spSourceFault := by
  have G1 : FnOk P w K mg base CX0 1 T.isRow.f T.isRow.fd ["thing", "least", "most"] spIsRow := ok_isRow T
  have G2 : FnOk P w K mg base CX0 1 T.isKind.f T.isKind.fd ["kinds", "thing"] spIsKind := ok_isKind T
  have G3 : FnOk P w K mg base CX0 1 T.isNumber.f T.isNumber.fd ["thing", "low", "high"] spIsNumber := ok_isNumber T
  refine T.sourceFault.F.ok scSourceFault (fun vs H Q E h => ?_) (fun cdv A outer s H vs Q E hr h => ?_)
  · obtain ⟨a, sa, z, size, ks, s, rfl, _⟩ := h
    rfl
  · obtain ⟨a, sa, z, size, ks, s, rfl, ha, hs, hl4, hz, q⟩ := h
    obtain ⟨tO, hO⟩ := T.kOLD
    obtain ⟨tS, hS⟩ := T.kSINCE
    obtain ⟨tM, hM⟩ := T.kMANY
    refine ⟨_, pss_cons (ps_if (pt_not (pt_val (pe_call G1 hr (by rfl) T.isRow.g T.isRow.F.kp T.isRow.b .nil pass0 (pa_cons (pv 2) (pa_cons pe_int (pa_cons pe_int pa_nil)))))) (pss_one (ps_ret (pe_tup (pa_cons (pv 3) (pa_cons pe_str pa_nil))))) pss_nil)
      (pss_cons (ps_if (pt_not (pt_val (pe_call G2 hr (by rfl) T.isKind.g T.isKind.F.kp T.isKind.b .nil pass0 (pa_cons (pv 1) (pa_cons (pe_ix ix_tup (pv 2) pe_int (fun _ _ => rfl)) pa_nil)))))
        (pss_one (ps_ret (pe_tup (pa_cons (pe_op op_catA (pv 3) (pe_tup (pa_cons pe_int pa_nil))) (pa_cons pe_str pa_nil))))) pss_nil)
      (pss_cons (ps_set (i := 4) scSourceFault.nd rfl (.inl rfl) (pe_lst (pa_cons (pe_tup (pa_cons pe_str (pa_cons pe_int (pa_cons (pe_glob (v := .int 20) (by rfl) hO ⟨_, rfl⟩) pa_nil))))
          (pa_cons (pe_tup (pa_cons pe_str (pa_cons pe_int (pa_cons (pe_op op_sub (pv 0) pe_int) pa_nil))))
          (pa_cons (pe_tup (pa_cons pe_str (pa_cons pe_int (pa_cons (pe_glob (v := .int 1000000) (by rfl) hS ⟨_, rfl⟩) pa_nil))))
          (pa_cons (pe_tup (pa_cons pe_str (pa_cons pe_int (pa_cons (pe_glob (v := .int 9) (by rfl) hM ⟨_, rfl⟩) pa_nil)))) pa_nil))))))
      (pss_cons (ps_for PassesOwn.never rfl (pi_enum (by rfl) T.bEnumerate (pa_cons (pv 4) pa_nil))
          (pg_tup rfl (pgs_cons (pg_name (i := 5) scSourceFault.nd rfl (.inl rfl)) (pgs_cons (pg_tup rfl (pgs_cons (pg_name (i := 6) scSourceFault.nd rfl (.inl rfl)) (pgs_cons (pg_name (i := 7) scSourceFault.nd rfl (.inl rfl)) (pgs_cons (pg_name (i := 8) scSourceFault.nd rfl (.inl rfl)) pgs_nil)))) pgs_nil)))
        (pss_one (ps_if (pt_not (pt_val (pe_call G3 hr (by rfl) T.isNumber.g T.isNumber.F.kp T.isNumber.b .nil pass0 (pa_cons (pe_ix ix_tup (pv 2) (pe_op op_add (pv 5) pe_int) (fun _ _ => rfl)) (pa_cons (pv 7) (pa_cons (pv 8) pa_nil))))))
          (pss_one (ps_ret (pe_tup (pa_cons (pe_op op_catA (pv 3) (pe_tup (pa_cons (pe_op op_add (pv 5) pe_int) pa_nil))) (pa_cons (pv 6) pa_nil))))) pss_nil)))
      (pss_one (ps_ret pe_non))))), ?_⟩
    refine ⟨.ref sa, rfl, sa, _, 5, 5, rfl, hs, _, rfl, ?_⟩
    have hl5 : (srcV s).length = 5 := by
      show (s.ns.map optV).length + 1 = 5
      rw [List.length_map, hl4]
    rw [hl5]
    refine iteF ?_
    refine ⟨.ref a, rfl, rd_ixT (j := 0) rfl (SqT.of hs) rfl rfl ⟨a, ks, s.k, rfl, ha, _, rfl, ?_⟩⟩
    refine ite2 (fun e => ?_) (fun e => ?_)
    · refine rd_catT (xs := []) (ys := [.int 0]) rfl hz (by show 0 + 1 ≤ 100000; decide) (fun Q q => q) fun p H2 s2 => ?_
      refine ⟨szr, fun p3 hp3 => q _ _ (s2.trans (same_new hp3)) (faultRef ?_)⟩
      unfold srcOk
      rw [notT e]
      rfl
    · have eK := notF e
      refine ⟨szr, fun t0 n0 => ⟨_, rfl, _, _, rfl, rfl, szr, fun t1 n1 => ⟨szr, fun t2 n2 => ⟨szr, fun t3 n3 => ⟨szr, fun b nb => ?_⟩⟩⟩⟩⟩
      have sb := (same_new (o := .tup [V.str "age", V.int 0, V.int 20]) n0).trans ((same_new (o := .tup [V.str "place", V.int 0, V.int (size - 1)]) n1).trans
        ((same_new (o := .tup [V.str "since", V.int 0, V.int 1000000]) n2).trans ((same_new (o := .tup [V.str "many", V.int 1, V.int 9]) n3).trans (same_new (o := .lst [V.ref t0, V.ref t1, V.ref t2, V.ref t3]) nb))))
      have f3 := same_new (o := .lst [V.ref t0, V.ref t1, V.ref t2, V.ref t3]) nb
      have f2 := (same_new (o := .tup [V.str "many", V.int 1, V.int 9]) n3).trans f3
      have f1 := (same_new (o := .tup [V.str "since", V.int 0, V.int 1000000]) n2).trans f2
      have f0 := (same_new (o := .tup [V.str "place", V.int 0, V.int (size - 1)]) n1).trans f1
      have g0 := f0 t0 _ upd_same
      have g1 := f1 t1 _ upd_same
      have g2 := f2 t2 _ upd_same
      have g3 := f3 t3 _ upd_same
      clear f0 f1 f2 f3
      generalize hHb : upd (upd (upd (upd (upd H t0 (.tup [V.str "age", V.int 0, V.int 20])) t1 (.tup [V.str "place", V.int 0, V.int (size - 1)])) t2 (.tup [V.str "since", V.int 0, V.int 1000000])) t3 (.tup [V.str "many", V.int 1, V.int 9])) b (.lst [V.ref t0, V.ref t1, V.ref t2, V.ref t3]) = Hb at sb g0 g1 g2 g3
      have gb : Hb b = some (.lst [V.ref t0, V.ref t1, V.ref t2, V.ref t3]) := by
        rw [← hHb]
        exact upd_same
      have key : ∀ i v, i < 4 → [V.ref t0, V.ref t1, V.ref t2, V.ref t3][i]? = some v → ∃ t m, v = .ref t ∧ Hb t = some (.tup [.str m, .int (lows.getD i 0), .int ((highs size).getD i 0)]) := fun i v hi hv => by
        match i, hi with
        | 0, _ => exact ⟨t0, "age", (Option.some.inj hv).symm, g0⟩
        | 1, _ => exact ⟨t1, "place", (Option.some.inj hv).symm, g1⟩
        | 2, _ => exact ⟨t2, "since", (Option.some.inj hv).symm, g2⟩
        | 3, _ => exact ⟨t3, "many", (Option.some.inj hv).symm, g3⟩
      refine ⟨.ref b, rfl, b, _, rfl, SqL.of gb, for_it walk_enum (fun i σ H2 => ∃ y1 y2 y3 y4, σ = [some (.int size), some (.ref a), some (.ref sa), some (.ref z), some (.ref b), y1, y2, y3, y4] ∧ Same Hb H2 ∧ upTo (srcGood size s) i = true)
        ⟨none, none, none, none, rfl, Same.refl Hb, rfl⟩ (fun i σ H2 _ ⟨_, _, _, _, _, s2, _⟩ => SqL.of (s2 _ _ gb)) ?_ ?_⟩
      · rintro i x σ H2 H3 hi ⟨y1, y2, y3, y4, rfl, s2, u⟩ ⟨T1, v1, v2, rfl, nT, rfl, e1, e2⟩
        have hi4 : i < 4 := hi
        have ev1 : v1 = .int (i : Nat) := (Option.some.inj e1).symm
        subst ev1
        obtain ⟨t, m, rfl, ht⟩ := key i v2 hi4 e2
        have s3 := s2.trans (same_new (o := .tup [V.int (i : Nat), V.ref t]) nT)
        refine ⟨T1, [V.int (i : Nat), V.ref t], rfl, SqT.of upd_same, rfl, _, _, rfl, _, _, rfl, t, _, rfl, SqT.of (s3 _ _ ht), rfl, _, _, rfl, _, _, rfl, _, _, rfl, rfl, rfl, ?_⟩
        obtain ⟨o, ho⟩ : ∃ o, s.ns[i]? = some o := ⟨s.ns[i]'(by omega), List.getElem?_eq_getElem _⟩
        refine ⟨.ref sa, rfl, _, rfl, _, _, rfl, rfl, sa, srcV s, _, optV o, rfl, rfl, SqT.of ((sb.trans s3) _ _ hs), at_of (j := i + 1) (by omega) (by show (s.ns.map optV)[i]? = _; exact at_map optV ho), _, rfl, _, rfl, o, _, _, rfl, _, rfl, ?_⟩
        have eg : srcGood size s i = isNum o (lows.getD i 0) ((highs size).getD i 0) := by
          unfold srcGood
          rw [getD_at ho]
        refine ite2 (fun e3 => ?_) (fun e3 => ?_)
        · refine ⟨.ref z, rfl, _, rfl, _, _, rfl, rfl, szr, fun p1 hp1 => cat_any (xs := []) (by rw [upd_ne (ne_of_none ((sb.trans s3) _ _ hz) hp1)]; exact (sb.trans s3) _ _ hz) upd_same (by show 0 + 1 ≤ 100000; decide) fun p2 H4 s4 _ => ?_⟩
          refine ⟨_, rfl, szr, fun p3 hp3 => q _ _ ((sb.trans s3).trans ((same_new hp1).trans (s4.trans (same_new hp3)))) (faultRef ?_)⟩
          unfold srcOk
          rw [upTo_false hi4 (eg.trans (notT e3)), Bool.and_false]
        · exact ⟨_, _, _, _, rfl, s3, by rw [upTo_succ, u, eg, notF e3]; rfl⟩
      · rintro σ H2 ⟨y1, y2, y3, y4, rfl, s2, u⟩
        have u : upTo (srcGood size s) 4 = true := u
        exact q _ _ (sb.trans s2) (faultNon (by unfold srcOk; rw [eK, u]; rfl))
end
end Rt
set_option Elab.async false
set_option linter.all false
set_option maxRecDepth 100000
set_option maxHeartbeats 4000000
/-! way_fault. -/
namespace Rt
open PySem PySem.Spec PyProof.Rows L2
/-- the parts at the addresses prs -/
def PrtsAt (H : Hp) (prs : List Addr) (ps : List Prt) : Prop := prs.length = ps.length ∧ ∀ (j : Nat) (p : Prt), ps[j]? = some p → ∃ a, prs[j]? = some a ∧ H a = some (.tup (prtV p))
theorem PrtsAt.same {H H' : Hp} {prs : List Addr} {ps : List Prt} (e : Same H H') (h : PrtsAt H prs ps) : PrtsAt H' prs ps :=
  ⟨h.1, fun j p hp => by
    obtain ⟨a, h1, h2⟩ := h.2 j p hp
    exact ⟨a, h1, e _ _ h2⟩⟩
def wyV (y : Wy) (pt ht : Addr) : List V := [.str y.k, .ref pt, .str y.keeps, .ref ht, optV y.w]
/-- the way at wa, its parts and hours at pt and ht -/
def WyAt (H : Hp) (wa : Addr) (y : Wy) : Prop := ∃ (pt ht : Addr) (prs : List Addr), H wa = some (.tup (wyV y pt ht)) ∧ H pt = some (.tup (prs.map V.ref)) ∧ PrtsAt H prs y.ps ∧ H ht = some (.tup (y.hs.map optV))
section
variable {P : Program} {w : World} {K : PySem.W.Frag} {mg : Str → Option Value} {base : Heap}
theorem rd_isiIx {H : Hp} {σ : L2.St} {i j : Nat} {b : Addr} {zs : List V} {x : Str} {n : Int} {R : VK} (h : σ[i]? = some (some (.ref b))) (hs : SqT K H b zs) (e : n = (j : Int)) (hv : zs[j]? = some (.str x)) (r : R (.bl true) H) :
    tCB (rIsi K) (tCons (tOp (rIxT K) (tVar i) (tC (.int n))) (tCons (tC (.ty "str")) tNil)) σ H R :=
  ⟨_, h, b, zs, n, .str x, rfl, rfl, hs, at_of e hv, _, _, _, _, true, rfl, .ty "str", .base (.str x), kit_ty (by decide +kernel), r⟩
def spWayFault : Sp := fun vs H Q _ => ∃ (a wa z : Addr) (size : Int) (ks : List Str) (y : Wy), vs = [.int size, .ref a, .ref wa, .ref z] ∧ H a = some (.tup (ks.map V.str)) ∧ WyAt H wa y ∧ H z = some (.tup []) ∧
  ∀ H' v, Same H H' → FaultV (wayOk size ks y) v → Q v H'
theorem ok_wayFault (T : Txt K mg) : FnOk P w K mg base CX0 3 T.wayFault.f T.wayFault.fd ["size", "kinds", "way", "path"] spWayFault := by
  have G1 : FnOk P w K mg base CX0 1 T.isRow.f T.isRow.fd ["thing", "least", "most"] spIsRow := ok_isRow T
  have G2 : FnOk P w K mg base CX0 1 T.isKind.f T.isKind.fd ["kinds", "thing"] spIsKind := ok_isKind T
  have G3 : FnOk P w K mg base CX0 1 T.isNumber.f T.isNumber.fd ["thing", "low", "high"] spIsNumber := ok_isNumber T
  have G4 : FnOk P w K mg base CX0 2 T.partFault.f T.partFault.fd ["kinds", "part", "path"] spPartFault := ok_partFault T
  have G5 : FnOk P w K mg base CX0 2 T.areHours.f T.areHours.fd ["size", "thing"] spAreHours := ok_areHours T
  refine T.wayFault.F.ok scWayFault (fun vs H Q E h => ?_) (fun cdv A outer s H vs Q E hr h => ?_)
  · obtain ⟨a, wa, z, size, ks, y, rfl, _⟩ := h
    rfl
  · obtain ⟨a, wa, z, size, ks, y, rfl, ha, ⟨pt, ht, prs, hw, hp, hP, hH⟩, hz, q⟩ := h
    have hr1 : Room 1 _ := hr.mono (by decide)
    obtain ⟨tP, kP⟩ := T.kPARTS
    obtain ⟨tW, kW⟩ := T.kWAIT
    obtain ⟨tO, kO⟩ := T.kOLDEST
    obtain ⟨tY, kY⟩ := T.kYOUNGEST
    refine ⟨_, pss_cons (ps_if (pt_not (pt_val (pe_call G1 hr1 (by rfl) T.isRow.g T.isRow.F.kp T.isRow.b .nil pass0 (pa_cons (pv 2) (pa_cons pe_int (pa_cons pe_int pa_nil)))))) (pss_one (ps_ret (pe_tup (pa_cons (pv 3) (pa_cons pe_str pa_nil))))) pss_nil)
      (pss_cons (ps_if (pt_not (pt_val (pe_call G2 hr1 (by rfl) T.isKind.g T.isKind.F.kp T.isKind.b .nil pass0 (pa_cons (pv 1) (pa_cons (pe_ix ix_tup (pv 2) pe_int (fun _ _ => rfl)) pa_nil)))))
        (pss_one (ps_ret (pe_tup (pa_cons (pe_op op_catA (pv 3) (pe_tup (pa_cons pe_int pa_nil))) (pa_cons pe_str pa_nil))))) pss_nil)
      (pss_cons (ps_if (pt_not (pt_val (pe_call G1 hr1 (by rfl) T.isRow.g T.isRow.F.kp T.isRow.b .nil pass0 (pa_cons (pe_ix ix_tup (pv 2) pe_int (fun _ _ => rfl)) (pa_cons pe_int (pa_cons (pe_glob (v := .int 3) (by rfl) kP ⟨_, rfl⟩) pa_nil))))))
        (pss_one (ps_ret (pe_tup (pa_cons (pe_op op_catA (pv 3) (pe_tup (pa_cons pe_int pa_nil))) (pa_cons pe_str pa_nil))))) pss_nil)
      (pss_cons (ps_for PassesOwn.never rfl (pi_enumT (by rfl) T.bEnumerate (pa_cons (pe_ix ix_tup (pv 2) pe_int (fun _ _ => rfl)) pa_nil))
          (pg_tup rfl (pgs_cons (pg_name (i := 4) scWayFault.nd rfl (.inl rfl)) (pgs_cons (pg_name (i := 5) scWayFault.nd rfl (.inl rfl)) pgs_nil)))
        (pss_cons (ps_set (i := 6) scWayFault.nd rfl (.inl rfl) (pe_call G4 hr (by rfl) T.partFault.g T.partFault.F.kp T.partFault.b .nil pass0 (pa_cons (pv 1) (pa_cons (pv 5) (pa_cons (pe_op op_catA (pv 3) (pe_tup (pa_cons pe_int (pa_cons (pv 4) pa_nil)))) pa_nil)))))
        (pss_one (ps_if (pt_cmpR op_notN (pv 6) pe_non (nomark _)) (pss_one (ps_ret (pv 6))) pss_nil))))
      (pss_cons (ps_if (PW.pt (pw_or (pt_not (pt_val (pe_callB call_isi (by rfl) T.bIsinstance boot_isinstance (pa_cons (pe_ix ix_tup (pv 2) pe_int (fun _ _ => rfl)) (pa_cons (pe_bltn (v := .ty "str") (by rfl) T.bStr boot_str rfl) pa_nil)))))
          (pw_or1 (pt_cmpR op_notIn_seq (pe_ix ix_tup (pv 2) pe_int (fun _ _ => rfl)) (pe_tup (pa_cons (pe_glob (v := .str "oldest") (by rfl) kO ⟨_, rfl⟩) (pa_cons (pe_glob (v := .str "youngest") (by rfl) kY ⟨_, rfl⟩) pa_nil))) (by rfl)))))
        (pss_one (ps_ret (pe_tup (pa_cons (pe_op op_catA (pv 3) (pe_tup (pa_cons pe_int pa_nil))) (pa_cons pe_str pa_nil))))) pss_nil)
      (pss_cons (ps_if (pt_not (pt_val (pe_call G5 hr (by rfl) T.areHours.g T.areHours.F.kp T.areHours.b .nil pass0 (pa_cons (pv 0) (pa_cons (pe_ix ix_tup (pv 2) pe_int (fun _ _ => rfl)) pa_nil)))))
        (pss_one (ps_ret (pe_tup (pa_cons (pe_op op_catA (pv 3) (pe_tup (pa_cons pe_int pa_nil))) (pa_cons pe_str pa_nil))))) pss_nil)
      (pss_cons (ps_if (pt_not (pt_val (pe_call G3 hr1 (by rfl) T.isNumber.g T.isNumber.F.kp T.isNumber.b .nil pass0 (pa_cons (pe_ix ix_tup (pv 2) pe_int (fun _ _ => rfl)) (pa_cons pe_int (pa_cons (pe_glob (v := .int 6) (by rfl) kW ⟨_, rfl⟩) pa_nil))))))
        (pss_one (ps_ret (pe_tup (pa_cons (pe_op op_catA (pv 3) (pe_tup (pa_cons pe_int pa_nil))) (pa_cons pe_str pa_nil))))) pss_nil)
      (pss_one (ps_ret pe_non)))))))), ?_⟩
    have bad : ∀ (n : Int) (m : Str) (D : Ends) (y4 y5 y6 : Option V) (H2 : Hp), D.rt = Q → wayOk size ks y = false → Same H H2 → tRet (tTup (tCons (tOp (rCatA K) (tVar 3) (tTup (tCons (tC (.int n)) tNil))) (tCons (tC (.str m)) tNil))) D [some (.int size), some (.ref a), some (.ref wa), some (.ref z), y4, y5, y6] H2 := fun n m D y4 y5 y6 H2 eD hb s2 => by
      refine rd_catT (xs := []) (ys := [.int n]) rfl (s2 _ _ hz) (by show 0 + 1 ≤ 100000; decide) (fun Q q => q) fun p H3 s3 => ?_
      refine ⟨szr, fun p3 hp3 => ?_⟩
      show D.rt _ _
      rw [eD]
      exact q _ _ (s2.trans (s3.trans (same_new hp3))) (faultRef hb)
    have SW : ∀ {H2 : Hp}, Same H H2 → SqT K H2 wa (wyV y pt ht) := fun s2 => SqT.of (s2 _ _ hw)
    refine ⟨.ref wa, rfl, wa, _, 5, 5, rfl, hw, _, rfl, iteF ?_⟩
    refine ⟨.ref a, rfl, rd_ixT (j := 0) rfl (SW (Same.refl H)) rfl rfl ⟨a, ks, y.k, rfl, ha, _, rfl, ?_⟩⟩
    refine ite2 (fun e => bad 0 "kind" _ _ _ _ H rfl ?_ (Same.refl H)) (fun e => ?_)
    · unfold wayOk
      rw [notT e]
      rfl
    have eK := notF e
    refine rd_ixT (j := 1) rfl (SW (Same.refl H)) rfl rfl ⟨pt, _, 1, 3, rfl, hp, _, rfl, ?_⟩
    rw [List.length_map, hP.1]
    refine ite2 (fun e => bad 1 "parts" _ _ _ _ H rfl ?_ (Same.refl H)) (fun e => ?_)
    · unfold wayOk
      rw [eK, notT e]
      rfl
    have eP := notF e
    refine rd_ixT (j := 1) rfl (SW (Same.refl H)) rfl rfl ⟨pt, _, rfl, SqT.of hp, for_it walk_enumT (fun i σ H2 => ∃ y4 y5 y6, σ = [some (.int size), some (.ref a), some (.ref wa), some (.ref z), y4, y5, y6] ∧ Same H H2 ∧ upTo (fun i => partOk ks (y.ps.getD i noPart)) i = true)
      ⟨none, none, none, rfl, Same.refl H, rfl⟩ (fun i σ H2 _ ⟨_, _, _, _, s2, _⟩ => SqT.of (s2 _ _ hp)) ?_ ?_⟩
    · rintro i x σ H2 H3 hi ⟨y4, y5, y6, rfl, s2, u⟩ ⟨T1, v1, v2, rfl, nT, rfl, e1, e2⟩
      rw [List.length_map, hP.1] at hi
      have ev1 : v1 = .int (i : Nat) := (Option.some.inj e1).symm
      subst ev1
      obtain ⟨pr, rfl, hpr⟩ := map_at e2
      obtain ⟨p, hpi⟩ : ∃ p, y.ps[i]? = some p := ⟨y.ps[i], List.getElem?_eq_getElem hi⟩
      obtain ⟨pa, h1, h2⟩ := hP.2 i p hpi
      obtain rfl : pa = pr := Option.some.inj (h1.symm.trans hpr)
      have s3 := s2.trans (same_new (o := .tup [V.int (i : Nat), V.ref pa]) nT)
      refine ⟨T1, [V.int (i : Nat), V.ref pa], rfl, SqT.of upd_same, rfl, _, _, rfl, _, _, rfl, rfl, ?_⟩
      refine ⟨.ref a, rfl, .ref pa, rfl, .ref z, rfl, _, rfl, szr, fun p1 hp1 => cat_any (xs := []) (by rw [upd_ne (ne_of_none (s3 _ _ hz) hp1)]; exact s3 _ _ hz) upd_same (by show 0 + 2 ≤ 100000; decide) fun p2 H4 s4 e4 => ?_⟩
      have s5 := s3.trans ((same_new hp1).trans s4)
      refine ⟨a, pa, p2, ks, p, _, rfl, s5 _ _ ha, s5 _ _ h2, e4, by show 2 ≤ 1000; decide, fun H5 v s6 fv => ?_⟩
      refine ⟨v, rfl, rfl, _, rfl, ?_⟩
      rw [show decide (v = V.non) = partOk ks p from fv]
      refine ite2 (fun e3 => ?_) (fun e3 => ?_)
      · refine ⟨v, rfl, q _ _ (s5.trans s6) ?_⟩
        show decide (v = V.non) = _
        rw [show decide (v = V.non) = partOk ks p from fv, notT e3]
        unfold wayOk
        rw [upTo_false hi (by rw [getD_at hpi]; exact notT e3)]
        simp
      · exact ⟨_, _, _, rfl, s5.trans s6, by rw [upTo_succ, u, getD_at hpi, notF e3]; rfl⟩
    · rintro σ H2 ⟨y4, y5, y6, rfl, s2, u⟩
      rw [List.length_map, hP.1] at u
      refine rd_isiIx (j := 2) rfl (SW s2) rfl rfl ⟨_, rfl, iteF ?_⟩
      refine rd_ixT (j := 2) rfl (SW s2) rfl rfl ⟨szr, fun p1 hp1 => ⟨p1, _, rfl, .inr (SqT.of upd_same), rfl, rfl, _, rfl, ?_⟩⟩
      have s3 := s2.trans (same_new (o := .tup [V.str "oldest", V.str "youngest"]) hp1)
      refine ite2 (fun e => bad 2 "keeps" _ _ _ _ _ rfl ?_ s3) (fun e => ?_)
      · unfold wayOk
        rw [show keepsOk y.keeps = false from notT e]
        simp
      have eE : keepsOk y.keeps = true := notF e
      refine ⟨_, rfl, rd_ixT (j := 3) rfl (SW s3) rfl rfl ⟨ht, size, y.hs, rfl, s3 _ _ hH, fun H4 s4 => ⟨_, rfl, ?_⟩⟩⟩
      have s5 := s3.trans s4
      refine ite2 (fun e => bad 3 "hours" _ _ _ _ _ rfl ?_ s5) (fun e => ?_)
      · unfold wayOk
        rw [notT e]
        simp
      have eH := notF e
      refine rd_ixT (j := 4) rfl (SW s5) rfl rfl ⟨y.w, 1, 6, rfl, _, rfl, ?_⟩
      refine ite2 (fun e => bad 4 "wait" _ _ _ _ _ rfl ?_ s5) (fun e => ?_)
      · unfold wayOk
        rw [notT e]
        simp
      · exact q _ _ s5 (faultNon (by unfold wayOk; rw [eK, eP, u, eE, eH, notF e]; rfl))
end
end Rt
set_option Elab.async false
set_option linter.all false
set_option maxRecDepth 100000
set_option maxHeartbeats 4000000
/-! number_in, numbers_in, hours_in, parts_in. -/
namespace Rt
open PySem PySem.Spec PyProof.Rows L2
/-- all but the lists is kept -/
def NoL (H H' : Hp) : Prop := ∀ b o, H b = some o → (∀ xs, o ≠ .lst xs) → H' b = some o
theorem NoL.of {H H' : Hp} (e : Same H H') : NoL H H' := fun b o h _ => e b o h
theorem NoL.lst {H : Hp} {D : Addr} {xs ys : List V} (h : H D = some (.lst xs)) : NoL H (upd H D (.lst ys)) := fun b o e n => by
  have hb : b ≠ D := fun z => by
    rw [z, h] at e
    exact n xs (Option.some.inj e).symm
  rw [upd_ne hb]
  exact e
/-! ### a comprehension whose items are told by a relation that leans on no list -/
theorem lc_rel {J : It} {n : Nat} {G : Hp → Prop} {Y : Nat → Hp → V → Hp → Prop} (w : Walk J n G Y) {g : TG} {te : TE} {vs : List Nat} {σ : L2.St} {H1 : Hp} {D : Addr} {Qd : Hp → Prop} (R : Nat → V → Hp → Prop) (hR : ∀ i v H H', NoL H H' → R i v H → R i v H') (hz : n ≤ 100000) (nD : H1 D = none)
    (hG : ∀ H, Same H1 H → G H) (hY : ∀ i H x H', i < n → Y i H x H' → Same H H')
    (hs : ∀ (i : Nat) (x : V) (H H' : Hp), i < n → Same H1 H → Y i H x H' → ∀ Q : VK, (∀ y H4, R i y H4 → Same H' H4 → Q y H4) → g x (wipe σ vs) H' fun σ2 H2 => wipe σ2 vs = wipe σ vs ∧ te σ2 H2 Q)
    (hd : ∀ H ys, Same H1 H → H D = some (.lst ys) → ys.length = n → (∀ (i : Nat) (v : V), ys[i]? = some v → R i v H) → Qd H) :
    ∃ W : Nat → Nat → Hp → Prop, (∃ m, W 0 m (upd H1 D (.lst []))) ∧ ∀ i m H, W i m H →
      (J.stop i H ∧ Qd H) ∨ (J.go i H ∧ ∃ Nx : Hp → Prop, (∀ H', Nx H' → ∃ m', m' < m ∧ W (i + 1) m' H') ∧ ∀ x H', J.yld i H x H' → g x (wipe σ vs) H' fun σ2 H2 => wipe σ2 vs = wipe σ vs ∧ tYes σ2 H2 fun b H3 =>
        if b = true then te σ2 H3 fun y H4 => ∃ acc, H4 D = some (.lst acc) ∧ acc.length < sizeLine ∧ Nx (upd H4 D (.lst (acc ++ [y]))) else Nx H3) := by
  have sl : (100000 : Nat) < sizeLine := by decide
  refine lc_it w (fun i H => Same H1 H ∧ ∃ ys : List V, H D = some (.lst ys) ∧ ys.length = i ∧ ∀ (j : Nat) (v : V), ys[j]? = some v → R j v H) ⟨same_new nD, [], upd_same, rfl, fun j v h => by simp at h⟩
    (fun i H _ p => hG H p.1) (fun i x H H' hi ⟨s1, ys, eD, el, hr⟩ y => ?_) fun H ⟨s1, ys, eD, el, hr⟩ => hd H ys s1 eD el hr
  refine hs i x H H' hi s1 y _ fun v H4 hv s4 => ?_
  have s2 := (hY i H x H' hi y).trans s4
  have e4 := s2 _ _ eD
  refine ⟨ys, e4, by omega, (s1.trans s2).wr nD, ys ++ [v], upd_same, by rw [List.length_append, el]; rfl, fun j u hu => ?_⟩
  have n4 : NoL H4 (upd H4 D (.lst (ys ++ [v]))) := NoL.lst e4
  by_cases hj : j < ys.length
  · rw [List.getElem?_append_left hj] at hu
    exact hR j u _ _ n4 (hR j u _ _ (NoL.of s2) (hr j u hu))
  · rw [List.getElem?_append_right (by omega)] at hu
    have hj2 : j - ys.length = 0 := by
      by_cases c : j - ys.length = 0
      · exact c
      · rw [List.getElem?_eq_none (by simp; omega)] at hu
        cases hu
    rw [hj2] at hu
    have eu : v = u := Option.some.inj hu
    subst eu
    have ej : j = i := by omega
    subst ej
    exact hR j v _ _ n4 hv
/-! ### pieces of a text are no longer than it -/
theorem join_part (sep : Str) : ∀ (ps : List Str) (p : Str), p ∈ ps → p.length ≤ (Str.join sep ps).length
  | [], p, h => by cases h
  | [x], p, h => by
    rw [List.mem_singleton.mp h]
    exact Nat.le_refl _
  | x :: y :: r, p, h => by
    have e : (Str.join sep (x :: y :: r)).length = x.length + (sep.length + (Str.join sep (y :: r)).length) := by
      rw [TL.len_tl, TL.tl_join, TL.len_tl, TL.len_tl sep, TL.len_tl (Str.join sep (y :: r)), TL.tl_join]
      show (TL.tl x ++ (TL.tl sep ++ TL.joinL (TL.tl sep) ((y :: r).map TL.tl))).length = _
      rw [List.length_append, List.length_append]
    rw [e]
    rcases List.mem_cons.mp h with rfl | h
    · omega
    · have q := join_part sep (y :: r) p h
      omega
theorem split_part {x y p : Str} (h : p ∈ Txt.split x y) : p.length ≤ x.length := by
  have q := join_part y _ p h
  rw [StrLaws.join_split] at q
  exact q
section
variable {P : Program} {w : World} {K : PySem.W.Frag} {mg : Str → Option Value} {base : Heap}
/-! ### number_in -/
def spNumberIn : Sp := fun vs H Q _ => ∃ z : Str, vs = [.str z] ∧ z.length ≤ 10000 ∧ ∀ H', Same H H' → Q (optV (numIn z)) H'
theorem ok_numberIn (T : Txt K mg) : FnOk P w K mg base CX0 1 T.numberIn.f T.numberIn.fd ["word"] spNumberIn := by
  refine T.numberIn.F.ok scNumberIn (fun vs H Q E h => ?_) (fun cdv A outer s H vs Q E hr h => ?_)
  · obtain ⟨z, rfl, _⟩ := h
    rfl
  · obtain ⟨z, rfl, hz, q⟩ := h
    obtain ⟨tL, hL⟩ := T.kLONGEST
    refine ⟨_, pss_cons (ps_if (PW.pt (pw_or (pt_not (pt_chain op_le op_le pe_int (pe_callB call_len_str (by rfl) T.bLen PySem.boot_len (pa_cons (pv 0) pa_nil)) (pe_glob (v := .int 7) (by rfl) hL ⟨_, rfl⟩)))
        (pw_or1 (pt_not (pt_val (pe_callB (cr_all rfl) (by rfl) T.bAll boot_all (pa_cons (pe_lc (own := [("sign", 1)]) (g := gName 1) (tt := tYes) rfl scNumberIn.nd (pi_str (pv 0)) (blkOk_by (N := nNumberIn) (sc := defScope sNumberIn) (by decide +kernel))
          (fun _ _ _ _ _ => pg_name (i := 1) scNumberIn.nd rfl (Or.inl rfl)) (fun _ _ _ _ _ => pts_nil) (fun _ _ _ _ _ => pe_cmpR op_in_sign (pv 1) pe_str (by rfl))) pa_nil)))))))
        (pss_one (ps_ret pe_non)) pss_nil)
      (pss_one (ps_ret (pe_ifExp (PW.pt (pw_or (pt_cmpR op_eq (pv 0) pe_str (nomark _)) (pw_or1 (pt_cmpR op_ne (pe_ix ix_str (pv 0) pe_int (fun _ _ => rfl)) pe_str (nomark _)))))
        (pe_callTy call_int_str (by rfl) T.bInt boot_int (pa_cons (pv 0) pa_nil)) pe_non))), ?_⟩
    have zl : z.length ≤ sizeLine := sz_le (by omega)
    have no : ¬ (short 1 7 z = true ∧ allIn digs z = true ∧ canon z = true) → numIn z = none := fun h => if_neg h
    have bad : ∀ H', Same H H' → numIn z = none → Q .non H' := fun H' s2 e => by
      have q2 := q H' s2
      rw [e] at q2
      exact q2
    refine ⟨.str z, rfl, z, rfl, zl, _, _, rfl, rfl, _, rfl, ?_⟩
    refine ite2 (fun c1 => ?_) (fun c1 => ?_)
    rotate_left
    · refine ⟨_, rfl, iteT (iteT (bad H (Same.refl H) (no fun n => ?_)))⟩
      have n1 := n.1
      unfold short at n1
      rw [Bool.and_eq_true] at n1
      exact c1 n1.1
    refine ⟨_, _, rfl, rfl, _, rfl, ?_⟩
    refine ite2 (fun c2 => ?_) (fun c2 => ?_)
    · refine iteT (bad H (Same.refl H) (no fun n => ?_))
      have n1 := n.1
      unfold short at n1
      rw [Bool.and_eq_true] at n1
      have c2 := notT c2
      rw [n1.2] at c2
      cases c2
    have hsh : short 1 7 z = true := by
      unfold short
      rw [Bool.and_eq_true]
      exact ⟨c1, notF c2⟩
    refine ⟨.str z, rfl, z, rfl, fun D nD => lc_map walk_str (z.cps.toList.map fun c => V.bl (decide (c ∈ digs.cps.toList))) (by simp) (by rw [show z.cps.size = z.length from rfl]; omega) nD (fun _ _ => trivial) (fun i H x H' _ y => by rw [y.1]; exact Same.refl _) (fun i x H2 H3 hi s2 y Q2 q2 => ?_) fun H2 s2 e2 => ?_⟩
    · obtain ⟨rfl, c, hc, rfl⟩ := y
      refine ⟨rfl, _, rfl, c, digs, rfl, rfl, q2 _ _ ?_ (Same.refl _)⟩
      rw [List.getElem?_map, Array.getElem?_toList, hc]
      rfl
    refine ⟨D, z.cps.toList.map fun c => decide (c ∈ digs.cps.toList), rfl, SqL.of (by rw [e2, List.map_map]; rfl), _, rfl, ?_⟩
    have e3 : (z.cps.toList.map fun c => decide (c ∈ digs.cps.toList)).all id = allIn digs z := by
      unfold allIn
      rw [List.all_map]
      rfl
    rw [e3]
    refine ite2 (fun c3 => ?_) (fun c3 => ?_)
    · refine bad H2 s2 (no fun n => ?_)
      have c3 := notT c3
      rw [n.2.1] at c3
      cases c3
    have hall := notF c3
    obtain ⟨hint, h640⟩ := numIn_int hsh hall
    have good : canon z = true → ∀ H', Same H H' → Q (.int (NumText.digitsVal z.cps.toList : Nat)) H' := fun hc H' s' => by
      have q2 := q H' s'
      rw [show numIn z = some ((NumText.digitsVal z.cps.toList : Nat) : Int) from if_pos ⟨hsh, hall, hc⟩] at q2
      exact q2
    obtain ⟨c0, r0, hz0⟩ : ∃ c r, z.cps.toList = c :: r := by
      cases e : z.cps.toList with
      | nil =>
        have h0 : z.length = 0 := by
          rw [TL.len_tl]
          show z.cps.toList.length = 0
          rw [e]
          rfl
        have := of_decide_eq_true c1
        omega
      | cons c r => exact ⟨c, r, rfl⟩
    have hcan : canon z = (decide (V.str z = V.str "0") || !decide (V.str ⟨#[c0]⟩ = V.str "0")) := by
      unfold canon
      rw [hz0]
      rfl
    refine ⟨.str z, rfl, rfl, _, rfl, ?_⟩
    refine ite2 (fun c4 => ?_) (fun c4 => ?_)
    · refine iteT ⟨.str z, rfl, z, _, rfl, hint, h640, good ?_ H2 s2⟩
      rw [hcan, c4]
      rfl
    · refine ⟨.str z, rfl, z, 0, c0, rfl, rfl, zl, atI_nat (j := 0) (by rw [hz0]; rfl), rfl, _, rfl, ?_⟩
      refine ite2 (fun c5 => ?_) (fun c5 => ?_)
      · refine ⟨.str z, rfl, z, _, rfl, hint, h640, good ?_ H2 s2⟩
        rw [hcan, c5, Bool.or_true]
      · refine bad H2 s2 (no fun n => ?_)
        have n3 := n.2.2
        rw [hcan, Bool.or_eq_true] at n3
        rcases n3 with n3 | n3
        · exact c4 n3
        · exact c5 n3
/-! ### numbers_in -/
def spNumbersIn (K : PySem.W.Frag) : Sp := fun vs H Q _ => ∃ (a : Addr) (ws : List Str), vs = [.ref a] ∧ SqL K H a (ws.map V.str) ∧ (∀ z ∈ ws, z.length ≤ 10000) ∧ ws.length ≤ 100000 ∧
  ∀ H' p, Same H H' → H' p = some (.tup ((ws.map numIn).map optV)) → Q (.ref p) H'
theorem ok_numbersIn (T : Txt K mg) : FnOk P w K mg base CX0 2 T.numbersIn.f T.numbersIn.fd ["words"] (spNumbersIn K) := by
  have G1 : FnOk P w K mg base CX0 1 T.numberIn.f T.numberIn.fd ["word"] spNumberIn := ok_numberIn T
  refine T.numbersIn.F.ok scNumbersIn (fun vs H Q E h => ?_) (fun cdv A outer s H vs Q E hr h => ?_)
  · obtain ⟨a, ws, rfl, _⟩ := h
    rfl
  · obtain ⟨a, ws, rfl, ha, hz, hl, q⟩ := h
    refine ⟨_, pss_one (ps_ret (pe_callTy call_tuple_of (by rfl) T.bTuple boot_tuple (pa_cons (pe_lc (own := [("word", 1)]) (g := gName 1) (tt := tYes) rfl scNumbersIn.nd (pi_list (pv 0)) (blkOk_by (N := nNumbersIn) (sc := defScope sNumbersIn) (by decide +kernel))
          (fun _ _ _ _ _ => pg_name (i := 1) scNumbersIn.nd rfl (Or.inl rfl)) (fun _ _ _ _ _ => pts_nil) (fun _ _ _ _ _ => pe_call G1 hr (by rfl) T.numberIn.g T.numberIn.F.kp T.numberIn.b .nil pass0 (pa_cons (pv 1) pa_nil))) pa_nil))), ?_⟩
    refine ⟨.ref a, rfl, a, rfl, ⟨_, ha⟩, fun D nD => lc_map (walk_list (xs := ws.map V.str)) ((ws.map numIn).map optV) (by simp) (by simpa using hl) nD (fun H2 s2 => s2.seq ha) yAt_same (fun i x H2 H3 hi s2 y Q2 q2 => ?_) fun H2 s2 e2 => ?_⟩
    · obtain ⟨rfl, hx⟩ := y
      obtain ⟨z, rfl, hzi⟩ := strs_at hx
      refine ⟨rfl, _, rfl, z, rfl, hz z (List.mem_of_getElem? hzi), fun H4 s4 => q2 _ _ ?_ s4⟩
      rw [List.getElem?_map, List.getElem?_map, hzi]
      rfl
    · exact ⟨D, _, rfl, .inl ⟨SqL.of e2, fun l hl => q _ _ (s2.trans (same_new hl)) upd_same⟩⟩
/-! ### hours_in -/
def spHoursIn : Sp := fun vs H Q _ => ∃ z : Str, vs = [.str z] ∧ z.length ≤ 10000 ∧ ∀ H' p, Same H H' → H' p = some (.tup ((hoursIn z).map optV)) → Q (.ref p) H'
theorem ok_hoursIn (T : Txt K mg) : FnOk P w K mg base CX0 3 T.hoursIn.f T.hoursIn.fd ["word"] spHoursIn := by
  have G1 : FnOk P w K mg base CX0 2 T.numbersIn.f T.numbersIn.fd ["words"] (spNumbersIn K) := ok_numbersIn T
  refine T.hoursIn.F.ok scHoursIn (fun vs H Q E h => ?_) (fun cdv A outer s H vs Q E hr h => ?_)
  · obtain ⟨z, rfl, _⟩ := h
    rfl
  · obtain ⟨z, rfl, hz, q⟩ := h
    obtain ⟨tN, hN⟩ := T.kNOHOURS
    refine ⟨_, pss_one (ps_ret (pe_ifExp (pt_cmpR op_eq (pv 0) (pe_glob (v := .str "-") (by rfl) hN ⟨_, rfl⟩) (nomark _)) (pe_tup pa_nil)
      (pe_call G1 hr (by rfl) T.numbersIn.g T.numbersIn.F.kp T.numbersIn.b .nil pass0 (pa_cons (pe_split (pv 0) pe_str) pa_nil)))), ?_⟩
    refine ⟨.str z, rfl, rfl, _, rfl, ?_⟩
    refine ite2 (fun c => ?_) (fun c => ?_)
    · have ez : z = "-" := V.str.inj (of_decide_eq_true c)
      refine ⟨szr, fun p hp => q _ p (same_new hp) ?_⟩
      rw [upd_same]
      unfold hoursIn
      rw [if_pos ez]
      rfl
    · have ez : ¬ z = "-" := fun e => c (by rw [e]; exact decide_eq_true rfl)
      refine ⟨.str z, rfl, ⟨z, rfl⟩, z, ",", rfl, rfl, by decide +kernel, sz_le (by omega), fun p hp => ?_⟩
      refine ⟨p, Txt.split z ",", rfl, SqL.of upd_same, fun x hx => Nat.le_trans (split_part hx) hz, Nat.le_trans (split_le z ",") (by omega), fun H2 p2 s2 e2 => q _ p2 ((same_new hp).trans s2) ?_⟩
      rw [e2]
      unfold hoursIn
      rw [if_neg ez]
/-! ### parts_in -/
theorem refs_of : ∀ ys : List V, (∀ v ∈ ys, ∃ r, v = .ref r) → ∃ prs : List Addr, ys = prs.map V.ref
  | [], _ => ⟨[], rfl⟩
  | y :: r, h => by
    obtain ⟨a, e⟩ := h y (List.mem_cons_self ..)
    obtain ⟨prs, e2⟩ := refs_of r fun v hv => h v (List.mem_cons_of_mem _ hv)
    exact ⟨a :: prs, by rw [e, e2]; rfl⟩
theorem cut2 {ws : List Str} {i : Nat} (h : 3 * i + 2 < ws.length) : cutV (ws.map V.str) (some ((3 * i + 1 : Nat) : Int)) (some ((3 * i + 3 : Nat) : Int)) = [V.str (ws.getD (3 * i + 1) Str.empty), V.str (ws.getD (3 * i + 2) Str.empty)] := by
  unfold cutV
  rw [HT.sIx_nat, HT.sIx_nat, List.length_map, Nat.min_eq_left (by omega), Nat.min_eq_left (by omega), show 3 * i + 3 - (3 * i + 1) = 2 by omega]
  rw [← List.map_drop, List.drop_eq_getElem_cons (show 3 * i + 1 < ws.length by omega), List.drop_eq_getElem_cons (show 3 * i + 1 + 1 < ws.length by omega)]
  rw [List.getD_eq_getElem?_getD, List.getD_eq_getElem?_getD, List.getElem?_eq_getElem (show 3 * i + 1 < ws.length by omega), List.getElem?_eq_getElem h]
  rfl
def spPartsIn (K : PySem.W.Frag) : Sp := fun vs H Q _ => ∃ (a : Addr) (ws : List Str) (m : Nat), vs = [.ref a] ∧ SqL K H a (ws.map V.str) ∧ (∀ z ∈ ws, z.length ≤ 10000) ∧ ws.length = 3 * m ∧ (m = 1 ∨ m = 2 ∨ m = 3) ∧
  ∀ H' p prs, Same H H' → H' p = some (.tup (prs.map V.ref)) → PrtsAt H' prs (partsIn ws m) → Q (.ref p) H'
theorem ok_partsIn (T : Txt K mg) : FnOk P w K mg base CX0 3 T.partsIn.f T.partsIn.fd ["words"] (spPartsIn K) := by
  have G1 : FnOk P w K mg base CX0 2 T.numbersIn.f T.numbersIn.fd ["words"] (spNumbersIn K) := ok_numbersIn T
  refine T.partsIn.F.ok scPartsIn (fun vs H Q E h => ?_) (fun cdv A outer s H vs Q E hr h => ?_)
  · obtain ⟨a, ws, m, rfl, _⟩ := h
    rfl
  · obtain ⟨a, ws, m, rfl, ha, hz, hl, hm, q⟩ := h
    have hC : RgC 0 (ws.length : Int) 3 m := by
      rw [hl]
      rcases hm with rfl | rfl | rfl
      · exact ⟨by decide, by decide, by decide, by decide⟩
      · exact ⟨by decide, by decide, by decide, by decide⟩
      · exact ⟨by decide, by decide, by decide, by decide⟩
    refine ⟨_, pss_one (ps_ret (pe_callTy call_tuple_of (by rfl) T.bTuple boot_tuple (pa_cons (pe_lc (own := [("at", 1)]) (g := gName 1) (tt := tYes) rfl scPartsIn.nd
          (pi_range3 (by rfl) T.bRange (pa_cons pe_int (pa_cons (pe_callB call_len_seq (by rfl) T.bLen PySem.boot_len (pa_cons (pv 0) pa_nil)) (pa_cons pe_int pa_nil)))) (blkOk_by (N := nPartsIn) (sc := defScope sPartsIn) (by decide +kernel))
          (fun _ _ _ _ _ => pg_name (i := 1) scPartsIn.nd rfl (Or.inl rfl)) (fun _ _ _ _ _ => pts_nil) (fun _ _ _ _ _ => pe_op (r := rCatA K) op_catA (pe_tup (pa_cons (pe_ix (r := rIxL K) ix_list (pv 0) (pv 1) (fun _ _ => rfl)) pa_nil))
            (pe_call G1 hr (by rfl) T.numbersIn.g T.numbersIn.F.kp T.numbersIn.b .nil pass0 (pa_cons (pe_slice (r := rSlL K) sl_list (pv 0) (po_some (pe_op op_add (pv 1) pe_int)) (po_some (pe_op op_add (pv 1) pe_int))) pa_nil)))) pa_nil))), ?_⟩
    refine ⟨.ref a, rfl, a, _, rfl, .inl ha, 0, (ws.length : Int), 3, m, by rw [List.length_map], hC, fun D nD => lc_rel walk_rangeC (fun i v H => ∃ r, v = .ref r ∧ H r = some (.tup (prtV ((partsIn ws m).getD i noPart)))) ?_ (by omega) nD (fun _ _ => trivial) yFn_same (fun i x H2 H3 hi s2 y Q2 q2 => ?_) fun H2 ys s2 eD el hR => ?_⟩
    · rintro i v H H' nl ⟨r, rfl, hr⟩
      exact ⟨r, rfl, nl _ _ hr fun xs z => by cases z⟩
    · obtain ⟨rfl, rfl⟩ := y
      have hi3 : 3 * i + 2 < ws.length := by omega
      have h0 : (ws.map V.str)[3 * i]? = some (.str (ws.getD (3 * i) Str.empty)) := by
        refine at_map V.str ?_
        rw [List.getD_eq_getElem?_getD, List.getElem?_eq_getElem (show 3 * i < ws.length by omega)]
        rfl
      have ep : (partsIn ws m).getD i noPart = ⟨ws.getD (3 * i) Str.empty, numIn (ws.getD (3 * i + 1) Str.empty), numIn (ws.getD (3 * i + 2) Str.empty)⟩ := by
        unfold partsIn
        refine getD_at ?_
        rw [List.getElem?_map, List.getElem?_range hi]
        rfl
      refine ⟨rfl, .ref a, rfl, _, rfl, a, _, _, _, rfl, rfl, s2.seq ha, at_of (j := 3 * i) (by omega) h0, szr, fun p1 n1 => ?_⟩
      have s3 := s2.trans (same_new (o := .tup [V.str (ws.getD (3 * i) Str.empty)]) n1)
      refine ⟨.ref a, rfl, _, rfl, _, _, rfl, rfl, _, rfl, _, rfl, _, _, rfl, rfl, _, rfl, a, _, rfl, s3.seq ha, fun p2 n2 => ?_⟩
      have e1 : (0 : Int) + (i : Nat) * 3 + 1 = ((3 * i + 1 : Nat) : Int) := by omega
      have e2 : (0 : Int) + (i : Nat) * 3 + 3 = ((3 * i + 3 : Nat) : Int) := by omega
      refine ⟨p2, [ws.getD (3 * i + 1) Str.empty, ws.getD (3 * i + 2) Str.empty], rfl, SqL.of (by rw [upd_same, e1, e2, cut2 hi3]; rfl), fun z hzm => ?_, by show 2 ≤ 100000; decide, fun H4 p3 s4 e4 => ?_⟩
      · have inw : ∀ j, j < ws.length → ws.getD j Str.empty ∈ ws := fun j hj => by
          rw [List.getD_eq_getElem?_getD, List.getElem?_eq_getElem hj]
          exact List.getElem_mem hj
        simp only [List.mem_cons, List.not_mem_nil, or_false] at hzm
        rcases hzm with z1 | z1
        · rw [z1]
          exact hz _ (inw _ (by omega))
        · rw [z1]
          exact hz _ (inw _ hi3)
      have s5 := (same_new n2).trans s4
      refine cat_any (s5 _ _ upd_same) e4 (by show 1 + 2 ≤ 100000; decide) fun p4 H5 s6 e6 => q2 _ _ ⟨p4, rfl, ?_⟩ ((same_new n1).trans (s5.trans s6))
      rw [e6, ep]
      rfl
    · obtain ⟨prs, rfl⟩ := refs_of ys fun v hv => by
        obtain ⟨j, hj, e⟩ := List.mem_iff_getElem.mp hv
        obtain ⟨r, hr, _⟩ := hR j v (by rw [List.getElem?_eq_getElem hj, e])
        exact ⟨r, hr⟩
      rw [List.length_map] at el
      refine ⟨D, _, rfl, .inl ⟨SqL.of eD, fun l nl => q _ l prs (s2.trans (same_new nl)) upd_same ?_⟩⟩
      have hpl : (partsIn ws m).length = m := by
        unfold partsIn
        simp
      refine ⟨by omega, fun j p hp => ?_⟩
      have hj : j < prs.length := by
        have := (List.getElem?_eq_some_iff.mp hp).1
        omega
      obtain ⟨r, e1, e2⟩ := hR j (.ref prs[j]) (at_map V.ref (List.getElem?_eq_getElem hj))
      have er : prs[j] = r := V.ref.inj e1
      subst er
      refine ⟨prs[j], List.getElem?_eq_getElem hj, ?_⟩
      rw [getD_at hp] at e2
      exact (same_new nl) _ _ e2
end
end Rt
set_option Elab.async false
set_option linter.all false
set_option maxRecDepth 100000
set_option maxHeartbeats 4000000
/-! hours_text, way_text, world_text. -/
namespace Rt
open PySem PySem.Spec PyProof.Rows L2
/-! ### lengths of joined texts -/
theorem join_two (sep x y : Str) (r : List Str) : (Str.join sep (x :: y :: r)).length = x.length + (sep.length + (Str.join sep (y :: r)).length) := by
  rw [TL.len_tl, TL.tl_join, TL.len_tl, TL.len_tl sep, TL.len_tl (Str.join sep (y :: r)), TL.tl_join]
  show (TL.tl x ++ (TL.tl sep ++ TL.joinL (TL.tl sep) ((y :: r).map TL.tl))).length = _
  rw [List.length_append, List.length_append]
theorem join_sum (sep : Str) : ∀ ps : List Str, (ps.map (·.length)).sum + ps.length * sep.length ≤ (Str.join sep ps).length + sep.length
  | [] => by
    show 0 + 0 * sep.length ≤ _
    rw [Nat.zero_mul]
    omega
  | [x] => by
    show (x.length + 0) + 1 * sep.length ≤ x.length + sep.length
    omega
  | x :: y :: r => by
    have ih := join_sum sep (y :: r)
    rw [join_two, List.map_cons, List.sum_cons, List.length_cons, Nat.succ_mul]
    omega
theorem join_ok {sep : Str} {ps : List Str} (h : (Str.join sep ps).length ≤ 10000) (hs : sep.length ≤ 1) : (ps.map (·.length)).sum + ps.length * sep.length ≤ 16777216 := by
  have q := join_sum sep ps
  omega
/-! ### what is laid: shapes -/
def okD (n : Nat) (d : PyData) : Prop := d.canLay0 = true ∧ d.depth ≤ n
theorem okD_opt (o : Option Int) : okD 0 (optD o) := by
  cases o
  · exact ⟨by simp [optD, PyData.canLay0], by simp [optD, PyData.depth]⟩
  · exact ⟨by simp [optD, PyData.canLay0], by simp [optD, PyData.depth]⟩
theorem okD_int (i : Int) : okD 0 (.int i) := ⟨by simp [PyData.canLay0], by simp [PyData.depth]⟩
theorem okD_str {x : Str} (h : ∀ c ∈ x.cps.toList, c < 256) : okD 0 (.str x) := by
  refine ⟨?_, by simp [PyData.depth]⟩
  unfold PyData.canLay0
  unfold PyData.strOk
  rw [Array.all_eq_true']
  intro c hc
  have q := h c (Array.mem_toList_iff.mpr hc)
  exact decide_eq_true (by omega)
theorem okAll {n : Nat} : ∀ {ds : List PyData}, (∀ d ∈ ds, okD n d) → PyData.canLayAll0 ds = true ∧ PyData.depthAll ds ≤ n
  | [], _ => ⟨by simp [PyData.canLayAll0], by simp [PyData.depthAll]⟩
  | d :: r, h => by
    have h1 := h d (List.mem_cons_self ..)
    have h2 := okAll (ds := r) fun x hx => h x (List.mem_cons_of_mem _ hx)
    refine ⟨?_, ?_⟩
    · unfold PyData.canLayAll0
      rw [h1.1, h2.1]
      rfl
    · unfold PyData.depthAll
      exact Nat.max_le.mpr ⟨h1.2, h2.2⟩
theorem okD_tup {n : Nat} {ds : List PyData} (h : ∀ d ∈ ds, okD n d) : okD (n + 1) (.tuple ds) := by
  have q := okAll h
  refine ⟨?_, ?_⟩
  · unfold PyData.canLay0
    exact q.1
  · unfold PyData.depth
    omega
theorem okD.mono {n m : Nat} {d : PyData} (h : okD n d) (e : n ≤ m) : okD m d := ⟨h.1, Nat.le_trans h.2 e⟩
theorem okD.shaped {n : Nat} {d : PyData} (h : okD n d) (e : n ≤ 64) : SeqAt.shaped d = true := by
  unfold SeqAt.shaped
  rw [h.1, decide_eq_true (Nat.le_trans h.2 e)]
  rfl
theorem eqv_nil (ds : List PyData) : PyData.eqv (.tuple ds) (.tuple []) = ds.isEmpty := by
  cases ds with
  | nil => simp [PyData.eqv, PyData.eqvAll]
  | cons d r => simp [PyData.eqv, PyData.eqvAll]
theorem small_log {i : Int} (h0 : 0 ≤ i) (h1 : i ≤ 1000000) : i.natAbs.log2 < 1920 := by
  by_cases c : i.natAbs = 0
  · rw [c]
    decide
  · have q := (Nat.log2_lt (k := 1920) c).mpr
    refine q (Nat.lt_of_le_of_lt (show i.natAbs ≤ 1000000 by omega) ?_)
    exact Nat.lt_of_lt_of_le (show 1000000 < 2 ^ 20 by decide) (Nat.pow_le_pow_right (by decide) (by decide))
section
variable {P : Program} {w : World} {K : PySem.W.Frag} {mg : Str → Option Value} {base : Heap}
/-- str(x) of a small number in a slot -/
theorem rd_str {H : Hp} {σ : L2.St} {i : Nat} {o : Option Int} {R : VK} (hi : σ[i]? = some (some (optV o))) (ho : Sml o) (r : R (.str (numS o)) H) :
    tCB (fun xs H Q => ∃ i : Int, xs = [V.int i] ∧ i.natAbs.log2 < 1920 ∧ Q (.str (toString i)) H) (tCons (tVar i) tNil) σ H R := by
  obtain ⟨n, rfl, h0, h1⟩ := ho
  exact ⟨_, hi, n, rfl, small_log h0 h1, r⟩
/-! ### hours_text -/
def spHoursText : Sp := fun vs H Q _ => ∃ (a : Addr) (hs : List (Option Int)), vs = [.ref a] ∧ H a = some (.tup (hs.map optV)) ∧ (∀ o ∈ hs, Sml o) ∧ (hoursS hs).length ≤ 10000 ∧ ∀ H', Same H H' → Q (.str (hoursS hs)) H'
theorem ok_hoursText (T : Txt K mg) : FnOk P w K mg base CX0 1 T.hoursText.f T.hoursText.fd ["hours"] spHoursText := by
  refine T.hoursText.F.ok scHoursText (fun vs H Q E h => ?_) (fun cdv A outer s H vs Q E hr h => ?_)
  · obtain ⟨a, hs, rfl, _⟩ := h
    rfl
  · obtain ⟨a, hs, rfl, ha, hf, hl, q⟩ := h
    obtain ⟨tN, hN⟩ := T.kNOHOURS
    refine ⟨_, pss_one (ps_ret (pe_ifExp (pt_cmpR (op_neD hr.units) (pv 0) (pe_tup pa_nil) (nomark _))
      (pe_join pe_str (pe_lc (own := [("hour", 1)]) (g := gName 1) (tt := tYes) rfl scHoursText.nd (pi_tup (pv 0)) (blkOk_by (N := nHoursText) (sc := defScope sHoursText) (by decide +kernel))
          (fun _ _ _ _ _ => pg_name (i := 1) scHoursText.nd rfl (Or.inl rfl)) (fun _ _ _ _ _ => pts_nil) (fun _ _ _ _ _ => pe_callTy call_str_int (by rfl) T.bStr boot_str (pa_cons (pv 1) pa_nil))))
      (pe_glob (v := .str "-") (by rfl) hN ⟨_, rfl⟩))), ?_⟩
    refine ⟨.ref a, rfl, szr, fun p np => ?_⟩
    have s1 := same_new (o := .tup []) np
    refine ⟨.tuple (hs.map optD), .tuple [], .tup (SqT.of (s1 _ _ ha)) (dp_opts K _ hs), .tup (SqT.of upd_same) .nil, (okD_tup (n := 0) fun d hd => ?_).shaped (by decide), (okD_tup (n := 0) fun d hd => by cases hd).shaped (by decide), _, rfl, ?_⟩
    · obtain ⟨o, _, rfl⟩ := List.mem_map.mp hd
      exact okD_opt o
    rw [eqv_nil]
    by_cases he : hs = []
    · subst he
      exact iteF (q _ s1)
    · have e1 : (!(hs.map optD).isEmpty) = true := by
        cases hs with
        | nil => exact absurd rfl he
        | cons o r => rfl
      rw [e1]
      have eS : hoursS hs = Str.join "," (hs.map numS) := if_neg he
      rw [eS] at hl q
      refine iteT ⟨⟨_, rfl⟩, .ref a, rfl, a, rfl, ⟨_, SqT.of (s1 _ _ ha)⟩, fun D nD => lc_map (walk_tup (xs := hs.map optV)) ((hs.map numS).map V.str) (by simp) ?_ nD (fun H2 s2 => SqT.of ((s1.trans s2) _ _ ha)) yAt_same (fun i x H2 H3 hi s2 y Q2 q2 => ?_) fun H2 s2 e2 => ?_⟩
      · have q1 := join_sum "," (hs.map numS)
        rw [List.length_map] at q1
        have e : ("," : Str).length = 1 := by decide +kernel
        rw [e] at q1
        rw [List.length_map]
        omega
      · obtain ⟨rfl, hx⟩ := y
        obtain ⟨o, rfl, ho⟩ := map_at hx
        refine ⟨rfl, rd_str (o := o) rfl (hf o (List.mem_of_getElem? ho)) (q2 _ _ ?_ (Same.refl _))⟩
        rw [List.getElem?_map, List.getElem?_map, ho]
        rfl
      · refine ⟨",", D, hs.map numS, rfl, rfl, .inl (SqL.of e2), join_ok hl (by decide +kernel), ?_⟩
        rw [TL.join_eq]
        exact q _ (s1.trans s2)
end
end Rt
set_option Elab.async false
set_option linter.all false
set_option maxRecDepth 100000
set_option maxHeartbeats 4000000
/-! way_text, world_text. -/
namespace Rt
open PySem PySem.Spec PyProof.Rows L2
theorem flat3 : ∀ ps : List Prt, ((ps.map partW).flatten).length = 3 * ps.length
  | [] => rfl
  | p :: r => by
    rw [List.map_cons, List.flatten_cons, List.length_append, flat3 r, List.length_cons]
    show 3 + 3 * r.length = _
    omega
def base5 (y : Wy) : List Str := ["way", y.k, y.keeps, hoursS y.hs, numS y.w]
def wayWords (y : Wy) (i : Nat) : List Str := base5 y ++ ((y.ps.take i).map partW).flatten
theorem wayWords_succ {y : Wy} {i : Nat} {p : Prt} (h : y.ps[i]? = some p) : wayWords y (i + 1) = wayWords y i ++ partW p := by
  unfold wayWords
  rw [List.take_add_one, h, Option.toList_some, List.map_append, List.flatten_append, List.append_assoc]
  congr 1
theorem wayWords_len (y : Wy) (i : Nat) : (wayWords y i).length ≤ 5 + 3 * y.ps.length := by
  unfold wayWords base5
  rw [List.length_append, flat3, List.length_take]
  simp only [List.length_cons, List.length_nil]
  omega
theorem wayWords_all (y : Wy) : wayL y = Str.join sp1 (wayWords y y.ps.length) := by
  unfold wayWords
  rw [List.take_length]
  rfl
theorem way_parts {y : Wy} (h : (wayL y).length ≤ 10000) : y.ps.length ≤ 10000 := by
  have q := join_sum sp1 (wayWords y y.ps.length)
  rw [← wayWords_all] at q
  have e1 : (sp1 : Str).length = 1 := by decide +kernel
  have e2 : (wayWords y y.ps.length).length = 5 + 3 * y.ps.length := by
    unfold wayWords base5
    rw [List.length_append, flat3, List.take_length]
    rfl
  rw [e1, e2] at q
  omega
def SrcsAt (H : Hp) (sas : List Addr) (ss : List Src) : Prop := sas.length = ss.length ∧ ∀ (j : Nat) (s : Src), ss[j]? = some s → ∃ a, sas[j]? = some a ∧ H a = some (.tup (srcV s))
def WysAt (H : Hp) (was : List Addr) (ys : List Wy) : Prop := was.length = ys.length ∧ ∀ (j : Nat) (y : Wy), ys[j]? = some y → ∃ a, was[j]? = some a ∧ WyAt H a y
theorem WyAt.same {H H' : Hp} {a : Addr} {y : Wy} (e : Same H H') (h : WyAt H a y) : WyAt H' a y := by
  obtain ⟨pt, ht, prs, h1, h2, h3, h4⟩ := h
  exact ⟨pt, ht, prs, e _ _ h1, e _ _ h2, PrtsAt.same e h3, e _ _ h4⟩
theorem SrcsAt.same {H H' : Hp} {sas : List Addr} {ss : List Src} (e : Same H H') (h : SrcsAt H sas ss) : SrcsAt H' sas ss :=
  ⟨h.1, fun j p hp => by
    obtain ⟨a, h1, h2⟩ := h.2 j p hp
    exact ⟨a, h1, e _ _ h2⟩⟩
theorem WysAt.same {H H' : Hp} {was : List Addr} {ys : List Wy} (e : Same H H') (h : WysAt H was ys) : WysAt H' was ys :=
  ⟨h.1, fun j p hp => by
    obtain ⟨a, h1, h2⟩ := h.2 j p hp
    exact ⟨a, h1, WyAt.same e h2⟩⟩
/-- a world at p -/
def WdAt (H : Hp) (p : Addr) (w : Wd) : Prop := ∃ (ka sa ya : Addr) (sas was : List Addr), H p = some (.tup [.int w.size, .ref ka, .ref sa, .ref ya]) ∧ H ka = some (.tup (w.ks.map V.str)) ∧
  H sa = some (.tup (sas.map V.ref)) ∧ SrcsAt H sas w.ss ∧ H ya = some (.tup (was.map V.ref)) ∧ WysAt H was w.ws
theorem WdAt.same {H H' : Hp} {p : Addr} {w : Wd} (e : Same H H') (h : WdAt H p w) : WdAt H' p w := by
  obtain ⟨ka, sa, ya, sas, was, h1, h2, h3, h4, h5, h6⟩ := h
  exact ⟨ka, sa, ya, sas, was, e _ _ h1, e _ _ h2, e _ _ h3, SrcsAt.same e h4, e _ _ h5, WysAt.same e h6⟩
theorem many_lines {sep : Str} : ∀ {ls : List Str}, (∀ l ∈ ls, l.length ≤ 10000) → ls.length ≤ 100 → (hs : sep.length ≤ 1 := by decide +kernel) → (ls.map (·.length)).sum + ls.length * sep.length ≤ 16777216 := fun {ls} h hc hs => by
  have key : ∀ ls : List Str, (∀ l ∈ ls, l.length ≤ 10000) → (ls.map (·.length)).sum ≤ ls.length * 10000 := by
    intro ls
    induction ls with
    | nil => intro _; simp
    | cons l r ih =>
      intro h
      have h1 := h l (List.mem_cons_self ..)
      have h2 := ih fun x hx => h x (List.mem_cons_of_mem _ hx)
      rw [List.map_cons, List.sum_cons, List.length_cons]
      omega
  have q := key ls h
  have q2 : ls.length * sep.length ≤ ls.length * 1 := Nat.mul_le_mul_left _ hs
  omega
section
variable {P : Program} {w : World} {K : PySem.W.Frag} {mg : Str → Option Value} {base : Heap}
/-! ### way_text -/
def spWayText : Sp := fun vs H Q _ => ∃ (wa : Addr) (y : Wy), vs = [.ref wa] ∧ WyAt H wa y ∧ y.Full ∧ (wayL y).length ≤ 10000 ∧ ∀ H', Same H H' → Q (.str (wayL y)) H'
theorem ok_wayText (T : Txt K mg) : FnOk P w K mg base CX0 2 T.wayText.f T.wayText.fd ["way"] spWayText := by
  have G1 : FnOk P w K mg base CX0 1 T.hoursText.f T.hoursText.fd ["hours"] spHoursText := ok_hoursText T
  refine T.wayText.F.ok scWayText (fun vs H Q E h => ?_) (fun cdv A outer s H vs Q E hr h => ?_)
  · obtain ⟨wa, y, rfl, _⟩ := h
    rfl
  · obtain ⟨wa, y, rfl, ⟨pt, ht, prs, hw, hp, hP, hH⟩, hf, hl, q⟩ := h
    have nm := scWayText.nd
    have hl3 := way_parts hl
    refine ⟨_, pss_cons (ps_asg (pv 0) (pg_tup rfl (pgs_cons (pg_name (i := 1) nm rfl (.inl rfl)) (pgs_cons (pg_name (i := 2) nm rfl (.inl rfl)) (pgs_cons (pg_name (i := 3) nm rfl (.inl rfl)) (pgs_cons (pg_name (i := 4) nm rfl (.inl rfl)) (pgs_cons (pg_name (i := 5) nm rfl (.inl rfl)) pgs_nil)))))))
      (pss_cons (ps_set (i := 6) nm rfl (.inl rfl) (pe_lst (pa_cons pe_str (pa_cons (pv 1) (pa_cons (pv 3) (pa_cons (pe_call G1 hr (by rfl) T.hoursText.g T.hoursText.F.kp T.hoursText.b .nil pass0 (pa_cons (pv 4) pa_nil)) (pa_cons (pe_callTy call_str_int (by rfl) T.bStr boot_str (pa_cons (pv 5) pa_nil)) pa_nil)))))))
      (pss_cons (ps_for PassesOwn.never rfl (pi_tup (pv 2)) (pg_tup rfl (pgs_cons (pg_name (i := 7) nm rfl (.inl rfl)) (pgs_cons (pg_name (i := 8) nm rfl (.inl rfl)) (pgs_cons (pg_name (i := 9) nm rfl (.inl rfl)) pgs_nil))))
        (pss_one (ps_set (i := 6) nm rfl (.inl rfl) (pe_op op_cat (pv 6) (pe_lst (pa_cons (pv 7) (pa_cons (pe_callTy call_str_int (by rfl) T.bStr boot_str (pa_cons (pv 8) pa_nil)) (pa_cons (pe_callTy call_str_int (by rfl) T.bStr boot_str (pa_cons (pv 9) pa_nil)) pa_nil))))))))
      (pss_one (ps_ret (pe_join pe_str (pv 6)))))), ?_⟩
    have hho : (hoursS y.hs).length ≤ 10000 := by
      have z := join_part sp1 (wayWords y y.ps.length) (hoursS y.hs) (List.mem_append_left _ (by unfold base5; simp))
      rw [← wayWords_all] at z
      omega
    refine ⟨.ref wa, rfl, wa, _, rfl, SqT.of hw, rfl, _, _, rfl, _, _, rfl, _, _, rfl, _, _, rfl, _, _, rfl, rfl, ?_⟩
    refine ⟨_, rfl, _, rfl, .ref ht, rfl, ht, y.hs, rfl, hH, hf.2.1, hho, fun H2 s2 => rd_str (o := y.w) rfl hf.2.2 ⟨szr, fun wl nwl => ?_⟩⟩
    refine ⟨.ref pt, rfl, pt, rfl, ⟨_, SqT.of ((s2.trans (same_new nwl)) _ _ hp)⟩, for_it (walk_tup (xs := prs.map V.ref)) (fun i σ H3 => ∃ wl y7 y8 y9, σ = [some (.ref wa), some (.str y.k), some (.ref pt), some (.str y.keeps), some (.ref ht), some (optV y.w), some (.ref wl), y7, y8, y9] ∧
      Same H H3 ∧ H3 wl = some (.lst ((wayWords y i).map V.str))) ⟨wl, none, none, none, rfl, s2.trans (same_new nwl), upd_same⟩ (fun i σ H3 _ ⟨_, _, _, _, _, s3, _⟩ => SqT.of (s3 _ _ hp)) ?_ ?_⟩
    · rintro i x σ H3 H4 hi ⟨wl, y7, y8, y9, rfl, s3, e3⟩ ⟨rfl, hx⟩
      rw [List.length_map, hP.1] at hi
      obtain ⟨pr, rfl, hpr⟩ := map_at hx
      obtain ⟨p, hpi⟩ : ∃ p, y.ps[i]? = some p := ⟨y.ps[i], List.getElem?_eq_getElem hi⟩
      obtain ⟨pa, h1, h2⟩ := hP.2 i p hpi
      obtain rfl : pa = pr := Option.some.inj (h1.symm.trans hpr)
      have fp := hf.1 p (List.mem_of_getElem? hpi)
      refine ⟨pa, prtV p, rfl, SqT.of (s3 _ _ h2), rfl, _, _, rfl, _, _, rfl, _, _, rfl, rfl, ?_⟩
      refine ⟨.ref wl, rfl, .str p.k, rfl, rd_str (o := p.a) rfl fp.1 (rd_str (o := p.b) rfl fp.2 ⟨szr, fun p1 n1 => ?_⟩)⟩
      have hwl := wayWords_len y i
      refine ⟨wl, p1, _, _, rfl, rfl, same_new n1 _ _ e3, upd_same, sz_le (by rw [List.length_map]; show _ + 3 ≤ 100000; omega), fun p2 n2 => ⟨p2, _, _, _, rfl, s3.trans ((same_new n1).trans (same_new n2)), ?_⟩⟩
      rw [upd_same, wayWords_succ hpi, List.map_append]
      rfl
    · rintro σ H3 ⟨wl, y7, y8, y9, rfl, s3, e3⟩
      rw [List.length_map, hP.1] at e3
      rw [wayWords_all] at hl q
      refine ⟨⟨_, rfl⟩, .ref wl, rfl, sp1, wl, wayWords y y.ps.length, rfl, rfl, .inl (SqL.of e3), join_ok hl (by decide +kernel), ?_⟩
      rw [TL.join_eq]
      exact q _ s3
/-! ### world_text -/
theorem round_text (n : Int) : (Str.empty ++ ("round " : Str)) ++ numS (some n) = roundL n := by
  refine TL.ext_tl ?_
  unfold roundL
  rw [TL.tl_append, TL.tl_append, TL.tl_join]
  show (TL.tl Str.empty ++ TL.tl "round ") ++ TL.tl (numS (some n)) = TL.tl "round" ++ (TL.tl sp1 ++ TL.tl (numS (some n)))
  rw [← List.append_assoc]
  refine congrArg (· ++ TL.tl (numS (some n))) ?_
  decide +kernel
def srcWords (s : Src) : List Str := "source" :: s.k :: s.ns.map numS
def linesUp (w : Wd) (i : Nat) : List Str := roundL w.size :: kindsL w.ks :: (w.ss.take i).map srcL
theorem linesUp_succ {w : Wd} {i : Nat} {s : Src} (h : w.ss[i]? = some s) : linesUp w (i + 1) = linesUp w i ++ [srcL s] := by
  unfold linesUp
  rw [List.take_add_one, h, Option.toList_some, List.map_append]
  rfl
theorem linesUp_len (w : Wd) (i : Nat) : (linesUp w i).length ≤ 2 + w.ss.length := by
  unfold linesUp
  rw [List.length_cons, List.length_cons, List.length_map, List.length_take]
  omega
theorem lines_up (w : Wd) : linesOf w = linesUp w w.ss.length ++ w.ws.map wayL := by
  unfold linesUp linesOf
  rw [List.take_length]
  rfl
def spWorldText : Sp := fun vs H Q _ => ∃ (a : Addr) (w : Wd), vs = [.ref a] ∧ WdAt H a w ∧ w.Full ∧ (∀ l ∈ linesOf w, l.length ≤ 10000) ∧ (linesOf w).length ≤ 100 ∧ ∀ H', Same H H' → Q (.str (textOf w)) H'
theorem ok_worldText (T : Txt K mg) : FnOk P w K mg base CX0 3 T.worldText.f T.worldText.fd ["world"] spWorldText := by
  have G1 : FnOk P w K mg base CX0 2 T.wayText.f T.wayText.fd ["way"] spWayText := ok_wayText T
  refine T.worldText.F.ok scWorldText (fun vs H Q E h => ?_) (fun cdv A outer s H vs Q E hr h => ?_)
  · obtain ⟨a, w, rfl, _⟩ := h
    rfl
  · obtain ⟨a, u, rfl, ⟨ka, sa, ya, sas, was, ha, hk, hs, hS, hy, hW⟩, hf, hlen, hcnt, q⟩ := h
    have nm := scWorldText.nd
    have eqL := lines_up u
    have hcS : u.ss.length + u.ws.length ≤ 98 := by
      rw [eqL] at hcnt
      unfold linesUp at hcnt
      rw [List.take_length, List.length_append, List.length_cons, List.length_cons, List.length_map, List.length_map] at hcnt
      omega
    refine ⟨_, pss_cons (ps_asg (pv 0) (pg_tup rfl (pgs_cons (pg_name (i := 1) nm rfl (.inl rfl)) (pgs_cons (pg_name (i := 2) nm rfl (.inl rfl)) (pgs_cons (pg_name (i := 3) nm rfl (.inl rfl)) (pgs_cons (pg_name (i := 4) nm rfl (.inl rfl)) pgs_nil))))))
      (pss_cons (ps_set (i := 5) nm rfl (.inl rfl) (pe_lst (pa_cons (pe_joined (PJ.cons pe_str (PJ.cons (pe_fmt (pv 1)) PJ.nil))) (pa_cons (pe_join pe_str (pe_op op_catA (pe_tup (pa_cons pe_str pa_nil)) (pv 2))) pa_nil))))
      (pss_cons (ps_for PassesOwn.never rfl (pi_tup (pv 3)) (pg_name (i := 6) nm rfl (.inl rfl))
        (pss_one (ps_expr (pe_bm PySem.F.plainAttrs_list PySem.F.slot_list_append PySem.F.type_list_append mt_append (pv 5) (pa_cons (pe_join pe_str (pe_op op_cat (pe_lst (pa_cons pe_str pa_nil))
          (pe_lc (own := [("thing", 7)]) (g := gName 7) (tt := tYes) rfl nm (pi_tup (pv 6)) (blkOk_by (N := nWorldText) (sc := defScope sWorldText) (by decide +kernel)) (fun _ _ _ _ _ => pg_name (i := 7) nm rfl (Or.inl rfl)) (fun _ _ _ _ _ => pts_nil)
            (fun _ _ _ _ _ => pe_callTy (call_str_int.or SkE.call_str_str) (by rfl) T.bStr boot_str (pa_cons (pv 7) pa_nil))))) pa_nil)))))
      (pss_one (ps_ret (pe_join pe_str (pe_op op_cat (pv 5) (pe_lc (own := [("way", 8)]) (g := gName 8) (tt := tYes) rfl nm (pi_tup (pv 4)) (blkOk_by (N := nWorldText) (sc := defScope sWorldText) (by decide +kernel)) (fun _ _ _ _ _ => pg_name (i := 8) nm rfl (Or.inl rfl)) (fun _ _ _ _ _ => pts_nil)
            (fun _ _ _ _ _ => pe_call G1 hr (by rfl) T.wayText.g T.wayText.F.kp T.wayText.b .nil pass0 (pa_cons (pv 8) pa_nil))))))))), ?_⟩
    have lR : (roundL u.size).length ≤ 10000 := hlen _ (by unfold linesOf; simp)
    have lK : (kindsL u.ks).length ≤ 10000 := hlen _ (by unfold linesOf; simp)
    refine ⟨.ref a, rfl, a, _, rfl, SqT.of ha, rfl, _, _, rfl, _, _, rfl, _, _, rfl, _, _, rfl, rfl, ?_⟩
    have l6 : (Str.empty ++ ("round " : Str)).length ≤ sizeLine := by decide +kernel
    have lR2 : ((Str.empty ++ ("round " : Str)) ++ numS (some u.size)).length ≤ sizeLine := by
      rw [round_text]
      exact sz_le (by omega)
    refine ⟨"round ", rfl, l6, .int u.size, rfl, .inr ⟨u.size, rfl, small_log hf.1.1 (by have := hf.1.2; omega), _, rfl, lR2, ?_⟩⟩
    refine ⟨⟨_, rfl⟩, szr, fun p1 n1 => ⟨.ref ka, rfl, cat_any (K := K) upd_same (same_new n1 _ _ hk) ?_ fun p2 H2 s2 e2 => ?_⟩⟩
    · have q1 := join_sum sp1 ("kinds" :: u.ks)
      have e1 : (sp1 : Str).length = 1 := by decide +kernel
      rw [e1, List.length_cons] at q1
      have lK2 : (Str.join sp1 ("kinds" :: u.ks)).length ≤ 10000 := lK
      rw [List.length_map]
      show 1 + u.ks.length ≤ 100000
      omega
    refine ⟨sp1, p2, "kinds" :: u.ks, rfl, rfl, .inr (SqT.of e2), join_ok lK (by decide +kernel), ?_⟩
    rw [TL.join_eq]
    refine ⟨szr, fun ll nll => ?_⟩
    have s3 : ∀ {o : HO}, Same H (upd H2 ll o) := fun {o} => ((same_new n1).trans s2).trans (same_new nll)
    have nL : H ll = none := ((same_new n1).trans s2).free nll
    refine ⟨.ref sa, rfl, sa, rfl, ⟨_, SqT.of (s3 _ _ hs)⟩, for_it (walk_tup (xs := sas.map V.ref)) (fun i σ H3 => ∃ y6 y7 y8, σ = [some (.ref a), some (.int u.size), some (.ref ka), some (.ref sa), some (.ref ya), some (.ref ll), y6, y7, y8] ∧
      Same H H3 ∧ H3 ll = some (.lst ((linesUp u i).map V.str))) ⟨none, none, none, rfl, s3, ?_⟩ (fun i σ H3 _ ⟨_, _, _, _, s4, _⟩ => SqT.of (s4 _ _ hs)) ?_ ?_⟩
    · rw [upd_same]
      have e : (Str.empty ++ ("round " : Str)) ++ Str.ofString (toString u.size) = roundL u.size := round_text u.size
      rw [e]
      rfl
    · rintro i x σ H3 H4 hi ⟨y6, y7, y8, rfl, s4, e4⟩ ⟨rfl, hx⟩
      rw [List.length_map, hS.1] at hi
      obtain ⟨sr, rfl, hsr⟩ := map_at hx
      obtain ⟨s1, hsi⟩ : ∃ s1, u.ss[i]? = some s1 := ⟨u.ss[i], List.getElem?_eq_getElem hi⟩
      obtain ⟨pa, h1, h2⟩ := hS.2 i s1 hsi
      obtain rfl : pa = sr := Option.some.inj (h1.symm.trans hsr)
      have fs := hf.2.1 s1 (List.mem_of_getElem? hsi)
      have lS : (srcL s1).length ≤ 10000 := hlen _ (by
        unfold linesOf
        exact List.mem_cons_of_mem _ (List.mem_cons_of_mem _ (List.mem_append_left _ (List.mem_map_of_mem (List.mem_of_getElem? hsi)))))
      have hup := linesUp_len u i
      refine ⟨.ref ll, rfl, .inl ⟨rfl, _, SqL.of e4⟩, ⟨_, rfl⟩, szr, fun q1 m1 => ?_⟩
      have t1 := same_new (o := .lst [V.str "source"]) m1
      refine ⟨.ref pa, rfl, pa, rfl, ⟨_, SqT.of ((s4.trans t1) _ _ h2)⟩, fun D nD => lc_map (walk_tup (xs := srcV s1)) ((s1.k :: s1.ns.map numS).map V.str) (by unfold srcV; simp) (by unfold srcV; rw [List.length_cons, List.length_map, fs.1]; decide) nD (fun H5 s5 => SqT.of ((s4.trans (t1.trans s5)) _ _ h2)) yAt_same (fun j v H5 H6 hj s5 yy Q2 q2 => ?_) fun H5 s5 e5 => ?_⟩
      · obtain ⟨rfl, hv⟩ := yy
        cases j with
        | zero =>
          have ev : v = .str s1.k := (Option.some.inj hv).symm
          subst ev
          exact ⟨rfl, _, rfl, .inr ⟨s1.k, rfl, q2 _ _ rfl (Same.refl _)⟩⟩
        | succ j =>
          obtain ⟨o, rfl, ho⟩ := map_at (f := optV) (ks := s1.ns) (i := j) (by simpa [srcV] using hv)
          obtain ⟨n, rfl, n0, n1⟩ := fs.2 o (List.mem_of_getElem? ho)
          refine ⟨rfl, _, rfl, .inl ⟨n, rfl, small_log n0 n1, q2 _ _ ?_ (Same.refl _)⟩⟩
          show ((s1.ns.map numS).map V.str)[j]? = _
          rw [List.getElem?_map, List.getElem?_map, ho]
          rfl
      · have eq1 := (t1.trans s5)
        refine ⟨q1, D, _, _, rfl, rfl, s5 _ _ upd_same, e5, sz_le (by rw [List.length_map]; show 1 + ((s1.ns.map numS).length + 1) ≤ 100000; rw [List.length_map, fs.1]; decide), fun q3 m3 => ?_⟩
        refine ⟨sp1, q3, srcWords s1, rfl, rfl, .inl (SqL.of (by rw [upd_same]; rfl)), join_ok lS (by decide +kernel), ?_⟩
        rw [TL.join_eq]
        refine ⟨ll, _, _, rfl, rfl, (eq1.trans (same_new m3)) _ _ e4, sz_lt (by rw [List.length_map]; omega), ⟨_, _, _, rfl, (s4.trans (eq1.trans (same_new m3))).wr nL, ?_⟩⟩
        rw [upd_same, linesUp_succ hsi, List.map_append]
        rfl
    · rintro σ H3 ⟨y6, y7, y8, rfl, s4, e4⟩
      rw [List.length_map, hS.1] at e4
      refine ⟨⟨_, rfl⟩, .ref ll, rfl, .ref ya, rfl, ya, rfl, ⟨_, SqT.of (s4 _ _ hy)⟩, fun D nD => lc_map (walk_tup (xs := was.map V.ref)) ((u.ws.map wayL).map V.str) (by simp [hW.1]) (by rw [List.length_map, hW.1]; omega) nD (fun H5 s5 => SqT.of ((s4.trans s5) _ _ hy)) yAt_same (fun j v H5 H6 hj s5 yy Q2 q2 => ?_) fun H5 s5 e5 => ?_⟩
      · obtain ⟨rfl, hv⟩ := yy
        rw [List.length_map, hW.1] at hj
        obtain ⟨wr, rfl, hwr⟩ := map_at hv
        obtain ⟨y1, hyi⟩ : ∃ y1, u.ws[j]? = some y1 := ⟨u.ws[j], List.getElem?_eq_getElem hj⟩
        obtain ⟨pa, h1, h2⟩ := hW.2 j y1 hyi
        obtain rfl : pa = wr := Option.some.inj (h1.symm.trans hwr)
        have lY : (wayL y1).length ≤ 10000 := hlen _ (by
          unfold linesOf
          exact List.mem_cons_of_mem _ (List.mem_cons_of_mem _ (List.mem_append_right _ (List.mem_map_of_mem (List.mem_of_getElem? hyi)))))
        refine ⟨rfl, _, rfl, pa, y1, rfl, WyAt.same (s4.trans s5) h2, hf.2.2 y1 (List.mem_of_getElem? hyi), lY, fun H7 s7 => q2 _ _ ?_ s7⟩
        rw [List.getElem?_map, List.getElem?_map, hyi]
        rfl
      · have hup := linesUp_len u u.ss.length
        refine ⟨ll, D, _, _, rfl, rfl, s5 _ _ e4, e5, sz_le (by rw [List.length_map, List.length_map, List.length_map]; omega), fun q3 m3 => ?_⟩
        refine ⟨"\n", q3, linesOf u, rfl, rfl, .inl (SqL.of (by rw [upd_same, eqL, List.map_append])), ?_, ?_⟩
        · exact many_lines hlen hcnt
        · rw [TL.join_eq]
          exact q _ (s4.trans (s5.trans (same_new m3)))
end
end Rt
set_option Elab.async false
set_option linter.all false
set_option maxRecDepth 100000
set_option maxHeartbeats 4000000
/-! The class Reader: its fields, __init__, take_round, take_kinds. -/
namespace Rt
open PySem PySem.Spec PyProof.Rows L2
/-! ### the fields -/
theorem n_sk : ¬ (("size" : Str) = "kinds") := by decide +kernel
theorem n_ss : ¬ (("size" : Str) = "sources") := by decide +kernel
theorem n_sw : ¬ (("size" : Str) = "ways") := by decide +kernel
theorem n_ks : ¬ (("kinds" : Str) = "sources") := by decide +kernel
theorem n_kw : ¬ (("kinds" : Str) = "ways") := by decide +kernel
theorem n_ow : ¬ (("sources" : Str) = "ways") := by decide +kernel
theorem putF_hit {f g : Str} {v x : V} {r : List (Str × V)} (h : g = f) : putF f v ((g, x) :: r) = (g, v) :: r := if_pos h
theorem putF_miss {f g : Str} {v x : V} {r : List (Str × V)} (h : ¬ g = f) : putF f v ((g, x) :: r) = (g, x) :: putF f v r := if_neg h
def rf (n : Int) (k s y : Addr) : List (Str × V) := [("size", .int n), ("kinds", .ref k), ("sources", .ref s), ("ways", .ref y)]
theorem rf_make (n : Int) (k s y : Addr) : putF "ways" (.ref y) (putF "sources" (.ref s) (putF "kinds" (.ref k) (putF "size" (.int n) []))) = rf n k s y := by
  show putF "ways" (.ref y) (putF "sources" (.ref s) (putF "kinds" (.ref k) [(("size" : Str), V.int n)])) = _
  rw [putF_miss n_sk]
  show putF "ways" (.ref y) (putF "sources" (.ref s) [(("size" : Str), V.int n), (("kinds" : Str), V.ref k)]) = _
  rw [putF_miss n_ss, putF_miss n_ks]
  show putF "ways" (.ref y) [(("size" : Str), V.int n), (("kinds" : Str), V.ref k), (("sources" : Str), V.ref s)] = _
  rw [putF_miss n_sw, putF_miss n_kw, putF_miss n_ow]
  rfl
theorem rf_size (n m : Int) (k s y : Addr) : putF "size" (.int m) (rf n k s y) = rf m k s y := putF_hit rfl
theorem rf_kinds (n : Int) (k k' s y : Addr) : putF "kinds" (.ref k') (rf n k s y) = rf n k' s y := by
  unfold rf
  rw [putF_miss n_sk, putF_hit rfl]
theorem rf_sources (n : Int) (k s s' y : Addr) : putF "sources" (.ref s') (rf n k s y) = rf n k s' y := by
  unfold rf
  rw [putF_miss n_ss, putF_miss n_ks, putF_hit rfl]
theorem rf_ways (n : Int) (k s y y' : Addr) : putF "ways" (.ref y') (rf n k s y) = rf n k s y' := by
  unfold rf
  rw [putF_miss n_sw, putF_miss n_kw, putF_miss n_ow, putF_hit rfl]
theorem look_rf {f : Str} {n : Int} {k s y : Addr} : (rf n k s y).lookup f = if "size" = f then some (.int n) else if "kinds" = f then some (.ref k) else if "sources" = f then some (.ref s) else if "ways" = f then some (.ref y) else none := by
  rw [← rf_make, lookup_putF, lookup_putF, lookup_putF, lookup_putF]
  by_cases h1 : ("size" : Str) = f
  · subst h1
    rw [if_pos rfl, if_neg n_sw, if_neg n_ss, if_neg n_sk, if_pos rfl]
  · rw [if_neg h1]
    by_cases h2 : ("kinds" : Str) = f
    · subst h2
      rw [if_pos rfl, if_neg n_kw, if_neg n_ks, if_pos rfl]
    · rw [if_neg h2]
      by_cases h3 : ("sources" : Str) = f
      · subst h3
        rw [if_pos rfl, if_neg n_ow, if_pos rfl]
      · rw [if_neg h3]
        by_cases h4 : ("ways" : Str) = f
        · subst h4
          rw [if_pos rfl, if_pos rfl]
        · rw [if_neg h4, if_neg (fun z => h4 z.symm), if_neg (fun z => h3 z.symm), if_neg (fun z => h2 z.symm), if_neg (fun z => h1 z.symm)]
          rfl
theorem l_size (n : Int) (k s y : Addr) : (rf n k s y).lookup ("size" : Str) = some (.int n) := by rw [look_rf, if_pos rfl]
theorem l_kinds (n : Int) (k s y : Addr) : (rf n k s y).lookup ("kinds" : Str) = some (.ref k) := by rw [look_rf, if_neg n_sk, if_pos rfl]
theorem l_sources (n : Int) (k s y : Addr) : (rf n k s y).lookup ("sources" : Str) = some (.ref s) := by rw [look_rf, if_neg n_ss, if_neg n_ks, if_pos rfl]
theorem l_ways (n : Int) (k s y : Addr) : (rf n k s y).lookup ("ways" : Str) = some (.ref y) := by rw [look_rf, if_neg n_sw, if_neg n_kw, if_neg n_ow, if_pos rfl]
theorem l_none {f : Str} (n : Int) (k s y : Addr) (h1 : ¬ ("size" : Str) = f) (h2 : ¬ ("kinds" : Str) = f) (h3 : ¬ ("sources" : Str) = f) (h4 : ¬ ("ways" : Str) = f) : (rf n k s y).lookup f = none := by
  rw [look_rf, if_neg h1, if_neg h2, if_neg h3, if_neg h4]
/-- a reader at r that has read w -/
def RdAt (C : Addr) (H : Hp) (r : Addr) (w : Wd) : Prop := ∃ (dx ka sa ya : Addr) (sas was : List Addr), H r = some (.ins C dx (rf w.size ka sa ya)) ∧ H ka = some (.tup (w.ks.map V.str)) ∧
  H sa = some (.tup (sas.map V.ref)) ∧ SrcsAt H sas w.ss ∧ H ya = some (.tup (was.map V.ref)) ∧ WysAt H was w.ws
theorem RdAt.same {C : Addr} {H H' : Hp} {p : Addr} {w : Wd} (e : Same H H') (h : RdAt C H p w) : RdAt C H' p w := by
  obtain ⟨dx, ka, sa, ya, sas, was, h1, h2, h3, h4, h5, h6⟩ := h
  exact ⟨dx, ka, sa, ya, sas, was, e _ _ h1, e _ _ h2, e _ _ h3, SrcsAt.same e h4, e _ _ h5, WysAt.same e h6⟩
/-- all but what stands at r is kept -/
def KpB (r : Addr) (H H' : Hp) : Prop := ∀ b o, b ≠ r → H b = some o → H' b = some o
theorem KpB.of {r : Addr} {H H' : Hp} (e : Same H H') : KpB r H H' := fun b o _ h => e b o h
theorem KpB.wr {r : Addr} {H H' : Hp} {o : HO} (e : KpB r H H') : KpB r H (upd H' r o) := fun b u n h => by
  rw [upd_ne n]
  exact e b u n h
theorem KpB.trans {r : Addr} {H H1 H2 : Hp} (a : KpB r H H1) (b : KpB r H1 H2) : KpB r H H2 := fun c o n h => b c o n (a c o n h)
/-- tuples stay, where all but an instance is kept -/
theorem KpB.tup {r b : Addr} {H H' : Hp} {C dx : Addr} {fs : List (Str × V)} {xs : List V} (e : KpB r H H') (hr : H r = some (.ins C dx fs)) (h : H b = some (.tup xs)) : H' b = some (.tup xs) := e _ _ (ne_of h hr (by intro z; cases z)) h
theorem srcs_kp {r : Addr} {H H' : Hp} {C dx : Addr} {fs : List (Str × V)} {sas : List Addr} {ss : List Src} (e : KpB r H H') (hr : H r = some (.ins C dx fs)) (h : SrcsAt H sas ss) : SrcsAt H' sas ss :=
  ⟨h.1, fun j p hp => by
    obtain ⟨a, h1, h2⟩ := h.2 j p hp
    exact ⟨a, h1, e.tup hr h2⟩⟩
theorem way_kp {r : Addr} {H H' : Hp} {C dx a : Addr} {fs : List (Str × V)} {y : Wy} (e : KpB r H H') (hr : H r = some (.ins C dx fs)) (h : WyAt H a y) : WyAt H' a y := by
  obtain ⟨pt, ht, prs, h1, h2, h3, h4⟩ := h
  exact ⟨pt, ht, prs, e.tup hr h1, e.tup hr h2, ⟨h3.1, fun j p hp => by
    obtain ⟨a, q1, q2⟩ := h3.2 j p hp
    exact ⟨a, q1, e.tup hr q2⟩⟩, e.tup hr h4⟩
theorem ways_kp {r : Addr} {H H' : Hp} {C dx : Addr} {fs : List (Str × V)} {was : List Addr} {ys : List Wy} (e : KpB r H H') (hr : H r = some (.ins C dx fs)) (h : WysAt H was ys) : WysAt H' was ys :=
  ⟨h.1, fun j p hp => by
    obtain ⟨a, h1, h2⟩ := h.2 j p hp
    exact ⟨a, h1, way_kp e hr h2⟩⟩
section
variable {P : Program} {w : World} {K : PySem.W.Frag} {mg : Str → Option Value} {base : Heap}
theorem rd_fld {H : Hp} {σ : L2.St} {i : Nat} {r C dx : Addr} {fs : List (Str × V)} {f : Str} {v : V} {R : VK} (hi : σ[i]? = some (some (.ref r))) (hr : H r = some (.ins C dx fs)) (c : Cls K C) (n : NoAttr K C f) (l : fs.lookup f = some v) (q : R v H) : tFld K (tVar i) f σ H R :=
  ⟨_, hi, r, C, dx, fs, v, rfl, hr, c, n, l, q⟩
theorem rd_ixL {H : Hp} {σ : L2.St} {i j : Nat} {b : Addr} {zs : List V} {v : V} {n : Int} {R : VK} (h : σ[i]? = some (some (.ref b))) (hs : SqL K H b zs) (e : n = (j : Int)) (hv : zs[j]? = some v) (r : R v H) : tOp (rIxL K) (tVar i) (tC (.int n)) σ H R :=
  ⟨_, h, b, zs, n, v, rfl, rfl, hs, at_of e hv, r⟩
theorem rd_tupIx {H : Hp} {σ : L2.St} {i j : Nat} {b : Addr} {zs : List V} {v : V} {n : Int} {tb : TE} {r : R2} {R : VK} (h : σ[i]? = some (some (.ref b))) (hs : SqL K H b zs) (e : n = (j : Int)) (hv : zs[j]? = some v)
    (q : ∀ p, H p = none → tb σ (upd H p (.tup [v])) fun y H2 => r (.ref p) y H2 R) : tOp r (tTup (tCons (tOp (rIxL K) (tVar i) (tC (.int n))) tNil)) tb σ H R :=
  ⟨_, h, b, zs, n, v, rfl, rfl, hs, at_of e hv, szr, q⟩
theorem w0_at {ws : List Str} {i : Nat} (h : i < ws.length) : (ws.map V.str)[i]? = some (.str (w0 ws i)) := by
  refine at_map V.str ?_
  unfold w0
  rw [List.getD_eq_getElem?_getD, List.getElem?_eq_getElem h]
  rfl
theorem w0_mem {ws : List Str} {i : Nat} (h : i < ws.length) : w0 ws i ∈ ws := by
  unfold w0
  rw [List.getD_eq_getElem?_getD, List.getElem?_eq_getElem h]
  exact List.getElem_mem h
theorem len_int {ws : List Str} {n : Nat} : decide (V.int ((ws.map V.str).length : Int) = V.int (n : Int)) = decide (ws.length = n) := by
  rw [List.length_map]
  by_cases c : ws.length = n
  · rw [c, decide_eq_true rfl, decide_eq_true rfl]
  · rw [decide_eq_false c, decide_eq_false (fun z => c (by have := V.int.inj z; omega))]
/-! ### __init__ -/
def spRInit (C : Addr) : Sp := fun vs H Q _ => ∃ (r dx : Addr), vs = [.ref r] ∧ H r = some (.ins C dx []) ∧ ∀ H', KpB r H H' → RdAt C H' r wd0 → Q .non H'
theorem ok_rInit (T : Txt K mg) : FnOk P w K mg base CX0 1 T.rInit.f T.rInit.fd ["self"] (spRInit T.C) := by
  refine T.rInit.F.ok scRInit (fun vs H Q E h => ?_) (fun cdv A outer s H vs Q E hr h => ?_)
  · obtain ⟨r, dx, rfl, _⟩ := h
    rfl
  · obtain ⟨r, dx, rfl, h1, q⟩ := h
    refine ⟨_, pss_cons (ps_fld (pv 0) pe_int rfl) (pss_cons (ps_fld (pv 0) (pe_tup pa_nil) rfl) (pss_cons (ps_fld (pv 0) (pe_tup pa_nil) rfl) (pss_one (ps_fld (pv 0) (pe_tup pa_nil) rfl)))), ?_⟩
    refine ⟨.ref r, rfl, r, T.C, dx, [], rfl, h1, T.cl, T.nSize, (by show 0 < 1000; decide), ?_⟩
    have k1 : KpB r H (upd H r (.ins T.C dx (putF "size" (.int 0) []))) := KpB.wr (KpB.of (Same.refl H))
    refine ⟨szr, fun ka nka => ?_⟩
    have e1 : (upd H r (.ins T.C dx (putF "size" (.int 0) []))) r = some (.ins T.C dx (putF "size" (.int 0) [])) := upd_same
    have n1 : r ≠ ka := ne_of_none e1 nka
    refine ⟨.ref r, rfl, r, T.C, dx, _, rfl, (by rw [upd_ne n1]; exact e1), T.cl, T.nKinds, (by show 1 < 1000; decide), ?_⟩
    refine ⟨szr, fun sa nsa => ?_⟩
    have n2 : r ≠ sa := ne_of_none upd_same nsa
    have d1 : ka ≠ sa := ne_of_none (o := .tup []) (by rw [upd_ne n1.symm]; exact upd_same) nsa
    refine ⟨.ref r, rfl, r, T.C, dx, _, rfl, (by rw [upd_ne n2]; exact upd_same), T.cl, T.nSources, Nat.lt_of_le_of_lt (length_putF _ _ _) (by show 1 + 1 < 1000; decide), ?_⟩
    refine ⟨szr, fun ya nya => ?_⟩
    have n3 : r ≠ ya := ne_of_none upd_same nya
    have d2 : ka ≠ ya := ne_of_none (o := .tup []) (by rw [upd_ne n1.symm, upd_ne d1, upd_ne n1.symm]; exact upd_same) nya
    have d3 : sa ≠ ya := ne_of_none (o := .tup []) (by rw [upd_ne n2.symm]; exact upd_same) nya
    refine ⟨.ref r, rfl, r, T.C, dx, _, rfl, (by rw [upd_ne n3]; exact upd_same), T.cl, T.nWays, Nat.lt_of_le_of_lt (length_putF _ _ _) (Nat.lt_of_le_of_lt (Nat.succ_le_succ (length_putF _ _ _)) (by show 1 + 1 + 1 < 1000; decide)), ?_⟩
    have k2 := (k1.trans ((KpB.of (same_new (o := .tup []) nka)).wr (o := .ins T.C dx (putF "kinds" (.ref ka) (putF "size" (.int 0) [])))))
    have k3 := (k2.trans ((KpB.of (same_new (o := .tup []) nsa)).wr (o := .ins T.C dx (putF "sources" (.ref sa) (putF "kinds" (.ref ka) (putF "size" (.int 0) []))))))
    have k4 := (k3.trans ((KpB.of (same_new (o := .tup []) nya)).wr (o := .ins T.C dx (putF "ways" (.ref ya) (putF "sources" (.ref sa) (putF "kinds" (.ref ka) (putF "size" (.int 0) [])))))))
    refine q _ k4 ⟨dx, ka, sa, ya, [], [], ?_, ?_, ?_, ⟨rfl, fun j s h => by simp [wd0] at h⟩, ?_, ⟨rfl, fun j s h => by simp [wd0] at h⟩⟩
    · rw [upd_same, rf_make]
      rfl
    · rw [upd_ne n1.symm, upd_ne d2, upd_ne n1.symm, upd_ne d1, upd_ne n1.symm, upd_same]
      rfl
    · rw [upd_ne n2.symm, upd_ne d3, upd_ne n2.symm, upd_same]
      rfl
    · rw [upd_ne n3.symm, upd_same]
      rfl
/-! ### what takes a line -/
def spTake (C : Addr) (f : List Str → Wd → Option Wd) : Sp := fun vs H Q _ => ∃ (r a : Addr) (ws : List Str) (w : Wd), vs = [.ref r, .ref a] ∧ RdAt C H r w ∧ w.Asc ∧ H a = some (.lst (ws.map V.str)) ∧ 0 < ws.length ∧ ws.length ≤ 10000 ∧ (∀ z ∈ ws, z.length ≤ 10000) ∧
  (f ws w = none → ∀ H', KpB r H H' → Q (.bl false) H') ∧ ∀ w', f ws w = some w' → ∀ H', KpB r H H' → RdAt C H' r w' → Q (.bl true) H'
theorem ok_takeRound (T : Txt K mg) : FnOk P w K mg base CX0 2 T.takeRound.f T.takeRound.fd ["self", "words"] (spTake T.C takeRound) := by
  have G1 : FnOk P w K mg base CX0 1 T.numberIn.f T.numberIn.fd ["word"] spNumberIn := ok_numberIn T
  have G2 : FnOk P w K mg base CX0 1 T.isNumber.f T.isNumber.fd ["thing", "low", "high"] spIsNumber := ok_isNumber T
  refine T.takeRound.F.ok scTakeRound (fun vs H Q E h => ?_) (fun cdv A outer s H vs Q E hr h => ?_)
  · obtain ⟨r, a, ws, u, rfl, _⟩ := h
    rfl
  · obtain ⟨r, a, ws, u, rfl, hR, hA, ha, h0, hl, hz, qF, qT⟩ := h
    obtain ⟨dx, ka, sa, ya, sas, was, g1, g2, g3, g4, g5, g6⟩ := hR
    obtain ⟨tR, kR⟩ := T.kROUND
    have nm := scTakeRound.nd
    refine ⟨_, pss_cons (ps_if (PW.pt (pw_or (pt_cmpR op_ne (pe_callB call_len_seq (by rfl) T.bLen PySem.boot_len (pa_cons (pv 1) pa_nil)) pe_int (nomark _)) (pw_or1 (pt_cmpR op_ne (pe_ix ix_list (pv 1) pe_int (fun _ _ => rfl)) pe_str (nomark _)))))
        (pss_one (ps_ret pe_bl)) pss_nil)
      (pss_cons (ps_set (i := 2) nm rfl (.inl rfl) (pe_call G1 hr (by rfl) T.numberIn.g T.numberIn.F.kp T.numberIn.b .nil pass0 (pa_cons (pe_ix ix_list (pv 1) pe_int (fun _ _ => rfl)) pa_nil)))
      (pss_cons (ps_if (pt_not (pt_val (pe_call G2 hr (by rfl) T.isNumber.g T.isNumber.F.kp T.isNumber.b .nil pass0 (pa_cons (pv 2) (pa_cons pe_int (pa_cons (pe_glob (v := .int 6) (by rfl) kR ⟨_, rfl⟩) pa_nil)))))) (pss_one (ps_ret pe_bl)) pss_nil)
      (pss_cons (ps_fld (pv 0) (pv 2) rfl) (pss_one (ps_ret pe_bl))))), ?_⟩
    have bad : ∀ H', Same H H' → ¬ (ws.length = 2 ∧ w0 ws 0 = "round" ∧ isNum (numIn (w0 ws 1)) 1 6 = true) → Q (.bl false) H' := fun H' s2 n => qF (if_neg n) H' (KpB.of s2)
    refine ⟨.ref a, rfl, a, _, rfl, .inl (SqL.of ha), rfl, _, rfl, ?_⟩
    rw [show (2 : Int) = ((2 : Nat) : Int) from rfl, len_int]
    refine ite2 (fun e => iteT (bad H (Same.refl H) fun n => ?_)) (fun e => ?_)
    · have e := notT e
      rw [decide_eq_true n.1] at e
      cases e
    have e2 : ws.length = 2 := of_decide_eq_true (notF e)
    refine rd_ixL (j := 0) rfl (SqL.of ha) rfl (w0_at (by omega)) ⟨rfl, _, rfl, ?_⟩
    refine ite2 (fun e3 => bad H (Same.refl H) fun n => ?_) (fun e3 => ?_)
    · have e3 := notT e3
      rw [n.2.1, decide_eq_true rfl] at e3
      cases e3
    have e4 : w0 ws 0 = "round" := V.str.inj (of_decide_eq_true (notF e3))
    refine rd_ixL (j := 1) rfl (SqL.of ha) rfl (w0_at (by omega)) ⟨w0 ws 1, rfl, hz _ (w0_mem (by omega)), fun H2 s2 => ?_⟩
    refine ⟨_, rfl, _, 1, 6, rfl, _, rfl, ?_⟩
    refine ite2 (fun e5 => bad H2 s2 fun n => ?_) (fun e5 => ?_)
    · have e5 := notT e5
      rw [n.2.2] at e5
      cases e5
    have e6 := notF e5
    obtain ⟨n, hn, _⟩ := isNum_some e6
    refine ⟨_, rfl, .ref r, rfl, r, T.C, dx, _, rfl, s2 _ _ g1, T.cl, T.nSize, (by show 4 < 1000; decide), ?_⟩
    have kk : KpB r H (upd H2 r (.ins T.C dx (putF "size" (optV (numIn (w0 ws 1))) (rf u.size ka sa ya)))) := KpB.wr (KpB.of s2)
    refine qT _ (if_pos ⟨e2, e4, e6⟩) _ kk ⟨dx, ka, sa, ya, sas, was, ?_, kk.tup g1 g2, kk.tup g1 g3, srcs_kp kk g1 g4, kk.tup g1 g5, ways_kp kk g1 g6⟩
    rw [upd_same, hn]
    show some (HO.ins T.C dx (putF "size" (.int n) (rf u.size ka sa ya))) = _
    rw [rf_size]
    rfl
end
end Rt
set_option Elab.async false
set_option linter.all false
set_option maxRecDepth 100000
set_option maxHeartbeats 4000000
/-! take_kinds, take_source, take_way, take. -/
namespace Rt
open PySem PySem.Spec PyProof.Rows L2
theorem cutN (ws : List Str) (n : Nat) (h : n ≤ ws.length) : cutV (ws.map V.str) (some (n : Int)) none = (ws.drop n).map V.str := by
  unfold cutV
  rw [HT.sIx_nat, HT.sIx_none, List.length_map, Nat.min_eq_left h, List.map_drop]
  exact List.take_of_length_le (by rw [List.length_drop, List.length_map]; exact Nat.le_refl _)
/-- parts and ways as data -/
theorem dp_refs {K : PySem.W.Frag} {H : Hp} : ∀ {as : List Addr} {ds : List PyData}, as.length = ds.length → (∀ (j : Nat) (d : PyData), ds[j]? = some d → ∃ a, as[j]? = some a ∧ Dp K H (.ref a) d) → DpAll K H (as.map V.ref) ds
  | [], [], _, _ => .nil
  | a :: r, d :: ds, hl, h => by
    refine .cons ?_ (dp_refs (as := r) (by simpa using hl) fun j e he => ?_)
    · obtain ⟨b, e1, e2⟩ := h 0 d rfl
      obtain rfl : a = b := Option.some.inj e1
      exact e2
    · obtain ⟨b, e1, e2⟩ := h (j + 1) e (by simpa using he)
      exact ⟨b, by simpa using e1, e2⟩
  | [], _ :: _, hl, _ => by simp at hl
  | _ :: _, [], hl, _ => by simp at hl
theorem data_at {α : Type} {f : α → PyData} {l : List α} {i : Nat} {d : PyData} (h : (l.map f)[i]? = some d) : ∃ x, d = f x ∧ l[i]? = some x := by
  rw [List.getElem?_map] at h
  cases e : l[i]? with
  | none => rw [e] at h; cases h
  | some x =>
    rw [e] at h
    exact ⟨x, (Option.some.inj h).symm, rfl⟩
theorem dp_way {K : PySem.W.Frag} {H : Hp} {a : Addr} {y : Wy} (h : WyAt H a y) : Dp K H (.ref a) y.d := by
  obtain ⟨pt, ht, prs, h1, h2, h3, h4⟩ := h
  refine .tup (SqT.of h1) (.cons (.str _) (.cons (.tup (SqT.of h2) (dp_refs (by rw [List.length_map]; exact h3.1) fun j d hd => ?_)) (.cons (.str _) (.cons (.tup (SqT.of h4) (dp_opts K H y.hs)) (.cons (dp_opt K H y.w) .nil)))))
  obtain ⟨p, rfl, hp⟩ := data_at hd
  obtain ⟨b, e1, e2⟩ := h3.2 j p hp
  exact ⟨b, e1, .tup (SqT.of e2) (.cons (.str _) (.cons (dp_opt K H p.a) (.cons (dp_opt K H p.b) .nil)))⟩
theorem dp_ways {K : PySem.W.Frag} {H : Hp} {was : List Addr} {ys : List Wy} (h : WysAt H was ys) : DpAll K H (was.map V.ref) (ys.map Wy.d) :=
  dp_refs (by rw [List.length_map]; exact h.1) fun j d hd => by
    obtain ⟨y, rfl, hy⟩ := data_at hd
    obtain ⟨b, e1, e2⟩ := h.2 j y hy
    exact ⟨b, e1, dp_way e2⟩
theorem okD_way {y : Wy} (h : y.Asc) : okD 3 y.d := by
  refine okD_tup (n := 2) fun d hd => ?_
  simp only [List.mem_cons, List.not_mem_nil, or_false] at hd
  rcases hd with rfl | rfl | rfl | rfl | rfl
  · exact (okD_str h.1).mono (by decide)
  · refine okD_tup (n := 1) fun d hd => ?_
    obtain ⟨p, hp, rfl⟩ := List.mem_map.mp hd
    refine okD_tup (n := 0) fun d hd => ?_
    simp only [List.mem_cons, List.not_mem_nil, or_false] at hd
    rcases hd with rfl | rfl | rfl
    · exact okD_str (h.2.2 p hp)
    · exact okD_opt _
    · exact okD_opt _
  · exact (okD_str h.2.1).mono (by decide)
  · refine (okD_tup (n := 0) fun d hd => ?_).mono (by decide)
    obtain ⟨p, hp, rfl⟩ := List.mem_map.mp hd
    exact okD_opt _
  · exact (okD_opt _).mono (by decide)
theorem okD_ways {ys : List Wy} (h : ∀ y ∈ ys, y.Asc) : okD 4 (.tuple (ys.map Wy.d)) := okD_tup (n := 3) fun d hd => by
  obtain ⟨y, hy, rfl⟩ := List.mem_map.mp hd
  exact okD_way (h y hy)
section
variable {P : Program} {w : World} {K : PySem.W.Frag} {mg : Str → Option Value} {base : Heap}
theorem len_ge {ws : List V} {n : Nat} : decide ((n : Int) ≤ ((ws.length : Nat) : Int)) = decide (n ≤ ws.length) := by
  by_cases c : n ≤ ws.length
  · rw [decide_eq_true c, decide_eq_true (by omega)]
  · rw [decide_eq_false c, decide_eq_false (by omega)]
/-! ### take_kinds -/
theorem ok_takeKinds (T : Txt K mg) : FnOk P w K mg base CX0 3 T.takeKinds.f T.takeKinds.fd ["self", "words"] (spTake T.C takeKinds) := by
  have G1 : FnOk P w K mg base CX0 2 T.kindsFault.f T.kindsFault.fd ["kinds"] spKindsFault := ok_kindsFault T
  refine T.takeKinds.F.ok scTakeKinds (fun vs H Q E h => ?_) (fun cdv A outer s H vs Q E hr h => ?_)
  · obtain ⟨r, a, ws, u, rfl, _⟩ := h
    rfl
  · obtain ⟨r, a, ws, u, rfl, hR, hA, ha, h0, hl, hz, qF, qT⟩ := h
    obtain ⟨dx, ka, sa, ya, sas, was, g1, g2, g3, g4, g5, g6⟩ := hR
    have nm := scTakeKinds.nd
    refine ⟨_, pss_cons (ps_if (PW.pt (pw_or (pt_cmpR op_ne (pe_ix ix_list (pv 1) pe_int (fun _ _ => rfl)) pe_str (nomark _)) (pw_or1 (pt_cmpR op_notN (pe_call G1 hr (by rfl) T.kindsFault.g T.kindsFault.F.kp T.kindsFault.b .nil pass0
          (pa_cons (pe_callTy call_tuple_of (by rfl) T.bTuple boot_tuple (pa_cons (pe_slice sl_list (pv 1) (po_some pe_int) po_none) pa_nil)) pa_nil)) pe_non (nomark _)))))
        (pss_one (ps_ret pe_bl)) pss_nil)
      (pss_cons (ps_fld (pv 0) (pe_callTy call_tuple_of (by rfl) T.bTuple boot_tuple (pa_cons (pe_slice sl_list (pv 1) (po_some pe_int) po_none) pa_nil)) rfl) (pss_one (ps_ret pe_bl))), ?_⟩
    have bad : ∀ H', Same H H' → ¬ (w0 ws 0 = "kinds" ∧ kindsOk (ws.drop 1) = true) → Q (.bl false) H' := fun H' s2 n => qF (if_neg n) H' (KpB.of s2)
    have ec : cutV (ws.map V.str) (some (1 : Int)) none = (ws.drop 1).map V.str := cutN ws 1 (by omega)
    refine rd_ixL (j := 0) rfl (SqL.of ha) rfl (w0_at h0) ⟨rfl, _, rfl, ?_⟩
    refine ite2 (fun e3 => iteT (bad H (Same.refl H) fun n => ?_)) (fun e3 => ?_)
    · have e3 := notT e3
      rw [n.1, decide_eq_true rfl] at e3
      cases e3
    have e4 : w0 ws 0 = "kinds" := V.str.inj (of_decide_eq_true (notF e3))
    refine ⟨.ref a, rfl, _, rfl, a, _, rfl, SqL.of ha, fun p1 n1 => ⟨p1, _, rfl, .inl ⟨SqL.of upd_same, fun p2 n2 => ?_⟩⟩⟩
    have s1 := (same_new (o := .lst (cutV (ws.map V.str) (some 1) none)) n1).trans (same_new (o := .tup (cutV (ws.map V.str) (some 1) none)) n2)
    refine ⟨p2, ws.drop 1, rfl, by rw [upd_same, ec], fun k hk => hz k (List.mem_of_mem_drop hk), fun H2 v s2 fv => ⟨rfl, _, rfl, ?_⟩⟩
    rw [show decide (v = V.non) = kindsOk (ws.drop 1) from fv]
    have s3 := s1.trans s2
    refine ite2 (fun e5 => bad H2 s3 fun n => ?_) (fun e5 => ?_)
    · have e5 := notT e5
      rw [n.2] at e5
      cases e5
    have e6 := notF e5
    refine ⟨.ref a, rfl, _, rfl, a, _, rfl, SqL.of (s3 _ _ ha), fun p3 n3 => ⟨p3, _, rfl, .inl ⟨SqL.of upd_same, fun p4 n4 => ?_⟩⟩⟩
    have s4 := s3.trans ((same_new (o := .lst (cutV (ws.map V.str) (some 1) none)) n3).trans (same_new (o := .tup (cutV (ws.map V.str) (some 1) none)) n4))
    refine ⟨.ref r, rfl, r, T.C, dx, _, rfl, s4 _ _ g1, T.cl, T.nKinds, (by show 4 < 1000; decide), ?_⟩
    have np : r ≠ p4 := ne_of_none (((s3.trans (same_new (o := .lst (cutV (ws.map V.str) (some 1) none)) n3))) _ _ g1) n4
    have kk : KpB r H _ := KpB.wr (o := .ins T.C dx (putF "kinds" (.ref p4) (rf u.size ka sa ya))) (KpB.of s4)
    refine qT _ (if_pos ⟨e4, e6⟩) _ kk ⟨dx, p4, sa, ya, sas, was, ?_, ?_, kk.tup g1 g3, srcs_kp kk g1 g4, kk.tup g1 g5, ways_kp kk g1 g6⟩
    · rw [upd_same, rf_kinds]
    · rw [upd_ne np.symm, upd_same, ec]
/-! ### take_source -/
theorem ok_takeSource (T : Txt K mg) : FnOk P w K mg base CX0 3 T.takeSource.f T.takeSource.fd ["self", "words"] (spTake T.C takeSource) := by
  have G1 : FnOk P w K mg base CX0 2 T.numbersIn.f T.numbersIn.fd ["words"] (spNumbersIn K) := ok_numbersIn T
  have G2 : FnOk P w K mg base CX0 2 T.sourceFault.f T.sourceFault.fd ["size", "kinds", "source", "path"] spSourceFault := ok_sourceFault T
  refine T.takeSource.F.ok scTakeSource (fun vs H Q E h => ?_) (fun cdv A outer s H vs Q E hr h => ?_)
  · obtain ⟨r, a, ws, u, rfl, _⟩ := h
    rfl
  · obtain ⟨r, a, ws, u, rfl, hR, hA, ha, h0, hl, hz, qF, qT⟩ := h
    obtain ⟨dx, ka, sa, ya, sas, was, g1, g2, g3, g4, g5, g6⟩ := hR
    obtain ⟨tS, kS⟩ := T.kSOURCES
    have nm := scTakeSource.nd
    refine ⟨_, pss_cons (ps_if (PW.pt (pw_or (pt_cmpR op_ne (pe_callB call_len_seq (by rfl) T.bLen PySem.boot_len (pa_cons (pv 1) pa_nil)) pe_int (nomark _))
          (pw_or (pt_cmpR op_ge (pe_callB call_len_seq (by rfl) T.bLen PySem.boot_len (pa_cons (pe_fld (pv 0) rfl) pa_nil)) (pe_glob (v := .int 6) (by rfl) kS ⟨_, rfl⟩) (nomark _))
          (pw_or1 (pt_cmpR (op_neD hr.units) (pe_fld (pv 0) rfl) (pe_tup pa_nil) (nomark _))))))
        (pss_one (ps_ret pe_bl)) pss_nil)
      (pss_cons (ps_set (i := 2) nm rfl (.inl rfl) (pe_op op_catA (pe_tup (pa_cons (pe_ix ix_list (pv 1) pe_int (fun _ _ => rfl)) pa_nil)) (pe_call G1 hr (by rfl) T.numbersIn.g T.numbersIn.F.kp T.numbersIn.b .nil pass0 (pa_cons (pe_slice sl_list (pv 1) (po_some pe_int) po_none) pa_nil))))
      (pss_cons (ps_if (pt_cmpR op_notN (pe_call G2 hr (by rfl) T.sourceFault.g T.sourceFault.F.kp T.sourceFault.b .nil pass0 (pa_cons (pe_fld (pv 0) rfl) (pa_cons (pe_fld (pv 0) rfl) (pa_cons (pv 2) (pa_cons (pe_tup pa_nil) pa_nil))))) pe_non (nomark _))
        (pss_one (ps_ret pe_bl)) pss_nil)
      (pss_cons (ps_fld (pv 0) (pe_op op_catA (pe_fld (pv 0) rfl) (pe_tup (pa_cons (pv 2) pa_nil))) rfl) (pss_one (ps_ret pe_bl))))), ?_⟩
    have bad : ∀ H', Same H H' → ¬ (ws.length = 6 ∧ u.ss.length < 6 ∧ u.ws = [] ∧ srcOk u.size u.ks (srcOf ws) = true) → Q (.bl false) H' := fun H' s2 n => qF (if_neg n) H' (KpB.of s2)
    refine ⟨.ref a, rfl, a, _, rfl, .inl (SqL.of ha), rfl, _, rfl, ?_⟩
    rw [show (6 : Int) = ((6 : Nat) : Int) from rfl, len_int]
    refine ite2 (fun e => iteT (bad H (Same.refl H) fun n => ?_)) (fun e => ?_)
    · have e := notT e
      rw [decide_eq_true n.1] at e
      cases e
    have e1 : ws.length = 6 := of_decide_eq_true (notF e)
    refine rd_fld rfl g1 T.cl T.nSources (l_sources _ _ _ _) ⟨sa, _, rfl, .inr (SqT.of g3), _, _, rfl, rfl, _, rfl, ?_⟩
    have hsl : (sas.map V.ref).length = u.ss.length := by rw [List.length_map, g4.1]
    refine ite2 (fun e => iteT (bad H (Same.refl H) fun n => ?_)) (fun e => ?_)
    · have e : (6 : Int) ≤ ((sas.map V.ref).length : Nat) := of_decide_eq_true e
      omega
    have e2 : u.ss.length < 6 := by
      by_cases c : (6 : Int) ≤ ((sas.map V.ref).length : Nat)
      · exact absurd (decide_eq_true c) e
      · omega
    refine ⟨.ref r, rfl, r, T.C, dx, _, _, rfl, g1, T.cl, T.nWays, l_ways _ _ _ _, szr, fun p1 n1 => ?_⟩
    have s1 := same_new (o := .tup []) n1
    refine ⟨_, .tuple [], .tup (SqT.of (s1 _ _ g5)) (dp_ways (WysAt.same s1 g6)), .tup (SqT.of upd_same) .nil, (okD_ways hA.2.2).shaped (by decide), (okD_tup (n := 0) fun d hd => by cases hd).shaped (by decide), _, rfl, ?_⟩
    rw [eqv_nil]
    refine ite2 (fun e => bad _ s1 fun n => ?_) (fun e => ?_)
    · have e := notT e
      rw [n.2.2.1] at e
      cases e
    have e3 : u.ws = [] := by
      have e := notF e
      cases hw : u.ws with
      | nil => rfl
      | cons y r => rw [hw] at e; cases e
    have ec : cutV (ws.map V.str) (some (2 : Int)) none = (ws.drop 2).map V.str := cutN ws 2 (by omega)
    refine rd_tupIx (j := 1) rfl (SqL.of (s1 _ _ ha)) rfl (w0_at (by omega)) fun p2 n2 => ?_
    have s2 := s1.trans (same_new (o := .tup [V.str (w0 ws 1)]) n2)
    refine ⟨.ref a, rfl, _, rfl, a, _, rfl, SqL.of (s2 _ _ ha), fun p3 n3 => ?_⟩
    refine ⟨p3, ws.drop 2, rfl, SqL.of (by rw [upd_same, ec]), fun z hzm => hz z (List.mem_of_mem_drop hzm), by rw [List.length_drop]; omega, fun H3 p4 s3 e4 => ?_⟩
    have t3 := (same_new (o := .lst (cutV (ws.map V.str) (some 2) none)) n3).trans s3
    refine cat_any (t3 _ _ upd_same) e4 (by rw [List.length_map, List.length_map, List.length_drop, e1]; show 1 + (6 - 2) ≤ 100000; decide) fun p5 H4 s4 e5 => ?_
    have s5 := s2.trans (t3.trans s4)
    refine ⟨.ref r, rfl, r, T.C, dx, _, _, rfl, s5 _ _ g1, T.cl, T.nSize, l_size _ _ _ _, .ref r, rfl, r, T.C, dx, _, _, rfl, s5 _ _ g1, T.cl, T.nKinds, l_kinds _ _ _ _, _, rfl, szr, fun p6 n6 => ?_⟩
    have s6 := s5.trans (same_new (o := .tup []) n6)
    have hsv : [V.str (w0 ws 1)] ++ ((ws.drop 2).map numIn).map optV = srcV (srcOf ws) := rfl
    refine ⟨ka, p5, p6, u.size, u.ks, srcOf ws, rfl, s6 _ _ g2, same_new n6 _ _ (by rw [e5, hsv]), by show ((ws.drop 2).map numIn).length = 4; rw [List.length_map, List.length_drop, e1], upd_same, fun H5 v s7 fv => ⟨rfl, _, rfl, ?_⟩⟩
    have s8 := s6.trans s7
    rw [show decide (v = V.non) = srcOk u.size u.ks (srcOf ws) from fv]
    refine ite2 (fun e => bad _ s8 fun n => ?_) (fun e => ?_)
    · have e := notT e
      rw [n.2.2.2] at e
      cases e
    have e9 := notF e
    refine ⟨.ref r, rfl, r, T.C, dx, _, _, rfl, s8 _ _ g1, T.cl, T.nSources, l_sources _ _ _ _, _, rfl, szr, fun p7 n7 => ?_⟩
    have t7 := same_new (o := .tup [V.ref p5]) n7
    refine cat_any (t7 _ _ (s8 _ _ g3)) upd_same (by rw [List.length_map, g4.1]; show _ + 1 ≤ 100000; omega) fun p8 H6 s9 e10 => ?_
    have s10 := s8.trans (t7.trans s9)
    refine ⟨.ref r, rfl, r, T.C, dx, _, rfl, s10 _ _ g1, T.cl, T.nSources, (by show 4 < 1000; decide), ?_⟩
    have kk : KpB r H _ := KpB.wr (o := .ins T.C dx (putF "sources" (.ref p8) (rf u.size ka sa ya))) (KpB.of s10)
    have np : p8 ≠ r := ne_of e10 (s10 _ _ g1) (by intro z; cases z)
    have h5 : H6 p5 = some (.tup (srcV (srcOf ws))) := s9 _ _ (t7 _ _ (s7 _ _ (same_new n6 _ _ (by rw [e5, hsv]))))
    have np5 : p5 ≠ r := ne_of h5 (s10 _ _ g1) (by intro z; cases z)
    refine qT _ (if_pos ⟨e1, e2, e3, e9⟩) _ kk ⟨dx, ka, p8, ya, sas ++ [p5], was, ?_, kk.tup g1 g2, ?_, ?_, kk.tup g1 g5, ways_kp kk g1 g6⟩
    · rw [upd_same, rf_sources]
    · rw [upd_ne np, e10, List.map_append]
      rfl
    · refine ⟨by rw [List.length_append, g4.1]; show _ = (u.ss ++ [srcOf ws]).length; rw [List.length_append]; rfl, fun j s1 hs1 => ?_⟩
      have hs1 : (u.ss ++ [srcOf ws])[j]? = some s1 := hs1
      by_cases hj : j < u.ss.length
      · rw [List.getElem?_append_left hj] at hs1
        obtain ⟨b, b1, b2⟩ := (srcs_kp kk g1 g4).2 j s1 hs1
        exact ⟨b, by rw [List.getElem?_append_left (by rw [g4.1]; exact hj)]; exact b1, b2⟩
      · rw [List.getElem?_append_right (by omega)] at hs1
        have hj2 : j - u.ss.length = 0 := by
          by_cases c : j - u.ss.length = 0
          · exact c
          · rw [List.getElem?_eq_none (by simp; omega)] at hs1
            cases hs1
        rw [hj2] at hs1
        have es : srcOf ws = s1 := Option.some.inj hs1
        subst es
        exact ⟨p5, by rw [List.getElem?_append_right (by rw [g4.1]; omega), g4.1, hj2]; rfl, by rw [upd_ne np5]; exact h5⟩
end
end Rt
set_option Elab.async false
set_option linter.all false
set_option maxRecDepth 100000
set_option maxHeartbeats 4000000
/-! take_way, take. -/
namespace Rt
open PySem PySem.Spec PyProof.Rows L2
section
variable {P : Program} {w : World} {K : PySem.W.Frag} {mg : Str → Option Value} {base : Heap}
theorem ok_takeWay (T : Txt K mg) : FnOk P w K mg base CX0 4 T.takeWay.f T.takeWay.fd ["self", "words"] (spTake T.C takeWay) := by
  have G1 : FnOk P w K mg base CX0 3 T.partsIn.f T.partsIn.fd ["words"] (spPartsIn K) := ok_partsIn T
  have G2 : FnOk P w K mg base CX0 3 T.hoursIn.f T.hoursIn.fd ["word"] spHoursIn := ok_hoursIn T
  have G3 : FnOk P w K mg base CX0 1 T.numberIn.f T.numberIn.fd ["word"] spNumberIn := ok_numberIn T
  have G4 : FnOk P w K mg base CX0 3 T.wayFault.f T.wayFault.fd ["size", "kinds", "way", "path"] spWayFault := ok_wayFault T
  refine T.takeWay.F.ok scTakeWay (fun vs H Q E h => ?_) (fun cdv A outer s H vs Q E hr h => ?_)
  · obtain ⟨r, a, ws, u, rfl, _⟩ := h
    rfl
  · obtain ⟨r, a, ws, u, rfl, hR, hA, ha, h0, hl, hz, qF, qT⟩ := h
    obtain ⟨dx, ka, sa, ya, sas, was, g1, g2, g3, g4, g5, g6⟩ := hR
    obtain ⟨tS, kS⟩ := T.kWAYS
    have hr1 : Room 1 _ := hr.mono (by decide)
    have nm := scTakeWay.nd
    refine ⟨_, pss_cons (ps_if (PW.pt (pw_or (pt_cmpR op_notIn_seq (pe_callB call_len_seq (by rfl) T.bLen PySem.boot_len (pa_cons (pv 1) pa_nil)) (pe_tup (pa_cons pe_int (pa_cons pe_int (pa_cons pe_int pa_nil)))) (by rfl))
          (pw_or1 (pt_cmpR op_ge (pe_callB call_len_seq (by rfl) T.bLen PySem.boot_len (pa_cons (pe_fld (pv 0) rfl) pa_nil)) (pe_glob (v := .int 8) (by rfl) kS ⟨_, rfl⟩) (nomark _)))))
        (pss_one (ps_ret pe_bl)) pss_nil)
      (pss_cons (ps_set (i := 2) nm rfl (.inl rfl) (pe_tup (pa_cons (pe_ix ix_list (pv 1) pe_int (fun _ _ => rfl))
          (pa_cons (pe_call G1 hr (by rfl) T.partsIn.g T.partsIn.F.kp T.partsIn.b .nil pass0 (pa_cons (pe_slice sl_list (pv 1) (po_some pe_int) po_none) pa_nil))
          (pa_cons (pe_ix ix_list (pv 1) pe_int (fun _ _ => rfl))
          (pa_cons (pe_call G2 hr (by rfl) T.hoursIn.g T.hoursIn.F.kp T.hoursIn.b .nil pass0 (pa_cons (pe_ix ix_list (pv 1) pe_int (fun _ _ => rfl)) pa_nil))
          (pa_cons (pe_call G3 hr1 (by rfl) T.numberIn.g T.numberIn.F.kp T.numberIn.b .nil pass0 (pa_cons (pe_ix ix_list (pv 1) pe_int (fun _ _ => rfl)) pa_nil)) pa_nil)))))))
      (pss_cons (ps_if (pt_cmpR op_notN (pe_call G4 hr (by rfl) T.wayFault.g T.wayFault.F.kp T.wayFault.b .nil pass0 (pa_cons (pe_fld (pv 0) rfl) (pa_cons (pe_fld (pv 0) rfl) (pa_cons (pv 2) (pa_cons (pe_tup pa_nil) pa_nil))))) pe_non (nomark _))
        (pss_one (ps_ret pe_bl)) pss_nil)
      (pss_cons (ps_fld (pv 0) (pe_op op_catA (pe_fld (pv 0) rfl) (pe_tup (pa_cons (pv 2) pa_nil))) rfl) (pss_one (ps_ret pe_bl))))), ?_⟩
    have bad : ∀ H', Same H H' → ¬ ((ws.length = 8 ∨ ws.length = 11 ∨ ws.length = 14) ∧ u.ws.length < 8 ∧ wayOk u.size u.ks (wayOf ws) = true) → Q (.bl false) H' := fun H' s2 n => qF (if_neg n) H' (KpB.of s2)
    refine ⟨.ref a, rfl, a, _, rfl, .inl (SqL.of ha), szr, fun p0 n0 => ⟨p0, _, rfl, .inr (SqT.of upd_same), rfl, rfl, _, rfl, ?_⟩⟩
    have s0 := same_new (o := .tup [V.int 8, V.int 11, V.int 14]) n0
    have hin : inV (.int ((ws.map V.str).length : Nat)) [V.int 8, V.int 11, V.int 14] = decide (ws.length = 8 ∨ ws.length = 11 ∨ ws.length = 14) := by
      rw [List.length_map]
      unfold inV
      simp only [List.any_cons, List.any_nil, Bool.or_false, eqV]
      rw [Bool.eq_iff_iff]
      simp only [Bool.or_eq_true, beq_iff_eq, decide_eq_true_eq]
      omega
    refine ite2 (fun e => iteT (bad _ s0 fun n => ?_)) (fun e => ?_)
    · have e := notT e
      rw [hin, decide_eq_true n.1] at e
      cases e
    have e1 : ws.length = 8 ∨ ws.length = 11 ∨ ws.length = 14 := of_decide_eq_true (hin.symm.trans (notF e))
    refine ⟨.ref r, rfl, r, T.C, dx, _, _, rfl, s0 _ _ g1, T.cl, T.nWays, l_ways _ _ _ _, ya, _, rfl, .inr (SqT.of (s0 _ _ g5)), _, _, rfl, rfl, _, rfl, ?_⟩
    have hsl : (was.map V.ref).length = u.ws.length := by rw [List.length_map, g6.1]
    refine ite2 (fun e => bad _ s0 fun n => ?_) (fun e => ?_)
    · have e : (8 : Int) ≤ ((was.map V.ref).length : Nat) := of_decide_eq_true e
      omega
    have e2 : u.ws.length < 8 := by
      by_cases c : (8 : Int) ≤ ((was.map V.ref).length : Nat)
      · exact absurd (decide_eq_true c) e
      · omega
    have ec : cutV (ws.map V.str) (some (5 : Int)) none = (ws.drop 5).map V.str := cutN ws 5 (by omega)
    obtain ⟨m, hm1, hm2, hm3⟩ : ∃ m, ws.length = 5 + 3 * m ∧ (ws.length - 5) / 3 = m ∧ (m = 1 ∨ m = 2 ∨ m = 3) := ⟨(ws.length - 5) / 3, by omega, rfl, by omega⟩
    -- way = (words[1], parts_in(words[5:]), words[2], hours_in(words[3]), number_in(words[4]))
    refine ⟨.ref a, rfl, a, _, 1, _, rfl, rfl, SqL.of (s0 _ _ ha), at_of (j := 1) rfl (w0_at (by omega)), ?_⟩
    refine ⟨.ref a, rfl, _, rfl, a, _, rfl, SqL.of (s0 _ _ ha), fun p1 n1 => ?_⟩
    have s1 := s0.trans (same_new (o := .lst (cutV (ws.map V.str) (some 5) none)) n1)
    refine ⟨p1, ws.drop 5, m, rfl, SqL.of (by rw [upd_same, ec]), fun z hzm => hz z (List.mem_of_mem_drop hzm), by rw [List.length_drop]; omega, hm3, fun H2 pt prs s2 e3 hP => ?_⟩
    have s3 := s1.trans s2
    refine ⟨.ref a, rfl, a, _, 2, _, rfl, rfl, SqL.of (s3 _ _ ha), at_of (j := 2) rfl (w0_at (by omega)), ?_⟩
    refine ⟨.ref a, rfl, a, _, 3, _, rfl, rfl, SqL.of (s3 _ _ ha), at_of (j := 3) rfl (w0_at (by omega)), w0 ws 3, rfl, hz _ (w0_mem (by omega)), fun H3 ht s4 e4 => ?_⟩
    have s5 := s3.trans s4
    refine ⟨.ref a, rfl, a, _, 4, _, rfl, rfl, SqL.of (s5 _ _ ha), at_of (j := 4) rfl (w0_at (by omega)), w0 ws 4, rfl, hz _ (w0_mem (by omega)), fun H4 s6 => ⟨szr, fun wa nwa => ?_⟩⟩
    have s7 := s5.trans s6
    have t6 := s4.trans s6
    have hV : ([V.str (w0 ws 1), V.ref pt, V.str (w0 ws 2), V.ref ht, optV (numIn (w0 ws 4))] : List V) = wyV (wayOf ws) pt ht := rfl
    have t7 := same_new (o := .tup [V.str (w0 ws 1), V.ref pt, V.str (w0 ws 2), V.ref ht, optV (numIn (w0 ws 4))]) nwa
    have hW : WyAt (upd H4 wa (.tup [V.str (w0 ws 1), V.ref pt, V.str (w0 ws 2), V.ref ht, optV (numIn (w0 ws 4))])) wa (wayOf ws) := by
      refine ⟨pt, ht, prs, by rw [upd_same, hV], t7 _ _ (t6 _ _ e3), PrtsAt.same (t6.trans t7) ?_, t7 _ _ (s6 _ _ e4)⟩
      show PrtsAt H2 prs (partsIn (ws.drop 5) ((ws.length - 5) / 3))
      rw [hm2]
      exact hP
    have s8 := s7.trans t7
    refine ⟨.ref r, rfl, r, T.C, dx, _, _, rfl, s8 _ _ g1, T.cl, T.nSize, l_size _ _ _ _, .ref r, rfl, r, T.C, dx, _, _, rfl, s8 _ _ g1, T.cl, T.nKinds, l_kinds _ _ _ _, _, rfl, szr, fun p6 n6 => ?_⟩
    have s9 := s8.trans (same_new (o := .tup []) n6)
    refine ⟨ka, wa, p6, u.size, u.ks, wayOf ws, rfl, s9 _ _ g2, WyAt.same (same_new n6) hW, upd_same, fun H5 v s10 fv => ⟨rfl, _, rfl, ?_⟩⟩
    have s11 := s9.trans s10
    rw [show decide (v = V.non) = wayOk u.size u.ks (wayOf ws) from fv]
    refine ite2 (fun e => bad _ s11 fun n => ?_) (fun e => ?_)
    · have e := notT e
      rw [n.2.2] at e
      cases e
    have e9 := notF e
    refine ⟨.ref r, rfl, r, T.C, dx, _, _, rfl, s11 _ _ g1, T.cl, T.nWays, l_ways _ _ _ _, _, rfl, szr, fun p7 n7 => ?_⟩
    have u7 := same_new (o := .tup [V.ref wa]) n7
    refine cat_any (u7 _ _ (s11 _ _ g5)) upd_same (by rw [List.length_map, g6.1]; show _ + 1 ≤ 100000; omega) fun p8 H6 s12 e10 => ?_
    have s13 := s11.trans (u7.trans s12)
    refine ⟨.ref r, rfl, r, T.C, dx, _, rfl, s13 _ _ g1, T.cl, T.nWays, (by show 4 < 1000; decide), ?_⟩
    have kk : KpB r H _ := KpB.wr (o := .ins T.C dx (putF "ways" (.ref p8) (rf u.size ka sa ya))) (KpB.of s13)
    have k2 : KpB r H6 _ := KpB.wr (o := .ins T.C dx (putF "ways" (.ref p8) (rf u.size ka sa ya))) (KpB.of (Same.refl H6))
    have np : p8 ≠ r := ne_of e10 (s13 _ _ g1) (by intro z; cases z)
    have hW6 : WyAt H6 wa (wayOf ws) := WyAt.same ((same_new n6).trans (s10.trans (u7.trans s12))) hW
    refine qT _ (if_pos ⟨e1, e2, e9⟩) _ kk ⟨dx, ka, sa, p8, sas, was ++ [wa], ?_, kk.tup g1 g2, kk.tup g1 g3, srcs_kp kk g1 g4, ?_, ?_⟩
    · rw [upd_same, rf_ways]
    · rw [upd_ne np, e10, List.map_append]
      rfl
    · refine ⟨by rw [List.length_append, g6.1]; show _ = (u.ws ++ [wayOf ws]).length; rw [List.length_append]; rfl, fun j s1 hs1 => ?_⟩
      have hs1 : (u.ws ++ [wayOf ws])[j]? = some s1 := hs1
      by_cases hj : j < u.ws.length
      · rw [List.getElem?_append_left hj] at hs1
        obtain ⟨b, b1, b2⟩ := (ways_kp kk g1 g6).2 j s1 hs1
        exact ⟨b, by rw [List.getElem?_append_left (by rw [g6.1]; exact hj)]; exact b1, b2⟩
      · rw [List.getElem?_append_right (by omega)] at hs1
        have hj2 : j - u.ws.length = 0 := by
          by_cases c : j - u.ws.length = 0
          · exact c
          · rw [List.getElem?_eq_none (by simp; omega)] at hs1
            cases hs1
        rw [hj2] at hs1
        have es : wayOf ws = s1 := Option.some.inj hs1
        subst es
        exact ⟨wa, by rw [List.getElem?_append_right (by rw [g6.1]; omega), g6.1, hj2]; rfl, way_kp k2 (s13 _ _ g1) hW6⟩
/-! ### take -/
def spTakeL (C : Addr) : Sp := fun vs H Q _ => ∃ (r : Addr) (i : Nat) (l : Str) (w : Wd), vs = [.ref r, .int i, .str l] ∧ RdAt C H r w ∧ w.Asc ∧ l.length ≤ 1000 ∧
  (take i l w = none → ∀ H', KpB r H H' → Q (.bl false) H') ∧ ∀ w', take i l w = some w' → ∀ H', KpB r H H' → RdAt C H' r w' → Q (.bl true) H'
theorem words_pos (l : Str) : 0 < (wordsOf l).length := by
  cases e : wordsOf l with
  | nil => exact absurd e (split_ne l " ")
  | cons a r => exact Nat.zero_lt_succ _
theorem kp_upd {r b : Addr} {H H' : Hp} {xs : List V} (hb : H b = none) (k : KpB r (upd H b (.lst xs)) H') : KpB r H H' := fun c o n h => k c o n (by rw [upd_ne (ne_of_none h hb)]; exact h)
theorem ok_take (T : Txt K mg) : FnOk P w K mg base CX0 5 T.take.f T.take.fd ["self", "at", "line"] (spTakeL T.C) := by
  have G1 : FnOk P w K mg base CX0 2 T.takeRound.f T.takeRound.fd ["self", "words"] (spTake T.C takeRound) := ok_takeRound T
  have G2 : FnOk P w K mg base CX0 3 T.takeKinds.f T.takeKinds.fd ["self", "words"] (spTake T.C takeKinds) := ok_takeKinds T
  have G3 : FnOk P w K mg base CX0 3 T.takeSource.f T.takeSource.fd ["self", "words"] (spTake T.C takeSource) := ok_takeSource T
  have G4 : FnOk P w K mg base CX0 4 T.takeWay.f T.takeWay.fd ["self", "words"] (spTake T.C takeWay) := ok_takeWay T
  refine T.take.F.ok scTake (fun vs H Q E h => ?_) (fun cdv A outer s H vs Q E hr h => ?_)
  · obtain ⟨r, i, l, u, rfl, _⟩ := h
    rfl
  · obtain ⟨r, i, l, u, rfl, hR, hA, hl, qF, qT⟩ := h
    obtain ⟨dx, ka, sa, ya, sas, was, g1, g2⟩ := id hR
    have nm := scTake.nd
    refine ⟨_, pss_cons (ps_set (i := 3) nm rfl (.inl rfl) (pe_split (pv 2) pe_str))
      (pss_cons (ps_if (pt_cmpR op_eq (pv 1) pe_int (nomark _)) (pss_one (ps_ret (pe_meth (pv 0) T.cl T.takeRound.m G1 (hr.mono (by decide)) T.takeRound.b .nil pass0 (pa_cons (pv 3) pa_nil)))) pss_nil)
      (pss_cons (ps_if (pt_cmpR op_eq (pv 1) pe_int (nomark _)) (pss_one (ps_ret (pe_meth (pv 0) T.cl T.takeKinds.m G2 (hr.mono (by decide)) T.takeKinds.b .nil pass0 (pa_cons (pv 3) pa_nil)))) pss_nil)
      (pss_cons (ps_if (pt_cmpR op_eq (pe_ix ix_list (pv 3) pe_int (fun _ _ => rfl)) pe_str (nomark _)) (pss_one (ps_ret (pe_meth (pv 0) T.cl T.takeSource.m G3 (hr.mono (by decide)) T.takeSource.b .nil pass0 (pa_cons (pv 3) pa_nil)))) pss_nil)
      (pss_one (ps_ret (pe_and (pe_cmpR op_eq (pe_ix ix_list (pv 3) pe_int (fun _ _ => rfl)) pe_str (nomark _)) (pe_one (pe_meth (pv 0) T.cl T.takeWay.m G4 (hr.mono (by decide)) T.takeWay.b .nil pass0 (pa_cons (pv 3) pa_nil))))))))), ?_⟩
    refine ⟨.str l, rfl, ⟨l, rfl⟩, l, sp1, rfl, rfl, by decide +kernel, sz_le (by omega), fun p np => ?_⟩
    have s1 := same_new (o := .lst ((wordsOf l).map V.str)) np
    have hR1 := RdAt.same s1 hR
    have g1' := s1 _ _ g1
    have wl : (wordsOf l).length ≤ 10000 := Nat.le_trans (split_le l sp1) (by omega)
    have wz : ∀ z ∈ wordsOf l, z.length ≤ 10000 := fun z hz => Nat.le_trans (split_part hz) (by omega)
    have no : ∀ {f : Str}, ¬ ("size" : Str) = f → ¬ ("kinds" : Str) = f → ¬ ("sources" : Str) = f → ¬ ("ways" : Str) = f → (rf u.size ka sa ya).lookup f = none := fun h1 h2 h3 h4 => l_none _ _ _ _ h1 h2 h3 h4
    have wp := words_pos l
    refine ⟨_, rfl, rfl, _, rfl, ?_⟩
    refine ite2 (fun e => ?_) (fun e => ?_)
    · have ei : i = 0 := by have := V.int.inj (of_decide_eq_true e); omega
      subst ei
      refine ⟨.ref r, rfl, r, dx, _, rfl, g1', no (by decide +kernel) (by decide +kernel) (by decide +kernel) (by decide +kernel), .ref p, rfl, r, p, wordsOf l, u, rfl, hR1, hA, upd_same, wp, wl, wz, fun f H' k => ?_, fun w' f H' k hR' => ?_⟩
      · exact qF f H' (kp_upd np k)
      · exact qT w' f H' (kp_upd np k) hR'
    have i0 : i ≠ 0 := fun z => e (by rw [z]; exact decide_eq_true rfl)
    refine ⟨_, rfl, rfl, _, rfl, ?_⟩
    refine ite2 (fun e => ?_) (fun e => ?_)
    · have ei : i = 1 := by have := V.int.inj (of_decide_eq_true e); omega
      subst ei
      refine ⟨.ref r, rfl, r, dx, _, rfl, g1', no (by decide +kernel) (by decide +kernel) (by decide +kernel) (by decide +kernel), .ref p, rfl, r, p, wordsOf l, u, rfl, hR1, hA, upd_same, wp, wl, wz, fun f H' k => ?_, fun w' f H' k hR' => ?_⟩
      · exact qF f H' (kp_upd np k)
      · exact qT w' f H' (kp_upd np k) hR'
    have i1 : i ≠ 1 := fun z => e (by rw [z]; exact decide_eq_true rfl)
    have et : take i l u = if w0 (wordsOf l) 0 = "source" then takeSource (wordsOf l) u else if w0 (wordsOf l) 0 = "way" then takeWay (wordsOf l) u else none := by
      unfold take
      rw [if_neg i0, if_neg i1]
    refine rd_ixL (j := 0) rfl (SqL.of upd_same) rfl (w0_at wp) ⟨rfl, _, rfl, ?_⟩
    refine ite2 (fun e => ?_) (fun e => ?_)
    · have es : w0 (wordsOf l) 0 = "source" := V.str.inj (of_decide_eq_true e)
      rw [if_pos es] at et
      refine ⟨.ref r, rfl, r, dx, _, rfl, g1', no (by decide +kernel) (by decide +kernel) (by decide +kernel) (by decide +kernel), .ref p, rfl, r, p, wordsOf l, u, rfl, hR1, hA, upd_same, wp, wl, wz, fun f H' k => ?_, fun w' f H' k hR' => ?_⟩
      · exact qF (et.trans f) H' (kp_upd np k)
      · exact qT w' (et.trans f) H' (kp_upd np k) hR'
    have es : ¬ w0 (wordsOf l) 0 = "source" := fun z => e (decide_eq_true (congrArg V.str z))
    rw [if_neg es] at et
    refine rd_ixL (j := 0) rfl (SqL.of upd_same) rfl (w0_at wp) ⟨rfl, _, rfl, ?_⟩
    refine ite2 (fun e => ?_) (fun e => ?_)
    · have es : w0 (wordsOf l) 0 = "way" := V.str.inj (of_decide_eq_true e)
      rw [if_pos es] at et
      refine ⟨.ref r, rfl, r, dx, _, rfl, g1', no (by decide +kernel) (by decide +kernel) (by decide +kernel) (by decide +kernel), .ref p, rfl, r, p, wordsOf l, u, rfl, hR1, hA, upd_same, wp, wl, wz, fun f H' k => ?_, fun w' f H' k hR' => ?_⟩
      · exact qF (et.trans f) H' (kp_upd np k)
      · exact qT w' (et.trans f) H' (kp_upd np k) hR'
    · have es : ¬ w0 (wordsOf l) 0 = "way" := fun z => e (decide_eq_true (congrArg V.str z))
      rw [if_neg es] at et
      exact qF et _ (KpB.of s1)
end
end Rt
set_option Elab.async false
set_option linter.all false
set_option maxRecDepth 100000
set_option maxHeartbeats 4000000
/-! NoText, read_world. -/
namespace Rt
open PySem PySem.Spec PyProof.Rows L2
theorem readFrom_cons (i : Nat) (r : Wd) (l : Str) (a : List Str) : readFrom i r (l :: a) = match take i l r with | none => .inl i | some r' => readFrom (i + 1) r' a := rfl
theorem readFrom_app : ∀ (a b : List Str) (i : Nat) (r : Wd), readFrom i r (a ++ b) = match readFrom i r a with
    | .inl k => .inl k
    | .inr r' => readFrom (i + a.length) r' b
  | [], b, i, r => rfl
  | l :: a, b, i, r => by
    rw [List.cons_append, readFrom_cons, readFrom_cons]
    cases take i l r with
    | none => rfl
    | some r1 =>
      show readFrom (i + 1) r1 (a ++ b) = _
      rw [readFrom_app a b (i + 1) r1, List.length_cons, show i + 1 + a.length = i + (a.length + 1) by omega]
theorem readFrom_step {ls : List Str} {i : Nat} {l : Str} {w w' : Wd} (h : readFrom 0 wd0 (ls.take i) = .inr w) (hl : ls[i]? = some l) (e : take i l w = some w') : readFrom 0 wd0 (ls.take (i + 1)) = .inr w' := by
  have hi := (List.getElem?_eq_some_iff.mp hl).1
  rw [List.take_add_one, hl, Option.toList_some, readFrom_app, h]
  show readFrom (0 + (ls.take i).length) w [l] = _
  rw [List.length_take, Nat.min_eq_left (by omega), Nat.zero_add]
  unfold readFrom
  rw [e]
  rfl
theorem readFrom_stop {ls : List Str} {i : Nat} {l : Str} {w : Wd} (h : readFrom 0 wd0 (ls.take i) = .inr w) (hl : ls[i]? = some l) (e : take i l w = none) : readS ls = .inl i := by
  have hi := (List.getElem?_eq_some_iff.mp hl).1
  have ed : ls = ls.take i ++ (l :: ls.drop (i + 1)) := by
    have q := List.drop_eq_getElem_cons hi
    rw [(List.getElem?_eq_some_iff.mp hl).2] at q
    rw [← q, List.take_append_drop]
  have er : readFrom 0 wd0 ls = .inl i := by
    rw [ed, readFrom_app, h]
    show readFrom (0 + (ls.take i).length) w (l :: ls.drop (i + 1)) = _
    rw [List.length_take, Nat.min_eq_left (by omega), Nat.zero_add]
    unfold readFrom
    rw [e]
  unfold readS
  rw [er]
section
variable {P : Program} {w : World} {K : PySem.W.Frag} {mg : Str → Option Value} {base : Heap}
def spNT (C : Addr) : Sp := fun vs H Q _ => ∃ (a : Addr) (v : V), vs = [.ref a, v] ∧ H a = some (exo a C none) ∧ ∀ dx, H dx = none → dx ≠ a → Q .non (upd (upd H dx (exd dx [("line", v)])) a (exo a C (some dx)))
theorem ok_NT (T : Txt K mg) : FnOk P w K mg base CX0 1 T.fN T.fdN ["self", "line"] (spNT T.CN) := by
  refine T.FN.ok scNTinit (fun vs H Q E h => ?_) (fun cdv A outer s H vs Q E hr h => ?_)
  · obtain ⟨a, v, rfl, _⟩ := h
    rfl
  · obtain ⟨a, v, rfl, ha, q⟩ := h
    refine ⟨_, pss_one (ps_ost (pv 0) (pv 1)), ?_⟩
    exact ⟨v, rfl, .ref a, rfl, a, T.CN, rfl, T.oex, T.nLine, .inl ⟨ha, fun dx n1 n2 => q dx n1 n2⟩⟩
/-- what a refusal NoText(v) leaves -/
theorem rd_mkNT {H : Hp} {σ : L2.St} {C : Addr} {ta : TA} {v : V} {Q : XK} (ht : ∀ R : List V → Hp → Prop, R [v] H → ta σ H R) (h : ∀ d H', Same H H' → H d = none → H' d = some (.xd [("line", v)]) → Q (.ref C) (some d) H') : tMkO C (spNT C) [] ta σ H Q := by
  refine ht _ ⟨by show 1 ≤ 1000; decide, fun a na => ⟨a, v, rfl, upd_same, fun dx n1 n2 => ⟨rfl, dx, [("line", v)], upd_same, by rw [upd_ne n2, upd_same], ?_, ?_⟩⟩⟩
  · rw [upd_ne n2] at n1
    exact n1
  · have nd : H dx = none := by
      rw [upd_ne n2] at n1
      exact n1
    refine h dx _ (fun b o e => ?_) nd upd_same
    have b1 : b ≠ a := ne_of_none e na
    have b2 : b ≠ dx := ne_of_none e nd
    rw [upd_ne b2, del_ne b1, upd_ne b1, upd_ne b2, upd_ne b1]
    exact e
/-! ### read_world -/
def spReadWorld (CN : Addr) : Sp := fun vs H Q E => ∃ (t : Str) (ls : List Str), vs = [.str t] ∧ Txt.split t "\n" = ls ∧ t.length ≤ 100000 ∧ ls.length ≤ 1000 ∧ (∀ l ∈ ls, l.length ≤ 1000) ∧ (∀ l ∈ ls, Rt.Asc l) ∧
  (∀ k : Nat, readS ls = .inl k → ∀ H' d, Same H H' → H d = none → H' d = some (.xd [("line", .int k)]) → E (.ref CN) (some d) H') ∧ ∀ u, readS ls = .inr u → ∀ H' p, Same H H' → H p = none → WdAt H' p u → Q (.ref p) H'
theorem ok_readWorld (T : Txt K mg) : FnOk P w K mg base (L2.CX P w) 6 T.readWorld.f T.readWorld.fd ["text"] (spReadWorld T.CN) := by
  have G1 : FnOk P w K mg base CX0 5 T.take.f T.take.fd ["self", "at", "line"] (spTakeL T.C) := ok_take T
  have G2 : FnOk P w K mg base CX0 1 T.rInit.f T.rInit.fd ["self"] (spRInit T.C) := ok_rInit T
  have G3 : FnOk P w K mg base CX0 1 T.fN T.fdN ["self", "line"] (spNT T.CN) := ok_NT T
  refine T.readWorld.F.okX scReadWorld (fun vs H Q E h => ?_) (fun cdv A outer s H vs Q E hr h => ?_)
  · obtain ⟨t, ls, rfl, _⟩ := h
    rfl
  · obtain ⟨t, ls, rfl, hls, ht, hl, hz, hA, qE, qQ⟩ := h
    have nm := scReadWorld.nd
    refine ⟨_, pss_cons (ps_if (pt_not (pt_val (pe_isi (i := 0) rfl (.inl rfl) (by rfl) T.bIsinstance (by rfl) T.bStr boot_str))) (pss_one ps_never) pss_nil)
      (pss_cons (ps_set (i := 1) nm rfl (.inl rfl) (pe_split (pv 0) pe_str))
      (pss_cons (ps_set (i := 2) nm rfl (.inl rfl) (pe_make0 T.rmk G2 (hr.mono (by decide)) (by rfl) T.mgC T.rInit.b .nil pass0))
      (pss_cons (ps_for (passes_of rfl) rfl (pi_enum (by rfl) T.bEnumerate (pa_cons (pv 1) pa_nil)) (pg_tup rfl (pgs_cons (pg_name (i := 3) nm rfl (.inl rfl)) (pgs_cons (pg_name (i := 4) nm rfl (.inl rfl)) pgs_nil)))
        (pss_one (ps_if (pt_not (pt_val (pe_meth (pv 2) T.cl T.take.m G1 hr T.take.b .nil pass0 (pa_cons (pv 3) (pa_cons (pv 4) pa_nil)))))
          (pss_one (ps_raise rfl (takes_of rfl rfl rfl rfl) (pmk_oex T.oex T.iN T.tN G3 (hr.mono (by decide)) T.bN .nil pass0 (by rfl) T.mgN (pa_cons (pv 3) pa_nil)))) pss_nil)))
      (pss_cons (ps_if (pt_cmpR op_lt (pe_callB call_len_seq (by rfl) T.bLen PySem.boot_len (pa_cons (pv 1) pa_nil)) pe_int (nomark _))
          (pss_one (ps_raise rfl (takes_of rfl rfl rfl rfl) (pmk_oex T.oex T.iN T.tN G3 (hr.mono (by decide)) T.bN .nil pass0 (by rfl) T.mgN (pa_cons (pe_callB call_len_seq (by rfl) T.bLen PySem.boot_len (pa_cons (pv 1) pa_nil)) pa_nil)))) pss_nil)
      (pss_one (ps_ret (pe_tup (pa_cons (pe_fld (pv 2) rfl) (pa_cons (pe_fld (pv 2) rfl) (pa_cons (pe_fld (pv 2) rfl) (pa_cons (pe_fld (pv 2) rfl) pa_nil))))))))))), ?_⟩
    refine isi_str t rfl ⟨_, rfl, iteF ?_⟩
    refine ⟨.str t, rfl, ⟨t, rfl⟩, t, "\n", rfl, rfl, by decide +kernel, Nat.le_trans (Nat.add_le_add_right ht 2) (by decide), fun lp nlp => ?_⟩
    rw [hls]
    have s1 := same_new (o := .lst (ls.map V.str)) nlp
    intro r dx nr ndx nxr
    have hi0 : (upd (upd (upd H lp (.lst (ls.map V.str))) dx (.own r)) r (.ins T.C dx [])) r = some (.ins T.C dx []) := upd_same
    refine ⟨r, dx, rfl, hi0, fun H2 k2 hR2 => ⟨rfl, ?_⟩⟩
    have nrH : H r = none := s1.free nr
    have k1 : KpB r (upd H lp (.lst (ls.map V.str))) H2 := fun b o n e => k2 b o n (by rw [upd_ne n, upd_ne (ne_of_none e ndx)]; exact e)
    have sm : ∀ {H' : Hp}, KpB r (upd H lp (.lst (ls.map V.str))) H' → Same H H' := fun {H'} k b o e => k b o (ne_of_none e nrH) (s1 b o e)
    have hlp : ∀ {H' : Hp}, KpB r (upd H lp (.lst (ls.map V.str))) H' → H' lp = some (.lst (ls.map V.str)) := fun {H'} k => k lp _ (ne_of_none upd_same nr) upd_same
    refine ⟨.ref lp, rfl, lp, _, rfl, SqL.of (hlp k1), for_it walk_enum (fun i σ H3 => ∃ y3 y4 u, σ = [some (.str t), some (.ref lp), some (.ref r), y3, y4] ∧ KpB r (upd H lp (.lst (ls.map V.str))) H3 ∧ RdAt T.C H3 r u ∧ u.Asc ∧ readFrom 0 wd0 (ls.take i) = .inr u)
      ⟨none, none, wd0, rfl, k1, hR2, wd0_asc, rfl⟩ (fun i σ H3 _ ⟨_, _, _, _, k3, _⟩ => SqL.of (hlp k3)) ?_ ?_⟩
    · rintro i x σ H3 H4 hi ⟨y3, y4, u, rfl, k3, hR3, hu, hrf⟩ ⟨T1, v1, v2, rfl, nT, rfl, e1, e2⟩
      rw [List.length_map] at hi
      have ev1 : v1 = .int (i : Nat) := (Option.some.inj e1).symm
      subst ev1
      obtain ⟨l, rfl, hli⟩ := strs_at e2
      have lm := List.mem_of_getElem? hli
      have sT := same_new (o := .tup [V.int (i : Nat), V.str l]) nT
      refine ⟨T1, [V.int (i : Nat), V.str l], rfl, SqT.of upd_same, rfl, _, _, rfl, _, _, rfl, rfl, ?_⟩
      obtain ⟨dx3, ka, sa, ya, sas, was, g1, g2⟩ := id hR3
      refine ⟨.ref r, rfl, r, dx3, _, rfl, sT _ _ g1, l_none _ _ _ _ (by decide +kernel) (by decide +kernel) (by decide +kernel) (by decide +kernel), .int (i : Nat), rfl, .str l, rfl, r, i, l, u, rfl, RdAt.same sT hR3, hu, hz l lm, fun et H5 k5 => ⟨_, rfl, ?_⟩, fun u' et H5 k5 hR5 => ⟨_, rfl, ?_⟩⟩
      · refine iteT (rd_mkNT (v := .int (i : Nat)) (fun R h => ⟨_, rfl, h⟩) fun d H6 s6 n6 e6 => ?_)
        have k4 : KpB r (upd H lp (.lst (ls.map V.str))) H5 := k3.trans ((KpB.of sT).trans k5)
        exact qE i (readFrom_stop hrf hli et) H6 d ((sm k4).trans s6) ((sm k4).free n6) e6
      · exact iteF ⟨_, _, u', rfl, k3.trans ((KpB.of sT).trans k5), hR5, take_asc (hA l lm) hu et, readFrom_step hrf hli et⟩
    · rintro σ H3 ⟨y3, y4, u, rfl, k3, hR3, hu, hrf⟩
      rw [List.length_map, List.take_length] at hrf
      refine ⟨.ref lp, rfl, lp, _, rfl, .inl (SqL.of (hlp k3)), _, _, rfl, rfl, _, rfl, ?_⟩
      rw [List.length_map]
      refine ite2 (fun e => ?_) (fun e => ?_)
      · have hl2 : ls.length < 2 := by have := of_decide_eq_true e; omega
        refine rd_mkNT (v := .int (ls.length : Nat)) (fun R h => ⟨.ref lp, rfl, lp, _, rfl, .inl (SqL.of (hlp k3)), by rw [List.length_map]; exact h⟩) fun d H6 s6 n6 e6 => ?_
        refine qE ls.length ?_ H6 d ((sm k3).trans s6) ((sm k3).free n6) e6
        unfold readS
        rw [hrf]
        exact if_pos hl2
      · have hl2 : ¬ ls.length < 2 := fun z => e (decide_eq_true (by omega))
        obtain ⟨dx3, ka, sa, ya, sas, was, g1, g2, g3, g4, g5, g6⟩ := hR3
        refine ⟨.ref r, rfl, r, T.C, dx3, _, _, rfl, g1, T.cl, T.nSize, l_size _ _ _ _, .ref r, rfl, r, T.C, dx3, _, _, rfl, g1, T.cl, T.nKinds, l_kinds _ _ _ _, .ref r, rfl, r, T.C, dx3, _, _, rfl, g1, T.cl, T.nSources, l_sources _ _ _ _,
          .ref r, rfl, r, T.C, dx3, _, _, rfl, g1, T.cl, T.nWays, l_ways _ _ _ _, szr, fun p np => ?_⟩
        have sp := same_new (o := .tup [V.int u.size, V.ref ka, V.ref sa, V.ref ya]) np
        refine qQ u ?_ _ p ((sm k3).trans sp) ((sm k3).free np) ⟨ka, sa, ya, sas, was, upd_same, sp _ _ g2, sp _ _ g3, SrcsAt.same sp g4, sp _ _ g5, WysAt.same sp g6⟩
        unfold readS
        rw [hrf]
        exact if_neg hl2
end
end Rt
set_option Elab.async false
set_option linter.all false
set_option maxRecDepth 100000
set_option maxHeartbeats 4000000
/-! _law_read. -/
namespace Rt
open PySem PySem.Spec PyProof.Rows L2
section
variable {P : Program} {w : World} {K : PySem.W.Frag} {mg : Str → Option Value} {base : Heap}
def spRead : Sp := fun vs H Q _ => ∃ (t : Str) (ls : List Str), vs = [.str t] ∧ Txt.split t "\n" = ls ∧ t.length ≤ 100000 ∧ ls.length ≤ 1000 ∧ (∀ l ∈ ls, l.length ≤ 1000) ∧ (∀ l ∈ ls, Rt.Asc l) ∧
  (∀ k : Nat, readS ls = .inl k → ∀ H', Same H H' → Q (.int k) H') ∧ ∀ u, readS ls = .inr u → ∀ H' p, Same H H' → H p = none → WdAt H' p u → Q (.ref p) H'
theorem ok_read (T : Txt K mg) : FnOk P w K mg base CX0 7 T.read.f T.read.fd ["_law_text"] spRead := by
  have G1 : FnOk P w K mg base (L2.CX P w) 6 T.readWorld.f T.readWorld.fd ["text"] (spReadWorld T.CN) := ok_readWorld T
  refine T.read.F.ok scRead (fun vs H Q E h => ?_) (fun cdv A outer s H vs Q E hr h => ?_)
  · obtain ⟨t, ls, rfl, _⟩ := h
    rfl
  · obtain ⟨t, ls, rfl, hls, ht, hl, hz, hA, q1, q2⟩ := h
    have nm := scRead.nd
    refine ⟨_, pss_cons (ps_set (i := 1) nm rfl (.inl rfl) pe_non)
      (pss_cons (ps_try_as (i := 2) rfl rfl nm rfl rfl ⟨rfl, by decide, .inl T.mgN⟩ takes0
        (fun W pn xe tk _ => pss_one (ps_set (i := 1) nm rfl (.inl rfl) (pe_callS G1 hr (by rfl) T.readWorld.g T.readWorld.F.kp T.readWorld.b (fun σ => passAt tk σ) (pa_cons (pv 0) pa_nil))))
        (fun a oe cls d pn hz hf => pss_one (ps_set (i := 1) nm rfl (.inl rfl) (pe_xf T.xf T.nLine hz hf (pv 2)))))
      (pss_one (ps_ret (pv 1)))), ?_⟩
    refine ⟨.str t, rfl, t, ls, rfl, hls, ht, hl, hz, hA, fun k e H' d s1 nd hd => ?_, fun u e H' p s1 np hp => ?_⟩
    · refine ⟨true, T.exm, fun _ a ha => ?_, fun q => Bool.noConfusion q⟩
      exact ⟨.ref a, rfl, rfl, rfl, d, _, _, rfl, hd, rfl, .int (k : Nat), rfl, q1 k e H' s1⟩
    · exact ⟨.ref p, rfl, q2 u e H' p s1 np hp⟩
end
end Rt
set_option Elab.async false
set_option linter.all false
set_option maxRecDepth 100000
set_option maxHeartbeats 4000000
/-! _law_draws, _law_next. -/
namespace Rt
open PySem PySem.Spec PyProof.Rows L2
/-- all but what stands at d and at r is kept -/
def KpD (d r : Addr) (H H' : Hp) : Prop := ∀ b o, b ≠ d → b ≠ r → H b = some o → H' b = some o
theorem KpD.of {d r : Addr} {H H' : Hp} (e : Same H H') : KpD d r H H' := fun b o _ _ h => e b o h
theorem KpD.refl (d r : Addr) (H : Hp) : KpD d r H H := fun _ _ _ _ h => h
theorem KpD.trans {d r : Addr} {H H1 H2 : Hp} (a : KpD d r H H1) (b : KpD d r H1 H2) : KpD d r H H2 := fun c o n1 n2 h => b c o n1 n2 (a c o n1 n2 h)
theorem KpD.wd {d r : Addr} {H H' : Hp} {o : HO} (e : KpD d r H H') : KpD d r H (upd H' d o) := fun b u n1 n2 h => by
  rw [upd_ne n1]
  exact e b u n1 n2 h
theorem KpD.wr {d r : Addr} {H H' : Hp} {o : HO} (e : KpD d r H H') : KpD d r H (upd H' r o) := fun b u n1 n2 h => by
  rw [upd_ne n2]
  exact e b u n1 n2 h
/-- what is drawn from: the list at d, its cells at c, its rests at r, n draws at most so far -/
def Drw (H : Hp) (c d r : Addr) (n : Nat) : Prop := ∃ (cs rs : List Int) (t m : Int), H d = some (.lst [.ref c, .int t, .ref r, .int m]) ∧ H c = some (.lst (cs.map V.int)) ∧ H r = some (.lst (rs.map V.int)) ∧
  c ≠ d ∧ c ≠ r ∧ r ≠ d ∧ cs.length = rs.length ∧ 0 < cs.length ∧ cs.length ≤ 100 ∧ 0 ≤ t ∧ t ≤ n
section
variable {H H' H0 : Hp} {c d r p : Addr} {n m : Nat} {o : HO}
theorem Drw.mono (h : Drw H c d r n) (e : n ≤ m) : Drw H c d r m := by
  obtain ⟨cs, rs, t, k, h1, h2, h3, h4, h5, h6, h7, h8, h9, h10, h11⟩ := h
  exact ⟨cs, rs, t, k, h1, h2, h3, h4, h5, h6, h7, h8, h9, h10, by omega⟩
theorem Drw.same (e : Same H H') (h : Drw H c d r n) : Drw H' c d r n := by
  obtain ⟨cs, rs, t, k, h1, h2, h3, h4⟩ := h
  exact ⟨cs, rs, t, k, e _ _ h1, e _ _ h2, e _ _ h3, h4⟩
/-- p is none of the three -/
def Far (p c d r : Addr) : Prop := p ≠ c ∧ p ≠ d ∧ p ≠ r
theorem Drw.new (h : Drw H c d r n) (e : H p = none) : Far p c d r := by
  obtain ⟨cs, rs, t, k, h1, h2, h3, h4⟩ := h
  exact ⟨(ne_of_none h2 e).symm, (ne_of_none h1 e).symm, (ne_of_none h3 e).symm⟩
theorem Drw.wr (h : Drw H c d r n) (f : Far p c d r) : Drw (upd H p o) c d r n := by
  obtain ⟨cs, rs, t, k, h1, h2, h3, h4⟩ := h
  exact ⟨cs, rs, t, k, by rw [upd_ne f.2.1.symm]; exact h1, by rw [upd_ne f.1.symm]; exact h2, by rw [upd_ne f.2.2.symm]; exact h3, h4⟩
theorem KpD.at (k : KpD d r H H') (f : Far p c d r) (h : H p = some o) : H' p = some o := k p o f.2.1 f.2.2 h
/-- what stands since H0: all kept but the list and its rests, n draws at most -/
def DR (c d r : Addr) (H0 : Hp) (n : Nat) (H : Hp) : Prop := KpD d r H0 H ∧ Drw H c d r n
theorem DR.start (h : Drw H c d r n) : DR c d r H n H := ⟨KpD.refl _ _ _, h⟩
theorem DR.mono (h : DR c d r H0 n H) (e : n ≤ m) : DR c d r H0 m H := ⟨h.1, h.2.mono e⟩
theorem DR.same (h : DR c d r H0 n H) (e : Same H H') : DR c d r H0 n H' := ⟨h.1.trans (.of e), h.2.same e⟩
theorem DR.call (h : DR c d r H0 n H) (k : KpD d r H H') (w : Drw H' c d r m) : DR c d r H0 m H' := ⟨h.1.trans k, w⟩
theorem DR.wr (h : DR c d r H0 n H) (e : H0 p = none) (f : Far p c d r) : DR c d r H0 n (upd H p o) := ⟨fun b u n1 n2 q => by
  rw [upd_ne (ne_of_none q e)]
  exact h.1 b u n1 n2 q, h.2.wr f⟩
end
theorem map_set {α β : Type} (f : α → β) (x : α) : ∀ (xs : List α) (i : Nat), (xs.map f).set i (f x) = (xs.set i x).map f
  | [], _ => rfl
  | _ :: _, 0 => rfl
  | a :: r, i + 1 => by
    show f a :: (r.map f).set i (f x) = f a :: (r.set i x).map f
    rw [map_set f x r i]
theorem cutV_map {xs : List Int} (lo hi : Option Int) : ∃ ys : List Int, cutV (xs.map V.int) lo hi = ys.map V.int := by
  unfold cutV
  rw [List.length_map]
  exact ⟨_, by rw [List.map_take, List.map_drop]⟩
section
variable {P : Program} {w : World} {K : PySem.W.Frag} {mg : Str → Option Value} {base : Heap}
def spDraws (K : PySem.W.Frag) : Sp := fun vs H Q _ => ∃ (a : Addr) (ns : List Int), vs = [.ref a, .int 0] ∧ SqL K H a (ns.map V.int) ∧ ∀ c d r H', Same H H' → H d = none → H r = none → Drw H' c d r 0 → Q (.ref d) H'
def spNext : Sp := fun vs H Q _ => ∃ (c d r : Addr) (m n : Nat), vs = [.ref d, .int m] ∧ Drw H c d r n ∧ n ≤ 1000000 ∧ 0 < m ∧ m ≤ 1000000 ∧ ∀ (k : Nat) H', k < m → KpD d r H H' → Drw H' c d r (n + 1) → Q (.int k) H'
theorem mod_lt {x : Int} {m : Nat} (h : 0 < m) : ∃ k : Nat, x % (m : Int) = (k : Int) ∧ k < m := by
  have h1 := Int.emod_nonneg x (show (m : Int) ≠ 0 by omega)
  have h2 := Int.emod_lt_of_pos x (show (0 : Int) < m by omega)
  exact ⟨(x % (m : Int)).toNat, by omega, by omega⟩
theorem ixN_nat {n k : Nat} (h : k < n) : ixN n (k : Int) = some k := by
  unfold ixN
  rw [if_pos (by omega), if_pos (by omega)]
  simp
theorem ok_next (T : Txt K mg) : FnOk P w K mg base CX0 1 T.next.f T.next.fd ["_law_drawn", "_law_many"] spNext := by
  refine T.next.F.ok scNext (fun vs H Q E h => ?_) (fun cdv A outer s H vs Q E hr h => ?_)
  · obtain ⟨c, d, r, m, n, rfl, _⟩ := h
    rfl
  · obtain ⟨c, d, r, m, n, rfl, ⟨cs, rs, t, y, hd, hc, hrs, n1, n2, n3, hl, hp, hm, t0, tn⟩, hn, hm0, hm1, q⟩ := h
    have nm := scNext.nd
    refine ⟨_, pss_cons (ps_asg (pv 0) (pg_unl rfl (pgs_cons (pg_name (i := 2) nm rfl (.inl rfl)) (pgs_cons (pg_name (i := 3) nm rfl (.inl rfl)) (pgs_cons (pg_name (i := 4) nm rfl (.inl rfl)) (pgs_cons (pg_name (i := 5) nm rfl (.inl rfl)) pgs_nil))))))
      (pss_cons (ps_set (i := 6) nm rfl (.inl rfl) (pe_op op_mod (pv 3) (pe_callB call_len_seq (by rfl) T.bLen PySem.boot_len (pa_cons (pv 2) pa_nil))))
      (pss_cons (ps_asg (pe_op op_add (pv 3) pe_int) (pg_sub (pv 0) pe_int set_list))
      (pss_cons (ps_if (pt_cmpR op_gt (pe_ix ix_list (pv 4) (pv 6) (fun _ _ => rfl)) pe_int (nomark _))
        (pss_cons (ps_set (i := 7) nm rfl (.inl rfl) (pe_op op_mod (pe_ix ix_list (pv 4) (pv 6) (fun _ _ => rfl)) (pv 1)))
          (pss_cons (ps_asg (pe_op op_fdiv (pe_ix ix_list (pv 4) (pv 6) (fun _ _ => rfl)) (pv 1)) (pg_sub (pv 4) (pv 6) set_list)) (pss_one (ps_ret (pv 7))))) pss_nil)
      (pss_cons (ps_set (i := 8) nm rfl (.inl rfl) (pe_op op_mod (pe_op op_pow (pe_op op_add (pe_op op_add (pe_op op_mod (pe_ix ix_list (pv 2) (pv 6) (fun _ _ => rfl)) pe_int) (pe_op op_mul pe_int (pv 3))) pe_int) pe_int) pe_int))
      (pss_cons (ps_set (i := 9) nm rfl (.inl rfl) (pe_op op_mod (pe_op op_pow (pe_op op_add (pe_op op_add (pv 8) (pe_op op_mul (pe_op op_mul pe_int (pv 3)) (pv 3))) pe_int) pe_int) pe_int))
      (pss_one (ps_ret (pe_op op_mod (pe_op op_mod (pe_op op_add (pe_op op_mul (pv 9) pe_int) (pv 8)) pe_int) (pv 1))))))))), ?_⟩
    obtain ⟨at_, ea, la⟩ := mod_lt (x := t) hp
    have hcs : ∃ x, cs[at_]? = some x := ⟨cs[at_], by simp [la]⟩
    obtain ⟨x, hx⟩ := hcs
    have la2 : at_ < rs.length := by omega
    obtain ⟨z, hz⟩ : ∃ z, rs[at_]? = some z := ⟨rs[at_], by simp [la2]⟩
    refine ⟨.ref d, rfl, d, _, rfl, SqL.of hd, rfl, _, _, rfl, _, _, rfl, _, _, rfl, _, _, rfl, rfl, .int t, rfl, .ref c, rfl, c, _, rfl, .inl (SqL.of hc), _, _, rfl, rfl, ?_, ?_⟩
    · show (0 : Int) < ((cs.map V.int).length : Nat)
      rw [List.length_map]
      omega
    have ea2 : t % (((cs.map V.int).length : Nat) : Int) = (at_ : Int) := by
      rw [List.length_map]
      exact ea
    dsimp only
    rw [ea2]
    have hd2 : upd H d (.lst [.ref c, .int (t + 1), .ref r, .int y]) d = some (.lst [.ref c, .int (t + 1), .ref r, .int y]) := upd_same
    have hc2 : upd H d (.lst [.ref c, .int (t + 1), .ref r, .int y]) c = some (.lst (cs.map V.int)) := by rw [upd_ne n1]; exact hc
    have hr2 : upd H d (.lst [.ref c, .int (t + 1), .ref r, .int y]) r = some (.lst (rs.map V.int)) := by rw [upd_ne n3]; exact hrs
    refine ⟨.int t, rfl, _, _, rfl, rfl, .ref d, rfl, d, _, 1, 1, rfl, rfl, hd, rfl, ?_⟩
    refine ⟨.ref r, rfl, .int (at_ : Nat), rfl, r, _, _, .int z, rfl, rfl, SqL.of hr2, atI_nat (at_map V.int hz), _, _, rfl, rfl, _, rfl, ite2 (fun e => ?_) (fun e => ?_)⟩
    · obtain ⟨k, ek, lk⟩ := mod_lt (x := z) hm0
      refine ⟨.ref r, rfl, .int (at_ : Nat), rfl, r, _, _, .int z, rfl, rfl, SqL.of hr2, atI_nat (at_map V.int hz), .int m, rfl, _, _, rfl, rfl, (by show (0 : Int) < (m : Nat); omega), ?_⟩
      refine ⟨.ref r, rfl, .int (at_ : Nat), rfl, r, _, _, .int z, rfl, rfl, SqL.of hr2, atI_nat (at_map V.int hz), .int m, rfl, _, _, rfl, rfl, ⟨(by show (0 : Int) < (m : Nat); omega), (by show ((m : Nat) : Int) < 1073741824; omega)⟩, ?_⟩
      refine ⟨.ref r, rfl, .int (at_ : Nat), rfl, r, _, _, at_, rfl, rfl, hr2, by rw [List.length_map]; exact ixN_nat la2, ?_⟩
      rw [map_set]
      refine ⟨_, rfl, ?_⟩
      show Q (.int (z % (m : Int))) _
      rw [ek]
      refine q k _ lk (KpD.wr (KpD.wd (KpD.refl d r H))) ⟨cs, rs.set at_ (z / (m : Int)), t + 1, y, ?_, ?_, upd_same, n1, n2, n3, ?_, hp, hm, by omega, by omega⟩
      · rw [upd_ne n3.symm]
        exact hd2
      · rw [upd_ne n2]
        exact hc2
      · rw [List.length_set]
        exact hl
    · have b1 := Int.emod_nonneg x (show (2147483647 : Int) ≠ 0 by decide)
      have b2 := Int.emod_lt_of_pos x (show (0 : Int) < 2147483647 by decide)
      refine ⟨.ref c, rfl, .int (at_ : Nat), rfl, c, _, _, .int x, rfl, rfl, SqL.of hc2, atI_nat (at_map V.int hx), _, _, rfl, rfl, (by show (0 : Int) < 2147483647; decide), .int t, rfl, _, _, rfl, rfl, .inl ⟨by decide, by decide⟩, _, _, rfl, rfl, _, _, rfl, rfl,
        _, _, rfl, rfl, ⟨by decide, by decide, ?_⟩, _, _, rfl, rfl, (by show (0 : Int) < 2147483629; decide), ?_⟩
      · have b3 : (69621 : Int) * t ≤ 69621 * 1000000 := by omega
        show (x % 2147483647 + 69621 * t + 30269).natAbs < 2 ^ 64
        omega
      obtain ⟨X1, hX⟩ : ∃ X1, (x % 2147483647 + 69621 * t + 30269) ^ (3 : Int).toNat % 2147483629 = X1 := ⟨_, rfl⟩
      have hX2 := congrArg (fun z => some (some (V.int z))) hX
      have c1 : 0 ≤ X1 := by rw [← hX]; exact Int.emod_nonneg _ (by decide)
      have c2 : X1 < 2147483629 := by rw [← hX]; exact Int.emod_lt_of_pos _ (by decide)
      have b4 : (0 : Int) ≤ 6007 * t * t := Int.mul_nonneg (by omega) t0
      have b5 : 6007 * t * t ≤ 6007 * 1000000 * 1000000 := Int.mul_le_mul (by omega) (by omega) t0 (by omega)
      refine ⟨.int X1, hX2, .int t, rfl, _, _, rfl, rfl, .inl ⟨by decide, by decide⟩, .int t, rfl, _, _, rfl, rfl, .inl ⟨by omega, by omega⟩, _, _, rfl, rfl, _, _, rfl, rfl, _, _, rfl, rfl, ⟨by decide, by decide, ?_⟩, _, _, rfl, rfl, (by show (0 : Int) < 2147483587; decide), ?_⟩
      · show (X1 + 6007 * t * t + 17).natAbs < 2 ^ 64
        omega
      obtain ⟨Y1, hY⟩ : ∃ Y1, (X1 + 6007 * t * t + 17) ^ (3 : Int).toNat % 2147483587 = Y1 := ⟨_, rfl⟩
      have hY2 := congrArg (fun z => some (some (V.int z))) hY
      have d1 : 0 ≤ Y1 := by rw [← hY]; exact Int.emod_nonneg _ (by decide)
      have d2 : Y1 < 2147483587 := by rw [← hY]; exact Int.emod_lt_of_pos _ (by decide)
      refine ⟨.int Y1, hY2, _, _, rfl, rfl, .inl ⟨by omega, by omega⟩, .int X1, hX2, _, _, rfl, rfl, _, _, rfl, rfl, (by show (0 : Int) < 4611686018427387847; decide), .int m, rfl, _, _, rfl, rfl, (by show (0 : Int) < (m : Nat); omega), ?_⟩
      obtain ⟨k, ek, lk⟩ := mod_lt (x := (Y1 * 2147483423 + X1) % 4611686018427387847) hm0
      show Q (.int ((Y1 * 2147483423 + X1) % 4611686018427387847 % (m : Int))) _
      rw [ek]
      exact q k _ lk (KpD.wd (KpD.refl d r H)) ⟨cs, rs, t + 1, y, hd2, hc2, hr2, n1, n2, n3, hl, hp, hm, by omega, by omega⟩
end
end Rt
set_option Elab.async false
set_option linter.all false
set_option maxRecDepth 100000
set_option maxHeartbeats 4000000
/-! _law_draws. -/
namespace Rt
open PySem PySem.Spec PyProof.Rows L2
theorem cut63 (ns : List Int) : cutV (ns.map V.int) none (some 63) = (ns.take 63).map V.int := by
  unfold cutV
  rw [HT.sIx_none, show (some (63 : Int)) = some ((63 : Nat) : Int) from rfl, HT.sIx_nat, List.length_map, Nat.sub_zero, List.drop_zero, List.map_take]
  by_cases h : 63 ≤ ns.length
  · rw [Nat.min_eq_left h]
  · rw [Nat.min_eq_right (by omega), List.take_of_length_le (by rw [List.length_map]; exact Nat.le_refl _), List.take_of_length_le (by rw [List.length_map]; omega)]
theorem rep01 (b : Bool) : (List.replicate ((if b then 1 else 0 : Int)).toNat [V.int 0]).flatten = (if b then [(0 : Int)] else []).map V.int := by
  cases b <;> rfl
section
variable {P : Program} {w : World} {K : PySem.W.Frag} {mg : Str → Option Value} {base : Heap}
theorem ok_draws (T : Txt K mg) : FnOk P w K mg base CX0 1 T.draws.f T.draws.fd ["_law_script", "_law_may"] (spDraws K) := by
  refine T.draws.F.ok scDraws (fun vs H Q E h => ?_) (fun cdv A outer s H vs Q E hr h => ?_)
  · obtain ⟨a, ns, rfl, _⟩ := h
    rfl
  · obtain ⟨a, ns, rfl, ha, q⟩ := h
    have nm := scDraws.nd
    refine ⟨_, pss_cons (ps_set (i := 2) nm rfl (.inl rfl) (pe_op op_cat (pe_callTy call_list_of (by rfl) T.bList boot_list (pa_cons (pe_slice sl_list (pv 0) po_none (po_some pe_int)) pa_nil))
        (pe_op op_rep (pe_lst (pa_cons pe_int pa_nil)) (pe_callTy call_int1 (by rfl) T.bInt boot_int (pa_cons (pe_cmpR op_eq (pe_callB call_len_seq (by rfl) T.bLen PySem.boot_len (pa_cons (pv 0) pa_nil)) pe_int (nomark _)) pa_nil)))))
      (pss_one (ps_ret (pe_lst (pa_cons (pv 2) (pa_cons pe_int (pa_cons
        (pe_lc (own := [("_law_cell", 3)]) (g := gName 3) (tt := tYes) rfl nm (pi_list (pv 2)) (blkOk_by (N := nDraws) (sc := defScope sDraws) (by decide +kernel)) (fun _ _ _ _ _ => pg_name (i := 3) nm rfl (Or.inl rfl)) (fun _ _ _ _ _ => pts_nil)
          (fun _ _ _ _ _ => pe_op op_mul (pv 3) (pe_callTy call_int1 (by rfl) T.bInt boot_int (pa_cons (pe_cmpR op_ge (pv 3) (pe_op op_pow pe_int pe_int) (nomark _)) pa_nil))))
        (pa_cons (pv 1) pa_nil))))))), ?_⟩
    refine ⟨.ref a, rfl, _, rfl, a, _, rfl, ha, fun p1 n1 => ⟨p1, _, rfl, .inl (SqL.of upd_same), fun p2 n2 => ?_⟩⟩
    rw [cut63] at n2 ⊢
    have s1 := same_new (o := .lst ((ns.take 63).map V.int)) n1
    have s2 := s1.trans (same_new (o := .lst ((ns.take 63).map V.int)) n2)
    refine ⟨szr, fun p3 n3 => ?_⟩
    have s3 := s2.trans (same_new (o := .lst [V.int 0]) n3)
    refine ⟨.ref a, rfl, a, _, rfl, .inl (s3.seq ha), rfl, .inr ⟨_, rfl, ?_⟩⟩
    have e2 : (upd (upd (upd H p1 (.lst ((ns.take 63).map V.int))) p2 (.lst ((ns.take 63).map V.int))) p3 (.lst [V.int 0])) p2 = some (.lst ((ns.take 63).map V.int)) := by
      rw [upd_ne (ne_of_none upd_same n3), upd_same]
    have lb : ∀ b : Bool, (0 : Int) ≤ (if b then 1 else 0) ∧ (if b then 1 else 0 : Int) ≤ 1 := fun b => by cases b <;> decide
    refine ⟨p3, _, _, rfl, rfl, upd_same, ?_, ?_, ?_, fun p4 n4 => ?_⟩
    · have := lb (decide (V.int (((ns.map V.int).length : Nat) : Int) = V.int 0))
      exact Int.le_trans (by decide) this.1
    · have := lb (decide (V.int (((ns.map V.int).length : Nat) : Int) = V.int 0))
      exact Int.lt_of_le_of_lt this.2 (by decide)
    · generalize decide (V.int (((ns.map V.int).length : Nat) : Int) = V.int 0) = b
      cases b <;> decide
    rw [rep01]
    have e4 := show (List.map V.int (if decide (V.int (((ns.map V.int).length : Nat) : Int) = V.int 0) = true then [(0 : Int)] else [])).length ≤ 1 by
      generalize decide (V.int (((ns.map V.int).length : Nat) : Int) = V.int 0) = b
      cases b <;> decide
    have e5 : 0 < (ns.take 63 ++ (if decide (V.int (((ns.map V.int).length : Nat) : Int) = V.int 0) = true then [(0 : Int)] else [])).length := by
      rw [List.length_append, List.length_take, List.length_map]
      by_cases c : ns.length = 0
      · rw [c]
        decide
      · have : (if decide (V.int ((ns.length : Nat) : Int) = V.int 0) = true then [(0 : Int)] else []).length ≤ 1 := by split <;> decide
        omega
    have e6 : (ns.take 63 ++ (if decide (V.int (((ns.map V.int).length : Nat) : Int) = V.int 0) = true then [(0 : Int)] else [])).length ≤ 64 := by
      rw [List.length_append, List.length_take]
      rw [List.length_map] at e4
      omega
    generalize (if decide (V.int (((ns.map V.int).length : Nat) : Int) = V.int 0) = true then [(0 : Int)] else []) = zs at n4 e4 e5 e6 ⊢
    have s4 := s3.trans (same_new (o := .lst (zs.map V.int)) n4)
    refine ⟨p2, p4, (ns.take 63).map V.int, zs.map V.int, rfl, rfl, ?_, upd_same, ?_, fun c nc => ?_⟩
    · rw [upd_ne (ne_of_none e2 n4)]
      exact e2
    · show (List.map V.int (ns.take 63)).length + _ ≤ _
      have sl : (100000 : Nat) < sizeLine := by decide
      rw [List.length_map, List.length_map]
      rw [List.length_append] at e6
      omega
    rw [← List.map_append]
    generalize ns.take 63 ++ zs = cs at nc e5 e6 ⊢
    have s5 := s4.trans (same_new (o := .lst (cs.map V.int)) nc)
    have hc : (upd (upd (upd (upd (upd H p1 (.lst ((ns.take 63).map V.int))) p2 (.lst ((ns.take 63).map V.int))) p3 (.lst [V.int 0])) p4 (.lst (zs.map V.int))) c (.lst (cs.map V.int))) c = some (.lst (cs.map V.int)) := upd_same
    refine ⟨.ref c, rfl, .ref c, rfl, c, rfl, ⟨_, SqL.of hc⟩, fun D nD => lc_map (walk_list (xs := cs.map V.int)) ((cs.map fun x => x * (if decide ((10 : Int) ^ (18 : Int).toNat ≤ x) = true then 1 else 0)).map V.int) (by simp) ?_ nD (fun H2 s2 => SqL.of (s2 _ _ hc)) yAt_same (fun i x H2 H3 hi s2 y Q2 q2 => ?_) fun H2 s6 e7 => ?_⟩
    · rw [List.length_map]
      omega
    · obtain ⟨rfl, hx⟩ := y
      obtain ⟨z, rfl, hz⟩ := map_at hx
      refine ⟨rfl, _, rfl, _, rfl, _, _, rfl, rfl, ⟨by decide, by decide, by decide⟩, _, _, rfl, rfl, .inr ⟨_, rfl, ?_⟩⟩
      refine ⟨_, _, rfl, rfl, .inr ?_, q2 _ _ ?_ (Same.refl _)⟩
      · split <;> decide
      · rw [List.getElem?_map, List.getElem?_map, hz]
        rfl
    · refine ⟨.int 0, rfl, szr, fun d nd => ?_⟩
      have s7 := (s5.trans s6).trans (same_new (o := .lst [V.ref c, V.int 0, V.ref D, V.int 0]) nd)
      have nDd := ne_of_none e7 nd
      have hc2 : H2 c = some (.lst (cs.map V.int)) := s6 _ _ hc
      refine q c d D _ s7 ((s5.trans s6).free nd) (s5.free nD) ⟨cs, cs.map fun x => x * (if decide ((10 : Int) ^ (18 : Int).toNat ≤ x) = true then 1 else 0), 0, 0, upd_same, ?_, ?_, ne_of_none hc2 nd, ne_of_none hc nD, nDd, ?_, e5, by omega, Int.le_refl _, Int.le_refl _⟩
      · rw [upd_ne (ne_of_none hc2 nd)]
        exact hc2
      · rw [upd_ne nDd]
        exact e7
      · rw [List.length_map]
end
end Rt
set_option Elab.async false
set_option linter.all false
set_option maxRecDepth 100000
set_option maxHeartbeats 4000000
/-! Plain texts, comprehensions that draw, _law_names. -/
namespace Rt
open PySem PySem.Spec PyProof.Rows L2
/-! ### short plain texts -/
/-- at most n signs, each plain and no line end -/
def Gd (n : Nat) (x : Str) : Prop := x.length ≤ n ∧ ∀ c ∈ x.cps.toList, 10 < c ∧ c < 256
theorem Gd.mono {n m : Nat} {x : Str} (h : Gd n x) (e : n ≤ m) : Gd m x := ⟨Nat.le_trans h.1 e, h.2⟩
theorem Gd.asc {n : Nat} {x : Str} (h : Gd n x) : Rt.Asc x := fun c hc => (h.2 c hc).2
theorem Gd.add {n m : Nat} {x y : Str} (h : Gd n x) (g : Gd m y) : Gd (n + m) (x ++ y) := by
  have e : (x ++ y).cps.toList = x.cps.toList ++ y.cps.toList := TL.tl_append x y
  refine ⟨?_, fun c hc => ?_⟩
  · have := h.1
    have := g.1
    rw [TL.len_tl, TL.tl_append, List.length_append, ← TL.len_tl, ← TL.len_tl]
    omega
  · rw [e] at hc
    rcases List.mem_append.mp hc with z | z
    · exact h.2 c z
    · exact g.2 c z
theorem Gd.cut {n : Nat} {x : Str} (h : Gd n x) (lo hi : Option Int) : Gd n (cutS x lo hi) :=
  ⟨Nat.le_trans (cutS_length x lo hi) h.1, fun c hc => h.2 c (List.mem_of_mem_drop (List.mem_of_mem_take hc))⟩
def gdB (n : Nat) (x : Str) : Bool := decide (x.length ≤ n) && x.cps.toList.all fun c => decide (10 < c) && decide (c < 256)
theorem gdB_ok {n : Nat} {x : Str} (h : gdB n x = true) : Gd n x := by
  obtain ⟨h1, h2⟩ := Bool.and_eq_true_iff.mp h
  refine ⟨of_decide_eq_true h1, fun c hc => ?_⟩
  obtain ⟨h3, h4⟩ := Bool.and_eq_true_iff.mp (List.all_eq_true.mp h2 c hc)
  exact ⟨of_decide_eq_true h3, of_decide_eq_true h4⟩
theorem gd_nums : ((List.range 64).all fun k => gdB 4 (Str.ofString (toString ((k : Nat) : Int)))) = true := by decide +kernel
theorem gd_num {k : Nat} (h : k < 64) : Gd 4 (Str.ofString (toString ((k : Nat) : Int))) := gdB_ok (List.all_eq_true.mp gd_nums k (List.mem_range.mpr h))
theorem Gd.join {sep : Str} {m : Nat} (hs : Gd 1 sep) : ∀ {ps : List Str}, (∀ p ∈ ps, Gd m p) → Gd (ps.length * (m + 1)) (Str.join sep ps)
  | [], _ => ⟨by rw [TL.len_tl, TL.tl_join]; exact Nat.zero_le _, fun c hc => by
      have e : (Str.join sep []).cps.toList = [] := TL.tl_join sep []
      rw [e] at hc
      cases hc⟩
  | [x], h => (h x (List.mem_cons_self ..)).mono (by simp)
  | x :: y :: r, h => by
    have ih := Gd.join (m := m) hs (ps := y :: r) fun p hp => h p (List.mem_cons_of_mem _ hp)
    have e : Str.join sep (x :: y :: r) = x ++ (sep ++ Str.join sep (y :: r)) := TL.ext_tl (by
      rw [TL.tl_append, TL.tl_append, TL.tl_join, TL.tl_join]
      rfl)
    rw [e]
    refine ((h x (List.mem_cons_self ..)).add (hs.add ih)).mono ?_
    rw [List.length_cons (a := x), Nat.succ_mul]
    omega
/-! ### comprehensions whose turns change the heap -/
theorem lc_gen {J : It} {n : Nat} {G : Hp → Prop} {Y : Nat → Hp → V → Hp → Prop} (w : Walk J n G Y) {g : TG} {te : TE} {vs : List Nat} {σ : L2.St} {H1 : Hp} {D : Addr} {Qd : Hp → Prop} (S : Nat → Hp → Prop) (R : V → Prop) (hz : n ≤ 100000)
    (h0 : S 0 (upd H1 D (.lst []))) (hD : ∀ i H acc, S i H → S i (upd H D (.lst acc))) (hG : ∀ i H, S i H → G H) (hY : ∀ i H x H', i < n → Y i H x H' → H' = H)
    (hs : ∀ (i : Nat) (x : V) (H : Hp) (acc : List V), i < n → S i H → H D = some (.lst acc) → Y i H x H → ∀ Q : VK, (∀ y H4, R y → H4 D = some (.lst acc) → S (i + 1) H4 → Q y H4) → g x (wipe σ vs) H fun σ2 H2 => wipe σ2 vs = wipe σ vs ∧ te σ2 H2 Q)
    (hd : ∀ H ys, S n H → H D = some (.lst ys) → ys.length = n → (∀ y ∈ ys, R y) → Qd H) :
    ∃ W : Nat → Nat → Hp → Prop, (∃ m, W 0 m (upd H1 D (.lst []))) ∧ ∀ i m H, W i m H →
      (J.stop i H ∧ Qd H) ∨ (J.go i H ∧ ∃ Nx : Hp → Prop, (∀ H', Nx H' → ∃ m', m' < m ∧ W (i + 1) m' H') ∧ ∀ x H', J.yld i H x H' → g x (wipe σ vs) H' fun σ2 H2 => wipe σ2 vs = wipe σ vs ∧ tYes σ2 H2 fun b H3 =>
        if b = true then te σ2 H3 fun y H4 => ∃ acc, H4 D = some (.lst acc) ∧ acc.length < sizeLine ∧ Nx (upd H4 D (.lst (acc ++ [y]))) else Nx H3) := by
  have sl : (100000 : Nat) < sizeLine := by decide
  refine lc_it w (fun i H => S i H ∧ ∃ acc, H D = some (.lst acc) ∧ acc.length = i ∧ ∀ y ∈ acc, R y) ⟨h0, [], upd_same, rfl, fun y hy => by cases hy⟩ (fun i H _ p => hG i H p.1) (fun i x H H' hi p y => ?_) fun H ⟨p, acc, e, hl, hr⟩ => hd H acc p e hl hr
  obtain ⟨p, acc, e, hl, hr⟩ := p
  have eH := hY i H x H' hi y
  subst eH
  refine hs i x H' acc hi p e y _ fun v H4 hv e4 s4 => ⟨acc, e4, by omega, hD _ _ _ s4, acc ++ [v], upd_same, by rw [List.length_append, hl]; rfl, fun z hz => ?_⟩
  rcases List.mem_append.mp hz with q | q
  · exact hr z q
  · rw [List.mem_singleton.mp q]
    exact hv
/-- the same with a test -/
theorem lc_genT {J : It} {n : Nat} {G : Hp → Prop} {Y : Nat → Hp → V → Hp → Prop} (w : Walk J n G Y) {g : TG} {tt : TT} {te : TE} {vs : List Nat} {σ : L2.St} {H1 : Hp} {D : Addr} {Qd : Hp → Prop} (S : Nat → Hp → Prop) (R : V → Prop) (hz : n ≤ 100000)
    (h0 : S 0 (upd H1 D (.lst []))) (hD : ∀ i H acc, S i H → S i (upd H D (.lst acc))) (hG : ∀ i H, S i H → G H) (hY : ∀ i H x H', i < n → Y i H x H' → H' = H)
    (hs : ∀ (i : Nat) (x : V) (H : Hp) (acc : List V), i < n → S i H → H D = some (.lst acc) → Y i H x H → ∀ (Q : VK) (N : Hp → Prop), (∀ y H4, R y → H4 D = some (.lst acc) → S (i + 1) H4 → Q y H4) → (∀ H4, H4 D = some (.lst acc) → S (i + 1) H4 → N H4) →
      g x (wipe σ vs) H fun σ2 H2 => wipe σ2 vs = wipe σ vs ∧ tt σ2 H2 fun b H3 => if b = true then te σ2 H3 Q else N H3)
    (hd : ∀ H ys, S n H → H D = some (.lst ys) → ys.length ≤ n → (∀ y ∈ ys, R y) → Qd H) :
    ∃ W : Nat → Nat → Hp → Prop, (∃ m, W 0 m (upd H1 D (.lst []))) ∧ ∀ i m H, W i m H →
      (J.stop i H ∧ Qd H) ∨ (J.go i H ∧ ∃ Nx : Hp → Prop, (∀ H', Nx H' → ∃ m', m' < m ∧ W (i + 1) m' H') ∧ ∀ x H', J.yld i H x H' → g x (wipe σ vs) H' fun σ2 H2 => wipe σ2 vs = wipe σ vs ∧ tt σ2 H2 fun b H3 =>
        if b = true then te σ2 H3 fun y H4 => ∃ acc, H4 D = some (.lst acc) ∧ acc.length < sizeLine ∧ Nx (upd H4 D (.lst (acc ++ [y]))) else Nx H3) := by
  have sl : (100000 : Nat) < sizeLine := by decide
  refine lc_it w (fun i H => S i H ∧ ∃ acc, H D = some (.lst acc) ∧ acc.length ≤ i ∧ ∀ y ∈ acc, R y) ⟨h0, [], upd_same, Nat.le_refl _, fun y hy => by cases hy⟩ (fun i H _ p => hG i H p.1) (fun i x H H' hi p y => ?_) fun H ⟨p, acc, e, hl, hr⟩ => hd H acc p e hl hr
  obtain ⟨p, acc, e, hl, hr⟩ := p
  have eH := hY i H x H' hi y
  subst eH
  refine hs i x H' acc hi p e y _ _ (fun v H4 hv e4 s4 => ⟨acc, e4, by omega, hD _ _ _ s4, acc ++ [v], upd_same, by rw [List.length_append]; show acc.length + 1 ≤ i + 1; omega, fun z hz => ?_⟩) fun H4 e4 s4 => ⟨s4, acc, e4, by omega, hr⟩
  rcases List.mem_append.mp hz with q | q
  · exact hr z q
  · rw [List.mem_singleton.mp q]
    exact hv
theorem erase_map {α β : Type} (f : α → β) : ∀ (xs : List α) (i : Nat), (xs.map f).eraseIdx i = (xs.eraseIdx i).map f
  | [], _ => rfl
  | _ :: _, 0 => rfl
  | a :: r, i + 1 => congrArg (f a :: ·) (erase_map f r i)
theorem erase_mem {α : Type} : ∀ (xs : List α) (i : Nat) (x : α), x ∈ xs.eraseIdx i → x ∈ xs
  | [], _, x, h => by cases h
  | _ :: _, 0, x, h => List.mem_cons_of_mem _ h
  | a :: r, i + 1, x, h => by
    rcases List.mem_cons.mp (show x ∈ a :: r.eraseIdx i from h) with rfl | q
    · exact List.mem_cons_self ..
    · exact List.mem_cons_of_mem _ (erase_mem r i x q)
theorem erase_len {α : Type} : ∀ (xs : List α) (i : Nat), i < xs.length → (xs.eraseIdx i).length = xs.length - 1
  | [], _, h => absurd h (Nat.not_lt_zero _)
  | _ :: _, 0, _ => rfl
  | a :: r, i + 1, h => by
    have h2 : i < r.length := by simpa using h
    show (r.eraseIdx i).length + 1 = r.length + 1 - 1
    rw [erase_len r i h2]
    omega
theorem gd_join_ok {sep : Str} {m : Nat} (hs : sep.length ≤ 1) (hm : m ≤ 1000) {ps : List Str} (hl : ps.length ≤ 1000) (h : ∀ p ∈ ps, Gd m p) : (ps.map (·.length)).sum + ps.length * sep.length ≤ 16777216 := by
  have sum : ∀ ps : List Str, (∀ p ∈ ps, Gd m p) → (ps.map (·.length)).sum ≤ ps.length * 1000 := fun ps => by
    induction ps with
    | nil => exact fun _ => Nat.le_refl _
    | cons x r ih =>
      intro h
      have h1 := (h x (List.mem_cons_self ..)).1
      have h2 := ih fun p hp => h p (List.mem_cons_of_mem _ hp)
      rw [List.map_cons, List.sum_cons, List.length_cons]
      omega
  have h1 := sum ps h
  have h2 : ps.length * sep.length ≤ ps.length * 1 := Nat.mul_le_mul_left _ hs
  omega
/-- what is new later was new before -/
theorem DR.free {c d r p : Addr} {H0 H : Hp} {n : Nat} (h : DR c d r H0 n H) (e : H p = none) : H0 p = none := by
  have f := h.2.new e
  cases q : H0 p with
  | none => rfl
  | some o =>
    have z := h.1.at f q
    rw [e] at z
    cases z
theorem Gd.sz {n : Nat} {x : Str} (h : Gd n x) (e : n ≤ 100000) : x.length ≤ sizeLine := by
  have sl : (100000 : Nat) < sizeLine := by decide
  have := h.1
  omega
/-- a list of texts by what its items are -/
theorem strs_of {P : Str → Prop} : ∀ {ys : List V}, (∀ y ∈ ys, ∃ x, y = .str x ∧ P x) → ∃ xs : List Str, ys = xs.map V.str ∧ ∀ x ∈ xs, P x
  | [], _ => ⟨[], rfl, fun x hx => by cases hx⟩
  | y :: r, h => by
    obtain ⟨x, rfl, hx⟩ := h y (List.mem_cons_self ..)
    obtain ⟨xs, rfl, hr⟩ := strs_of (ys := r) fun z hz => h z (List.mem_cons_of_mem _ hz)
    exact ⟨x :: xs, rfl, fun z hz => by
      rcases List.mem_cons.mp hz with rfl | q
      · exact hx
      · exact hr z q⟩
theorem rd_nx {c d r : Addr} {H0 H : Hp} {n i : Nat} {σ : L2.St} {te : TE} {R : VK} {E : XK} (m : Nat) (hi : σ[i]? = some (some (.ref d))) (h : DR c d r H0 n H) (hn : n ≤ 1000000) (h0 : 0 < m) (h1 : m ≤ 1000000) (ht : ∀ R' : VK, R' (.int ((m : Nat) : Int)) H → te σ H R')
    (q : ∀ (k : Nat) H', k < m → DR c d r H0 (n + 1) H' → KpD d r H H' → R (.int k) H') : tCall spNext [] E (tCons (tVar i) (tCons te tNil)) σ H R :=
  ⟨.ref d, hi, ht _ ⟨c, d, r, m, n, rfl, h.2, hn, h0, h1, fun k H' lk kp dw => q k H' lk (h.call kp dw) kp⟩⟩
section
variable {P : Program} {w : World} {K : PySem.W.Frag} {mg : Str → Option Value} {base : Heap}
theorem bootSorted : bootBuiltins "sorted" = some (.builtin "sorted") := by decide +kernel
def rLenQ (K : PySem.W.Frag) : List V → Hp → VK → Prop := fun xs H Q => ∃ p ys, xs = [.ref p] ∧ (SqL K H p ys ∨ SqT K H p ys) ∧ Q (.int ys.length) H
/-- a built-in type's method within a comprehension: the reading free of the block -/
theorem pe_bmK {X : Cx} {K : PySem.W.Frag} {o e : Expr} {es : List Expr} {to : TE} {t : TA} {name : Str} {apos cpos : Pos} {T id : String} {r : V → List V → Hp → VK → Prop} (hK : X.K = K) (pa : PlainAttrs T) (slot : Slot T name id) (hty : typeOf (.builtin id) = pure (.type "method_descriptor")) (hm : MtR X id r) (ho : PE X o to) (ha : PA X (e :: es) t)
    (hbase : attributeBase o name X.env (eval o X.env) = eval o X.env := by rfl)
    (hfew : ((backTo cpos (starEach (e :: es) X.env)).all (fun x => !x.1) && (backToKw cpos (keywordEach [] X.env)).all (fun x => x.1.isSome)
      && decide ((e :: es).length + ([] : List Keyword).length + (if ([] : List Keyword).isEmpty then 0 else 1) < 30)) = true := by rfl)
    (hline : (apos.endLine == cpos.line) = true := by rfl) (hs : starEach (e :: es) X.env = (false, eval e X.env) :: starEach es X.env := by rfl) (hplain : (backTo cpos (starEach es X.env)).any (·.1) = false := by rfl) :
    PE X (.Call (.Attribute o name apos) (e :: es) [] cpos) (tBM K T r to t) := by
  subst hK
  exact pe_bm pa slot hty hm ho ha hbase hfew hline hs hplain
def abc : Str := "abcdefghijklmnopqrstuvwxyz"
theorem abc_len : (abc.cps.toList.map fun c => (⟨#[c]⟩ : Str)).length = 26 := by decide +kernel
theorem abc_gd : ∀ x ∈ abc.cps.toList.map fun c => (⟨#[c]⟩ : Str), Gd 1 x := fun x hx => by
  have e : ((abc.cps.toList.map fun c => (⟨#[c]⟩ : Str)).all (gdB 1)) = true := by decide +kernel
  exact gdB_ok (List.all_eq_true.mp e x hx)
def spNames : Sp := fun vs H Q _ => ∃ (c d r : Addr) (m n : Nat), vs = [.ref d, .int m] ∧ Drw H c d r n ∧ n ≤ 900000 ∧ 1 ≤ m ∧ m ≤ 4 ∧
  ∀ p (ks : List Str) H', ks.length = m → (∀ x ∈ ks, Gd 30 x) → KpD d r H H' → H' p = some (.tup (ks.map V.str)) → H p = none → Drw H' c d r (n + 20) → Q (.ref p) H'
theorem ok_names (T : Txt K mg) : FnOk P w K mg base CX0 2 T.names.f T.names.fd ["_law_drawn", "_law_many"] spNames := by
  have G1 : FnOk P w K mg base CX0 1 T.next.f T.next.fd ["_law_drawn", "_law_many"] spNext := ok_next T
  refine T.names.F.ok scNames (fun vs H Q E h => ?_) (fun cdv A outer s H vs Q E hr h => ?_)
  · obtain ⟨c, d, r, m, n, rfl, _⟩ := h
    rfl
  · obtain ⟨c, d, r, m, n, rfl, hw, hn, hm1, hm4, q⟩ := h
    have nm := scNames.nd
    refine ⟨_, pss_cons (ps_set (i := 2) nm rfl (.inr rfl) (pe_callTy (call_list_txt rfl) (by rfl) T.bList boot_list (pa_cons pe_str pa_nil)))
      (pss_cons (ps_set (i := 3) nm rfl (.inr rfl) (pe_join pe_str (pe_lc (own := [("_law_k", 5)]) (g := gName 5) (tt := tYes) rfl nm (pi_range1 (by rfl) T.bRange (pa_cons (pe_call G1 hr (by rfl) T.next.g T.next.F.kp T.next.b .nil pass0 (pa_cons (pv 0) (pa_cons pe_int pa_nil))) pa_nil)) (blkOk_by (N := nNames) (sc := defScope sNames) (by decide +kernel))
          (fun _ _ _ _ _ => pg_name (i := 5) nm rfl (Or.inl rfl)) (fun _ _ _ _ _ => pts_nil) (fun _ _ _ _ _ => pe_ix (r := rIxL K) ix_list (pv 2) (pe_call G1 hr (by rfl) T.next.g T.next.F.kp T.next.b .nil pass0 (pa_cons (pv 0) (pa_cons pe_int pa_nil))) (fun _ _ => rfl)))))
      (pss_cons (ps_set (i := 4) nm rfl (.inr rfl) (pe_call G1 hr (by rfl) T.next.g T.next.F.kp T.next.b .nil pass0 (pa_cons (pv 0) (pa_cons (pe_op op_add (pe_callB call_len_str (by rfl) T.bLen PySem.boot_len (pa_cons (pv 3) pa_nil)) pe_int) pa_nil))))
      (pss_one (ps_ret (pe_callTy call_tuple_of (by rfl) T.bTuple boot_tuple (pa_cons (pe_callB cr_sortedS (by rfl) T.bSorted bootSorted (pa_cons (pe_lc (own := [("_law_k", 5)]) (g := gName 5) (tt := tYes) rfl nm (pi_range1 (by rfl) T.bRange (pa_cons (pv 1) pa_nil)) (blkOk_by (N := nNames) (sc := defScope sNames) (by decide +kernel))
          (fun _ _ _ _ _ => pg_name (i := 5) nm rfl (Or.inl rfl)) (fun _ _ _ _ _ => pts_nil) (fun _ _ _ _ _ => pe_op op_add_str (pe_op op_add_str (pe_slice sl_str (pv 3) po_none (po_some (pv 4)))
            (pe_bmK (K := K) rfl PySem.F.plainAttrs_list PySem.F.slot_list_pop PySem.F.type_list_pop mt_popAt (pv 2) (pa_cons (pe_call G1 hr (by rfl) T.next.g T.next.F.kp T.next.b .nil pass0 (pa_cons (pv 0) (pa_cons (pe_callB (r := rLenQ K) call_len_seq (by rfl) T.bLen PySem.boot_len (pa_cons (pv 2) pa_nil)) pa_nil))) pa_nil))) (pe_slice sl_str (pv 3) (po_some (pv 4)) po_none))) pa_nil)) pa_nil)))))), ?_⟩
    refine ⟨abc, rfl, szr, fun lp nlp => ?_⟩
    have farL := hw.new nlp
    have D1 : DR c d r H n (upd H lp (.lst (abc.cps.toList.map fun c => .str ⟨#[c]⟩))) := (DR.start hw).same (same_new nlp)
    have eL : (upd H lp (.lst (abc.cps.toList.map fun c => V.str ⟨#[c]⟩))) lp = some (.lst ((abc.cps.toList.map fun c => (⟨#[c]⟩ : Str)).map V.str)) := by
      rw [upd_same, List.map_map]
      rfl
    have L0 := abc_len
    have G0 := abc_gd
    generalize (abc.cps.toList.map fun c => (⟨#[c]⟩ : Str)) = ls0 at eL L0 G0
    refine ⟨⟨_, rfl⟩, rd_nx 8 rfl D1 (by omega) (by decide) (by decide) (fun R h => h) fun k H2 lk D2 kp2 => ?_⟩
    have e2 := kp2.at farL eL
    refine ⟨(k : Int), rfl, by omega, by omega, fun D nD => lc_gen (walk_range (lo := 0) (n := ((k : Nat) : Int).toNat)) (fun i H' => DR c d r H (n + 1 + i) H' ∧ H' lp = some (.lst (ls0.map V.str))) (fun y => ∃ x, y = .str x ∧ Gd 1 x) (by omega) ?_ (fun i H' acc p => ?_) (fun _ _ _ => trivial) (fun i H' x H'' _ y => y.1) (fun i x H3 acc hi p eD y Q3 q3 => ?_) fun H5 ys p eD el hR => ?_⟩
    · exact ⟨D2.wr (D2.free nD) (D2.2.new nD), by rw [upd_ne (ne_of_none e2 nD)]; exact e2⟩
    · exact ⟨p.1.wr (D2.free nD) (D2.2.new nD), by rw [upd_ne (ne_of_none e2 nD)]; exact p.2⟩
    · obtain ⟨-, rfl⟩ := y
      refine ⟨rfl, .ref lp, rfl, rd_nx 26 rfl p.1 (by omega) (by decide) (by decide) (fun R h => h) fun j H4 lj D4 kp4 => ?_⟩
      obtain ⟨x, hx⟩ : ∃ x, ls0[j]? = some x := ⟨ls0[j], by simp [L0, lj]⟩
      exact ⟨lp, _, _, .str x, rfl, rfl, SqL.of (kp4.at farL p.2), atI_nat (at_map V.str hx), q3 _ _ ⟨x, rfl, G0 x (List.mem_of_getElem? hx)⟩ (kp4.at (D2.2.new nD) eD) ⟨D4, kp4.at farL p.2⟩⟩
    obtain ⟨xs, rfl, gx⟩ := strs_of hR
    rw [List.length_map] at el
    have xl : xs.length ≤ 7 := by omega
    refine ⟨"", D, xs, rfl, rfl, .inl (SqL.of eD), gd_join_ok (by decide +kernel) (by decide) (by omega) gx, ?_⟩
    rw [TL.join_eq]
    have gs : Gd 14 (Str.join "" xs) := (Gd.join (sep := "") (m := 1) (gdB_ok (by decide +kernel)) gx).mono (by omega)
    generalize Str.join "" xs = stem at gs
    refine rd_nx (stem.length + 1) rfl p.1 (by omega) (by omega) (by have := gs.1; omega) (fun R h => ⟨.str stem, rfl, stem, rfl, gs.sz (by decide), _, _, rfl, rfl, h⟩) fun at_ H6 la D6 kp6 => ?_
    have e6 := kp6.at farL p.2
    refine ⟨.int m, rfl, (m : Int), rfl, by omega, by omega, fun E2 nE => lc_gen (walk_range (lo := 0) (n := ((m : Nat) : Int).toNat)) (fun i H' => DR c d r H (n + 9 + i) H' ∧ ∃ ls : List Str, H' lp = some (.lst (ls.map V.str)) ∧ ls.length = 26 - i ∧ ∀ x ∈ ls, Gd 1 x) (fun y => ∃ x, y = .str x ∧ Gd 30 x) (by omega) ?_ (fun i H' acc p => ?_) (fun _ _ _ => trivial) (fun i H' x H'' _ y => y.1) (fun i x H3 acc hi p eE y Q3 q3 => ?_) fun H7 ys p eE el hR => ?_⟩
    · exact ⟨(D6.wr (D6.free nE) (D6.2.new nE)).mono (by omega), ls0, by rw [upd_ne (ne_of_none e6 nE)]; exact e6, L0, G0⟩
    · obtain ⟨d3, ls, e3, l3, g3⟩ := p
      exact ⟨d3.wr (D6.free nE) (D6.2.new nE), ls, by rw [upd_ne (ne_of_none e6 nE)]; exact e3, l3, g3⟩
    · obtain ⟨-, rfl⟩ := y
      obtain ⟨d3, ls, e3, l3, g3⟩ := p
      have hi4 : i < 4 := by omega
      refine ⟨rfl, .str stem, rfl, _, rfl, _, rfl, stem, rfl, gs.sz (by decide), .ref lp, rfl, .inl ⟨rfl, _, SqL.of e3⟩, rd_nx ls.length rfl d3 (by omega) (by omega) (by omega) (fun R h => ⟨.ref lp, rfl, lp, _, rfl, .inl (SqL.of e3), by rw [List.length_map]; exact h⟩) fun j H4 lj D4 kp4 => ?_⟩
      obtain ⟨x, hx⟩ : ∃ x, ls[j]? = some x := ⟨ls[j], by simp [lj]⟩
      have e4 := kp4.at farL e3
      have gx1 := g3 x (List.mem_of_getElem? hx)
      refine ⟨lp, _, _, j, .str x, rfl, rfl, e4, by omega, by omega, by rw [List.length_map]; exact (ixN_seq (ixN_nat lj)).1, at_map V.str hx, ?_⟩
      rw [erase_map]
      have ga := (gs.cut none (some (at_ : Int))).add gx1
      have gb := ga.add (gs.cut (some (at_ : Int)) none)
      refine ⟨_, _, rfl, rfl, ?_, .str stem, rfl, _, rfl, _, rfl, stem, rfl, gs.sz (by decide), _, _, rfl, rfl, ?_, q3 _ _ ⟨_, rfl, gb.mono (by decide)⟩ ?_ ⟨D4.wr nlp farL, ls.eraseIdx j, upd_same, by rw [erase_len ls j lj]; omega, fun z hz => g3 z (erase_mem ls j z hz)⟩⟩
      · exact Nat.le_trans (Nat.add_le_add (gs.cut _ _).1 gx1.1) szr
      · exact Nat.le_trans (Nat.add_le_add ga.1 (gs.cut _ _).1) szr
      · rw [upd_ne (ne_of_none e6 nE).symm]
        exact kp4.at (D6.2.new nE) eE
    obtain ⟨d7, -⟩ := p
    obtain ⟨ks, rfl, gk⟩ := strs_of hR
    rw [List.length_map] at el
    have kl : ks.length = m := by omega
    refine ⟨E2, ks, rfl, SqL.of eE, by omega, fun zs p1 pm _ np1 => ⟨p1, _, rfl, .inl ⟨SqL.of upd_same, fun p2 np2 => ?_⟩⟩⟩
    have d8 := (d7.same (same_new (o := .lst (zs.map V.str)) np1))
    have d9 := d8.same (same_new (o := .tup (zs.map V.str)) np2)
    exact q p2 zs _ (by rw [pm.length_eq, kl]) (fun x hx => gk x (pm.mem_iff.mp hx)) d9.1 upd_same (d8.free np2) (d9.2.mono (by omega))
end
end Rt
set_option Elab.async false
set_option linter.all false
set_option maxRecDepth 100000
set_option maxHeartbeats 4000000
/-! _law_words. -/
namespace Rt
open PySem PySem.Spec PyProof.Rows L2
theorem gd_numI {i : Int} (h0 : 0 ≤ i) (h1 : i < 64) : Gd 4 (Str.ofString (toString i)) := by
  have q := gd_num (k := i.toNat) (by omega)
  have e : ((i.toNat : Nat) : Int) = i := by omega
  rw [e] at q
  exact q
theorem Drw.farT {H : Hp} {c d r p : Addr} {n : Nat} {xs : List V} (h : Drw H c d r n) (e : H p = some (.tup xs)) : Far p c d r := by
  obtain ⟨cs, rs, t, k, h1, h2, h3, h4⟩ := h
  exact ⟨ne_of e h2 (by intro z; cases z), ne_of e h1 (by intro z; cases z), ne_of e h3 (by intro z; cases z)⟩
section
variable {P : Program} {w : World} {K : PySem.W.Frag} {mg : Str → Option Value} {base : Heap}
def spWords : Sp := fun vs H Q _ => ∃ (c d r ka : Addr) (ks : List Str) (size n : Nat), vs = [.ref d, .ref ka, .int size] ∧ Drw H c d r n ∧ n ≤ 900000 ∧ H ka = some (.tup (ks.map V.str)) ∧ 1 ≤ ks.length ∧ ks.length ≤ 4 ∧ (∀ x ∈ ks, Gd 30 x) ∧ 1 ≤ size ∧ size ≤ 6 ∧
  ∀ p (ws : List Str) H', H p = none → 1 ≤ ws.length → ws.length ≤ 14 → (∀ x ∈ ws, Gd 40 x) → KpD d r H H' → H' p = some (.lst (ws.map V.str)) → Drw H' c d r (n + 40) → Q (.ref p) H'
theorem ok_words (T : Txt K mg) : FnOk P w K mg base CX0 2 T.words.f T.words.fd ["_law_drawn", "_law_kinds", "_law_size"] spWords := by
  have G1 : FnOk P w K mg base CX0 1 T.next.f T.next.fd ["_law_drawn", "_law_many"] spNext := ok_next T
  refine T.words.F.ok scWords (fun vs H Q E h => ?_) (fun cdv A outer s H vs Q E hr h => ?_)
  · obtain ⟨c, d, r, ka, ks, size, n, rfl, _⟩ := h
    rfl
  · obtain ⟨c, d, r, ka, ks, size, n, rfl, hw, hn, hk, k1, k4, gk, s1, s6, q⟩ := h
    have nm := scWords.nd
    refine ⟨_, pss_cons (ps_set (i := 3) nm rfl (.inl rfl) (pe_ix ix_tup (pe_op op_catA (pv 1) (pe_tup (pa_cons pe_str pa_nil))) (pe_op op_fdiv (pe_call G1 hr (by rfl) T.next.g T.next.F.kp T.next.b .nil pass0 (pa_cons (pv 0) (pa_cons (pe_op op_add (pe_op op_mul (pe_callB call_len_seq (by rfl) T.bLen PySem.boot_len (pa_cons (pv 1) pa_nil)) pe_int) pe_int) pa_nil))) pe_int) (fun _ _ => rfl)))
      (pss_cons (ps_setLc (i := 4) (own := [("_law_k", 7)]) (g := gName 7) (tt := tYes) rfl nm rfl rfl (sw_true rfl rfl rfl (by decide +kernel)) (pi_range1 (by rfl) T.bRange (pa_cons pe_int pa_nil)) (blkOk_by (N := nWords) (sc := defScope sWords) (by decide +kernel))
          (fun _ _ _ _ _ => pg_name (i := 7) nm rfl (Or.inl rfl)) (fun _ _ _ _ _ => pts_nil) (fun _ _ _ _ _ => pe_callTy call_str_int (by rfl) T.bStr boot_str (pa_cons (pe_call G1 hr (by rfl) T.next.g T.next.F.kp T.next.b .nil pass0 (pa_cons (pv 0) (pa_cons pe_int pa_nil))) pa_nil)))
      (pss_cons (ps_if (pt_cmpR op_eq (pe_call G1 hr (by rfl) T.next.g T.next.F.kp T.next.b .nil pass0 (pa_cons (pv 0) (pa_cons pe_int pa_nil))) pe_int (nomark _))
        (pss_one (ps_ret (pe_lst (pa_cons pe_str (pa_cons (pv 3) (pa_cons (pe_ix ix_list (pv 4) pe_int (fun _ _ => rfl))
          (pa_cons (pe_callTy call_str_int (by rfl) T.bStr boot_str (pa_cons (pe_call G1 hr (by rfl) T.next.g T.next.F.kp T.next.b .nil pass0 (pa_cons (pv 0) (pa_cons (pv 2) pa_nil))) pa_nil))
          (pa_cons (pe_ix ix_list (pv 4) pe_int (fun _ _ => rfl))
          (pa_cons (pe_callTy call_str_int (by rfl) T.bStr boot_str (pa_cons (pe_op op_add pe_int (pe_call G1 hr (by rfl) T.next.g T.next.F.kp T.next.b .nil pass0 (pa_cons (pv 0) (pa_cons pe_int pa_nil)))) pa_nil)) pa_nil))))))))) pss_nil)
      (pss_cons (ps_set (i := 5) nm rfl (.inl rfl) (pe_join pe_str (pe_lc (own := [("_law_hour", 8)]) (g := gName 8) rfl nm (pi_range1 (by rfl) T.bRange (pa_cons (pv 2) pa_nil)) (blkOk_by (N := nWords) (sc := defScope sWords) (by decide +kernel))
          (fun _ _ _ _ _ => pg_name (i := 8) nm rfl (Or.inl rfl)) (fun _ _ _ _ _ => pts_one (pt_cmpR op_gt (pe_call G1 hr (by rfl) T.next.g T.next.F.kp T.next.b .nil pass0 (pa_cons (pv 0) (pa_cons pe_int pa_nil))) pe_int (nomark _)))
          (fun _ _ _ _ _ => pe_callTy call_str_int (by rfl) T.bStr boot_str (pa_cons (pv 8) pa_nil)))))
      (pss_cons (ps_set (i := 6) nm rfl (.inl rfl) (pe_lst (pa_cons pe_str (pa_cons (pv 3) (pa_cons (pe_ix ix_list (pe_lst (pa_cons pe_str (pa_cons pe_str pa_nil))) (pe_call G1 hr (by rfl) T.next.g T.next.F.kp T.next.b .nil pass0 (pa_cons (pv 0) (pa_cons pe_int pa_nil))) (fun _ _ => rfl))
          (pa_cons (pe_op op_add_str (pv 5) (pe_op op_dash pe_str (pe_callTy call_int1 (by rfl) T.bInt boot_int (pa_cons (pe_cmpR op_eq (pv 5) pe_str (nomark _)) pa_nil)))) pa_nil))))))
      (pss_cons (ps_expr (pe_bm PySem.F.plainAttrs_list PySem.F.slot_list_append PySem.F.type_list_append mt_append (pv 6) (pa_cons (pe_callTy call_str_int (by rfl) T.bStr boot_str (pa_cons (pe_op op_add pe_int (pe_call G1 hr (by rfl) T.next.g T.next.F.kp T.next.b .nil pass0 (pa_cons (pv 0) (pa_cons pe_int pa_nil)))) pa_nil)) pa_nil)))
      (pss_cons (ps_for PassesOwn.never rfl (pi_range1 (by rfl) T.bRange (pa_cons (pe_op op_add pe_int (pe_call G1 hr (by rfl) T.next.g T.next.F.kp T.next.b .nil pass0 (pa_cons (pv 0) (pa_cons pe_int pa_nil)))) pa_nil)) (pg_name (i := 7) nm rfl (.inl rfl))
        (pss_one (ps_set (i := 6) nm rfl (.inl rfl) (pe_op op_cat (pv 6) (pe_lst (pa_cons (pe_ix ix_tup (pv 1) (pe_call G1 hr (by rfl) T.next.g T.next.F.kp T.next.b .nil pass0 (pa_cons (pv 0) (pa_cons (pe_callB call_len_seq (by rfl) T.bLen PySem.boot_len (pa_cons (pv 1) pa_nil)) pa_nil))) (fun _ _ => rfl))
          (pa_cons (pe_callTy call_str_int (by rfl) T.bStr boot_str (pa_cons (pe_call G1 hr (by rfl) T.next.g T.next.F.kp T.next.b .nil pass0 (pa_cons (pv 0) (pa_cons pe_int pa_nil))) pa_nil))
          (pa_cons (pe_callTy call_str_int (by rfl) T.bStr boot_str (pa_cons (pe_op op_add pe_int (pe_call G1 hr (by rfl) T.next.g T.next.F.kp T.next.b .nil pass0 (pa_cons (pv 0) (pa_cons pe_int pa_nil)))) pa_nil)) pa_nil))))))))
      (pss_one (ps_ret (pv 6))))))))), ?_⟩
    have D0 := DR.start hw
    have farK := hw.farT hk
    refine ⟨.ref ka, rfl, szr, fun p1 n1 => cat_any (K := K) (same_new n1 _ _ hk) upd_same ?_ fun p2 H2 z2 e2 => ?_⟩
    · rw [List.length_map]
      show ks.length + 1 ≤ 100000
      omega
    have D2 := (D0.same (same_new (o := .tup [V.str "zz"]) n1)).same z2
    refine rd_nx (ks.length * 6 + 1) rfl D2 (by omega) (by omega) (by omega) (fun R h => ⟨.ref ka, rfl, ka, _, rfl, .inr (SqT.of (z2 _ _ (same_new n1 _ _ hk))), ?_⟩) fun k H3 lk D3 kp3 => ?_
    · rw [List.length_map]
      exact ⟨_, _, rfl, rfl, .inr ⟨by decide, by decide⟩, _, _, rfl, rfl, h⟩
    have far2 := D2.2.farT e2
    have li : k / 6 < (ks ++ [("zz" : Str)]).length := by
      rw [List.length_append]
      show k / 6 < ks.length + 1
      omega
    obtain ⟨x, hx⟩ : ∃ x, (ks ++ [("zz" : Str)])[k / 6]? = some x := ⟨_, List.getElem?_eq_getElem li⟩
    have gx : Gd 30 x := by
      rcases List.mem_append.mp (List.mem_of_getElem? hx) with z | z
      · exact gk x z
      · rw [List.mem_singleton.mp z]
        exact gdB_ok (by decide +kernel)
    have e3 := kp3.at far2 e2
    refine ⟨_, _, rfl, rfl, ⟨by decide, by decide⟩, p2, (ks ++ [("zz" : Str)]).map V.str, _, .str x, rfl, rfl, SqT.of (by rw [e3, List.map_append]; rfl), at_of (j := k / 6) (by omega) (at_map V.str hx), ?_⟩
    refine ⟨9, rfl, by decide, by decide, fun Dn nD => lc_gen (walk_range (lo := 0) (n := (9 : Int).toNat)) (fun i H' => DR c d r H (n + 1 + i) H') (fun y => ∃ x, y = .str x ∧ Gd 4 x) (by decide) ?_ (fun i H' acc p => ?_) (fun _ _ _ => trivial) (fun i H' x H'' _ y => y.1) (fun i v H4 acc hi p eD y Q3 q3 => ?_) fun H4 ys D4 eN el hR => ?_⟩
    · exact D3.wr (D3.free nD) (D3.2.new nD)
    · exact p.wr (D3.free nD) (D3.2.new nD)
    · refine ⟨rfl, rd_nx 24 rfl p (by have : i < 9 := hi; omega) (by decide) (by decide) (fun R h => h) fun j H5 lj D5 kp5 => ?_⟩
      exact ⟨_, rfl, small_log (by omega) (by omega), q3 _ _ ⟨_, rfl, gd_num (by omega)⟩ (kp5.at (D3.2.new nD) eD) D5⟩
    have farN := D3.2.new nD
    obtain ⟨xs, rfl, gxs⟩ := strs_of hR
    rw [List.length_map] at el
    have el9 : xs.length = 9 := el
    have D4 : DR c d r H (n + 10) H4 := D4
    refine rd_nx 2 rfl D4 (by omega) (by decide) (by decide) (fun R h => h) fun t H5 lt D5 kp5 => ⟨rfl, _, rfl, ite2 (fun e => ?_) (fun e => ?_)⟩
    · have e5 := kp5.at farN eN
      obtain ⟨x0, h0⟩ : ∃ x, xs[0]? = some x := ⟨_, List.getElem?_eq_getElem (by omega)⟩
      obtain ⟨x1, h1⟩ : ∃ x, xs[1]? = some x := ⟨_, List.getElem?_eq_getElem (by omega)⟩
      refine ⟨.str x, rfl, rd_ixL (j := 0) rfl (SqL.of e5) rfl (at_map V.str h0) (rd_nx size rfl D5 (by omega) (by omega) (by omega) (fun R h => ⟨_, rfl, h⟩) fun a H6 la D6 kp6 => ?_)⟩
      refine ⟨_, rfl, small_log (by omega) (by omega), rd_ixL (j := 1) rfl (SqL.of (kp6.at farN e5)) rfl (at_map V.str h1) (rd_nx 9 rfl D6 (by omega) (by decide) (by decide) (fun R h => h) fun b H7 lb D7 kp7 => ?_)⟩
      refine ⟨_, _, rfl, rfl, _, rfl, small_log (by omega) (by omega), szr, fun p np => ?_⟩
      refine q p ["source", x, x0, Str.ofString (toString (a : Int)), x1, Str.ofString (toString (1 + (b : Int)))] _ (D7.free np) (by show 1 ≤ 6; decide) (by show 6 ≤ 14; decide) (fun z hz => ?_) (D7.same (same_new np)).1 upd_same ((D7.same (same_new np)).2.mono (by omega))
      rcases List.mem_cons.mp hz with rfl | hz
      · exact gdB_ok (by decide +kernel)
      rcases List.mem_cons.mp hz with rfl | hz
      · exact gx.mono (by decide)
      rcases List.mem_cons.mp hz with rfl | hz
      · exact (gxs _ (List.mem_of_getElem? h0)).mono (by decide)
      rcases List.mem_cons.mp hz with rfl | hz
      · exact (gd_num (k := a) (by omega)).mono (by decide)
      rcases List.mem_cons.mp hz with rfl | hz
      · exact (gxs _ (List.mem_of_getElem? h1)).mono (by decide)
      rw [List.mem_singleton.mp hz]
      exact (gd_numI (by omega) (by omega)).mono (by decide)
    refine ⟨⟨_, rfl⟩, .int size, rfl, (size : Int), rfl, by omega, by omega, fun Dh nDh => lc_genT (walk_range (lo := 0) (n := ((size : Nat) : Int).toNat)) (fun i H' => DR c d r H (n + 11 + i) H') (fun y => ∃ x, y = .str x ∧ Gd 4 x) (by omega) ?_ (fun i H' acc p => ?_) (fun _ _ _ => trivial) (fun i H' x H'' _ y => y.1) (fun i v H6 acc hi p eD y Q3 N3 q3 r3 => ?_) fun H6 ys D6 eH el2 hR2 => ?_⟩
    · exact D5.wr (D5.free nDh) (D5.2.new nDh)
    · exact p.wr (D5.free nDh) (D5.2.new nDh)
    · obtain ⟨-, rfl⟩ := y
      refine ⟨rfl, rd_nx 3 rfl p (by omega) (by decide) (by decide) (fun R h => h) fun j H7 lj D7 kp7 => ⟨_, _, rfl, rfl, _, rfl, ite2 (fun e => ?_) (fun e => ?_)⟩⟩
      · exact ⟨_, rfl, _, rfl, small_log (by omega) (by omega), q3 _ _ ⟨_, rfl, gd_numI (by omega) (by omega)⟩ (kp7.at (D5.2.new nDh) eD) D7⟩
      · exact r3 _ (kp7.at (D5.2.new nDh) eD) D7
    obtain ⟨hs, rfl, ghs⟩ := strs_of hR2
    rw [List.length_map] at el2
    have hl6 : hs.length ≤ 6 := by omega
    refine ⟨",", Dh, hs, rfl, rfl, .inl (SqL.of eH), gd_join_ok (by decide +kernel) (by decide) (by omega) ghs, ?_⟩
    rw [TL.join_eq]
    have gh : Gd 30 (Str.join "," hs) := (Gd.join (sep := ",") (gdB_ok (by decide +kernel)) ghs).mono (by omega)
    generalize Str.join "," hs = hz at gh
    have D6 : DR c d r H (n + 17) H6 := D6.mono (by omega)
    refine ⟨.str x, rfl, szr, fun p3 n3 => ?_⟩
    have D7 := D6.same (same_new (o := .lst [V.str "oldest", V.str "youngest"]) n3)
    have far3 := D6.2.new n3
    refine rd_nx 2 rfl D7 (by omega) (by decide) (by decide) (fun R h => h) fun j H8 lj D8 kp8 => ?_
    obtain ⟨y, hy⟩ : ∃ y, ([("oldest" : Str), "youngest"])[j]? = some y := ⟨_, List.getElem?_eq_getElem lj⟩
    have gy : Gd 40 y := gdB_ok (List.all_eq_true.mp (show ([("oldest" : Str), "youngest"]).all (gdB 40) = true by decide +kernel) y (List.mem_of_getElem? hy))
    refine ⟨p3, [("oldest" : Str), "youngest"].map V.str, _, .str y, rfl, rfl, SqL.of (kp8.at far3 upd_same), atI_nat (at_map V.str hy), ?_⟩
    refine ⟨.str hz, rfl, .str hz, rfl, rfl, .inr ⟨_, rfl, ?_⟩⟩
    have gd : ∀ b : Bool, Gd 1 (if (if b = true then (1 : Int) else 0) = 0 then Str.empty else "-") := fun b => by cases b <;> exact gdB_ok (by decide +kernel)
    refine ⟨_, rfl, rfl, ?_, ?_⟩
    · split
      · exact .inr rfl
      · exact .inl rfl
    have gw := gh.add (gd (decide (V.str hz = V.str "")))
    refine ⟨_, _, rfl, rfl, Nat.le_trans (Nat.add_le_add gh.1 (gd _).1) szr, szr, fun wp nwp => ?_⟩
    generalize hz ++ (if (if decide (V.str hz = V.str "") = true then (1 : Int) else 0) = 0 then Str.empty else "-") = hd at gw nwp ⊢
    have hwp := D8.free nwp
    have farW := D8.2.new nwp
    have D9 := D8.same (same_new (o := .lst [V.str "way", V.str x, V.str y, V.str hd]) nwp)
    refine ⟨.ref wp, rfl, .inl ⟨rfl, _, SqL.of upd_same⟩, rd_nx 6 rfl D9 (by omega) (by decide) (by decide) (fun R h => h) fun a H10 la D10 kp10 => ?_⟩
    refine ⟨_, _, rfl, rfl, _, rfl, small_log (by omega) (by omega), wp, _, _, rfl, rfl, kp10.at farW upd_same, szr, ?_⟩
    have D11 : DR c d r H (n + 19) (upd H10 wp (.lst ([V.str "way", V.str x, V.str y, V.str hd] ++ [V.str (Str.ofString (toString (1 + (a : Int))))]))) := D10.wr hwp farW
    refine rd_nx 3 rfl D11 (by omega) (by decide) (by decide) (fun R h => h) fun m H12 lm D12 kp12 => ?_
    refine ⟨_, _, rfl, rfl, _, rfl, by omega, by omega, for_it (walk_range (lo := 0) (n := (1 + (m : Int)).toNat)) (fun i σ H' => ∃ wq y7 y8 ws, σ = [some (.ref d), some (.ref ka), some (.int size), some (.str x), some (.ref Dn), some (.str hz), some (.ref wq), y7, y8] ∧
      DR c d r H (n + 20 + 3 * i) H' ∧ H wq = none ∧ Far wq c d r ∧ H' wq = some (.lst ((ws : List Str).map V.str)) ∧ ws.length = 5 + 3 * i ∧ ∀ z ∈ ws, Gd 40 z) ?_ (fun _ _ _ _ _ => trivial) ?_ ?_⟩
    · refine ⟨wp, none, none, ["way", x, y, hd, Str.ofString (toString (1 + (a : Int)))], rfl, D12, hwp, farW, kp12.at farW upd_same, rfl, fun z hm => ?_⟩
      rcases List.mem_cons.mp hm with rfl | hm
      · exact gdB_ok (by decide +kernel)
      rcases List.mem_cons.mp hm with rfl | hm
      · exact gx.mono (by decide)
      rcases List.mem_cons.mp hm with rfl | hm
      · exact gy
      rcases List.mem_cons.mp hm with rfl | hm
      · exact gw.mono (by decide)
      rw [List.mem_singleton.mp hm]
      exact (gd_numI (by omega) (by omega)).mono (by decide)
    · rintro i v σ H13 H14 hi ⟨wq, y7, y8, ws, rfl, d13, n13, f13, e13, l13, g13⟩ ⟨rfl, rfl⟩
      have hi3 : i < 3 := by omega
      refine ⟨.ref wq, rfl, .ref ka, rfl, rd_nx ks.length rfl d13 (by omega) (by omega) (by omega) (fun R h => ⟨.ref ka, rfl, ka, _, rfl, .inr (SqT.of (d13.1.at farK hk)), by rw [List.length_map]; exact h⟩) fun a1 H15 la1 D15 kp15 => ?_⟩
      obtain ⟨z, hz1⟩ : ∃ z, ks[a1]? = some z := ⟨_, List.getElem?_eq_getElem la1⟩
      refine ⟨ka, _, _, .str z, rfl, rfl, SqT.of (D15.1.at farK hk), atI_nat (at_map V.str hz1), rd_nx 8 rfl D15 (by omega) (by decide) (by decide) (fun R h => h) fun a2 H16 la2 D16 kp16 => ?_⟩
      refine ⟨_, rfl, small_log (by omega) (by omega), rd_nx 13 rfl D16 (by omega) (by decide) (by decide) (fun R h => h) fun a3 H17 la3 D17 kp17 => ?_⟩
      refine ⟨_, _, rfl, rfl, _, rfl, small_log (by omega) (by omega), szr, fun p4 n4 => ?_⟩
      have t4 := same_new (o := .lst [V.str z, V.str (Str.ofString (toString (a2 : Int))), V.str (Str.ofString (toString (8 + (a3 : Int))))]) n4
      have e17 := t4 _ _ (kp17.at f13 (kp16.at f13 (kp15.at f13 e13)))
      refine ⟨wq, p4, ws.map V.str, _, rfl, rfl, e17, upd_same, sz_le (by rw [List.length_map]; show ws.length + 3 ≤ 100000; omega), fun p5 n5 => ?_⟩
      have D18 := D17.same t4
      refine ⟨p5, _, _, ws ++ [z, Str.ofString (toString (a2 : Int)), Str.ofString (toString (8 + (a3 : Int)))], rfl, (D18.same (same_new n5)).mono (by omega), D18.free n5, D18.2.new n5, by rw [upd_same, List.map_append]; rfl, by rw [List.length_append]; show ws.length + 3 = _; omega, fun u hu => ?_⟩
      rcases List.mem_append.mp hu with hu | hu
      · exact g13 u hu
      rcases List.mem_cons.mp hu with rfl | hu
      · exact (gk _ (List.mem_of_getElem? hz1)).mono (by decide)
      rcases List.mem_cons.mp hu with rfl | hu
      · exact (gd_num (by omega)).mono (by decide)
      rw [List.mem_singleton.mp hu]
      exact (gd_numI (by omega) (by omega)).mono (by decide)
    · rintro σ H13 ⟨wq, y7, y8, ws, rfl, d13, n13, f13, e13, l13, g13⟩
      exact ⟨.ref wq, rfl, q wq ws H13 n13 (by omega) (by omega) g13 d13.1 e13 (d13.2.mono (by omega))⟩
end
end Rt
set_option Elab.async false
set_option linter.all false
set_option maxRecDepth 100000
set_option maxHeartbeats 4000000
/-! sorted(xs, key=lambda x: x[0]), x a list that begins with a text. -/
namespace Rt
open PySem PySem.Spec PyProof.Rows L2 LamX
/-! ### a call of the lambda -/
section
variable {prog : Program} {w : World} {A : Around} {s : Shared}
theorem key_call {f c' l : Addr} {q : Str} {params : Arguments} {x : Str} {kd : Nat} {p1 p2 p3 : Pos} {scope : Scope} {pm ctv : Value} {items : Array Value} {z : Str} {t : Tok} {cl : List (Str × Addr)}
    (ho : s.heap.get? f = some (PySem.W.kla_obj "<lambda>" q params (.Subscript (.Name x p1) (.Constant (.int 0) kd p2) p3) scope cl pm c' ctv)) (hcode : ∃ (oc : Obj) (vs : Array Value) (t : Tok), s.heap.get? c' = some oc ∧ oc.data = .fields vs ∧ vs[1]? = some (.str q t))
    (lim : s.heap.NoLimit) (dep : A.depth < recursionLimit) (hbind : bindArgs (PySem.W.kla_fn "<lambda>" q params (.Subscript (.Name x p1) (.Constant (.int 0) kd p2) p3) scope cl pm (.ref c') ctv) ⟨[.ref l], []⟩ = pure [(x, .ref l)])
    (hk : scope.kind = .function) (hco : scope.isCoroutine = false) (hgen : scope.isGenerator = false) (hcell : ∀ y ∈ scope.names, y.2 ≠ .cell) (hx : scope.names.lookup x = some .local) (hd : (x == ("__debug__" : Str)) = false)
    (hl : s.heap.IsList l items) (hz : items[0]? = some (.str z t)) : wpAny (model prog w) A (call (.ref f) [.ref l]) (PySem.W.KeyPure (.str z) s) (fun _ _ => False) s := by
  obtain ⟨oc, vs, t', hoc, hdc, hvc⟩ := hcode
  refine wpAny_call (PySem.W.kla_callFunE dep ho rfl hco hgen rfl ⟨c', oc, vs, t', rfl, hoc, hdc, hvc⟩ ?_)
  rw [hbind]
  refine wpAny_pure (wpAny_newFunctionEnv hcell (fun y hy => ?_) (fun h₁ hns hsb => ⟨lim.fresh _ hsb, ?_⟩) hk)
  · rw [List.mem_singleton.mp hy]
    exact hx
  show codeAny _ _ (.expr (.Subscript (.Name x p1) (.Constant (.int 0) kd p2) p3) (PySem.W.envX q scope s.heap.objs.size f (.ref c') cl)) _ _
  have kp : ∀ b o, s.heap.get? b = some o → h₁.get? b = some o := fun b o e => hsb.extBut b o (Nat.ne_of_lt (Heap.lt_size e)) (Heap.get?_push_of_some _ e)
  refine PySem.W.kla_codeExpr (Subscript_ (wpAny_Name (wpAny_loadName_local (v := .ref l) hk hx hns ?_ (wpAny_Constant_int ?_)) hd))
  · show ([(x, Value.ref l)].reverse).lookup x = some (.ref l)
    simp
  obtain ⟨o, e1, e2, m, e3⟩ := hl
  refine item_listR (items := items) (k := 0) ⟨o, kp _ _ e1, e2, m, e3⟩ (by decide) (by decide) hz ?_
  exact ⟨_, _, rfl, kp, .str z t⟩
end
/-! ### the rule -/
/-- lists of texts ahead: the places and the first texts -/
theorem heads_of {X : Cx} {pins : List (Addr × Obj)} {σ : L2.St} {H : Hp} {s : Shared} (I : Inv X pins σ H s) : ∀ {rs : List Addr} {its : List Value}, Vals (rs.map V.ref) its → (∀ r ∈ rs, ∃ (z : Str) (xs : List V), H r = some (.lst (.str z :: xs))) →
    ∃ bs : List (Addr × Str), PySem.W.EachIs (fun (v : Value) (b : Addr × Str) => v = .ref b.1 ∧ ∃ (items : Array Value) (t : Tok), s.heap.IsList b.1 items ∧ items[0]? = some (.str b.2 t)) its bs ∧ bs.map Prod.fst = rs
  | [], [], _, _ => ⟨[], .nil, rfl⟩
  | [], _ :: _, h, _ => by cases h
  | _ :: _, [], h, _ => by cases h
  | r :: rs, v :: its, h, hr => by
    have h2 : Paired RelV (V.ref r :: rs.map V.ref) (v :: its) := h
    cases h2 with
    | cons h3 h4 =>
      obtain ⟨bs, e1, e2⟩ := heads_of I (rs := rs) (its := its) h4 fun x hx => hr x (List.mem_cons_of_mem _ hx)
      obtain ⟨z, xs, hz⟩ := hr r (List.mem_cons_self ..)
      obtain ⟨us, rv, pl, _⟩ := I.list (SqL.of hz)
      obtain ⟨u, hu, t, rfl⟩ := rv.get (i := 0) (x := .str z) rfl
      have h3' : v = Value.ref r := h3
      exact ⟨(r, z) :: bs, .cons ⟨h3', us.toArray, t, pl.isList, by simpa using hu⟩ e1, by rw [List.map_cons, e2]⟩
theorem each_vals {R : Value → Addr × Str → Prop} (hR : ∀ v b, R v b → v = .ref b.1) : ∀ {vs : List Value} {bs : List (Addr × Str)}, PySem.W.EachIs R vs bs → Vals ((bs.map Prod.fst).map V.ref) vs
  | _, _, .nil => .nil
  | _, _, .cons h t => .cons (by rw [hR _ _ h]; rfl) (each_vals hR t)
theorem ExtN.sq {K : PySem.W.Frag} {H H' : Hp} {a : Addr} {xs : List V} (e : ExtN H H') (h : SqL K H a xs) : SqL K H' a xs := by
  rcases h with (h | ⟨o, h⟩) | h
  · exact .inl (.inl (e _ _ h (fun ps z => by cases z)))
  · exact .inl (.inr ⟨o, e _ _ h (fun ps z => by cases z)⟩)
  · exact .inr h
def tSortLam (K : PySem.W.Frag) (T : List (Addr × Str)) (te : TE) : TE := fun σ H Q => te σ H fun x H1 => Tabs T H1 ∧ ∃ (a : Addr) (rs : List Addr), [x] = [V.ref a] ∧ SqL K H1 a (rs.map V.ref) ∧ (∀ r ∈ rs, ∃ (z : Str) (xs : List V), H1 r = some (.lst (.str z :: xs))) ∧
  ∀ H2 p (rs' : List Addr), ExtN H1 H2 → Tabs T H2 → H2 p = none → rs'.length = rs.length → (∀ r ∈ rs', r ∈ rs) → Q (.ref p) (upd H2 p (.lst (rs'.map V.ref)))
section
variable {X : Cx}
theorem pe_sortedLam {T : List (Addr × Str)} {c P : Addr} {e : Expr} {te : TE} {params : Arguments} {x : Str} {kd : Nat} {p p1 p2 p3 lpos kpos pos : Pos} {scope : Scope} (hg : Gl X "sorted") (hm : X.mg "sorted" = none) (he : PE X e te) (TB : TabB X.base X.mg c P) (hcode : X.env.code = .ref c)
    (hmT : (P, X.env.qual ++ "<lambda>") ∈ T) (hu : ∀ p ∈ T, p.1 = P → p.2 = X.env.qual ++ "<lambda>") (hr : Room 2 X.A) (hdef : defaultsOf params X.env = ([], []))
    (hbind : ∀ (q : Str) (cl : List (Str × Addr)) (pm cv ctv u : Value), bindArgs (PySem.W.kla_fn "<lambda>" q params (.Subscript (.Name x p1) (.Constant (.int 0) kd p2) p3) scope cl pm cv ctv) ⟨[u], []⟩ = pure [(x, u)])
    (hk : scope.kind = .function) (hco : scope.isCoroutine = false) (hgen : scope.isGenerator = false) (hcell : ∀ y ∈ scope.names, y.2 ≠ .cell) (hfree : ∀ y ∈ scope.names, y.2 ≠ .free) (hx : scope.names.lookup x = some .local) (hd : (x == ("__debug__" : Str)) = false)
    (he1 : starEach [e] X.env = (false, eval e X.env) :: starEach [] X.env := by rfl) (he2 : backTo pos (starEach [e] X.env) = (false, eval e X.env) :: backTo pos (starEach [] X.env) := by rfl) (hpl : (backTo pos (starEach [e] X.env)).any (·.1) = false := by rfl)
    (hall : (backToKw pos (keywordEach [⟨some "key", .Lambda params (.Subscript (.Name x p1) (.Constant (.int 0) kd p2) p3) scope lpos, kpos⟩] X.env)).all (·.1.isSome) = true := by rfl)
    (hnone : (backToKw pos (keywordEach [⟨some "key", .Lambda params (.Subscript (.Name x p1) (.Constant (.int 0) kd p2) p3) scope lpos, kpos⟩] X.env)).any (·.1.isNone) = false := by rfl)
    (hks : (backToKw pos (keywordEach [⟨some "key", .Lambda params (.Subscript (.Name x p1) (.Constant (.int 0) kd p2) p3) scope lpos, kpos⟩] X.env)).filterMap (·.1) = [("key" : Str)] := by rfl) :
    PE X (.Call (.Name "sorted" p) [e] [⟨some "key", .Lambda params (.Subscript (.Name x p1) (.Constant (.int 0) kd p2) p3) scope lpos, kpos⟩] pos) (tSortLam X.K T te) := by
  refine ⟨fun pins s σ H Q I h => ?_⟩
  refine wpAny_Call_Name_kw (ld_blt I hg hm bootSorted ?_ (by decide) (by decide))
  refine PyProof.Rows.callWith_kw (thn ((pa_cons he pa_nil he1).run pos pins s σ H (fun vs H1 => Tabs T H1 ∧ ∃ (a : Addr) (rs : List Addr), vs = [V.ref a] ∧ SqL X.K H1 a (rs.map V.ref) ∧ (∀ r ∈ rs, ∃ (z : Str) (xs : List V), H1 r = some (.lst (.str z :: xs))) ∧
    ∀ H2 p (rs' : List Addr), ExtN H1 H2 → Tabs T H2 → H2 p = none → rs'.length = rs.length → (∀ r ∈ rs', r ∈ rs) → Q (.ref p) (upd H2 p (.lst (rs'.map V.ref)))) I ?_) fun us s1 ⟨vs, H1, I1, r1, hT1, a, rs, ev, ha, hrs, q⟩ => ?_) he2 hpl hall hnone
  · exact h
  subst ev
  obtain rfl := Vals.ref1 r1
  refine kws_cons (lam_make2 I1 TB hcode hmT hu hT1 hdef (fun y hy e => absurd e (hfree y hy)) fun f c' pm ctv H2 s2 I2 eN T2 hf hfn hfr hco2 => kws_nil ?_)
  rw [hks]
  show wpAny _ _ (call (.builtin "sorted") [.ref a] [(("key" : Str), .ref f)]) _ _ _
  have hrs2 : ∀ r ∈ rs, ∃ (z : Str) (xs : List V), H2 r = some (.lst (.str z :: xs)) := fun r hr => by
    obtain ⟨z, xs, e⟩ := hrs r hr
    exact ⟨z, xs, eN _ _ e (fun ps z => by cases z)⟩
  obtain ⟨its, rv, pl, hz⟩ := I2.list (ExtN.sq eN ha)
  obtain ⟨bs, eb, er⟩ := heads_of I2 rv hrs2
  obtain ⟨hcd, _, _⟩ := I2.hok c' _ hco2
  have lb : bs.length = rs.length := by rw [← er, List.length_map]
  rw [List.length_map] at hz
  refine PySem.W.sorted_key_data (b := false) (fun b : Addr × Str => PyData.str b.2) pl.isList eb (PySem.W.AllAlike.of fun b b' => by simp [PySem.W.alike]) (PySem.W.Sortable.others fun b => ⟨by simp, by simp⟩) (by omega) (fun b _ => by have := hr.un; simp only [PyData.depth]; omega)
    (PyProof.Rows.ksk_s1 _ _) (fun x => PyProof.Rows.ksk_l1 _ _) (fun x => PyProof.Rows.ksk_t1 f x) (fun v b hv _ h tk kp => ?_) fun out cc h' tk kp nf hat hlen each => ?_
  · obtain ⟨rfl, items, t, ⟨o, e1, e2, m, e3⟩, h0⟩ := hv
    obtain ⟨oc, vs, t', g1, g2, g3⟩ := hcd
    exact key_call (s := { s2 with heap := h, toks := tk }) (kp _ _ hf) ⟨oc, vs, t', kp _ _ g1, g2, g3⟩ (I2.nolimit.keeps kp) hr.in1.in1.depth (hbind _ _ _ _ _ _) hk hco hgen hcell hx hd ⟨o, kp _ _ e1, e2, m, e3⟩ h0
  · have pm : ∀ b, b ∈ bs.mergeSort (PySem.W.dataLe false fun b : Addr × Str => PyData.str b.2) → b ∈ bs := fun b hb => (List.mergeSort_perm bs _).mem_iff.mp hb
    have pl2 : (bs.mergeSort (PySem.W.dataLe false fun b : Addr × Str => PyData.str b.2)).length = bs.length := (List.mergeSort_perm bs _).length_eq
    generalize bs.mergeSort (PySem.W.dataLe false fun b : Addr × Str => PyData.str b.2) = ms at each pm pl2
    have vv := each_vals (fun v b hv => hv.1) each
    refine ⟨.ref (s2.heap.objs.size + 1), upd H2 (s2.heap.objs.size + 1) (.lst ((ms.map Prod.fst).map V.ref)), I2.laid (t' := tk) kp (Nat.le_succ _) ⟨by rw [List.length_map, List.length_map]; omega, out, cc, vv, hat⟩, rfl, q H2 _ _ eN T2 (I2.hok.fresh (Nat.le_succ _)) (by rw [List.length_map]; omega) fun r hr => ?_⟩
    obtain ⟨b, hb, rfl⟩ := List.mem_map.mp hr
    rw [← er]
    exact List.mem_map_of_mem (pm b hb)
end
end Rt
set_option Elab.async false
set_option linter.all false
set_option maxRecDepth 100000
set_option maxHeartbeats 4000000
/-! _law_lines. -/
namespace Rt
open PySem PySem.Spec PyProof.Rows L2 LamX
/-- all kept but tables, the drawn list and its rests -/
def KpN (d r : Addr) (H H' : Hp) : Prop := ∀ b o, b ≠ d → b ≠ r → (∀ ps, o ≠ .tbl ps) → H b = some o → H' b = some o
theorem KpN.trans {d r : Addr} {H H1 H2 : Hp} (a : KpN d r H H1) (b : KpN d r H1 H2) : KpN d r H H2 := fun c o n1 n2 n3 h => b c o n1 n2 n3 (a c o n1 n2 n3 h)
theorem KpD.n {d r : Addr} {H H' : Hp} (a : KpD d r H H') : KpN d r H H' := fun c o n1 n2 _ h => a c o n1 n2 h
theorem ExtN.n {d r : Addr} {H H' : Hp} (a : ExtN H H') : KpN d r H H' := fun c o _ _ n h => a c o h n
theorem Drw.ext {H H' : Hp} {c d r : Addr} {n : Nat} (e : ExtN H H') (h : Drw H c d r n) : Drw H' c d r n := by
  obtain ⟨cs, rs, t, k, h1, h2, h3, h4⟩ := h
  exact ⟨cs, rs, t, k, e _ _ h1 (fun ps z => by cases z), e _ _ h2 (fun ps z => by cases z), e _ _ h3 (fun ps z => by cases z), h4⟩
theorem codeO_lst {c : Addr} {q : Str} (xs : List V) : CodeO c q ≠ .lst xs := fun z => by
  unfold CodeO at z
  cases z
theorem Tabs.kp {T : List (Addr × Str)} {H H' : Hp} {c d r : Addr} {n : Nat} (t : Tabs T H) (k : KpD d r H H') (h : Drw H c d r n) : Tabs T H' := fun p hp => by
  obtain ⟨cs, rs, _, _, h1, h2, h3, h4⟩ := h
  obtain ⟨ps, a1, a2, a3⟩ := t p hp
  refine ⟨ps, k _ _ (ne_of a1 h1 (by intro z; cases z)) (ne_of a1 h3 (by intro z; cases z)) a1, a2, fun pos cv hcv => ?_⟩
  obtain ⟨cc, e1, e2⟩ := a3 pos cv hcv
  exact ⟨cc, e1, k _ _ (ne_of e2 h1 (codeO_lst _)) (ne_of e2 h3 (codeO_lst _)) e2⟩
/-- what stands since H0, tables grown -/
structure DN (T : List (Addr × Str)) (c d r : Addr) (H0 : Hp) (n : Nat) (H : Hp) : Prop where
  kp : KpN d r H0 H
  w : Drw H c d r n
  t : Tabs T H
section
variable {T : List (Addr × Str)} {H H' H0 : Hp} {c d r p : Addr} {n m : Nat} {o : HO}
theorem DN.start (w : Drw H c d r n) (t : Tabs T H) : DN T c d r H n H := ⟨fun _ _ _ _ _ h => h, w, t⟩
theorem DN.mono (h : DN T c d r H0 n H) (e : n ≤ m) : DN T c d r H0 m H := ⟨h.kp, h.w.mono e, h.t⟩
theorem DN.same (h : DN T c d r H0 n H) (e : Same H H') : DN T c d r H0 n H' := ⟨h.kp.trans (KpD.of e).n, h.w.same e, Tabs.ext h.t e⟩
theorem DN.call (h : DN T c d r H0 n H) (k : KpD d r H H') (w : Drw H' c d r m) : DN T c d r H0 m H' := ⟨h.kp.trans k.n, w, Tabs.kp h.t k h.w⟩
theorem DN.dr (h : DN T c d r H0 n H) (k : DR c d r H m H') : DN T c d r H0 m H' := h.call k.1 k.2
theorem DN.ext (h : DN T c d r H0 n H) (e : ExtN H H') (t : Tabs T H') : DN T c d r H0 n H' := ⟨h.kp.trans (ExtN.n e), h.w.ext e, t⟩
/-- a new place holds nothing known before, but a table -/
theorem DN.new (h : DN T c d r H0 n H) (e : H p = none) (b : Addr) (u : HO) (nu : ∀ ps, u ≠ .tbl ps) (hu : H0 b = some u) : p ≠ b := fun z => by
  subst z
  have f := h.w.new e
  have q := h.kp p u f.2.1 f.2.2 nu hu
  rw [e] at q
  cases q
end
/-- a list of words -/
def LW (H : Hp) (a : Addr) : Prop := ∃ (x : Str) (ws : List Str), H a = some (.lst ((x :: ws).map V.str)) ∧ ws.length ≤ 13 ∧ ∀ z ∈ x :: ws, Gd 40 z
theorem LW.same {H H' : Hp} {a : Addr} (e : Same H H') (h : LW H a) : LW H' a := by
  obtain ⟨x, ws, h1, h2⟩ := h
  exact ⟨x, ws, e _ _ h1, h2⟩
theorem LW.kp {H H' : Hp} {a c d r : Addr} (e : KpD d r H H') (f : Far a c d r) (h : LW H a) : LW H' a := by
  obtain ⟨x, ws, h1, h2⟩ := h
  exact ⟨x, ws, e.at f h1, h2⟩
theorem LW.ext {H H' : Hp} {a : Addr} (e : ExtN H H') (h : LW H a) : LW H' a := by
  obtain ⟨x, ws, h1, h2⟩ := h
  exact ⟨x, ws, e _ _ h1 (fun ps z => by cases z), h2⟩
theorem cut_map {α : Type} (f : α → V) {xs : List α} (lo hi : Option Int) : ∃ ys : List α, cutV (xs.map f) lo hi = ys.map f ∧ ys.length ≤ xs.length ∧ ∀ y ∈ ys, y ∈ xs := by
  unfold cutV
  rw [List.length_map]
  refine ⟨_, by rw [List.map_take, List.map_drop], ?_, fun y hy => List.mem_of_mem_drop (List.mem_of_mem_take hy)⟩
  rw [List.length_take, List.length_drop]
  omega
/-- a comprehension whose turns tell what is made -/
theorem lc_genA {J : It} {n : Nat} {G : Hp → Prop} {Y : Nat → Hp → V → Hp → Prop} (w : Walk J n G Y) {g : TG} {te : TE} {vs : List Nat} {σ : L2.St} {H1 : Hp} {D : Addr} {Qd : Hp → Prop} (S : Nat → List V → Hp → Prop)
    (h0 : S 0 [] (upd H1 D (.lst []))) (hl : ∀ i acc H, S i acc H → acc.length ≤ 100000) (hG : ∀ i acc H, S i acc H → G H) (hY : ∀ i H x H', i < n → Y i H x H' → H' = H)
    (hs : ∀ (i : Nat) (x : V) (H : Hp) (acc : List V), i < n → S i acc H → H D = some (.lst acc) → Y i H x H → ∀ Q : VK, (∀ y H4, H4 D = some (.lst acc) → S (i + 1) (acc ++ [y]) (upd H4 D (.lst (acc ++ [y]))) → Q y H4) → g x (wipe σ vs) H fun σ2 H2 => wipe σ2 vs = wipe σ vs ∧ te σ2 H2 Q)
    (hd : ∀ H ys, S n ys H → H D = some (.lst ys) → Qd H) :
    ∃ W : Nat → Nat → Hp → Prop, (∃ m, W 0 m (upd H1 D (.lst []))) ∧ ∀ i m H, W i m H →
      (J.stop i H ∧ Qd H) ∨ (J.go i H ∧ ∃ Nx : Hp → Prop, (∀ H', Nx H' → ∃ m', m' < m ∧ W (i + 1) m' H') ∧ ∀ x H', J.yld i H x H' → g x (wipe σ vs) H' fun σ2 H2 => wipe σ2 vs = wipe σ vs ∧ tYes σ2 H2 fun b H3 =>
        if b = true then te σ2 H3 fun y H4 => ∃ acc, H4 D = some (.lst acc) ∧ acc.length < sizeLine ∧ Nx (upd H4 D (.lst (acc ++ [y]))) else Nx H3) := by
  have sl : (100000 : Nat) < sizeLine := by decide
  refine lc_it w (fun i H => ∃ acc, H D = some (.lst acc) ∧ S i acc H) ⟨[], upd_same, h0⟩ (fun i H _ ⟨acc, _, p⟩ => hG i acc H p) (fun i x H H' hi p y => ?_) fun H ⟨acc, e, p⟩ => hd H acc p e
  obtain ⟨acc, e, p⟩ := p
  have eH := hY i H x H' hi y
  subst eH
  have h2 := hl _ _ _ p
  exact hs i x H' acc hi p e y _ fun v H4 e4 s4 => ⟨acc, e4, by omega, acc ++ [v], upd_same, s4⟩
def rJoinQ (K : PySem.W.Frag) : V → List V → Hp → VK → Prop := fun x xs H Q => ∃ a p, ∃ ys : List Str, x = .str a ∧ xs = [.ref p] ∧ (SqL K H p (ys.map V.str) ∨ SqT K H p (ys.map V.str)) ∧ (ys.map (·.length)).sum + ys.length * a.length ≤ 16777216 ∧ Q (.str (Txt.join a ys)) H
/-- sep.join(xs) within a comprehension: the reading free of the block -/
theorem pe_joinK {X : Cx} {K : PySem.W.Frag} {o e : Expr} {to te : TE} {apos pos : Pos} (hK : X.K = K) (ho : PE X o to) (he : PE X e te) (hs : starEach [e] X.env = [(false, eval e X.env)] := by rfl) (hbase : attributeBase o "join" X.env (eval o X.env) = eval o X.env := by rfl)
    (hline : (apos.endLine == pos.line) = true := by rfl) : PE X (.Call (.Attribute o "join" apos) [e] [] pos) (tM1 (rJoinQ K) to te) := by
  subst hK
  exact pe_join ho he hs hbase hline
def lamQ : Str := ("_law_lines" : Str) ++ ".<locals>." ++ "<lambda>"
section
variable {P : Program} {w : World} {K : PySem.W.Frag} {mg : Str → Option Value} {base : Heap}
/-- Fun.ok, the def's code object known -/
theorem okC {x qual : Str} {st : Stmt} {f : Addr} {fd : FuncData} {N ps : List Str} {k : Nat} {sp : Sp} (F : L2.Fun K x qual st f fd) (S : FnScope N ps (defScope st)) (len : ∀ vs H Q E, sp vs H Q E → vs.length = ps.length)
    (hbody : ∀ (cdv : Value) (A : Around) (outer : List Env) (s : Shared) (H : Hp) (vs : List V) (Q : VK) (E : XK), fd.code = cdv → Room k (A.deeper (envOfC qual (defScope st) s.heap.objs.size f cdv)) → sp vs H Q E →
      ∃ t, PSs (cxOf CX0 P w K mg base N qual (defScope st) f cdv A outer s H E).nox (defBody st) t ∧ t { nx := fun _ H' => Q .non H', rt := Q } (L2.start N vs) H) : FnOk P w K mg base CX0 (k + 1) f fd ps sp := by
  obtain ⟨oc, od, kV, doc, pm, an, cdv, ct, osl, rfl, lk, hcd⟩ := F.ex
  refine fn_of lk hcd S len fun A outer s H vs Q E hr hsp => ?_
  obtain ⟨t, h, q⟩ := hbody cdv A outer s H vs Q E rfl hr hsp
  exact ⟨t, h.nox, q⟩
def spLines (TT : List (Addr × Str)) : Sp := fun vs H Q _ => ∃ (c d r : Addr) (n : Nat), vs = [.ref d] ∧ Drw H c d r n ∧ n ≤ 800000 ∧ Tabs TT H ∧
  ∀ p (ls : List Str) H', (∀ b u, (∀ ps, u ≠ .tbl ps) → H b = some u → p ≠ b) → ls.length ≤ 40 → (∀ x ∈ ls, Gd 1000 x) → DN TT c d r H (n + 600) H' → Far p c d r → H' p = some (.lst (ls.map V.str)) → Q (.ref p) H'
theorem ok_lines (T : Txt K mg) {c1 P1 : Addr} (TB : TabB base mg c1 P1) (hcd : T.lines.fd.code = .ref c1) : FnOk P w K mg base CX0 3 T.lines.f T.lines.fd ["_law_drawn"] (spLines [(P1, lamQ)]) := by
  have G1 : FnOk P w K mg base CX0 1 T.next.f T.next.fd ["_law_drawn", "_law_many"] spNext := ok_next T
  have G2 : FnOk P w K mg base CX0 2 T.names.f T.names.fd ["_law_drawn", "_law_many"] spNames := ok_names T
  have G3 : FnOk P w K mg base CX0 2 T.words.f T.words.fd ["_law_drawn", "_law_kinds", "_law_size"] spWords := ok_words T
  refine okC T.lines.F scLines (fun vs H Q E h => ?_) (fun cdv A outer s H vs Q E hcode hr h => ?_)
  · obtain ⟨c, d, r, n, rfl, _⟩ := h
    rfl
  · obtain ⟨c, d, r, n, rfl, hw, hn, hT, q⟩ := h
    have nm := scLines.nd
    have hcode2 : cdv = .ref c1 := hcode.symm.trans hcd
    subst hcode2
    have hr1 := hr.mono (show 1 ≤ 2 by decide)
    refine ⟨_, pss_cons (ps_set (i := 1) nm rfl (.inr rfl) (pe_op op_add pe_int (pe_call G1 hr1 (by rfl) T.next.g T.next.F.kp T.next.b .nil pass0 (pa_cons (pv 0) (pa_cons pe_int pa_nil)))))
      (pss_cons (ps_set (i := 2) nm rfl (.inr rfl) (pe_call G2 hr (by rfl) T.names.g T.names.F.kp T.names.b .nil pass0 (pa_cons (pv 0) (pa_cons (pe_op op_add pe_int (pe_call G1 hr1 (by rfl) T.next.g T.next.F.kp T.next.b .nil pass0 (pa_cons (pv 0) (pa_cons pe_int pa_nil)))) pa_nil))))
      (pss_cons (ps_set (i := 3) nm rfl (.inl rfl) (pe_lst (pa_cons (pe_lst (pa_cons pe_str (pa_cons (pe_callTy call_str_int (by rfl) T.bStr boot_str (pa_cons (pv 1) pa_nil)) pa_nil))) (pa_cons (pe_op op_cat (pe_lst (pa_cons pe_str pa_nil)) (pe_callTy call_list_of (by rfl) T.bList boot_list (pa_cons (pv 2) pa_nil))) pa_nil))))
      (pss_cons (ps_setLc (i := 4) (own := [("_law_k", 7)]) (g := gName 7) (tt := tYes) rfl nm rfl rfl (sw_true rfl rfl rfl (by decide +kernel)) (pi_range1 (by rfl) T.bRange (pa_cons (pe_call G1 hr1 (by rfl) T.next.g T.next.F.kp T.next.b .nil pass0 (pa_cons (pv 0) (pa_cons pe_int pa_nil))) pa_nil)) (blkOk_by (N := nLines) (sc := defScope sLines) (by decide +kernel))
          (fun _ _ _ _ _ => pg_name (i := 7) nm rfl (Or.inl rfl)) (fun _ _ _ _ _ => pts_nil) (fun _ _ _ _ _ => pe_call G3 hr (by rfl) T.words.g T.words.F.kp T.words.b .nil pass0 (pa_cons (pv 0) (pa_cons (pv 2) (pa_cons (pv 1) pa_nil)))))
      (pss_cons (ps_if (pt_cmpR op_gt (pe_call G1 hr1 (by rfl) T.next.g T.next.F.kp T.next.b .nil pass0 (pa_cons (pv 0) (pa_cons pe_int pa_nil))) pe_int (nomark _))
        (pss_one (ps_set (i := 4) nm rfl (.inl rfl) (pe_sortedLam (T := [(P1, lamQ)]) (by rfl) T.bSorted (pv 4) TB rfl (List.mem_singleton.mpr rfl) (fun p hp _ => by rw [List.mem_singleton.mp hp]; rfl) hr rfl (fun _ _ _ _ _ _ => rfl) rfl rfl rfl (by decide +kernel) (by decide +kernel) (by decide +kernel) (by decide +kernel)))) pss_nil)
      (pss_cons (ps_setLc (i := 5) (own := [("_law_words_here", 8)]) (g := gName 8) (tt := tYes) rfl nm rfl rfl (sw_true rfl rfl rfl (by decide +kernel)) (pi_list (pe_op op_cat (pv 3) (pv 4))) (blkOk_by (N := nLines) (sc := defScope sLines) (by decide +kernel))
          (fun _ _ _ _ _ => pg_name (i := 8) nm rfl (Or.inl rfl)) (fun _ _ _ _ _ => pts_nil) (fun _ _ _ _ _ => pe_joinK (K := K) rfl pe_str (pv 8)))
      (pss_cons (ps_set (i := 6) nm rfl (.inl rfl) (pe_call G1 hr1 (by rfl) T.next.g T.next.F.kp T.next.b .nil pass0 (pa_cons (pv 0) (pa_cons (pe_callB call_len_seq (by rfl) T.bLen PySem.boot_len (pa_cons (pv 5) pa_nil)) pa_nil))))
      (pss_one (ps_ret (pe_ix ix_list (pe_lst (pa_cons (pv 5) (pa_cons (pe_slice sl_list (pv 5) po_none (po_some (pv 6)))
        (pa_cons (pe_op op_cat (pe_op op_cat (pe_slice sl_list (pv 5) po_none (po_some (pv 6))) (pe_revL (pe_slice sl_list (pv 5) (po_some (pv 6)) (po_some (pe_op op_add (pv 6) pe_int))))) (pe_slice sl_list (pv 5) (po_some (pe_op op_add (pv 6) pe_int)) po_none))
        (pa_cons (pv 5) pa_nil))))) (pe_call G1 hr1 (by rfl) T.next.g T.next.F.kp T.next.b .nil pass0 (pa_cons (pv 0) (pa_cons pe_int pa_nil))) (fun _ _ => rfl)))))))))), ?_⟩
    have D0 := DR.start hw
    refine rd_nx 6 rfl D0 (by omega) (by decide) (by decide) (fun R h => h) fun s0 H1 ls0 D1 kp1 => ⟨_, _, rfl, rfl, ?_⟩
    refine ⟨.ref d, rfl, rd_nx 4 rfl D1 (by omega) (by decide) (by decide) (fun R h => h) fun k0 H2 lk D2 kp2 => ⟨_, _, rfl, rfl, ?_⟩⟩
    refine ⟨c, d, r, 1 + k0, _, rfl, D2.2, by omega, by omega, by omega, fun ka ks H3 hkl gk kp3 e3 nka w3 => ?_⟩
    have D3 := D2.call kp3 w3
    have gS : Gd 4 (Str.ofString (toString (1 + (s0 : Int)))) := gd_numI (by omega) (by omega)
    refine ⟨_, rfl, _, rfl, small_log (by omega) (by omega), szr, fun a1 n1 => ?_⟩
    have t4 := same_new (o := .lst [V.str "round", V.str (Str.ofString (toString (1 + (s0 : Int))))]) n1
    have far1 := D3.2.new n1
    refine ⟨szr, fun b1 nb1 => ⟨.ref ka, rfl, ka, _, rfl, .inr (SqT.of (same_new nb1 _ _ (t4 _ _ e3))), fun b2 nb2 => ?_⟩⟩
    have t5 := t4.trans (same_new (o := .lst [V.str "kinds"]) nb1)
    have t6 := t5.trans (same_new (o := .lst (ks.map V.str)) nb2)
    refine ⟨b1, b2, _, _, rfl, rfl, same_new nb2 _ _ upd_same, upd_same, sz_le (by rw [List.length_map]; show 1 + ks.length ≤ 100000; omega), fun a2 n2 => ⟨szr, fun L nL => ?_⟩⟩
    have t7 := t6.trans (same_new (o := .lst ([V.str "kinds"] ++ ks.map V.str)) n2)
    have t8 := t7.trans (same_new (o := .lst [V.ref a1, V.ref a2]) nL)
    have far2 := (D3.same t6).2.new n2
    have farL := (D3.same t7).2.new nL
    have D8 := D3.same t8
    have e8 := t8 _ _ e3
    have eL : (upd (upd (upd (upd (upd H3 a1 (.lst [V.str "round", V.str (Str.ofString (toString (1 + (s0 : Int))))])) b1 (.lst [V.str "kinds"])) b2 (.lst (ks.map V.str))) a2 (.lst ([V.str "kinds"] ++ ks.map V.str))) L (.lst [V.ref a1, V.ref a2])) L = some (.lst [V.ref a1, V.ref a2]) := upd_same
    have lw1 : LW (upd (upd (upd (upd (upd H3 a1 (.lst [V.str "round", V.str (Str.ofString (toString (1 + (s0 : Int))))])) b1 (.lst [V.str "kinds"])) b2 (.lst (ks.map V.str))) a2 (.lst ([V.str "kinds"] ++ ks.map V.str))) L (.lst [V.ref a1, V.ref a2])) a1 := by
      refine ⟨"round", [Str.ofString (toString (1 + (s0 : Int)))], same_new nL _ _ (same_new n2 _ _ (same_new nb2 _ _ (same_new nb1 _ _ upd_same))), by show 1 ≤ 13; decide, fun z hz => ?_⟩
      rcases List.mem_cons.mp hz with rfl | hz
      · exact gdB_ok (by decide +kernel)
      rw [List.mem_singleton.mp hz]
      exact gS.mono (by decide)
    have lw2 : LW (upd (upd (upd (upd (upd H3 a1 (.lst [V.str "round", V.str (Str.ofString (toString (1 + (s0 : Int))))])) b1 (.lst [V.str "kinds"])) b2 (.lst (ks.map V.str))) a2 (.lst ([V.str "kinds"] ++ ks.map V.str))) L (.lst [V.ref a1, V.ref a2])) a2 := by
      refine ⟨"kinds", ks, same_new nL _ _ upd_same, by omega, fun z hz => ?_⟩
      rcases List.mem_cons.mp hz with rfl | hz
      · exact gdB_ok (by decide +kernel)
      exact (gk z hz).mono (by decide)
    generalize (upd (upd (upd (upd (upd H3 a1 (.lst [V.str "round", V.str (Str.ofString (toString (1 + (s0 : Int))))])) b1 (.lst [V.str "kinds"])) b2 (.lst (ks.map V.str))) a2 (.lst ([V.str "kinds"] ++ ks.map V.str))) L (.lst [V.ref a1, V.ref a2])) = H8 at D8 e8 eL lw1 lw2 ⊢
    refine rd_nx 11 rfl D8 (by omega) (by decide) (by decide) (fun R h => h) fun m H9 lm D9 kp9 => ?_
    have farK : Far ka c d r := D9.2.farT (by exact kp9.at (D8.2.farT e8) e8)
    have e9 := kp9.at farK e8
    refine ⟨(m : Int), rfl, by omega, by omega, fun Dq nDq => lc_genA (walk_range (lo := 0) (n := ((m : Nat) : Int).toNat)) (fun i acc H' => DR c d r H (n + 23 + 40 * i) H' ∧ KpD d r H9 H' ∧ acc.length = i ∧ i ≤ 10 ∧ ∀ y ∈ acc, ∃ a, y = .ref a ∧ a ≠ Dq ∧ Far a c d r ∧ LW H' a) ?_ (fun i acc H' p => by have := p.2.2.1; have := p.2.2.2.1; omega) (fun _ _ _ _ => trivial) (fun i H' x H'' _ y => y.1) (fun i v H4 acc hi p eD y Q3 q3 => ?_) fun H10 ys p eS => ?_⟩
    · exact ⟨(D9.same (same_new nDq)).mono (by omega), KpD.of (same_new nDq), rfl, by omega, fun y hy => by cases hy⟩
    · obtain ⟨d4, k4, al, i10, ga⟩ := p
      have hi2 : i < m := by omega
      have farD := D9.2.new nDq
      refine ⟨rfl, .ref d, rfl, .ref ka, rfl, _, rfl, c, d, r, ka, ks, 1 + s0, _, rfl, d4.2, by omega, k4.at farK e9, by omega, by omega, gk, by omega, by omega, fun p ws H5 np w1 w14 gw kp5 e5 dw5 => q3 _ _ (kp5.at farD eD) ?_⟩
      have pD : p ≠ Dq := (ne_of_none eD np).symm
      refine ⟨((d4.call kp5 dw5).wr (D9.free nDq) farD).mono (by omega), fun b u m1 m2 hb => ?_, by rw [List.length_append, al]; rfl, by omega, fun y hy => ?_⟩
      · rw [upd_ne (ne_of_none hb nDq)]
        exact kp5 _ _ m1 m2 (k4 _ _ m1 m2 hb)
      rcases List.mem_append.mp hy with hy | hy
      · obtain ⟨a, e1, e2, e3, x, ws', f1, f2⟩ := ga y hy
        exact ⟨a, e1, e2, e3, x, ws', by rw [upd_ne e2]; exact kp5.at e3 f1, f2⟩
      · rw [List.mem_singleton.mp hy]
        refine ⟨p, rfl, pD, d4.2.new np, ?_⟩
        cases ws with
        | nil => exact absurd w1 (by decide)
        | cons x ws' => exact ⟨x, ws', by rw [upd_ne pD]; exact e5, by have : ws'.length + 1 ≤ 14 := w14; omega, gw⟩
    obtain ⟨D10, k10, yl, -, gy⟩ := p
    obtain ⟨rs, rfl, gr⟩ : ∃ rs : List Addr, ys = rs.map V.ref ∧ ∀ a ∈ rs, Far a c d r ∧ LW H10 a := by
      clear yl eS
      induction ys with
      | nil => exact ⟨[], rfl, fun a ha => by cases ha⟩
      | cons y r ih =>
        obtain ⟨rs, rfl, h2⟩ := ih fun z hz => gy z (List.mem_cons_of_mem _ hz)
        obtain ⟨a, rfl, _, h3, h4⟩ := gy y (List.mem_cons_self ..)
        exact ⟨a :: rs, rfl, fun b hb => by
          rcases List.mem_cons.mp hb with rfl | hb
          · exact ⟨h3, h4⟩
          · exact h2 b hb⟩
    rw [List.length_map] at yl
    have farD := D9.2.new nDq
    have D10 : DR c d r H (n + 463) H10 := D10.mono (by omega)
    refine rd_nx 3 rfl D10 (by omega) (by decide) (by decide) (fun R h => h) fun t H11 lt D11 kp11 => ⟨_, _, rfl, rfl, _, rfl, ite2 (fun e => ?_) (fun e => ?_)⟩
    · have T11 : Tabs [(P1, lamQ)] H11 := Tabs.kp hT D11.1 hw
      have E11 : DN [(P1, lamQ)] c d r H (n + 464) H11 := ⟨D11.1.n, D11.2, T11⟩
      have eS11 := kp11.at farD eS
      have eL11 := kp11.at farL (k10.at farL (kp9.at farL eL))
      have lw1 := LW.kp kp11 far1 (LW.kp k10 far1 (LW.kp kp9 far1 lw1))
      have lw2 := LW.kp kp11 far2 (LW.kp k10 far2 (LW.kp kp9 far2 lw2))
      have gr11 : ∀ a ∈ rs, LW H11 a := fun a ha => LW.kp kp11 (gr a ha).1 (gr a ha).2
      refine ⟨.ref Dq, rfl, T11, Dq, rs, rfl, SqL.of eS11, fun a ha => ?_, fun H2' sp rs2 eN T12 nsp ln mm => ?_⟩
      · obtain ⟨x, ws, f1, f2⟩ := gr11 a ha
        exact ⟨x, _, f1⟩
      have tS := same_new (o := .lst (rs2.map V.ref)) nsp
      have D12 := (E11.ext eN T12).same tS
      have eS2 : (upd H2' sp (.lst (rs2.map V.ref))) sp = some (.lst (rs2.map V.ref)) := upd_same
      have eL2 := tS _ _ (eN _ _ eL11 (fun ps z => by cases z))
      have lw1 := LW.same tS (LW.ext eN lw1)
      have lw2 := LW.same tS (LW.ext eN lw2)
      have gl : ∀ a ∈ rs2, LW (upd H2' sp (.lst (rs2.map V.ref))) a := fun a ha => LW.same tS (LW.ext eN (gr11 a (mm a ha)))
      have lr : rs2.length ≤ 10 := by omega
      generalize upd H2' sp (.lst (rs2.map V.ref)) = H12 at D12 eS2 eL2 lw1 lw2 gl ⊢
      have hz2 : (2 + rs2.length) ≤ 12 := by omega
      refine ⟨.ref L, rfl, .ref sp, rfl, L, sp, _, _, rfl, rfl, eL2, eS2, sz_le (by rw [List.length_map]; show 2 + rs2.length ≤ 100000; omega), fun F nF => ⟨F, rfl, ⟨_, SqL.of upd_same⟩, fun Df nDf => lc_gen (walk_list (xs := (a1 :: a2 :: rs2).map V.ref)) (fun _ H' => Same (upd H12 F (.lst ((a1 :: a2 :: rs2).map V.ref))) H') (fun y => ∃ x, y = .str x ∧ Gd 1000 x) (by rw [List.length_map]; show rs2.length + 2 ≤ 100000; omega) (same_new nDf) (fun i H' acc p => Same.wr p nDf) (fun i H' p => SqL.of (p _ _ upd_same)) (fun i H' x H'' _ y => y.1) (fun i v H4 acc hi p eD y Q3 q3 => ?_) fun H13 ys p13 eF el hR => ?_⟩⟩
      · obtain ⟨-, hv⟩ := y
        obtain ⟨a, rfl, ha⟩ := map_at hv
        have lwa : LW H12 a := by
          rcases List.mem_cons.mp (List.mem_of_getElem? ha) with rfl | h1
          · exact lw1
          rcases List.mem_cons.mp h1 with rfl | h1
          · exact lw2
          exact gl a h1
        obtain ⟨x, ws, h1, h2, h3⟩ := lwa
        refine ⟨rfl, ⟨_, rfl⟩, .ref a, rfl, " ", a, x :: ws, rfl, rfl, .inl (SqL.of (p _ _ (same_new nF _ _ h1))), gd_join_ok (by decide +kernel) (by decide) (by show ws.length + 1 ≤ 1000; omega) h3, q3 _ _ ⟨_, rfl, ?_⟩ eD p⟩
        rw [TL.join_eq]
        refine (Gd.join (sep := " ") (gdB_ok (by decide +kernel)) h3).mono ?_
        show (ws.length + 1) * 41 ≤ 1000
        omega
      obtain ⟨xs, rfl, gxs⟩ := strs_of hR
      rw [List.length_map, List.length_map] at el
      have el2 : xs.length = rs2.length + 2 := el
      have D13 : DN [(P1, lamQ)] c d r H (n + 464) H13 := (D12.same (same_new nF)).same p13
      have farF : Far Df c d r := (D12.same (same_new nF)).w.new nDf
      have newF := fun b u nu hu => (D12.same (same_new nF)).new nDf b u nu hu
      refine rd_nx xs.length rfl (DR.start D13.w) (by omega) (by omega) (by omega) (fun R h => ⟨.ref Df, rfl, Df, _, rfl, .inl (SqL.of eF), by rw [List.length_map]; exact h⟩) fun at_ H14 la D14 kp14 => ?_
      have E14 : DN [(P1, lamQ)] c d r H (n + 464 + 1) H14 := D13.dr D14
      have f14 := kp14.at farF eF
      refine ⟨.ref Df, rfl, .ref Df, rfl, _, rfl, _, rfl, Df, _, rfl, SqL.of f14, fun p1 n1 => ?_⟩
      have z1 := same_new (o := .lst (cutV (xs.map V.str) none (some (at_ : Int)))) n1
      refine ⟨.ref Df, rfl, _, rfl, _, rfl, Df, _, rfl, SqL.of (z1 _ _ f14), fun p2 n2 => ?_⟩
      have z2 := z1.trans (same_new (o := .lst (cutV (xs.map V.str) none (some (at_ : Int)))) n2)
      refine ⟨.ref Df, rfl, _, rfl, _, rfl, _, rfl, _, _, rfl, rfl, _, rfl, Df, _, rfl, SqL.of (z2 _ _ f14), fun p3 n3 => ?_⟩
      have z3 := z2.trans (same_new (o := .lst (cutV (xs.map V.str) (some (at_ : Int)) (some ((at_ : Int) + 2)))) n3)
      refine ⟨p3, _, rfl, SqL.of upd_same, fun p4 n4 => ?_⟩
      have z4 := z3.trans (same_new (o := .lst (cutV (xs.map V.str) (some (at_ : Int)) (some ((at_ : Int) + 2))).reverse) n4)
      have lC : ∀ lo hi, (cutV (xs.map V.str) lo hi).length ≤ 12 := fun lo hi => by
        have q1 := cutV_length (xs.map V.str) lo hi
        rw [List.length_map] at q1
        omega
      refine ⟨p2, p4, _, _, rfl, rfl, same_new n4 _ _ (same_new n3 _ _ upd_same), upd_same, sz_le (by rw [List.length_reverse]; have q1 := lC none (some (at_ : Int)); have q2 := lC (some (at_ : Int)) (some ((at_ : Int) + 2)); show (cutV (xs.map V.str) none (some (at_ : Int))).length + (cutV (xs.map V.str) (some (at_ : Int)) (some ((at_ : Int) + 2))).length ≤ 100000; omega), fun p5 n5 => ?_⟩
      have z5 := z4.trans (same_new (o := .lst (cutV (xs.map V.str) none (some (at_ : Int)) ++ (cutV (xs.map V.str) (some (at_ : Int)) (some ((at_ : Int) + 2))).reverse)) n5)
      refine ⟨.ref Df, rfl, _, rfl, _, _, rfl, rfl, _, rfl, Df, _, rfl, SqL.of (z5 _ _ f14), fun p6 n6 => ?_⟩
      have z6 := z5.trans (same_new (o := .lst (cutV (xs.map V.str) (some ((at_ : Int) + 2)) none)) n6)
      refine ⟨p5, p6, _, _, rfl, rfl, same_new n6 _ _ upd_same, upd_same, sz_le (by have q1 := lC none (some (at_ : Int)); have q2 := lC (some (at_ : Int)) (some ((at_ : Int) + 2)); have q3 := lC (some ((at_ : Int) + 2)) none; show (cutV (xs.map V.str) none (some (at_ : Int)) ++ (cutV (xs.map V.str) (some (at_ : Int)) (some ((at_ : Int) + 2))).reverse).length + (cutV (xs.map V.str) (some ((at_ : Int) + 2)) none).length ≤ 100000; rw [List.length_append, List.length_reverse]; omega), fun p7 n7 => ?_⟩
      have z7 := z6.trans (same_new (o := .lst (cutV (xs.map V.str) none (some (at_ : Int)) ++ (cutV (xs.map V.str) (some (at_ : Int)) (some ((at_ : Int) + 2))).reverse ++ cutV (xs.map V.str) (some ((at_ : Int) + 2)) none)) n7)
      refine ⟨.ref Df, rfl, szr, fun Z nZ => ?_⟩
      have D7 := E14.same z7
      have farZ := D7.w.new nZ
      have zZ := z7.trans (same_new (o := .lst [V.ref Df, V.ref p1, V.ref p7, V.ref Df]) nZ)
      have eP1 := same_new nZ (o := .lst [V.ref Df, V.ref p1, V.ref p7, V.ref Df]) _ _ (same_new n7 (o := .lst (cutV (xs.map V.str) none (some (at_ : Int)) ++ (cutV (xs.map V.str) (some (at_ : Int)) (some ((at_ : Int) + 2))).reverse ++ cutV (xs.map V.str) (some ((at_ : Int) + 2)) none)) _ _ (same_new n6 (o := .lst (cutV (xs.map V.str) (some ((at_ : Int) + 2)) none)) _ _ (same_new n5 (o := .lst (cutV (xs.map V.str) none (some (at_ : Int)) ++ (cutV (xs.map V.str) (some (at_ : Int)) (some ((at_ : Int) + 2))).reverse)) _ _ (same_new n4 (o := .lst (cutV (xs.map V.str) (some (at_ : Int)) (some ((at_ : Int) + 2))).reverse) _ _ (same_new n3 (o := .lst (cutV (xs.map V.str) (some (at_ : Int)) (some ((at_ : Int) + 2)))) _ _ (same_new n2 (o := .lst (cutV (xs.map V.str) none (some (at_ : Int)))) p1 (.lst (cutV (xs.map V.str) none (some (at_ : Int)))) upd_same))))))
      refine rd_nx 4 rfl (DR.start (E14.same zZ).w) (by omega) (by decide) (by decide) (fun R h => h) fun jj H20 lj D20 kp20 => ?_
      have EZ := ((E14.same zZ).dr D20).mono (show n + 464 + 1 + 1 ≤ n + 600 by omega)
      have hDf := kp20.at farF (zZ _ _ f14)
      obtain ⟨y1, ey1, ly1, gy1⟩ := cut_map V.str (xs := xs) none (some (at_ : Int))
      obtain ⟨y2, ey2, ly2, gy2⟩ := cut_map V.str (xs := xs) (some (at_ : Int)) (some ((at_ : Int) + 2))
      obtain ⟨y3, ey3, ly3, gy3⟩ := cut_map V.str (xs := xs) (some ((at_ : Int) + 2)) none
      have cases4 : jj = 0 ∨ jj = 1 ∨ jj = 2 ∨ jj = 3 := by omega
      rcases cases4 with rfl | rfl | rfl | rfl
      · exact ⟨Z, _, _, .ref Df, rfl, rfl, SqL.of (kp20.at farZ upd_same), atI_nat (j := 0) rfl, q Df xs H20 newF (by omega) gxs EZ farF hDf⟩
      · exact ⟨Z, _, _, .ref p1, rfl, rfl, SqL.of (kp20.at farZ upd_same), atI_nat (j := 1) rfl, q p1 y1 H20 (fun b u nu hu => E14.new n1 b u nu hu) (by omega) (fun x hx => gxs x (gy1 x hx)) EZ (E14.w.new n1) (by rw [← ey1]; exact kp20.at (E14.w.new n1) eP1)⟩
      · refine ⟨Z, _, _, .ref p7, rfl, rfl, SqL.of (kp20.at farZ upd_same), atI_nat (j := 2) rfl, q p7 (y1 ++ y2.reverse ++ y3) H20 (fun b u nu hu => (E14.same z6).new n7 b u nu hu) (by rw [List.length_append, List.length_append, List.length_reverse]; omega) (fun x hx => ?_) EZ ((E14.same z6).w.new n7) (kp20.at ((E14.same z6).w.new n7) ?_)⟩
        · rcases List.mem_append.mp hx with hx | hx
          · rcases List.mem_append.mp hx with hx | hx
            · exact gxs x (gy1 x hx)
            · exact gxs x (gy2 x (List.mem_reverse.mp hx))
          · exact gxs x (gy3 x hx)
        · rw [List.map_append, List.map_append, List.map_reverse, ← ey1, ← ey2, ← ey3]
          exact same_new nZ _ _ upd_same
      · exact ⟨Z, _, _, .ref Df, rfl, rfl, SqL.of (kp20.at farZ upd_same), atI_nat (j := 3) rfl, q Df xs H20 newF (by omega) gxs EZ farF hDf⟩
    · have T11 : Tabs [(P1, lamQ)] H11 := Tabs.kp hT D11.1 hw
      have D12 : DN [(P1, lamQ)] c d r H (n + 464) H11 := ⟨D11.1.n, D11.2, T11⟩
      have eS2 := kp11.at farD eS
      have eL2 := kp11.at farL (k10.at farL (kp9.at farL eL))
      have lw1 := LW.kp kp11 far1 (LW.kp k10 far1 (LW.kp kp9 far1 lw1))
      have lw2 := LW.kp kp11 far2 (LW.kp k10 far2 (LW.kp kp9 far2 lw2))
      have gl : ∀ a ∈ rs, LW H11 a := fun a ha => LW.kp kp11 (gr a ha).1 (gr a ha).2
      have lr : rs.length ≤ 10 := by omega
      have hz2 : (2 + rs.length) ≤ 12 := by omega
      refine ⟨.ref L, rfl, .ref Dq, rfl, L, Dq, _, _, rfl, rfl, eL2, eS2, sz_le (by rw [List.length_map]; show 2 + rs.length ≤ 100000; omega), fun F nF => ⟨F, rfl, ⟨_, SqL.of upd_same⟩, fun Df nDf => lc_gen (walk_list (xs := (a1 :: a2 :: rs).map V.ref)) (fun _ H' => Same (upd H11 F (.lst ((a1 :: a2 :: rs).map V.ref))) H') (fun y => ∃ x, y = .str x ∧ Gd 1000 x) (by rw [List.length_map]; show rs.length + 2 ≤ 100000; omega) (same_new nDf) (fun i H' acc p => Same.wr p nDf) (fun i H' p => SqL.of (p _ _ upd_same)) (fun i H' x H'' _ y => y.1) (fun i v H4 acc hi p eD y Q3 q3 => ?_) fun H13 ys p13 eF el hR => ?_⟩⟩
      · obtain ⟨-, hv⟩ := y
        obtain ⟨a, rfl, ha⟩ := map_at hv
        have lwa : LW H11 a := by
          rcases List.mem_cons.mp (List.mem_of_getElem? ha) with rfl | h1
          · exact lw1
          rcases List.mem_cons.mp h1 with rfl | h1
          · exact lw2
          exact gl a h1
        obtain ⟨x, ws, h1, h2, h3⟩ := lwa
        refine ⟨rfl, ⟨_, rfl⟩, .ref a, rfl, " ", a, x :: ws, rfl, rfl, .inl (SqL.of (p _ _ (same_new nF _ _ h1))), gd_join_ok (by decide +kernel) (by decide) (by show ws.length + 1 ≤ 1000; omega) h3, q3 _ _ ⟨_, rfl, ?_⟩ eD p⟩
        rw [TL.join_eq]
        refine (Gd.join (sep := " ") (gdB_ok (by decide +kernel)) h3).mono ?_
        show (ws.length + 1) * 41 ≤ 1000
        omega
      obtain ⟨xs, rfl, gxs⟩ := strs_of hR
      rw [List.length_map, List.length_map] at el
      have el2 : xs.length = rs.length + 2 := el
      have D13 : DN [(P1, lamQ)] c d r H (n + 464) H13 := (D12.same (same_new nF)).same p13
      have farF : Far Df c d r := (D12.same (same_new nF)).w.new nDf
      have newF := fun b u nu hu => (D12.same (same_new nF)).new nDf b u nu hu
      refine rd_nx xs.length rfl (DR.start D13.w) (by omega) (by omega) (by omega) (fun R h => ⟨.ref Df, rfl, Df, _, rfl, .inl (SqL.of eF), by rw [List.length_map]; exact h⟩) fun at_ H14 la D14 kp14 => ?_
      have E14 : DN [(P1, lamQ)] c d r H (n + 464 + 1) H14 := D13.dr D14
      have f14 := kp14.at farF eF
      refine ⟨.ref Df, rfl, .ref Df, rfl, _, rfl, _, rfl, Df, _, rfl, SqL.of f14, fun p1 n1 => ?_⟩
      have z1 := same_new (o := .lst (cutV (xs.map V.str) none (some (at_ : Int)))) n1
      refine ⟨.ref Df, rfl, _, rfl, _, rfl, Df, _, rfl, SqL.of (z1 _ _ f14), fun p2 n2 => ?_⟩
      have z2 := z1.trans (same_new (o := .lst (cutV (xs.map V.str) none (some (at_ : Int)))) n2)
      refine ⟨.ref Df, rfl, _, rfl, _, rfl, _, rfl, _, _, rfl, rfl, _, rfl, Df, _, rfl, SqL.of (z2 _ _ f14), fun p3 n3 => ?_⟩
      have z3 := z2.trans (same_new (o := .lst (cutV (xs.map V.str) (some (at_ : Int)) (some ((at_ : Int) + 2)))) n3)
      refine ⟨p3, _, rfl, SqL.of upd_same, fun p4 n4 => ?_⟩
      have z4 := z3.trans (same_new (o := .lst (cutV (xs.map V.str) (some (at_ : Int)) (some ((at_ : Int) + 2))).reverse) n4)
      have lC : ∀ lo hi, (cutV (xs.map V.str) lo hi).length ≤ 12 := fun lo hi => by
        have q1 := cutV_length (xs.map V.str) lo hi
        rw [List.length_map] at q1
        omega
      refine ⟨p2, p4, _, _, rfl, rfl, same_new n4 _ _ (same_new n3 _ _ upd_same), upd_same, sz_le (by rw [List.length_reverse]; have q1 := lC none (some (at_ : Int)); have q2 := lC (some (at_ : Int)) (some ((at_ : Int) + 2)); show (cutV (xs.map V.str) none (some (at_ : Int))).length + (cutV (xs.map V.str) (some (at_ : Int)) (some ((at_ : Int) + 2))).length ≤ 100000; omega), fun p5 n5 => ?_⟩
      have z5 := z4.trans (same_new (o := .lst (cutV (xs.map V.str) none (some (at_ : Int)) ++ (cutV (xs.map V.str) (some (at_ : Int)) (some ((at_ : Int) + 2))).reverse)) n5)
      refine ⟨.ref Df, rfl, _, rfl, _, _, rfl, rfl, _, rfl, Df, _, rfl, SqL.of (z5 _ _ f14), fun p6 n6 => ?_⟩
      have z6 := z5.trans (same_new (o := .lst (cutV (xs.map V.str) (some ((at_ : Int) + 2)) none)) n6)
      refine ⟨p5, p6, _, _, rfl, rfl, same_new n6 _ _ upd_same, upd_same, sz_le (by have q1 := lC none (some (at_ : Int)); have q2 := lC (some (at_ : Int)) (some ((at_ : Int) + 2)); have q3 := lC (some ((at_ : Int) + 2)) none; show (cutV (xs.map V.str) none (some (at_ : Int)) ++ (cutV (xs.map V.str) (some (at_ : Int)) (some ((at_ : Int) + 2))).reverse).length + (cutV (xs.map V.str) (some ((at_ : Int) + 2)) none).length ≤ 100000; rw [List.length_append, List.length_reverse]; omega), fun p7 n7 => ?_⟩
      have z7 := z6.trans (same_new (o := .lst (cutV (xs.map V.str) none (some (at_ : Int)) ++ (cutV (xs.map V.str) (some (at_ : Int)) (some ((at_ : Int) + 2))).reverse ++ cutV (xs.map V.str) (some ((at_ : Int) + 2)) none)) n7)
      refine ⟨.ref Df, rfl, szr, fun Z nZ => ?_⟩
      have D7 := E14.same z7
      have farZ := D7.w.new nZ
      have zZ := z7.trans (same_new (o := .lst [V.ref Df, V.ref p1, V.ref p7, V.ref Df]) nZ)
      have eP1 := same_new nZ (o := .lst [V.ref Df, V.ref p1, V.ref p7, V.ref Df]) _ _ (same_new n7 (o := .lst (cutV (xs.map V.str) none (some (at_ : Int)) ++ (cutV (xs.map V.str) (some (at_ : Int)) (some ((at_ : Int) + 2))).reverse ++ cutV (xs.map V.str) (some ((at_ : Int) + 2)) none)) _ _ (same_new n6 (o := .lst (cutV (xs.map V.str) (some ((at_ : Int) + 2)) none)) _ _ (same_new n5 (o := .lst (cutV (xs.map V.str) none (some (at_ : Int)) ++ (cutV (xs.map V.str) (some (at_ : Int)) (some ((at_ : Int) + 2))).reverse)) _ _ (same_new n4 (o := .lst (cutV (xs.map V.str) (some (at_ : Int)) (some ((at_ : Int) + 2))).reverse) _ _ (same_new n3 (o := .lst (cutV (xs.map V.str) (some (at_ : Int)) (some ((at_ : Int) + 2)))) _ _ (same_new n2 (o := .lst (cutV (xs.map V.str) none (some (at_ : Int)))) p1 (.lst (cutV (xs.map V.str) none (some (at_ : Int)))) upd_same))))))
      refine rd_nx 4 rfl (DR.start (E14.same zZ).w) (by omega) (by decide) (by decide) (fun R h => h) fun jj H20 lj D20 kp20 => ?_
      have EZ := ((E14.same zZ).dr D20).mono (show n + 464 + 1 + 1 ≤ n + 600 by omega)
      have hDf := kp20.at farF (zZ _ _ f14)
      obtain ⟨y1, ey1, ly1, gy1⟩ := cut_map V.str (xs := xs) none (some (at_ : Int))
      obtain ⟨y2, ey2, ly2, gy2⟩ := cut_map V.str (xs := xs) (some (at_ : Int)) (some ((at_ : Int) + 2))
      obtain ⟨y3, ey3, ly3, gy3⟩ := cut_map V.str (xs := xs) (some ((at_ : Int) + 2)) none
      have cases4 : jj = 0 ∨ jj = 1 ∨ jj = 2 ∨ jj = 3 := by omega
      rcases cases4 with rfl | rfl | rfl | rfl
      · exact ⟨Z, _, _, .ref Df, rfl, rfl, SqL.of (kp20.at farZ upd_same), atI_nat (j := 0) rfl, q Df xs H20 newF (by omega) gxs EZ farF hDf⟩
      · exact ⟨Z, _, _, .ref p1, rfl, rfl, SqL.of (kp20.at farZ upd_same), atI_nat (j := 1) rfl, q p1 y1 H20 (fun b u nu hu => E14.new n1 b u nu hu) (by omega) (fun x hx => gxs x (gy1 x hx)) EZ (E14.w.new n1) (by rw [← ey1]; exact kp20.at (E14.w.new n1) eP1)⟩
      · refine ⟨Z, _, _, .ref p7, rfl, rfl, SqL.of (kp20.at farZ upd_same), atI_nat (j := 2) rfl, q p7 (y1 ++ y2.reverse ++ y3) H20 (fun b u nu hu => (E14.same z6).new n7 b u nu hu) (by rw [List.length_append, List.length_append, List.length_reverse]; omega) (fun x hx => ?_) EZ ((E14.same z6).w.new n7) (kp20.at ((E14.same z6).w.new n7) ?_)⟩
        · rcases List.mem_append.mp hx with hx | hx
          · rcases List.mem_append.mp hx with hx | hx
            · exact gxs x (gy1 x hx)
            · exact gxs x (gy2 x (List.mem_reverse.mp hx))
          · exact gxs x (gy3 x hx)
        · rw [List.map_append, List.map_append, List.map_reverse, ← ey1, ← ey2, ← ey3]
          exact same_new nZ _ _ upd_same
      · exact ⟨Z, _, _, .ref Df, rfl, rfl, SqL.of (kp20.at farZ upd_same), atI_nat (j := 3) rfl, q Df xs H20 newF (by omega) gxs EZ farF hDf⟩
end
end Rt
set_option Elab.async false
set_option linter.all false
set_option maxRecDepth 100000
set_option maxHeartbeats 4000000
/-! What the law asks of texts, worlds as data. -/
namespace Rt
open PySem PySem.Spec PyProof.Rows L2 LamX
/-! ### a text's lines -/
def norm (ls : List Str) : List Str := if ls = [] then [Str.empty] else ls
theorem norm_cons (x : Str) (r : List Str) : norm (x :: r) = x :: r := if_neg (by simp)
theorem norm_of {ls : List Str} (h : ls ≠ []) : norm ls = ls := if_neg h
theorem gd_empty : Gd 1000 Str.empty := gdB_ok (by decide +kernel)
theorem norm_gd {ls : List Str} (h : ∀ l ∈ ls, Gd 1000 l) : ∀ l ∈ norm ls, Gd 1000 l := fun l hl => by
  cases ls with
  | nil =>
    rw [List.mem_singleton.mp (show l ∈ [Str.empty] from hl)]
    exact gd_empty
  | cons x r => exact h l (by rw [norm_cons] at hl; exact hl)
theorem norm_len (ls : List Str) : (norm ls).length ≤ ls.length + 1 := by
  cases ls with
  | nil => exact Nat.le_refl _
  | cons x r => rw [norm_cons]; omega
theorem norm_join (ls : List Str) : Str.join "\n" (norm ls) = Str.join "\n" ls := by
  cases ls with
  | nil => rfl
  | cons x r => rw [norm_cons]
theorem split_norm {ls : List Str} (h : ∀ l ∈ ls, Gd 1000 l) : Txt.split (Txt.join "\n" ls) "\n" = norm ls := by
  cases ls with
  | nil => decide +kernel
  | cons x r =>
    rw [norm_cons]
    refine TL.split_join (s := 10) (S := []) (by decide +kernel) (by decide +kernel) (by simp) fun p hp hm => ?_
    exact absurd ((h p hp).2 10 hm).1 (by decide)
theorem join_len {sep : Str} {m : Nat} (hs : sep.length ≤ 1) : ∀ {ps : List Str}, (∀ p ∈ ps, p.length ≤ m) → (Str.join sep ps).length ≤ ps.length * (m + 1)
  | [], _ => by
    rw [TL.len_tl, TL.tl_join]
    exact Nat.zero_le _
  | [x], h => by
    have := h x (List.mem_cons_self ..)
    show x.length ≤ 1 * (m + 1)
    omega
  | x :: y :: r, h => by
    have ih := join_len (m := m) hs (ps := y :: r) fun p hp => h p (List.mem_cons_of_mem _ hp)
    have := h x (List.mem_cons_self ..)
    rw [join_two, List.length_cons (a := x), Nat.succ_mul]
    omega
theorem text_len {ls : List Str} (h : ∀ l ∈ ls, Gd 1000 l) (hl : ls.length ≤ 90) : (Txt.join "\n" ls).length ≤ 100000 := by
  rw [TL.join_eq]
  have q := join_len (sep := "\n") (m := 1000) (by decide +kernel) (ps := ls) fun p hp => (h p hp).1
  omega
theorem read_empty : readS [Str.empty] = .inl 0 := by
  have e : take 0 Str.empty wd0 = none := by
    show takeRound (wordsOf Str.empty) wd0 = none
    unfold takeRound
    exact if_neg fun z => absurd z.1 (by decide +kernel)
  unfold readS
  rw [readFrom_cons, e]
theorem norm_read {ls : List Str} {k : Nat} (h : readS (norm ls) = .inl k) : k ≤ ls.length ∧ (k < ls.length → ∀ more, readS (norm (ls.take (k + 1) ++ more)) = .inl k) ∧ (1 < k → ∃ w, readS (norm (ls.take k)) = .inr w) ∧ (k = 1 → readS (norm (ls.take 1)) = .inl 1) := by
  cases ls with
  | nil =>
    have e : norm [] = [Str.empty] := rfl
    rw [e, read_empty] at h
    have e0 : 0 = k := Sum.inl.inj h
    subst e0
    exact ⟨Nat.le_refl _, fun z => absurd z (Nat.lt_irrefl _), fun z => absurd z (by decide), fun z => absurd z (by decide)⟩
  | cons x r =>
    rw [norm_cons] at h
    obtain ⟨h1, h2, h3, h4⟩ := readS_inl h
    refine ⟨h1, fun hk more => ?_, fun hk => ?_, fun hk => ?_⟩
    · have e := h2 hk more
      rw [List.take_succ_cons, List.cons_append] at e ⊢
      rw [norm_cons]
      exact e
    · obtain ⟨k', rfl⟩ : ∃ k', k = k' + 1 := ⟨k - 1, by omega⟩
      have e := h3 hk
      rw [List.take_succ_cons] at e ⊢
      rw [norm_cons]
      exact e
    · have e := h4 hk
      rw [List.take_succ_cons] at e ⊢
      rw [norm_cons]
      exact e
theorem cut_to (ls : List Str) (k : Nat) : cutV (ls.map V.str) none (some (k : Int)) = (ls.take k).map V.str := by
  unfold cutV
  rw [HT.sIx_none, HT.sIx_nat, List.length_map, Nat.sub_zero, List.drop_zero, List.map_take]
  by_cases h : k ≤ ls.length
  · rw [Nat.min_eq_left h]
  · rw [Nat.min_eq_right (by omega), List.take_of_length_le (by rw [List.length_map]; exact Nat.le_refl _), List.take_of_length_le (by rw [List.length_map]; omega)]
/-! ### data of one kind -/
mutual
def pl : PyData → Prop
  | .none => True
  | .int _ => True
  | .str _ => True
  | .tuple xs => plAll xs
  | .bool _ => False
  | .list _ => False
  | .dict _ => False
def plAll : List PyData → Prop
  | [] => True
  | x :: xs => pl x ∧ plAll xs
end
mutual
theorem eqv_eq : ∀ (d e : PyData), pl d → pl e → PyData.eqv d e = true → d = e
  | .none, .none, _, _, _ => rfl
  | .int i, .int j, _, _, h => by
    simp only [PyData.eqv] at h
    rw [eq_of_beq h]
  | .str i, .str j, _, _, h => by
    simp only [PyData.eqv] at h
    rw [eq_of_beq h]
  | .tuple xs, .tuple ys, hx, hy, h => by
    simp only [PyData.eqv] at h
    simp only [pl] at hx hy
    rw [eqvAll_eq xs ys hx hy h]
  | .none, .int _, _, _, h => by simp [PyData.eqv] at h
  | .none, .str _, _, _, h => by simp [PyData.eqv] at h
  | .none, .tuple _, _, _, h => by simp [PyData.eqv] at h
  | .int _, .none, _, _, h => by simp [PyData.eqv] at h
  | .int _, .str _, _, _, h => by simp [PyData.eqv] at h
  | .int _, .tuple _, _, _, h => by simp [PyData.eqv] at h
  | .str _, .none, _, _, h => by simp [PyData.eqv] at h
  | .str _, .int _, _, _, h => by simp [PyData.eqv] at h
  | .str _, .tuple _, _, _, h => by simp [PyData.eqv] at h
  | .tuple _, .none, _, _, h => by simp [PyData.eqv] at h
  | .tuple _, .int _, _, _, h => by simp [PyData.eqv] at h
  | .tuple _, .str _, _, _, h => by simp [PyData.eqv] at h
  | .bool _, _, h, _, _ => by simp [pl] at h
  | .list _, _, h, _, _ => by simp [pl] at h
  | .dict _, _, h, _, _ => by simp [pl] at h
  | _, .bool _, _, h, _ => by simp [pl] at h
  | _, .list _, _, h, _ => by simp [pl] at h
  | _, .dict _, _, h, _ => by simp [pl] at h
theorem eqvAll_eq : ∀ (ds es : List PyData), plAll ds → plAll es → PyData.eqvAll ds es = true → ds = es
  | [], [], _, _, _ => rfl
  | d :: ds, e :: es, hd, he, h => by
    simp only [PyData.eqvAll, Bool.and_eq_true] at h
    simp only [plAll] at hd he
    rw [eqv_eq d e hd.1 he.1 h.1, eqvAll_eq ds es hd.2 he.2 h.2]
  | [], _ :: _, _, _, h => by simp [PyData.eqvAll] at h
  | _ :: _, [], _, _, h => by simp [PyData.eqvAll] at h
end
theorem plAll_map {α : Type} (f : α → PyData) (h : ∀ x, pl (f x)) : ∀ xs : List α, plAll (xs.map f)
  | [] => by simp [plAll]
  | x :: r => by
    rw [List.map_cons]
    simp only [plAll]
    exact ⟨h x, plAll_map f h r⟩
theorem pl_opt (o : Option Int) : pl (optD o) := by cases o <;> simp [optD, pl]
theorem pl_str (s : Str) : pl (.str s) := by simp [pl]
theorem pl_src (s : Src) : pl s.d := by
  simp only [Src.d, pl, plAll]
  exact ⟨trivial, plAll_map optD pl_opt _⟩
theorem pl_prt (p : Prt) : pl p.d := by
  simp only [Prt.d, pl, plAll]
  exact ⟨trivial, pl_opt _, pl_opt _, trivial⟩
theorem pl_way (y : Wy) : pl y.d := by
  simp only [Wy.d, pl, plAll]
  exact ⟨trivial, plAll_map _ pl_prt _, trivial, plAll_map _ pl_opt _, pl_opt _, trivial⟩
theorem pl_wd (w : Wd) : pl w.d := by
  simp only [Wd.d, Wd.ds, pl, plAll]
  exact ⟨trivial, plAll_map _ pl_str _, plAll_map _ pl_src _, plAll_map _ pl_way _, trivial⟩
theorem map_inj {α β : Type} {f : α → β} (h : ∀ x y, f x = f y → x = y) : ∀ {xs ys : List α}, xs.map f = ys.map f → xs = ys
  | [], [], _ => rfl
  | [], _ :: _, e => by simp at e
  | _ :: _, [], e => by simp at e
  | x :: xs, y :: ys, e => by
    rw [List.map_cons, List.map_cons] at e
    obtain ⟨e1, e2⟩ := List.cons.inj e
    rw [h x y e1, map_inj h e2]
theorem opt_inj : ∀ a b : Option Int, optD a = optD b → a = b
  | none, none, _ => rfl
  | some i, some j, e => by rw [PyData.int.inj e]
  | none, some _, e => by cases e
  | some _, none, e => by cases e
theorem src_inj (a b : Src) (h : a.d = b.d) : a = b := by
  obtain ⟨e1, e2⟩ := List.cons.inj (PyData.tuple.inj h)
  cases a
  cases b
  rw [Src.mk.injEq]
  exact ⟨PyData.str.inj e1, map_inj opt_inj e2⟩
theorem prt_inj (a b : Prt) (h : a.d = b.d) : a = b := by
  obtain ⟨e1, h⟩ := List.cons.inj (PyData.tuple.inj h)
  obtain ⟨e2, h⟩ := List.cons.inj h
  obtain ⟨e3, h⟩ := List.cons.inj h
  cases a
  cases b
  rw [Prt.mk.injEq]
  exact ⟨PyData.str.inj e1, opt_inj _ _ e2, opt_inj _ _ e3⟩
theorem way_inj (a b : Wy) (h : a.d = b.d) : a = b := by
  obtain ⟨e1, h⟩ := List.cons.inj (PyData.tuple.inj h)
  obtain ⟨e2, h⟩ := List.cons.inj h
  obtain ⟨e3, h⟩ := List.cons.inj h
  obtain ⟨e4, h⟩ := List.cons.inj h
  obtain ⟨e5, h⟩ := List.cons.inj h
  cases a
  cases b
  rw [Wy.mk.injEq]
  exact ⟨PyData.str.inj e1, map_inj prt_inj (PyData.tuple.inj e2), PyData.str.inj e3, map_inj opt_inj (PyData.tuple.inj e4), opt_inj _ _ e5⟩
theorem wd_inj (a b : Wd) (h : a.d = b.d) : a = b := by
  obtain ⟨e1, h⟩ := List.cons.inj (PyData.tuple.inj h)
  obtain ⟨e2, h⟩ := List.cons.inj h
  obtain ⟨e3, h⟩ := List.cons.inj h
  obtain ⟨e4, h⟩ := List.cons.inj h
  cases a
  cases b
  rw [Wd.mk.injEq]
  exact ⟨PyData.int.inj e1, map_inj (fun x y e => PyData.str.inj e) (PyData.tuple.inj e2), map_inj src_inj (PyData.tuple.inj e3), map_inj way_inj (PyData.tuple.inj e4)⟩
theorem wd_eqv {a b : Wd} (h : PyData.eqv a.d b.d = true) : a = b := wd_inj a b (eqv_eq _ _ (pl_wd a) (pl_wd b) h)
/-! ### worlds in heaps -/
def TupK (H H' : Hp) : Prop := ∀ b xs, H b = some (.tup xs) → H' b = some (.tup xs)
theorem KpN.tup {H H' : Hp} {c d r : Addr} {n : Nat} (k : KpN d r H H') (w : Drw H c d r n) : TupK H H' := fun b xs e => k b _ (w.farT e).2.1 (w.farT e).2.2 (fun ps z => by cases z) e
theorem WdAt.tk {H H' : Hp} {p : Addr} {u : Wd} (e : TupK H H') (h : WdAt H p u) : WdAt H' p u := by
  obtain ⟨ka, sa, ya, sas, was, h1, h2, h3, h4, h5, h6⟩ := h
  refine ⟨ka, sa, ya, sas, was, e _ _ h1, e _ _ h2, e _ _ h3, ⟨h4.1, fun j s hs => ?_⟩, e _ _ h5, ⟨h6.1, fun j y hy => ?_⟩⟩
  · obtain ⟨a, q1, q2⟩ := h4.2 j s hs
    exact ⟨a, q1, e _ _ q2⟩
  · obtain ⟨a, q1, pt, ht, prs, g1, g2, g3, g4⟩ := h6.2 j y hy
    refine ⟨a, q1, pt, ht, prs, e _ _ g1, e _ _ g2, ⟨g3.1, fun i p hp => ?_⟩, e _ _ g4⟩
    obtain ⟨b, f1, f2⟩ := g3.2 i p hp
    exact ⟨b, f1, e _ _ f2⟩
theorem dp_wd {K : PySem.W.Frag} {H : Hp} {p : Addr} {u : Wd} (h : WdAt H p u) : Dp K H (.ref p) u.d := by
  obtain ⟨ka, sa, ya, sas, was, h1, h2, h3, h4, h5, h6⟩ := h
  refine .tup (SqT.of h1) (.cons (.int _) (.cons (.tup (SqT.of h2) (dp_strs K H u.ks)) (.cons (.tup (SqT.of h3) (dp_refs (by rw [List.length_map]; exact h4.1) fun j d hd => ?_)) (.cons (.tup (SqT.of h5) (dp_ways h6)) .nil))))
  obtain ⟨s, rfl, hs⟩ := data_at hd
  obtain ⟨b, e1, e2⟩ := h4.2 j s hs
  exact ⟨b, e1, .tup (SqT.of e2) (.cons (.str _) (dp_opts K H s.ns))⟩
theorem okD_wd {u : Wd} (h : u.Asc) : okD 6 u.d := by
  refine okD_tup (n := 5) fun d hd => ?_
  have hd : d ∈ [PyData.int u.size, .tuple (u.ks.map PyData.str), .tuple (u.ss.map Src.d), .tuple (u.ws.map Wy.d)] := hd
  simp only [List.mem_cons, List.not_mem_nil, or_false] at hd
  rcases hd with rfl | rfl | rfl | rfl
  · exact (okD_int _).mono (by decide)
  · refine (okD_tup (n := 0) fun d hd => ?_).mono (by decide)
    obtain ⟨k, hk, rfl⟩ := List.mem_map.mp hd
    exact okD_str (h.1 k hk)
  · refine (okD_tup (n := 1) fun d hd => ?_).mono (by decide)
    obtain ⟨s, hs, rfl⟩ := List.mem_map.mp hd
    refine okD_tup (n := 0) fun d hd => ?_
    rcases List.mem_cons.mp hd with rfl | hd
    · exact okD_str (h.2.1 s hs)
    · obtain ⟨o, _, rfl⟩ := List.mem_map.mp hd
      exact okD_opt o
  · exact (okD_ways h.2.2).mono (by decide)
end Rt
set_option Elab.async false
set_option linter.all false
set_option maxRecDepth 100000
set_option maxHeartbeats 4000000
/-! law. -/
namespace Rt
open PySem PySem.Spec PyProof.Rows L2 LamX
/-- the law's state: what is drawn from, the tables, what was read so far -/
structure LS (TT : List (Addr × Str)) (c d r rh : Addr) (n : Nat) (es : List (Addr × Addr × Wd)) (H : Hp) : Prop where
  w : Drw H c d r n
  t : Tabs TT H
  l : H rh = some (.lst (es.map fun e => V.ref e.1))
  g : ∀ e ∈ es, H e.1 = some (.tup [.ref e.2.1, .str (textOf e.2.2)]) ∧ WdAt H e.2.1 e.2.2
theorem LS.mono {TT : List (Addr × Str)} {c d r rh : Addr} {n m : Nat} {es : List (Addr × Addr × Wd)} {H : Hp} (h : LS TT c d r rh n es H) (e : n ≤ m) : LS TT c d r rh m es H := ⟨h.w.mono e, h.t, h.l, h.g⟩
theorem LS.same {TT : List (Addr × Str)} {c d r rh : Addr} {n : Nat} {es : List (Addr × Addr × Wd)} {H H' : Hp} (h : LS TT c d r rh n es H) (e : Same H H') : LS TT c d r rh n es H' :=
  ⟨h.w.same e, Tabs.ext h.t e, e _ _ h.l, fun x hx => ⟨e _ _ (h.g x hx).1, (h.g x hx).2.same e⟩⟩
theorem LS.dn {TT : List (Addr × Str)} {c d r rh : Addr} {n m : Nat} {es : List (Addr × Addr × Wd)} {H H' : Hp} (h : LS TT c d r rh n es H) (f : Far rh c d r) (e : DN TT c d r H m H') : LS TT c d r rh m es H' := by
  have tk : TupK H H' := KpN.tup e.kp h.w
  exact ⟨e.w, e.t, e.kp _ _ f.2.1 f.2.2 (fun ps z => by cases z) h.l, fun x hx => ⟨tk _ _ (h.g x hx).1, (h.g x hx).2.tk tk⟩⟩
theorem TabS.ext2 {H : Hp} {P : Addr} {q : Str} {rh : Addr} {xs ys : List V} (t : TabS H P q) (h : H rh = some (.lst xs)) : TabS (upd H rh (.lst ys)) P q := by
  obtain ⟨ps, a1, a2, a3⟩ := t
  refine ⟨ps, by rw [upd_ne (ne_of a1 h (by intro z; cases z))]; exact a1, a2, fun pos cv hc => ?_⟩
  obtain ⟨cc, e1, e2⟩ := a3 pos cv hc
  exact ⟨cc, e1, by rw [upd_ne (ne_of e2 h (codeO_lst _))]; exact e2⟩
theorem nil_shaped : SeqAt.shaped (.list []) = true := by decide +kernel
theorem nil_eqv : PyData.eqv (.list []) (.list []) = true := by simp [PyData.eqv, PyData.eqvAll]
section
variable {P : Program} {w : World} {K : PySem.W.Frag} {mg : Str → Option Value} {base : Heap}
def spLaw (K : PySem.W.Frag) (P1 : Addr) : Sp := fun vs H Q _ => ∃ (a : Addr) (ns : List Int), vs = [.ref a] ∧ SqL K H a (ns.map V.int) ∧ H P1 = some (.tbl #[]) ∧ ∀ H', Q (.bl true) H'
theorem ok_law (T : Txt K mg) {c1 P1 : Addr} (TB : TabB base mg c1 P1) (hcd : T.lines.fd.code = .ref c1) : FnOk P w K mg base CX0 8 T.law.f T.law.fd ["_law_script"] (spLaw K P1) := by
  have GD : FnOk P w K mg base CX0 1 T.draws.f T.draws.fd ["_law_script", "_law_may"] (spDraws K) := ok_draws T
  have GL : FnOk P w K mg base CX0 3 T.lines.f T.lines.fd ["_law_drawn"] (spLines [(P1, lamQ)]) := ok_lines T TB hcd
  have GR : FnOk P w K mg base CX0 7 T.read.f T.read.fd ["_law_text"] spRead := ok_read T
  have GW : FnOk P w K mg base CX0 3 T.worldText.f T.worldText.fd ["world"] spWorldText := ok_worldText T
  refine T.law.F.ok scLaw (fun vs H Q E h => ?_) (fun cdv A outer s H vs Q E hr h => ?_)
  · obtain ⟨a, ns, rfl, _⟩ := h
    rfl
  · obtain ⟨a, ns, rfl, ha, hP, q⟩ := h
    have nm := scLaw.nd
    have hr1 := hr.mono (show 1 ≤ 7 by decide)
    have hr3 := hr.mono (show 3 ≤ 7 by decide)
    refine ⟨_, pss_cons (ps_set (i := 1) nm rfl (.inl rfl) (pe_call GD hr1 (by rfl) T.draws.g T.draws.F.kp T.draws.b .nil pass0 (pa_cons (pv 0) (pa_cons pe_int pa_nil))))
      (pss_cons (ps_set (i := 2) nm rfl (.inl rfl) (pe_lst pa_nil))
      (pss_cons (ps_for PassesOwn.never rfl (pi_range1 (by rfl) T.bRange (pa_cons pe_int pa_nil)) (pg_name (i := 3) nm rfl (.inl rfl))
        (pss_cons (ps_set (i := 4) nm rfl (.inl rfl) (pe_call GL hr3 (by rfl) T.lines.g T.lines.F.kp T.lines.b .nil pass0 (pa_cons (pv 1) pa_nil)))
        (pss_cons (ps_set (i := 5) nm rfl (.inr rfl) (pe_join pe_str (pv 4)))
        (pss_cons (ps_set (i := 6) nm rfl (.inr rfl) (pe_call GR hr (by rfl) T.read.g T.read.F.kp T.read.b .nil pass0 (pa_cons (pv 5) pa_nil)))
        (pss_one (ps_if (pt_val (pe_isi (i := 6) rfl (.inr (.inl rfl)) (by rfl) T.bIsinstance (by rfl) T.bTuple boot_tuple))
          (pss_cons (ps_setLc (i := 7) (own := [("_law_one", 10), ("_law_other", 11)]) (g := gTup K 2 _) rfl nm rfl rfl (sw_true rfl rfl rfl (by decide +kernel)) (pi_list (pv 2)) (blkOk_by (N := nLaw) (sc := defScope sLaw) (by decide +kernel))
              (fun _ _ _ _ _ => pg_tup rfl (pgs_cons (pg_name (i := 10) nm rfl (Or.inl rfl)) (pgs_cons (pg_name (i := 11) nm rfl (Or.inl rfl)) pgs_nil)))
              (fun _ _ _ _ _ => pts_one (PW.pt (pw_and (pt_cmpR (r := rEqD K) (op_eqD hr.units) (pv 10) (pv 6) (nomark _)) (pw_and1 (pt_cmpR op_ne (pv 11) (pv 5) (nomark _))))))
              (fun _ _ _ _ _ => pv 10))
          (pss_cons (ps_if (PW.pt (pw_or (pt_cmpR op_ne (pe_call GW hr3 (by rfl) T.worldText.g T.worldText.F.kp T.worldText.b .nil pass0 (pa_cons (pv 6) pa_nil)) (pv 5) (nomark _)) (pw_or1 (pt_cmpR (op_neD hr.units) (pv 7) (pe_lst pa_nil) (nomark _))))) (pss_one (ps_ret pe_bl)) pss_nil)
          (pss_one (ps_expr (pe_bm PySem.F.plainAttrs_list PySem.F.slot_list_append PySem.F.type_list_append mt_append (pv 2) (pa_cons (pe_tup (pa_cons (pv 6) (pa_cons (pv 5) pa_nil))) pa_nil))))))
          (pss_cons (ps_set (i := 8) nm rfl (.inl rfl) (pe_ifExp (pt_cmpR op_gt (pv 6) pe_int (nomark _)) (pe_call GR hr (by rfl) T.read.g T.read.F.kp T.read.b .nil pass0 (pa_cons (pe_join pe_str (pe_slice sl_list (pv 4) po_none (po_some (pv 6)))) pa_nil)) pe_non))
          (pss_cons (ps_if (PW.pt (pw_and (pt_cmpR op_gt (pv 6) pe_int (nomark _)) (pw_and1 (pt_not (pt_val (pe_isi (i := 8) rfl (.inl rfl) (by rfl) T.bIsinstance (by rfl) T.bTuple boot_tuple)))))) (pss_one (ps_ret pe_bl)) pss_nil)
          (pss_cons (ps_if (PW.pt (pw_and (pt_cmpR op_eq (pv 6) pe_int (nomark _)) (pw_and1 (pt_cmpR op_ne (pv 8) pe_int (nomark _))))) (pss_one (ps_ret pe_bl)) pss_nil)
          (pss_cons (ps_set (i := 9) nm rfl (.inl rfl) (pe_join pe_str (pe_op op_cat (pe_slice sl_list (pv 4) po_none (po_some (pe_op op_add (pv 6) pe_int))) (pe_call GL hr3 (by rfl) T.lines.g T.lines.F.kp T.lines.b .nil pass0 (pa_cons (pv 1) pa_nil)))))
          (pss_one (ps_if (PW.pt (pw_and (pt_cmpR op_lt (pv 6) (pe_callB call_len_seq (by rfl) T.bLen PySem.boot_len (pa_cons (pv 4) pa_nil)) (nomark _)) (pw_and1 (pt_cmpR op_ne (pe_call GR hr (by rfl) T.read.g T.read.F.kp T.read.b .nil pass0 (pa_cons (pv 9) pa_nil)) (pv 6) (nomark _))))) (pss_one (ps_ret pe_bl)) pss_nil))))))))))))
      (pss_one (ps_ret pe_bl)))), ?_⟩
    refine ⟨.ref a, rfl, a, ns, rfl, ha, fun c d r H1 s1 nd nr dw => ?_⟩
    have T1 : Tabs [(P1, lamQ)] H1 := fun p hp => by
      rw [List.mem_singleton.mp hp]
      exact TabS.nil (s1 _ _ hP)
    refine ⟨szr, fun rh nrh => ?_⟩
    have farH := dw.new nrh
    have t1 := same_new (o := .lst []) nrh
    refine ⟨6, rfl, by decide, by decide, for_it (walk_range (lo := 0) (n := (6 : Int).toNat)) (fun i σ H' => ∃ y3 y4 y5 y6 y7 y8 y9 y10 y11, σ = [some (.ref a), some (.ref d), some (.ref rh), y3, y4, y5, y6, y7, y8, y9, y10, y11] ∧
      ∃ es : List (Addr × Addr × Wd), LS [(P1, lamQ)] c d r rh (1300 * i) es H' ∧ Far rh c d r ∧ es.length ≤ i ∧ ∀ e ∈ es, e.2.2.Asc) ?_ (fun _ _ _ _ _ => trivial) ?_ ?_⟩
    · exact ⟨none, none, none, none, none, none, none, none, none, rfl, [], ⟨dw.same t1, Tabs.ext T1 t1, upd_same, fun e he => by cases he⟩, farH, Nat.le_refl _, fun e he => by cases he⟩
    · rintro i v σ H2 H3 hi ⟨y3, y4, y5, y6, y7, y8, y9, y10, y11, rfl, es, S2, fr, el, ga⟩ ⟨rfl, rfl⟩
      have hi6 : i < 6 := hi
      refine ⟨.ref d, rfl, c, d, r, _, rfl, S2.w, by omega, S2.t, fun lp ls H4 newp l40 gl dn far elp => ?_⟩
      have S4 := S2.dn fr dn
      have lpr : lp ≠ rh := newp rh _ (fun ps z => by cases z) S2.l
      refine ⟨⟨_, rfl⟩, .ref lp, rfl, "\n", lp, ls, rfl, rfl, .inl (SqL.of elp), gd_join_ok (by decide +kernel) (by decide) (by omega) gl, ?_⟩
      refine ⟨.str _, rfl, _, norm ls, rfl, split_norm gl, text_len gl (by omega), by have := norm_len ls; omega, fun l hl => (norm_gd gl l hl).1, fun l hl => (norm_gd gl l hl).asc, fun k e H5 s5 => ?_, fun u e H5 p s5 np hp => ?_⟩
      · obtain ⟨hk1, hk2, hk3, hk4⟩ := norm_read e
        have S5 := S4.same s5
        have el5 := s5 _ _ elp
        refine isi_tupI (k : Int) rfl ⟨_, rfl, iteF ?_⟩
        refine ⟨.int (k : Nat), rfl, _, _, rfl, rfl, _, rfl, ite2 (fun e0 => ?_) (fun e0 => ?_)⟩
        · have k0 : 0 < k := by have := of_decide_eq_true e0; omega
          refine ⟨⟨_, rfl⟩, .ref lp, rfl, _, rfl, _, rfl, lp, _, rfl, SqL.of el5, fun p1 n1 => ?_⟩
          rw [cut_to]
          have gt : ∀ x ∈ ls.take k, Gd 1000 x := fun x hx => gl x (List.mem_of_mem_take hx)
          have lt0 : (ls.take k).length ≤ 40 := by rw [List.length_take]; omega
          have S6 := S5.same (same_new (o := .lst ((ls.take k).map V.str)) n1)
          have el6 := same_new n1 (o := .lst ((ls.take k).map V.str)) _ _ el5
          refine ⟨"\n", p1, ls.take k, rfl, rfl, .inl (SqL.of upd_same), gd_join_ok (by decide +kernel) (by decide) (by omega) gt, ?_⟩
          refine ⟨_, norm (ls.take k), rfl, split_norm gt, text_len gt (by omega), by have := norm_len (ls.take k); omega, fun l hl => (norm_gd gt l hl).1, fun l hl => (norm_gd gt l hl).asc, fun k' e' H7 s7 => ?_, fun u' e' H7 p' s7 np' hp' => ?_⟩
          · have k1 : k = 1 := by
              by_cases z : k = 1
              · exact z
              · obtain ⟨w', hw'⟩ := hk3 (by omega)
                rw [e'] at hw'
                cases hw'
            have q4 := hk4 k1
            rw [k1, q4] at e'
            have ek' : 1 = k' := Sum.inl.inj e'
            subst ek'
            have SX := S6.same s7
            have eX := s7 _ _ el6
            refine ⟨.int (k : Nat), rfl, _, _, rfl, rfl, _, rfl, ite2 (fun e1 => absurd (of_decide_eq_true e1) (by omega)) (fun _ => iteF ?_)⟩
            refine ⟨.int (k : Nat), rfl, rfl, _, rfl, ite2 (fun _ => ⟨.int ((1 : Nat) : Int), rfl, rfl, _, rfl, ite2 (fun z => absurd z (by decide)) (fun _ => ?_)⟩) (fun z => absurd (decide_eq_true (by rw [k1]; rfl)) z)⟩
            refine ⟨⟨_, rfl⟩, .ref lp, rfl, _, rfl, _, _, rfl, rfl, _, rfl, lp, _, rfl, SqL.of eX, fun p2 n2 => ?_⟩
            rw [show cutV (ls.map V.str) none (some ((k : Int) + 1)) = (ls.take (k + 1)).map V.str from by rw [show ((k : Int) + 1) = ((k + 1 : Nat) : Int) by omega]; exact cut_to ls (k + 1)]
            have SY := SX.same (same_new (o := .lst ((ls.take (k + 1)).map V.str)) n2)
            have far2 := SX.w.new n2
            refine ⟨.ref d, rfl, c, d, r, _, rfl, SY.w, by omega, SY.t, fun lq ls2 H8 newq l40' gl2 dn2 farq elq => ?_⟩
            have SZ := SY.dn fr dn2
            have ex8 := dn2.kp lp _ far.2.1 far.2.2 (fun ps z => by cases z) (same_new n2 (o := .lst ((ls.take (k + 1)).map V.str)) _ _ eX)
            have e28 := dn2.kp p2 _ far2.2.1 far2.2.2 (fun ps z => by cases z) upd_same
            have lt1 : (ls.take (k + 1)).length ≤ 40 := by rw [List.length_take]; omega
            have gm : ∀ x ∈ ls.take (k + 1) ++ ls2, Gd 1000 x := fun x hx => by
              rcases List.mem_append.mp hx with hx | hx
              · exact gl x (List.mem_of_mem_take hx)
              · exact gl2 x hx
            have lm : (ls.take (k + 1) ++ ls2).length ≤ 80 := by rw [List.length_append]; omega
            refine ⟨p2, lq, _, _, rfl, rfl, e28, elq, sz_le (by rw [List.length_map, List.length_map]; omega), fun p3 n3 => ?_⟩
            refine ⟨"\n", p3, ls.take (k + 1) ++ ls2, rfl, rfl, .inl (SqL.of (by rw [upd_same, List.map_append])), gd_join_ok (by decide +kernel) (by decide) (by omega) gm, ?_⟩
            have SW := SZ.same (same_new (o := .lst ((ls.take (k + 1)).map V.str ++ ls2.map V.str)) n3)
            refine ⟨.int (k : Nat), rfl, .ref lp, rfl, lp, _, rfl, .inl (SqL.of (same_new n3 _ _ ex8)), _, _, rfl, rfl, _, rfl, ite2 (fun ek => ?_) (fun _ => iteF ?_)⟩
            · have hkl : k < ls.length := by
                have z := of_decide_eq_true ek
                rw [List.length_map] at z
                omega
              refine ⟨.str _, rfl, _, norm (ls.take (k + 1) ++ ls2), rfl, split_norm gm, text_len gm (by omega), by have := norm_len (ls.take (k + 1) ++ ls2); omega, fun l hl => (norm_gd gm l hl).1, fun l hl => (norm_gd gm l hl).asc, fun kk e2 H9 s9 => ?_, fun u2 e2 _ _ _ _ _ => ?_⟩
              · have q2 := hk2 hkl ls2
                rw [e2] at q2
                have ek2 : kk = k := Sum.inl.inj q2
                subst ek2
                refine ⟨.int (kk : Nat), rfl, rfl, _, rfl, ite2 (fun z => absurd z (by simp)) (fun _ => ?_)⟩
                exact ⟨_, _, _, _, _, _, _, _, _, rfl, es, (SW.same s9).mono (by omega), fr, by omega, ga⟩
              · have q2 := hk2 hkl ls2
                rw [e2] at q2
                cases q2
            · exact ⟨_, _, _, _, _, _, _, _, _, rfl, es, SW.mono (by omega), fr, by omega, ga⟩
          · have k1lt : 1 < k := by
              by_cases z : k = 1
              · have q4 := hk4 z
                rw [z, q4] at e'
                cases e'
              · omega
            have SX := S6.same s7
            have eX := s7 _ _ el6
            obtain ⟨ka', sa', ya', sas', was', hp1', _⟩ := hp'
            refine ⟨.int (k : Nat), rfl, _, _, rfl, rfl, _, rfl, ite2 (fun _ => isi_tup hp1' rfl ⟨_, rfl, iteF ?_⟩) (fun z => absurd (decide_eq_true (by omega)) z)⟩
            refine ⟨.int (k : Nat), rfl, rfl, _, rfl, ite2 (fun z => absurd (V.int.inj (of_decide_eq_true z)) (by omega)) (fun _ => iteF ?_)⟩
            refine ⟨⟨_, rfl⟩, .ref lp, rfl, _, rfl, _, _, rfl, rfl, _, rfl, lp, _, rfl, SqL.of eX, fun p2 n2 => ?_⟩
            rw [show cutV (ls.map V.str) none (some ((k : Int) + 1)) = (ls.take (k + 1)).map V.str from by rw [show ((k : Int) + 1) = ((k + 1 : Nat) : Int) by omega]; exact cut_to ls (k + 1)]
            have SY := SX.same (same_new (o := .lst ((ls.take (k + 1)).map V.str)) n2)
            have far2 := SX.w.new n2
            refine ⟨.ref d, rfl, c, d, r, _, rfl, SY.w, by omega, SY.t, fun lq ls2 H8 newq l40' gl2 dn2 farq elq => ?_⟩
            have SZ := SY.dn fr dn2
            have ex8 := dn2.kp lp _ far.2.1 far.2.2 (fun ps z => by cases z) (same_new n2 (o := .lst ((ls.take (k + 1)).map V.str)) _ _ eX)
            have e28 := dn2.kp p2 _ far2.2.1 far2.2.2 (fun ps z => by cases z) upd_same
            have lt1 : (ls.take (k + 1)).length ≤ 40 := by rw [List.length_take]; omega
            have gm : ∀ x ∈ ls.take (k + 1) ++ ls2, Gd 1000 x := fun x hx => by
              rcases List.mem_append.mp hx with hx | hx
              · exact gl x (List.mem_of_mem_take hx)
              · exact gl2 x hx
            have lm : (ls.take (k + 1) ++ ls2).length ≤ 80 := by rw [List.length_append]; omega
            refine ⟨p2, lq, _, _, rfl, rfl, e28, elq, sz_le (by rw [List.length_map, List.length_map]; omega), fun p3 n3 => ?_⟩
            refine ⟨"\n", p3, ls.take (k + 1) ++ ls2, rfl, rfl, .inl (SqL.of (by rw [upd_same, List.map_append])), gd_join_ok (by decide +kernel) (by decide) (by omega) gm, ?_⟩
            have SW := SZ.same (same_new (o := .lst ((ls.take (k + 1)).map V.str ++ ls2.map V.str)) n3)
            refine ⟨.int (k : Nat), rfl, .ref lp, rfl, lp, _, rfl, .inl (SqL.of (same_new n3 _ _ ex8)), _, _, rfl, rfl, _, rfl, ite2 (fun ek => ?_) (fun _ => iteF ?_)⟩
            · have hkl : k < ls.length := by
                have z := of_decide_eq_true ek
                rw [List.length_map] at z
                omega
              refine ⟨.str _, rfl, _, norm (ls.take (k + 1) ++ ls2), rfl, split_norm gm, text_len gm (by omega), by have := norm_len (ls.take (k + 1) ++ ls2); omega, fun l hl => (norm_gd gm l hl).1, fun l hl => (norm_gd gm l hl).asc, fun kk e2 H9 s9 => ?_, fun u2 e2 _ _ _ _ _ => ?_⟩
              · have q2 := hk2 hkl ls2
                rw [e2] at q2
                have ek2 : kk = k := Sum.inl.inj q2
                subst ek2
                refine ⟨.int (kk : Nat), rfl, rfl, _, rfl, ite2 (fun z => absurd z (by simp)) (fun _ => ?_)⟩
                exact ⟨_, _, _, _, _, _, _, _, _, rfl, es, (SW.same s9).mono (by omega), fr, by omega, ga⟩
              · have q2 := hk2 hkl ls2
                rw [e2] at q2
                cases q2
            · exact ⟨_, _, _, _, _, _, _, _, _, rfl, es, SW.mono (by omega), fr, by omega, ga⟩
        · have k0 : k = 0 := by
            by_cases z : k = 0
            · exact z
            · exact absurd (decide_eq_true (by omega)) e0
          have SX := S5
          have eX := el5
          refine ⟨.int (k : Nat), rfl, _, _, rfl, rfl, _, rfl, ite2 (fun e1 => absurd (of_decide_eq_true e1) (by omega)) (fun _ => iteF ?_)⟩
          refine ⟨.int (k : Nat), rfl, rfl, _, rfl, ite2 (fun z => absurd (V.int.inj (of_decide_eq_true z)) (by omega)) (fun _ => iteF ?_)⟩
          refine ⟨⟨_, rfl⟩, .ref lp, rfl, _, rfl, _, _, rfl, rfl, _, rfl, lp, _, rfl, SqL.of eX, fun p2 n2 => ?_⟩
          rw [show cutV (ls.map V.str) none (some ((k : Int) + 1)) = (ls.take (k + 1)).map V.str from by rw [show ((k : Int) + 1) = ((k + 1 : Nat) : Int) by omega]; exact cut_to ls (k + 1)]
          have SY := SX.same (same_new (o := .lst ((ls.take (k + 1)).map V.str)) n2)
          have far2 := SX.w.new n2
          refine ⟨.ref d, rfl, c, d, r, _, rfl, SY.w, by omega, SY.t, fun lq ls2 H8 newq l40' gl2 dn2 farq elq => ?_⟩
          have SZ := SY.dn fr dn2
          have ex8 := dn2.kp lp _ far.2.1 far.2.2 (fun ps z => by cases z) (same_new n2 (o := .lst ((ls.take (k + 1)).map V.str)) _ _ eX)
          have e28 := dn2.kp p2 _ far2.2.1 far2.2.2 (fun ps z => by cases z) upd_same
          have lt1 : (ls.take (k + 1)).length ≤ 40 := by rw [List.length_take]; omega
          have gm : ∀ x ∈ ls.take (k + 1) ++ ls2, Gd 1000 x := fun x hx => by
            rcases List.mem_append.mp hx with hx | hx
            · exact gl x (List.mem_of_mem_take hx)
            · exact gl2 x hx
          have lm : (ls.take (k + 1) ++ ls2).length ≤ 80 := by rw [List.length_append]; omega
          refine ⟨p2, lq, _, _, rfl, rfl, e28, elq, sz_le (by rw [List.length_map, List.length_map]; omega), fun p3 n3 => ?_⟩
          refine ⟨"\n", p3, ls.take (k + 1) ++ ls2, rfl, rfl, .inl (SqL.of (by rw [upd_same, List.map_append])), gd_join_ok (by decide +kernel) (by decide) (by omega) gm, ?_⟩
          have SW := SZ.same (same_new (o := .lst ((ls.take (k + 1)).map V.str ++ ls2.map V.str)) n3)
          refine ⟨.int (k : Nat), rfl, .ref lp, rfl, lp, _, rfl, .inl (SqL.of (same_new n3 _ _ ex8)), _, _, rfl, rfl, _, rfl, ite2 (fun ek => ?_) (fun _ => iteF ?_)⟩
          · have hkl : k < ls.length := by
              have z := of_decide_eq_true ek
              rw [List.length_map] at z
              omega
            refine ⟨.str _, rfl, _, norm (ls.take (k + 1) ++ ls2), rfl, split_norm gm, text_len gm (by omega), by have := norm_len (ls.take (k + 1) ++ ls2); omega, fun l hl => (norm_gd gm l hl).1, fun l hl => (norm_gd gm l hl).asc, fun kk e2 H9 s9 => ?_, fun u2 e2 _ _ _ _ _ => ?_⟩
            · have q2 := hk2 hkl ls2
              rw [e2] at q2
              have ek2 : kk = k := Sum.inl.inj q2
              subst ek2
              refine ⟨.int (kk : Nat), rfl, rfl, _, rfl, ite2 (fun z => absurd z (by simp)) (fun _ => ?_)⟩
              exact ⟨_, _, _, _, _, _, _, _, _, rfl, es, (SW.same s9).mono (by omega), fr, by omega, ga⟩
            · have q2 := hk2 hkl ls2
              rw [e2] at q2
              cases q2
          · exact ⟨_, _, _, _, _, _, _, _, _, rfl, es, SW.mono (by omega), fr, by omega, ga⟩
      · obtain ⟨hlo, hfull⟩ := readS_text e
        have uasc := readS_asc (fun l hl => (norm_gd gl l hl).asc) e
        have ht : textOf u = Txt.join "\n" ls := by
          unfold textOf
          rw [hlo, norm_join, TL.join_eq]
        have S5 := S4.same s5
        have hp0 := hp
        obtain ⟨ka, sa, ya, sas, was, hp1, _⟩ := hp
        refine isi_tup hp1 rfl ⟨_, rfl, iteT ?_⟩
        have wlen : ∀ l ∈ linesOf u, l.length ≤ 10000 := fun l hl => Nat.le_trans (norm_gd gl l (by rw [← hlo]; exact hl)).1 (by decide)
        have wcnt : (linesOf u).length ≤ 100 := by
          rw [hlo]
          have := norm_len ls
          omega
        refine ⟨.ref rh, rfl, rh, rfl, ⟨_, SqL.of S5.l⟩, fun Dt nDt => lc_genT (walk_list (xs := es.map fun e => V.ref e.1)) (fun _ H' => Same H5 H') (fun _ => False) (by rw [List.length_map]; omega) (same_new nDt) (fun i' H' acc p6 => Same.wr p6 nDt) (fun i' H' p6 => SqL.of (p6 _ _ S5.l)) (fun i' H' x H'' _ y => y.1) (fun i' v H6 acc hi' p6 eD y Q3 N3 q3 r3 => ?_) fun H6 ys p6 eT elT hF => ?_⟩
        · obtain ⟨-, hv⟩ := y
          obtain ⟨ee, rfl, he⟩ := map_at (f := fun e : Addr × Addr × Wd => V.ref e.1) hv
          have hem := List.mem_of_getElem? he
          obtain ⟨g1, g2⟩ := S5.g ee hem
          refine ⟨ee.1, _, rfl, SqT.of (p6 _ _ g1), rfl, _, _, rfl, _, _, rfl, rfl, rfl, .ref ee.2.1, rfl, .ref p, rfl, ee.2.2.d, u.d, dp_wd (g2.same p6), dp_wd (hp0.same p6), (okD_wd (ga ee hem)).shaped (by decide), (okD_wd uasc).shaped (by decide), _, rfl, ite2 (fun eq => ?_) (fun _ => iteF (r3 _ eD p6))⟩
          have eu := wd_eqv eq
          refine ⟨.str (textOf ee.2.2), rfl, .str (Txt.join "\n" ls), rfl, rfl, _, rfl, ite2 (fun z => absurd z (by rw [eu, ht]; simp)) (fun _ => r3 _ eD p6)⟩
        have eys : ys = [] := by
          cases ys with
          | nil => rfl
          | cons y r => exact (hF y (List.mem_cons_self ..)).elim
        subst eys
        refine ⟨.ref p, rfl, p, u, rfl, hp0.same p6, hfull, wlen, wcnt, fun H7 s7 => ⟨.str (Txt.join "\n" ls), rfl, rfl, _, rfl, ite2 (fun z => absurd z (by rw [ht]; simp)) (fun _ => ?_)⟩⟩
        refine ⟨.ref Dt, rfl, szr, fun q1 nq1 => ?_⟩
        have S7 := ((S5.same p6).same s7).same (same_new (o := .lst []) nq1)
        refine ⟨.list [], .list [], .lst (SqL.of (same_new nq1 _ _ (s7 _ _ eT))) .nil, .lst (SqL.of upd_same) .nil, nil_shaped, nil_shaped, _, rfl, ite2 (fun z => absurd z (by rw [nil_eqv]; decide)) (fun _ => ?_)⟩
        refine ⟨.ref rh, rfl, .inl ⟨rfl, _, SqL.of S7.l⟩, .ref p, rfl, .str (Txt.join "\n" ls), rfl, szr, fun tp ntp => ?_⟩
        have t8 := same_new (H := upd H7 q1 (.lst [])) (p := tp) (o := .tup [V.ref p, V.str (Txt.join "\n" ls)]) ntp
        have S8 := S7.same t8
        have hp8 := ((hp0.same p6).same s7).same ((same_new (H := H7) (p := q1) (o := .lst []) nq1).trans t8)
        have etp : (upd (upd H7 q1 (.lst [])) tp (.tup [V.ref p, V.str (Txt.join "\n" ls)])) tp = some (.tup [V.ref p, V.str (Txt.join "\n" ls)]) := upd_same
        generalize upd (upd H7 q1 (.lst [])) tp (.tup [V.ref p, V.str (Txt.join "\n" ls)]) = H8 at S8 hp8 etp ⊢
        have tk : TupK H8 (upd H8 rh (.lst ((es.map fun e => V.ref e.1) ++ [V.ref tp]))) := fun b xs hb => by
          rw [upd_ne (ne_of hb S8.l (by intro z; cases z))]
          exact hb
        refine ⟨rh, _, _, rfl, rfl, S8.l, sz_lt (by rw [List.length_map]; omega), ?_⟩
        refine ⟨_, _, _, _, _, _, _, _, _, rfl, es ++ [(tp, p, u)], ⟨(S8.w.wr fr).mono (by omega), fun pp hpp => ?_, ?_, fun x hx => ?_⟩, fr, by rw [List.length_append]; show es.length + 1 ≤ i + 1; omega, fun x hx => ?_⟩
        · refine TabS.ext2 (S8.t pp hpp) S8.l
        · rw [upd_same, List.map_append]
          rfl
        · rcases List.mem_append.mp hx with hx | hx
          · exact ⟨tk _ _ (S8.g x hx).1, (S8.g x hx).2.tk tk⟩
          · rw [List.mem_singleton.mp hx]
            exact ⟨tk _ _ (by rw [etp, ht]), hp8.tk tk⟩
        · rcases List.mem_append.mp hx with hx | hx
          · exact ga x hx
          · rw [List.mem_singleton.mp hx]
            exact uasc
    · rintro σ H3 ⟨y3, y4, y5, y6, y7, y8, y9, y10, y11, rfl, _⟩
      exact q _
end
end Rt
set_option Elab.async false
set_option linter.all false
set_option maxRecDepth 100000
set_option maxHeartbeats 4000000
/-! The end: what the program's top has left. -/
namespace Rt
open PySem PySem.Spec PyProof.Rows L2 LamX
section
variable {K : PySem.W.Frag} {h : Heap} {mg : Str → Option Value}
def mkDef {name : Str} {st : Stmt} {ps : List Str} (X : K.In h) (G : h.Ns mainGlobals mg) {f : Addr} {oc : Value} {od an : Option Addr} {osl : Array (Option Value)} {kV doc pm cdv ct : Value} (a : PySem.W.nsIn K mainGlobals name = some (some (.ref f)))
    (l : K.lookup f = some ⟨oc, od, .func (PySem.W.fnOf name name (defArgs st) (defBody st) (defScope st) .none kV doc pm an cdv ct), osl⟩) (c : PySem.W.codeIn K cdv name = true) (k : PySem.W.keepIn K (.ref f) = true)
    (b : ∀ (kV doc pm : Value) (an : Option Addr) (cdv ct : Value) (us : List Value), us.length = ps.length → bindArgs (PySem.W.fnOf name name (defArgs st) (defBody st) (defScope st) .none kV doc pm an cdv ct) ⟨us, []⟩ = pure (ps.zip us)) : DefAt K mg name st ps :=
  ⟨f, _, fun_mk l c k, (fun_mk (st := st) l c k).binds b, PySem.W.mg_of X G a⟩
def mkMeth {C : Addr} {name qual : Str} {st : Stmt} {ps : List Str} {f : Addr} {oc : Value} {od an : Option Addr} {osl : Array (Option Value)} {kV doc pm cdv ct : Value} (a : PySem.W.findIn K (.ref C) name = some (some (.ref f))) (i : PySem.W.isFn K (.ref f) = true)
    (l : K.lookup f = some ⟨oc, od, .func (PySem.W.fnOf name qual (defArgs st) (defBody st) (defScope st) .none kV doc pm an cdv ct), osl⟩) (c : PySem.W.codeIn K cdv qual = true) (k : PySem.W.keepIn K (.ref f) = true)
    (b : ∀ (kV doc pm : Value) (an : Option Addr) (cdv ct : Value) (us : List Value), us.length = ps.length → bindArgs (PySem.W.fnOf name qual (defArgs st) (defBody st) (defScope st) .none kV doc pm an cdv ct) ⟨us, []⟩ = pure (ps.zip us)) : MethAt K C name qual st ps :=
  ⟨f, _, fun_mk l c k, (fun_mk (st := st) l c k).binds b, ⟨a, i, k⟩⟩
/-- an error of the class at S is what «except S» names -/
theorem exm_self {S : Addr} (h1 : PySem.W.subIn K (.ref S) (.type "BaseException") = some true) (h2 : PySem.W.isClsIn K S = true) (h3 : PySem.W.typeIn K (.ref S) = some (.type "type")) (h4 : PySem.W.subIn K (.ref S) (.ref S) = some true) :
    PySem.W.exmOne K (.ref S) (.ref S) = some true := by
  have e1 : (PySem.W.subIn K (.ref S) (.type "BaseException") == some true) = true := by rw [h1] <;> rfl
  have e2 : ((PySem.W.clsIn K S).isSome && PySem.W.typeIn K (.ref S) == some (.type "type")) = true := by
    have h2' : (PySem.W.clsIn K S).isSome = true := h2
    rw [h2', h3] <;> rfl
  show (if (PySem.W.subIn K (.ref S) (.type "BaseException") == some true) = true then (if ((PySem.W.clsIn K S).isSome && PySem.W.typeIn K (.ref S) == some (.type "type")) = true then PySem.W.subIn K (.ref S) (.ref S) else none) else none) = some true
  rw [if_pos e1, if_pos e2]
  exact h4
theorem since_of {p : Program} (x : PySem.W.XL p [("SINCE", PySem.W.WData.int 1000000)] mg h) : ∃ t, mg "SINCE" = some (.int 1000000 t) := by
  obtain ⟨v, a, b⟩ := x.2.val ("SINCE", PySem.W.WData.int 1000000) (List.mem_cons_self ..)
  obtain ⟨t, rfl, -⟩ := PySem.W.readsW_int_inv b
  exact ⟨t, a⟩
end
theorem finish {l : PySem.W.OpenLaw} {w : World} {K : PySem.W.Frag} {h : Heap} {mg : Str → Option Value} {fa : Addr} {n : Nat} (P : Addr) (X : K.In h) (G : h.Ns mainGlobals mg) (hfa : mg "law" = some (.ref fa)) (hS : ∃ t, mg "SINCE" = some (.int 1000000 t))
    (d_isNumber : DefAt K mg "is_number" sIsNumber ["thing", "low", "high"])
    (d_isName : DefAt K mg "is_name" sIsName ["thing"])
    (d_isRow : DefAt K mg "is_row" sIsRow ["thing", "least", "most"])
    (d_kindsFault : DefAt K mg "kinds_fault" sKindsFault ["kinds"])
    (d_isKind : DefAt K mg "is_kind" sIsKind ["kinds", "thing"])
    (d_sourceFault : DefAt K mg "source_fault" sSourceFault ["size", "kinds", "source", "path"])
    (d_partFault : DefAt K mg "part_fault" sPartFault ["kinds", "part", "path"])
    (d_areHours : DefAt K mg "are_hours" sAreHours ["size", "thing"])
    (d_wayFault : DefAt K mg "way_fault" sWayFault ["size", "kinds", "way", "path"])
    (d_hoursText : DefAt K mg "hours_text" sHoursText ["hours"])
    (d_wayText : DefAt K mg "way_text" sWayText ["way"])
    (d_worldText : DefAt K mg "world_text" sWorldText ["world"])
    (d_numberIn : DefAt K mg "number_in" sNumberIn ["word"])
    (d_numbersIn : DefAt K mg "numbers_in" sNumbersIn ["words"])
    (d_hoursIn : DefAt K mg "hours_in" sHoursIn ["word"])
    (d_partsIn : DefAt K mg "parts_in" sPartsIn ["words"])
    (d_readWorld : DefAt K mg "read_world" sReadWorld ["text"])
    (d_draws : DefAt K mg "_law_draws" sDraws ["_law_script", "_law_may"])
    (d_next : DefAt K mg "_law_next" sNext ["_law_drawn", "_law_many"])
    (d_names : DefAt K mg "_law_names" sNames ["_law_drawn", "_law_many"])
    (d_words : DefAt K mg "_law_words" sWords ["_law_drawn", "_law_kinds", "_law_size"])
    (d_read : DefAt K mg "_law_read" sRead ["_law_text"])
    (d_law : DefAt K mg "law" sLaw ["_law_script"])
    {fL c : Addr} {ocL : Value} {odL anL : Option Addr} {slL : Array (Option Value)} {kVL dcL pmL ctL : Value} (aL : PySem.W.nsIn K mainGlobals "_law_lines" = some (some (.ref fL)))
    (lL : K.lookup fL = some ⟨ocL, odL, .func (PySem.W.fnOf "_law_lines" "_law_lines" (defArgs sLines) (defBody sLines) (defScope sLines) .none kVL dcL pmL anL (.ref c) ctL), slL⟩) (cL : PySem.W.codeIn K (.ref c) "_law_lines" = true) (kL : PySem.W.keepIn K (.ref fL) = true)
    {C : Addr} (aC : PySem.W.nsIn K mainGlobals "Reader" = some (some (.ref C))) (pg : PySem.W.plainGet K C Str.empty = true) (hd : PySem.W.hasDictIn K C = true) (po : PySem.W.plainOver K C = true) (sa : PySem.W.findIn K (.ref C) "__setattr__" = some (some (.builtin "object.__setattr__"))) (mk : PySem.W.makesIn K C = true) (kc : PySem.W.keepIn K (.ref C) = true)
    (fSize : PySem.W.findIn K (.ref C) "size" = some none) (fKinds : PySem.W.findIn K (.ref C) "kinds" = some none) (fSources : PySem.W.findIn K (.ref C) "sources" = some none) (fWays : PySem.W.findIn K (.ref C) "ways" = some none)
    (m_rInit : MethAt K C "__init__" "Reader.__init__" sRInit ["self"])
    (m_takeRound : MethAt K C "take_round" "Reader.take_round" sTakeRound ["self", "words"])
    (m_takeKinds : MethAt K C "take_kinds" "Reader.take_kinds" sTakeKinds ["self", "words"])
    (m_takeSource : MethAt K C "take_source" "Reader.take_source" sTakeSource ["self", "words"])
    (m_takeWay : MethAt K C "take_way" "Reader.take_way" sTakeWay ["self", "words"])
    (m_take : MethAt K C "take" "Reader.take" sTake ["self", "at", "line"])
    {CN fN : Addr} {nm q : Str} {N : Addr} {bs bm : List Value} {sn : List Str} {sub : List Value} {ab : Bool} {col : Option Bool} {dd : Option Addr} {m0 m1 m2 m3 m5 : Option Value} {ocN : Value} {odN anN : Option Addr} {slN : Array (Option Value)} {kVN dcN pmN cdN ctN : Value}
    (aN : PySem.W.nsIn K mainGlobals "NoText" = some (some (.ref CN))) (xN : K.lookup CN = some (excClassObj nm q CN N bs bm true sn sub ab col dd m0 m1 m2 m3 m5 "ValueError.__new__")) (rN : PySem.HandSPX.refsVE bm = true)
    (saN : PySem.W.findIn K (.ref CN) "__setattr__" = some (some (.builtin "object.__setattr__"))) (gaN : PySem.W.findIn K (.ref CN) "__getattribute__" = some (some (.builtin "BaseException.__getattribute__"))) (ggN : PySem.W.findIn K (.ref CN) "__getattr__" = some none) (nN : PySem.W.findIn K (.ref CN) "line" = some none)
    (iN : PySem.W.findIn K (.ref CN) "__init__" = some (some (.ref fN))) (tN : PySem.W.typeIn K (.ref fN) = some (.type "function")) (lN : K.lookup fN = some ⟨ocN, odN, .func (PySem.W.fnOf "__init__" "NoText.__init__" (defArgs sNTinit) (defBody sNTinit) (defScope sNTinit) .none kVN dcN pmN anN cdN ctN), slN⟩) (cN : PySem.W.codeIn K cdN "NoText.__init__" = true) (kfN : PySem.W.keepIn K (.ref fN) = true)
    (kN : PySem.W.keepIn K (.ref CN) = true) (eN : PySem.W.subIn K (.ref CN) (.type "BaseException") = some true) (tyN : PySem.W.typeIn K (.ref CN) = some (.type "type")) (hdN : PySem.W.hasDictIn K CN = true) (icN : PySem.W.isClsIn K CN = true) (ssN : PySem.W.subIn K (.ref CN) (.ref CN) = some true)
    {t0 t1 t2 t3 t4 t5 t6 t7 t8 t9 t10 t11 t12 : Tok}
    (c_kROUND : PySem.W.nsIn K mainGlobals "ROUND" = some (some (.int 6 t0)))
    (c_kKINDS : PySem.W.nsIn K mainGlobals "KINDS" = some (some (.int 4 t1)))
    (c_kSOURCES : PySem.W.nsIn K mainGlobals "SOURCES" = some (some (.int 6 t2)))
    (c_kOLD : PySem.W.nsIn K mainGlobals "OLD" = some (some (.int 20 t3)))
    (c_kMANY : PySem.W.nsIn K mainGlobals "MANY" = some (some (.int 9 t4)))
    (c_kWAYS : PySem.W.nsIn K mainGlobals "WAYS" = some (some (.int 8 t5)))
    (c_kPARTS : PySem.W.nsIn K mainGlobals "PARTS" = some (some (.int 3 t6)))
    (c_kWAIT : PySem.W.nsIn K mainGlobals "WAIT" = some (some (.int 6 t7)))
    (c_kLETTERS : PySem.W.nsIn K mainGlobals "LETTERS" = some (some (.str "abcdefghijklmnopqrstuvwxyz" t8)))
    (c_kOLDEST : PySem.W.nsIn K mainGlobals "OLDEST" = some (some (.str "oldest" t9)))
    (c_kYOUNGEST : PySem.W.nsIn K mainGlobals "YOUNGEST" = some (some (.str "youngest" t10)))
    (c_kLONGEST : PySem.W.nsIn K mainGlobals "LONGEST" = some (some (.int 7 t11)))
    (c_kNOHOURS : PySem.W.nsIn K mainGlobals "NO_HOURS" = some (some (.str "-" t12)))
    (z_bIsinstance : PySem.W.nsIn K mainGlobals "isinstance" = some none)
    (z_bInt : PySem.W.nsIn K mainGlobals "int" = some none)
    (z_bBool : PySem.W.nsIn K mainGlobals "bool" = some none)
    (z_bStr : PySem.W.nsIn K mainGlobals "str" = some none)
    (z_bTuple : PySem.W.nsIn K mainGlobals "tuple" = some none)
    (z_bList : PySem.W.nsIn K mainGlobals "list" = some none)
    (z_bLen : PySem.W.nsIn K mainGlobals "len" = some none)
    (z_bAll : PySem.W.nsIn K mainGlobals "all" = some none)
    (z_bEnumerate : PySem.W.nsIn K mainGlobals "enumerate" = some none)
    (z_bRange : PySem.W.nsIn K mainGlobals "range" = some none)
    (z_bSorted : PySem.W.nsIn K mainGlobals "sorted" = some none)
    (hcH : PySem.W.codeHdIn K c P = true) (hPn : K.lookup P = none) (hPt : h.get? P = some (PySem.W.tabObj #[])) : LawAtS l w K CX0 8 n "_law_script" mg fa h := by
  have bL : ∀ (kV doc pm : Value) (an : Option Addr) (cdv ct : Value) (us : List Value), us.length = (["_law_drawn"] : List Str).length → bindArgs (PySem.W.fnOf "_law_lines" "_law_lines" (defArgs sLines) (defBody sLines) (defScope sLines) .none kV doc pm an cdv ct) ⟨us, []⟩ = pure ((["_law_drawn"] : List Str).zip us) := fun _ _ _ _ _ _ us hl => match us, hl with | [_], _ => rfl
  have bN : ∀ (kV doc pm : Value) (an : Option Addr) (cdv ct : Value) (us : List Value), us.length = (["self", "line"] : List Str).length → bindArgs (PySem.W.fnOf "__init__" "NoText.__init__" (defArgs sNTinit) (defBody sNTinit) (defScope sNTinit) .none kV doc pm an cdv ct) ⟨us, []⟩ = pure ((["self", "line"] : List Str).zip us) := fun _ _ _ _ _ _ us hl => match us, hl with | [_, _], _ => rfl
  let T : Txt K mg := {
    isNumber := d_isNumber
    isName := d_isName
    isRow := d_isRow
    kindsFault := d_kindsFault
    isKind := d_isKind
    sourceFault := d_sourceFault
    partFault := d_partFault
    areHours := d_areHours
    wayFault := d_wayFault
    hoursText := d_hoursText
    wayText := d_wayText
    worldText := d_worldText
    numberIn := d_numberIn
    numbersIn := d_numbersIn
    hoursIn := d_hoursIn
    partsIn := d_partsIn
    readWorld := d_readWorld
    draws := d_draws
    next := d_next
    names := d_names
    words := d_words
    lines := ⟨fL, _, fun_mk lL cL kL, (fun_mk (st := sLines) lL cL kL).binds bL, PySem.W.mg_of X G aL⟩
    read := d_read
    law := d_law
    C := C
    cl := ⟨pg, hd, po, sa⟩
    nSize := fSize
    nKinds := fKinds
    nSources := fSources
    nWays := fWays
    mgC := PySem.W.mg_of X G aC
    rmk := ⟨mk, m_rInit.m.at_, m_rInit.m.fn, kc⟩
    rInit := m_rInit
    takeRound := m_takeRound
    takeKinds := m_takeKinds
    takeSource := m_takeSource
    takeWay := m_takeWay
    take := m_take
    CN := CN
    fN := fN
    fdN := _
    FN := fun_mk lN cN kfN
    bN := (fun_mk (st := sNTinit) lN cN kfN).binds bN
    oex := ⟨⟨nm, q, N, bs, bm, sn, sub, ab, col, dd, m0, m1, m2, m3, m5, xN, rN⟩, saN, eN, tyN, kN⟩
    iN := iN
    tN := tN
    mgN := PySem.W.mg_of X G aN
    nLine := nN
    xf := ⟨gaN, ggN, eN, hdN⟩
    exm := exm_self eN icN tyN ssN
    kROUND := ⟨t0, PySem.W.mg_of X G c_kROUND⟩
    kKINDS := ⟨t1, PySem.W.mg_of X G c_kKINDS⟩
    kSOURCES := ⟨t2, PySem.W.mg_of X G c_kSOURCES⟩
    kOLD := ⟨t3, PySem.W.mg_of X G c_kOLD⟩
    kMANY := ⟨t4, PySem.W.mg_of X G c_kMANY⟩
    kWAYS := ⟨t5, PySem.W.mg_of X G c_kWAYS⟩
    kPARTS := ⟨t6, PySem.W.mg_of X G c_kPARTS⟩
    kWAIT := ⟨t7, PySem.W.mg_of X G c_kWAIT⟩
    kLETTERS := ⟨t8, PySem.W.mg_of X G c_kLETTERS⟩
    kOLDEST := ⟨t9, PySem.W.mg_of X G c_kOLDEST⟩
    kYOUNGEST := ⟨t10, PySem.W.mg_of X G c_kYOUNGEST⟩
    kLONGEST := ⟨t11, PySem.W.mg_of X G c_kLONGEST⟩
    kNOHOURS := ⟨t12, PySem.W.mg_of X G c_kNOHOURS⟩
    kSINCE := hS
    bIsinstance := PySem.W.mg_none_of X G z_bIsinstance
    bInt := PySem.W.mg_none_of X G z_bInt
    bBool := PySem.W.mg_none_of X G z_bBool
    bStr := PySem.W.mg_none_of X G z_bStr
    bTuple := PySem.W.mg_none_of X G z_bTuple
    bList := PySem.W.mg_none_of X G z_bList
    bLen := PySem.W.mg_none_of X G z_bLen
    bAll := PySem.W.mg_none_of X G z_bAll
    bEnumerate := PySem.W.mg_none_of X G z_bEnumerate
    bRange := PySem.W.mg_none_of X G z_bRange
    bSorted := PySem.W.mg_none_of X G z_bSorted
  }
  have ef : fa = d_law.f := by
    have e := hfa.symm.trans d_law.g
    cases e
    rfl
  subst ef
  refine ⟨d_law.fd, [(c, P)], spLaw K P, fun p hp => ?_, fun p hp => ?_, fun p hp => ?_, fun s u => ?_, fun H a ns _ _ hT hs => ⟨a, ns, rfl, hs, hT (c, P) (List.mem_singleton.mpr rfl), fun _ => rfl⟩, fun base _ _ TB => ok_law T (TB (c, P) (List.mem_singleton.mpr rfl)) rfl⟩
  · rw [List.mem_singleton.mp hp]
    exact hPt
  · rw [List.mem_singleton.mp hp]
    exact hPn
  · rw [List.mem_singleton.mp hp]
    exact PySem.W.codeHd_of_K X hcH
  · obtain ⟨oc, od, kV, doc, pm, an, cdv, ct, osl, hfd, lk, hcd⟩ := d_law.F.ex
    rw [hfd]
    exact .of_eq rfl
/-- the walk's end, where the ground's loose values are asked too -/
theorem walk_X {l : PySem.W.OpenLaw} {n k : Nat} {q : Program} {loose : List Str} {XP : (Str → Option Value) → Heap → Prop} {YP : World → Heap → Prop} {d : DefRec} {K : Params → PySem.W.Frag} {CX : World → CXT} {x : Str}
    (hn : l.most = some n) (hn2 : n ≤ sizeLine) (hdf : d.params.defaults = []) (hr : Room k callerA) (hY : ∀ (w : World) (h : Heap), YP w h → (K w.params).In h)
    (F : ∀ (w : World) (mg : Str → Option Value) (fa : Addr) (h : Heap), YP w h → (K w.params).In h → h.Ns mainGlobals mg → mg d.name = some (.ref fa) → XP mg h → LawAtS l w (K w.params) (CX w) k n x mg fa h)
    (hCX : ∀ (w : World) (H : Hp) (s : Shared) (e : Value) (s' : Shared), CX w [] H s (fun _ _ _ => False) e s' → False) :
    PySem.W.WalkO q loose XP YP l.row.toRowW d [] (fun f vs => PySem.call f vs) := by
  refine Att.attach_callB hn hdf fun w s₀ s₁ mg mb fa o pm cd doc a vs ns G Y ho hd hcd hmg hobj hints hlen hbits hg => ?_
  have KX := hY w _ Y
  obtain ⟨fd, cs, sp, hT, nT, C, hb, hsp, hF⟩ := F w mg fa _ Y KX G.T.g hmg G.X
  exact law_callTs KX G.T.g G.T.b G.T.builtins G.T.nolimit hg hT nT C G.T.bmain hobj hints (Nat.le_trans hlen hn2) hr hF hb (fun H hH hS => hsp H a ns hlen hbits hH hS) fun H e s' => hCX w H s₁ e s'
end Rt
set_option Elab.async false
open PySem PySem.W PyProof.Rows
set_option maxRecDepth 100000 in
set_option maxHeartbeats 0 in
theorem PySem.Challenge.cw_rightage_k73_whole_texts_there_and_back_holds : PySem.Challenge.rw_rightage_k73_whole_texts_there_and_back.Holds := by
  w_on; o_law; k_head; (case hw => w_witness2)
  k_fill
  refine Rt.walk_X (l := PySem.Challenge.rw_rightage_k73_whole_texts_there_and_back) (n := 63) (k := 8) (x := "_law_script") (CX := fun _ => L2.CX0) rfl (by decide) rfl ⟨rfl, by decide, by decide⟩ (fun w h Y => PySem.W.km_in_of Y) ?F (fun _ _ _ _ _ z => z)
  case F =>
    intro w mg fa h Y KX G hmg hX
    refine' Rt.finish 257 KX G hmg (Rt.since_of hX) ?d_isNumber ?d_isName ?d_isRow ?d_kindsFault ?d_isKind ?d_sourceFault ?d_partFault ?d_areHours ?d_wayFault ?d_hoursText ?d_wayText ?d_worldText ?d_numberIn ?d_numbersIn ?d_hoursIn ?d_partsIn ?d_readWorld ?d_draws ?d_next ?d_names ?d_words ?d_read ?d_law ?aL ?lL ?cL ?kL ?aC ?pg ?hd ?po ?sa ?mk ?kc ?fSize ?fKinds ?fSources ?fWays ?m_rInit ?m_takeRound ?m_takeKinds ?m_takeSource ?m_takeWay ?m_take ?aN ?xN ?rN ?saN ?gaN ?ggN ?nN ?iN ?tN ?lN ?cN ?kfN ?kN ?eN ?tyN ?hdN ?icN ?ssN ?c_kROUND ?c_kKINDS ?c_kSOURCES ?c_kOLD ?c_kMANY ?c_kWAYS ?c_kPARTS ?c_kWAIT ?c_kLETTERS ?c_kOLDEST ?c_kYOUNGEST ?c_kLONGEST ?c_kNOHOURS ?z_bIsinstance ?z_bInt ?z_bBool ?z_bStr ?z_bTuple ?z_bList ?z_bLen ?z_bAll ?z_bEnumerate ?z_bRange ?z_bSorted ?hcH ?hPn ?hPt
    (case d_isNumber => refine' Rt.mkDef KX G ?a ?l ?c ?k (fun _ _ _ _ _ _ us hl => match us, hl with | [_, _, _], _ => rfl); (case a => k_is); (case l => k_is); (case c => k_is); (case k => k_is))
    (case d_isName => refine' Rt.mkDef KX G ?a ?l ?c ?k (fun _ _ _ _ _ _ us hl => match us, hl with | [_], _ => rfl); (case a => k_is); (case l => k_is); (case c => k_is); (case k => k_is))
    (case d_isRow => refine' Rt.mkDef KX G ?a ?l ?c ?k (fun _ _ _ _ _ _ us hl => match us, hl with | [_, _, _], _ => rfl); (case a => k_is); (case l => k_is); (case c => k_is); (case k => k_is))
    (case d_kindsFault => refine' Rt.mkDef KX G ?a ?l ?c ?k (fun _ _ _ _ _ _ us hl => match us, hl with | [_], _ => rfl); (case a => k_is); (case l => k_is); (case c => k_is); (case k => k_is))
    (case d_isKind => refine' Rt.mkDef KX G ?a ?l ?c ?k (fun _ _ _ _ _ _ us hl => match us, hl with | [_, _], _ => rfl); (case a => k_is); (case l => k_is); (case c => k_is); (case k => k_is))
    (case d_sourceFault => refine' Rt.mkDef KX G ?a ?l ?c ?k (fun _ _ _ _ _ _ us hl => match us, hl with | [_, _, _, _], _ => rfl); (case a => k_is); (case l => k_is); (case c => k_is); (case k => k_is))
    (case d_partFault => refine' Rt.mkDef KX G ?a ?l ?c ?k (fun _ _ _ _ _ _ us hl => match us, hl with | [_, _, _], _ => rfl); (case a => k_is); (case l => k_is); (case c => k_is); (case k => k_is))
    (case d_areHours => refine' Rt.mkDef KX G ?a ?l ?c ?k (fun _ _ _ _ _ _ us hl => match us, hl with | [_, _], _ => rfl); (case a => k_is); (case l => k_is); (case c => k_is); (case k => k_is))
    (case d_wayFault => refine' Rt.mkDef KX G ?a ?l ?c ?k (fun _ _ _ _ _ _ us hl => match us, hl with | [_, _, _, _], _ => rfl); (case a => k_is); (case l => k_is); (case c => k_is); (case k => k_is))
    (case d_hoursText => refine' Rt.mkDef KX G ?a ?l ?c ?k (fun _ _ _ _ _ _ us hl => match us, hl with | [_], _ => rfl); (case a => k_is); (case l => k_is); (case c => k_is); (case k => k_is))
    (case d_wayText => refine' Rt.mkDef KX G ?a ?l ?c ?k (fun _ _ _ _ _ _ us hl => match us, hl with | [_], _ => rfl); (case a => k_is); (case l => k_is); (case c => k_is); (case k => k_is))
    (case d_worldText => refine' Rt.mkDef KX G ?a ?l ?c ?k (fun _ _ _ _ _ _ us hl => match us, hl with | [_], _ => rfl); (case a => k_is); (case l => k_is); (case c => k_is); (case k => k_is))
    (case d_numberIn => refine' Rt.mkDef KX G ?a ?l ?c ?k (fun _ _ _ _ _ _ us hl => match us, hl with | [_], _ => rfl); (case a => k_is); (case l => k_is); (case c => k_is); (case k => k_is))
    (case d_numbersIn => refine' Rt.mkDef KX G ?a ?l ?c ?k (fun _ _ _ _ _ _ us hl => match us, hl with | [_], _ => rfl); (case a => k_is); (case l => k_is); (case c => k_is); (case k => k_is))
    (case d_hoursIn => refine' Rt.mkDef KX G ?a ?l ?c ?k (fun _ _ _ _ _ _ us hl => match us, hl with | [_], _ => rfl); (case a => k_is); (case l => k_is); (case c => k_is); (case k => k_is))
    (case d_partsIn => refine' Rt.mkDef KX G ?a ?l ?c ?k (fun _ _ _ _ _ _ us hl => match us, hl with | [_], _ => rfl); (case a => k_is); (case l => k_is); (case c => k_is); (case k => k_is))
    (case d_readWorld => refine' Rt.mkDef KX G ?a ?l ?c ?k (fun _ _ _ _ _ _ us hl => match us, hl with | [_], _ => rfl); (case a => k_is); (case l => k_is); (case c => k_is); (case k => k_is))
    (case d_draws => refine' Rt.mkDef KX G ?a ?l ?c ?k (fun _ _ _ _ _ _ us hl => match us, hl with | [_, _], _ => rfl); (case a => k_is); (case l => k_is); (case c => k_is); (case k => k_is))
    (case d_next => refine' Rt.mkDef KX G ?a ?l ?c ?k (fun _ _ _ _ _ _ us hl => match us, hl with | [_, _], _ => rfl); (case a => k_is); (case l => k_is); (case c => k_is); (case k => k_is))
    (case d_names => refine' Rt.mkDef KX G ?a ?l ?c ?k (fun _ _ _ _ _ _ us hl => match us, hl with | [_, _], _ => rfl); (case a => k_is); (case l => k_is); (case c => k_is); (case k => k_is))
    (case d_words => refine' Rt.mkDef KX G ?a ?l ?c ?k (fun _ _ _ _ _ _ us hl => match us, hl with | [_, _, _], _ => rfl); (case a => k_is); (case l => k_is); (case c => k_is); (case k => k_is))
    (case d_read => refine' Rt.mkDef KX G ?a ?l ?c ?k (fun _ _ _ _ _ _ us hl => match us, hl with | [_], _ => rfl); (case a => k_is); (case l => k_is); (case c => k_is); (case k => k_is))
    (case d_law => refine' Rt.mkDef KX G ?a ?l ?c ?k (fun _ _ _ _ _ _ us hl => match us, hl with | [_], _ => rfl); (case a => k_is); (case l => k_is); (case c => k_is); (case k => k_is))
    (case aL => k_is)
    (case lL => k_is)
    (case cL => k_is)
    (case kL => k_is)
    (case aC => k_is)
    (case pg => k_is)
    (case hd => k_is)
    (case po => k_is)
    (case sa => k_is)
    (case mk => k_is)
    (case kc => k_is)
    (case fSize => k_is)
    (case fKinds => k_is)
    (case fSources => k_is)
    (case fWays => k_is)
    (case m_rInit => refine' Rt.mkMeth ?a ?i ?l ?c ?k (fun _ _ _ _ _ _ us hl => match us, hl with | [_], _ => rfl); (case a => k_is); (case i => k_is); (case l => k_is); (case c => k_is); (case k => k_is))
    (case m_takeRound => refine' Rt.mkMeth ?a ?i ?l ?c ?k (fun _ _ _ _ _ _ us hl => match us, hl with | [_, _], _ => rfl); (case a => k_is); (case i => k_is); (case l => k_is); (case c => k_is); (case k => k_is))
    (case m_takeKinds => refine' Rt.mkMeth ?a ?i ?l ?c ?k (fun _ _ _ _ _ _ us hl => match us, hl with | [_, _], _ => rfl); (case a => k_is); (case i => k_is); (case l => k_is); (case c => k_is); (case k => k_is))
    (case m_takeSource => refine' Rt.mkMeth ?a ?i ?l ?c ?k (fun _ _ _ _ _ _ us hl => match us, hl with | [_, _], _ => rfl); (case a => k_is); (case i => k_is); (case l => k_is); (case c => k_is); (case k => k_is))
    (case m_takeWay => refine' Rt.mkMeth ?a ?i ?l ?c ?k (fun _ _ _ _ _ _ us hl => match us, hl with | [_, _], _ => rfl); (case a => k_is); (case i => k_is); (case l => k_is); (case c => k_is); (case k => k_is))
    (case m_take => refine' Rt.mkMeth ?a ?i ?l ?c ?k (fun _ _ _ _ _ _ us hl => match us, hl with | [_, _, _], _ => rfl); (case a => k_is); (case i => k_is); (case l => k_is); (case c => k_is); (case k => k_is))
    (case aN => k_is)
    (case xN => k_is)
    (case rN => decide +kernel)
    (case saN => k_is)
    (case gaN => k_is)
    (case ggN => k_is)
    (case nN => k_is)
    (case iN => k_is)
    (case tN => k_is)
    (case lN => k_is)
    (case cN => k_is)
    (case kfN => k_is)
    (case kN => k_is)
    (case eN => k_is)
    (case tyN => k_is)
    (case hdN => k_is)
    (case icN => k_is)
    (case ssN => first | rfl | k_is)
    (case c_kROUND => k_is)
    (case c_kKINDS => k_is)
    (case c_kSOURCES => k_is)
    (case c_kOLD => k_is)
    (case c_kMANY => k_is)
    (case c_kWAYS => k_is)
    (case c_kPARTS => k_is)
    (case c_kWAIT => k_is)
    (case c_kLETTERS => k_is)
    (case c_kOLDEST => k_is)
    (case c_kYOUNGEST => k_is)
    (case c_kLONGEST => k_is)
    (case c_kNOHOURS => k_is)
    (case z_bIsinstance => k_is)
    (case z_bInt => k_is)
    (case z_bBool => k_is)
    (case z_bStr => k_is)
    (case z_bTuple => k_is)
    (case z_bList => k_is)
    (case z_bLen => k_is)
    (case z_bAll => k_is)
    (case z_bEnumerate => k_is)
    (case z_bRange => k_is)
    (case z_bSorted => k_is)
    (case hcH => kernel_rfl)
    (case hPn => kernel_rfl)
    (case hPt => exact PySem.W.km_tabs_of Y 257 (by simp))
#print axioms PySem.Challenge.cw_rightage_k73_whole_texts_there_and_back_holds
