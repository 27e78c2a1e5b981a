import PyProof.Rows.All
import Wide.All
import OpenK.AllK
import Wide.FinOn
import KE.KStateDown
import HandS.ForMost
import HandS.Defaults
import HandS.Head0
import HandS.Head1
import HandS.Head2
import HandS.HeadHook1
import HandS.HeadHook2
import KE.KDictKeyed
import KE.KDictWalk
import KE.KDictCopyH
import KE.KDictDisplayH
import KE.SortData
import KE.SortKeyHeap
import KE.KDictSum
import HandS.TupSets
import HandS.TupAny
import HandS.TupMul
import HandS.Deep
import HandS.DictComp
import KE.GoesEnum
import HandS.SortKw
import HandS.Strs
import KE.KMinBuiltin
import HandS.Conv
import HandS.Wide
import HandS.IsInst
import HandS.HeadEnd
import PySem.Challenge.RW_norowstray_k94_whole_exact_tables
set_option Elab.async false
set_option linter.all false
set_option maxRecDepth 100000
set_option maxHeartbeats 0
namespace Nr
open PySem L2
/-! the text by places -/
def topS (i : Nat) : Stmt := PySem.Challenge.pw_norowstray_k94_whole_exact_tables.main.body.getD i (.Pass ⟨0, 0, 0, 0⟩)
abbrev sPicked : Stmt := topS 2
abbrev sAgree : Stmt := topS 4
abbrev sPartsOf : Stmt := topS 6
abbrev sMissingRows : Stmt := topS 7
abbrev sChased : Stmt := topS 9
abbrev sChase : Stmt := topS 10
abbrev sToldValue : Stmt := topS 12
abbrev sFirstRow : Stmt := topS 13
abbrev sPartRow : Stmt := topS 14
abbrev sStart : Stmt := topS 15
abbrev sIsMet : Stmt := topS 16
abbrev sChasedStart : Stmt := topS 17
abbrev sFollows : Stmt := topS 18
abbrev sSetOrder : Stmt := topS 20
abbrev sSetsOfColumns : Stmt := topS 21
abbrev sKnownValues : Stmt := topS 23
abbrev sWishes : Stmt := topS 25
abbrev sBeside : Stmt := topS 26
abbrev sExactTable : Stmt := topS 27
abbrev sLawDraws : Stmt := topS 29
abbrev sLawTake : Stmt := topS 30
abbrev sLawSome : Stmt := topS 31
abbrev sLawBook : Stmt := topS 32
abbrev sLawIsInteger : Stmt := topS 33
abbrev sLawKnownRows : Stmt := topS 34
abbrev sLawSets : Stmt := topS 35
abbrev sLawPick : Stmt := topS 36
abbrev sLawGroups : Stmt := topS 37
abbrev sLawKeepsOne : Stmt := topS 38
abbrev sLawParts : Stmt := topS 39
abbrev sLawJoined : Stmt := topS 40
abbrev sLawMissing : Stmt := topS 41
abbrev sLawUnlike : Stmt := topS 42
abbrev sLawChase : Stmt := topS 43
abbrev sLawNow : Stmt := topS 44
abbrev sLawStart : Stmt := topS 45
abbrev sLawFollows : Stmt := topS 46
abbrev sLaw : Stmt := topS 48
abbrev sCInit : Stmt := inClass (topS 8) 0
abbrev sCStore : Stmt := inClass (topS 8) 1
abbrev sCNow : Stmt := inClass (topS 8) 2
abbrev sCReplace : Stmt := inClass (topS 8) 3
abbrev sCMakeEqual : Stmt := inClass (topS 8) 5
abbrev sCPutIn : Stmt := inClass (topS 8) 6
abbrev sCUnequal : Stmt := inClass (topS 8) 8
abbrev sCSettle : Stmt := inClass (topS 8) 9
abbrev sCFill : Stmt := inClass (topS 8) 10
abbrev sCWork : Stmt := inClass (topS 8) 12
abbrev sCRun : Stmt := inClass (topS 8) 13
abbrev sCIsThere : Stmt := inClass (topS 8) 14
end Nr
namespace Nr
open PySem PySem.Spec PyProof.Rows L2
def namesA : List PySem.Str := ["_wall", "picked", "agree", "parts_of", "missing_rows", "Chase", "chased", "chase", "told_value", "first_row", "part_row", "start", "is_met", "chased_start", "follows", "set_order", "sets_of_columns", "known_values", "wishes", "beside"]
def namesB : List PySem.Str := ["exact_table", "_law_draws", "_law_take", "_law_some", "_law_book", "_law_is_integer", "_law_known_rows", "_law_sets", "_law_pick", "_law_groups", "_law_keeps_one", "_law_parts", "_law_joined", "_law_missing", "_law_unlike", "_law_chase", "_law_now", "_law_start", "_law_follows", "_law_is_small"]
def namesAll : List PySem.Str := namesA ++ namesB
def dPicked : He.DefD := ⟨("picked", none), "picked", "picked", defArgs sPicked, defBody sPicked, defScope sPicked, [], []⟩
def dAgree : He.DefD := ⟨("agree", none), "agree", "agree", defArgs sAgree, defBody sAgree, defScope sAgree, [], []⟩
def dPartsOf : He.DefD := ⟨("parts_of", none), "parts_of", "parts_of", defArgs sPartsOf, defBody sPartsOf, defScope sPartsOf, [], []⟩
def dMissingRows : He.DefD := ⟨("missing_rows", none), "missing_rows", "missing_rows", defArgs sMissingRows, defBody sMissingRows, defScope sMissingRows, [], []⟩
def dChased : He.DefD := ⟨("chased", none), "chased", "chased", defArgs sChased, defBody sChased, defScope sChased, [], []⟩
def dChase : He.DefD := ⟨("chase", none), "chase", "chase", defArgs sChase, defBody sChase, defScope sChase, [], []⟩
def dToldValue : He.DefD := ⟨("told_value", none), "told_value", "told_value", defArgs sToldValue, defBody sToldValue, defScope sToldValue, [], []⟩
def dFirstRow : He.DefD := ⟨("first_row", none), "first_row", "first_row", defArgs sFirstRow, defBody sFirstRow, defScope sFirstRow, [], []⟩
def dPartRow : He.DefD := ⟨("part_row", none), "part_row", "part_row", defArgs sPartRow, defBody sPartRow, defScope sPartRow, [], []⟩
def dStart : He.DefD := ⟨("start", none), "start", "start", defArgs sStart, defBody sStart, defScope sStart, [], []⟩
def dIsMet : He.DefD := ⟨("is_met", none), "is_met", "is_met", defArgs sIsMet, defBody sIsMet, defScope sIsMet, [], []⟩
def dChasedStart : He.DefD := ⟨("chased_start", none), "chased_start", "chased_start", defArgs sChasedStart, defBody sChasedStart, defScope sChasedStart, [], []⟩
def dFollows : He.DefD := ⟨("follows", none), "follows", "follows", defArgs sFollows, defBody sFollows, defScope sFollows, [], []⟩
def dSetOrder : He.DefD := ⟨("set_order", none), "set_order", "set_order", defArgs sSetOrder, defBody sSetOrder, defScope sSetOrder, [], []⟩
def dSetsOfColumns : He.DefD := ⟨("sets_of_columns", none), "sets_of_columns", "sets_of_columns", defArgs sSetsOfColumns, defBody sSetsOfColumns, defScope sSetsOfColumns, [], []⟩
def dKnownValues : He.DefD := ⟨("known_values", none), "known_values", "known_values", defArgs sKnownValues, defBody sKnownValues, defScope sKnownValues, [], []⟩
def dWishes : He.DefD := ⟨("wishes", none), "wishes", "wishes", defArgs sWishes, defBody sWishes, defScope sWishes, [], []⟩
def dBeside : He.DefD := ⟨("beside", none), "beside", "beside", defArgs sBeside, defBody sBeside, defScope sBeside, [], []⟩
def dExactTable : He.DefD := ⟨("exact_table", none), "exact_table", "exact_table", defArgs sExactTable, defBody sExactTable, defScope sExactTable, [], []⟩
def dLawDraws : He.DefD := ⟨("_law_draws", none), "_law_draws", "_law_draws", defArgs sLawDraws, defBody sLawDraws, defScope sLawDraws, [], []⟩
def dLawTake : He.DefD := ⟨("_law_take", none), "_law_take", "_law_take", defArgs sLawTake, defBody sLawTake, defScope sLawTake, [], []⟩
def dLawSome : He.DefD := ⟨("_law_some", none), "_law_some", "_law_some", defArgs sLawSome, defBody sLawSome, defScope sLawSome, [], []⟩
def dLawBook : He.DefD := ⟨("_law_book", none), "_law_book", "_law_book", defArgs sLawBook, defBody sLawBook, defScope sLawBook, [], []⟩
def dLawIsInteger : He.DefD := ⟨("_law_is_integer", none), "_law_is_integer", "_law_is_integer", defArgs sLawIsInteger, defBody sLawIsInteger, defScope sLawIsInteger, [], []⟩
def dLawKnownRows : He.DefD := ⟨("_law_known_rows", none), "_law_known_rows", "_law_known_rows", defArgs sLawKnownRows, defBody sLawKnownRows, defScope sLawKnownRows, [], []⟩
def dLawSets : He.DefD := ⟨("_law_sets", none), "_law_sets", "_law_sets", defArgs sLawSets, defBody sLawSets, defScope sLawSets, [], []⟩
def dLawPick : He.DefD := ⟨("_law_pick", none), "_law_pick", "_law_pick", defArgs sLawPick, defBody sLawPick, defScope sLawPick, [], []⟩
def dLawGroups : He.DefD := ⟨("_law_groups", none), "_law_groups", "_law_groups", defArgs sLawGroups, defBody sLawGroups, defScope sLawGroups, [], []⟩
def dLawKeepsOne : He.DefD := ⟨("_law_keeps_one", none), "_law_keeps_one", "_law_keeps_one", defArgs sLawKeepsOne, defBody sLawKeepsOne, defScope sLawKeepsOne, [], []⟩
def dLawParts : He.DefD := ⟨("_law_parts", none), "_law_parts", "_law_parts", defArgs sLawParts, defBody sLawParts, defScope sLawParts, [], []⟩
def dLawJoined : He.DefD := ⟨("_law_joined", none), "_law_joined", "_law_joined", defArgs sLawJoined, defBody sLawJoined, defScope sLawJoined, [], []⟩
def dLawMissing : He.DefD := ⟨("_law_missing", none), "_law_missing", "_law_missing", defArgs sLawMissing, defBody sLawMissing, defScope sLawMissing, [], []⟩
def dLawUnlike : He.DefD := ⟨("_law_unlike", none), "_law_unlike", "_law_unlike", defArgs sLawUnlike, defBody sLawUnlike, defScope sLawUnlike, [], []⟩
def dLawChase : He.DefD := ⟨("_law_chase", none), "_law_chase", "_law_chase", defArgs sLawChase, defBody sLawChase, defScope sLawChase, [], []⟩
def dLawNow : He.DefD := ⟨("_law_now", none), "_law_now", "_law_now", defArgs sLawNow, defBody sLawNow, defScope sLawNow, [], []⟩
def dLawStart : He.DefD := ⟨("_law_start", none), "_law_start", "_law_start", defArgs sLawStart, defBody sLawStart, defScope sLawStart, [], []⟩
def dLawFollows : He.DefD := ⟨("_law_follows", none), "_law_follows", "_law_follows", defArgs sLawFollows, defBody sLawFollows, defScope sLawFollows, [], []⟩
def dLaw : He.DefD := ⟨("law", none), "law", "law", defArgs sLaw, defBody sLaw, defScope sLaw, [], []⟩
def dCInit : He.DefD := ⟨("Chase", some "__init__"), "__init__", "Chase.__init__", defArgs sCInit, defBody sCInit, defScope sCInit, [], []⟩
def dCStore : He.DefD := ⟨("Chase", some "store"), "store", "Chase.store", defArgs sCStore, defBody sCStore, defScope sCStore, [], []⟩
def dCNow : He.DefD := ⟨("Chase", some "now"), "now", "Chase.now", defArgs sCNow, defBody sCNow, defScope sCNow, [], []⟩
def dCReplace : He.DefD := ⟨("Chase", some "replace"), "replace", "Chase.replace", defArgs sCReplace, defBody sCReplace, defScope sCReplace, [], []⟩
def dCMakeEqual : He.DefD := ⟨("Chase", some "make_equal"), "make_equal", "Chase.make_equal", defArgs sCMakeEqual, defBody sCMakeEqual, defScope sCMakeEqual, [], []⟩
def dCPutIn : He.DefD := ⟨("Chase", some "put_in"), "put_in", "Chase.put_in", defArgs sCPutIn, defBody sCPutIn, defScope sCPutIn, [], []⟩
def dCUnequal : He.DefD := ⟨("Chase", some "unequal"), "unequal", "Chase.unequal", defArgs sCUnequal, defBody sCUnequal, defScope sCUnequal, [], []⟩
def dCSettle : He.DefD := ⟨("Chase", some "settle"), "settle", "Chase.settle", defArgs sCSettle, defBody sCSettle, defScope sCSettle, [], []⟩
def dCFill : He.DefD := ⟨("Chase", some "fill"), "fill", "Chase.fill", defArgs sCFill, defBody sCFill, defScope sCFill, [], []⟩
def dCWork : He.DefD := ⟨("Chase", some "work"), "work", "Chase.work", defArgs sCWork, defBody sCWork, defScope sCWork, [], []⟩
def dCRun : He.DefD := ⟨("Chase", some "run"), "run", "Chase.run", defArgs sCRun, defBody sCRun, defScope sCRun, [], []⟩
def dCIsThere : He.DefD := ⟨("Chase", some "is_there"), "is_there", "Chase.is_there", defArgs sCIsThere, defBody sCIsThere, defScope sCIsThere, [], []⟩
def fnAll : List He.DefD := [dPicked, dAgree, dPartsOf, dMissingRows, dChased, dChase, dToldValue, dFirstRow, dPartRow, dStart, dIsMet, dChasedStart, dFollows, dSetOrder, dSetsOfColumns, dKnownValues, dWishes, dBeside, dExactTable, dLawDraws, dLawTake, dLawSome, dLawBook, dLawIsInteger, dLawKnownRows, dLawSets, dLawPick, dLawGroups, dLawKeepsOne, dLawParts, dLawJoined, dLawMissing, dLawUnlike, dLawChase, dLawNow, dLawStart, dLawFollows, dLaw, dCInit, dCStore, dCNow, dCReplace, dCMakeEqual, dCPutIn, dCUnequal, dCSettle, dCFill, dCWork, dCRun, dCIsThere]
def faAll : List He.Fa := [.glo "picked", .glo "agree", .glo "parts_of", .glo "missing_rows", .glo "Chase", .glo "chased", .glo "chase", .glo "told_value", .glo "first_row", .glo "part_row", .glo "start", .glo "is_met", .glo "chased_start", .glo "follows", .glo "set_order", .glo "sets_of_columns", .glo "known_values", .glo "wishes", .glo "beside", .glo "exact_table", .glo "_law_draws", .glo "_law_take", .glo "_law_some", .glo "_law_book", .glo "_law_is_integer", .glo "_law_known_rows", .glo "_law_sets", .glo "_law_pick", .glo "_law_groups", .glo "_law_keeps_one", .glo "_law_parts", .glo "_law_joined", .glo "_law_missing", .glo "_law_unlike", .glo "_law_chase", .glo "_law_now", .glo "_law_start", .glo "_law_follows", .glo "law", .free "all", .free "any", .free "bool", .free "dict", .free "enumerate", .free "int", .free "isinstance", .free "len", .free "list", .free "max", .free "range", .free "set", .free "sorted", .free "tuple", .free "zip", .cls "Chase", .mkr "Chase", .noat "Chase" "scheme", .noat "Chase" "book", .noat "Chase" "tables", .noat "Chase" "seen", .noat "Chase" "became", .noat "Chase" "steps", .noat "Chase" "clashed", .meth "Chase" "store", .meth "Chase" "now", .meth "Chase" "replace", .meth "Chase" "make_equal", .meth "Chase" "put_in", .meth "Chase" "unequal", .meth "Chase" "settle", .meth "Chase" "fill", .meth "Chase" "work", .meth "Chase" "run", .meth "Chase" "is_there"]

abbrev R : PySem.W.OpenRow := PySem.W.OpenLaw.row PySem.Challenge.rw_norowstray_k94_whole_exact_tables
abbrev hkAll : PySem.W.Hook := He.hookD 5 faAll fnAll
def obAll (s : PySem.W.SharedT) : He.AlD := He.obsDG 5 faAll fnAll (HandSHeadRun.getT s)
theorem obAll_eq (s : PySem.W.SharedT) : obAll s = hkAll.obs s.abs := He.obsDG_eq (HandSHeadRun.getT_eq s)
theorem runAll (w : World) : HandSHeadRun.RunEq R (PySem.W.view R.prog [48]) hkAll obAll 4000 namesAll w := by
  intro os
  kernel_rfl
end Nr
/-! A calculus of weakest preconditions over the hand layer's judgements, values as data. -/
namespace Nr
open PySem PySem.Spec L2
open PyProof.Rows hiding St

/-! ### data -/
inductive D where
  | non | bl (b : Bool) | int (i : Int) | str (s : Str) | tup (l : List D)

mutual
def Rep (H : Hp) : D → V → Prop
  | .non, v => v = .non
  | .bl b, v => v = .bl b
  | .int i, v => v = .int i
  | .str s, v => v = .str s
  | .tup ds, v => ∃ a vs, v = .ref a ∧ H a = some (.tup vs) ∧ RepL H ds vs
def RepL (H : Hp) : List D → List V → Prop
  | [], vs => vs = []
  | d :: ds, vs => ∃ v r, vs = v :: r ∧ Rep H d v ∧ RepL H ds r
end

/-- tuples stay -/
def Tm (H H' : Hp) : Prop := ∀ a xs, H a = some (.tup xs) → H' a = some (.tup xs)
theorem Tm.refl (H : Hp) : Tm H H := fun _ _ h => h
theorem Tm.trans {H H1 H2 : Hp} (a : Tm H H1) (b : Tm H1 H2) : Tm H H2 := fun x xs h => b x xs (a x xs h)
theorem Same.tm {H H' : Hp} (s : Same H H') : Tm H H' := fun a xs h => s a _ h

mutual
theorem Rep.tm {H H' : Hp} (m : Tm H H') : ∀ {d : D} {v : V}, Rep H d v → Rep H' d v
  | .non, _, h => h
  | .bl _, _, h => h
  | .int _, _, h => h
  | .str _, _, h => h
  | .tup ds, v, h => by
    obtain ⟨a, vs, e, e1, r⟩ := h
    exact ⟨a, vs, e, m a vs e1, RepL.tm m r⟩
theorem RepL.tm {H H' : Hp} (m : Tm H H') : ∀ {ds : List D} {vs : List V}, RepL H ds vs → RepL H' ds vs
  | [], _, h => h
  | d :: ds, vs, h => by
    obtain ⟨v, r, e, e1, e2⟩ := h
    exact ⟨v, r, e, Rep.tm m e1, RepL.tm m e2⟩
end
theorem Rep.mono {H H' : Hp} {d : D} {v : V} (h : Rep H d v) (s : Same H H') : Rep H' d v := h.tm (Same.tm s)
theorem RepL.mono {H H' : Hp} {d : List D} {v : List V} (h : RepL H d v) (s : Same H H') : RepL H' d v := h.tm (Same.tm s)
theorem RepL.length {H : Hp} : ∀ {ds : List D} {vs : List V}, RepL H ds vs → vs.length = ds.length
  | [], _, h => by rw [show _ = [] from h] <;> rfl
  | d :: ds, vs, h => by
    obtain ⟨v, r, e, _, e2⟩ := h
    rw [e, List.length_cons, List.length_cons, RepL.length e2]
theorem RepL.get {H : Hp} : ∀ {ds : List D} {vs : List V} {i : Nat} {d : D}, RepL H ds vs → ds[i]? = some d → ∃ v, vs[i]? = some v ∧ Rep H d v
  | [], _, i, d, _, q => by simp at q
  | d :: ds, vs, 0, d', h, q => by
    obtain ⟨v, r, e, e1, _⟩ := h
    simp only [List.getElem?_cons_zero, Option.some.injEq] at q
    exact ⟨v, by rw [e] <;> rfl, q ▸ e1⟩
  | d :: ds, vs, i + 1, d', h, q => by
    obtain ⟨v, r, e, _, e2⟩ := h
    obtain ⟨u, h1, h2⟩ := RepL.get (i := i) e2 (by simpa using q)
    exact ⟨u, by rw [e]; simpa using h1, h2⟩
theorem RepL.append {H : Hp} : ∀ {ds es : List D} {vs us : List V}, RepL H ds vs → RepL H es us → RepL H (ds ++ es) (vs ++ us)
  | [], es, vs, us, h, q => by
    rw [show vs = [] from h]
    exact q
  | d :: ds, es, vs, us, h, q => by
    obtain ⟨v, r, e, e1, e2⟩ := h
    exact ⟨v, r ++ us, by rw [e] <;> rfl, e1, RepL.append e2 q⟩
theorem RepL.nil {H : Hp} : RepL H [] [] := rfl
theorem RepL.cons {H : Hp} {d : D} {ds : List D} {v : V} {vs : List V} (a : Rep H d v) (b : RepL H ds vs) : RepL H (d :: ds) (v :: vs) := ⟨v, vs, rfl, a, b⟩
theorem RepL.one {H : Hp} {d : D} {v : V} (a : Rep H d v) : RepL H [d] [v] := .cons a .nil
theorem repL_ints {H : Hp} : ∀ {ns : List Int} {vs : List V}, RepL H (ns.map D.int) vs ↔ vs = ns.map V.int
  | [], vs => Iff.rfl
  | n :: ns, vs => by
    constructor
    · rintro ⟨v, r, e, e1, e2⟩
      rw [e, show v = V.int n from e1, repL_ints.mp e2] <;> rfl
    · intro e
      exact ⟨_, _, e, rfl, repL_ints.mpr rfl⟩
/-- a tuple of ints -/
abbrev D.ints (ns : List Int) : D := .tup (ns.map D.int)
theorem rep_ints {H : Hp} {ns : List Int} {v : V} : Rep H (.ints ns) v ↔ ∃ a, v = .ref a ∧ H a = some (.tup (ns.map V.int)) := by
  constructor
  · rintro ⟨a, vs, e, e1, r⟩
    rw [repL_ints.mp r] at e1
    exact ⟨a, e, e1⟩
  · rintro ⟨a, e, e1⟩
    exact ⟨a, _, e, e1, repL_ints.mpr rfl⟩

/-! ### heaps -/
theorem same_new {H : Hp} {p : Addr} {o : HO} (h : H p = none) : Same H (upd H p o) := fun a u e => by
  rw [upd_ne (ne_of_none e h)]
  exact e
/-- an object that the first heap does not know may change -/
theorem same_mut {H H' : Hp} {p : Addr} {o : HO} (s : Same H H') (h : H p = none) : Same H (upd H' p o) := fun a u e => by
  rw [upd_ne (ne_of_none e h)]
  exact s a u e

/-! ### weakest preconditions of the judgements -/
section
variable (X : Cx)
def WE (e : Expr) : TE := fun σ H Q => ∀ (pins : List (Addr × Obj)) (s : Shared), Inv X pins σ H s → wpAny (model X.prog X.w) X.A (eval e X.env) (EP X pins σ Q) X.xe s
def WT (e : Expr) : TT := fun σ H Q => ∀ (pins : List (Addr × Obj)) (s : Shared), Inv X pins σ H s → wpAny (model X.prog X.w) X.A (isTrue e X.env (eval e X.env)) (TP X pins σ Q) X.xe s
def WA (es : List Expr) : TA := fun σ H Q => ∀ (pos : Pos) (pins : List (Addr × Obj)) (s : Shared), Inv X pins σ H s → wpAny (model X.prog X.w) X.A (spliced (backTo pos (starEach es X.env))) (AP X pins σ Q) X.xe s
def WS (st : Stmt) : TS := fun D σ H => ∀ (pins : List (Addr × Obj)) (s : Shared), Inv X pins σ H s → wpAny (model X.prog X.w) X.A (exec st X.env) (SP X pins D) X.xe s
def WSs (st : List Stmt) : TS := fun D σ H => ∀ (pins : List (Addr × Obj)) (s : Shared), Inv X pins σ H s → wpAny (model X.prog X.w) X.A (execs st X.env) (SP X pins D) X.xe s
def WI (tg iter : Expr) : TI := fun σ H R => ∀ (pins : List (Addr × Obj)) (s : Shared), Inv X pins σ H s →
    wpAny (model X.prog X.w) X.A (eval iter X.env) (fun v s1 => wpAny (model X.prog X.w) X.A (pyIter v) (PIE X pins σ tg R) X.xe s1) X.xe s
end
section
variable {X : Cx} {e a b : Expr} {es : List Expr} {st : Stmt} {sts : List Stmt} {σ : St} {H : Hp} {tg iter : Expr}
theorem pe_w : PE X e (WE X e) := ⟨fun pins s σ H Q I h => h pins s I⟩
theorem pt_w : PT X e (WT X e) := ⟨fun pins s σ H Q I h => h pins s I⟩
theorem pa_w : PA X es (WA X es) := ⟨fun pos pins s σ H Q I h => h pos pins s I⟩
theorem ps_w : PS X st (WS X st) := ⟨fun pins s σ H D I h => h pins s I⟩
theorem pss_w : PSs X sts (WSs X sts) := ⟨fun pins s σ H D I h => h pins s I⟩
theorem pi_w : PI X tg iter (WI X tg iter) := ⟨fun pins s σ H R I h => h pins s I⟩
theorem we {t : TE} {Q : VK} (h : PE X e t) (q : t σ H Q) : WE X e σ H Q := fun pins s I => h.run pins s σ H Q I q
theorem wt {t : TT} {Q : Bool → Hp → Prop} (h : PT X e t) (q : t σ H Q) : WT X e σ H Q := fun pins s I => h.run pins s σ H Q I q
theorem wa {t : TA} {Q : List V → Hp → Prop} (h : PA X es t) (q : t σ H Q) : WA X es σ H Q := fun pos pins s I => h.run pos pins s σ H Q I q
theorem ws {t : TS} {D : Ends} (h : PS X st t) (q : t D σ H) : WS X st D σ H := fun pins s I => h.run pins s σ H D I q
theorem wss {t : TS} {D : Ends} (h : PSs X sts t) (q : t D σ H) : WSs X sts D σ H := fun pins s I => h.run pins s σ H D I q
theorem wi {t : TI} {R : It → Hp → Prop} (h : PI X tg iter t) (q : t σ H R) : WI X tg iter σ H R := fun pins s I => h.run pins s σ H R I q
theorem WE.mono {Q Q' : VK} (h : WE X e σ H Q) (k : ∀ v H', Q v H' → Q' v H') : WE X e σ H Q' := fun pins s I =>
  thn (h pins s I) fun u s' ⟨v, H', I', r, q⟩ => ⟨v, H', I', r, k v H' q⟩
theorem WT.mono {Q Q' : Bool → Hp → Prop} (h : WT X e σ H Q) (k : ∀ v H', Q v H' → Q' v H') : WT X e σ H Q' := fun pins s I =>
  thn (h pins s I) fun u s' ⟨H', I', q⟩ => ⟨H', I', k _ H' q⟩
theorem WA.mono {Q Q' : List V → Hp → Prop} (h : WA X es σ H Q) (k : ∀ v H', Q v H' → Q' v H') : WA X es σ H Q' := fun pos pins s I =>
  thn (h pos pins s I) fun u s' ⟨v, H', I', r, q⟩ => ⟨v, H', I', r, k v H' q⟩
theorem WI.mono {R R' : It → Hp → Prop} (h : WI X tg iter σ H R) (k : ∀ J H', R J H' → R' J H') : WI X tg iter σ H R' := fun pins s I =>
  thn (h pins s I) fun v s1 h1 => thn h1 fun itv s2 ⟨it, fp, tn, J, H', e, I', T, t0, f, r⟩ => ⟨it, fp, tn, J, H', e, I', T, t0, f, k J H' r⟩
theorem SP.monoN {D D' : Ends} {pins : List (Addr × Obj)} (k1 : ∀ σ H, D.nx σ H → D'.nx σ H) (k2 : ∀ v H, D.rt v H → D'.rt v H) (k3 : ∀ σ H, D.bk σ H → D'.bk σ H) (k4 : ∀ σ H, D.ct σ H → D'.ct σ H) {f : Flow} {s : Shared} (h : SP X pins D f s) : SP X pins D' f s := by
  cases f with
  | next => obtain ⟨σ', H', I, q⟩ := h; exact ⟨σ', H', I, k1 _ _ q⟩
  | brk => obtain ⟨σ', H', I, q⟩ := h; exact ⟨σ', H', I, k3 _ _ q⟩
  | cont => obtain ⟨σ', H', I, q⟩ := h; exact ⟨σ', H', I, k4 _ _ q⟩
  | ret u => obtain ⟨v, σ', H', I, r, q⟩ := h; exact ⟨v, σ', H', I, r, k2 _ _ q⟩
theorem WSs.mono {D D' : Ends} (h : WSs X sts D σ H) (k1 : ∀ σ H, D.nx σ H → D'.nx σ H) (k2 : ∀ v H, D.rt v H → D'.rt v H) (k3 : ∀ σ H, D.bk σ H → D'.bk σ H) (k4 : ∀ σ H, D.ct σ H → D'.ct σ H) : WSs X sts D' σ H := fun pins s I =>
  thn (h pins s I) fun f s' q => SP.monoN k1 k2 k3 k4 q
/-- statement by statement -/
theorem wnil {D : Ends} (h : D.nx σ H) : WSs X [] D σ H := wss pss_nil h
theorem wcons {D : Ends} (h : WS X st { D with nx := WSs X sts D } σ H) : WSs X (st :: sts) D σ H := wss (pss_cons ps_w pss_w) h
theorem wone {D : Ends} (h : WS X st D σ H) : WSs X [st] D σ H := wss (pss_one ps_w) h
end

/-! ### evaluation to data: all that was tracked stays -/
def EV (X : Cx) (e : Expr) (σ : St) (H : Hp) (d : D) : Prop := ∀ H1, Same H H1 → WE X e σ H1 fun v H2 => Same H1 H2 ∧ Rep H2 d v
def ET (X : Cx) (e : Expr) (σ : St) (H : Hp) (b : Bool) : Prop := ∀ H1, Same H H1 → WT X e σ H1 fun c H2 => c = b ∧ Same H1 H2
def EA (X : Cx) (es : List Expr) (σ : St) (H : Hp) (ds : List D) : Prop := ∀ H1, Same H H1 → WA X es σ H1 fun vs H2 => Same H1 H2 ∧ RepL H2 ds vs
/-- a new list -/
def EL (X : Cx) (e : Expr) (σ : St) (H : Hp) (ds : List D) : Prop := ∀ H1, Same H H1 → WE X e σ H1 fun v H2 => ∃ l vs, v = .ref l ∧ H1 l = none ∧ Same H1 H2 ∧ H2 l = some (.lst vs) ∧ RepL H2 ds vs
section
variable {X : Cx} {e a b c : Expr} {es : List Expr} {σ : St} {H H' : Hp} {d d1 d2 : D} {ds : List D} {pos : Pos}
theorem EV.mono (h : EV X e σ H d) (s : Same H H') : EV X e σ H' d := fun H1 s1 => h H1 (s.trans s1)
theorem ET.mono {b : Bool} (h : ET X e σ H b) (s : Same H H') : ET X e σ H' b := fun H1 s1 => h H1 (s.trans s1)
theorem EL.mono (h : EL X e σ H ds) (s : Same H H') : EL X e σ H' ds := fun H1 s1 => h H1 (s.trans s1)
theorem EV.now (h : EV X e σ H d) : WE X e σ H fun v H2 => Same H H2 ∧ Rep H2 d v := h H (Same.refl H)
theorem EL.now (h : EL X e σ H ds) : WE X e σ H fun v H2 => ∃ l vs, v = .ref l ∧ H l = none ∧ Same H H2 ∧ H2 l = some (.lst vs) ∧ RepL H2 ds vs := h H (Same.refl H)
theorem ET.now {b : Bool} (h : ET X e σ H b) : WT X e σ H fun c H2 => c = b ∧ Same H H2 := h H (Same.refl H)

theorem ev_name (i : Nat) {x : Str} {v : V} (h : σ[i]? = some (some v)) (r : Rep H d v) (hN : X.N[i]? = some x := by rfl) (hv : Vis X.env.scope x := by first | exact Or.inl rfl | exact Or.inr (Or.inl rfl) | exact Or.inr (Or.inr rfl))
    (hd : (x == ("__debug__" : Str)) = false := by decide) (hcd : (x == ("__classdict__" : Str)) = false := by decide) : EV X (.Name x pos) σ H d := fun H1 s =>
  we (pe_var hN hv hd hcd) ⟨v, h, Same.refl _, r.mono s⟩
theorem ev_int {i : Int} {j} : EV X (.Constant (.int i) j pos) σ H (.int i) := fun H1 s => we pe_int ⟨Same.refl _, rfl⟩
theorem ev_str {i : Str} {j} : EV X (.Constant (.str i) j pos) σ H (.str i) := fun H1 s => we pe_str ⟨Same.refl _, rfl⟩
theorem ev_bl {i : Bool} {j} : EV X (.Constant (.bool i) j pos) σ H (.bl i) := fun H1 s => we pe_bl ⟨Same.refl _, rfl⟩
theorem ev_non {j} : EV X (.Constant .none j pos) σ H .non := fun H1 s => we pe_non ⟨Same.refl _, rfl⟩
/-- two values, an operation on them that makes no object -/
theorem ev_op {op : Operator} {r : R2} (ho : OpR X (binaryOp op) r) (ha : EV X a σ H d1) (hb : EV X b σ H d2) (hr : ∀ x y H1, Same H H1 → Rep H1 d1 x → Rep H1 d2 y → ∀ Q : VK, (∀ v H2, Same H1 H2 → Rep H2 d v → Q v H2) → r x y H1 Q) : EV X (.BinOp a op b pos) σ H d := fun H1 s => by
  refine we (pe_op ho pe_w pe_w) ?_
  refine (ha H1 s).mono fun x H2 ⟨s2, rx⟩ => ?_
  refine (hb H2 (s.trans s2)).mono fun y H3 ⟨s3, ry⟩ => ?_
  exact hr x y H3 ((s.trans s2).trans s3) (rx.mono s3) ry _ fun v H4 s4 rv => ⟨(s2.trans s3).trans s4, rv⟩
theorem ev_cmp {op : CmpOp} {r : R2} (ho : OpR X (compareOp op) r) (ha : EV X a σ H d1) (hb : EV X b σ H d2) (hm : behindInMarks op b = false) (hr : ∀ x y H1, Same H H1 → Rep H1 d1 x → Rep H1 d2 y → ∀ Q : VK, (∀ v H2, Same H1 H2 → Rep H2 d v → Q v H2) → r x y H1 Q) : EV X (.Compare a [op] [b] pos) σ H d := fun H1 s => by
  refine we (pe_cmpR ho pe_w pe_w hm) ?_
  refine (ha H1 s).mono fun x H2 ⟨s2, rx⟩ => ?_
  refine (hb H2 (s.trans s2)).mono fun y H3 ⟨s3, ry⟩ => ?_
  exact hr x y H3 ((s.trans s2).trans s3) (rx.mono s3) ry _ fun v H4 s4 rv => ⟨(s2.trans s3).trans s4, rv⟩
theorem ev_add {i j : Int} (ha : EV X a σ H (.int i)) (hb : EV X b σ H (.int j)) : EV X (.BinOp a .Add b pos) σ H (.int (i + j)) :=
  ev_op op_add ha hb fun x y H1 _ rx ry Q q => ⟨i, j, rx, ry, q _ _ (Same.refl _) rfl⟩
theorem ev_sub {i j : Int} (ha : EV X a σ H (.int i)) (hb : EV X b σ H (.int j)) : EV X (.BinOp a .Sub b pos) σ H (.int (i - j)) :=
  ev_op op_sub ha hb fun x y H1 _ rx ry Q q => ⟨i, j, rx, ry, q _ _ (Same.refl _) rfl⟩
/-- t[i] -/
theorem ev_ixT {ds : List D} {i : Nat} (ha : EV X a σ H (.tup ds)) (hb : EV X b σ H (.int (i : Int))) (hd : ds[i]? = some d) (hs : PlainIx b) : EV X (.Subscript a b pos) σ H d := fun H1 s => by
  refine we (pe_ix ix_tup pe_w pe_w hs) ?_
  refine (ha H1 s).mono fun x H2 ⟨s2, rx⟩ => ?_
  refine (hb H2 (s.trans s2)).mono fun y H3 ⟨s3, ry⟩ => ?_
  obtain ⟨p, vs, e, e1, rl⟩ := rx.mono s3
  obtain ⟨v, hv, rv⟩ := rl.get hd
  exact ⟨p, vs, (i : Int), v, e, ry, SqT.of e1, atI_nat hv, s2.trans s3, rv⟩
theorem ea_nil : EA X [] σ H [] := fun H1 _ => wa pa_nil ⟨Same.refl _, .nil⟩
theorem ea_cons (ha : EV X a σ H d) (hr : EA X es σ H ds) (hs : starEach (a :: es) X.env = (false, eval a X.env) :: starEach es X.env := by rfl) : EA X (a :: es) σ H (d :: ds) := fun H1 s => by
  refine wa (pa_cons pe_w pa_w hs) ?_
  refine (ha H1 s).mono fun x H2 ⟨s2, rx⟩ => ?_
  exact (hr H2 (s.trans s2)).mono fun vs H3 ⟨s3, r3⟩ => ⟨s2.trans s3, .cons (rx.mono s3) r3⟩
theorem ev_tup {k} (h : EA X es σ H ds) (hl : ds.length ≤ sizeLine) : EV X (.Tuple es k pos) σ H (.tup ds) := fun H1 s => by
  refine we (pe_tup pa_w) ?_
  refine (h H1 s).mono fun vs H2 ⟨s2, r2⟩ => ?_
  exact ⟨by rw [r2.length]; exact hl, fun p hp => ⟨s2.trans (same_new hp), p, vs, rfl, upd_same, r2.mono (same_new hp)⟩⟩
theorem el_lst (h : EA X es σ H ds) (hl : ds.length ≤ sizeLine) : EL X (.List es pos) σ H ds := fun H1 s => by
  refine we (pe_lst pa_w) ?_
  refine (h H1 s).mono fun vs H2 ⟨s2, r2⟩ => ?_
  exact ⟨by rw [r2.length]; exact hl, fun p hp => ⟨p, vs, rfl, Same.free s2 hp, s2.trans (same_new hp), upd_same, r2.mono (same_new hp)⟩⟩
end

end Nr
namespace Nr
open PySem PySem.Spec L2
open PyProof.Rows hiding St

/-! ### what is walked -/
/-- J goes through ds while C holds of the heap; no tracked object is changed by it -/
def Runs (J : It) (C : Hp → Prop) (ds : List D) : Prop := ∀ i H, C H → (∀ d, ds[i]? = some d → J.go i H ∧ ∀ x H', J.yld i H x H' → Same H H' ∧ Rep H' d x) ∧ (i = ds.length → J.stop i H)
theorem Runs.imp {J : It} {C C' : Hp → Prop} {ds : List D} (h : Runs J C ds) (k : ∀ H, C' H → C H) : Runs J C' ds := fun i H c => h i H (k H c)
/-- a source: it evaluates, nothing tracked changes, and it goes through ds as long as what was tracked stays -/
def Src (X : Cx) (tg iter : Expr) (σ : St) (H : Hp) (ds : List D) : Prop := ∀ H1, Same H H1 → WI X tg iter σ H1 fun J H2 => Same H1 H2 ∧ Runs J (Same H2) ds
section
variable {X : Cx} {tg e iter elt : Expr} {σ : St} {H : Hp} {ds : List D} {pos : Pos} {d : D}
/-- over a tuple: nothing is asked of the heap but that tuples stay -/
theorem wi_tup (h : EV X e σ H (.tup ds)) : WI X tg e σ H fun J H2 => Same H H2 ∧ Runs J (Tm H2) ds := by
  refine wi (pi_tup pe_w) ?_
  refine h.now.mono fun x H2 ⟨s2, rx⟩ => ?_
  obtain ⟨a, vs, e0, e1, rl⟩ := rx
  refine ⟨a, e0, ⟨vs, SqT.of e1⟩, s2, fun i H3 m => ⟨fun d hd => ?_, fun hi => ?_⟩⟩
  · obtain ⟨v, hv, rv⟩ := rl.get hd
    refine ⟨⟨vs, v, SqT.of (m a vs e1), hv⟩, fun x H' y => ?_⟩
    obtain ⟨e, y⟩ := y
    have y1 := y vs (SqT.of (m a vs e1))
    rw [hv] at y1
    rw [e, ← Option.some.inj y1]
    exact ⟨Same.refl _, rv.tm m⟩
  · exact ⟨vs, SqT.of (m a vs e1), by rw [rl.length, hi]; exact Nat.le_refl _⟩
theorem src_tup (h : EV X e σ H (.tup ds)) : Src X tg e σ H ds := fun H1 s => (wi_tup (h.mono s)).mono fun J H2 ⟨s2, r⟩ => ⟨s2, r.imp fun H' s' => Same.tm s'⟩
/-- over a new list -/
theorem wi_new (h : EL X e σ H ds) : WI X tg e σ H fun J H2 => Same H H2 ∧ ∃ l vs, H l = none ∧ H2 l = some (.lst vs) ∧ RepL H2 ds vs ∧ Runs J (fun H' => Tm H2 H' ∧ H' l = some (.lst vs)) ds := by
  refine wi (pi_list pe_w) ?_
  refine h.now.mono fun x H2 ⟨a, vs, e0, hn, s2, e1, rl⟩ => ?_
  refine ⟨a, e0, ⟨vs, SqL.of e1⟩, s2, a, vs, hn, e1, rl, fun i H3 m => ⟨fun d hd => ?_, fun hi => ?_⟩⟩
  · obtain ⟨v, hv, rv⟩ := rl.get hd
    refine ⟨⟨vs, v, SqL.of m.2, hv⟩, fun x H' y => ?_⟩
    obtain ⟨e, y⟩ := y
    have y1 := y vs (SqL.of m.2)
    rw [hv] at y1
    rw [e, ← Option.some.inj y1]
    exact ⟨Same.refl _, rv.tm m.1⟩
  · exact ⟨vs, SqL.of m.2, by rw [rl.length, hi]; exact Nat.le_refl _⟩
theorem src_new (h : EL X e σ H ds) : Src X tg e σ H ds := fun H1 s => (wi_new (h.mono s)).mono fun J H2 ⟨s2, l, vs, _, h2, _, r⟩ => ⟨s2, r.imp fun H' s' => ⟨Same.tm s', s' _ _ h2⟩⟩
/-- over a list that stands, by its name -/
theorem wi_list {l : Addr} {vs : List V} (h : WE X e σ H fun v H2 => v = .ref l ∧ Same H H2) (hl : H l = some (.lst vs)) (rl : RepL H ds vs) : WI X tg e σ H fun J H2 => Same H H2 ∧ Runs J (fun H' => Tm H2 H' ∧ H' l = some (.lst vs)) ds := by
  refine wi (pi_list pe_w) ?_
  refine h.mono fun x H2 ⟨e0, s2⟩ => ?_
  refine ⟨l, e0, ⟨vs, SqL.of (s2 _ _ hl)⟩, s2, fun i H3 m => ⟨fun d hd => ?_, fun hi => ?_⟩⟩
  · obtain ⟨v, hv, rv⟩ := rl.get hd
    refine ⟨⟨vs, v, SqL.of m.2, hv⟩, fun x H' y => ?_⟩
    obtain ⟨e, y⟩ := y
    have y1 := y vs (SqL.of m.2)
    rw [hv] at y1
    rw [e, ← Option.some.inj y1]
    exact ⟨Same.refl _, (rv.mono s2).tm m.1⟩
  · exact ⟨vs, SqL.of m.2, by rw [rl.length, hi]; exact Nat.le_refl _⟩
theorem src_list {l : Addr} {vs : List V} (h : ∀ H1, Same H H1 → WE X e σ H1 fun v H2 => v = .ref l ∧ Same H1 H2) (hl : H l = some (.lst vs)) (rl : RepL H ds vs) : Src X tg e σ H ds := fun H1 s =>
  (wi_list (h H1 s) (s _ _ hl) (rl.mono s)).mono fun J H2 ⟨s2, r⟩ => ⟨s2, r.imp fun H' s' => ⟨Same.tm s', s' _ _ (s2 _ _ (s _ _ hl))⟩⟩
/-- over range(n) -/
theorem runs_range (lo : Int) (n : Nat) (C : Hp → Prop) : Runs (Itr lo n) C ((List.range n).map fun (i : Nat) => D.int (lo + (i : Int))) := fun i H _ => by
  refine ⟨fun d hd => ?_, fun hi => ?_⟩
  · rw [List.getElem?_map] at hd
    by_cases h : i < n
    · rw [List.getElem?_range h] at hd
      refine ⟨h, fun x H' y => ?_⟩
      obtain ⟨e1, e2⟩ := y
      rw [e1, e2, ← Option.some.inj hd]
      exact ⟨Same.refl _, rfl⟩
    · rw [List.getElem?_eq_none (by rw [List.length_range]; omega)] at hd
      cases hd
  · rw [List.length_map, List.length_range] at hi
    exact Nat.le_of_eq hi.symm
def natsD (n : Nat) : List D := (List.range n).map fun (i : Nat) => D.int (i : Int)
theorem wi_range {a : Expr} {p pos : Pos} {n : Nat} (h : EV X a σ H (.int (n : Int))) (hn : n < 1000000) (hg : Gl X "range") (hm : X.mg "range" = none) (hs : starEach [a] X.env = [(false, eval a X.env)] := by rfl) (hs1 : starEach [a] X.env = (false, eval a X.env) :: starEach [] X.env := by rfl) :
    WI X tg (.Call (.Name "range" p) [a] [] pos) σ H fun J H2 => Same H H2 ∧ ∀ C, Runs J C (natsD n) := by
  refine wi (pi_range1 hg hm pa_w hs) ?_
  refine ((ea_cons h ea_nil hs1) H (Same.refl H)).mono fun vs H2 ⟨s2, r2⟩ => ?_
  obtain ⟨v, r, e, e1, e2⟩ := r2
  have e3 : v = .int (n : Int) := e1
  have e4 : r = [] := e2
  refine ⟨(n : Int), by rw [e, e3, e4], by omega, by omega, s2, fun C => ?_⟩
  have z := runs_range 0 n C
  have q : ((List.range n).map fun (i : Nat) => D.int ((0 : Int) + (i : Int))) = natsD n := by
    unfold natsD
    exact List.map_congr_left fun i _ => by rw [Int.zero_add]
  rw [q] at z
  exact z
theorem src_range {a : Expr} {p pos : Pos} {n : Nat} (h : EV X a σ H (.int (n : Int))) (hn : n < 1000000) (hg : Gl X "range") (hm : X.mg "range" = none) (hs : starEach [a] X.env = [(false, eval a X.env)] := by rfl) (hs1 : starEach [a] X.env = (false, eval a X.env) :: starEach [] X.env := by rfl) :
    Src X tg (.Call (.Name "range" p) [a] [] pos) σ H (natsD n) := fun H1 s => (wi_range (h.mono s) hn hg hm hs hs1).mono fun J H2 ⟨s2, r⟩ => ⟨s2, r _⟩

/-! ### list comprehensions -/
/-- the context of a comprehension's block -/
abbrev XB (X : Cx) (scope : Scope) (b : Shared × Hp × Addr × List (Str × Addr) × List Addr) : Cx := X.blk b.1 b.2.1 scope (compEnvC scope b.2.2.2.1 b.2.2.1 X.env) b.2.2.2.2
def ETs (X : Cx) (ifs : List Expr) (σ : St) (H : Hp) (b : Bool) : Prop := match ifs with
  | [] => b = true
  | [c] => ET X c σ H b
  | _ => False
/-- a turn: left out, or one item more -/
def TurnOk (X : Cx) (ifs : List Expr) (elt : Expr) (σ : St) (H : Hp) : Option D → Prop
  | none => ETs X ifs σ H false
  | some d => ETs X ifs σ H true ∧ EV X elt σ H d
def WTs (X : Cx) (ifs : List Expr) : TT := fun σ H Q => ∀ (pins : List (Addr × Obj)) (s : Shared), Inv X pins σ H s →
    wpAny (model X.prog X.w) X.A (forIn ifs true fun c r => if r = true then do let ok ← isTrue c X.env (eval c X.env); pure (ForInStep.yield ok) else pure (ForInStep.yield r)) (TP X pins σ Q) X.xe s
theorem pts_w {ifs : List Expr} : PTs X ifs (WTs X ifs) := ⟨fun pins s σ H Q I h => h pins s I⟩
theorem wts {ifs : List Expr} {t : TT} {Q : Bool → Hp → Prop} (h : PTs X ifs t) (q : t σ H Q) : WTs X ifs σ H Q := fun pins s I => h.run pins s σ H Q I q
theorem ETs.w {ifs : List Expr} {b : Bool} (h : ETs X ifs σ H b) : ∀ H1, Same H H1 → WTs X ifs σ H1 fun c H2 => c = b ∧ Same H1 H2 := fun H1 s => by
  match ifs, h with
  | [], h => exact wts pts_nil ⟨(show b = true from h).symm, Same.refl _⟩
  | [c], h => exact wts (pts_one pt_w) (h H1 s)
  | _ :: _ :: _, h => exact (show False from h).elim
theorem filterMap_take_succ {α β : Type} (f : α → Option β) {l : List α} {i : Nat} {x : α} (h : l[i]? = some x) : (l.take (i + 1)).filterMap f = (l.take i).filterMap f ++ (f x).toList := by
  rw [List.take_add_one, List.filterMap_append, h]
  simp [List.filterMap_cons]
  cases f x <;> rfl
theorem WTs.mono {ifs : List Expr} {Q Q' : Bool → Hp → Prop} (h : WTs X ifs σ H Q) (k : ∀ v H', Q v H' → Q' v H') : WTs X ifs σ H Q' := fun pins s I =>
  thn (h pins s I) fun u s' ⟨H', I', q⟩ => ⟨H', I', k _ H' q⟩
/-- name = e of such a comprehension on one line -/
def SetC (X : Cx) (e : Expr) (σ : L2.St) (H : Hp) (ds : List D) : Prop := ∀ (DE : Ends) (i : Nat) (y : Str) (py spos : Pos), X.N[i]? = some y → X.env.scope.names.lookup y = some .local → swapsWith e (some (.Name y py)) spos.line X.env = pure true →
  (∀ l vs H2, H l = none → Same H H2 → H2 l = some (.lst vs) → RepL H2 ds vs → DE.nx (σ.set i (some (.ref l))) H2) → WS X (.Assign [.Name y py] e spos) DE σ H
structure ELS (X : Cx) (e : Expr) (σ : L2.St) (H : Hp) (ds : List D) : Prop where
  el : EL X e σ H ds
  sc : SetC X e σ H ds
theorem ELS.to {ds' : List D} (h : ELS X e σ H ds) (q : ds = ds') : ELS X e σ H ds' := q ▸ h
theorem ws_setL {DE : Ends} {y : Str} {py : Pos} (i : Nat) (h : ELS X e σ H ds) (k : ∀ l vs H2, H l = none → Same H H2 → H2 l = some (.lst vs) → RepL H2 ds vs → DE.nx (σ.set i (some (.ref l))) H2) (hi : X.N[i]? = some y := by rfl) (hy : X.env.scope.names.lookup y = some .local := by rfl)
    (hs : swapsWith e (some (.Name y py)) pos.line X.env = pure true := by rfl) : WS X (.Assign [.Name y py] e pos) DE σ H := h.sc DE i y py pos hi hy hs k
theorem tLc_imp {g : TG} {vs : List Nat} {Q Q' : VK} {tt : TT} {te : TE} (k : ∀ v H2, Q v H2 → Q' v H2) (h : tLc (WI X tg iter) g tt te vs σ H Q) : tLc (WI X tg iter) g tt te vs σ H Q' := by
  refine WI.mono h fun J H1 q D hD => ?_
  obtain ⟨W, w0, turn⟩ := q D hD
  exact ⟨W, w0, fun i m H w => (turn i m H w).imp (fun ⟨a, b⟩ => ⟨a, k _ _ b⟩) id⟩
theorem lc_sem {ifs : List Expr} {scope : Scope} {own : List (Str × Nat)} {g : TG} (f : D → Option D) (hc : X.calm = true) (hN : X.N.Nodup) (ok : BlkOk X.N X.env.scope scope own) (hi : Src X tg iter σ H ds) (hg : ∀ b, PG (XB X scope b) tg g) (hl : ds.length ≤ sizeLine)
    (turn : ∀ d ∈ ds, ∀ x H1, Same H H1 → Rep H1 d x → ∀ Q : L2.St → Hp → Prop, (∀ σ2 H2, Same H1 H2 → wipe σ2 (own.map (·.2)) = wipe σ (own.map (·.2)) → (∀ b, TurnOk (XB X scope b) ifs elt σ2 H2 (f d)) → Q σ2 H2) → g x (wipe σ (own.map (·.2))) H1 Q)
    (hs : ∀ x, foldedSetIterable iter X.env x = pure x := by intro _; rfl) : ∀ H1, Same H H1 → tLc (WI X tg iter) g (fun σ H Q => ∀ b, WTs (XB X scope b) ifs σ H Q) (fun σ H Q => ∀ b, WE (XB X scope b) elt σ H Q) (own.map (·.2)) σ H1 fun v H2 => ∃ l vs, v = .ref l ∧ H1 l = none ∧ Same H1 H2 ∧ H2 l = some (.lst vs) ∧ RepL H2 (ds.filterMap f) vs := fun H1 s1 => by
  refine (hi H1 s1).mono fun J H2 ⟨s2, r2⟩ => ?_
  intro Dl hD
  have sD : Same H2 (upd H2 Dl (.lst [])) := same_new hD
  refine ⟨fun i m H' => m = ds.length - i ∧ i ≤ ds.length ∧ Same H2 H' ∧ ∃ vs, H' Dl = some (.lst vs) ∧ vs.length ≤ i ∧ RepL H' ((ds.take i).filterMap f) vs, ⟨ds.length, by simp, Nat.zero_le _, sD, [], upd_same, Nat.le_refl _, by simp [RepL]⟩, ?_⟩
  rintro i m H3 ⟨rfl, hi', s3, vs, hv, hvl, rl⟩
  have rr := r2 i H3 s3
  by_cases hlt : i < ds.length
  · right
    have hd : ds[i]? = some ds[i] := List.getElem?_eq_getElem hlt
    obtain ⟨go, yl⟩ := rr.1 _ hd
    refine ⟨go, fun H' => i + 1 ≤ ds.length ∧ Same H2 H' ∧ ∃ vs, H' Dl = some (.lst vs) ∧ vs.length ≤ i + 1 ∧ RepL H' ((ds.take (i + 1)).filterMap f) vs, fun H' ⟨p1, p2, p3⟩ => ⟨ds.length - (i + 1), by omega, rfl, p1, p2, p3⟩, fun x H4 hy => ?_⟩
    obtain ⟨s4, rx⟩ := yl x H4 hy
    have st := ((s1.trans s2).trans s3).trans s4
    have ft := filterMap_take_succ f hd
    refine turn ds[i] (List.getElem_mem hlt) x H4 st rx _ fun σ2 H5 s5 hw tk => ?_
    refine ⟨hw, fun b => ?_⟩
    have tb := tk b
    cases hf : f ds[i] with
    | none =>
      rw [hf] at tb ft
      refine (ETs.w (show ETs (XB X scope b) ifs σ2 H5 false from tb) H5 (Same.refl _)).mono fun c H6 ⟨ec, s6⟩ => ?_
      rw [ec, if_neg Bool.false_ne_true]
      have s36 := (s4.trans s5).trans s6
      refine ⟨hlt, s3.trans s36, vs, s36 _ _ hv, Nat.le_succ_of_le hvl, ?_⟩
      rw [ft]
      simpa using rl.mono s36
    | some d' =>
      rw [hf] at tb ft
      obtain ⟨t1, t2⟩ := (show ETs (XB X scope b) ifs σ2 H5 true ∧ EV (XB X scope b) elt σ2 H5 d' from tb)
      refine (ETs.w t1 H5 (Same.refl _)).mono fun c H6 ⟨ec, s6⟩ => ?_
      rw [ec, if_pos rfl]
      intro b2
      have t3 := ((show ETs (XB X scope b2) ifs σ2 H5 true ∧ EV (XB X scope b2) elt σ2 H5 d' by have z := tk b2; rw [hf] at z; exact z).2 H6 s6)
      refine t3.mono fun y H7 ⟨s7, ry⟩ => ?_
      have s37 := ((s4.trans s5).trans s6).trans s7
      refine ⟨vs, s37 _ _ hv, by omega, hlt, ?_, vs ++ [y], upd_same, by rw [List.length_append]; exact Nat.succ_le_succ hvl, ?_⟩
      · exact same_mut (s3.trans s37) hD
      · rw [ft]
        have m7 : Tm H7 (upd H7 Dl (.lst (vs ++ [y]))) := fun a xs e => by
          rw [upd_ne (ne_of e (s37 _ _ hv) (by intro z; cases z))]
          exact e
        exact RepL.append ((rl.mono s37).tm m7) (.one (ry.tm m7))
  · left
    have e : i = ds.length := by omega
    refine ⟨rr.2 e, Dl, vs, rfl, Same.free s2 hD, s2.trans s3, hv, ?_⟩
    rw [e, List.take_length] at rl
    exact rl
theorem el_lc {ifs : List Expr} {scope : Scope} {own : List (Str × Nat)} {g : TG} (f : D → Option D) (hc : X.calm = true) (hN : X.N.Nodup) (ok : BlkOk X.N X.env.scope scope own) (hi : Src X tg iter σ H ds) (hg : ∀ b, PG (XB X scope b) tg g) (hl : ds.length ≤ sizeLine)
    (turn : ∀ d ∈ ds, ∀ x H1, Same H H1 → Rep H1 d x → ∀ Q : L2.St → Hp → Prop, (∀ σ2 H2, Same H1 H2 → wipe σ2 (own.map (·.2)) = wipe σ (own.map (·.2)) → (∀ b, TurnOk (XB X scope b) ifs elt σ2 H2 (f d)) → Q σ2 H2) → g x (wipe σ (own.map (·.2))) H1 Q)
    (hs : ∀ x, foldedSetIterable iter X.env x = pure x := by intro _; rfl) : ELS X (.ListComp elt [⟨tg, iter, ifs, 0⟩] scope pos) σ H (ds.filterMap f) := by
  have sem := lc_sem f hc hN ok hi hg hl turn hs
  refine ⟨fun H1 s1 => we (pe_lc (own := own) (g := g) (tt := fun σ H Q => ∀ b, WTs (XB X scope b) ifs σ H Q) (te := fun σ H Q => ∀ b, WE (XB X scope b) elt σ H Q) hc hN pi_w ok (fun s H C cl fp => hg (s, H, C, cl, fp)) (fun s H C cl fp => ⟨fun pins s' σ' H' Q I h => h (s, H, C, cl, fp) pins s' I⟩) (fun s H C cl fp => ⟨fun pins s' σ' H' Q I h => h (s, H, C, cl, fp) pins s' I⟩) hs) (sem H1 s1), fun DE i y py spos hi' hyl hsw k => ?_⟩
  refine ws (ps_setLc (i := i) (own := own) (g := g) (tt := fun σ H Q => ∀ b, WTs (XB X scope b) ifs σ H Q) (te := fun σ H Q => ∀ b, WE (XB X scope b) elt σ H Q) hc hN hi' hyl hsw pi_w ok (fun s H C cl fp => hg (s, H, C, cl, fp)) (fun s H C cl fp => ⟨fun pins s' σ' H' Q I h => h (s, H, C, cl, fp) pins s' I⟩) (fun s H C cl fp => ⟨fun pins s' σ' H' Q I h => h (s, H, C, cl, fp) pins s' I⟩) hs) ?_
  refine tLc_imp ?_ (sem H (Same.refl H))
  rintro v H2 ⟨l, vs, rfl, hn, s2, h2, r⟩
  exact k l vs H2 hn s2 h2 r
/-- [elt for x in iter] -/
theorem wipe1 {σ : L2.St} {j : Nat} {x : V} : wipe ((wipe σ [j]).set j (some x)) [j] = wipe σ [j] := by
  show (((σ.set j none).set j (some x)).set j none) = σ.set j none
  simp
theorem el_map {scope : Scope} {x : Str} {p : Pos} (j : Nat) (f : D → D) (hc : X.calm = true) (hN : X.N.Nodup) (ok : BlkOk X.N X.env.scope scope [(x, j)]) (hi : Src X (.Name x p) iter σ H ds) (hg : ∀ b, PG (XB X scope b) (.Name x p) (gName j)) (hl : ds.length ≤ sizeLine)
    (turn : ∀ d ∈ ds, ∀ v H1, Same H H1 → Rep H1 d v → ∀ b, EV (XB X scope b) elt ((σ.set j none).set j (some v)) H1 (f d))
    (hs : ∀ x, foldedSetIterable iter X.env x = pure x := by intro _; rfl) : ELS X (.ListComp elt [⟨.Name x p, iter, [], 0⟩] scope pos) σ H (ds.map f) := by
  have h := el_lc (pos := pos) (ifs := []) (fun d => some (f d)) hc hN ok hi hg hl (fun d hd v H1 s1 r Q q => q _ _ (Same.refl _) wipe1 fun b => ⟨rfl, turn d hd v H1 s1 r b⟩) hs
  have e : ds.filterMap (fun d => some (f d)) = ds.map f := by rw [← List.filterMap_eq_map] <;> rfl
  rw [e] at h
  exact h
/-- [elt for x in iter if c] -/
theorem el_filter {scope : Scope} {x : Str} {p : Pos} {c : Expr} (j : Nat) (k : D → Bool) (f : D → D) (hc : X.calm = true) (hN : X.N.Nodup) (ok : BlkOk X.N X.env.scope scope [(x, j)]) (hi : Src X (.Name x p) iter σ H ds) (hg : ∀ b, PG (XB X scope b) (.Name x p) (gName j)) (hl : ds.length ≤ sizeLine)
    (turn : ∀ d ∈ ds, ∀ v H1, Same H H1 → Rep H1 d v → ∀ b, ET (XB X scope b) c ((σ.set j none).set j (some v)) H1 (k d) ∧ (k d = true → EV (XB X scope b) elt ((σ.set j none).set j (some v)) H1 (f d)))
    (hs : ∀ x, foldedSetIterable iter X.env x = pure x := by intro _; rfl) : ELS X (.ListComp elt [⟨.Name x p, iter, [c], 0⟩] scope pos) σ H ((ds.filter k).map f) := by
  have h := el_lc (pos := pos) (ifs := [c]) (fun d => if k d = true then some (f d) else none) hc hN ok hi hg hl (fun d hd v H1 s1 r Q q => q _ _ (Same.refl _) wipe1 fun b => by
    obtain ⟨t1, t2⟩ := turn d hd v H1 s1 r b
    cases hk : k d with
    | true =>
      rw [hk] at t1
      rw [if_pos rfl]
      exact ⟨t1, t2 hk⟩
    | false =>
      rw [hk] at t1
      rw [if_neg Bool.false_ne_true]
      exact t1) hs
  have e : ∀ l : List D, l.filterMap (fun d => if k d = true then some (f d) else none) = (l.filter k).map f := fun l => by
    induction l with
    | nil => rfl
    | cons d l ih =>
      cases hk : k d with
      | true => simp [hk, ih]
      | false => simp [hk, ih]
  rw [e] at h
  exact h

/-! ### calls of built-ins that make no change -/
theorem ev_callTy {T : String} {r : List V → Hp → VK → Prop} {x : Str} {p : Pos} {es : List Expr} {e : Expr} (hc : CallR X (.type T) r) (hg : Gl X x) (hm : X.mg x = none) (hv : bootBuiltins x = some (.type T)) (h : WA X (e :: es) σ H fun vs H1 => r vs H1 fun v H2 => Same H H2 ∧ Rep H2 d v) (hn : x ≠ "__name__" := by decide) (hdb : (x == ("__debug__" : Str)) = false := by decide)
    (he : starEach (e :: es) X.env = (false, eval e X.env) :: starEach es X.env := by rfl) (hpl : ∀ pos, (backTo pos (starEach es X.env)).any (·.1) = false := by intro _; rfl) : WE X (.Call (.Name x p) (e :: es) [] pos) σ H fun v H2 => Same H H2 ∧ Rep H2 d v := we (pe_callTy hc hg hm hv pa_w hn hdb he (hpl _)) h
/-- tuple(a new list) -/
theorem ev_tuple {p : Pos} (h : EL X e σ H ds) (hg : Gl X "tuple") (hm : X.mg "tuple" = none) (he : starEach [e] X.env = (false, eval e X.env) :: starEach [] X.env := by rfl) : EV X (.Call (.Name "tuple" p) [e] [] pos) σ H (.tup ds) := fun H1 s => by
  refine we (pe_callTy call_tuple_of hg hm (by decide +kernel) (pa_cons pe_w pa_nil he) (by decide) (by decide) he rfl) ?_
  refine (h H1 s).mono fun v H2 ⟨l, vs, e0, hn, s2, e1, r⟩ => ?_
  rw [e0]
  exact ⟨l, vs, rfl, .inl ⟨SqL.of e1, fun p hp => ⟨s2.trans (same_new hp), p, vs, rfl, upd_same, r.mono (same_new hp)⟩⟩⟩
end
end Nr
/-! Dicts whose keys are tuples of ints and None, told with the places of their keys' tuples. -/
namespace Nr
open PySem PySem.Spec L2
open PyProof.Rows hiding St

/-! ### keys -/
abbrev LK := List Leaf
def leV : Leaf → V
  | .none => .non
  | .num i => .int i
  | .text x => .str x
theorem le_is {u : Value} : ∀ {k : Leaf}, RelV (leV k) u → Leaf.isOf k u = true
  | .none, r => by rw [show u = Value.none from r] <;> rfl
  | .num i, r => by
    obtain ⟨t, e⟩ := (show ∃ t, u = Value.int i t from r)
    rw [e]
    exact decide_eq_true rfl
  | .text x, r => by
    obtain ⟨t, e⟩ := (show ∃ t, u = Value.str x t from r)
    rw [e]
    show Value.isStrOf x (.str x t) = true
    simp [Value.isStrOf]
theorem le_items {P : Program} {w : World} : ∀ {ks : LK} {us : List Value}, Vals (ks.map leV) us → ItemsAre (leafKind P w) ks us
  | [], _, r => by rw [List.map_nil] at r; cases r; exact .nil
  | k :: ks, _, r => by
    rw [List.map_cons] at r
    cases r with
    | cons h t => exact .cons (le_is h) (le_items t)
abbrev TKd (P : Program) (w : World) := tupleKind (leafKind P w)
theorem le_key {P : Program} {w : World} {H : Hp} {h : Heap} {a : Addr} {ks : LK} (ok : HOk P w H h) (e : H a = some (.tup (ks.map leV))) : (TKd P w).is h ks a := by
  obtain ⟨_, its, r, o, h1, h2, n, h3⟩ := (show ObjOk P w H h a (.tup (ks.map leV)) from ok a _ e)
  exact ⟨o, its.toArray, n, h1, h2, h3, by simpa using le_items r⟩

/-! ### what stands in a dict: keys, their tuples' places, values -/
abbrev XS := List (LK × Addr × V)
abbrev PX : XS → List (LK × Addr × Value) → Prop := Paired fun p q => p.1 = q.1 ∧ p.2.1 = q.2.1 ∧ RelV p.2.2 q.2.2
def getX (xs : XS) (k : LK) : Option (Addr × V) := (xs.find? fun x => decide (x.1 = k)).map (·.2)
def putX (xs : XS) (k : LK) (a : Addr) (v : V) : XS := if (getX xs k).isSome = true then xs.map (fun x => if x.1 = k then (x.1, x.2.1, v) else x) else xs ++ [(k, a, v)]
theorem getX_cons {x : LK × Addr × V} {xs : XS} {k : LK} : getX (x :: xs) k = if x.1 = k then some x.2 else getX xs k := by
  unfold getX
  rw [List.find?_cons]
  by_cases e : x.1 = k
  · simp [e]
  · simp [e]
theorem atKey_cons {x : LK × Addr × Value} {xs : List (LK × Addr × Value)} {k : LK} : atKey (x :: xs) k = if x.1 = k then some x.2 else atKey xs k := by
  unfold atKey
  rw [List.find?_cons]
  by_cases e : x.1 = k
  · simp [e]
  · simp [e]
theorem getX_none {xs : XS} {k : LK} : getX xs k = none ↔ ∀ x ∈ xs, x.1 ≠ k := by
  induction xs with
  | nil => simp [getX]
  | cons x xs ih =>
    rw [getX_cons]
    by_cases e : x.1 = k
    · simp [e]
    · rw [if_neg e, ih]
      simp [e]
theorem getX_mem {xs : XS} {k : LK} {p : Addr × V} (h : getX xs k = some p) : (k, p) ∈ xs := by
  induction xs with
  | nil => simp [getX] at h
  | cons x xs ih =>
    rw [getX_cons] at h
    by_cases e : x.1 = k
    · rw [if_pos e] at h
      obtain ⟨x1, x2⟩ := x
      have e1 : x1 = k := e
      have e2 : x2 = p := Option.some.inj h
      rw [e1, e2]
      exact List.mem_cons_self
    · rw [if_neg e] at h
      exact List.mem_cons_of_mem _ (ih h)
theorem PX.get {xs : XS} {ys : List (LK × Addr × Value)} (r : PX xs ys) (k : LK) : (getX xs k = none ∧ atKey ys k = none) ∨ ∃ a v u, getX xs k = some (a, v) ∧ atKey ys k = some (a, u) ∧ RelV v u := by
  induction r with
  | nil => exact .inl ⟨rfl, rfl⟩
  | @cons p q ps qs h t ih =>
    obtain ⟨h1, h2, h3⟩ := h
    rw [getX_cons, atKey_cons]
    by_cases e : p.1 = k
    · rw [if_pos e, if_pos (h1.symm.trans e)]
      exact .inr ⟨p.2.1, p.2.2, q.2.2, rfl, by rw [h2], h3⟩
    · rw [if_neg e, if_neg (fun z => e (h1.trans z))]
      exact ih
theorem PX.put {xs : XS} {ys : List (LK × Addr × Value)} (r : PX xs ys) (k : LK) (a : Addr) {v : V} {u : Value} (rv : RelV v u) : PX (putX xs k a v) (storedH ys k a u) := by
  have e : (getX xs k).isSome = (atKey ys k).isSome := by
    rcases r.get k with ⟨e1, e2⟩ | ⟨_, _, _, e1, e2, _⟩ <;> rw [e1, e2] <;> rfl
  unfold putX storedH
  rw [e]
  by_cases q : (atKey ys k).isSome = true
  · rw [if_pos q, if_pos q]
    clear e q
    induction r with
    | nil => exact .nil
    | @cons p q ps qs h t ih =>
      rw [List.map_cons, List.map_cons]
      refine .cons ?_ ih
      obtain ⟨h1, h2, h3⟩ := h
      unfold putAt
      by_cases e : p.1 = k
      · rw [if_pos e, if_pos (h1.symm.trans e)]
        exact ⟨h1, h2, rv⟩
      · rw [if_neg e, if_neg (fun z => e (h1.trans z))]
        exact ⟨h1, h2, h3⟩
  · rw [if_neg q, if_neg q]
    exact Paired.snoc r ⟨rfl, rfl, rv⟩
theorem putX_new {xs : XS} {k : LK} {a : Addr} {v : V} (h : getX xs k = none) : putX xs k a v = xs ++ [(k, a, v)] := by
  unfold putX
  rw [h]
  exact if_neg (by simp)
theorem putX_len (xs : XS) (k : LK) (a : Addr) (v : V) : (putX xs k a v).length ≤ xs.length + 1 := by
  unfold putX
  split
  · rw [List.length_map]; exact Nat.le_succ _
  · rw [List.length_append]; exact Nat.le_refl _
theorem putX_keys {xs : XS} {k : LK} {a : Addr} {v : V} (h : (getX xs k).isSome = true) : (putX xs k a v).map (·.1) = xs.map (·.1) := by
  unfold putX
  rw [if_pos h, List.map_map]
  exact List.map_congr_left fun x _ => by
    show (if x.1 = k then (x.1, x.2.1, v) else x).1 = x.1
    split <;> rfl

/-! ### the object -/
def DOφ (P : Program) (w : World) (d : Addr) (xs : XS) (h : Heap) : Prop := xs.length ≤ sizeLine ∧ (d == sysModules) = false ∧ ∃ ys o es ep, PX xs ys ∧ h.get? d = some o ∧ o.ExactDict ∧ o.data = .dict es ep ∧ es.toList = ys.map (entryOfKey (TKd P w)) ∧ (ys.map (·.1)).Nodup
def DO (P : Program) (w : World) (d : Addr) (xs : XS) : HO := .ext (DOφ P w d xs)
/-- the keys' tuples stand -/
def KeysAt (H : Hp) (xs : XS) : Prop := ∀ x ∈ xs, H x.2.1 = some (.tup (x.1.map leV))
theorem KeysAt.tm {H H' : Hp} {xs : XS} (k : KeysAt H xs) (m : Tm H H') : KeysAt H' xs := fun x hx => m _ _ (k x hx)
theorem KeysAt.put {H : Hp} {xs : XS} (h : KeysAt H xs) {k : LK} {a : Addr} {v : V} (ha : H a = some (.tup (k.map leV))) : KeysAt H (putX xs k a v) := fun x hx => by
  unfold putX at hx
  split at hx
  · obtain ⟨y, hy, e⟩ := List.mem_map.mp hx
    rw [← e]
    split
    · exact h y hy
    · exact h y hy
  · rcases List.mem_append.mp hx with q | q
    · exact h x q
    · rw [List.mem_singleton.mp q]
      exact ha
section
variable {P : Program} {w : World} {H : Hp} {h : Heap} {d : Addr} {xs : XS}
theorem do_ok (x : DOφ P w d xs h) : ObjOk P w H h d (DO P w d xs) := by
  refine ⟨x, ?_, fun h1 h2 y k => ?_⟩
  · obtain ⟨_, _, _, o, _, _, _, e, _⟩ := x
    exact ⟨o, e⟩
  · obtain ⟨a, b, ys, o, es, ep, r, e, c⟩ := y
    exact ⟨a, b, ys, o, es, ep, r, k o e, c⟩
theorem do_rd (ok : HOk P w H h) (e : Rd H d (DO P w d xs)) (k : KeysAt H xs) : xs.length ≤ sizeLine ∧ (d == sysModules) = false ∧ ∃ ys, PX xs ys ∧ h.DictOfH (TKd P w) d ys := by
  obtain ⟨⟨z, y, ys, o, es, ep, r, e1, e2, e3, e4, e5⟩, e6⟩ := (show ObjOk P w H h d (DO P w d xs) from e.ok ok)
  refine ⟨z, y, ys, r, o, es, ep, e1, e2, e3, e4, ?_, e5⟩
  clear e4 e5 z e e6
  intro q hq
  induction r with
  | nil => exact nomatch hq
  | @cons a b as bs hab t ih =>
    rcases List.mem_cons.mp hq with e | hq
    · rw [e]
      have := k a List.mem_cons_self
      rw [hab.2.1, hab.1] at this
      exact le_key ok this
    · exact ih (fun x hx => k x (List.mem_cons_of_mem _ hx)) hq
end
section
variable {X : Cx} {pins : List (Addr × Obj)} {σ : L2.St} {H : Hp} {s : Shared} {d a : Addr} {xs : XS} {k : LK} {v : V}
/-- a dict at d in H -/
structure IsD (X : Cx) (H : Hp) (d : Addr) (xs : XS) : Prop where
  ob : H d = some (DO X.prog X.w d xs)
  ks : KeysAt H xs
theorem do_ne {H : Hp} {d a : Addr} {P : Program} {w : World} {xs : XS} {vs : List V} (h : H d = some (DO P w d xs)) (ha : H a = some (.tup vs)) : a ≠ d := ne_of ha h (by intro z; cases z)
theorem tm_do {H : Hp} {d : Addr} {P : Program} {w : World} {xs : XS} {o : HO} (h : H d = some (DO P w d xs)) : Tm H (upd H d o) := fun a ys e => by
  rw [upd_ne (do_ne h e)]
  exact e
theorem IsD.same {H' : Hp} (x : IsD X H d xs) (s : Same H H') : IsD X H' d xs := ⟨s _ _ x.ob, x.ks.tm (Same.tm s)⟩
theorem IsD.put (x : IsD X H d xs) (ha : H a = some (.tup (k.map leV))) : IsD X (upd H d (DO X.prog X.w d (putX xs k a v))) d (putX xs k a v) := ⟨upd_same, (x.ks.put ha).tm (tm_do x.ob)⟩
/-- the object is replaced behind a store -/
theorem do_stored {h' : Heap} {t' : Nat} {u : Value} {ys : List (LK × Addr × Value)} (I : Inv X pins σ H s) (x : IsD X H d xs) (r : PX xs ys) (rv : RelV v u) (hz : xs.length < sizeLine) (hd : (d == sysModules) = false) (hx : h'.DictOfH (TKd X.prog X.w) d (storedH ys k a u)) (hs : Heap.SameBut d s.heap h') :
    Inv X pins σ (upd H d (DO X.prog X.w d (putX xs k a v))) { s with heap := h', toks := t' } := by
  obtain ⟨o, es, ep, e1, e2, e3, e4, _, e5⟩ := hx
  refine I.write (x := d) (e := d) (by rw [x.ob]; trivial) (.inl rfl) (fun b q hb z => (hs.2 b hb).trans z) ⟨o, e1⟩ (do_ok ⟨?_, hd, _, o, es, ep, r.put k a rv, e1, e2, e3, e4, e5⟩)
  exact Nat.le_trans (putX_len ..) hz

/-! ### reading and storing -/
theorem do_empty {P : Program} {w : World} {H : Hp} {h : Heap} (hb : sysModules < h.objs.size) : ObjOk P w H (h.push { cls := .type "dict", data := .dict #[] }) h.objs.size (DO P w h.objs.size []) :=
  do_ok ⟨Nat.zero_le _, beq_eq_false_iff_ne.mpr (Ne.symm (Nat.ne_of_lt hb)), [], _, #[], 0, .nil, Heap.get?_push_size _ rfl, ⟨rfl, rfl, rfl⟩, rfl, rfl, List.nodup_nil⟩
/-- {} -/
theorem we_dnew {Q : VK} {pos : Pos} (h : ∀ p, H p = none → Q (.ref p) (upd H p (DO X.prog X.w p []))) : WE X (.Dict [] [] pos) σ H Q := fun pins s I =>
  wpAny_Dict_empty ⟨.ref s.heap.objs.size, _, I.laid (a := s.heap.objs.size) (o := DO X.prog X.w s.heap.objs.size []) (t' := s.toks) (fun _ _ q => Heap.get?_push_of_some _ q) (Nat.le_refl _) (do_empty I.big), rfl, h _ (I.hok.fresh (Nat.le_refl _))⟩
/-- {k: v}, one pair -/
theorem we_disp1 {Q : VK} {pos : Pos} {ek ev : Expr} (hu : X.A.units < cLine)
    (h : ∀ p, H p = none → WE X ek σ (upd H p (DO X.prog X.w p [])) fun x H1 => WE X ev σ H1 fun y H2 => ∃ a k, x = .ref a ∧ H2 a = some (.tup (k.map leV)) ∧ H2 p = some (DO X.prog X.w p []) ∧ Q (.ref p) (upd H2 p (DO X.prog X.w p [(k, a, y)]))) : WE X (.Dict [some ek] [ev] pos) σ H Q := fun pins s I => by
  have hn := I.hok.fresh (Nat.le_refl s.heap.objs.size)
  have I1 := I.laid (a := s.heap.objs.size) (o := DO X.prog X.w s.heap.objs.size []) (h' := s.heap.push { cls := .type "dict", data := .dict #[] }) (t' := s.toks) (fun _ _ q => Heap.get?_push_of_some _ q) (Nat.le_refl _) (do_empty I.big)
  rw [arm_eval_Dict, PySem.zip_pairTrees [some ek] [ev] X.env pos rfl rfl, dictDisplay_pairs (PySem.pairTrees [some ek] [ev] X.env pos) (by intro z; cases z) (show 1 < 17 by decide)]
  refine wpAny_bind (wpAny_standAt (wpAny_bind (wpAny_subDictH (knd := TKd X.prog X.w) (Q := fun d s' => wpAny (model X.prog X.w) X.A (pure (Value.ref d)) (EP X pins σ Q) X.xe s') hu (show 1 ≤ 15 by decide) ?_)))
  refine PySem.pairTrees_cons_walk ?_
  refine thn (h _ hn pins _ I1) fun u s1 ⟨x, H1, I2, rx, q1⟩ => thn (q1 pins s1 I2) fun v s2 ⟨y, H2, I3, ry, a, k, ex, ha, hp, q2⟩ => ?_
  refine PySem.pairTrees_nil_walk ?_
  rw [ex] at rx
  have eu : u = Value.ref a := rx
  obtain ⟨z, hd, ys, r, dd⟩ := do_rd (xs := []) I3.hok (.inl hp) (fun x hx => nomatch hx)
  cases r
  refine ⟨[(k, a, v)], ⟨eu, rfl, le_key I3.hok ha, trivial⟩, dd, fun h' tk dd' hs => wpAny_pure ?_⟩
  have I4 := do_stored (t' := tk) (k := k) (a := a) (v := y) I3 (xs := []) ⟨hp, fun x hx => nomatch hx⟩ .nil ry (by decide) hd dd' hs
  exact ⟨.ref s.heap.objs.size, _, I4, rfl, q2⟩
/-- k in d, by its places -/
def rInX (X : Cx) (f : Bool → Bool) : R2 := fun x y H Q => ∃ d xs a k, y = .ref d ∧ IsD X H d xs ∧ x = .ref a ∧ H a = some (.tup (k.map leV)) ∧ Q (.bl (f (getX xs k).isSome)) H
theorem op_inX (hu : X.A.units + 1 < cLine) : OpR X (compareOp .In) (rInX X id) := by
  intro pins s σ H x y u v Q I rx ry h
  obtain ⟨d, xs, a, k, rfl, D, rfl, ha, q⟩ := h
  cases rx
  cases ry
  obtain ⟨z, hd, ys, r, dd⟩ := do_rd I.hok (.inl D.ob) D.ks
  refine wpAny_in_heap (tupleKind_room_in1 hu) (le_key I.hok ha) hd dd ?_
  have e : (atKey ys k).isSome = (getX xs k).isSome := by
    rcases r.get k with ⟨e1, e2⟩ | ⟨_, _, _, e1, e2, _⟩ <;> rw [e1, e2] <;> rfl
  rw [e]
  exact ⟨.bl _, H, I.tok _, rfl, q⟩
theorem op_notInX (hu : X.A.units + 1 < cLine) : OpR X (compareOp .NotIn) (rInX X not) := by
  intro pins s σ H x y u v Q I rx ry h
  obtain ⟨d, xs, a, k, rfl, D, rfl, ha, q⟩ := h
  cases rx
  cases ry
  obtain ⟨z, hd, ys, r, dd⟩ := do_rd I.hok (.inl D.ob) D.ks
  refine wpAny_notIn_heap (tupleKind_room_in1 hu) (le_key I.hok ha) hd dd ?_
  have e : (atKey ys k).isSome = (getX xs k).isSome := by
    rcases r.get k with ⟨e1, e2⟩ | ⟨_, _, _, e1, e2, _⟩ <;> rw [e1, e2] <;> rfl
  rw [e]
  exact ⟨.bl _, H, I.tok _, rfl, q⟩
/-- d[k] = v -/
def rSetX (X : Cx) : TSet := fun o i v H Q => ∃ d xs a k, o = .ref d ∧ IsD X H d xs ∧ i = .ref a ∧ H a = some (.tup (k.map leV)) ∧ xs.length < sizeLine ∧ Q (upd H d (DO X.prog X.w d (putX xs k a v)))
theorem set_X (hu : X.A.units + 1 < cLine) : PSet X (rSetX X) := by
  intro pins s σ H o i v ov iv u Q I ro ri rv h
  obtain ⟨d, xs, a, k, rfl, D, rfl, ha, hz, q⟩ := h
  cases ro
  cases ri
  obtain ⟨z, hd, ys, r, dd⟩ := do_rd I.hok (.inl D.ob) D.ks
  have hzy : ys.length ≤ sizeLine := by rw [← Paired.length r]; exact z
  exact wpAny_setItem_heap (hsz := hzy) (tupleKind_room_in1 hu) (le_key I.hok ha) dd fun h' dd' hs => ⟨_, do_stored I D r rv hz hd dd' hs, q⟩
/-- d.setdefault(k, v) -/
def rSetdefX (X : Cx) : V → List V → Hp → VK → Prop := fun x vs H Q => ∃ d xs a k v, x = .ref d ∧ IsD X H d xs ∧ vs = [.ref a, v] ∧ H a = some (.tup (k.map leV)) ∧ xs.length < sizeLine ∧
  (∀ b u, getX xs k = some (b, u) → Q u H) ∧ (getX xs k = none → Q v (upd H d (DO X.prog X.w d (xs ++ [(k, a, v)]))))
theorem mt_setdefX (hu : X.A.units + 1 < cLine) : MtR X "dict.setdefault" (rSetdefX X) := by
  intro pins s σ H x vs u us Q I rx rvs h
  obtain ⟨d, xs, a, k, v, rfl, D, rfl, ha, hz, q1, q2⟩ := h
  cases rx
  obtain ⟨ua, uv, rfl, ra, rv⟩ := Vals.two rvs
  cases ra
  obtain ⟨z, hd, ys, r, dd⟩ := do_rd I.hok (.inl D.ob) D.ks
  have hzy : ys.length ≤ sizeLine := by rw [← Paired.length r]; exact z
  refine PySem.call_setdefault_heap (hsz := hzy) (tupleKind_room_in1 hu) (le_key I.hok ha) hd dd (fun p hp => ?_) fun hn h' dd' hs => ?_
  · rcases r.get k with ⟨e1, e2⟩ | ⟨b, v', u', e1, e2, e3⟩
    · rw [e2] at hp; cases hp
    · rw [e2] at hp
      cases hp
      exact ⟨v', H, I.tok _, e3, q1 _ _ e1⟩
  · have e1 : getX xs k = none := by
      rcases r.get k with ⟨e1, e2⟩ | ⟨b, v', u', e1, e2, e3⟩
      · exact e1
      · rw [e2] at hn; cases hn
    have I2 := do_stored (t' := s.toks + (TKd X.prog X.w).draws k) I D r rv hz hd dd' hs
    rw [putX_new e1] at I2
    exact ⟨v, _, I2, rv, q2 e1⟩
/-- d.get(k, v) -/
def rGetX (X : Cx) : V → List V → Hp → VK → Prop := fun x vs H Q => ∃ d xs a k v, x = .ref d ∧ IsD X H d xs ∧ vs = [.ref a, v] ∧ H a = some (.tup (k.map leV)) ∧ Q (((getX xs k).map (·.2)).getD v) H
theorem mt_getX (hu : X.A.units + 1 < cLine) : MtR X "dict.get" (rGetX X) := by
  intro pins s σ H x vs u us Q I rx rvs h
  obtain ⟨d, xs, a, k, v, rfl, D, rfl, ha, q⟩ := h
  cases rx
  obtain ⟨ua, uv, rfl, ra, rv⟩ := Vals.two rvs
  cases ra
  obtain ⟨z, hd, ys, r, dd⟩ := do_rd I.hok (.inl D.ob) D.ks
  refine call_meetsIn F.slot_dict_get dd.typeIs F.entry_dict_get (F.args_dict_get_3 _ _ _) (meetsH_dict_get_default (TKd X.prog X.w) d a hd uv) ⟨tupleKind_room_in1 hu, k, ys, le_key I.hok ha, dd, ?_⟩
  rcases r.get k with ⟨e1, e2⟩ | ⟨b, v', u', e1, e2, e3⟩
  · rw [e1] at q
    rw [e2]
    exact ⟨v, H, I.tok _, rv, q⟩
  · rw [e1] at q
    rw [e2]
    exact ⟨v', H, I.tok _, e3, q⟩
/-- len(d) -/
def rLenX (X : Cx) : List V → Hp → VK → Prop := fun vs H Q => ∃ d xs, vs = [.ref d] ∧ IsD X H d xs ∧ Q (.int (xs.length : Int)) H
theorem call_lenX : CallR X (.builtin "len") (rLenX X) := by
  intro pins s σ H vs us Q I rv h
  obtain ⟨d, xs, rfl, D, q⟩ := h
  obtain ⟨u, rfl, ru⟩ := Vals.one rv
  cases ru
  obtain ⟨z, hd, ys, r, dd⟩ := do_rd I.hok (.inl D.ob) D.ks
  obtain ⟨es, ep, hr, hs, _⟩ := dd.raw
  refine PyProof.Rows.call_len_slot (n := es.size) dd.typeIs F.slot_dict_len (fun Q' hq => PySem.call_len_raw hd hr hq) ?_ ?_ ?_
  · omega
  · rw [sizeLine_eq] at z
    have e : xs.length = ys.length := Paired.length r
    omega
  · have e : xs.length = ys.length := Paired.length r
    rw [← hs, ] at e
    rw [e] at q
    exact ⟨.int _, H, (I.tok _).tok _, ⟨_, rfl⟩, q⟩

/-! ### walks, the dict locked -/
/-- a locked dict -/
structure IsF (X : Cx) (H : Hp) (d : Addr) (o : Obj) (xs : XS) : Prop where
  ob : H d = some (.frz o (DO X.prog X.w d xs))
  ks : KeysAt H xs
theorem IsF.same {o : Obj} {H' : Hp} (x : IsF X H d o xs) (s : Same H H') : IsF X H' d o xs := ⟨s _ _ x.ob, x.ks.tm (Same.tm s)⟩
theorem tm_frz {H : Hp} {d : Addr} {P : Program} {w : World} {xs : XS} {o : Obj} {u : HO} (h : H d = some (.frz o (DO P w d xs))) : Tm H (upd H d u) := fun a ys e => by
  rw [upd_ne (ne_of e h (by intro z; cases z))]
  exact e
theorem IsD.lock {o : Obj} (x : IsD X H d xs) : IsF X (upd H d (.frz o (DO X.prog X.w d xs))) d o xs := ⟨upd_same, x.ks.tm (tm_do x.ob)⟩
theorem IsF.unlock {o : Obj} (x : IsF X H d o xs) : IsD X (upd H d (DO X.prog X.w d xs)) d xs := ⟨upd_same, x.ks.tm (tm_frz x.ob)⟩
theorem frz_rd {o : Obj} (I : Inv X pins σ H s) (x : IsF X H d o xs) : (d == sysModules) = false ∧ s.heap.get? d = some o ∧ o.ExactDict ∧ ∃ (es : Array DictEntry) (ep : Nat), o.data = .dict es ep ∧ es.size = xs.length ∧
    ∀ (i : Nat) (p : LK × Addr × V), xs[i]? = some p → ∃ en u, es[i]? = some en ∧ en.key = .ref p.2.1 ∧ en.val = u ∧ RelV p.2.2 u := by
  obtain ⟨hd, ⟨z, y, ys, o', es, ep, r, e1, e2, e3, e4, e5⟩, _⟩ := (show ObjOk X.prog X.w H s.heap d (.frz o (DO X.prog X.w d xs)) from I.hok d _ x.ob)
  rw [hd] at e1
  cases e1
  refine ⟨y, hd, e2, es, ep, e3, by rw [size_of_entries e4, Paired.length r], fun i p hp => ?_⟩
  obtain ⟨q, hq, e6, e7, e8⟩ := paired_get r hp
  have q1 := entry_at e4 i
  rw [hq] at q1
  exact ⟨_, q.2.2, q1, by rw [e7] <;> rfl, rfl, e8⟩
def ItKX (X : Cx) (d : Addr) (o : Obj) (xs : XS) : It := ⟨fun i H => IsF X H d o xs ∧ i < xs.length, fun i H x H' => H' = H ∧ ∃ p, xs[i]? = some p ∧ x = .ref p.2.1, fun i H => IsF X H d o xs ∧ xs.length ≤ i⟩
def ItVX (X : Cx) (d : Addr) (o : Obj) (xs : XS) : It := ⟨fun i H => IsF X H d o xs ∧ i < xs.length, fun i H x H' => H' = H ∧ ∃ p, xs[i]? = some p ∧ x = p.2.2, fun i H => IsF X H d o xs ∧ xs.length ≤ i⟩
def ItIX (X : Cx) (d : Addr) (o : Obj) (xs : XS) : It := ⟨fun i H => IsF X H d o xs ∧ i < xs.length, fun i H x H' => ∃ T p, xs[i]? = some p ∧ x = .ref T ∧ H T = none ∧ H' = upd H T (.tup [.ref p.2.1, p.2.2]), fun i H => IsF X H d o xs ∧ xs.length ≤ i⟩
theorem turn_KX {K : PySem.W.Frag} {tg : Expr} {o : Obj} {es : Array DictEntry} {ep : Nat} (it : Addr) (hod : o.data = .dict es ep) : Turn X.prog X.w K tg (ItKX X d o xs) [it] it (fun i h => h.IsKeyIter it d i xs.length ep) where
  mem := by simp
  obj := fun i h st b hb => by
    have e : b = it := by simpa using hb
    subst e
    obtain ⟨oi, e, c, dd⟩ := st
    exact ⟨oi, e, fun v z => by rw [dd] at z; cases z⟩
  keep := fun i h h' st k => st.at fun oi e => k it (by simp) oi e
  item := by
    intro Y hP hw hK hc i pins s σ H E I hf st hg
    obtain ⟨hd, hi⟩ := hg
    have hd' : IsF Y H d o xs := ⟨by rw [hP, hw]; exact hd.ob, hd.ks⟩
    rw [← hP, ← hw]
    obtain ⟨f0, f1, f2, f3, f4, f5⟩ := hf it (by simp)
    obtain ⟨hs, hgd, hx, es', ep', hdt, hsz, ent⟩ := frz_rd I hd'
    obtain ⟨rfl, rfl⟩ := dict_ep hod hdt
    have hp : xs[i]? = some xs[i] := List.getElem?_eq_getElem hi
    obtain ⟨en, u, hen, hkey, _, _⟩ := ent i _ hp
    refine next_key_item st hgd hdt hsz hen fun h' st' sb => ?_
    have I1 : Inv Y pins σ H { s with heap := h' } := I.turned (t' := s.toks) (fun b ob hb e => (sb.2 b hb).trans e) f0 f1 f3 f4 f5
    obtain ⟨oi, e, c, dd⟩ := id st'
    exact ⟨en.key, rfl, go_of (s := { s with heap := h' }) e c dd (by decide) ⟨.ref xs[i].2.1, H, I1, hkey, ⟨rfl, xs[i], hp, rfl⟩, st', fun b hb => (hf b hb).1⟩⟩
  done := by
    intro Y hP hw hK hc i pins s σ H E I hf st hg
    obtain ⟨hd, hi⟩ := hg
    have hd' : IsF Y H d o xs := ⟨by rw [hP, hw]; exact hd.ob, hd.ks⟩
    rw [← hP, ← hw]
    obtain ⟨f0, f1, f2, f3, f4, f5⟩ := hf it (by simp)
    obtain ⟨hs, hgd, hx, es', ep', hdt, hsz, ent⟩ := frz_rd I hd'
    obtain ⟨rfl, rfl⟩ := dict_ep hod hdt
    exact next_key_end (I.ok.hd hc) st hgd hdt hsz hi fun h' eb => ⟨rfl, I.turned (t' := s.toks) (fun b ob hb e => eb b ob hb e) f0 f1 f3 f4 f5⟩
  self := fun A i s Q E st h => by
    refine wpAny_pyIter_slot st.typeIs F.slot_dict_keyiterator_iter (wpAny_call_entry F.slot_dict_keyiterator_iter st.typeIs F.entry_dict_keyiterator_iter ?_ (F.args_dict_keyiterator_iter_1 _))
    show wpAny _ _ (ret (.ref it)) _ _ s
    exact wpAny_pure ⟨_, rfl, "dict_keyiterator", _, st.typeIs, F.slot_dict_keyiterator_next.lookup, h⟩
theorem getD_some {α : Type} {xs : Array α} {i : Nat} {x : α} (h : xs[i]? = some x) : ∃ hi : i < xs.size, xs[i] = x := by
  rw [Array.getElem?_eq_some_iff] at h
  exact h
theorem turn_VX {K : PySem.W.Frag} {tg : Expr} {o : Obj} {es : Array DictEntry} {ep : Nat} (it : Addr) (hod : o.data = .dict es ep) : Turn X.prog X.w K tg (ItVX X d o xs) [it] it (fun i h => h.IsValIter it d i xs.length ep) where
  mem := by simp
  obj := fun i h st b hb => by
    have e : b = it := by simpa using hb
    subst e
    obtain ⟨oi, e, c, dd⟩ := st
    exact ⟨oi, e, fun v z => by rw [dd] at z; cases z⟩
  keep := fun i h h' st k => st.at fun oi e => k it (by simp) oi e
  item := by
    intro Y hP hw hK hc i pins s σ H E I hf st hg
    obtain ⟨hd, hi⟩ := hg
    have hd' : IsF Y H d o xs := ⟨by rw [hP, hw]; exact hd.ob, hd.ks⟩
    rw [← hP, ← hw]
    obtain ⟨f0, f1, f2, f3, f4, f5⟩ := hf it (by simp)
    obtain ⟨hs, hgd, hx, es', ep', hdt, hsz, ent⟩ := frz_rd I hd'
    obtain ⟨rfl, rfl⟩ := dict_ep hod hdt
    have hp : xs[i]? = some xs[i] := List.getElem?_eq_getElem hi
    obtain ⟨en, u, hen, hkey, hval, rv⟩ := ent i _ hp
    obtain ⟨hie, een⟩ := getD_some hen
    rw [← hsz] at st
    refine wpAny_pyNext_values_item_raw st ⟨o, hgd, hx, hdt⟩ hie fun h' st' sb => ?_
    have I1 : Inv Y pins σ H { s with heap := h' } := I.turned (t' := s.toks) (fun b ob hb e => (sb.2 b hb).trans e) f0 f1 f3 f4 f5
    obtain ⟨oi, e, c, dd⟩ := id st'
    refine ⟨_, rfl, go_of (s := { s with heap := h' }) e c dd (by decide) ⟨xs[i].2.2, H, I1, by rw [een, hval]; exact rv, ⟨rfl, xs[i], hp, rfl⟩, ?_, fun b hb => (hf b hb).1⟩⟩
    rw [← hsz]
    exact st'
  done := by
    intro Y hP hw hK hc i pins s σ H E I hf st hg
    obtain ⟨hd, hi⟩ := hg
    have hd' : IsF Y H d o xs := ⟨by rw [hP, hw]; exact hd.ob, hd.ks⟩
    rw [← hP, ← hw]
    obtain ⟨f0, f1, f2, f3, f4, f5⟩ := hf it (by simp)
    obtain ⟨hs, hgd, hx, es', ep', hdt, hsz, ent⟩ := frz_rd I hd'
    obtain ⟨rfl, rfl⟩ := dict_ep hod hdt
    rw [← hsz] at st
    exact wpAny_pyNext_values_end_raw (I.ok.hd hc) st ⟨o, hgd, hx, hdt⟩ (by rw [hsz]; exact hi) fun h' eb => ⟨rfl, I.turned (t' := s.toks) (fun b ob hb e => eb b ob hb e) f0 f1 f3 f4 f5⟩
  self := fun A i s Q E st h => wpAny_pyIter_valiter st h
theorem turn_IX {K : PySem.W.Frag} {o : Obj} {es : Array DictEntry} {ep : Nat} {elts : List Expr} {kk : Nat} {tpos : Pos} (it : Addr) (hod : o.data = .dict es ep) :
    Turn X.prog X.w K (.Tuple elts kk tpos) (ItIX X d o xs) [it] it (fun i h => ∃ ok ov, IsItemIter h it d i xs.length ep ok ov) where
  mem := by simp
  obj := fun i h st b hb => by
    have e : b = it := by simpa using hb
    subst e
    obtain ⟨ok, ov, e⟩ := st
    exact ⟨_, e, fun v z => nomatch z⟩
  keep := fun i h h' st k => let ⟨ok, ov, e⟩ := st; ⟨ok, ov, k it (by simp) _ e⟩
  item := by
    intro Y hP hw hK hc i pins s σ H E I hf st hg
    obtain ⟨hd, hi⟩ := hg
    have hd' : IsF Y H d o xs := ⟨by rw [hP, hw]; exact hd.ob, hd.ks⟩
    rw [← hP, ← hw]
    obtain ⟨hs, hgd, hx, es', ep', hdt, hsz, ent⟩ := frz_rd I hd'
    obtain ⟨rfl, rfl⟩ := dict_ep hod hdt
    have hp : xs[i]? = some xs[i] := List.getElem?_eq_getElem hi
    obtain ⟨en, u, hen, hkey, hval, rv⟩ := ent i _ hp
    obtain ⟨hie, een⟩ := getD_some hen
    obtain ⟨ok, ov, he⟩ := st
    rw [← hsz] at he
    have hlt : it < s.heap.objs.size := Heap.lt_size he
    refine wpAny_pyNext_items_item_raw he ⟨o, hgd, hx, hdt⟩ hie fun h' ho hT hz hk => ?_
    refine ⟨_, rfl, wpAny_letOwnedTupleGo_items (s := { s with heap := h' }) ho fun h'' he' sb => ?_⟩
    have hT2 : h''.get? s.heap.objs.size = some { cls := .type "tuple", data := .seq #[es'[i].key, es'[i].val] } := (sb.2 _ (Nat.ne_of_gt hlt)).trans hT
    have new : ObjOk Y.prog Y.w (upd H s.heap.objs.size (.tup [.ref xs[i].2.1, xs[i].2.2])) h'' s.heap.objs.size (.tup [.ref xs[i].2.1, xs[i].2.2]) :=
      ⟨by show 2 ≤ sizeLine; decide, [es'[i].key, es'[i].val], .cons (by rw [een, hkey]; rfl) (.cons (by rw [een, hval]; exact rv) .nil), ⟨_, hT2, rfl, _, rfl⟩⟩
    have I1 : Inv Y pins σ (upd H s.heap.objs.size (.tup [.ref xs[i].2.1, xs[i].2.2])) { s with heap := h'' } :=
      I.turnedNew (t' := s.toks) (ch := [it]) (fun b ob hb e => (sb.2 b (by simpa using hb)).trans (hk b ob (by simpa using hb) e)) hf (Nat.le_refl _) new
    refine ⟨.ref s.heap.objs.size, _, I1, rfl, ⟨_, xs[i], hp, rfl, I.hok.fresh (Nat.le_refl _), rfl⟩, ⟨_, _, by rw [← hsz]; exact he'⟩, fun b hb => ?_⟩
    have e : b = it := by simpa using hb
    rw [e, upd_ne (Nat.ne_of_lt hlt)]
    exact (hf it (by simp)).1
  done := by
    intro Y hP hw hK hc i pins s σ H E I hf st hg
    obtain ⟨hd, hi⟩ := hg
    have hd' : IsF Y H d o xs := ⟨by rw [hP, hw]; exact hd.ob, hd.ks⟩
    rw [← hP, ← hw]
    obtain ⟨f0, f1, f2, f3, f4, f5⟩ := hf it (by simp)
    obtain ⟨hs, hgd, hx, es', ep', hdt, hsz, ent⟩ := frz_rd I hd'
    obtain ⟨rfl, rfl⟩ := dict_ep hod hdt
    obtain ⟨ok, ov, he⟩ := st
    rw [← hsz] at he
    exact wpAny_pyNext_items_end_raw (I.ok.hd hc) he ⟨o, hgd, hx, hdt⟩ (by rw [hsz]; exact hi) fun h' eb => ⟨rfl, I.turned (t' := s.toks) (fun b ob hb e => eb b ob hb e) f0 f1 f3 f4 f5⟩
  self := fun A i s Q E st h => let ⟨_, _, e⟩ := st; PySem.W.kcp_self e h
/-- for k in d -/
theorem wi_keysX {tg e : Expr} {R : It → Hp → Prop} (he : WE X e σ H fun v H1 => ∃ d o xs, v = .ref d ∧ IsF X H1 d o xs ∧ R (ItKX X d o xs) H1) : WI X tg e σ H R := fun pins s I => by
  refine thn (he pins s I) fun u s1 ⟨x, H1, I1, rx, d, o, xs, ex, hd, q⟩ => ?_
  subst ex
  obtain rfl : u = Value.ref d := rx
  obtain ⟨hs, hgd, hx, es, ep, hdt, hsz, ent⟩ := frz_rd I1 hd
  refine iter_keys hs hgd hx hdt (pi_one (tk := s1.toks) I1 _ (turn_KX _ hdt) ⟨_, Heap.get?_push_size _ rfl, rfl, ?_⟩ q)
  rw [hsz] <;> rfl
/-- for v in d.values() -/
theorem wi_valsX {tg e : Expr} {apos cpos : Pos} {R : It → Hp → Prop} (he : WE X e σ H fun v H1 => ∃ d o xs, v = .ref d ∧ IsF X H1 d o xs ∧ R (ItVX X d o xs) H1)
    (hbase : attributeBase e "values" X.env (eval e X.env) = eval e X.env := by rfl) (hline : (apos.endLine == cpos.line) = true := by rfl) : WI X tg (.Call (.Attribute e "values" apos) [] [] cpos) σ H R := fun pins s I => by
  refine wpAny_Call_method (T := "dict") (id := "dict.values") hbase rfl hline F.plainAttrs_dict F.slot_dict_values F.type_dict_values (thn (he pins s I) fun u s1 ⟨x, H1, I1, rx, d, o, xs, ex, hd, q⟩ => ?_)
  subst ex
  obtain rfl : u = Value.ref d := rx
  obtain ⟨hs, hgd, hx, es, ep, hdt, hsz, ent⟩ := frz_rd I1 hd
  have hr : s1.heap.DictRaw d es ep := ⟨o, hgd, hx, hdt⟩
  refine ⟨hr.typeIs, (fun a e => by cases e; exact ⟨o, hgd, hx.2.1⟩), ?_⟩
  have I2 : Inv X pins σ H1 { s1 with heap := s1.heap.push { cls := .type "dict_values", data := .fields #[.ref d] } } := I1.kept (t' := s1.toks) fun b ob q => Heap.get?_push_of_some _ q
  have fin : wpAny (model X.prog X.w) X.A (pyIter (.ref s1.heap.objs.size)) (PIE X pins σ tg R) X.xe { s1 with heap := s1.heap.push { cls := .type "dict_values", data := .fields #[.ref d] } } := by
    refine wpAny_pyIter_values_raw (d := d) ⟨_, Heap.get?_push_size _ rfl, rfl, rfl⟩ (hr.push _) (pi_one (tk := s1.toks) I2 _ (turn_VX _ hdt) ⟨_, Heap.get?_push_size _ rfl, rfl, ?_⟩ q)
    rw [hsz] <;> rfl
  show wpAny _ _ (callWith cpos (.builtin "dict.values") [.ref d] [] []) _ X.xe s1
  exact method_meetsIn F.slot_dict_values F.entry_dict_values rfl (PySem.evalArgs_none ⟨rfl, hr.typeIs, F.args_dict_values_1 _, _, meets_dict_values_raw d hs, ⟨⟨es, ep, hr⟩, fin⟩⟩)
/-- for k, v in d.items() -/
theorem wi_itemsX {e : Expr} {elts : List Expr} {kk : Nat} {tpos apos cpos : Pos} {R : It → Hp → Prop} (he : WE X e σ H fun v H1 => ∃ d o xs, v = .ref d ∧ IsF X H1 d o xs ∧ R (ItIX X d o xs) H1)
    (hbase : attributeBase e "items" X.env (eval e X.env) = eval e X.env := by rfl) (hline : (apos.endLine == cpos.line) = true := by rfl) : WI X (.Tuple elts kk tpos) (.Call (.Attribute e "items" apos) [] [] cpos) σ H R := fun pins s I => by
  refine wpAny_Call_method (T := "dict") (id := "dict.items") hbase rfl hline F.plainAttrs_dict F.slot_dict_items F.type_dict_items (thn (he pins s I) fun u s1 ⟨x, H1, I1, rx, d, o, xs, ex, hd, q⟩ => ?_)
  subst ex
  obtain rfl : u = Value.ref d := rx
  obtain ⟨hs, hgd, hx, es, ep, hdt, hsz, ent⟩ := frz_rd I1 hd
  have hr : s1.heap.DictRaw d es ep := ⟨o, hgd, hx, hdt⟩
  refine ⟨hr.typeIs, (fun a e => by cases e; exact ⟨o, hgd, hx.2.1⟩), ?_⟩
  have I2 : Inv X pins σ H1 { s1 with heap := s1.heap.push { cls := .type "dict_items", data := .fields #[.ref d] } } := I1.kept (t' := s1.toks) fun b ob q => Heap.get?_push_of_some _ q
  have fin : wpAny (model X.prog X.w) X.A (pyIter (.ref s1.heap.objs.size)) (PIE X pins σ (.Tuple elts kk tpos) R) X.xe { s1 with heap := s1.heap.push { cls := .type "dict_items", data := .fields #[.ref d] } } := by
    refine wpAny_pyIter_items_raw (d := d) ⟨_, Heap.get?_push_size _ rfl, rfl, rfl⟩ (hr.push _) (pi_one (tk := s1.toks) I2 _ (turn_IX _ hdt) ⟨.none, .none, ?_⟩ q)
    rw [hsz]
    exact Heap.get?_push_size _ rfl
  show wpAny _ _ (callWith cpos (.builtin "dict.items") [.ref d] [] []) _ X.xe s1
  exact method_meetsIn F.slot_dict_items F.entry_dict_items rfl (PySem.evalArgs_none ⟨rfl, hr.typeIs, F.args_dict_items_1 _, _, meets_dict_items_raw d hs, ⟨⟨es, ep, hr⟩, fin⟩⟩)
end
end Nr
/-! sorted of lists, tuples and dicts of data. -/
namespace Nr
open PySem PySem.Spec L2
open PyProof.Rows hiding St
open PySem.W (EachIs AllAlike Sortable dataLt dataLe alike alikeAll)

mutual
def toPy : D → PyData
  | .non => .none
  | .bl b => .bool b
  | .int i => .int i
  | .str s => .str s
  | .tup ds => .tuple (toPyL ds)
def toPyL : List D → List PyData
  | [] => []
  | d :: ds => toPy d :: toPyL ds
end
theorem toPyL_map : ∀ ds : List D, toPyL ds = ds.map toPy
  | [] => rfl
  | d :: ds => by rw [toPyL, List.map_cons, toPyL_map ds]
section
variable {P : Program} {w : World} {H : Hp} {h : Heap}
mutual
theorem reads_rep (ok : HOk P w H h) : ∀ {d : D} {v : V} {u : Value}, Rep H d v → RelV v u → Reads h u (toPy d) []
  | .non, v, u, r, rv => by
    rw [show v = .non from r] at rv
    rw [show u = Value.none from rv]
    exact .none
  | .bl b, v, u, r, rv => by
    rw [show v = .bl b from r] at rv
    rw [show u = Value.bool b from rv]
    exact .bool b
  | .int i, v, u, r, rv => by
    rw [show v = .int i from r] at rv
    obtain ⟨t, e⟩ := (show ∃ t, u = Value.int i t from rv)
    rw [e]
    exact .int i t
  | .str i, v, u, r, rv => by
    rw [show v = .str i from r] at rv
    obtain ⟨t, e⟩ := (show ∃ t, u = Value.str i t from rv)
    rw [e]
    exact .str i t
  | .tup ds, v, u, r, rv => by
    obtain ⟨a, vs, e, e1, rl⟩ := r
    rw [e] at rv
    rw [show u = Value.ref a from rv]
    obtain ⟨_, its, ri, o, h1, h2, n, h3⟩ := (show ObjOk P w H h a (.tup vs) from ok a _ e1)
    exact .tuple h1 h2 h3 (by simpa using readsL_rep ok rl ri)
theorem readsL_rep (ok : HOk P w H h) : ∀ {ds : List D} {vs : List V} {us : List Value}, RepL H ds vs → Vals vs us → ReadsAll h us (toPyL ds) []
  | [], vs, us, r, rv => by
    rw [show vs = [] from r] at rv
    cases rv
    exact .nil
  | d :: ds, vs, us, r, rv => by
    obtain ⟨v, vr, e, e1, e2⟩ := r
    rw [e] at rv
    cases rv with
    | cons a b => exact .cons (reads_rep ok e1 a) (readsL_rep ok e2 b)
end
/-- the pairs of values and what they stand for -/
theorem each_rep (ok : HOk P w H h) : ∀ {ds : List D} {vs : List V} {us : List Value}, RepL H ds vs → Vals vs us →
    EachIs (fun (u : Value) (b : V × D) => RelV b.1 u ∧ Rep H b.2 b.1) us (vs.zip ds) ∧ EachIs (fun (u : Value) (b : V × D) => ∃ as, Reads h u (toPy b.2) as) us (vs.zip ds)
  | [], vs, us, r, rv => by
    rw [show vs = [] from r] at rv ⊢
    cases rv
    exact ⟨.nil, .nil⟩
  | d :: ds, vs, us, r, rv => by
    obtain ⟨v, vr, e, e1, e2⟩ := r
    rw [e] at rv ⊢
    cases rv with
    | cons a b =>
      obtain ⟨x, y⟩ := each_rep ok e2 b
      exact ⟨.cons ⟨a, e1⟩ x, .cons ⟨[], reads_rep ok e1 a⟩ y⟩
end
/-- the order, on data -/
def leD (a b : D) : Bool := !dataLt (toPy b) (toPy a)
noncomputable def sortD (ds : List D) : List D := ds.mergeSort leD
theorem each_out {H : Hp} : ∀ {out : List Value} {bs : List (V × D)}, EachIs (fun (u : Value) (b : V × D) => RelV b.1 u ∧ Rep H b.2 b.1) out bs → Vals (bs.map (·.1)) out ∧ RepL H (bs.map (·.2)) (bs.map (·.1))
  | _, _, .nil => ⟨.nil, .nil⟩
  | _, _, .cons a r => by
    obtain ⟨x, y⟩ := each_out r
    exact ⟨.cons a.1 x, .cons a.2 y⟩
theorem zip_snd_map {α β : Type} : ∀ {xs : List α} {ys : List β}, xs.length = ys.length → (xs.zip ys).map (·.2) = ys
  | [], [], _ => rfl
  | x :: xs, y :: ys, h => by rw [List.zip_cons_cons, List.map_cons, zip_snd_map (Nat.succ.inj h)]
  | [], _ :: _, h => nomatch h
  | _ :: _, [], h => nomatch h
/-- what a sort asks of the data -/
structure SortOk (ds : List D) : Prop where
  al : AllAlike (ds.map toPy)
  ok : Sortable (ds.map toPy)
  dp : ∀ d ∈ ds, (toPy d).depth ≤ 8
  len : ds.length ≤ 100000
section
variable {X : Cx} {pins : List (Addr × Obj)} {σ : L2.St} {H : Hp} {s : Shared}
/-- list.sort of a fresh list of data (not tracked), then it is tracked -/
theorem sort_fresh {A : Around} {ds : List D} {vs : List V} {us : List Value} {D0 : Addr} {n : Nat} {Q : Value → Shared → Prop} {E : Value → Shared → Prop} {h' : Heap} {tk : Nat} (I : Inv X pins σ H s) (ok : SortOk ds) (rl : RepL H ds vs) (rv : Vals vs us)
    (k : ∀ b o, s.heap.get? b = some o → h'.get? b = some o) (hD : s.heap.objs.size ≤ D0) (ho : h'.get? D0 = some (seqObj "list" us.toArray n)) (hA : A.units ≤ X.A.units + 4) (hX : X.A.units + 64 < cLine)
    (q : ∀ ys s', Inv X pins σ (upd H D0 (.lst ys)) s' → RepL H (sortD ds) ys → Q .none s') :
    wpAny (model X.prog X.w) A (call (.builtin "list.sort") [.ref D0]) Q E { s with heap := h', toks := tk } := by
  have I' : Inv X pins σ H { s with heap := h', toks := tk } := I.kept k
  obtain ⟨e1, e2⟩ := each_rep I'.hok rl rv
  have hl : vs.length = ds.length := rl.length
  have em : (vs.zip ds).map (fun b => toPy b.2) = ds.map toPy := by
    have := zip_snd_map hl
    conv => rhs; rw [← this]
    rw [List.map_map] <;> rfl
  have hlen : (vs.zip ds).length = ds.length := by rw [List.length_zip, hl, Nat.min_self]
  refine PySem.W.list_sort_data (s := { s with heap := h', toks := tk }) (enc := fun b : V × D => toPy b.2) ho e1 ?_ (by rw [em]; exact ok.al) (by rw [em]; exact ok.ok) (by rw [hlen]; exact Nat.le_trans ok.len (by decide)) (fun b hb => ?_) fun out hol eo => ?_
  · refine (each_rep I'.hok rl rv).1.mono fun u b ⟨x, y⟩ => ⟨[], reads_rep I'.hok y x, by simp⟩
  · have := ok.dp b.2 (List.of_mem_zip hb).2
    omega
  · obtain ⟨o1, o2⟩ := each_out eo
    have es : ((vs.zip ds).mergeSort (dataLe false fun b : V × D => toPy b.2)).map (·.2) = sortD ds := by
      have := PySem.W.sort_maps (r := dataLe false fun b : V × D => toPy b.2) (s := leD) (fun b : V × D => b.2) (l := vs.zip ds) (fun a _ b _ => rfl)
      rw [this, zip_snd_map hl] <;> rfl
    rw [es] at o2
    obtain ⟨ep, he⟩ := PyProof.Rows.sortedHeap_at (vs := us) (out := out.toArray) ho
    have hfresh : H D0 = none := I.hok.fresh hD
    have keep : ∀ b o, s.heap.get? b = some o → (sortedHeap h' D0 us out.toArray).get? b = some o := fun b o hb => by
      rw [PyProof.Rows.sortedHeap_old (Nat.ne_of_lt (Nat.lt_of_lt_of_le (Heap.lt_size hb) hD)) (Heap.lt_size (k b o hb))]
      exact k b o hb
    refine q _ _ (I.laid (a := D0) (o := .lst (((vs.zip ds).mergeSort (dataLe false fun b : V × D => toPy b.2)).map (·.1))) (h' := sortedHeap h' D0 us out.toArray) (t' := tk) keep hD ⟨?_, out, ep, o1, he⟩) o2
    rw [List.length_map, List.length_mergeSort, hlen]
    exact Nat.le_trans ok.len (by decide)
/-- sorted(x), whatever hands out the items -/
theorem sorted_by {ds : List D} {x : Value} {Q : VK} (I : Inv X pins σ H s) (hX : X.A.units + 64 < cLine) (ok : SortOk ds)
    (col : ∀ (R : List Value → Shared → Prop) (E : Value → Shared → Prop), (∀ h' tk us vs, (∀ b o, s.heap.get? b = some o → h'.get? b = some o) → RepL H ds vs → Vals vs us → R us { s with heap := h', toks := tk }) → wpAny (model X.prog X.w) X.A.in1 (collect x) R E s)
    (q : ∀ p ys, H p = none → RepL H (sortD ds) ys → Q (.ref p) (upd H p (.lst ys))) : wpAny (model X.prog X.w) X.A (call (.builtin "sorted") [x]) (EP X pins σ Q) X.xe s := by
  refine Calls.call_function_entry kind_sorted plain_sorted entry_sorted (args_sorted1 _) ?_
  unfold Builtin.«sorted»
  refine wpAny_bind (m := checkCount "sorted" 1 1 _) (wpAny_pure ?_)
  refine wpAny_bind (col _ _ fun h' tk us vs k rl rv => ?_)
  have hul : us.length ≤ sizeLine := by
    rw [← rv.length, rl.length]
    exact Nat.le_trans ok.len (by decide)
  refine wpAny_bind (wpAny_newList ?_ hul)
  have I' : Inv X pins σ H { s with heap := h', toks := tk } := I.kept k
  refine wpAny_bind (wpAny_holding (wpAny_mono (sort_fresh (A := X.A.in1) (n := 0) (D0 := h'.objs.size) (h' := h'.push (seqObj "list" us.toArray 0)) (tk := tk) (Q := fun v s' => v = .none ∧ EP X pins σ Q (.ref h'.objs.size) s') I' ok rl rv (fun b o e => Heap.get?_push_of_some _ e) (Nat.le_refl _) (Heap.get?_push_size _ rfl) ?_ hX fun ys s' I2 r2 => ⟨rfl, .ref h'.objs.size, _, I2, rfl, q _ _ (I'.hok.fresh (Nat.le_refl _)) r2⟩) (fun v s' hv => ?_) fun _ _ e => e))
  · show X.A.units + 1 ≤ _
    omega
  · obtain ⟨rfl, hv⟩ := hv
    exact wpAny_pure ⟨_, rfl, hv⟩
/-- sorted(a tuple), sorted(a list), sorted(a dict) -/
theorem collect_tup {prog : Program} {w : World} {A : Around} {E : Value → Shared → Prop} {s : Shared} {l : Addr} {vs : List Value} {Q : List Value → Shared → Prop} (hl : PyProof.Rows.IsTup s.heap l vs.toArray)
    (h : Q vs { s with heap := (s.heap.push (seqObj "list" #[] 0)).update s.heap.objs.size (Obj.mapSeq (· ++ vs.toArray)) }) (hsz : vs.length ≤ sizeLine) : wpAny (model prog w) A (collect (.ref l)) Q E s := by
  obtain ⟨o, ho, hc, n, hd⟩ := id hl
  unfold collect
  refine wpAny_bind (wpAny_runValue (codeAny_builtin PyProof.Rows.entry_proto_collect' ?_))
  show wpAny _ _ (do again (.builtin "list.__iadd__" ⟨[← newList [], .ref l], []⟩)) _ _ s
  refine wpAny_bind (wpAny_newList (wpAny_pure ⟨Code.quiet_builtin _ (by decide +kernel), codeAny_builtin PyProof.Rows.entry_list_iadd' ?_⟩))
  show wpAny _ _ (Builtin.List.listExtendWith (.ref s.heap.objs.size) (.ref l) (.ref s.heap.objs.size)) _ _ { s with heap := s.heap.push (seqObj "list" #[] 0) }
  unfold Builtin.List.listExtendWith
  have ho' : (s.heap.push (seqObj "list" #[] 0)).get? l = some o := Heap.get?_push_of_some _ ho
  refine wpAny_bind (wpAny_typeOf (T := "tuple") ⟨o, ho', hc⟩ ?_)
  have ht : (Value.type "tuple" == Value.type "tuple") = true := by rfl
  rw [if_pos (by rw [ht]; simp)]
  refine wpAny_bind (listItems_at ho' hd ?_)
  refine wpAny_bind (listItems_at (xs := #[]) (n := 0) (Heap.get?_push_size _ rfl) rfl ?_)
  rw [if_neg (by simp)]
  refine wpAny_bind (listUpdate_at (xs := #[]) (n := 0) (Heap.get?_push_size _ rfl) rfl ?_ (Nat.zero_le _) (by show (#[] ++ vs.toArray).size ≤ sizeLine + 1; simp only [Array.size_append, List.size_toArray, List.length_nil]; omega))
  refine wpAny_pure ?_
  show wpAny (model prog w) A (do
      let o ← load s.heap.objs.size
      match o.data with
      | .seq xs _ => pure xs.toList
      | _ => unsupported "internal:collect") Q E { s with heap := (s.heap.push (seqObj "list" #[] 0)).update s.heap.objs.size (Obj.mapSeq (· ++ vs.toArray)) }
  refine wpAny_bind (wpAny_load (get?_update_seq (Heap.get?_push_size _ rfl) _) ?_)
  show wpAny _ _ (pure ((#[] : Array Value) ++ vs.toArray).toList) Q E _
  rw [show ((#[] : Array Value) ++ vs.toArray).toList = vs by simp]
  exact wpAny_pure h
theorem keep_col {h : Heap} {vs : List Value} {b : Addr} {o : Obj} (e : h.get? b = some o) : ((h.push (seqObj "list" #[] 0)).update h.objs.size (Obj.mapSeq (· ++ vs.toArray))).get? b = some o :=
  (Heap.get?_update_ne _ _ _ _ (Nat.ne_of_lt (Heap.lt_size e))).trans (Heap.get?_push_of_some _ e)
def rSortedL (X : Cx) : List V → Hp → VK → Prop := fun vs H Q => ∃ a xs ds, vs = [.ref a] ∧ (SqL X.K H a xs ∨ SqT X.K H a xs) ∧ RepL H ds xs ∧ SortOk ds ∧ ∀ p ys, H p = none → RepL H (sortD ds) ys → Q (.ref p) (upd H p (.lst ys))
theorem cr_sortedL (hX : X.A.units + 64 < cLine) : CallR X (.builtin "sorted") (rSortedL X) := by
  intro pins s σ H vs us Q I rv h
  obtain ⟨a, xs, ds, rfl, hs, rl, ok, q⟩ := h
  obtain ⟨u, rfl, ru⟩ := Vals.one rv
  cases ru
  refine sorted_by I hX ok (fun R E hR => ?_) q
  rcases hs with hs | hs
  · obtain ⟨its, ri, hl, hz⟩ := I.list hs
    exact PyProof.Rows.collect_list hl.isList (hR _ s.toks _ _ (fun b o e => keep_col e) rl ri) (by rw [← ri.length]; exact hz)
  · obtain ⟨its, ri, hl, hz⟩ := I.tuple hs
    exact collect_tup hl (hR _ s.toks _ _ (fun b o e => keep_col e) rl ri) (by rw [← ri.length]; exact hz)
/-- sorted(d): the keys -/
def leD1 : Leaf → D
  | .none => .non
  | .num i => .int i
  | .text x => .str x
theorem rep_le {H : Hp} : ∀ k : Leaf, Rep H (leD1 k) (leV k)
  | .none => rfl
  | .num _ => rfl
  | .text _ => rfl
theorem repL_le {H : Hp} : ∀ ks : LK, RepL H (ks.map leD1) (ks.map leV)
  | [] => rfl
  | k :: ks => ⟨_, _, rfl, rep_le k, repL_le ks⟩
def keyD (k : LK) : D := .tup (k.map leD1)
theorem rep_key {H : Hp} {a : Addr} {k : LK} (h : H a = some (.tup (k.map leV))) : Rep H (keyD k) (.ref a) := ⟨a, _, rfl, h, repL_le k⟩
def rSortedX (X : Cx) : List V → Hp → VK → Prop := fun vs H Q => ∃ d xs, vs = [.ref d] ∧ IsD X H d xs ∧ SortOk (xs.map fun x => keyD x.1) ∧ ∀ p ys, H p = none → RepL H (sortD (xs.map fun x => keyD x.1)) ys → Q (.ref p) (upd H p (.lst ys))
theorem cr_sortedX (hX : X.A.units + 64 < cLine) (hc : X.calm = true) : CallR X (.builtin "sorted") (rSortedX X) := by
  intro pins s σ H vs us Q I rv h
  obtain ⟨d, xs, rfl, D, ok, q⟩ := h
  obtain ⟨u, rfl, ru⟩ := Vals.one rv
  cases ru
  refine sorted_by I hX ok (fun R E hR => ?_) q
  obtain ⟨z, hd, ys, r, dd⟩ := do_rd I.hok (.inl D.ob) D.ks
  obtain ⟨es, ep, hr, hs, ent⟩ := dd.raw
  have hh : X.A.in1.handled = none := by
    have := I.ok.hd hc
    simpa using this
  refine PySem.W.kdu_collect (KdlSrc.rawDict (es := es) (ep := ep) hd) hh hr (by rw [hs, ← Paired.length r]; exact z) fun h' tk acc k hacc => ?_
  refine hR h' tk acc.toList (xs.map fun x => V.ref x.2.1) k ?_ ?_
  · have go : ∀ l : XS, (∀ x ∈ l, x ∈ xs) → RepL H (l.map fun x => keyD x.1) (l.map fun x => V.ref x.2.1) := by
      intro l
      induction l with
      | nil => intro _; rfl
      | cons x l ih =>
        intro hl
        exact ⟨_, _, rfl, rep_key (D.ks x (hl x List.mem_cons_self)), ih fun y hy => hl y (List.mem_cons_of_mem _ hy)⟩
    exact go xs fun x hx => hx
  · have e : acc.toList = xs.map fun x => Value.ref x.2.1 := by
      refine List.ext_getElem? fun i => ?_
      rw [Array.getElem?_toList, List.getElem?_map]
      by_cases hi : i < es.size
      · have hi2 : i < acc.size := by rw [hacc.1]; exact hi
        obtain ⟨hi', ev⟩ := hacc.2 i acc[i] (Array.getElem?_eq_getElem hi2)
        obtain ⟨y, hy, e1, _, _⟩ := ent i hi
        have hx : i < xs.length := by rw [Paired.length r, ← hs]; exact hi
        obtain ⟨y', hy', _, e2, _⟩ := paired_get r (List.getElem?_eq_getElem hx)
        rw [hy] at hy'
        cases hy'
        rw [Array.getElem?_eq_getElem hi2, List.getElem?_eq_getElem hx, ev, e1, ← e2] <;> rfl
      · have hx : xs.length ≤ i := by rw [Paired.length r, ← hs]; omega
        rw [Array.getElem?_eq_none (by rw [hacc.1]; omega), List.getElem?_eq_none hx] <;> rfl
    rw [e]
    have go : ∀ l : XS, Vals (l.map fun x => V.ref x.2.1) (l.map fun x => Value.ref x.2.1) := by
      intro l
      induction l with
      | nil => exact .nil
      | cons x l ih => exact .cons rfl ih
    exact go xs
end
end Nr
/-! Calls of defs, statements, loops, operations on data. -/
namespace Nr
open PySem PySem.Spec L2
open PyProof.Rows hiding St

/-! ### calls of defs -/
def Ok (P : Program) (w : World) (K : PySem.W.Frag) (mg : Str → Option Value) (base : Heap) (k : Nat) (x : Str) (sp : Sp) : Prop :=
  ∃ f fd ps, mg x = some (.ref f) ∧ PySem.W.keepIn K (.ref f) = true ∧ Binds K fd ps [] ∧ FnOk P w K mg base CX0 k f fd ps sp
abbrev OkX (X : Cx) (k : Nat) (x : Str) (sp : Sp) : Prop := Ok X.prog X.w X.K X.mg X.base k x sp
def EF : XK := fun _ _ _ => False
def spR (n : Nat) (r : List D → D → Prop) : Sp := fun vs H Q _ => vs.length = n ∧ ∃ ds d, RepL H ds vs ∧ r ds d ∧ ∀ v H', Same H H' → Rep H' d v → Q v H'
abbrev FnP (K : PySem.W.Frag) (x q : Str) (st : Stmt) (f : Addr) (fd : FuncData) : Prop := FunD K x q (defArgs st) (defBody st) (defScope st) [] [] f fd
section
variable {P : Program} {w : World} {K : PySem.W.Frag} {mg : Str → Option Value} {base : Heap} {f : Addr} {fd : FuncData}
/-- a def, found and bound: what its body must give -/
theorem fnOk {x q : Str} {st : Stmt} {N ps : List Str} {k : Nat} {sp : Sp} (F : FnP K x q st f fd) (S : FnScope N ps (defScope st)) (hl : ∀ vs H Q E, sp vs H Q E → vs.length = ps.length)
    (hb : ∀ (cdv : Value) (A : Around) (outer : List Env) (s : Shared) (H : Hp) (vs : List V) (Q : VK) (E : XK), Room k (A.deeper (envOfC q (defScope st) s.heap.objs.size f cdv)) → sp vs H Q E →
      WSs (cxOf CX0 P w K mg base N q (defScope st) f cdv A outer s H E).nox (defBody st) ⟨fun _ H' => Q .non H', Q, fun _ _ => False, fun _ _ => False⟩ (L2.start N vs) H) : FnOk P w K mg base CX0 (k + 1) f fd ps sp :=
  FunD.ok F S hl fun cdv A outer s H vs Q E hr h => ⟨_, PSs.nox pss_w, hb cdv A outer s H vs Q E hr h⟩
theorem okR {x q : Str} {st : Stmt} {N ps : List Str} {k : Nat} {r : List D → D → Prop} (F : FnP K x q st f fd) (S : FnScope N ps (defScope st))
    (hb : ∀ (cdv : Value) (A : Around) (outer : List Env) (s : Shared) (H : Hp) (vs : List V) (ds : List D) (d : D) (E : XK) (D : Ends), Room k (A.deeper (envOfC q (defScope st) s.heap.objs.size f cdv)) → RepL H ds vs → r ds d →
      (∀ v H', Same H H' → Rep H' d v → D.rt v H') → WSs (cxOf CX0 P w K mg base N q (defScope st) f cdv A outer s H E).nox (defBody st) D (L2.start N vs) H) : FnOk P w K mg base CX0 (k + 1) f fd ps (spR ps.length r) := by
  refine fnOk F S (fun vs H Q E h => h.1) fun cdv A outer s H vs Q E hr h => ?_
  obtain ⟨hl, ds, d, rl, hrd, hq⟩ := h
  exact hb cdv A outer s H vs ds d E ⟨fun _ H' => Q .non H', Q, fun _ _ => False, fun _ _ => False⟩ hr rl hrd hq
end
section
variable {X : Cx} {e a b c : Expr} {es : List Expr} {σ : L2.St} {H H' : Hp} {d d1 d2 : D} {ds : List D} {pos p : Pos} {DE : Ends} {k n : Nat} {x : Str} {sp : Sp}
theorem we_call {Q : VK} (h : OkX X k x sp) (hr : Room k X.A) (hg : Gl X x) (ha : WA X (e :: es) σ H fun vs H1 => sp vs H1 Q EF) (hdb : (x == ("__debug__" : Str)) = false := by decide)
    (he : starEach (e :: es) X.env = (false, eval e X.env) :: starEach es X.env := by rfl) (hpl : (backTo pos (starEach es X.env)).any (·.1) = false := by rfl) : WE X (.Call (.Name x p) (e :: es) [] pos) σ H Q := by
  obtain ⟨f, fd, ps, h1, h2, h3, h4⟩ := h
  refine we (pe_call (E := EF) h4 hr hg h1 h2 h3 .nil pass0 pa_w hdb he hpl) ?_
  exact ha.mono fun vs H1 q => by rw [List.append_nil]; exact q
theorem ev_call {r : List Nr.D → Nr.D → Prop} (h : OkX X k x (spR n r)) (hr : Room k X.A) (hg : Gl X x) (ha : EA X (e :: es) σ H ds) (hl : ds.length = n) (hrd : r ds d) (hdb : (x == ("__debug__" : Str)) = false := by decide)
    (he : starEach (e :: es) X.env = (false, eval e X.env) :: starEach es X.env := by rfl) (hpl : (backTo pos (starEach es X.env)).any (·.1) = false := by rfl) : EV X (.Call (.Name x p) (e :: es) [] pos) σ H d := fun H1 s =>
  we_call h hr hg ((ha H1 s).mono fun vs H2 ⟨s2, r2⟩ => ⟨by rw [r2.length]; exact hl, ds, d, r2, hrd, fun v H3 s3 rv => ⟨s2.trans s3, rv⟩⟩) hdb he hpl

/-! ### statements -/
theorem ws_set {y : Str} {pos' : Pos} (i : Nat) (hN : X.N.Nodup) (h : WE X e σ H fun v H1 => DE.nx (σ.set i (some v)) H1) (hi : X.N[i]? = some y := by rfl) (hx : Loc X.env.scope y := by first | exact Or.inl rfl | exact Or.inr rfl)
    (hs : swapsWith e (some (.Name y pos')) pos.line X.env = pure false := by rfl) (hf : X.fn y = true ∨ X.env.scope.names.lookup y = some .local := by first | exact .inl rfl | exact .inr rfl) : WS X (.Assign [.Name y pos'] e pos) DE σ H := ws (ps_set hN hi hx pe_w hs hf) h
theorem pgn {y : Str} (i : Nat) (hN : X.N.Nodup) (hi : X.N[i]? = some y := by rfl) (hx : Loc X.env.scope y := by first | exact Or.inl rfl | exact Or.inr rfl) (hf : X.fn y = true ∨ X.env.scope.names.lookup y = some .local := by first | exact .inl rfl | exact .inr rfl) : PG X (.Name y pos) (gName i) := pg_name hN hi hx hf
theorem rep_int {i : Int} : Rep H (.int i) (.int i) := rfl
/-- (a, b) = a pair -/
theorem ws_pair {y z : Str} {py pz pt : Pos} {kt : Nat} (i j : Nat) (hc : X.calm = true) (hN : X.N.Nodup) (h : EV X e σ H (.tup [d1, d2])) (k : ∀ v1 v2 H2, Same H H2 → Rep H2 d1 v1 → Rep H2 d2 v2 → DE.nx ((σ.set i (some v1)).set j (some v2)) H2) (hi : X.N[i]? = some y := by rfl) (hj : X.N[j]? = some z := by rfl) (hx : Loc X.env.scope y := by first | exact Or.inl rfl | exact Or.inr rfl) (hz : Loc X.env.scope z := by first | exact Or.inl rfl | exact Or.inr rfl)
    (hf : X.fn y = true ∨ X.env.scope.names.lookup y = some .local := by first | exact .inl rfl | exact .inr rfl) (hg : X.fn z = true ∨ X.env.scope.names.lookup z = some .local := by first | exact .inl rfl | exact .inr rfl) (hs : swapsWithSole [.Tuple [.Name y py, .Name z pz] kt pt] e pos.line X.env = pure false := by rfl) (hw : swappedStores [.Tuple [.Name y py, .Name z pz] kt pt] e X.env = pure none := by rfl)
    (h1 : (assignEach [.Tuple [.Name y py, .Name z pz] kt pt] X.env).map (·.2) = [assign (.Tuple [.Name y py, .Name z pz] kt pt) X.env] := by rfl) (hn : (assignEach [.Name y py, .Name z pz] X.env).length = 2 := by rfl) (hst : (assignEach [.Name y py, .Name z pz] X.env).findIdx? (·.1) = none := by rfl)
    (c1 : (assignEach [.Name y py, .Name z pz] X.env).map (·.2) = assign (.Name y py) X.env :: (assignEach [.Name z pz] X.env).map (·.2) := by rfl) (c2 : (assignEach [.Name z pz] X.env).map (·.2) = assign (.Name z pz) X.env :: (assignEach [] X.env).map (·.2) := by rfl) : WS X (.Assign [.Tuple [.Name y py, .Name z pz] kt pt] e pos) DE σ H := by
  refine ws (ps_asg pe_w (pg_tup (n := 2) hc (pgs_cons (pg_name hN hi hx hf) (pgs_cons (pg_name hN hj hz hg) pgs_nil c2) c1) hn hst) hs hw h1) (h.now.mono fun v H2 ⟨s2, rv⟩ => ?_)
  obtain ⟨a, vs, ev, ha, v1, _, evs, r1, v2, _, e2, r2, hnil⟩ := rv
  obtain rfl := hnil
  exact ⟨a, vs, ev, SqT.of ha, by rw [evs, e2]; rfl, v1, [v2], by rw [evs, e2], ⟨v2, [], rfl, rfl, k v1 v2 H2 s2 r1 r2⟩⟩
theorem ws_asg {tg : Expr} {g : TG} (hg : PG X tg g) (h : WE X e σ H fun v H1 => g v σ H1 DE.nx) (hs : swapsWithSole [tg] e pos.line X.env = pure false := by rfl) (hw : swappedStores [tg] e X.env = pure none := by rfl)
    (h1 : (assignEach [tg] X.env).map (·.2) = [assign tg X.env] := by rfl) : WS X (.Assign [tg] e pos) DE σ H := ws (ps_asg pe_w hg hs hw h1) h
theorem ws_if {s1 s2 : List Stmt} (h : WT X c σ H fun b H1 => if b = true then WSs X s1 DE σ H1 else WSs X s2 DE σ H1) : WS X (.If c s1 s2 pos) DE σ H := ws (ps_if pt_w pss_w pss_w) h
theorem ws_ifB {s1 s2 : List Stmt} (t : Bool) (h : ET X c σ H t) (k1 : t = true → ∀ H1, Same H H1 → WSs X s1 DE σ H1) (k2 : t = false → ∀ H1, Same H H1 → WSs X s2 DE σ H1) : WS X (.If c s1 s2 pos) DE σ H := by
  refine ws_if (h.now.mono fun c' H1 ⟨ec, s⟩ => ?_)
  rw [ec]
  cases t with
  | true => rw [if_pos rfl]; exact k1 rfl H1 s
  | false => rw [if_neg Bool.false_ne_true]; exact k2 rfl H1 s
theorem ws_ret (h : WE X e σ H DE.rt) : WS X (.Return (some e) pos) DE σ H := ws (ps_ret pe_w) h
theorem ws_retV (h : EV X e σ H d) (k : ∀ v H', Same H H' → Rep H' d v → DE.rt v H') : WS X (.Return (some e) pos) DE σ H := ws_ret (h.now.mono fun v H2 ⟨s, r⟩ => k v H2 s r)
theorem ws_expr (h : WE X e σ H fun _ H1 => DE.nx σ H1) (hs : swapsWith e none pos.line X.env = pure false := by rfl) : WS X (.Expr e pos) DE σ H := ws (ps_expr pe_w hs) h

/-- a loop's turns -/
def ForW (X : Cx) (g : TG) (body : List Stmt) (DE : Ends) (J : It) (σ : L2.St) (H1 : Hp) : Prop := ∃ W : Nat → Nat → L2.St → Hp → Prop, (∃ m, W 0 m σ H1) ∧ ∀ i m σ H, W i m σ H →
  (J.stop i H ∧ DE.nx σ H) ∨ (J.go i H ∧ ∃ N : L2.St → Hp → Prop, (∀ σ' H', N σ' H' → ∃ m', m' < m ∧ W (i + 1) m' σ' H') ∧ ∀ x H', J.yld i H x H' → g x σ H' fun σ2 H2 => WSs X body { DE with nx := N, ct := N, bk := DE.nx } σ2 H2)
theorem ws_for {tg iter : Expr} {body : List Stmt} {g : TG} (hp : PassesOwn (model X.prog X.w) X.A X.env X.xe) (hc : X.calm = true) (hg : PG X tg g) (hi : WI X tg iter σ H fun J H1 => ForW X g body DE J σ H1)
    (hs : ∀ x, foldedSetIterable iter X.env x = pure x := by intro _; rfl) : WS X (.For tg iter body [] pos) DE σ H := ws (ps_for hp hc pi_w hg pss_w hs) hi
theorem forW {g : TG} {body : List Stmt} {J : It} {C : Hp → Prop} (r : Runs J C ds) (Pv : Nat → L2.St → Hp → Prop) (h0 : Pv 0 σ H) (hC : ∀ i σ H, i ≤ ds.length → Pv i σ H → C H)
    (turn : ∀ i d σ H, ds[i]? = some d → Pv i σ H → ∀ v H', Same H H' → Rep H' d v → g v σ H' fun σ2 H2 => WSs X body { DE with nx := Pv (i + 1), ct := Pv (i + 1), bk := DE.nx } σ2 H2)
    (fin : ∀ σ H, Pv ds.length σ H → DE.nx σ H) : ForW X g body DE J σ H := by
  refine ⟨fun i m σ H => m = ds.length - i ∧ i ≤ ds.length ∧ Pv i σ H, ⟨ds.length, by simp, Nat.zero_le _, h0⟩, ?_⟩
  rintro i m σ H ⟨rfl, hi, p⟩
  obtain ⟨r1, r2⟩ := r i H (hC i σ H hi p)
  by_cases hlt : i < ds.length
  · have hd : ds[i]? = some ds[i] := List.getElem?_eq_getElem hlt
    obtain ⟨go, y⟩ := r1 _ hd
    refine .inr ⟨go, Pv (i + 1), fun σ' H' p' => ⟨ds.length - (i + 1), by omega, rfl, hlt, p'⟩, fun x H' hy => ?_⟩
    obtain ⟨s, rx⟩ := y x H' hy
    exact turn i _ σ H hd p x H' s rx
  · have e : i = ds.length := by omega
    exact .inl ⟨r2 e, fin σ H (by rw [← e]; exact p)⟩
theorem ws_while {body : List Stmt} (hp : PassesOwn (model X.prog X.w) X.A X.env X.xe) (Pv : Nat → L2.St → Hp → Prop) {m : Nat} (h0 : Pv m σ H)
    (turn : ∀ m σ H, Pv m σ H → WT X c σ H fun b H1 => if b = true then WSs X body { DE with nx := fun σ' H' => ∃ m', m' < m ∧ Pv m' σ' H', ct := fun σ' H' => ∃ m', m' < m ∧ Pv m' σ' H', bk := DE.nx } σ H1 else DE.nx σ H1) : WS X (.While c body [] pos) DE σ H := by
  refine ws (ps_while hp pt_w pss_w) ⟨Pv, ⟨m, h0⟩, fun m σ H p => (turn m σ H p).mono fun b H1 q => ?_⟩
  cases b with
  | true => exact ⟨_, fun _ _ z => z, q⟩
  | false => exact q

/-! ### tests -/
theorem et_val {t : Bool} (h : EV X e σ H (.bl t)) (he : ∀ whole, isTrue e X.env whole = (do let v ← whole; standAt e.pos; holding [v] (truthy v)) := by intro _; rfl) : ET X e σ H t := fun H1 s =>
  wt (pt_val pe_w he) ((h H1 s).mono fun v H2 ⟨s2, r⟩ => ⟨t, r, rfl, s2⟩)
theorem et_cmp {op : CmpOp} {r : R2} {t : Bool} (ho : OpR X (compareOp op) r) (ha : EV X a σ H d1) (hb : EV X b σ H d2) (hm : behindInMarks op b = false) (hr : ∀ x y H1, Same H H1 → Rep H1 d1 x → Rep H1 d2 y → ∀ Q : VK, (∀ H2, Same H1 H2 → Q (.bl t) H2) → r x y H1 Q) : ET X (.Compare a [op] [b] pos) σ H t := fun H1 s => by
  refine wt (pt_cmpR ho pe_w pe_w hm) ?_
  refine (ha H1 s).mono fun x H2 ⟨s2, rx⟩ => ?_
  refine (hb H2 (s.trans s2)).mono fun y H3 ⟨s3, ry⟩ => ?_
  exact hr x y H3 ((s.trans s2).trans s3) (rx.mono s3) ry _ fun H4 s4 => ⟨t, rfl, rfl, (s2.trans s3).trans s4⟩
theorem et_not {t : Bool} (h : ET X c σ H t) : ET X (.UnaryOp .Not c pos) σ H (!t) := fun H1 s => wt (pt_not pt_w) ((h H1 s).mono fun b H2 ⟨e, s2⟩ => ⟨by rw [e], s2⟩)
theorem et_or {t u : Bool} (h1 : ET X a σ H t) (h2 : t = false → ET X b σ H u) : ET X (.BoolOp .Or [a, b] pos) σ H (t || u) := fun H1 s => by
  refine wt (pw_or pt_w (pw_or1 pt_w)).pt ((h1 H1 s).mono fun c H2 ⟨e, s2⟩ => ?_)
  rw [e]
  cases t with
  | true => exact ⟨rfl, s2⟩
  | false => exact ((h2 rfl) H2 (s.trans s2)).mono fun c' H3 ⟨e', s3⟩ => ⟨by rw [e'] <;> rfl, s2.trans s3⟩
theorem et_and {t u : Bool} (h1 : ET X a σ H t) (h2 : t = true → ET X b σ H u) : ET X (.BoolOp .And [a, b] pos) σ H (t && u) := fun H1 s => by
  refine wt (pw_and pt_w (pw_and1 pt_w)).pt ((h1 H1 s).mono fun c H2 ⟨e, s2⟩ => ?_)
  rw [e]
  cases t with
  | false => exact ⟨rfl, s2⟩
  | true => exact ((h2 rfl) H2 (s.trans s2)).mono fun c' H3 ⟨e', s3⟩ => ⟨by rw [e'] <;> rfl, s2.trans s3⟩
theorem et_and3 {t u z : Bool} (h1 : ET X a σ H t) (h2 : t = true → ET X b σ H u) (h3 : t = true → u = true → ET X c σ H z) : ET X (.BoolOp .And [a, b, c] pos) σ H (t && (u && z)) := fun H1 s => by
  refine wt (pw_and pt_w (pw_and pt_w (pw_and1 pt_w))).pt ((h1 H1 s).mono fun c H2 ⟨e, s2⟩ => ?_)
  rw [e]
  cases t with
  | false => exact ⟨rfl, s2⟩
  | true =>
    refine ((h2 rfl) H2 (s.trans s2)).mono fun c' H3 ⟨e', s3⟩ => ?_
    rw [e']
    cases u with
    | false => exact ⟨rfl, s2.trans s3⟩
    | true => exact ((h3 rfl rfl) H3 ((s.trans s2).trans s3)).mono fun c' H4 ⟨e', s4⟩ => ⟨by rw [e'] <;> rfl, (s2.trans s3).trans s4⟩
theorem ev_if {t : Bool} (h : ET X c σ H t) (h1 : t = true → EV X a σ H d) (h2 : t = false → EV X b σ H d) : EV X (.IfExp c a b pos) σ H d := fun H1 s => by
  refine we (pe_ifExp pt_w pe_w pe_w) ((h H1 s).mono fun c' H2 ⟨e, s2⟩ => ?_)
  rw [e]
  cases t with
  | true => exact ((h1 rfl) H2 (s.trans s2)).mono fun v H3 ⟨s3, r⟩ => ⟨s2.trans s3, r⟩
  | false => exact ((h2 rfl) H2 (s.trans s2)).mono fun v H3 ⟨s3, r⟩ => ⟨s2.trans s3, r⟩
/-- ints -/
theorem et_lt {i j : Int} (ha : EV X a σ H (.int i)) (hb : EV X b σ H (.int j)) (hm : behindInMarks .Lt b = false := by first | exact nobehind _ (by decide) (by decide) | rfl) : ET X (.Compare a [.Lt] [b] pos) σ H (decide (i < j)) :=
  et_cmp op_lt ha hb hm fun x y H1 _ rx ry Q q => ⟨i, j, rx, ry, q _ (Same.refl _)⟩
theorem et_gt {i j : Int} (ha : EV X a σ H (.int i)) (hb : EV X b σ H (.int j)) (hm : behindInMarks .Gt b = false := by first | exact nobehind _ (by decide) (by decide) | rfl) : ET X (.Compare a [.Gt] [b] pos) σ H (decide (j < i)) :=
  et_cmp op_gt ha hb hm fun x y H1 _ rx ry Q q => ⟨i, j, rx, ry, q _ (Same.refl _)⟩
theorem et_ge {i j : Int} (ha : EV X a σ H (.int i)) (hb : EV X b σ H (.int j)) (hm : behindInMarks .GtE b = false := by first | exact nobehind _ (by decide) (by decide) | rfl) : ET X (.Compare a [.GtE] [b] pos) σ H (decide (j ≤ i)) :=
  et_cmp op_ge ha hb hm fun x y H1 _ rx ry Q q => ⟨i, j, rx, ry, q _ (Same.refl _)⟩
theorem ev_lt {i j : Int} (ha : EV X a σ H (.int i)) (hb : EV X b σ H (.int j)) (hm : behindInMarks .Lt b = false := by first | exact nobehind _ (by decide) (by decide) | rfl) : EV X (.Compare a [.Lt] [b] pos) σ H (.bl (decide (i < j))) :=
  ev_cmp op_lt ha hb hm fun x y H1 _ rx ry Q q => ⟨i, j, rx, ry, q _ _ (Same.refl _) rfl⟩
theorem ev_gt {i j : Int} (ha : EV X a σ H (.int i)) (hb : EV X b σ H (.int j)) (hm : behindInMarks .Gt b = false := by first | exact nobehind _ (by decide) (by decide) | rfl) : EV X (.Compare a [.Gt] [b] pos) σ H (.bl (decide (j < i))) :=
  ev_cmp op_gt ha hb hm fun x y H1 _ rx ry Q q => ⟨i, j, rx, ry, q _ _ (Same.refl _) rfl⟩
def Leafy : D → Bool
  | .non => true
  | .int _ => true
  | .str _ => true
  | .bl _ => true
  | .tup _ => false
/-- scalars by == -/
theorem rep_eqL {H : Hp} {d1 d2 : Nr.D} {x y : V} (h1 : Leafy d1 = true) (h2 : Leafy d2 = true) (r1 : Rep H d1 x) (r2 : Rep H d2 y) : (x = y ↔ d1 = d2) := by
  cases d1 <;> cases d2 <;> simp only [Rep] at r1 r2 <;> first | exact (Bool.false_ne_true h1).elim | exact (Bool.false_ne_true h2).elim | (subst r1 r2; simp)
def LeafNB : D → Bool
  | .non => true
  | .int _ => true
  | .str _ => true
  | _ => false
theorem rep_scal {H : Hp} {d1 d2 : Nr.D} {x y : V} (h1 : LeafNB d1 = true) (h2 : LeafNB d2 = true) (r1 : Rep H d1 x) (r2 : Rep H d2 y) : scal x y = true ∧ (x = y ↔ d1 = d2) := by
  cases d1 <;> cases d2 <;> simp only [Rep] at r1 r2 <;> first | exact (Bool.false_ne_true h1).elim | exact (Bool.false_ne_true h2).elim | (subst r1 r2; exact ⟨rfl, by simp⟩)
theorem dec_of {p q : Prop} [Decidable p] {t : Bool} (h : p ↔ q) (ht : t = true ↔ q) : decide p = t := by
  cases t with
  | true => exact decide_eq_true (h.mpr (ht.mp rfl))
  | false => exact decide_eq_false fun z => absurd (ht.mpr (h.mp z)) Bool.false_ne_true
theorem ev_eqL {t : Bool} (ha : EV X a σ H d1) (hb : EV X b σ H d2) (h1 : LeafNB d1 = true) (h2 : LeafNB d2 = true) (ht : t = true ↔ d1 = d2) (hm : behindInMarks .Eq b = false := by first | exact nobehind _ (by decide) (by decide) | rfl) : EV X (.Compare a [.Eq] [b] pos) σ H (.bl t) :=
  ev_cmp op_eq ha hb hm fun x y H1 _ rx ry Q q => by
    obtain ⟨s1, s2⟩ := rep_scal h1 h2 rx ry
    exact ⟨s1, by rw [dec_of s2 ht]; exact q _ _ (Same.refl _) rfl⟩
theorem et_eqL {t : Bool} (ha : EV X a σ H d1) (hb : EV X b σ H d2) (h1 : LeafNB d1 = true) (h2 : LeafNB d2 = true) (ht : t = true ↔ d1 = d2) (hm : behindInMarks .Eq b = false := by first | exact nobehind _ (by decide) (by decide) | rfl) : ET X (.Compare a [.Eq] [b] pos) σ H t :=
  et_cmp op_eq ha hb hm fun x y H1 _ rx ry Q q => by
    obtain ⟨s1, s2⟩ := rep_scal h1 h2 rx ry
    exact ⟨s1, by rw [dec_of s2 ht]; exact q _ (Same.refl _)⟩
theorem et_neL {t : Bool} (ha : EV X a σ H d1) (hb : EV X b σ H d2) (h1 : LeafNB d1 = true) (h2 : LeafNB d2 = true) (ht : t = true ↔ d1 = d2) (hm : behindInMarks .NotEq b = false := by first | exact nobehind _ (by decide) (by decide) | rfl) : ET X (.Compare a [.NotEq] [b] pos) σ H (!t) :=
  et_cmp op_ne ha hb hm fun x y H1 _ rx ry Q q => by
    obtain ⟨s1, s2⟩ := rep_scal h1 h2 rx ry
    exact ⟨s1, by rw [dec_of s2 ht]; exact q _ (Same.refl _)⟩
theorem et_eqI {i j : Int} (ha : EV X a σ H (.int i)) (hb : EV X b σ H (.int j)) (hm : behindInMarks .Eq b = false := by first | exact nobehind _ (by decide) (by decide) | rfl) : ET X (.Compare a [.Eq] [b] pos) σ H (decide (i = j)) :=
  et_eqL ha hb rfl rfl (by simp) hm
theorem ev_eqI {i j : Int} (ha : EV X a σ H (.int i)) (hb : EV X b σ H (.int j)) (hm : behindInMarks .Eq b = false := by first | exact nobehind _ (by decide) (by decide) | rfl) : EV X (.Compare a [.Eq] [b] pos) σ H (.bl (decide (i = j))) :=
  ev_eqL ha hb rfl rfl (by simp) hm
theorem et_neI {i j : Int} (ha : EV X a σ H (.int i)) (hb : EV X b σ H (.int j)) (hm : behindInMarks .NotEq b = false := by first | exact nobehind _ (by decide) (by decide) | rfl) : ET X (.Compare a [.NotEq] [b] pos) σ H (!decide (i = j)) :=
  et_neL ha hb rfl rfl (by simp) hm
theorem et_eqS {i j : Str} (ha : EV X a σ H (.str i)) (hb : EV X b σ H (.str j)) (hm : behindInMarks .Eq b = false := by first | exact nobehind _ (by decide) (by decide) | rfl) : ET X (.Compare a [.Eq] [b] pos) σ H (decide (i = j)) :=
  et_eqL ha hb rfl rfl (by simp) hm
theorem ev_neI {i j : Int} (ha : EV X a σ H (.int i)) (hb : EV X b σ H (.int j)) (hm : behindInMarks .NotEq b = false := by first | exact nobehind _ (by decide) (by decide) | rfl) : EV X (.Compare a [.NotEq] [b] pos) σ H (.bl (!decide (i = j))) :=
  ev_cmp op_ne ha hb hm fun x y H1 _ rx ry Q q => by
    obtain ⟨s1, s2⟩ := rep_scal (d1 := .int i) (d2 := .int j) rfl rfl rx ry
    exact ⟨s1, by rw [dec_of s2 (t := decide (i = j)) (by simp)]; exact q _ _ (Same.refl _) rfl⟩

/-! ### == of data -/
mutual
theorem dp_rep {K : PySem.W.Frag} {H : Hp} : ∀ {d : Nr.D} {v : V}, Rep H d v → Dp K H v (toPy d)
  | .non, _, r => by rw [show _ = V.non from r]; exact .non
  | .bl b, _, r => by rw [show _ = V.bl b from r]; exact .bl b
  | .int b, _, r => by rw [show _ = V.int b from r]; exact .int b
  | .str b, _, r => by rw [show _ = V.str b from r]; exact .str b
  | .tup ds, _, r => by
    obtain ⟨a, vs, e, e1, rl⟩ := r
    rw [e]
    exact .tup (SqT.of e1) (dpAll_rep rl)
theorem dpAll_rep {K : PySem.W.Frag} {H : Hp} : ∀ {ds : List Nr.D} {vs : List V}, RepL H ds vs → DpAll K H vs (toPyL ds)
  | [], _, r => by rw [show _ = [] from r]; exact .nil
  | d :: ds, _, r => by
    obtain ⟨v, vr, e, e1, e2⟩ := r
    rw [e]
    exact .cons (dp_rep e1) (dpAll_rep e2)
end
mutual
def noB : D → Bool
  | .bl _ => false
  | .tup ds => noBL ds
  | _ => true
def noBL : List D → Bool
  | [] => true
  | d :: ds => noB d && noBL ds
end
mutual
theorem eqv_toPy : ∀ (d e : Nr.D), noB d = true → noB e = true → (PyData.eqv (toPy d) (toPy e) = true ↔ d = e)
  | .non, .non, _, _ => by simp [toPy, PyData.eqv]
  | .non, .int _, _, _ => by simp [toPy, PyData.eqv]
  | .non, .str _, _, _ => by simp [toPy, PyData.eqv]
  | .non, .tup _, _, _ => by simp [toPy, PyData.eqv]
  | .int _, .non, _, _ => by simp [toPy, PyData.eqv]
  | .int _, .int _, _, _ => by simp [toPy, PyData.eqv]
  | .int _, .str _, _, _ => by simp [toPy, PyData.eqv]
  | .int _, .tup _, _, _ => by simp [toPy, PyData.eqv]
  | .str _, .non, _, _ => by simp [toPy, PyData.eqv]
  | .str _, .int _, _, _ => by simp [toPy, PyData.eqv]
  | .str _, .str _, _, _ => by simp [toPy, PyData.eqv]
  | .str _, .tup _, _, _ => by simp [toPy, PyData.eqv]
  | .tup _, .non, _, _ => by simp [toPy, PyData.eqv]
  | .tup _, .int _, _, _ => by simp [toPy, PyData.eqv]
  | .tup _, .str _, _, _ => by simp [toPy, PyData.eqv]
  | .tup ds, .tup es, h1, h2 => by
    have h1' : noBL ds = true := by simpa [noB] using h1
    have h2' : noBL es = true := by simpa [noB] using h2
    have := eqvL_toPy ds es h1' h2'
    simpa [toPy, PyData.eqv] using this
  | .bl _, _, h, _ => by simp [noB] at h
  | .non, .bl _, _, h => by simp [noB] at h
  | .int _, .bl _, _, h => by simp [noB] at h
  | .str _, .bl _, _, h => by simp [noB] at h
  | .tup _, .bl _, _, h => by simp [noB] at h
theorem eqvL_toPy : ∀ (ds es : List Nr.D), noBL ds = true → noBL es = true → (PyData.eqvAll (toPyL ds) (toPyL es) = true ↔ ds = es)
  | [], [], _, _ => by simp [toPyL, PyData.eqvAll]
  | [], _ :: _, _, _ => by simp [toPyL, PyData.eqvAll]
  | _ :: _, [], _, _ => by simp [toPyL, PyData.eqvAll]
  | d :: ds, e :: es, h1, h2 => by
    have h1' : noB d = true ∧ noBL ds = true := by simpa [noBL] using h1
    have h2' : noB e = true ∧ noBL es = true := by simpa [noBL] using h2
    have a1 := eqv_toPy d e h1'.1 h2'.1
    have a2 := eqvL_toPy ds es h1'.2 h2'.2
    simp only [toPyL, PyData.eqvAll, Bool.and_eq_true, a1, a2, List.cons.injEq]
end
theorem noB_ints (ns : List Int) : noB (.ints ns) = true := by
  have : ∀ ns : List Int, noBL (ns.map D.int) = true := fun ns => by
    induction ns with
    | nil => rfl
    | cons n ns ih => rw [List.map_cons, noBL, ih] <;> rfl
  rw [noB]
  exact this ns
/-- what is asked of data for == -/
def Sh (d : D) : Prop := SeqAt.shaped (toPy d) = true
theorem et_eqD {t : Bool} (hu : X.A.units + 64 < cLine) (ha : EV X a σ H d1) (hb : EV X b σ H d2) (s1 : Sh d1) (s2 : Sh d2) (n1 : noB d1 = true) (n2 : noB d2 = true) (ht : t = true ↔ d1 = d2) (hm : behindInMarks .Eq b = false := by first | exact nobehind _ (by decide) (by decide) | rfl) : ET X (.Compare a [.Eq] [b] pos) σ H t :=
  et_cmp (op_eqD hu) ha hb hm fun x y H1 _ rx ry Q q => by
    refine ⟨_, _, dp_rep rx, dp_rep ry, s1, s2, ?_⟩
    have e : PyData.eqv (toPy d1) (toPy d2) = t := by
      rw [Bool.eq_iff_iff, eqv_toPy _ _ n1 n2, ht]
    rw [e]
    exact q _ (Same.refl _)
theorem ev_eqD {t : Bool} (hu : X.A.units + 64 < cLine) (ha : EV X a σ H d1) (hb : EV X b σ H d2) (s1 : Sh d1) (s2 : Sh d2) (n1 : noB d1 = true) (n2 : noB d2 = true) (ht : t = true ↔ d1 = d2) (hm : behindInMarks .Eq b = false := by first | exact nobehind _ (by decide) (by decide) | rfl) : EV X (.Compare a [.Eq] [b] pos) σ H (.bl t) :=
  ev_cmp (op_eqD hu) ha hb hm fun x y H1 _ rx ry Q q => by
    refine ⟨_, _, dp_rep rx, dp_rep ry, s1, s2, ?_⟩
    have e : PyData.eqv (toPy d1) (toPy d2) = t := by
      rw [Bool.eq_iff_iff, eqv_toPy _ _ n1 n2, ht]
    rw [e]
    exact q _ _ (Same.refl _) rfl
theorem et_neD {t : Bool} (hu : X.A.units + 64 < cLine) (ha : EV X a σ H d1) (hb : EV X b σ H d2) (s1 : Sh d1) (s2 : Sh d2) (n1 : noB d1 = true) (n2 : noB d2 = true) (ht : t = true ↔ d1 = d2) (hm : behindInMarks .NotEq b = false := by first | exact nobehind _ (by decide) (by decide) | rfl) : ET X (.Compare a [.NotEq] [b] pos) σ H (!t) :=
  et_cmp (op_neD hu) ha hb hm fun x y H1 _ rx ry Q q => by
    refine ⟨_, _, dp_rep rx, dp_rep ry, s1, s2, ?_⟩
    have e : PyData.eqv (toPy d1) (toPy d2) = t := by
      rw [Bool.eq_iff_iff, eqv_toPy _ _ n1 n2, ht]
    rw [e]
    exact q _ (Same.refl _)

/-! ### a scalar in a tuple of scalars -/
theorem flat_leaf {H : Hp} {d : Nr.D} {x : V} (h : LeafNB d = true) (r : Rep H d x) : flatV x = true := by
  cases d <;> simp only [Rep] at r <;> first | exact (Bool.false_ne_true h).elim | (subst r; rfl)
theorem eqV_leaf {H : Hp} {d1 d2 : Nr.D} {x y : V} (h1 : LeafNB d1 = true) (h2 : LeafNB d2 = true) (r1 : Rep H d1 x) (r2 : Rep H d2 y) : (eqV x y = true ↔ d1 = d2) := by
  cases d1 <;> cases d2 <;> simp only [Rep] at r1 r2 <;> first | exact (Bool.false_ne_true h1).elim | exact (Bool.false_ne_true h2).elim | (subst r1 r2; simp [eqV])
theorem in_leaf {H : Hp} {x : V} {d : Nr.D} (h : LeafNB d = true) (r : Rep H d x) : ∀ {ds : List Nr.D} {vs : List V}, (∀ e ∈ ds, LeafNB e = true) → RepL H ds vs → vs.all flatV = true ∧ (inV x vs = true ↔ d ∈ ds)
  | [], vs, _, rl => by
    rw [show vs = [] from rl]
    exact ⟨rfl, by simp [inV]⟩
  | e :: ds, vs, hd, rl => by
    obtain ⟨v, vr, ev, r1, r2⟩ := rl
    obtain ⟨i1, i2⟩ := in_leaf h r (fun z hz => hd z (List.mem_cons_of_mem _ hz)) r2
    have he := hd e List.mem_cons_self
    rw [ev]
    refine ⟨by rw [List.all_cons, i1, flat_leaf he r1] <;> rfl, ?_⟩
    have e1 : inV x (v :: vr) = (eqV v x || inV x vr) := rfl
    rw [e1, Bool.or_eq_true, i2, eqV_leaf he h r1 r, List.mem_cons]
    constructor
    · rintro (z | z)
      · exact .inl z.symm
      · exact .inr z
    · rintro (z | z)
      · exact .inl z.symm
      · exact .inr z
theorem inV_t {x : V} {vs : List V} {t : Bool} {p : Prop} (h : inV x vs = true ↔ p) (ht : t = true ↔ p) : inV x vs = t := by rw [Bool.eq_iff_iff, h, ht]
theorem et_inT {t : Bool} (ha : EV X a σ H d) (hb : EV X b σ H (.tup ds)) (h1 : LeafNB d = true) (h2 : ∀ e ∈ ds, LeafNB e = true) (ht : t = true ↔ d ∈ ds) (hm : behindInMarks .In b = false := by rfl) : ET X (.Compare a [.In] [b] pos) σ H t :=
  et_cmp op_in_seq ha hb hm fun x y H1 _ rx ry Q q => by
    obtain ⟨p, vs, e, e1, rl⟩ := ry
    obtain ⟨i1, i2⟩ := in_leaf h1 rx h2 rl
    refine ⟨p, vs, e, .inr (SqT.of e1), flat_leaf h1 rx, i1, ?_⟩
    rw [inV_t i2 ht]
    exact q _ (Same.refl _)
theorem ev_inT {t : Bool} (ha : EV X a σ H d) (hb : EV X b σ H (.tup ds)) (h1 : LeafNB d = true) (h2 : ∀ e ∈ ds, LeafNB e = true) (ht : t = true ↔ d ∈ ds) (hm : behindInMarks .In b = false := by rfl) : EV X (.Compare a [.In] [b] pos) σ H (.bl t) :=
  ev_cmp op_in_seq ha hb hm fun x y H1 _ rx ry Q q => by
    obtain ⟨p, vs, e, e1, rl⟩ := ry
    obtain ⟨i1, i2⟩ := in_leaf h1 rx h2 rl
    refine ⟨p, vs, e, .inr (SqT.of e1), flat_leaf h1 rx, i1, ?_⟩
    rw [inV_t i2 ht]
    exact q _ _ (Same.refl _) rfl
theorem et_ninT {t : Bool} (ha : EV X a σ H d) (hb : EV X b σ H (.tup ds)) (h1 : LeafNB d = true) (h2 : ∀ e ∈ ds, LeafNB e = true) (ht : t = true ↔ d ∈ ds) (hm : behindInMarks .NotIn b = false := by rfl) : ET X (.Compare a [.NotIn] [b] pos) σ H (!t) :=
  et_cmp op_notIn_seq ha hb hm fun x y H1 _ rx ry Q q => by
    obtain ⟨p, vs, e, e1, rl⟩ := ry
    obtain ⟨i1, i2⟩ := in_leaf h1 rx h2 rl
    refine ⟨p, vs, e, .inr (SqT.of e1), flat_leaf h1 rx, i1, ?_⟩
    rw [inV_t i2 ht]
    exact q _ (Same.refl _)

/-! ### tuples: together, cut, repeated, their length -/
theorem ev_catT {xs ys : List Nr.D} (ha : EV X a σ H (.tup xs)) (hb : EV X b σ H (.tup ys)) (hl : xs.length + ys.length ≤ sizeLine) : EV X (.BinOp a .Add b pos) σ H (.tup (xs ++ ys)) :=
  ev_op op_catA ha hb fun x y H1 _ rx ry Q q => by
    obtain ⟨p1, vs, e, e1, rl⟩ := id rx
    obtain ⟨p2, us, g, g1, ru⟩ := id ry
    refine ⟨p1, p2, vs, us, e, g, SqT.of e1, SqT.of g1, by rw [rl.length, ru.length]; exact hl, fun ev => ?_, fun _ ev => ?_, fun _ _ p hp => ?_⟩
    · have : xs = [] := List.eq_nil_of_length_eq_zero (by rw [← rl.length, ev]; rfl)
      subst this
      rw [← g]
      exact q _ _ (Same.refl _) ry
    · have : ys = [] := List.eq_nil_of_length_eq_zero (by rw [← ru.length, ev]; rfl)
      subst this
      rw [List.append_nil] at q
      rw [← e]
      exact q _ _ (Same.refl _) rx
    · exact q _ _ (same_new hp) ⟨p, _, rfl, upd_same, (rl.append ru).mono (same_new hp)⟩
def cutD (ds : List D) (lo hi : Option Int) : List D := (ds.drop (HT.sIx ds.length 0 lo)).take (HT.sIx ds.length ds.length hi - HT.sIx ds.length 0 lo)
theorem repL_drop {H : Hp} : ∀ (i : Nat) {ds : List Nr.D} {vs : List V}, RepL H ds vs → RepL H (ds.drop i) (vs.drop i)
  | 0, _, _, r => r
  | i + 1, [], vs, r => by rw [show vs = [] from r] <;> exact rfl
  | i + 1, d :: ds, vs, r => by
    obtain ⟨v, vr, e, _, e2⟩ := r
    rw [e]
    exact repL_drop i e2
theorem repL_take {H : Hp} : ∀ (i : Nat) {ds : List Nr.D} {vs : List V}, RepL H ds vs → RepL H (ds.take i) (vs.take i)
  | 0, _, _, r => rfl
  | i + 1, [], vs, r => by rw [show vs = [] from r] <;> exact rfl
  | i + 1, d :: ds, vs, r => by
    obtain ⟨v, vr, e, e1, e2⟩ := r
    rw [e]
    exact ⟨v, _, rfl, e1, repL_take i e2⟩
def WO (X : Cx) (e : Option Expr) : TO := fun σ H Q => ∀ (pins : List (Addr × Obj)) (s : Shared), Inv X pins σ H s → wpAny (model X.prog X.w) X.A (evalPart e X.env) (fun u s' => ∃ o H', Inv X pins σ H' s' ∧ IsPart u o ∧ Q o H') X.xe s
theorem po_w {e : Option Expr} : PO X e (WO X e) := ⟨fun pins s σ H Q I h => h pins s I⟩
/-- a slice's end -/
def EO (X : Cx) (e : Option Expr) (σ : L2.St) (H : Hp) (o : Option Int) : Prop := ∀ H1, Same H H1 → WO X e σ H1 fun o' H2 => o' = o ∧ Same H1 H2
theorem eo_none : EO X none σ H none := fun H1 _ pins s I => po_none.run pins s σ H1 _ I ⟨rfl, Same.refl _⟩
theorem eo_some {i : Int} (h : EV X e σ H (.int i)) : EO X (some e) σ H (some i) := fun H1 s pins sh I => (po_some pe_w).run pins sh σ H1 _ I ((h H1 s).mono fun v H2 ⟨s2, r⟩ => ⟨i, r, rfl, s2⟩)
theorem WO.mono {e : Option Expr} {Q Q' : Option Int → Hp → Prop} (h : WO X e σ H Q) (k : ∀ v H', Q v H' → Q' v H') : WO X e σ H Q' := fun pins s I =>
  thn (h pins s I) fun u s' ⟨v, H', I', r, q⟩ => ⟨v, H', I', r, k v H' q⟩
theorem ev_slT {lo hi : Option Expr} {l h : Option Int} {p2 : Pos} (ha : EV X a σ H (.tup ds)) (h1 : EO X lo σ H l) (h2 : EO X hi σ H h) : EV X (.Subscript a (.Slice lo hi none p2) pos) σ H (.tup (cutD ds l h)) := fun H1 s => by
  refine we (pe_slice sl_tupA pe_w po_w po_w) ((ha H1 s).mono fun x H2 ⟨s2, rx⟩ => (h1 H2 (s.trans s2)).mono fun l' H3 ⟨e3, s3⟩ => (h2 H3 ((s.trans s2).trans s3)).mono fun h' H4 ⟨e4, s4⟩ => ?_)
  rw [e3, e4]
  have s24 := s3.trans s4
  obtain ⟨p, vs, e, e1, rl⟩ := rx.mono s24
  refine ⟨p, vs, e, SqT.of e1, fun z => ⟨s2.trans s24, ?_⟩, fun _ p hp => ⟨(s2.trans s24).trans (same_new hp), ?_⟩⟩
  · have : cutD ds l h = ds := by
      unfold cutD
      rw [← rl.length, z.1, z.2, List.drop_zero, rl.length, Nat.sub_zero, List.take_length]
    rw [this]
    exact ⟨p, vs, rfl, e1, rl⟩
  · refine ⟨p, _, rfl, upd_same, ?_⟩
    unfold cutV cutD
    rw [rl.length]
    exact (repL_take _ (repL_drop _ rl)).mono (same_new hp)
theorem ev_lenT (h : EV X e σ H (.tup ds)) (hg : Gl X "len") (hm : X.mg "len" = none) (he : starEach [e] X.env = (false, eval e X.env) :: starEach [] X.env := by rfl) : EV X (.Call (.Name "len" p) [e] [] pos) σ H (.int (ds.length : Int)) := fun H1 s => by
  refine we (pe_callB call_len_seq hg hm PySem.boot_len (pa_cons pe_w pa_nil he) (by decide) (by decide) he rfl) ?_
  refine (h H1 s).mono fun v H2 ⟨s2, q, vs, e0, e1, r⟩ => ?_
  rw [e0]
  refine ⟨q, vs, rfl, .inr (SqT.of e1), s2, ?_⟩
  rw [r.length] <;> rfl
/-- a list that stands -/
def LV (X : Cx) (e : Expr) (σ : L2.St) (H : Hp) (ds : List Nr.D) : Prop := ∀ H1, Same H H1 → WE X e σ H1 fun v H2 => Same H1 H2 ∧ ∃ l vs, v = .ref l ∧ H2 l = some (.lst vs) ∧ RepL H2 ds vs
theorem EL.lv (h : EL X e σ H ds) : LV X e σ H ds := fun H1 s => (h H1 s).mono fun v H2 ⟨l, vs, e, _, s2, h2, r⟩ => ⟨s2, l, vs, e, h2, r⟩
theorem lv_name (i : Nat) {x : Str} {l : Addr} {vs : List V} (h : σ[i]? = some (some (.ref l))) (hl : H l = some (.lst vs)) (r : RepL H ds vs) (hN : X.N[i]? = some x := by rfl) (hv : Vis X.env.scope x := by first | exact Or.inl rfl | exact Or.inr (Or.inl rfl) | exact Or.inr (Or.inr rfl))
    (hd : (x == ("__debug__" : Str)) = false := by decide) (hcd : (x == ("__classdict__" : Str)) = false := by decide) : LV X (.Name x pos) σ H ds := fun H1 s =>
  we (pe_var hN hv hd hcd) ⟨.ref l, h, Same.refl _, l, vs, rfl, s _ _ hl, r.mono s⟩
theorem LV.mono (h : LV X e σ H ds) (s : Same H H') : LV X e σ H' ds := fun H1 s1 => h H1 (s.trans s1)
theorem LV.now (h : LV X e σ H ds) : WE X e σ H fun v H2 => Same H H2 ∧ ∃ l vs, v = .ref l ∧ H2 l = some (.lst vs) ∧ RepL H2 ds vs := h H (Same.refl H)
theorem src_lv {tg : Expr} (h : LV X e σ H ds) : Src X tg e σ H ds := fun H1 s1 => by
  refine wi (pi_list pe_w) ?_
  refine (h H1 s1).mono fun x H2 ⟨s2, l, vs, e0, h2, rl⟩ => ?_
  refine ⟨l, e0, ⟨vs, SqL.of h2⟩, s2, fun i H3 m => ⟨fun d hd => ?_, fun hi => ?_⟩⟩
  · obtain ⟨v, hv, rv⟩ := rl.get hd
    refine ⟨⟨vs, v, SqL.of (m _ _ h2), hv⟩, fun x H' y => ?_⟩
    obtain ⟨e, y⟩ := y
    have y1 := y vs (SqL.of (m _ _ h2))
    rw [hv] at y1
    rw [e, ← Option.some.inj y1]
    exact ⟨Same.refl _, rv.mono m⟩
  · exact ⟨vs, SqL.of (m _ _ h2), by rw [rl.length, hi]; exact Nat.le_refl _⟩
theorem ev_lenL (h : LV X e σ H ds) (hg : Gl X "len") (hm : X.mg "len" = none) (he : starEach [e] X.env = (false, eval e X.env) :: starEach [] X.env := by rfl) : EV X (.Call (.Name "len" p) [e] [] pos) σ H (.int (ds.length : Int)) := fun H1 s => by
  refine we (pe_callB call_len_seq hg hm PySem.boot_len (pa_cons pe_w pa_nil he) (by decide) (by decide) he rfl) ?_
  refine (h H1 s).mono fun v H2 ⟨s2, q, vs, e0, e1, r⟩ => ?_
  rw [e0]
  refine ⟨q, vs, rfl, .inl (SqL.of e1), s2, ?_⟩
  rw [r.length] <;> rfl
theorem ev_tupleL (h : LV X e σ H ds) (hg : Gl X "tuple") (hm : X.mg "tuple" = none) (he : starEach [e] X.env = (false, eval e X.env) :: starEach [] X.env := by rfl) : EV X (.Call (.Name "tuple" p) [e] [] pos) σ H (.tup ds) := fun H1 s => by
  refine we (pe_callTy call_tuple_of hg hm (by decide +kernel) (pa_cons pe_w pa_nil he) (by decide) (by decide) he rfl) ?_
  refine (h H1 s).mono fun v H2 ⟨s2, l, vs, e0, e1, r⟩ => ?_
  rw [e0]
  exact ⟨l, vs, rfl, .inl ⟨SqL.of e1, fun p hp => ⟨s2.trans (same_new hp), p, vs, rfl, upd_same, r.mono (same_new hp)⟩⟩⟩
/-- tuple(range(n)) goes by another road; list(t), list(l) -/
theorem el_listT (h : EV X e σ H (.tup ds)) (hg : Gl X "list") (hm : X.mg "list" = none) (he : starEach [e] X.env = (false, eval e X.env) :: starEach [] X.env := by rfl) : EL X (.Call (.Name "list" p) [e] [] pos) σ H ds := fun H1 s => by
  refine we (pe_callTy call_list_of hg hm (by decide +kernel) (pa_cons pe_w pa_nil he) (by decide) (by decide) he rfl) ?_
  refine (h H1 s).mono fun v H2 ⟨s2, l, vs, e0, e1, r⟩ => ?_
  rw [e0]
  exact ⟨l, vs, rfl, .inr (SqT.of e1), fun p hp => ⟨p, vs, rfl, Same.free s2 hp, s2.trans (same_new hp), upd_same, r.mono (same_new hp)⟩⟩
theorem el_listL (h : LV X e σ H ds) (hg : Gl X "list") (hm : X.mg "list" = none) (he : starEach [e] X.env = (false, eval e X.env) :: starEach [] X.env := by rfl) : EL X (.Call (.Name "list" p) [e] [] pos) σ H ds := fun H1 s => by
  refine we (pe_callTy call_list_of hg hm (by decide +kernel) (pa_cons pe_w pa_nil he) (by decide) (by decide) he rfl) ?_
  refine (h H1 s).mono fun v H2 ⟨s2, l, vs, e0, e1, r⟩ => ?_
  rw [e0]
  exact ⟨l, vs, rfl, .inl (SqL.of e1), fun p hp => ⟨p, vs, rfl, Same.free s2 hp, s2.trans (same_new hp), upd_same, r.mono (same_new hp)⟩⟩
/-- l + m of lists -/
theorem el_cat {xs ys : List Nr.D} (ha : LV X a σ H xs) (hb : LV X b σ H ys) (hl : xs.length + ys.length ≤ sizeLine) : EL X (.BinOp a .Add b pos) σ H (xs ++ ys) := fun H1 s => by
  refine we (pe_op op_cat pe_w pe_w) ?_
  refine (ha H1 s).mono fun x H2 ⟨s2, l1, v1, e1, h1, r1⟩ => ?_
  refine (hb H2 (s.trans s2)).mono fun y H3 ⟨s3, l2, v2, e2, h2, r2⟩ => ?_
  have r1' := r1.mono s3
  exact ⟨l1, l2, v1, v2, e1, e2, s3 _ _ h1, h2, by rw [r1.length, r2.length]; exact hl, fun p hp => ⟨p, _, rfl, Same.free (s2.trans s3) hp, (s2.trans s3).trans (same_new hp), upd_same, (r1'.append r2).mono (same_new hp)⟩⟩
/-- l[i] of a list that stands -/
theorem ev_ixL {i : Nat} (ha : LV X a σ H ds) (hb : EV X b σ H (.int (i : Int))) (hd : ds[i]? = some d) (hs : PlainIx b := by exact fun _ _ => rfl) : EV X (.Subscript a b pos) σ H d := fun H1 s => by
  refine we (pe_ix ix_list pe_w pe_w hs) ?_
  refine (ha H1 s).mono fun x H2 ⟨s2, l, vs, e, h2, rl⟩ => ?_
  refine (hb H2 (s.trans s2)).mono fun y H3 ⟨s3, ry⟩ => ?_
  obtain ⟨v, hv, rv⟩ := rl.get hd
  exact ⟨l, vs, (i : Int), v, e, ry, SqL.of (s3 _ _ h2), atI_nat hv, s2.trans s3, rv.mono s3⟩
end
end Nr
/-! Comprehensions with any number of clauses, lists and dicts, by one engine. -/
namespace Nr
open PySem PySem.Spec L2
open PyProof.Rows hiding St

/-- how a step goes on: a state to one of the heaps wanted -/
abbrev TStep := L2.St → Hp → (Hp → Prop) → Prop
def testsOf (env : Env) (ifs : List Expr) : Sem Bool := forIn ifs true fun c r => if r = true then do let ok ← isTrue c env (eval c env); pure (ForInStep.yield ok) else pure (ForInStep.yield r)
/-- the turn of one clause, body what is done with an item that stays -/
def turnF (code : Code) (tg iter : Expr) (ifs : List Expr) (body : Sem Fin) (it : Value) (env : Env) : Sem Fin :=
  standAt iter.pos >>= fun _ => pyNext it >>= fun r => match r with
  | none => pure (.done .next)
  | some v => letOwnedTupleGo tg it v >>= fun _ => assign tg env v >>= fun _ => testsOf env ifs >>= fun ok => if ok = true then body else again code
/-- a body: it goes on with the loop; the slots vs are forgotten behind it -/
def BodyOk (Y : Cx) (code : Code) (body : Sem Fin) (t : TStep) (vs : List Nat) : Prop :=
  ∀ (pins : List (Addr × Obj)) (s : Shared) (σ : L2.St) (H : Hp) (N : Hp → Prop), Inv Y pins σ H s → t σ H N →
    wpAny (model Y.prog Y.w) Y.A body (fun r s' => r = .again code ∧ ∃ H', Inv Y pins (wipe σ vs) H' s' ∧ N H') (fun _ _ => False) s
/-- a clause's loop -/
def tCl (J : It) (g : TG) (tt : TT) (t : TStep) (us : List Nat) : TStep := fun σ H N => ∃ W : Nat → Nat → Hp → Prop, (∃ m, W 0 m H) ∧ ∀ i m H, W i m H →
  (J.stop i H ∧ N H) ∨ (J.go i H ∧ ∃ Nx : Hp → Prop, (∀ H', Nx H' → ∃ m', m' < m ∧ W (i + 1) m' H') ∧ ∀ x H', J.yld i H x H' → g x (wipe σ us) H' fun σ2 H2 => wipe σ2 us = wipe σ us ∧ tt σ2 H2 fun b H3 => if b = true then t σ2 H3 Nx else Nx H3)
def LoopP (Y : Cx) (code : Code) (J : It) (fp : List Addr) (tn : Nat → Heap → Prop) (pins : List (Addr × Obj)) (us : List Nat) (σ : L2.St) (N : Hp → Prop) (s : Shared) : Prop :=
  codeAny (model Y.prog Y.w) Y.A code (fun r s' => match r with
    | .ok f => f = .next ∧ ∃ H', Inv Y pins (wipe σ us) H' s' ∧ N H'
    | .error _ => False) s
theorem wipe_keep {σ σ2 : L2.St} {us vs : List Nat} (h : wipe σ2 us = wipe σ us) (hv : ∀ i ∈ vs, i ∈ us) (j : Nat) (v : V) (e : (wipe σ us)[j]? = some (some v)) : (wipe σ2 vs)[j]? = some (some v) := by
  rw [← h] at e
  obtain ⟨e1, e2⟩ := wipe_some e
  rw [wipe_out fun z => e2 (hv j z)]
  exact e1
/-- the code of a loop's turn, as the model runs it -/
def TurnIs (Y : Cx) (comp : Expr) (j : Nat) (it acc : Value) (m : Sem Fin) : Prop :=
  (Code.compLoop comp j it acc Y.env).quiet = true ∧ Y.A.under (.compLoop comp j it acc Y.env) = Y.A ∧ (model Y.prog Y.w).den (.compLoop comp j it acc Y.env) = m.onRaise fun x => do noteFrame x Y.env; theTreesLotGoes x
section
variable {Y : Cx} {comp tg iter : Expr} {j : Nat} {ifs : List Expr} {body : Value → Sem Fin} {acc : Value} {g : TG} {tt : TT} {t : TStep} {us vs : List Nat}
theorem cl_loop {pins : List (Addr × Obj)} {s : Shared} {σ : L2.St} {H : Hp} {N : Hp → Prop} {J : It} {it : Addr} {fp : List Addr} {tn : Nat → Heap → Prop} (I : Inv Y pins σ H s) (hc : Y.calm = true) (hturn : ∀ it, TurnIs Y comp j it acc (turnF (.compLoop comp j it acc Y.env) tg iter ifs (body it) it Y.env)) (hxe : ∀ v s, Y.xe v s → False)
    (hg : PG Y tg g) (ht : PTs Y ifs tt) (hb : ∀ it, BodyOk Y (.compLoop comp j it acc Y.env) (body it) t vs) (hv : ∀ i ∈ vs, i ∈ us)
    (T : Turn Y.prog Y.w Y.K tg J fp it tn) (st : tn 0 s.heap) (f : ∀ b ∈ fp, FpOk Y pins H b)
    (h : tCl J g tt t us σ H N) : LoopP Y (.compLoop comp j (.ref it) acc Y.env) J fp tn pins us σ N s := by
  obtain ⟨W, ⟨m0, w0⟩, turn⟩ := h
  have stat : ∀ {H' : Hp}, (∀ b ∈ fp, H' b = none) → ∀ b ∈ fp, FpOk Y pins H' b := fun hn b hb => ⟨hn b hb, (f b hb).2⟩
  obtain ⟨hq, hun, hden⟩ := hturn (.ref it)
  refine codeAny_loop hq (fun n s' => ∃ i H', Inv Y pins (wipe σ us) H' s' ∧ tn i s'.heap ∧ (∀ b ∈ fp, H' b = none) ∧ W i n H') (fun n s' hI => ?_) m0 ⟨0, H, I.weak (wipe_length _ _) (fun j v e => (wipe_some e).1), st, fun b hb => (f b hb).1, w0⟩
  obtain ⟨i, H1, I1, st1, n1, w1⟩ := hI
  rw [hun, hden]
  refine wpAny_noted ?_
  unfold turnF
  refine wpAny_bind (wpAny_standAt (wpAny_bind ?_))
  rcases turn i n H1 w1 with ⟨stop, qq⟩ | ⟨go, Nx, hNx, step⟩
  · refine thn (T.done Y rfl rfl rfl hc i pins s' _ H1 _ I1 (stat n1) st1 stop) fun r s2 ⟨hr, I2⟩ => ?_
    subst hr
    exact wpAny_pure ⟨rfl, H1, I2, qq⟩
  · refine thn (T.item Y rfl rfl rfl hc i pins s' _ H1 _ I1 (stat n1) st1 go) fun r s2 ⟨u, hr, h2⟩ => ?_
    subst hr
    refine wpAny_bind (thn h2 fun _ s3 ⟨x, H3, I3, r3, y3, st3, n3⟩ => ?_)
    have I3' := I3.pinned (stat n3) (T.obj _ _ st3)
    have hF : ∀ {α : Type} {m : Sem α} {Q Q' : α → Shared → Prop} {E : Value → Shared → Prop} {s : Shared}, wpAny (model Y.prog Y.w) Y.A m Q Y.xe s → (∀ a s, Q a s → Q' a s) → wpAny (model Y.prog Y.w) Y.A m Q' E s := fun h k => wpAny_mono h k fun v s z => (hxe v s z).elim
    refine wpAny_bind (hF (hg.run _ s3 _ H3 x u _ I3' r3 (step x H3 y3)) fun _ s4 ⟨σ4, H4, I4, hw4, q4⟩ => ?_)
    refine wpAny_bind (hF (ht.run _ s4 σ4 H4 _ I4 q4) fun b s5 ⟨H5, I5, q5⟩ => ?_)
    have fin : ∀ {s' : Shared} {H' : Hp} {σ' : L2.St}, Inv Y (pins ++ pinsAt fp s3.heap) σ' H' s' → σ'.length = (wipe σ us).length → (∀ (j : Nat) v, (wipe σ us)[j]? = some (some v) → σ'[j]? = some (some v)) → Nx H' → ∃ m, m < n ∧ ∃ i H', Inv Y pins (wipe σ us) H' s' ∧ tn i s'.heap ∧ (∀ b ∈ fp, H' b = none) ∧ W i m H' := fun {s' H' σ'} I' hl hk nx => by
      obtain ⟨m', hm, w'⟩ := hNx H' nx
      have pin' : ∀ b ∈ fp, ∀ o, s3.heap.get? b = some o → s'.heap.get? b = some o ∧ H' b = none := fun b hb o e =>
        let z := I'.pin (b, o) (List.mem_append_right _ (List.mem_append_right _ (mem_pinsAt hb e)))
        ⟨z.1, z.2.1⟩
      refine ⟨m', hm, i + 1, H', I'.unpinned.weak hl.symm hk, T.keep _ _ _ st3 fun b hb o e => (pin' b hb o e).1, fun b hb => ?_, w'⟩
      obtain ⟨o, e, _⟩ := T.obj _ _ st3 b hb
      exact (pin' b hb o e).2
    have l4 : σ4.length = (wipe σ us).length := by rw [← hw4, wipe_length]
    cases b with
    | false =>
      rw [if_neg Bool.false_ne_true] at q5 ⊢
      exact wpAny_pure ⟨rfl, fin I5 l4 (fun j v e => by rw [← hw4] at e; exact (wipe_some e).1) q5⟩
    | true =>
      rw [if_pos rfl] at q5 ⊢
      refine thnF (hb _ _ s5 σ4 H5 Nx I5 q5) fun r s6 ⟨er, H6, I6, n6⟩ => ?_
      rw [er]
      exact ⟨rfl, fin I6 (by rw [wipe_length, l4]) (wipe_keep hw4 hv) n6⟩
end
section
variable {Y : Cx} {code : Code} {elt kx vx : Expr} {D0 : Addr}
/-- a list's item -/
def tItem (te : TE) (D0 : Addr) : TStep := fun σ H N => te σ H fun y H4 => ∃ ac, H4 D0 = some (.lst ac) ∧ ac.length < sizeLine ∧ N (upd H4 D0 (.lst (ac ++ [y])))
theorem body_list {te : TE} (hx : ∀ v s, Y.xe v s → False) (he : PE Y elt te) : BodyOk Y code (eval elt Y.env >>= fun x => call (.builtin "list.append") [.ref D0, x] >>= fun _ => again code) (tItem te D0) [] := by
  intro pins s σ H N I h
  refine wpAny_bind (wpAny_mono (he.run pins s σ H _ I h) (fun v s1 ⟨y, H1, I1, r1, ac, h1, hz, n⟩ => ?_) fun v s z => (hx v s z).elim)
  exact wpAny_bind (app_ok I1 h1 hz r1 fun s2 I2 => wpAny_pure ⟨rfl, _, I2, n⟩)
theorem body_list' {te : TE} (hx : ∀ v s, Y.xe v s → False) (he : PE Y elt te) : BodyOk Y code ((eval elt Y.env >>= fun x => call (.builtin "list.append") [.ref D0, x] >>= fun _ => pure ()) >>= fun _ => again code) (tItem te D0) [] := by
  intro pins s σ H N I h
  refine wpAny_bind (wpAny_bind (wpAny_mono (he.run pins s σ H _ I h) (fun v s1 ⟨y, H1, I1, r1, ac, h1, hz, n⟩ => ?_) fun v s z => (hx v s z).elim))
  exact wpAny_bind (app_ok I1 h1 hz r1 fun s2 I2 => wpAny_pure (wpAny_pure ⟨rfl, _, I2, n⟩))
/-- a dict's item, keys tuples -/
def tPairX (X : Cx) (tk tv : TE) (D0 : Addr) : TStep := fun σ H N => tk σ H fun y H4 => tv σ H4 fun z H5 => ∃ xs a k, H5 D0 = some (DO X.prog X.w D0 xs) ∧ KeysAt H5 xs ∧ y = .ref a ∧ H5 a = some (.tup (k.map leV)) ∧ xs.length < sizeLine ∧ N (upd H5 D0 (DO X.prog X.w D0 (putX xs k a z)))
/-- a dict's item, keys ints or texts -/
def tPairK (tk tv : TE) (D0 : Addr) : TStep := fun σ H N => tk σ H fun y H4 => tv σ H4 fun z H5 => ∃ kvs k, y = kV k ∧ H5 D0 = some (.dK kvs) ∧ kvs.length < sizeLine ∧ N (upd H5 D0 (.dK (putK kvs k z)))
def pairB (kx vx : Expr) (D0 : Addr) (env : Env) : Sem Unit := eval kx env >>= fun kv => holding [kv] (eval vx env) >>= fun vv => standAt { kx.pos with endLine := vx.pos.endLine, endCol := vx.pos.endCol } >>= fun _ => holding [kv, vv] (dictSet D0 kv vv)
theorem body_dictX {tk tv : TE} (hx : ∀ v s, Y.xe v s → False) (hu : Y.A.units + 1 < cLine) (hk : PE Y kx tk) (hv : PE Y vx tv) : BodyOk Y code (pairB kx vx D0 Y.env >>= fun _ => again code) (tPairX Y tk tv D0) [] := by
  intro pins s σ H N I h
  unfold pairB
  refine wpAny_bind (wpAny_bind (wpAny_mono (hk.run pins s σ H _ I h) (fun kv s1 ⟨y, H1, I1, r1, q1⟩ => ?_) fun v s z => (hx v s z).elim))
  refine wpAny_bind (wpAny_holding (wpAny_mono (hv.run pins s1 σ H1 _ I1 q1) (fun vv s2 ⟨z, H2, I2, r2, xs, a, k, DX1, DX2, ey, ha, hz, n⟩ => ?_) fun v s z => (hx v s z).elim))
  refine wpAny_bind (wpAny_standAt (wpAny_holding ?_))
  rw [ey] at r1
  obtain rfl : kv = Value.ref a := r1
  have DX : IsD Y H2 D0 xs := ⟨DX1, DX2⟩
  obtain ⟨z0, hd, ys, r, dd⟩ := do_rd I2.hok (.inl DX.ob) DX.ks
  have hzy : ys.length ≤ sizeLine := by rw [← Paired.length r]; exact z0
  refine wpAny_dictSet_heap (hsz := hzy) (knd := TKd Y.prog Y.w) (show (TKd Y.prog Y.w).room Y.A from Nat.lt_of_succ_lt hu) (le_key I2.hok ha) dd fun h' dd' hs => ?_
  exact wpAny_pure ⟨rfl, _, do_stored I2 DX r r2 hz hd dd' hs, n⟩
theorem body_dictK {tk tv : TE} (hx : ∀ v s, Y.xe v s → False) (hk : PE Y kx tk) (hv : PE Y vx tv) : BodyOk Y code (pairB kx vx D0 Y.env >>= fun _ => again code) (tPairK tk tv D0) [] := by
  intro pins s σ H N I h
  unfold pairB
  refine wpAny_bind (wpAny_bind (wpAny_mono (hk.run pins s σ H _ I h) (fun kv s1 ⟨y, H1, I1, r1, q1⟩ => ?_) fun v s z => (hx v s z).elim))
  refine wpAny_bind (wpAny_holding (wpAny_mono (hv.run pins s1 σ H1 _ I1 q1) (fun vv s2 ⟨z, H2, I2, r2, kvs, k, ey, hD, hz, n⟩ => ?_) fun v s z => (hx v s z).elim))
  refine wpAny_bind (wpAny_standAt (wpAny_holding ?_))
  rw [ey] at r1
  exact d_dictSet I2 hD hz r1 r2 fun s3 I3 => wpAny_pure ⟨rfl, _, I3, n⟩
/-- an inner clause -/
def tIn (wi : TI) (g : TG) (tt : TT) (t : TStep) (us : List Nat) : TStep := fun σ H N => wi σ H fun J H1 => tCl J g tt t us σ H1 N
def innerB (comp : Expr) (j : Nat) (iter : Expr) (acc : Value) (env : Env) : Sem Fin → Sem Fin := fun rest =>
  eval iter env >>= fun x => standAt iter.pos >>= fun _ => foldedSetIterable iter env x >>= fun x => holding [x] (pyIter x) >>= fun i => runOwn (.compStart comp (j + 1) i acc env) env >>= fun _ => rest
theorem body_in {comp tg iter : Expr} {j : Nat} {acc : Value} {wi : TI} {g : TG} {tt : TT} {t : TStep} {us vs : List Nat} {ifs : List Expr} {body : Value → Sem Fin} (hc : Y.calm = true) (hx : ∀ v s, Y.xe v s → False) (hi : PI Y tg iter wi)
    (hturn : ∀ it, TurnIs Y comp (j + 1) it acc (turnF (.compLoop comp (j + 1) it acc Y.env) tg iter ifs (body it) it Y.env))
    (hst : ∀ (R : Result → Shared → Prop) (s : Shared) (it : Value), codeAny (model Y.prog Y.w) Y.A (.compLoop comp (j + 1) it acc Y.env) R s → (wpAny (model Y.prog Y.w) Y.A (pyIter it) (fun it' s' => codeAny (model Y.prog Y.w) Y.A (.compLoop comp (j + 1) it' acc Y.env) R s') (notedBy (model Y.prog Y.w) Y.A Y.env fun x s' => R (.error x) s') s) → codeAny (model Y.prog Y.w) Y.A (.compStart comp (j + 1) it acc Y.env) R s)
    (hg : PG Y tg g) (ht : PTs Y ifs tt) (hb : ∀ it, BodyOk Y (.compLoop comp (j + 1) it acc Y.env) (body it) t vs) (hv : ∀ i ∈ vs, i ∈ us) (hs : ∀ x, foldedSetIterable iter Y.env x = pure x) :
    BodyOk Y code (innerB comp j iter acc Y.env (again code)) (tIn wi g tt t us) us := by
  intro pins s σ H N I h
  unfold innerB
  have hF : ∀ {α : Type} {m : Sem α} {Q Q' : α → Shared → Prop} {E : Value → Shared → Prop} {s : Shared}, wpAny (model Y.prog Y.w) Y.A m Q Y.xe s → (∀ a s, Q a s → Q' a s) → wpAny (model Y.prog Y.w) Y.A m Q' E s := fun h k => wpAny_mono h k fun v s z => (hx v s z).elim
  refine wpAny_bind (hF (hi.run pins s σ H _ I h) fun x s1 h1 => ?_)
  refine wpAny_bind (wpAny_standAt (wpAny_bind (wpAny_of_eq (hs x) (wpAny_bind (wpAny_holding (hF h1 fun itv s2 ⟨it, fp, tn, J, H2, e, I2, T, st, f, q⟩ => ?_))))))
  subst e
  refine wpAny_bind (wpAny_runOwn ?_)
  rw [Around.mark_none]
  have loop := cl_loop I2 hc hturn hx hg ht hb hv T st f q
  unfold LoopP at loop
  have start := hst _ _ _ loop (T.self Y.A 0 _ _ _ st loop)
  refine codeAny_mono start fun r s3 hr => ?_
  cases r with
  | ok f => exact wpAny_pure ⟨rfl, hr.2⟩
  | error e => exact hr.elim
end

/-! ### the whole comprehension -/
/-- what a comprehension gives, whatever is done with it -/
def CompP (X : Cx) (comp iter : Expr) (scope : Scope) (mk : Sem Value) (t : TE) : Prop :=
  ∀ (pins : List (Addr × Obj)) (s : Shared) (σ : L2.St) (H : Hp) (Q : VK) (use : Option (Value → Sem Unit)) (Qf : Value → Shared → Prop) (pos' : Pos), Inv X pins σ H s → t σ H Q →
    (∀ D C s' m H', Inv X pins σ H' s' → Q (.ref D) H' → s'.heap.Ns C m → FpOk X pins H' C → compPost (model X.prog X.w) X.A X.xe use Qf (.ref D) C (.ok .next) s') →
    wpAny (model X.prog X.w) X.A (comprehension comp scope X.env pos' mk false (eval iter X.env) use) Qf X.xe s
/-- the reading: the source, a new object, the first clause's loop -/
def tComp (wi : TI) (g : TG) (tt : TT) (o : Addr → HO) (t : Addr → TStep) (us : List Nat) : TE := fun σ H Q => wi σ H fun J H1 => ∀ D, H1 D = none → tCl J g tt (t D) us σ (upd H1 D (o D)) fun H2 => Q (.ref D) H2
section
variable {X : Cx} {comp tg iter : Expr} {scope : Scope} {ifs : List Expr} {own : List (Str × Nat)} {wi : TI} {g : TG} {tt : TT} {t : Addr → TStep} {vs : List Nat} {o : Addr → HO} {mk : Sem Value} {ob : Obj} {gs : List Comprehension}
/-- a block's context, its iterators' objects at fp -/
def BlkC (X : Cx) (scope : Scope) (Y : Cx) : Prop := ∃ (s : Shared) (H : Hp) (C : Addr) (cl : List (Str × Addr)) (fp : List Addr), Y = X.blk s H scope (compEnvC scope cl C X.env) fp
theorem comp_core (hc : X.calm = true) (hN : X.N.Nodup) (ok : BlkOk X.N X.env.scope scope own) (hi : PI X tg iter wi)
    (hcl : clausesOf comp = ⟨tg, iter, ifs, 0⟩ :: gs) (hs : ∀ x, foldedSetIterable iter X.env x = pure x)
    (hmk : ∀ (s : Shared) (Q : Value → Shared → Prop) (E : Value → Shared → Prop), Q (.ref s.heap.objs.size) { s with heap := s.heap.push ob } → wpAny (model X.prog X.w) X.A mk Q E s)
    (hnew : ∀ (H : Hp) (h : Heap), sysModules < h.objs.size → ObjOk X.prog X.w H (h.push ob) h.objs.size (o h.objs.size))
    (hb : ∀ (s : Shared) (H : Hp) (C : Addr) (cl : List (Str × Addr)) (fp : List Addr) (D : Addr), ∃ body : Value → Sem Fin,
      PG (X.blk s H scope (compEnvC scope cl C X.env) fp) tg g ∧ PTs (X.blk s H scope (compEnvC scope cl C X.env) fp) ifs tt ∧
      (∀ it, TurnIs (X.blk s H scope (compEnvC scope cl C X.env) fp) comp 0 it (.ref D) (turnF (.compLoop comp 0 it (.ref D) (compEnvC scope cl C X.env)) tg iter ifs (body it) it (compEnvC scope cl C X.env))) ∧
      ∀ it, BodyOk (X.blk s H scope (compEnvC scope cl C X.env) fp) (.compLoop comp 0 it (.ref D) (compEnvC scope cl C X.env)) (body it) (t D) vs)
    (hv : ∀ i ∈ vs, i ∈ own.map (·.2))
    (hst : ∀ (R : Result → Shared → Prop) (s : Shared) (it acc : Value) (env : Env), codeAny (model X.prog X.w) X.A (.compLoop comp 0 it acc env) R s → (wpAny (model X.prog X.w) X.A (pyIter it) (fun it' s' => codeAny (model X.prog X.w) X.A (.compLoop comp 0 it' acc env) R s') (notedBy (model X.prog X.w) X.A env fun x s' => R (.error x) s') s) → codeAny (model X.prog X.w) X.A (.compStart comp 0 it acc env) R s) :
    CompP X comp iter scope mk (tComp wi g tt o t (own.map (·.2))) := by
  intro pins s σ H Q use Qf pos' I h hRR
  have hfree : ∀ y ∈ scope.names, y.2 = .free → ∃ c, X.env.cells.lookup y.1 = some c := fun y hy e => by
    rcases ok.free y hy e with k | k
    · exact I.ok.has _ (.inl k)
    · exact I.ok.has _ (.inr k)
  refine wpAny_comprehension_free (use := use) hcl hs (closure_ok hfree) ok.kind (fun y hy e => by rw [ok.uniq y hy, e]) (thn (hi.run pins s σ H _ I h) fun xv s1 hx => thn hx fun itv s2 h2 => ?_)
  obtain ⟨it, fp, tn, J, H2, e, I2, T, st2, f2, q⟩ := h2
  subst e
  refine hmk s2 _ _ (newEnv_comp ?_)
  have q := q _ (I2.hok.fresh (Nat.le_refl s2.heap.objs.size))
  have I3 := I2.laid (a := s2.heap.objs.size) (o := o s2.heap.objs.size) (h' := s2.heap.push ob) (t' := s2.toks) (fun b u e => Heap.get?_push_of_some _ e) (Nat.le_refl _) (hnew _ _ I2.big)
  have f3 : ∀ b ∈ fp, FpOk X pins (upd H2 s2.heap.objs.size (o s2.heap.objs.size)) b ∧ b < ({ s2 with heap := s2.heap.push ob } : Shared).heap.objs.size := fun b hb => by
    obtain ⟨u, e, _⟩ := T.obj _ _ st2 b hb
    have hlt := Heap.lt_size e
    refine ⟨⟨?_, (f2 b hb).2⟩, by show b < (s2.heap.push ob).objs.size; rw [Heap.size_push]; exact Nat.lt_succ_of_lt hlt⟩
    rw [upd_ne (Nat.ne_of_lt hlt)]
    exact (f2 b hb).1
  have st3 : tn 0 (s2.heap.push ob) := T.keep _ _ _ st2 fun b _ u e => Heap.get?_push_of_some _ e
  have I4 := block_start I3 ok hN f3
  obtain ⟨body, pg, pt, hturn, pb⟩ := hb { s2 with heap := s2.heap.push ob } (upd H2 s2.heap.objs.size (o s2.heap.objs.size)) (s2.heap.push ob).objs.size (cellsFrom ((s2.heap.push ob).objs.size + 1) scope.names (cloFrom X.env.cells scope.names [])) fp s2.heap.objs.size
  have st4 : tn 0 (pushCells ((s2.heap.push ob).push { cls := .type "dict", data := .dict #[] }) scope.names) := T.keep _ _ _ st3 fun b _ u e => pushCells_keeps _ _ _ _ (Heap.get?_push_of_some _ e)
  have f4 : ∀ b ∈ fp, FpOk (X.blk { s2 with heap := s2.heap.push ob } (upd H2 s2.heap.objs.size (o s2.heap.objs.size)) scope (compEnvC scope (cellsFrom ((s2.heap.push ob).objs.size + 1) scope.names (cloFrom X.env.cells scope.names [])) (s2.heap.push ob).objs.size X.env) fp) [] (upd H2 s2.heap.objs.size (o s2.heap.objs.size)) b := fun b hb =>
    ⟨(f3 b hb).1.1, (I4.ok.exf b hb).1, I4.ok.exfs b hb, .inl hb, fun x c e => (I4.ok.exf b hb).2 x c e, fun p hp => absurd (show p ∈ ([] : List (Addr × Obj)) ++ [] from hp) (by simp)⟩
  have tw : tCl J g tt (t s2.heap.objs.size) (own.map (·.2)) (wipe σ (own.map (·.2))) (upd H2 s2.heap.objs.size (o s2.heap.objs.size)) fun H2' => Q (.ref s2.heap.objs.size) H2' := by
    have ww : wipe (wipe σ (own.map (·.2))) (own.map (·.2)) = wipe σ (own.map (·.2)) := by
      refine List.ext_getElem? fun i => ?_
      by_cases hi : i ∈ own.map (·.2)
      · have aux : ∀ (vs : List Nat) (τ : L2.St), i ∈ vs → i < τ.length → (wipe τ vs)[i]? = some none := fun vs τ hm hl => by
          induction vs with
          | nil => cases hm
          | cons v vs ih =>
            unfold wipe
            by_cases e : v = i
            · rw [e, List.getElem?_set_self (by rw [wipe_length]; exact hl)]
            · rw [List.getElem?_set_ne e]
              exact ih ((List.mem_cons.mp hm).resolve_left fun z => e z.symm)
        by_cases hl : i < σ.length
        · rw [aux _ _ hi (by rw [wipe_length]; exact hl), aux _ _ hi hl]
        · rw [List.getElem?_eq_none (by rw [wipe_length, wipe_length]; omega), List.getElem?_eq_none (by rw [wipe_length]; omega)]
      · rw [wipe_out hi]
    unfold tCl at q ⊢
    rw [ww]
    exact q
  have loop := cl_loop (acc := .ref s2.heap.objs.size) I4 hc hturn (fun _ _ z => z) pg pt pb hv T st4 f4 tw
  unfold LoopP at loop
  have start := hst _ _ _ _ _ loop (T.self X.A 0 _ _ _ st4 loop)
  refine codeAny_mono start fun r s6 hr => ?_
  cases r with
  | error e => exact hr.elim
  | ok f =>
    obtain ⟨ef, H5, I6, qq⟩ := hr
    subst ef
    have I7 : Inv X pins σ H5 s6 := I3.call' (ch := fp) I6.os I6.base I6.hok I6.bare fun b hb => ⟨(f3 b hb).1.2.2.2.1, (f3 b hb).1.2.1, (f3 b hb).1.2.2.2.2.1, (f3 b hb).1.2.2.2.2.2⟩
    have nC : H5 (s2.heap.push ob).objs.size = none := I6.free
    obtain ⟨m, hn, _⟩ := I6.loc
    exact hRR _ (s2.heap.push ob).objs.size s6 m H5 I7 qq hn (I3.fpOk (Nat.le_refl _) nC)
end
end Nr
/-! The engine's instances. -/
namespace Nr
open PySem PySem.Spec L2
open PyProof.Rows hiding St

section
variable {X : Cx} {comp iter : Expr} {scope : Scope} {mk : Sem Value} {t : TE} {σ : L2.St} {H : Hp}
theorem we_comp {Q : VK} {pos' : Pos} (h : CompP X comp iter scope mk t) (he : eval comp X.env = comprehension comp scope X.env pos' mk false (eval iter X.env) none) (q : t σ H Q) : WE X comp σ H Q := fun pins s I => by
  rw [he]
  refine h pins s σ H Q none _ pos' I q fun D C s' m H' I' q hn f => ⟨m, hn, fun h'' sb => ?_⟩
  obtain ⟨f0, f1, f2, f3, f4, f5⟩ := f
  exact ⟨.ref D, H', I'.turned (t' := s'.toks) (fun b o hb e => (sb.2 b hb).trans e) f0 f1 f3 f4 f5, rfl, q⟩
/-- name = comprehension, on one line -/
theorem ws_setC {DE : Ends} {i : Nat} {y : Str} {py spos pos' : Pos} (h : CompP X comp iter scope mk t) (hN : X.N.Nodup) (q : t σ H fun v H1 => DE.nx (σ.set i (some v)) H1)
    (he : exec (.Assign [.Name y py] comp spos) X.env = (standAt spos >>= fun _ => (comprehension comp scope X.env pos' mk false (eval iter X.env) (some (assign (.Name y py) X.env)) >>= fun _ => pure ()) >>= fun _ => pure Flow.next))
    (hy : X.N[i]? = some y := by rfl) (hyl : X.env.scope.names.lookup y = some .local := by rfl) : WS X (.Assign [.Name y py] comp spos) DE σ H := fun pins s I => by
  rw [he]
  refine wpAny_bind (wpAny_standAt (wpAny_bind (wpAny_bind (thn (h pins s σ H (fun v H1 => DE.nx (σ.set i (some v)) H1) (some (assign (.Name y py) X.env)) (fun _ s' => SP X pins DE .next s') pos' I q fun D C s' m H' I' q hn f => ?_) fun _ s' hq => wpAny_pure (wpAny_pure hq)))))
  show wpAny _ _ (assign (.Name y py) X.env (.ref D)) _ _ _
  refine wpAny_assign_Name (store_ok2 (v := V.ref D) I' hN hy (.inl hyl) rfl (fun s2 I2 ⟨a, sb, ha⟩ => ?_) (.inr hyl))
  obtain ⟨f0, f1, f2, f3, f4, f5⟩ := f
  have haC : C ≠ a := by
    rcases ha with z | z
    · rw [z]; exact f1
    · exact fun e => f4 y a z e.symm
  refine ⟨m, hn.sameBut sb haC, fun h3 sb3 => ?_⟩
  exact ⟨_, H', I2.turned (t' := s2.toks) (fun b o hb e => (sb3.2 b hb).trans e) f0 f1 f3 f4 f5, q⟩
end

/-! ### lists and dicts, one to three clauses -/
section
variable {X : Cx} {elt kx vx tg iter tg1 iter1 tg2 iter2 : Expr} {scope : Scope} {ifs ifs1 ifs2 : List Expr} {own : List (Str × Nat)} {pos : Pos}
theorem new_list (X : Cx) : (∀ (s : Shared) (Q : Value → Shared → Prop) (E : Value → Shared → Prop), Q (.ref s.heap.objs.size) { s with heap := s.heap.push { cls := .type "list", data := .seq ([] : List Value).toArray } } → wpAny (model X.prog X.w) X.A (newList []) Q E s) ∧
    ∀ (H : Hp) (h : Heap), sysModules < h.objs.size → ObjOk X.prog X.w H (h.push { cls := .type "list", data := .seq ([] : List Value).toArray }) h.objs.size (.lst []) :=
  ⟨fun s Q E h => wpAny_newObj_type h (by show 0 ≤ sizeLine; decide), fun H h _ => ⟨Nat.zero_le _, [], 0, .nil, Heap.get?_push_size _ rfl⟩⟩
theorem new_dict (X : Cx) : (∀ (s : Shared) (Q : Value → Shared → Prop) (E : Value → Shared → Prop), Q (.ref s.heap.objs.size) { s with heap := s.heap.push { cls := .type "dict", data := .dict #[] } } → wpAny (model X.prog X.w) X.A newDict Q E s) :=
  fun s Q E h => wpAny_newObj_type h
abbrev tgW (X : Cx) (scope : Scope) (tg : Expr) (g : TG) : Prop := ∀ (s : Shared) (H : Hp) (C : Addr) (cl : List (Str × Addr)) (fp : List Addr), PG (X.blk s H scope (compEnvC scope cl C X.env) fp) tg g
/-- {k: v for tg in iter if ..}, keys tuples -/
theorem cp_dictX {g : TG} (hu : X.A.units + 1 < cLine) (hc : X.calm = true) (hN : X.N.Nodup) (ok : BlkOk X.N X.env.scope scope own) (hg : tgW X scope tg g) (hs : ∀ x, foldedSetIterable iter X.env x = pure x) :
    CompP X (.DictComp kx vx [⟨tg, iter, ifs, 0⟩] scope pos) iter scope newDict (tComp (WI X tg iter) g (fun σ H Q => ∀ b, WTs (XB X scope b) ifs σ H Q) (fun D => DO X.prog X.w D []) (tPairX X (fun σ H Q => ∀ b, WE (XB X scope b) kx σ H Q) (fun σ H Q => ∀ b, WE (XB X scope b) vx σ H Q)) (own.map (·.2))) := by
  refine comp_core (vs := []) (ob := { cls := .type "dict", data := .dict #[] }) hc hN ok pi_w rfl hs (new_dict X) (fun H h hb => do_empty hb) (fun s H C cl fp D => ⟨fun it => pairB kx vx D (compEnvC scope cl C X.env) >>= fun _ => again (.compLoop (.DictComp kx vx [⟨tg, iter, ifs, 0⟩] scope pos) 0 it (.ref D) (compEnvC scope cl C X.env)), hg s H C cl fp, ⟨fun pins s' σ' H' Q I h => h (s, H, C, cl, fp) pins s' I⟩, fun it => ⟨rfl, rfl, rfl⟩, fun it => ?_⟩) (fun i z => nomatch z) (fun R s it acc env h0 h => codeAny_compStart_dict h0 h)
  exact body_dictX (Y := X.blk s H scope (compEnvC scope cl C X.env) fp) (tk := fun σ H Q => ∀ b, WE (XB X scope b) kx σ H Q) (tv := fun σ H Q => ∀ b, WE (XB X scope b) vx σ H Q) (fun _ _ z => z) hu ⟨fun pins s' σ' H' Q I h => h (s, H, C, cl, fp) pins s' I⟩ ⟨fun pins s' σ' H' Q I h => h (s, H, C, cl, fp) pins s' I⟩
/-- {k: v for tg in iter if ..}, keys ints or texts -/
theorem cp_dictK {g : TG} (hc : X.calm = true) (hN : X.N.Nodup) (ok : BlkOk X.N X.env.scope scope own) (hg : tgW X scope tg g) (hs : ∀ x, foldedSetIterable iter X.env x = pure x) :
    CompP X (.DictComp kx vx [⟨tg, iter, ifs, 0⟩] scope pos) iter scope newDict (tComp (WI X tg iter) g (fun σ H Q => ∀ b, WTs (XB X scope b) ifs σ H Q) (fun D => .dK []) (tPairK (fun σ H Q => ∀ b, WE (XB X scope b) kx σ H Q) (fun σ H Q => ∀ b, WE (XB X scope b) vx σ H Q)) (own.map (·.2))) := by
  refine comp_core (vs := []) (ob := { cls := .type "dict", data := .dict #[] }) hc hN ok pi_w rfl hs (new_dict X) (fun H h hb => dk_empty h hb) (fun s H C cl fp D => ⟨fun it => pairB kx vx D (compEnvC scope cl C X.env) >>= fun _ => again (.compLoop (.DictComp kx vx [⟨tg, iter, ifs, 0⟩] scope pos) 0 it (.ref D) (compEnvC scope cl C X.env)), hg s H C cl fp, ⟨fun pins s' σ' H' Q I h => h (s, H, C, cl, fp) pins s' I⟩, fun it => ⟨rfl, rfl, rfl⟩, fun it => ?_⟩) (fun i z => nomatch z) (fun R s it acc env h0 h => codeAny_compStart_dict h0 h)
  exact body_dictK (Y := X.blk s H scope (compEnvC scope cl C X.env) fp) (fun _ _ z => z) ⟨fun pins s' σ' H' Q I h => h (s, H, C, cl, fp) pins s' I⟩ ⟨fun pins s' σ' H' Q I h => h (s, H, C, cl, fp) pins s' I⟩
/-- [elt for .. for ..] -/
theorem cp_list2 {g g1 : TG} {us1 : List Nat} (hc : X.calm = true) (hN : X.N.Nodup) (ok : BlkOk X.N X.env.scope scope own) (hg : tgW X scope tg g) (hg1 : tgW X scope tg1 g1) (hv : ∀ i ∈ us1, i ∈ own.map (·.2)) (hs : ∀ x, foldedSetIterable iter X.env x = pure x) (hs1 : ∀ env x, foldedSetIterable iter1 env x = pure x)
    (hst : ∀ (Y : Cx) (acc : Value) (R : Result → Shared → Prop) (s : Shared) (it : Value), codeAny (model Y.prog Y.w) Y.A (.compLoop (.ListComp elt [⟨tg, iter, ifs, 0⟩, ⟨tg1, iter1, ifs1, 0⟩] scope pos) 1 it acc Y.env) R s → (wpAny (model Y.prog Y.w) Y.A (pyIter it) (fun it' s' => codeAny (model Y.prog Y.w) Y.A (.compLoop (.ListComp elt [⟨tg, iter, ifs, 0⟩, ⟨tg1, iter1, ifs1, 0⟩] scope pos) 1 it' acc Y.env) R s') (notedBy (model Y.prog Y.w) Y.A Y.env fun x s' => R (.error x) s') s) → codeAny (model Y.prog Y.w) Y.A (.compStart (.ListComp elt [⟨tg, iter, ifs, 0⟩, ⟨tg1, iter1, ifs1, 0⟩] scope pos) 1 it acc Y.env) R s) :
    CompP X (.ListComp elt [⟨tg, iter, ifs, 0⟩, ⟨tg1, iter1, ifs1, 0⟩] scope pos) iter scope (newList []) (tComp (WI X tg iter) g (fun σ H Q => ∀ b, WTs (XB X scope b) ifs σ H Q) (fun D => .lst [])
      (fun D => tIn (fun σ H R => ∀ b, WI (XB X scope b) tg1 iter1 σ H R) g1 (fun σ H Q => ∀ b, WTs (XB X scope b) ifs1 σ H Q) (tItem (fun σ H Q => ∀ b, WE (XB X scope b) elt σ H Q) D) us1) (own.map (·.2))) := by
  refine comp_core (ob := { cls := .type "list", data := .seq ([] : List Value).toArray }) hc hN ok pi_w rfl hs (new_list X).1 (new_list X).2 (fun s H C cl fp D => ⟨fun it => innerB (.ListComp elt [⟨tg, iter, ifs, 0⟩, ⟨tg1, iter1, ifs1, 0⟩] scope pos) 0 iter1 (.ref D) (compEnvC scope cl C X.env) (again (.compLoop (.ListComp elt [⟨tg, iter, ifs, 0⟩, ⟨tg1, iter1, ifs1, 0⟩] scope pos) 0 it (.ref D) (compEnvC scope cl C X.env))), hg s H C cl fp, ⟨fun pins s' σ' H' Q I h => h (s, H, C, cl, fp) pins s' I⟩, fun it => ⟨rfl, rfl, rfl⟩, fun it => ?_⟩) hv (fun R s it acc env h0 h => codeAny_compStart_list h0 h)
  refine body_in (Y := X.blk s H scope (compEnvC scope cl C X.env) fp) (vs := []) (body := fun it => (eval elt (compEnvC scope cl C X.env) >>= fun x => call (.builtin "list.append") [.ref D, x] >>= fun _ => pure ()) >>= fun _ => again (.compLoop (.ListComp elt [⟨tg, iter, ifs, 0⟩, ⟨tg1, iter1, ifs1, 0⟩] scope pos) 1 it (.ref D) (compEnvC scope cl C X.env))) hc (fun _ _ z => z) ⟨fun pins s' σ' H' Q I h => h (s, H, C, cl, fp) pins s' I⟩ (fun it => ⟨rfl, rfl, rfl⟩) (hst (X.blk s H scope (compEnvC scope cl C X.env) fp) _) (hg1 s H C cl fp) ⟨fun pins s' σ' H' Q I h => h (s, H, C, cl, fp) pins s' I⟩ (fun it => ?_) (fun i z => nomatch z) (hs1 _)
  exact body_list' (Y := X.blk s H scope (compEnvC scope cl C X.env) fp) (fun _ _ z => z) ⟨fun pins s' σ' H' Q I h => h (s, H, C, cl, fp) pins s' I⟩
theorem cp_list3 {g g1 g2 : TG} {us1 us2 : List Nat} (hc : X.calm = true) (hN : X.N.Nodup) (ok : BlkOk X.N X.env.scope scope own) (hg : tgW X scope tg g) (hg1 : tgW X scope tg1 g1) (hg2 : tgW X scope tg2 g2) (hv : ∀ i ∈ us1, i ∈ own.map (·.2)) (hv2 : ∀ i ∈ us2, i ∈ us1) (hs : ∀ x, foldedSetIterable iter X.env x = pure x) (hs1 : ∀ env x, foldedSetIterable iter1 env x = pure x) (hs2 : ∀ env x, foldedSetIterable iter2 env x = pure x)
    (hst : ∀ (j : Nat), j = 1 ∨ j = 2 → ∀ (Y : Cx) (acc : Value) (R : Result → Shared → Prop) (s : Shared) (it : Value), codeAny (model Y.prog Y.w) Y.A (.compLoop (.ListComp elt [⟨tg, iter, ifs, 0⟩, ⟨tg1, iter1, ifs1, 0⟩, ⟨tg2, iter2, ifs2, 0⟩] scope pos) j it acc Y.env) R s → (wpAny (model Y.prog Y.w) Y.A (pyIter it) (fun it' s' => codeAny (model Y.prog Y.w) Y.A (.compLoop (.ListComp elt [⟨tg, iter, ifs, 0⟩, ⟨tg1, iter1, ifs1, 0⟩, ⟨tg2, iter2, ifs2, 0⟩] scope pos) j it' acc Y.env) R s') (notedBy (model Y.prog Y.w) Y.A Y.env fun x s' => R (.error x) s') s) → codeAny (model Y.prog Y.w) Y.A (.compStart (.ListComp elt [⟨tg, iter, ifs, 0⟩, ⟨tg1, iter1, ifs1, 0⟩, ⟨tg2, iter2, ifs2, 0⟩] scope pos) j it acc Y.env) R s) :
    CompP X (.ListComp elt [⟨tg, iter, ifs, 0⟩, ⟨tg1, iter1, ifs1, 0⟩, ⟨tg2, iter2, ifs2, 0⟩] scope pos) iter scope (newList []) (tComp (WI X tg iter) g (fun σ H Q => ∀ b, WTs (XB X scope b) ifs σ H Q) (fun D => .lst [])
      (fun D => tIn (fun σ H R => ∀ b, WI (XB X scope b) tg1 iter1 σ H R) g1 (fun σ H Q => ∀ b, WTs (XB X scope b) ifs1 σ H Q) (tIn (fun σ H R => ∀ b, WI (XB X scope b) tg2 iter2 σ H R) g2 (fun σ H Q => ∀ b, WTs (XB X scope b) ifs2 σ H Q) (tItem (fun σ H Q => ∀ b, WE (XB X scope b) elt σ H Q) D) us2) us1) (own.map (·.2))) := by
  refine comp_core (ob := { cls := .type "list", data := .seq ([] : List Value).toArray }) hc hN ok pi_w rfl hs (new_list X).1 (new_list X).2 (fun s H C cl fp D => ⟨fun it => innerB (.ListComp elt [⟨tg, iter, ifs, 0⟩, ⟨tg1, iter1, ifs1, 0⟩, ⟨tg2, iter2, ifs2, 0⟩] scope pos) 0 iter1 (.ref D) (compEnvC scope cl C X.env) (again (.compLoop (.ListComp elt [⟨tg, iter, ifs, 0⟩, ⟨tg1, iter1, ifs1, 0⟩, ⟨tg2, iter2, ifs2, 0⟩] scope pos) 0 it (.ref D) (compEnvC scope cl C X.env))), hg s H C cl fp, ⟨fun pins s' σ' H' Q I h => h (s, H, C, cl, fp) pins s' I⟩, fun it => ⟨rfl, rfl, rfl⟩, fun it => ?_⟩) hv (fun R s it acc env h0 h => codeAny_compStart_list h0 h)
  refine body_in (Y := X.blk s H scope (compEnvC scope cl C X.env) fp) (body := fun it => innerB (.ListComp elt [⟨tg, iter, ifs, 0⟩, ⟨tg1, iter1, ifs1, 0⟩, ⟨tg2, iter2, ifs2, 0⟩] scope pos) 1 iter2 (.ref D) (compEnvC scope cl C X.env) (again (.compLoop (.ListComp elt [⟨tg, iter, ifs, 0⟩, ⟨tg1, iter1, ifs1, 0⟩, ⟨tg2, iter2, ifs2, 0⟩] scope pos) 1 it (.ref D) (compEnvC scope cl C X.env)))) hc (fun _ _ z => z) ⟨fun pins s' σ' H' Q I h => h (s, H, C, cl, fp) pins s' I⟩ (fun it => ⟨rfl, rfl, rfl⟩) (hst 1 (.inl rfl) (X.blk s H scope (compEnvC scope cl C X.env) fp) _) (hg1 s H C cl fp) ⟨fun pins s' σ' H' Q I h => h (s, H, C, cl, fp) pins s' I⟩ (fun it => ?_) hv2 (hs1 _)
  refine body_in (Y := X.blk s H scope (compEnvC scope cl C X.env) fp) (vs := []) (body := fun it => (eval elt (compEnvC scope cl C X.env) >>= fun x => call (.builtin "list.append") [.ref D, x] >>= fun _ => pure ()) >>= fun _ => again (.compLoop (.ListComp elt [⟨tg, iter, ifs, 0⟩, ⟨tg1, iter1, ifs1, 0⟩, ⟨tg2, iter2, ifs2, 0⟩] scope pos) 2 it (.ref D) (compEnvC scope cl C X.env))) hc (fun _ _ z => z) ⟨fun pins s' σ' H' Q I h => h (s, H, C, cl, fp) pins s' I⟩ (fun it => ⟨rfl, rfl, rfl⟩) (hst 2 (.inr rfl) (X.blk s H scope (compEnvC scope cl C X.env) fp) _) (hg2 s H C cl fp) ⟨fun pins s' σ' H' Q I h => h (s, H, C, cl, fp) pins s' I⟩ (fun it => ?_) (fun i z => nomatch z) (hs2 _)
  exact body_list' (Y := X.blk s H scope (compEnvC scope cl C X.env) fp) (fun _ _ z => z) ⟨fun pins s' σ' H' Q I h => h (s, H, C, cl, fp) pins s' I⟩
theorem cp_dictK3 {g g1 g2 : TG} {us1 us2 : List Nat} (hc : X.calm = true) (hN : X.N.Nodup) (ok : BlkOk X.N X.env.scope scope own) (hg : tgW X scope tg g) (hg1 : tgW X scope tg1 g1) (hg2 : tgW X scope tg2 g2) (hv : ∀ i ∈ us1, i ∈ own.map (·.2)) (hv2 : ∀ i ∈ us2, i ∈ us1) (hs : ∀ x, foldedSetIterable iter X.env x = pure x) (hs1 : ∀ env x, foldedSetIterable iter1 env x = pure x) (hs2 : ∀ env x, foldedSetIterable iter2 env x = pure x)
    (hst : ∀ (j : Nat), j = 1 ∨ j = 2 → ∀ (Y : Cx) (acc : Value) (R : Result → Shared → Prop) (s : Shared) (it : Value), codeAny (model Y.prog Y.w) Y.A (.compLoop (.DictComp kx vx [⟨tg, iter, ifs, 0⟩, ⟨tg1, iter1, ifs1, 0⟩, ⟨tg2, iter2, ifs2, 0⟩] scope pos) j it acc Y.env) R s → (wpAny (model Y.prog Y.w) Y.A (pyIter it) (fun it' s' => codeAny (model Y.prog Y.w) Y.A (.compLoop (.DictComp kx vx [⟨tg, iter, ifs, 0⟩, ⟨tg1, iter1, ifs1, 0⟩, ⟨tg2, iter2, ifs2, 0⟩] scope pos) j it' acc Y.env) R s') (notedBy (model Y.prog Y.w) Y.A Y.env fun x s' => R (.error x) s') s) → codeAny (model Y.prog Y.w) Y.A (.compStart (.DictComp kx vx [⟨tg, iter, ifs, 0⟩, ⟨tg1, iter1, ifs1, 0⟩, ⟨tg2, iter2, ifs2, 0⟩] scope pos) j it acc Y.env) R s) :
    CompP X (.DictComp kx vx [⟨tg, iter, ifs, 0⟩, ⟨tg1, iter1, ifs1, 0⟩, ⟨tg2, iter2, ifs2, 0⟩] scope pos) iter scope newDict (tComp (WI X tg iter) g (fun σ H Q => ∀ b, WTs (XB X scope b) ifs σ H Q) (fun D => .dK [])
      (fun D => tIn (fun σ H R => ∀ b, WI (XB X scope b) tg1 iter1 σ H R) g1 (fun σ H Q => ∀ b, WTs (XB X scope b) ifs1 σ H Q) (tIn (fun σ H R => ∀ b, WI (XB X scope b) tg2 iter2 σ H R) g2 (fun σ H Q => ∀ b, WTs (XB X scope b) ifs2 σ H Q) (tPairK (fun σ H Q => ∀ b, WE (XB X scope b) kx σ H Q) (fun σ H Q => ∀ b, WE (XB X scope b) vx σ H Q) D) us2) us1) (own.map (·.2))) := by
  refine comp_core (ob := { cls := .type "dict", data := .dict #[] }) hc hN ok pi_w rfl hs (new_dict X) (fun H h hb => dk_empty h hb) (fun s H C cl fp D => ⟨fun it => innerB (.DictComp kx vx [⟨tg, iter, ifs, 0⟩, ⟨tg1, iter1, ifs1, 0⟩, ⟨tg2, iter2, ifs2, 0⟩] scope pos) 0 iter1 (.ref D) (compEnvC scope cl C X.env) (again (.compLoop (.DictComp kx vx [⟨tg, iter, ifs, 0⟩, ⟨tg1, iter1, ifs1, 0⟩, ⟨tg2, iter2, ifs2, 0⟩] scope pos) 0 it (.ref D) (compEnvC scope cl C X.env))), hg s H C cl fp, ⟨fun pins s' σ' H' Q I h => h (s, H, C, cl, fp) pins s' I⟩, fun it => ⟨rfl, rfl, rfl⟩, fun it => ?_⟩) hv (fun R s it acc env h0 h => codeAny_compStart_dict h0 h)
  refine body_in (Y := X.blk s H scope (compEnvC scope cl C X.env) fp) (body := fun it => innerB (.DictComp kx vx [⟨tg, iter, ifs, 0⟩, ⟨tg1, iter1, ifs1, 0⟩, ⟨tg2, iter2, ifs2, 0⟩] scope pos) 1 iter2 (.ref D) (compEnvC scope cl C X.env) (again (.compLoop (.DictComp kx vx [⟨tg, iter, ifs, 0⟩, ⟨tg1, iter1, ifs1, 0⟩, ⟨tg2, iter2, ifs2, 0⟩] scope pos) 1 it (.ref D) (compEnvC scope cl C X.env)))) hc (fun _ _ z => z) ⟨fun pins s' σ' H' Q I h => h (s, H, C, cl, fp) pins s' I⟩ (fun it => ⟨rfl, rfl, rfl⟩) (hst 1 (.inl rfl) (X.blk s H scope (compEnvC scope cl C X.env) fp) _) (hg1 s H C cl fp) ⟨fun pins s' σ' H' Q I h => h (s, H, C, cl, fp) pins s' I⟩ (fun it => ?_) hv2 (hs1 _)
  refine body_in (Y := X.blk s H scope (compEnvC scope cl C X.env) fp) (vs := []) (body := fun it => pairB kx vx D (compEnvC scope cl C X.env) >>= fun _ => again (.compLoop (.DictComp kx vx [⟨tg, iter, ifs, 0⟩, ⟨tg1, iter1, ifs1, 0⟩, ⟨tg2, iter2, ifs2, 0⟩] scope pos) 2 it (.ref D) (compEnvC scope cl C X.env))) hc (fun _ _ z => z) ⟨fun pins s' σ' H' Q I h => h (s, H, C, cl, fp) pins s' I⟩ (fun it => ⟨rfl, rfl, rfl⟩) (hst 2 (.inr rfl) (X.blk s H scope (compEnvC scope cl C X.env) fp) _) (hg2 s H C cl fp) ⟨fun pins s' σ' H' Q I h => h (s, H, C, cl, fp) pins s' I⟩ (fun it => ?_) (fun i z => nomatch z) (hs2 _)
  exact body_dictK (Y := X.blk s H scope (compEnvC scope cl C X.env) fp) (fun _ _ z => z) ⟨fun pins s' σ' H' Q I h => h (s, H, C, cl, fp) pins s' I⟩ ⟨fun pins s' σ' H' Q I h => h (s, H, C, cl, fp) pins s' I⟩
/-- an inner clause's start -/
theorem start_in {prog : Program} {w : World} {A : Around} {R : Result → Shared → Prop} {s : Shared} {comp : Expr} {j : Nat} {it acc : Value} {env : Env} {g : Comprehension} (hg : (clausesOf comp)[j]? = some g) (ha : (g.is_async != 0) = false)
    (hq : ∀ it, (Code.compLoop comp j it acc env).quiet = true) (hd : (model prog w).den (.compStart comp j it acc env) = (compStart comp j it acc env).onRaise fun x => do noteFrame x env; standAt theWindowsPlace) (hu : A.under (.compStart comp j it acc env) = A)
    (h0 : codeAny (model prog w) A (.compLoop comp j it acc env) R s)
    (h : wpAny (model prog w) A (pyIter it) (fun it' s' => codeAny (model prog w) A (.compLoop comp j it' acc env) R s') (notedBy (model prog w) A env fun x s' => R (.error x) s') s) : codeAny (model prog w) A (.compStart comp j it acc env) R s := by
  refine codeAny_of_tree ?_
  rw [hd, hu]
  refine wpAny_notedAt ?_
  unfold compStart
  rw [hg]
  simp only [Option.elim_some, ha, Bool.false_eq_true, if_false]
  show wpAny _ _ (ask >>= _) _ _ s
  refine wpAny_bind (wpAny_askSetting (wpAny_ite ?_))
  split
  · first
      | exact wpAny_bind (wpAny_pure (wpAny_pure (And.intro (hq _) h0)))
      | exact wpAny_pure (And.intro (hq _) h0)
  · first
      | exact wpAny_bind (wpAny_rule (wpAny_bind (wpAny_standAt (wpAny_bind (wpAny_mono h (fun it' s' h' => wpAny_pure (And.intro (hq _) h')) fun _ _ x => x)))))
      | (refine wpAny_bind (wpAny_rule ?_); show wpAny _ _ (standAt g.iter.pos >>= _) _ _ s; exact wpAny_bind (wpAny_standAt (wpAny_bind (wpAny_mono h (fun it' s' h' => wpAny_pure (And.intro (hq _) h')) fun _ _ x => x))))
end
end Nr
/-! enumerate of lists and tuples of data. -/
namespace Nr
open PySem PySem.Spec L2
open PyProof.Rows hiding St

set_option maxHeartbeats 1000000 in
theorem enum_new1 {v : Value} {o : Obj} {C : Heap → Prop} (B : Begins v o C) :
    Meets (Builtin.«enumerate.__new__» ⟨[.type "enumerate", v], []⟩) (fun _ R s => C s.heap ∧
      R (.ok (.ret (.ref (s.heap.push o).objs.size))) { s with heap := (s.heap.push o).push { cls := .type "enumerate", data := .fields #[.none, .bool false, .ref s.heap.objs.size, rawInt 0, .none, .none] } }) :=
  .of_wp fun prog w A R s h => by
    obtain ⟨hp, g, d, tk, os⟩ := s; obtain ⟨h1, h⟩ := h
    have hsub := sub_enumerate
    have q1 : ∀ {A' : Around} {E : Value → Shared → Prop} {Q : Value → Shared → Prop}, Q (.ref hp.objs.size) ⟨hp.push o, g, d, tk, os⟩ → wpAny (model prog w) A' (pyIter v) Q E ⟨hp, g, d, tk, os⟩ :=
      fun q => B.iter prog w _ _ ⟨hp, g, d, tk, os⟩ _ h1 q
    wp_walk using q1
    refine wpAny_stack_any fun st => wpAny_pure ?_
    split
    · rename_i c _ _ _ _ _
      cases (c == Value.type "enumerate")
      · wp_walk using q1
        exact ⟨_, rfl, h⟩
      · wp_walk using q1
        exact ⟨_, rfl, h⟩
    · wp_walk using q1
      exact ⟨_, rfl, h⟩
section
variable {prog : Program} {w : World} {A : Around} {E : Value → Shared → Prop} {s : Shared}
theorem call_enum1 {v : Value} {o : Obj} {C : Heap → Prop} {Q : Value → Shared → Prop} (B : Begins v o C) (h1 : C s.heap)
    (h : ∀ h', IsEnum h' (s.heap.objs.size + 1) s.heap.objs.size 0 .none → h'.get? s.heap.objs.size = some o →
      (∀ b o, s.heap.get? b = some o → h'.get? b = some o) → Q (.ref (s.heap.objs.size + 1)) { s with heap := h' }) :
    wpAny (model prog w) A (call (.type "enumerate") [v]) Q E s := by
  refine callType_new PySem.F.called_enumerate (by decide) (PySem.F.typeCall_enumerate_1 _) (PySem.F.newCall_enumerate_1 _) (fun obj => PySem.F.args_object_init_2 obj _) PySem.F.entry_enumerate_new (enum_new1 B) ⟨h1, ?_⟩
  have hz : (s.heap.push o).objs.size = s.heap.objs.size + 1 := Heap.size_push ..
  show _ ∧ _
  rw [hz]
  have he : IsEnum ((s.heap.push o).push { cls := .type "enumerate", data := .fields #[.none, .bool false, .ref s.heap.objs.size, rawInt 0, .none, .none] }) (s.heap.objs.size + 1) s.heap.objs.size 0 .none := by
    have := Heap.get?_push_size (s.heap.push o) (o := { cls := .type "enumerate", data := .fields #[.none, .bool false, .ref s.heap.objs.size, rawInt 0, .none, .none] }) rfl
    rw [hz] at this
    exact this
  exact ⟨⟨_, he, rfl⟩, h _ he (Heap.get?_push_of_some _ (Heap.get?_push_size _ B.free)) fun b o x => Heap.get?_push_of_some _ (Heap.get?_push_of_some _ x)⟩
end
/-- a tuple's items, each in a new pair with its index -/
def ItEnT (K : PySem.W.Frag) (a : Addr) : It :=
  ⟨fun i H => ∃ (xs : List V) (x : V), SqT K H a xs ∧ xs[i]? = some x, fun i H v H' => ∃ T x, v = .ref T ∧ H T = none ∧ H' = upd H T (.tup [.int (i : Nat), x]) ∧ ∀ xs, SqT K H a xs → xs[i]? = some x, fun i H => ∃ xs : List V, SqT K H a xs ∧ xs.length ≤ i⟩
theorem turn_enT {P : Program} {w : World} {K : PySem.W.Frag} {elts : List Expr} {kk : Nat} {tpos : Pos} (a e it : Addr) (items : Array Value) :
    Turn P w K (.Tuple elts kk tpos) (ItEnT K a) [e, it] e (fun i h => (∃ old, IsEnum h e it ((i : Nat) : Int) old) ∧ h.IsTupleIter it a i ∧ e ≠ it) where
  mem := by simp
  obj := fun i h st b hb => by
    obtain ⟨⟨old, he⟩, ⟨o, ho, hc, hd⟩, _⟩ := st
    rcases List.mem_cons.mp hb with z | hb
    · rw [z]; exact ⟨_, he, fun v q => nomatch q⟩
    · rw [List.mem_singleton.mp hb]; exact ⟨o, ho, fun v q => by rw [hd] at q; cases q⟩
  keep := fun i h h' st k => let ⟨⟨old, he⟩, hi, hne⟩ := st; ⟨⟨old, k e (by simp) _ he⟩, hi.at fun o q => k it (by simp) o q, hne⟩
  item := by
    intro X hP hw hK hc i pins s σ H E I hf st hg
    subst hP hw hK
    obtain ⟨⟨old, he⟩, hit, hne⟩ := st
    obtain ⟨xs, x, hq, hx⟩ := hg
    obtain ⟨its, rv, p, hz⟩ := I.tuple hq
    obtain ⟨u, hu, ru⟩ := rv.get hx
    have hel : e < s.heap.objs.size := Heap.lt_size he
    have hil : it < s.heap.objs.size := by obtain ⟨_, q, _⟩ := hit; exact Heap.lt_size q
    have hal : s.heap.IsTuple a its.toArray := p
    have hai : a ≠ it := fun z => by
      obtain ⟨o1, q1, c1, _⟩ := hit
      obtain ⟨o2, q2, c2, _⟩ := id hal
      rw [z, q1] at q2
      cases q2
      rw [c1] at c2
      injection c2 with c3
      exact absurd c3 (by decide)
    have hae : a ≠ e := fun z => by
      obtain ⟨o2, q2, c2, _⟩ := id hal
      rw [z, he] at q2
      cases q2
      injection c2 with c3
      exact absurd c3 (by decide)
    have hh : X.A.in1.handled = none := by simpa using I.ok.hd hc
    have hli : i < its.toArray.size := by
      rw [List.size_toArray]
      exact (List.getElem?_eq_some_iff.mp hu).1
    refine wpAny_pyNext_enum_itemD (Draws.tuple hh it a hai its.toArray) he ⟨hit, hal⟩ hli hne (by simp [hne, Ne.symm hae]) fun y h' tk hy ho hit' hT hsz hk => ?_
    have ey : y = u := by
      have e1 : its.toArray[i]? = some y := hy
      rw [List.getElem?_toArray, hu] at e1
      exact (Option.some.inj e1).symm
    subst ey
    refine ⟨_, rfl, wpAny_letOwnedTupleGo_enum (s := { s with heap := h', toks := tk + 1 }) ho fun h'' he' sb => ?_⟩
    have hT2 : h''.get? s.heap.objs.size = some { cls := .type "tuple", data := .seq #[.int i tk, y] } := (sb.2 _ (Nat.ne_of_gt hel)).trans hT
    have new : ObjOk X.prog X.w (upd H s.heap.objs.size (.tup [.int (i : Nat), x])) h'' s.heap.objs.size (.tup [.int (i : Nat), x]) :=
      ⟨by show 2 ≤ sizeLine; decide, [.int i tk, y], .cons ⟨_, rfl⟩ (.cons ru .nil), ⟨_, hT2, rfl, _, rfl⟩⟩
    have I1 := I.turnedNew (ch := [e, it]) (t' := tk + 1) (h' := h'') (fun b ob hb q => (sb.2 b (fun z => hb (by simp [z]))).trans (hk b ob (fun z => hb (by simp [z])) (fun z => hb (by simp [z])) q)) hf (Nat.le_refl _) new
    refine ⟨.ref s.heap.objs.size, _, I1, rfl, ⟨_, x, rfl, I.hok.fresh (Nat.le_refl _), rfl, fun ys hy => by rw [I.tuple_inj hy hq]; exact hx⟩, ⟨⟨y, ?_⟩, hit'.1.at fun o q => (sb.2 it (Ne.symm hne)).trans q, hne⟩, fun b hb => ?_⟩
    · have e1 : ((i + 1 : Nat) : Int) = (i : Int) + 1 := by omega
      rw [e1]
      exact he'
    · have hb' : b < s.heap.objs.size := by
        rcases List.mem_cons.mp hb with z | hb
        · rw [z]; exact hel
        · rw [List.mem_singleton.mp hb]; exact hil
      rw [upd_ne (Nat.ne_of_lt hb')]
      exact (hf b hb).1
  done := by
    intro X hP hw hK hc i pins s σ H E I hf st hg
    subst hP hw hK
    obtain ⟨⟨old, he⟩, hit, hne⟩ := st
    obtain ⟨xs, hq, hx⟩ := hg
    obtain ⟨its, rv, p, hz⟩ := I.tuple hq
    have hal : s.heap.IsTuple a its.toArray := p
    obtain ⟨f0, f1, f2, f3, f4, f5⟩ := hf it (by simp)
    have hh : X.A.in1.handled = none := by simpa using I.ok.hd hc
    have hl := rv.length
    unfold pyNext
    refine wpAny_bind (wpAny_attempt (wpAny_callSpecial?_slot (name := Str.ofString "__next__") (show s.TypeIs (.ref e) "enumerate" from ⟨_, he, rfl⟩) PySem.F.slot_enumerate_next (wpAny_call_entry PySem.F.slot_enumerate_next ⟨_, he, rfl⟩ PySem.F.entry_enumerate_next ?_ (PySem.F.args_enumerate_next_1 _))))
    show wpAny _ _ (field (.ref e) 2 >>= _) _ _ _
    refine wpAny_bind (wpAny_field he rfl (x := .ref it) rfl ?_)
    refine wpAny_bind (wpAny_nextOf_tuple_end hh hit hal (by rw [List.getElem?_toArray]; exact List.getElem?_eq_none (by omega)) fun h' x he' hx' => ?_)
    obtain ⟨o, ho, hc'⟩ := hx'
    refine wpAny_bind (wpAny_isInstance (T := "StopIteration") (b := true) ⟨o, ho, hc'⟩ isSubtype_stop ?_)
    exact wpAny_pure ⟨rfl, I.turned (t' := s.toks) (fun b o hb q => he' b o hb q) f0 f1 f3 f4 f5⟩
  self := fun A i s Q E st h => let ⟨⟨_, he⟩, _⟩ := st; wpAny_pyIter_enum he h
section
variable {X : Cx} {e : Expr} {σ : L2.St} {H : Hp} {ds : List D} {p pos tpos : Pos} {elts : List Expr} {kk : Nat}
def iEnT (K : PySem.W.Frag) (ta : TA) : TI := fun σ H R => ta σ H fun vs H1 => ∃ a xs, vs = [.ref a] ∧ SqT K H1 a xs ∧ R (ItEnT K a) H1
theorem pi_enT {ta : TA} (hg : Gl X "enumerate") (hm : X.mg "enumerate" = none) (ha : PA X [e] ta) (hs : starEach [e] X.env = [(false, eval e X.env)] := by rfl) :
    PI X (.Tuple elts kk tpos) (.Call (.Name "enumerate" p) [e] [] pos) (iEnT X.K ta) := by
  refine ⟨fun pins s σ H R I h => ?_⟩
  refine Call_ (ld_blt I hg hm boot_enumerate (PyProof.Rows.callWith_type1 (thn (ha.run pos pins s σ H _ I h) fun us s1 ⟨vs, H1, I1, r1, q1⟩ => ?_) hs rfl))
  obtain ⟨a, xs, ex, hq, q⟩ := q1
  subst ex
  obtain ⟨u, rfl, ru⟩ := Vals.one r1
  cases ru
  obtain ⟨its, rv, p', hz⟩ := I1.tuple hq
  refine call_enum1 (begins_tuple a its.toArray) p' fun h' he hit hk => wpAny_pyIter_enum he ?_
  have I2 : Inv X pins σ H1 { s1 with heap := h' } := I1.kept (t' := s1.toks) hk
  refine ⟨s1.heap.objs.size + 1, [s1.heap.objs.size + 1, s1.heap.objs.size], _, _, H1, rfl, I2, turn_enT a (s1.heap.objs.size + 1) s1.heap.objs.size its.toArray, ⟨⟨.none, he⟩, ⟨_, hit, rfl, rfl⟩, Nat.succ_ne_self _⟩, fun b hb => ?_, q⟩
  have hle : s1.heap.objs.size ≤ b := by
    rcases List.mem_cons.mp hb with z | hb
    · rw [z]; exact Nat.le_add_right _ _
    · rw [List.mem_singleton.mp hb]; exact Nat.le_refl _
  exact I1.fpOk hle (I1.hok.fresh hle)
def enumD (ds : List D) : List D := (List.range ds.length).map fun (i : Nat) => .tup [.int (i : Int), ds.getD i .non]
theorem enumD_at {i : Nat} {d : D} (h : (enumD ds)[i]? = some d) : ∃ x, ds[i]? = some x ∧ d = .tup [.int (i : Int), x] := by
  unfold enumD at h
  rw [List.getElem?_map] at h
  by_cases hi : i < ds.length
  · rw [List.getElem?_range hi] at h
    refine ⟨ds[i], List.getElem?_eq_getElem hi, ?_⟩
    have := Option.some.inj h
    rw [← this]
    show D.tup [.int (i : Int), ds.getD i .non] = _
    rw [List.getD_eq_getElem?_getD, List.getElem?_eq_getElem hi]
    rfl
  · rw [List.getElem?_eq_none (by rw [List.length_range]; omega)] at h
    cases h
theorem enumD_len : (enumD ds).length = ds.length := by unfold enumD; rw [List.length_map, List.length_range]
theorem wi_enT (h : EV X e σ H (.tup ds)) (hg : Gl X "enumerate") (hm : X.mg "enumerate" = none) (hs : starEach [e] X.env = [(false, eval e X.env)] := by rfl) (hs1 : starEach [e] X.env = (false, eval e X.env) :: starEach [] X.env := by rfl) :
    WI X (.Tuple elts kk tpos) (.Call (.Name "enumerate" p) [e] [] pos) σ H fun J H2 => Same H H2 ∧ Runs J (Tm H2) (enumD ds) := by
  refine wi (pi_enT hg hm pa_w hs) ?_
  refine ((ea_cons h ea_nil hs1) H (Same.refl H)).mono fun vs H2 ⟨s2, v, r, ev, ⟨a, us, e0, e1, rl⟩, er⟩ => ?_
  have er' : r = [] := er
  refine ⟨a, us, by rw [ev, er', e0], SqT.of e1, s2, fun i H3 m => ⟨fun d hd => ?_, fun hi => ?_⟩⟩
  · obtain ⟨x, hx, rfl⟩ := enumD_at hd
    obtain ⟨v, hv, rv⟩ := rl.get hx
    refine ⟨⟨us, v, SqT.of (m a us e1), hv⟩, fun y H' ⟨T, w, ey, hT, eH, hw⟩ => ?_⟩
    have y1 := hw us (SqT.of (m a us e1))
    rw [hv] at y1
    have ew : v = w := Option.some.inj y1
    subst ew
    rw [eH]
    exact ⟨same_new hT, T, [.int (i : Nat), v], ey, upd_same, .cons rfl (.one ((rv.tm m).mono (same_new hT)))⟩
  · exact ⟨us, SqT.of (m a us e1), by rw [rl.length, hi, enumD_len]; exact Nat.le_refl _⟩
theorem src_enT (h : EV X e σ H (.tup ds)) (hg : Gl X "enumerate") (hm : X.mg "enumerate" = none) (hs : starEach [e] X.env = [(false, eval e X.env)] := by rfl) (hs1 : starEach [e] X.env = (false, eval e X.env) :: starEach [] X.env := by rfl) :
    Src X (.Tuple elts kk tpos) (.Call (.Name "enumerate" p) [e] [] pos) σ H (enumD ds) := fun H1 s => (wi_enT (h.mono s) hg hm hs hs1).mono fun J H2 ⟨s2, r⟩ => ⟨s2, r.imp fun H' s' => Same.tm s'⟩
theorem src_enL (h : LV X e σ H ds) (hg : Gl X "enumerate") (hm : X.mg "enumerate" = none) (hs : starEach [e] X.env = [(false, eval e X.env)] := by rfl) (hs1 : starEach [e] X.env = (false, eval e X.env) :: starEach [] X.env := by rfl) :
    Src X (.Tuple elts kk tpos) (.Call (.Name "enumerate" p) [e] [] pos) σ H (enumD ds) := fun H1 s => by
  refine wi (pi_enum hg hm (pa_cons pe_w pa_nil hs1) hs) ?_
  refine (h H1 s).mono fun v H2 ⟨s2, a, us, e0, e1, rl⟩ => ?_
  refine ⟨a, us, by rw [e0], SqL.of e1, s2, fun i H3 m => ⟨fun d hd => ?_, fun hi => ?_⟩⟩
  · obtain ⟨x, hx, rfl⟩ := enumD_at hd
    obtain ⟨v, hv, rv⟩ := rl.get hx
    refine ⟨⟨us, v, SqL.of (m a _ e1), hv⟩, fun y H' ⟨T, w, ey, hT, eH, hw⟩ => ?_⟩
    have y1 := hw us (SqL.of (m a _ e1))
    rw [hv] at y1
    have ew : v = w := Option.some.inj y1
    subst ew
    rw [eH]
    exact ⟨same_new hT, T, [.int (i : Nat), v], ey, upd_same, .cons rfl (.one ((rv.mono m).mono (same_new hT)))⟩
  · exact ⟨us, SqL.of (m a _ e1), by rw [rl.length, hi, enumD_len]; exact Nat.le_refl _⟩
end
end Nr
/-! Comprehensions of more clauses, dict comprehensions, at the level of data. -/
namespace Nr
open PySem PySem.Spec L2
open PyProof.Rows hiding St

/-- each item once, as it comes first -/
def addN {α : Type} [DecidableEq α] (l : List α) (x : α) : List α := if x ∈ l then l else l ++ [x]
def dedupF {α : Type} [DecidableEq α] (l : List α) : List α := l.foldl addN []
section
variable {α : Type} [DecidableEq α]
theorem addN_mem {l : List α} {x y : α} : y ∈ addN l x ↔ y ∈ l ∨ y = x := by
  unfold addN
  by_cases h : x ∈ l
  · rw [if_pos h]
    exact ⟨.inl, fun z => z.elim id fun e => e ▸ h⟩
  · rw [if_neg h, List.mem_append, List.mem_singleton]
theorem addN_nodup {l : List α} {x : α} (h : l.Nodup) : (addN l x).Nodup := by
  unfold addN
  by_cases hx : x ∈ l
  · rw [if_pos hx]; exact h
  · rw [if_neg hx]
    exact List.nodup_append.mpr ⟨h, by simp, fun a ha b hb e => hx (by rw [List.mem_singleton.mp hb] at e; exact e ▸ ha)⟩
theorem addN_len (l : List α) (x : α) : (addN l x).length ≤ l.length + 1 := by
  unfold addN
  split
  · exact Nat.le_succ _
  · rw [List.length_append]; exact Nat.le_refl _
theorem foldl_addN_mem {y : α} : ∀ (l acc : List α), y ∈ l.foldl addN acc ↔ y ∈ acc ∨ y ∈ l
  | [], acc => by simp
  | x :: l, acc => by
    rw [List.foldl_cons, foldl_addN_mem l, addN_mem, List.mem_cons, or_assoc]
theorem foldl_addN_nodup : ∀ (l acc : List α), acc.Nodup → (l.foldl addN acc).Nodup
  | [], _, h => h
  | x :: l, acc, h => by
    rw [List.foldl_cons]
    exact foldl_addN_nodup l _ (addN_nodup h)
theorem foldl_addN_len : ∀ (l acc : List α), (l.foldl addN acc).length ≤ acc.length + l.length
  | [], acc => Nat.le_refl _
  | x :: l, acc => by
    rw [List.foldl_cons, List.length_cons]
    have h1 := foldl_addN_len l (addN acc x)
    have h2 := addN_len acc x
    omega
theorem dedupF_mem {l : List α} {y : α} : y ∈ dedupF l ↔ y ∈ l := by
  unfold dedupF
  rw [foldl_addN_mem]
  simp
theorem dedupF_nodup (l : List α) : (dedupF l).Nodup := foldl_addN_nodup l [] List.nodup_nil
theorem dedupF_len (l : List α) : (dedupF l).length ≤ l.length := by
  have := foldl_addN_len l []
  simpa [dedupF] using this
end
/-- the keys behind a store -/
theorem putX_keysN (xs : XS) (k : LK) (a : Addr) (v : V) : (putX xs k a v).map (·.1) = addN (xs.map (·.1)) k := by
  cases h : getX xs k with
  | none =>
    have hk : k ∉ xs.map (·.1) := fun z => by
      obtain ⟨x, hx, e⟩ := List.mem_map.mp z
      exact getX_none.mp h x hx e
    rw [putX_new h, List.map_append]
    unfold addN
    rw [if_neg hk]
    rfl
  | some p =>
    have hk : k ∈ xs.map (·.1) := List.mem_map.mpr ⟨_, getX_mem h, rfl⟩
    rw [putX_keys (by rw [h]; rfl)]
    unfold addN
    rw [if_pos hk]
theorem getX_iff {xs : XS} {k : LK} : (getX xs k).isSome = true ↔ k ∈ xs.map (·.1) := by
  cases h : getX xs k with
  | none =>
    constructor
    · intro z; cases z
    · intro z
      obtain ⟨x, hx, e⟩ := List.mem_map.mp z
      exact absurd e (getX_none.mp h x hx)
  | some p => exact ⟨fun _ => List.mem_map.mpr ⟨_, getX_mem h, rfl⟩, fun _ => rfl⟩

/-! ### a clause's loop from what runs -/
theorem tCl_of {J : It} {g : TG} {tt : TT} {t : TStep} {us : List Nat} {σ : L2.St} {H : Hp} {N : Hp → Prop} {ds : List D} {C : Hp → Prop} (r : Runs J C ds) (Pv : Nat → Hp → Prop) (h0 : Pv 0 H) (hC : ∀ i H, i ≤ ds.length → Pv i H → C H)
    (turn : ∀ i d H, ds[i]? = some d → Pv i H → ∀ v H', Same H H' → Rep H' d v → g v (wipe σ us) H' fun σ2 H2 => wipe σ2 us = wipe σ us ∧ tt σ2 H2 fun b H3 => if b = true then t σ2 H3 (Pv (i + 1)) else Pv (i + 1) H3)
    (fin : ∀ H, Pv ds.length H → N H) : tCl J g tt t us σ H N := by
  refine ⟨fun i m H => m = ds.length - i ∧ i ≤ ds.length ∧ Pv i H, ⟨ds.length, by simp, Nat.zero_le _, h0⟩, ?_⟩
  rintro i m H ⟨rfl, hi, p⟩
  obtain ⟨r1, r2⟩ := r i H (hC i H hi p)
  by_cases hlt : i < ds.length
  · have hd : ds[i]? = some ds[i] := List.getElem?_eq_getElem hlt
    obtain ⟨go, y⟩ := r1 _ hd
    refine .inr ⟨go, Pv (i + 1), fun H' p' => ⟨ds.length - (i + 1), by omega, rfl, hlt, p'⟩, fun x H' hy => ?_⟩
    obtain ⟨s, rx⟩ := y x H' hy
    exact turn i _ H hd p x H' s rx
  · have e : i = ds.length := by omega
    exact .inl ⟨r2 e, fin H (by rw [← e]; exact p)⟩
theorem wts_nil {X : Cx} {σ : L2.St} {H : Hp} {Q : Bool → Hp → Prop} (h : Q true H) : WTs X [] σ H Q := wts pts_nil h
/-- an expression that is a slot's value -/
def NV (Y : Cx) (e : Expr) (σ : L2.St) (v0 : V) : Prop := ∀ (H : Hp) (Q : VK), Q v0 H → WE Y e σ H Q
theorem NV.use {Y : Cx} {e : Expr} {σ : L2.St} {v0 : V} {H : Hp} {Q : VK} (h : NV Y e σ v0) (q : Q v0 H) : WE Y e σ H Q := h H Q q
theorem nv_name {X : Cx} {x : Str} {pos : Pos} {σ : L2.St} {v : V} (i : Nat) (h : σ[i]? = some (some v)) (hN : X.N[i]? = some x := by rfl) (hv : Vis X.env.scope x := by first | exact Or.inl rfl | exact Or.inr (Or.inl rfl) | exact Or.inr (Or.inr rfl))
    (hd : (x == ("__debug__" : Str)) = false := by decide) (hcd : (x == ("__classdict__" : Str)) = false := by decide) : NV X (.Name x pos) σ v := fun H Q q => we (pe_var hN hv hd hcd) ⟨v, h, q⟩
/-- what a step adds: S H as, as what has been gathered -/
def Adds (S : Hp → List D → Prop) (t : TStep) (σ : L2.St) (es : List D) : Prop := ∀ (H : Hp) (as : List D) (N : Hp → Prop), S H as → as.length + es.length < sizeLine → (∀ H', S H' (as ++ es) → N H') → t σ H N
structure StOk (H0 : Hp) (S : Hp → List D → Prop) : Prop where
  same : ∀ H as, S H as → Same H0 H
  stay : ∀ H H' as, S H as → Same H H' → S H' as
section
variable {X : Cx} {scope : Scope} {H0 : Hp} {S : Hp → List D → Prop} {t : TStep} {σ : L2.St} {us : List Nat} {j : Nat} {iter : Expr} {x : Str} {p : Pos} {ds : List D} {f : D → List D}
theorem adds_in {v0 : V} (so : StOk H0 S) (hsrc : ∀ b, NV (XB X scope b) iter σ v0) (hr : Rep H0 (.tup ds) v0) (hj : ∀ v, wipe ((wipe σ us).set j (some v)) us = wipe σ us)
    (each : ∀ d ∈ ds, ∀ v, Rep H0 d v → Adds S t ((wipe σ us).set j (some v)) (f d)) : Adds S (tIn (fun σ H R => ∀ b, WI (XB X scope b) (.Name x p) iter σ H R) (gName j) (fun σ H Q => ∀ b, WTs (XB X scope b) [] σ H Q) t us) σ (ds.flatMap f) := by
  intro H as N s hl hN b
  refine wi (pi_tup pe_w) (hsrc b H _ ?_)
  obtain ⟨a, vs, e, e1, rl⟩ := hr
  refine ⟨a, e, ⟨vs, SqT.of (so.same H as s a _ e1)⟩, ?_⟩
  refine ⟨fun i m H' => m = ds.length - i ∧ i ≤ ds.length ∧ S H' (as ++ (ds.take i).flatMap f), ⟨ds.length, by simp, Nat.zero_le _, by simpa using s⟩, ?_⟩
  rintro i m H1 ⟨rfl, hi, s1⟩
  have hs1 := so.same H1 _ s1 a _ e1
  by_cases hlt : i < ds.length
  · have hd : ds[i]? = some ds[i] := List.getElem?_eq_getElem hlt
    obtain ⟨v, hv, rv⟩ := rl.get hd
    refine .inr ⟨⟨vs, v, SqT.of hs1, hv⟩, fun H' => i + 1 ≤ ds.length ∧ S H' (as ++ (ds.take (i + 1)).flatMap f), fun H' q => ⟨ds.length - (i + 1), by omega, rfl, q⟩, fun y H' hy => ?_⟩
    obtain ⟨eH, y1⟩ := hy
    have y2 := y1 vs (SqT.of hs1)
    rw [hv] at y2
    have ey := Option.some.inj y2
    rw [← ey, eH]
    refine ⟨hj v, fun b2 => ?_⟩
    refine wts_nil ?_
    refine iteT ?_
    have ft : (ds.take (i + 1)).flatMap f = (ds.take i).flatMap f ++ f ds[i] := by
      rw [List.take_add_one, hd, List.flatMap_append]
      show _ ++ ([ds[i]].flatMap f) = _
      rw [List.flatMap_cons, List.flatMap_nil, List.append_nil]
    have fl : ((ds.take (i + 1)).flatMap f).length ≤ (ds.flatMap f).length := by
      conv => rhs; rw [← List.take_append_drop (i + 1) ds, List.flatMap_append, List.length_append]
      omega
    refine each ds[i] (List.getElem_mem hlt) v rv H1 _ _ s1 ?_ fun H' s' => ⟨hlt, ?_⟩
    · rw [ft, List.length_append] at fl
      rw [List.length_append]
      omega
    · rw [ft, ← List.append_assoc]
      exact s'
  · have e : i = ds.length := by omega
    refine .inl ⟨⟨vs, SqT.of hs1, by rw [rl.length, e]; exact Nat.le_refl _⟩, hN H1 ?_⟩
    rw [e, List.take_length] at s1
    exact s1
end
/-- the list's state -/
def LSt (H0 : Hp) (D0 : Addr) (H : Hp) (as : List D) : Prop := H0 D0 = none ∧ Same H0 H ∧ ∃ vs, H D0 = some (.lst vs) ∧ RepL H as vs
theorem lst_ok {H0 : Hp} {D0 : Addr} : StOk H0 (LSt H0 D0) := ⟨fun H as h => h.2.1, fun H H' as ⟨h1, h2, vs, h3, h4⟩ s => ⟨h1, h2.trans s, vs, s _ _ h3, h4.mono s⟩⟩
theorem adds_item {X : Cx} {scope : Scope} {H0 : Hp} {D0 : Addr} {elt : Expr} {σ : L2.St} {d : D} (he : ∀ b, EV (XB X scope b) elt σ H0 d) : Adds (LSt H0 D0) (tItem (fun σ H Q => ∀ b, WE (XB X scope b) elt σ H Q) D0) σ [d] := by
  rintro H as N ⟨h1, h2, vs, h3, h4⟩ hl hN b
  refine (he b H h2).mono fun y H2 ⟨s2, ry⟩ => ?_
  refine ⟨vs, s2 _ _ h3, by rw [h4.length]; simp at hl; omega, hN _ ⟨h1, same_mut (h2.trans s2) h1, vs ++ [y], upd_same, ?_⟩⟩
  have m : Tm H2 (upd H2 D0 (.lst (vs ++ [y]))) := fun a xs e => by
    rw [upd_ne (ne_of e (s2 _ _ h3) (by intro z; cases z))]
    exact e
  exact RepL.append ((h4.mono s2).tm m) (.one (ry.tm m))
/-- a dict's state, its pairs not told -/
def KSt (H0 : Hp) (D0 : Addr) (H : Hp) (as : List D) : Prop := H0 D0 = none ∧ Same H0 H ∧ ∃ kvs, H D0 = some (.dK kvs) ∧ kvs.length ≤ as.length
theorem kst_ok {H0 : Hp} {D0 : Addr} : StOk H0 (KSt H0 D0) := ⟨fun H as h => h.2.1, fun H H' as ⟨h1, h2, vs, h3, h4⟩ s => ⟨h1, h2.trans s, vs, s _ _ h3, h4⟩⟩
theorem adds_pairK {X : Cx} {scope : Scope} {H0 : Hp} {D0 : Addr} {kx vx : Expr} {σ : L2.St} {i : Int} {d : D} (hk : ∀ b, EV (XB X scope b) kx σ H0 (.int i)) (hv : ∀ b, EV (XB X scope b) vx σ H0 d) :
    Adds (KSt H0 D0) (tPairK (fun σ H Q => ∀ b, WE (XB X scope b) kx σ H Q) (fun σ H Q => ∀ b, WE (XB X scope b) vx σ H Q) D0) σ [.int i] := by
  rintro H as N ⟨h1, h2, kvs, h3, h4⟩ hl hN b
  refine (hk b H h2).mono fun y H2 ⟨s2, ry⟩ b2 => (hv b2 H2 (h2.trans s2)).mono fun z H3 ⟨s3, rz⟩ => ?_
  refine ⟨kvs, .inl i, ry, s3 _ _ (s2 _ _ h3), by simp at hl; omega, hN _ ⟨h1, same_mut ((h2.trans s2).trans s3) h1, _, upd_same, ?_⟩⟩
  have := length_putK kvs (.inl i : Key) z
  simp
  omega
section
variable {X : Cx} {comp iter : Expr} {scope : Scope} {σ : L2.St} {H : Hp} {ds : List D} {us : List Nat} {j : Nat} {x : Str} {p : Pos} {t : Addr → TStep} {f : D → List D}
/-- the outer clause, a list -/
theorem flat_sem {v0 : V} {Q : VK} (hsrc : NV X iter σ v0) (hr : Rep H (.tup ds) v0) (hj : ∀ v, wipe ((wipe σ us).set j (some v)) us = wipe σ us) (hl : (ds.flatMap f).length < sizeLine)
    (each : ∀ D0 d, d ∈ ds → ∀ v, Rep H d v → H D0 = none → Adds (LSt H D0) (t D0) ((wipe σ us).set j (some v)) (f d))
    (q : ∀ l H2, H l = none → Same H H2 → (∃ vs, H2 l = some (.lst vs) ∧ RepL H2 (ds.flatMap f) vs) → Q (.ref l) H2) :
    tComp (WI X (.Name x p) iter) (gName j) (fun σ H Q => ∀ b, WTs (XB X scope b) [] σ H Q) (fun _ => .lst []) t us σ H Q := by
  refine wi (pi_tup pe_w) (hsrc H _ ?_)
  obtain ⟨a, vs, e, e1, rl⟩ := hr
  refine ⟨a, e, ⟨vs, SqT.of e1⟩, fun D0 hD => ?_⟩
  have so : StOk H (LSt H D0) := lst_ok
  have s0 : LSt H D0 (upd H D0 (.lst [])) [] := ⟨hD, same_new hD, [], upd_same, rfl⟩
  refine ⟨fun i m H' => m = ds.length - i ∧ i ≤ ds.length ∧ LSt H D0 H' ((ds.take i).flatMap f), ⟨ds.length, by simp, Nat.zero_le _, by simpa using s0⟩, ?_⟩
  rintro i m H1 ⟨rfl, hi, s1⟩
  have hs1 := so.same H1 _ s1 a _ e1
  by_cases hlt : i < ds.length
  · have hd : ds[i]? = some ds[i] := List.getElem?_eq_getElem hlt
    obtain ⟨v, hv, rv⟩ := rl.get hd
    refine .inr ⟨⟨vs, v, SqT.of hs1, hv⟩, fun H' => i + 1 ≤ ds.length ∧ LSt H D0 H' ((ds.take (i + 1)).flatMap f), fun H' q => ⟨ds.length - (i + 1), by omega, rfl, q⟩, fun y H' hy => ?_⟩
    obtain ⟨eH, y1⟩ := hy
    have y2 := y1 vs (SqT.of hs1)
    rw [hv] at y2
    have ey := Option.some.inj y2
    rw [← ey, eH]
    refine ⟨hj v, fun b2 => ?_⟩
    refine wts_nil ?_
    refine iteT ?_
    have ft : (ds.take (i + 1)).flatMap f = (ds.take i).flatMap f ++ f ds[i] := by
      rw [List.take_add_one, hd, List.flatMap_append]
      show _ ++ ([ds[i]].flatMap f) = _
      rw [List.flatMap_cons, List.flatMap_nil, List.append_nil]
    have fl : ((ds.take (i + 1)).flatMap f).length ≤ (ds.flatMap f).length := by
      conv => rhs; rw [← List.take_append_drop (i + 1) ds, List.flatMap_append, List.length_append]
      omega
    refine each D0 ds[i] (List.getElem_mem hlt) v rv hD H1 _ _ s1 ?_ fun H' s' => ⟨hlt, ?_⟩
    · rw [ft, List.length_append] at fl
      omega
    · rw [ft]
      exact s'
  · have e : i = ds.length := by omega
    rw [e, List.take_length] at s1
    refine .inl ⟨⟨vs, SqT.of hs1, by rw [rl.length, e]; exact Nat.le_refl _⟩, q D0 H1 hD s1.2.1 s1.2.2⟩
/-- the outer clause, a dict that is not told -/
theorem flatK_sem {v0 : V} {Q : VK} (hsrc : NV X iter σ v0) (hr : Rep H (.tup ds) v0) (hj : ∀ v, wipe ((wipe σ us).set j (some v)) us = wipe σ us) (hl : (ds.flatMap f).length < sizeLine)
    (each : ∀ D0 d, d ∈ ds → ∀ v, Rep H d v → H D0 = none → Adds (KSt H D0) (t D0) ((wipe σ us).set j (some v)) (f d))
    (q : ∀ l H2, H l = none → Same H H2 → Q (.ref l) H2) :
    tComp (WI X (.Name x p) iter) (gName j) (fun σ H Q => ∀ b, WTs (XB X scope b) [] σ H Q) (fun _ => .dK []) t us σ H Q := by
  refine wi (pi_tup pe_w) (hsrc H _ ?_)
  obtain ⟨a, vs, e, e1, rl⟩ := hr
  refine ⟨a, e, ⟨vs, SqT.of e1⟩, fun D0 hD => ?_⟩
  have so : StOk H (KSt H D0) := kst_ok
  have s0 : KSt H D0 (upd H D0 (.dK [])) [] := ⟨hD, same_new hD, [], upd_same, Nat.le_refl _⟩
  refine ⟨fun i m H' => m = ds.length - i ∧ i ≤ ds.length ∧ KSt H D0 H' ((ds.take i).flatMap f), ⟨ds.length, by simp, Nat.zero_le _, by simpa using s0⟩, ?_⟩
  rintro i m H1 ⟨rfl, hi, s1⟩
  have hs1 := so.same H1 _ s1 a _ e1
  by_cases hlt : i < ds.length
  · have hd : ds[i]? = some ds[i] := List.getElem?_eq_getElem hlt
    obtain ⟨v, hv, rv⟩ := rl.get hd
    refine .inr ⟨⟨vs, v, SqT.of hs1, hv⟩, fun H' => i + 1 ≤ ds.length ∧ KSt H D0 H' ((ds.take (i + 1)).flatMap f), fun H' q => ⟨ds.length - (i + 1), by omega, rfl, q⟩, fun y H' hy => ?_⟩
    obtain ⟨eH, y1⟩ := hy
    have y2 := y1 vs (SqT.of hs1)
    rw [hv] at y2
    have ey := Option.some.inj y2
    rw [← ey, eH]
    refine ⟨hj v, fun b2 => ?_⟩
    refine wts_nil ?_
    refine iteT ?_
    have ft : (ds.take (i + 1)).flatMap f = (ds.take i).flatMap f ++ f ds[i] := by
      rw [List.take_add_one, hd, List.flatMap_append]
      show _ ++ ([ds[i]].flatMap f) = _
      rw [List.flatMap_cons, List.flatMap_nil, List.append_nil]
    have fl : ((ds.take (i + 1)).flatMap f).length ≤ (ds.flatMap f).length := by
      conv => rhs; rw [← List.take_append_drop (i + 1) ds, List.flatMap_append, List.length_append]
      omega
    refine each D0 ds[i] (List.getElem_mem hlt) v rv hD H1 _ _ s1 ?_ fun H' s' => ⟨hlt, ?_⟩
    · rw [ft, List.length_append] at fl
      omega
    · rw [ft]
      exact s'
  · have e : i = ds.length := by omega
    rw [e, List.take_length] at s1
    refine .inl ⟨⟨vs, SqT.of hs1, by rw [rl.length, e]; exact Nat.le_refl _⟩, q D0 H1 hD s1.2.1⟩
end
/-! ### a dict of rows -/
/-- a new dict with the keys ks -/
def EX (X : Cx) (e : Expr) (σ : L2.St) (H : Hp) (ks : List LK) : Prop := ∀ H1, Same H H1 → WE X e σ H1 fun v H2 => ∃ D xs, v = .ref D ∧ H1 D = none ∧ Same H1 H2 ∧ IsD X H2 D xs ∧ xs.map (·.1) = ks
section
variable {X : Cx} {kx vx iter : Expr} {scope : Scope} {σ : L2.St} {H : Hp} {ds : List D} {us : List Nat} {j : Nat} {x : Str} {p : Pos}
theorem leV_inj {a b : Leaf} (h : leV a = leV b) : a = b := by
  cases a <;> cases b <;> simp [leV] at h <;> first | rfl | (rw [h])
theorem key_of {H : Hp} : ∀ {k : LK} {vs : List V}, RepL H (k.map leD1) vs → vs = k.map leV
  | [], vs, r => r
  | a :: k, vs, r => by
    obtain ⟨v, vr, e, r1, r2⟩ := r
    rw [e, key_of r2]
    cases a <;> (simp only [leD1, Rep] at r1; rw [r1]; rfl)
theorem rep_keyD {H : Hp} {k : LK} {v : V} : Rep H (keyD k) v ↔ ∃ a, v = .ref a ∧ H a = some (.tup (k.map leV)) := by
  constructor
  · rintro ⟨a, vs, e, e1, r⟩
    exact ⟨a, e, by rw [← key_of r]; exact e1⟩
  · rintro ⟨a, e, e1⟩
    rw [e]
    exact rep_key e1
/-- {x: v for x in iter} -/
theorem dictX_sem {ks : List LK} {Q : VK} {dv : D} (hi : Src X (.Name x p) iter σ H (ks.map keyD)) (hj : ∀ v, wipe ((wipe σ us).set j (some v)) us = wipe σ us) (hl : ks.length < sizeLine)
    (hk : ∀ b H1 a v, Rep H1 a v → EV (XB X scope b) kx ((wipe σ us).set j (some v)) H1 a) (hv : ∀ b τ H1, EV (XB X scope b) vx τ H1 dv)
    (q : ∀ D xs H2, H D = none → Same H H2 → IsD X H2 D xs → xs.map (·.1) = dedupF ks → Q (.ref D) H2) :
    tComp (WI X (.Name x p) iter) (gName j) (fun σ H Q => ∀ b, WTs (XB X scope b) [] σ H Q) (fun D => DO X.prog X.w D []) (tPairX X (fun σ H Q => ∀ b, WE (XB X scope b) kx σ H Q) (fun σ H Q => ∀ b, WE (XB X scope b) vx σ H Q)) us σ H Q := by
  refine (hi H (Same.refl H)).mono fun J H1 ⟨s1, r1⟩ D0 hD => ?_
  refine tCl_of r1 (fun i H2 => H1 D0 = none ∧ Same H1 H2 ∧ ∃ xs, H2 D0 = some (DO X.prog X.w D0 xs) ∧ KeysAt H2 xs ∧ xs.map (·.1) = dedupF (ks.take i) ∧ xs.length ≤ i) ⟨hD, same_new hD, [], upd_same, (fun x hx => nomatch hx), rfl, Nat.le_refl _⟩ (fun i H2 _ h => h.2.1) ?_ ?_
  · rintro i d H2 hd ⟨_, s2, xs, h1, h2, h3, h4⟩ v H3 s3 rv
    rw [List.getElem?_map] at hd
    obtain ⟨k, hk0, rfl⟩ : ∃ k, ks[i]? = some k ∧ keyD k = d := by
      cases h : ks[i]? with
      | none => rw [h] at hd; cases hd
      | some k => rw [h] at hd; exact ⟨k, rfl, Option.some.inj hd⟩
    refine ⟨hj v, fun b => wts_nil ?_⟩
    refine iteT ?_
    intro b2
    refine (hk b2 H3 _ v rv).now.mono fun y H4 ⟨s4, ry⟩ b3 => (hv b3 _ H4).now.mono fun z H5 ⟨s5, rz⟩ => ?_
    obtain ⟨a, ea, ha⟩ := rep_keyD.mp (ry.mono s5)
    have s35 := (s3.trans s4).trans s5
    have hlt : i < ks.length := (List.getElem?_eq_some_iff.mp hk0).1
    have hD5 : H5 D0 = some (DO X.prog X.w D0 xs) := s35 _ _ h1
    refine ⟨xs, a, k, hD5, h2.tm (Same.tm s35), ea, ha, by omega, hD, same_mut (s2.trans s35) hD, _, upd_same, ?_, ?_, ?_⟩
    · exact ((h2.tm (Same.tm s35)).put ha).tm (tm_do hD5)
    · rw [putX_keysN, h3, List.take_add_one, hk0]
      unfold dedupF
      rw [List.foldl_append] <;> rfl
    · have := putX_len xs k a z
      omega
  · rintro H2 ⟨_, s2, xs, h1, h2, h3, h4⟩
    rw [List.length_map, List.take_length] at h3
    exact q D0 xs H2 (Same.free s1 hD) (s1.trans s2) ⟨h1, h2⟩ h3
end
end Nr
/-! Sets made of lists and tuples, sorted. -/
namespace Nr
open PySem PySem.Spec L2
open PyProof.Rows hiding St

/-- a new set -/
abbrev set0 (w : World) : Obj := { cls := .type "set", dict := none, data := .set #[] 0 (.fresh 0 0 (!w.params.followText "set-order")) }
section
variable {P : Program} {w : World} {A : Around} {E : Value → Shared → Prop} {s : Shared}
set_option maxHeartbeats 3200000 in
/-- set(x), x of a type that is no set and no dict: the loop over its iterator -/
theorem set_make {l : Addr} {T : String} {o : Obj} {C : Heap → Prop} {G : Heap → Prop} {Q : Value → Shared → Prop} (B : Begins (.ref l) o C) (hC : C s.heap) (hT : s.TypeIs (.ref l) T)
    (hs1 : isSubtype (.type T) (.type "set") = pure false) (hs2 : isSubtype (.type T) (.type "frozenset") = pure false) (hd : (Value.type T == Value.type "dict") = false)
    (loop : ∀ R : Result → Shared → Prop, (∀ h' tk, G h' → (∀ b u, s.heap.get? b = some u → h'.get? b = some u) → R (.ok (.ret .none)) { s with heap := h', toks := tk }) →
      codeAny (model P w) A.in1.in1 (.builtin "set.update.loop" ⟨[.ref s.heap.objs.size, .ref (s.heap.push (set0 w)).objs.size], []⟩) R { s with heap := (s.heap.push (set0 w)).push o })
    (h : ∀ h' tk, G h' → (∀ b u, s.heap.get? b = some u → h'.get? b = some u) → Q (.ref s.heap.objs.size) { s with heap := h', toks := tk }) :
    wpAny (model P w) A (call (.type "set") [.ref l]) Q E s := by
  have ft := PySem.F.called_set
  obtain ⟨c, tl, hmro⟩ := ft.mro
  have hmade := ft.made
  have hsub := ft.sub
  refine wpAny_call (codeAny_of_tree ?_)
  show wpAny _ _ (callAny (.type "set") _) _ _ _
  refine wpAny_pure ⟨Code.quiet_builtin _ (by decide +kernel), codeAny_builtin PySem.F.entry_type_call ?_⟩
  rw [Around.under_plain (weight_type_call_type "set" [.ref l] []) rfl]
  have h1 := ft.notType
  have h2 := ft.canCreate
  have hct := PySem.F.typeCall_set_1 (.ref l)
  repeat (any_goals (first | assumption | wp_step))
  refine codeAny_mono (code_set_led1 (.ref l) (E := E) (Q₁ := fun ob s1 => ob = .ref s.heap.objs.size ∧ s1 = { s with heap := s.heap.push (set0 w) }) ⟨rfl, rfl⟩) fun r s1 hr => ?_
  cases r with
  | error e => exact hr
  | ok fl =>
    cases fl with
    | ret ob =>
      obtain ⟨rfl, rfl⟩ := hr
      have hS : (s.heap.push (set0 w)).get? s.heap.objs.size = some (set0 w) := Heap.get?_push_size _ rfl
      have hTS : Shared.TypeIs { s with heap := s.heap.push (set0 w) } (.ref s.heap.objs.size) "set" := ⟨_, hS, rfl⟩
      have hli := ft.init.lookup
      have hbi := ft.init.bind (.ref s.heap.objs.size)
      repeat (any_goals (first | assumption | wp_step))
      refine codeAny_mono (codeAny_call_builtin (R := wants (fun r s2 => r = .none ∧ ∃ h' tk, s2 = { s with heap := h', toks := tk } ∧ G h' ∧ ∀ b u, s.heap.get? b = some u → h'.get? b = some u) E) ft.init.plain PySem.F.entry_set_init (check_set_init_1 hTS ?_)) fun r2 s2 hr2 => ?_
      · obtain ⟨⟨oc, od, odt, osl⟩, hol, hcl⟩ := hT
        have hcl : oc = .type T := hcl
        subst hcl
        have hol' : (s.heap.push (set0 w)).get? l = some { cls := .type T, dict := od, data := odt, slots := osl } := Heap.get?_push_of_some _ hol
        have hC1 : C (s.heap.push (set0 w)) := B.keeps _ _ hC fun b u e => Heap.get?_push_of_some _ e
        unfold Builtin.«set.__init__» noKeywords Builtin.Frozenset.updateFrom
        generalize hPI : pyIter = PI
        wp_walk
        subst hPI
        refine B.iter _ _ _ _ { s with heap := s.heap.push (set0 w) } _ hC1 ?_
        refine wpAny_bind (wpAny_runValue ?_)
        refine codeAny_mono (loop (fun r s' => r = .ok (.ret .none) ∧ ∃ h' tk, s' = { s with heap := h', toks := tk } ∧ G h' ∧ ∀ b u, s.heap.get? b = some u → h'.get? b = some u) fun h' tk g k => ⟨rfl, h', tk, rfl, g, k⟩) fun r' s' hr' => ?_
        obtain ⟨rfl, h', tk, rfl, g, k⟩ := hr'
        refine wpAny_pure ?_
        show wpAny _ _ (ret Value.none) _ _ _
        exact wpAny_pure ⟨rfl, h', tk, rfl, g, k⟩
      · cases r2 with
        | error e => exact hr2
        | ok fl2 =>
          cases fl2 with
          | ret r =>
            obtain ⟨rfl, h', tk, rfl, g, k⟩ := hr2
            repeat (any_goals (first | assumption | wp_step))
            exact h _ _ g k
          | _ => exact hr2.elim
    | _ => exact hr.elim
end
end Nr
/-! sorted(set(..)): of rows and of ints; the order of rows. -/
namespace Nr
open PySem PySem.Spec L2
open PyProof.Rows hiding St

/-! ### the order -/
abbrev keyT (d : D) : List (Int ⊕ List Nat) := PySem.W.keyToks (toPy d)
theorem leD_eq : leD = PySem.W.sortLe (PyProof.Rows.listOrd PyProof.Rows.itemOrd) false keyT := rfl
theorem leD_trans (a b c : D) : leD a b = true → leD b c = true → leD a c = true := (PySem.W.sortLe_total (PyProof.Rows.listOrd PyProof.Rows.itemOrd) false keyT).trans a b c
theorem leD_total (a b : D) : (leD a b || leD b a) = true := Bool.or_eq_true _ _ ▸ (PySem.W.sortLe_total (PyProof.Rows.listOrd PyProof.Rows.itemOrd) false keyT).total a b
theorem leD_anti {a b : D} (h1 : leD a b = true) (h2 : leD b a = true) : keyT a = keyT b := by
  refine (PyProof.Rows.listOrd PyProof.Rows.itemOrd).total (keyT a) (keyT b) ?_ ?_
  · have : (!(PyProof.Rows.listOrd PyProof.Rows.itemOrd).blt (keyT a) (keyT b)) = true := h2
    simpa using this
  · have : (!(PyProof.Rows.listOrd PyProof.Rows.itemOrd).blt (keyT b) (keyT a)) = true := h1
    simpa using this
theorem sortD_perm {ds es : List D} (h : ds.Perm es) (inj : ∀ a ∈ ds, ∀ b ∈ ds, keyT a = keyT b → a = b) : sortD ds = sortD es := by
  have p1 := List.mergeSort_perm ds leD
  have p2 := List.mergeSort_perm es leD
  have s1 := List.pairwise_mergeSort (le := leD) leD_trans leD_total ds
  have s2 := List.pairwise_mergeSort (le := leD) leD_trans leD_total es
  unfold sortD
  refine List.Perm.eq_of_pairwise (le := fun a b => leD a b = true) (fun a b ha hb h1 h2 => ?_) s1 s2 ((p1.trans h).trans p2.symm)
  exact inj a (p1.mem_iff.mp ha) b (h.mem_iff.mpr (p2.mem_iff.mp hb)) (leD_anti h1 h2)
theorem sortD_mem {ds : List D} {d : D} : d ∈ sortD ds ↔ d ∈ ds := (List.mergeSort_perm ds leD).mem_iff
theorem sortD_len (ds : List D) : (sortD ds).length = ds.length := List.length_mergeSort ..
theorem keyT_ints : ∀ (a b : List Int), PySem.W.keyToksAll (toPyL (a.map D.int)) = PySem.W.keyToksAll (toPyL (b.map D.int)) → a = b
  | [], [], _ => rfl
  | [], x :: b, h => by simp [toPyL, PySem.W.keyToksAll, toPy, PySem.W.keyToks] at h
  | x :: a, [], h => by simp [toPyL, PySem.W.keyToksAll, toPy, PySem.W.keyToks] at h
  | x :: a, y :: b, h => by
    simp only [List.map_cons, toPyL, PySem.W.keyToksAll, toPy, PySem.W.keyToks, List.cons_append, List.nil_append, List.cons.injEq, Sum.inl.injEq, true_and] at h
    rw [h.1, keyT_ints a b h.2]
theorem map_inj {α β : Type} {f : α → β} (h : ∀ x y, f x = f y → x = y) : ∀ {a b : List α}, a.map f = b.map f → a = b
  | [], [], _ => rfl
  | [], _ :: _, e => nomatch e
  | _ :: _, [], e => nomatch e
  | x :: a, y :: b, e => by
    rw [List.map_cons, List.map_cons] at e
    obtain ⟨e1, e2⟩ := List.cons.inj e
    rw [h x y e1, map_inj h e2]
theorem ints_inj {a b : List Int} (h : D.ints a = D.ints b) : a = b := by
  have h1 : a.map D.int = b.map D.int := D.tup.inj h
  exact map_inj (fun x y e => D.int.inj e) h1
theorem keyT_rows {a b : List Int} (h : keyT (.ints a) = keyT (.ints b)) : a = b := by
  refine keyT_ints a b ?_
  simpa [keyT, toPy, PySem.W.keyToks] using h
/-- rows sorted -/
noncomputable def sortR (rows : List (List Int)) : List (List Int) := rows.mergeSort fun a b => leD (.ints a) (.ints b)
theorem sortR_eq (rows : List (List Int)) : sortD (rows.map D.ints) = (sortR rows).map D.ints := by
  unfold sortD sortR
  exact (PySem.W.sort_maps (r := fun a b => leD (.ints a) (.ints b)) (s := leD) D.ints (l := rows) fun a _ b _ => rfl).symm
theorem sortR_perm (rows : List (List Int)) : (sortR rows).Perm rows := List.mergeSort_perm ..
theorem sortR_of_perm {r1 r2 : List (List Int)} (h : r1.Perm r2) : sortR r1 = sortR r2 := by
  have e : sortD (r1.map D.ints) = sortD (r2.map D.ints) := sortD_perm (h.map _) fun a ha b hb e => by
    obtain ⟨x, _, rfl⟩ := List.mem_map.mp ha
    obtain ⟨y, _, rfl⟩ := List.mem_map.mp hb
    rw [keyT_rows e]
  rw [sortR_eq, sortR_eq] at e
  exact map_inj (fun x y e => ints_inj e) e
theorem sortOk_rows {rows : List (List Int)} (h : ∀ r ∈ rows, r ≠ []) (hl : rows.length ≤ 100000) : SortOk (rows.map D.ints) := by
  have al : ∀ a b : List Int, PySem.W.alikeAll (toPyL (a.map D.int)) (toPyL (b.map D.int)) = true := fun a => by
    induction a with
    | nil => intro b; cases b <;> rfl
    | cons x a ih =>
      intro b
      cases b with
      | nil => rfl
      | cons y b => simp [toPyL, PySem.W.alikeAll, toPy, PySem.W.alike, ih b]
  refine ⟨fun d hd d' hd' => ?_, .inl fun d hd => ?_, fun d hd => ?_, by rw [List.length_map]; exact hl⟩
  · simp only [List.map_map, List.mem_map] at hd hd'
    obtain ⟨a, _, rfl⟩ := hd
    obtain ⟨b, _, rfl⟩ := hd'
    simpa [toPy, PySem.W.alike] using al a b
  · simp only [List.map_map, List.mem_map] at hd
    obtain ⟨a, ha, rfl⟩ := hd
    cases a with
    | nil => exact absurd rfl (h _ ha)
    | cons x a => exact ⟨.int x, toPyL (a.map D.int), by simp [toPy, toPyL]⟩
  · obtain ⟨a, _, rfl⟩ := List.mem_map.mp hd
    have : ∀ a : List Int, PyData.depthAll (toPyL (a.map D.int)) ≤ 1 := fun a => by
      induction a with
      | nil => simp [toPyL, PyData.depthAll]
      | cons x a ih => simp [toPyL, PyData.depthAll, toPy, PyData.depth]; exact ih
    have := this a
    simp only [toPy, PyData.depth]
    omega

/-! ### sets of rows -/
section
variable {X : Cx}
theorem rowsAt {H : Hp} : ∀ {rows : List (List Int)} {vs : List V}, RepL H (rows.map D.ints) vs → ∃ ks : List (Addr × List Int), vs = ks.map (fun p => V.ref p.1) ∧ (∀ p ∈ ks, H p.1 = some (.tup (p.2.map V.int))) ∧ ks.map (·.2) = rows
  | [], vs, r => ⟨[], r, (fun p hp => nomatch hp), rfl⟩
  | row :: rows, vs, r => by
    obtain ⟨v, vr, e, r1, r2⟩ := r
    obtain ⟨ks, e1, h1, e2⟩ := rowsAt r2
    obtain ⟨a, ea, ha⟩ := rep_ints.mp r1
    refine ⟨(a, row) :: ks, by rw [e, ea, e1] <;> rfl, fun p hp => ?_, by rw [List.map_cons, e2]⟩
    rcases List.mem_cons.mp hp with z | z
    · rw [z]; exact ha
    · exact h1 p z
def rSetRows (X : Cx) : List V → Hp → VK → Prop := fun vs H Q => ∃ (l : Addr) (xs : List V) (rows : List (List Int)), vs = [.ref l] ∧ (SqL X.K H l xs ∨ SqT X.K H l xs) ∧ RepL H (rows.map D.ints) xs ∧ rows.length < 64 ∧
  ∀ a L, H a = none → (∀ p ∈ L, H p.1 = some (.tup (p.2.map V.int))) → (∀ r, r ∈ L.map (·.2) ↔ r ∈ rows) → Q (.ref a) (upd H a (SetTO X.prog X.w a L))
theorem cr_setRows (hc : X.calm = true) (hu : X.A.units + 64 < cLine) : CallR X (.type "set") (rSetRows X) := by
  intro pins s σ H vs us Q I rv h
  obtain ⟨l, xs, rows, rfl, hs, rl, hf, q⟩ := h
  obtain ⟨ks, e1, hk, e2⟩ := rowsAt rl
  have hkl : ks.length < 64 := by rw [← List.length_map (·.2), e2]; exact hf
  have q' : ∀ a L, H a = none → (∀ p ∈ L, p ∈ ks) → (∀ p ∈ ks, p.2 ∈ L.map (·.2)) → Q (.ref a) (upd H a (SetTO X.prog X.w a L)) := fun a L hn h1 h2 => by
    refine q a L hn (fun p hp => hk p (h1 p hp)) fun r => ⟨fun hr => ?_, fun hr => ?_⟩
    · obtain ⟨p, hp, rfl⟩ := List.mem_map.mp hr
      rw [← e2]
      exact List.mem_map.mpr ⟨p, h1 p hp, rfl⟩
    · rw [← e2] at hr
      obtain ⟨p, hp, rfl⟩ := List.mem_map.mp hr
      exact h2 p hp
  rcases hs with hs | hs
  · exact cr_setOfT hc hu pins s σ H _ us Q I rv ⟨l, ks, rfl, by rw [← e1]; exact hs, fun p hp => SqT.of (hk p hp), hkl, fun a L hn h1 h2 => q' a L hn h1 h2⟩
  · obtain ⟨u, rfl, ru⟩ := Vals.one rv
    cases ru
    obtain ⟨its, rvs, ht, hz⟩ := I.tuple hs
    have hit : its = ks.map fun p => Value.ref p.1 := refs_of_vals (by rw [← e1]; exact rvs)
    have hT : s.heap.IsTuple l its.toArray := ht
    have hn : H s.heap.objs.size = none := I.hok.fresh (Nat.le_refl _)
    have hlS : l < s.heap.objs.size := by obtain ⟨o, ho, _⟩ := id hT; exact Heap.lt_size ho
    have hh3 : X.A.in1.in1.in1.handled = none := by simpa using I.ok.hd hc
    have hkT : ∀ p ∈ ks, IsT X.prog X.w s.heap p.2 p.1 := fun p hp => Inv.isT I (SqT.of (hk p hp))
    have none_of : ∀ b, s.heap.objs.size ≤ b → s.heap.get? b = none := fun b hb => by
      cases q : s.heap.get? b with
      | none => rfl
      | some o => exact absurd (Nat.lt_of_lt_of_le (Heap.lt_size q) hb) (Nat.lt_irrefl _)
    have hz1 : (s.heap.push (set0 X.w)).objs.size = s.heap.objs.size + 1 := Heap.size_push ..
    refine set_make (P := X.prog) (w := X.w) (G := fun h' => ∃ L es ep t, SetTR X.prog X.w h' s.heap.objs.size L es ep t ∧ Got ks ks.length L) (begins_tuple l its.toArray) hT (T := "tuple") (by obtain ⟨o, ho, hc, _⟩ := id hT; exact ⟨o, ho, hc⟩) PySem.F.sub_tuple_set PySem.F.sub_tuple_frozenset (by decide) (fun R hR => ?_) fun h' tk g k => ?_
    · have hneI : l ≠ (s.heap.push (set0 X.w)).objs.size := by rw [hz1]; exact Nat.ne_of_lt (Nat.lt_succ_of_lt hlS)
      have hsz : its.toArray.size = ks.length := by rw [List.size_toArray, hit, List.length_map]
      have hS : ((s.heap.push (set0 X.w)).push { cls := .type "tuple_iterator", data := .fields #[.ref l, .int 0 0] }).get? s.heap.objs.size = some (set0 X.w) := Heap.get?_push_of_some _ (Heap.get?_push_size _ rfl)
      refine set_update_tups (P := X.prog) (w := X.w) (A := X.A.in1.in1) ((Walks.tuple hh3 _ l hneI its.toArray).toS) s.heap.objs.size ?_ ks hsz hkl (fun i v hv => ?_) s.heap hkT (none_of _ (Nat.le_refl _)) (fun b hb => none_of b ?_) (by show X.A.units + 1 + 1 + 1 < cLine; omega) (its.toArray.size - 0) 0 _ (by omega) (Nat.zero_le _) ?_ (fun b o e => Heap.get?_push_of_some _ (Heap.get?_push_of_some _ e)) ⟨[], #[], 0, _, setTR_fresh hS, Got.zero ks⟩ fun s' L es ep t hm hS' g' hk' => ?_
      · intro hm
        rcases List.mem_cons.mp hm with z | z
        · rw [hz1] at z
          exact absurd z (Nat.ne_of_lt (Nat.lt_succ_self _))
        · exact absurd (List.mem_singleton.mp z) (Nat.ne_of_gt hlS)
      · have e : its[i]? = some v := by rw [← List.getElem?_toArray]; exact hv
        rw [hit, List.getElem?_map] at e
        cases hq : ks[i]? with
        | none => rw [hq] at e; cases e
        | some p => rw [hq] at e; exact ⟨p, rfl, (Option.some.inj e).symm⟩
      · rw [List.mem_singleton.mp hb, hz1]
        exact Nat.le_succ _
      · exact ⟨⟨_, Heap.get?_push_size _ rfl, rfl, rfl⟩, Heap.IsTuple.at hT fun o e => Heap.get?_push_of_some _ (Heap.get?_push_of_some _ e)⟩
      · obtain ⟨h', g2, d', tk', os'⟩ := s'
        have eg : g2 = s.gens := hm.gens
        have ed : d' = s.drawn := hm.drawn
        have eo : os' = s.os := hm.os
        subst eg ed eo
        rw [hsz] at g'
        exact hR h' tk' ⟨L, es, ep, t, hS', g'⟩ hk'
    · obtain ⟨L, es, ep, t, R, g⟩ := g
      refine ⟨.ref s.heap.objs.size, upd H s.heap.objs.size (SetTO X.prog X.w s.heap.objs.size L), I.laid (t' := tk) k (Nat.le_refl _) (setTO_new R.t0), rfl, q' _ L hn (fun p hp => List.mem_of_mem_take (g.sub p hp)) fun p hp => g.all p (by rw [List.take_length]; exact hp)⟩
/-- sorted(a set of rows) -/
def rSortedST (X : Cx) : List V → Hp → VK → Prop := fun vs H Q => ∃ (a : Addr) (L : List (Addr × List Int)), vs = [.ref a] ∧ H a = some (SetTO X.prog X.w a L) ∧ (∀ p ∈ L, H p.1 = some (.tup (p.2.map V.int))) ∧ (∀ p ∈ L, p.2 ≠ []) ∧
  ∀ p ys, (L.map (·.2)).Nodup → H p = none → RepL H ((sortR (L.map (·.2))).map D.ints) ys → Q (.ref p) (upd H p (.lst ys))
theorem cr_sortedST (hc : X.calm = true) (hX : X.A.units + 64 < cLine) : CallR X (.builtin "sorted") (rSortedST X) := by
  intro pins s σ H vs us Q I rv h
  obtain ⟨a, L, rfl, ha, hk, hne, q⟩ := h
  obtain ⟨u, rfl, ru⟩ := Vals.one rv
  cases ru
  have R0 : SetT0 X.prog X.w s.heap a L := (I.hok a _ ha).1
  obtain ⟨es, ep, t, R⟩ := R0.full fun p hp => Inv.isT I (SqT.of (hk p hp))
  obtain ⟨o, ho, hex, hd⟩ := R.ob
  have hsz := R.size
  have hfew := R.few
  have hh : X.A.in1.handled = none := by simpa using I.ok.hd hc
  refine Calls.call_function_entry kind_sorted plain_sorted entry_sorted (args_sorted1 _) ?_
  unfold Builtin.«sorted»
  refine wpAny_bind (m := checkCount "sorted" 1 1 _) (wpAny_pure ?_)
  refine wpAny_bind (collect_set (A := X.A.in1) hh ⟨o, ho, hex.1, hd⟩ R.fits (by unfold scanBound; omega) R.tab.ris R.led fun s1 out k1 hz g1 o1 pm => ?_)
  have I1 : Inv X pins σ H s1 := by
    have J : Inv X pins σ H { s with heap := s1.heap, gens := s1.gens, drawn := s1.drawn, toks := s1.toks } := I.call (ch := []) (Un.kept k1) (I.hok.kept k1) (by rw [g1]; exact I.bare) (fun _ z => nomatch z)
    have e : s1 = { s with heap := s1.heap, gens := s1.gens, drawn := s1.drawn, toks := s1.toks } := by
      cases s1
      cases s
      cases o1
      rfl
    rw [e]
    exact J
  have hes : es.toList.map (·.2) = L.map fun q => Value.ref q.1 := by
    rw [R.rows]
    unfold rowsOf
    rw [List.map_map] <;> rfl
  rw [hes] at pm
  obtain ⟨L1, pL, eL⟩ : ∃ L1 : List (Addr × List Int), L1.Perm L ∧ out = L1.map fun q => Value.ref q.1 := by
    have gen : ∀ (l : List (Addr × List Int)) (vs : List Value), vs.Perm (l.map fun q => Value.ref q.1) → ∃ l1 : List (Addr × List Int), l1.Perm l ∧ vs = l1.map fun q => Value.ref q.1 := by
      intro l vs hp
      generalize hm : (l.map fun q => Value.ref q.1) = ms at hp
      induction hp generalizing l with
      | nil => exact ⟨[], by rw [List.map_eq_nil_iff.mp hm], rfl⟩
      | cons x h ih =>
        cases l with
        | nil => cases hm
        | cons p l =>
          rw [List.map_cons] at hm
          obtain ⟨e1, e2⟩ := List.cons.inj hm
          obtain ⟨l1, p1, e3⟩ := ih l e2
          exact ⟨p :: l1, p1.cons p, by rw [List.map_cons, e3, e1]⟩
      | swap x y l0 =>
        cases l with
        | nil => cases hm
        | cons p l =>
          cases l with
          | nil => cases hm
          | cons p2 l =>
            simp only [List.map_cons, List.cons.injEq] at hm
            obtain ⟨e1, e2, e3⟩ := hm
            exact ⟨p2 :: p :: l, List.Perm.swap p p2 l, by rw [List.map_cons, List.map_cons, e1, e2, e3]⟩
      | trans h1 h2 ih1 ih2 =>
        obtain ⟨l1, p1, e1⟩ := ih2 l hm
        obtain ⟨l2, p2, e2⟩ := ih1 l1 e1.symm
        exact ⟨l2, p2.trans p1, e2⟩
    exact gen L out pm
  have hl1 : L1.length < 64 := by rw [pL.length_eq]; exact hfew
  have rl : RepL H ((L1.map (·.2)).map D.ints) (L1.map fun q => V.ref q.1) := by
    have : ∀ l : List (Addr × List Int), (∀ p ∈ l, p ∈ L) → RepL H ((l.map (·.2)).map D.ints) (l.map fun q => V.ref q.1) := fun l => by
      induction l with
      | nil => intro _; rfl
      | cons p l ih => exact fun hl => ⟨_, _, rfl, rep_ints.mpr ⟨_, rfl, hk p (hl p List.mem_cons_self)⟩, ih fun q hq => hl q (List.mem_cons_of_mem _ hq)⟩
    exact this L1 fun p hp => pL.mem_iff.mp hp
  have ok : SortOk ((L1.map (·.2)).map D.ints) := sortOk_rows (fun r hr => by
    obtain ⟨p, hp, rfl⟩ := List.mem_map.mp hr
    exact hne p (pL.mem_iff.mp hp)) (by rw [List.length_map]; omega)
  have rvs : Vals (L1.map fun q => V.ref q.1) out := by rw [eL]; exact vals_of_refs L1
  refine wpAny_bind (wpAny_newList ?_ (by rw [eL, List.length_map, sizeLine_eq]; omega))
  refine wpAny_bind (wpAny_holding (wpAny_mono (sort_fresh (A := X.A.in1) (n := 0) (D0 := s1.heap.objs.size) (h' := s1.heap.push (seqObj "list" out.toArray 0)) (tk := s1.toks) (Q := fun v s' => v = .none ∧ EP X pins σ Q (.ref s1.heap.objs.size) s') I1 ok rl rvs (fun b o e => Heap.get?_push_of_some _ e) (Nat.le_refl _) (Heap.get?_push_size _ rfl) (by show X.A.units + 1 ≤ _; omega) hX fun ys s' I2 r2 => ⟨rfl, .ref s1.heap.objs.size, _, I2, rfl, ?_⟩) (fun v s' hv => ?_) fun _ _ e => e))
  · refine q _ ys ?_ (I1.hok.fresh (Nat.le_refl _)) ?_
    · exact R.nd
    · rw [sortR_eq, sortR_of_perm (pL.map (·.2))] at r2
      exact r2
  · obtain ⟨rfl, hv⟩ := hv
    exact wpAny_pure ⟨_, rfl, hv⟩
end
theorem perm_dedup {rows l : List (List Int)} (nd : l.Nodup) (h : ∀ r, r ∈ l ↔ r ∈ rows) : l.Perm (dedupF rows) :=
  (List.perm_ext_iff_of_nodup nd (dedupF_nodup rows)).mpr fun r => by rw [h, dedupF_mem]
section
variable {X : Cx} {e : Expr} {σ : L2.St} {H : Hp} {rows : List (List Int)} {p p2 pos pos2 : Pos}
theorem setTO_ne {H : Hp} {a b : Addr} {P : Program} {w : World} {L : List (Addr × List Int)} {vs : List V} (h : H a = some (SetTO P w a L)) (hb : H b = some (.tup vs)) : b ≠ a := ne_of hb h (by intro z; cases z)
theorem el_sortedset (hc : X.calm = true) (hX : X.A.units + 64 < cLine) (h : ∀ H1, Same H H1 → WE X e σ H1 fun v H2 => Same H1 H2 ∧ ∃ l vs, v = .ref l ∧ (H2 l = some (.lst vs) ∨ H2 l = some (.tup vs)) ∧ RepL H2 (rows.map D.ints) vs) (hl : rows.length < 64) (hne : ∀ r ∈ rows, r ≠ [])
    (hg : Gl X "set") (hm : X.mg "set" = none) (hg2 : Gl X "sorted") (hm2 : X.mg "sorted" = none) (he : starEach [e] X.env = (false, eval e X.env) :: starEach [] X.env := by rfl)
    (he2 : starEach [.Call (.Name "set" p2) [e] [] pos2] X.env = (false, eval (.Call (.Name "set" p2) [e] [] pos2) X.env) :: starEach [] X.env := by rfl) :
    EL X (.Call (.Name "sorted" p) [.Call (.Name "set" p2) [e] [] pos2] [] pos) σ H ((sortR (dedupF rows)).map D.ints) := fun H1 s => by
  refine we (pe_callB (cr_sortedST hc hX) hg2 hm2 (by decide +kernel) (pa_cons (pe_callTy (cr_setRows hc hX) hg hm (by decide +kernel) (pa_cons pe_w pa_nil he) (by decide) (by decide) he rfl) pa_nil he2) (by decide) (by decide) he2 rfl) ?_
  refine (h H1 s).mono fun v H2 ⟨s2, l, vs, e0, hv, rl⟩ => ?_
  rw [e0]
  refine ⟨l, vs, rows, rfl, hv.imp SqL.of SqT.of, rl, hl, fun a L ha hk hm => ?_⟩
  have s3 : Same H2 (upd H2 a (SetTO X.prog X.w a L)) := same_new ha
  refine ⟨a, L, rfl, upd_same, fun p hp => s3 _ _ (hk p hp), fun p hp => hne _ ((hm _).mp (List.mem_map.mpr ⟨p, hp, rfl⟩)), fun q ys nd hq r => ?_⟩
  have e1 : sortR (L.map (·.2)) = sortR (dedupF rows) := sortR_of_perm (perm_dedup nd hm)
  rw [e1] at r
  refine ⟨q, ys, rfl, Same.free (s2.trans s3) hq, (s2.trans s3).trans (same_new hq), upd_same, r.mono (same_new hq)⟩
end
end Nr
/-! sorted(set(ints)), max with a default. -/
namespace Nr
open PySem PySem.Spec L2
open PyProof.Rows hiding St

/-! ### sets of ints -/
def sortI (ns : List Int) : List Int := (dedupF ns).mergeSort fun a b => decide (a ≤ b)
theorem sortI_mem {ns : List Int} {k : Int} : k ∈ sortI ns ↔ k ∈ ns := by
  unfold sortI
  rw [(List.mergeSort_perm (dedupF ns) _).mem_iff, dedupF_mem]
theorem sortI_len (ns : List Int) : (sortI ns).length ≤ ns.length := by
  unfold sortI
  rw [List.length_mergeSort]
  exact dedupF_len ns
theorem sortI_lt (ns : List Int) : (sortI ns).Pairwise (· < ·) := by
  have h1 : (sortI ns).Pairwise fun a b => decide (a ≤ b) = true := List.pairwise_mergeSort (le := fun a b : Int => decide (a ≤ b)) (fun a b c h1 h2 => by simp at *; omega) (fun a b => by simp; omega) _
  have h2 : (sortI ns).Nodup := (List.mergeSort_perm (dedupF ns) _).nodup_iff.mpr (dedupF_nodup ns)
  refine (List.Pairwise.and h1 h2).imp fun {a b} h => ?_
  have h3 := of_decide_eq_true h.1
  have h4 := h.2
  omega
theorem asc_unique : ∀ {a b : List Int}, a.Pairwise (· < ·) → b.Pairwise (· < ·) → (∀ k, k ∈ a ↔ k ∈ b) → a = b := fun {a b} ha hb h => by
  have na : a.Nodup := ha.imp fun {x y} q => by omega
  have nb : b.Nodup := hb.imp fun {x y} q => by omega
  have p : a.Perm b := (List.perm_ext_iff_of_nodup na nb).mpr h
  exact List.Perm.eq_of_pairwise (le := fun x y : Int => x < y) (fun x y _ _ h1 h2 => by omega) ha hb p
section
variable {X : Cx}
def rSetInts (X : Cx) : List V → Hp → VK → Prop := fun vs H Q => ∃ (l : Addr) (ns : List Int), vs = [.ref l] ∧ (SqL X.K H l (ns.map V.int) ∨ SqT X.K H l (ns.map V.int)) ∧ ns.length < 60 ∧
  ∀ a n, H a = none → n ≤ ns.length → Q (.ref a) (upd H a (SetO X.w a (fun j => decide (j ∈ ns)) n))
theorem cr_setInts (hc : X.calm = true) : CallR X (.type "set") (rSetInts X) := by
  intro pins s σ H vs us Q I rv h
  obtain ⟨l, ns, rfl, hs, hf, q⟩ := h
  obtain ⟨u, rfl, ru⟩ := Vals.one rv
  cases ru
  have hn : H s.heap.objs.size = none := I.hok.fresh (Nat.le_refl _)
  rcases hs with hs | hs
  · obtain ⟨its, rvs, hl, hz⟩ := I.list hs
    have hi : IntsAre its ns := intsAre_of rvs
    have hL : s.heap.IsList l its.toArray := hl.isList
    have hlS : l < s.heap.objs.size := by obtain ⟨o, ho, _⟩ := id hL; exact Heap.lt_size ho
    have hh3 : X.A.in1.in1.in1.handled = none := by simpa using I.ok.hd hc
    have hz1 : (s.heap.push (set0 X.w)).objs.size = s.heap.objs.size + 1 := Heap.size_push ..
    have hsz : its.toArray.size = ns.length := by rw [List.size_toArray]; exact hi.length
    refine set_make (P := X.prog) (w := X.w) (G := fun h' => ∃ c, c ≤ ns.length ∧ SetR X.w h' s.heap.objs.size (fun j => decide (j ∈ ns)) c) (begins_list l its.toArray) hL (T := "list") (by obtain ⟨o, ho, hc, _⟩ := id hL; exact ⟨o, ho, hc⟩) PySem.F.sub_list_set PySem.F.sub_list_frozenset (by decide) (fun R hR => ?_) fun h' tk g k => ?_
    · have hneI : l ≠ (s.heap.push (set0 X.w)).objs.size := by rw [hz1]; exact Nat.ne_of_lt (Nat.lt_succ_of_lt hlS)
      have hS : ((s.heap.push (set0 X.w)).push { cls := .type "list_iterator", data := .fields #[.ref l, .int 0 0] }).get? s.heap.objs.size = some (set0 X.w) := Heap.get?_push_of_some _ (Heap.get?_push_size _ rfl)
      refine set_update_ints (P := X.prog) (w := X.w) (A := X.A.in1.in1) ((Walks.list hh3 _ l hneI its.toArray).toS) s.heap.objs.size ?_ ns hsz (by unfold scanBound; omega) (fun i v hv => ?_) (its.toArray.size - 0) 0 _ (by omega) (Nat.zero_le _) ?_ ⟨0, Nat.le_refl 0, setR_new_at hS⟩ fun s' c hm hc' hS' => ?_
      · intro hm
        rcases List.mem_cons.mp hm with z | z
        · rw [hz1] at z
          exact absurd z (Nat.ne_of_lt (Nat.lt_succ_self _))
        · exact absurd (List.mem_singleton.mp z) (Nat.ne_of_gt hlS)
      · have e : its[i]? = some v := by rw [← List.getElem?_toArray]; exact hv
        have hil : i < ns.length := by rw [← hi.length]; exact (List.getElem?_eq_some_iff.mp e).1
        obtain ⟨t, ht⟩ := hi.get i _ (List.getElem?_eq_getElem hil)
        rw [e] at ht
        exact ⟨_, t, List.getElem?_eq_getElem hil, Option.some.inj ht⟩
      · exact ⟨⟨_, Heap.get?_push_size _ rfl, rfl, rfl⟩, Heap.IsList.at hL fun o e => Heap.get?_push_of_some _ (Heap.get?_push_of_some _ e)⟩
      · obtain ⟨h', g2, d', tk', os'⟩ := s'
        have eg : g2 = s.gens := hm.gens
        have ed : d' = s.drawn := hm.drawn
        have eo : os' = s.os := hm.os
        subst eg ed eo
        rw [hsz] at hc'
        refine hR h' tk' ⟨c, hc', hS'⟩ fun b o e => ?_
        have hb0 := Heap.lt_size e
        refine hm.heap b o (fun hb => ?_) (Heap.get?_push_of_some _ (Heap.get?_push_of_some _ e))
        rcases List.mem_cons.mp hb with z | hb
        · exact absurd z (Nat.ne_of_lt hb0)
        · rw [List.mem_singleton.mp hb, hz1] at hb0
          exact absurd hb0 (Nat.not_lt.mpr (Nat.le_succ _))
    · obtain ⟨c, hc', R⟩ := g
      exact ⟨.ref s.heap.objs.size, _, I.laid (t' := tk) k (Nat.le_refl _) (setO_new R), rfl, q _ c hn hc'⟩
  · obtain ⟨its, rvs, hl, hz⟩ := I.tuple hs
    refine call_set_tupI (P := X.prog) (w := X.w) ns (I.ok.hd hc) hl (by simpa using intsAre_of rvs) (by unfold scanBound; omega) fun h' tk c R hc' k => ?_
    exact ⟨.ref s.heap.objs.size, _, I.laid (t' := tk) k (Nat.le_refl _) (setO_new R), rfl, q _ c hn hc'⟩
end
section
variable {X : Cx} {e : Expr} {σ : L2.St} {H : Hp} {p p2 pos pos2 : Pos} {ns : List Int}
theorem el_sortedsetI (hc : X.calm = true) (h : ∀ H1, Same H H1 → WE X e σ H1 fun v H2 => Same H1 H2 ∧ ∃ l vs, v = .ref l ∧ (H2 l = some (.lst vs) ∨ H2 l = some (.tup vs)) ∧ RepL H2 (ns.map D.int) vs) (hl : ns.length < 60)
    (hg : Gl X "set") (hm : X.mg "set" = none) (hg2 : Gl X "sorted") (hm2 : X.mg "sorted" = none) (he : starEach [e] X.env = (false, eval e X.env) :: starEach [] X.env := by rfl)
    (he2 : starEach [.Call (.Name "set" p2) [e] [] pos2] X.env = (false, eval (.Call (.Name "set" p2) [e] [] pos2) X.env) :: starEach [] X.env := by rfl) :
    EL X (.Call (.Name "sorted" p) [.Call (.Name "set" p2) [e] [] pos2] [] pos) σ H ((sortI ns).map D.int) := fun H1 s => by
  refine we (pe_callB (cr_sortedSet hc) hg2 hm2 (by decide +kernel) (pa_cons (pe_callTy (cr_setInts hc) hg hm (by decide +kernel) (pa_cons pe_w pa_nil he) (by decide) (by decide) he rfl) pa_nil he2) (by decide) (by decide) he2 rfl) ?_
  refine (h H1 s).mono fun v H2 ⟨s2, l, vs, e0, hv, rl⟩ => ?_
  rw [e0]
  have ev := repL_ints.mp rl
  refine ⟨l, ns, rfl, by rw [← ev]; exact hv.imp SqL.of SqT.of, hl, fun a n ha hn => ?_⟩
  have s3 : Same H2 (upd H2 a (SetO X.w a (fun j => decide (j ∈ ns)) n)) := same_new ha
  refine ⟨a, _, n, rfl, upd_same, by omega, fun out q hp hmem hlen hq => ?_⟩
  have e1 : out = sortI ns := asc_unique hp (sortI_lt ns) fun k => by rw [hmem, sortI_mem]; simp
  rw [e1]
  exact ⟨q, _, rfl, Same.free (s2.trans s3) hq, (s2.trans s3).trans (same_new hq), upd_same, repL_ints.mpr rfl⟩
end

/-! ### max(list of ints, default=0) -/
theorem args_maxd (a v : Value) : argsOk "max" ⟨[a], [(Str.ofString "default", v)]⟩ := by unfold argsOk; kernel_rfl
section
variable {prog : Program} {w : World} {A : Around} {E : Value → Shared → Prop} {s : Shared} {R : Result → Shared → Prop} {l I S : Addr} {us : List Value} {ns : List Int} {dv : Value}
/-- the best one of those gone through -/
def Best (h : Heap) (S : Addr) (ns : List Int) (i : Nat) : Prop :=
  (i = 0 ∧ ∃ c, h.get? S = some { cls := .type "list", dict := none, data := .seq #[] c, slots := #[] }) ∨
  (∃ M t c, M ∈ ns.take i ∧ (∀ a ∈ ns.take i, a ≤ M) ∧ h.get? S = some { cls := .type "list", dict := none, data := .seq #[.int M t, .int M t] c, slots := #[] })
theorem Best.keep {h h' : Heap} {S : Addr} {ns : List Int} {i : Nat} (b : Best h S ns i) (k : ∀ o, h.get? S = some o → h'.get? S = some o) : Best h' S ns i := by
  rcases b with ⟨e, c, q⟩ | ⟨M, t, c, m1, m2, q⟩
  · exact .inl ⟨e, c, k _ q⟩
  · exact .inr ⟨M, t, c, m1, m2, k _ q⟩
def maxD (ns : List Int) : Int := ns.foldl max 0
theorem maxd_loop (hh : A.in1.handled = none) (hlI : l ≠ I) (hSI : S ≠ I) (hSl : S ≠ l) (hi : IntsAre us ns) :
    ∀ (k i : Nat) (s : Shared), ns.length - i = k → i ≤ ns.length → s.heap.IsListIter I l i → s.heap.IsList l us.toArray → Best s.heap S ns i →
    (∀ v h' tk, ((ns = [] ∧ v = dv) ∨ ∃ M t, v = .int M t ∧ M ∈ ns ∧ ∀ a ∈ ns, a ≤ M) → (∀ b o, b ≠ I → b ≠ S → s.heap.get? b = some o → h'.get? b = some o) → R (.ok (.ret v)) { s with heap := h', toks := tk }) →
    codeAny (model prog w) A (.builtin "max.loop" ⟨[.ref I, .none, .ref S], [(Str.ofString "default", dv)]⟩) R s := by
  have W := Walks.list (prog := prog) (w := w) (A := A.in1) hh I l hlI us.toArray
  have hname : (toString "max" ++ toString ".loop" : String) = "max.loop" := by decide
  have hsz : us.toArray.size = ns.length := by rw [List.size_toArray]; exact hi.length
  intro k
  induction k with
  | zero =>
    intro i s hk hil hit hl hb hR
    have e : i = ns.length := by omega
    subst e
    refine codeAny_builtin PySem.F.entry_max_loop ?_
    rw [Around.under_plainId PySem.F.plain_max_loop _]
    show wpAny _ A.in1 (seqItems? (.ref S) >>= _) _ _ s
    rcases hb with ⟨e0, c, hS⟩ | ⟨M, t, c, m1, m2, hS⟩
    · refine wpAny_bind (wpAny_seqItems hS rfl ?_)
      show wpAny _ A.in1 (tryCatch (pyNext (.ref I)) _ >>= _) _ _ s
      refine wpAny_bind (wpAny_tryCatch (W.done s _ _ (by rw [hsz]; exact ⟨hit, hl⟩) fun h' tk hk' => ?_))
      show wpAny _ A.in1 (rule _ >>= _) _ _ _
      refine wpAny_bind (wpAny_rule (wpAny_pure ?_))
      exact hR dv h' tk (.inl ⟨List.eq_nil_of_length_eq_zero e0, rfl⟩) fun b o h1 h2 e => hk' b o (by simpa using h1) e
    · refine wpAny_bind (wpAny_seqItems hS rfl ?_)
      show wpAny _ A.in1 (tryCatch (pyNext (.ref I)) _ >>= _) _ _ s
      refine wpAny_bind (wpAny_tryCatch (W.done s _ _ (by rw [hsz]; exact ⟨hit, hl⟩) fun h' tk hk' => ?_))
      have hS' := hk' S _ (by simpa using hSI) hS
      show wpAny _ A.in1 (updateSeq S (fun _ => #[]) >>= _) _ _ _
      refine wpAny_bind (wpAny_updateSeq hS' rfl (wpAny_bind (wpAny_letGo (wpAny_pure ?_))))
      rw [List.take_length] at m1 m2
      exact hR _ _ tk (.inr ⟨M, t, rfl, m1, m2⟩) fun b o h1 h2 e => (Heap.get?_update_other _ _ (Ne.symm h2)).trans (hk' b o (by simpa using h1) e)
  | succ k ih =>
    intro i s hk hil hit hl hb hR
    have hlt : i < ns.length := by omega
    obtain ⟨z, hn⟩ : ∃ z, ns[i]? = some z := ⟨_, List.getElem?_eq_getElem hlt⟩
    have tk1 : ∀ a, a ∈ ns.take (i + 1) ↔ a ∈ ns.take i ∨ a = z := fun a => by
      rw [List.take_add_one, hn, List.mem_append]
      simp
    refine codeAny_builtin PySem.F.entry_max_loop ?_
    rw [Around.under_plainId PySem.F.plain_max_loop _]
    show wpAny _ A.in1 (seqItems? (.ref S) >>= _) _ _ s
    have go : ∀ (h' : Heap) (tk : Nat), h'.IsListIter I l (i + 1) → h'.IsList l us.toArray → Best h' S ns (i + 1) → (∀ b o, b ≠ I → b ≠ S → s.heap.get? b = some o → h'.get? b = some o) →
        codeAny (model prog w) A (.builtin "max.loop" ⟨[.ref I, .none, .ref S], [(Str.ofString "default", dv)]⟩) R { s with heap := h', toks := tk } := fun h' tk h1 h2 h3 h4 =>
      ih (i + 1) _ (by omega) hlt h1 h2 h3 fun v h'' tk' hv hk'' => hR v h'' tk' hv fun b o e1 e2 e => hk'' b o e1 e2 (h4 b o e1 e2 e)
    have upd1 : ∀ {h' : Heap} {xs : Array Value} {c : Nat} {ys : Array Value}, h'.get? S = some { cls := .type "list", dict := none, data := .seq xs c, slots := #[] } → h'.IsListIter I l (i + 1) → h'.IsList l us.toArray →
        (h'.update S (Obj.mapSeq fun _ => ys)).IsListIter I l (i + 1) ∧ (h'.update S (Obj.mapSeq fun _ => ys)).IsList l us.toArray := fun _ h1 h2 => ⟨h1.at fun o e => (Heap.get?_update_other _ _ hSI).trans e, h2.at fun o e => (Heap.get?_update_other _ _ hSl).trans e⟩
    rcases hb with ⟨e0, c, hS⟩ | ⟨M, t, c, m1, m2, hS⟩
    · refine wpAny_bind (wpAny_seqItems hS rfl ?_)
      show wpAny _ A.in1 (tryCatch (pyNext (.ref I)) _ >>= _) _ _ s
      refine wpAny_bind (wpAny_tryCatch (W.item i s _ _ (by rw [hsz]; exact hlt) ⟨hit, hl⟩ fun v h' tk hv hst hk' => ?_))
      obtain ⟨t, ht⟩ := hi.get i _ hn
      have ev : v = .int z t := by
        have e1 : us[i]? = some v := by rw [← List.getElem?_toArray]; exact hv
        rw [ht] at e1
        exact (Option.some.inj e1).symm
      subst ev
      have hS' := hk' S _ (by simpa using hSI) hS
      show wpAny _ A.in1 (updateSeq S (fun _ => #[Value.int z t, Value.int z t]) >>= _) _ _ _
      refine wpAny_bind (wpAny_updateSeq hS' rfl ?_)
      rw [hname]
      obtain ⟨u1, u2⟩ := upd1 (ys := #[Value.int z t, Value.int z t]) hS' hst.1 hst.2
      refine wpAny_pure ⟨plainId_quiet PySem.F.plain_max_loop _, go _ _ u1 u2 (.inr ⟨z, t, _, ?_, ?_, Heap.get?_update_self _ hS' rfl⟩) fun b o h1 h2 e => (Heap.get?_update_other _ _ (Ne.symm h2)).trans (hk' b o (by simpa using h1) e)⟩
      · exact (tk1 _).mpr (.inr rfl)
      · intro a ha
        rcases (tk1 a).mp ha with q | q
        · rw [e0, List.take_zero] at q
          cases q
        · rw [q]
          exact Int.le_refl _
    · refine wpAny_bind (wpAny_seqItems hS rfl ?_)
      show wpAny _ A.in1 (tryCatch (pyNext (.ref I)) _ >>= _) _ _ s
      refine wpAny_bind (wpAny_tryCatch (W.item i s _ _ (by rw [hsz]; exact hlt) ⟨hit, hl⟩ fun v h' tk hv hst hk' => ?_))
      obtain ⟨t2, ht⟩ := hi.get i _ hn
      have ev : v = .int z t2 := by
        have e1 : us[i]? = some v := by rw [← List.getElem?_toArray]; exact hv
        rw [ht] at e1
        exact (Option.some.inj e1).symm
      subst ev
      have hS' := hk' S _ (by simpa using hSI) hS
      show wpAny _ A.in1 (tryCatch (holding [Value.int z t2, Value.int z t2] (richCompare .Gt (Value.int z t2) (.int M t) >>= _)) _ >>= _) _ _ _
      refine wpAny_bind (wpAny_tryCatch (wpAny_holding (wpAny_bind (CmpOf.ints_gt (prog := prog) (w := w) (A := A.in1) (P := fun j v => ∃ t, v = .int (if j = 0 then z else M) t) (fun j => if j = 0 then z else M) (fun j v h => h) 0 1 _ _ _ _ _ ⟨t2, rfl⟩ ⟨t, rfl⟩ ?_))))
      refine wpAny_bind (wpAny_holding (wpAny_truthy_bool ?_))
      refine wpAny_bind (wpAny_letGo (wpAny_pure ?_))
      simp only [if_true, Nat.one_ne_zero, if_false]
      by_cases hb' : z > M
      · simp only [hb', decide_true, if_true]
        refine wpAny_bind (wpAny_updateSeq hS' rfl (wpAny_bind (wpAny_letGo ?_)))
        rw [hname]
        obtain ⟨u1, u2⟩ := upd1 (ys := #[Value.int z t2, Value.int z t2]) hS' hst.1 hst.2
        refine wpAny_pure ⟨plainId_quiet PySem.F.plain_max_loop _, go _ _ u1 u2 (.inr ⟨z, t2, _, (tk1 _).mpr (.inr rfl), fun a ha => ?_, Heap.get?_update_self _ hS' rfl⟩) fun b o h1 h2 e => (Heap.get?_update_other _ _ (Ne.symm h2)).trans (hk' b o (by simpa using h1) e)⟩
        rcases (tk1 a).mp ha with q | q
        · have := m2 a q
          omega
        · omega
      · simp only [hb', decide_false, Bool.false_eq_true, if_false]
        refine wpAny_bind (wpAny_letGo ?_)
        rw [hname]
        refine wpAny_pure ⟨plainId_quiet PySem.F.plain_max_loop _, go _ _ hst.1 hst.2 (.inr ⟨M, t, c, (tk1 _).mpr (.inl m1), fun a ha => ?_, hS'⟩) fun b o h1 h2 e => hk' b o (by simpa using h1) e⟩
        rcases (tk1 a).mp ha with q | q
        · exact m2 a q
        · omega
theorem call_maxd {Q : Value → Shared → Prop} (hh : A.handled = none) (hl : s.heap.IsList l us.toArray) (hi : IntsAre us ns)
    (h : ∀ v h' tk, ((ns = [] ∧ v = dv) ∨ ∃ M t, v = .int M t ∧ M ∈ ns ∧ ∀ a ∈ ns, a ≤ M) → (∀ b o, s.heap.get? b = some o → h'.get? b = some o) → Q v { s with heap := h', toks := tk }) :
    wpAny (model prog w) A (call (.builtin "max") [.ref l] [(Str.ofString "default", dv)]) Q E s := by
  have hname : (toString "max" ++ toString ".loop" : String) = "max.loop" := by decide
  refine kmb_tree PySem.F.kind_max PySem.F.plain_max PySem.F.entry_max (args_maxd _ _) ?_
  show wpAny _ A.in1 (Builtin.Builtins.bindParams "max" ["key", "default"] 0 ⟨[], [(Str.ofString "default", dv)]⟩ >>= _) _ _ s
  refine wpAny_bind (wpAny_of_eq (show Builtin.Builtins.bindParams "max" ["key", "default"] 0 ⟨[], [(Str.ofString "default", dv)]⟩ = pure [none, some dv] from rfl) ?_)
  refine wpAny_bind (wpAny_pure ?_)
  refine wpAny_bind (wpAny_pyIter_list hl ?_)
  refine wpAny_bind (wpAny_newObj_type ?_)
  rw [hname]
  have hlS : l < s.heap.objs.size := by obtain ⟨o, ho, _⟩ := id hl; exact Heap.lt_size ho
  have hz1 : (s.heap.push { cls := .type "list_iterator", data := .fields #[.ref l, .int 0 0] }).objs.size = s.heap.objs.size + 1 := Heap.size_push ..
  refine wpAny_pure ⟨plainId_quiet PySem.F.plain_max_loop _, maxd_loop (l := l) (I := s.heap.objs.size) (us := us) (ns := ns) (by simpa using hh) (Nat.ne_of_lt hlS) ?_ ?_ hi ns.length 0 _ rfl (Nat.zero_le _) ?_ ?_ (.inl ⟨rfl, 0, Heap.get?_push_size _ rfl⟩) fun v h' tk hv hk => ?_⟩
  · show (s.heap.push { cls := .type "list_iterator", data := .fields #[.ref l, .int 0 0] }).objs.size ≠ s.heap.objs.size
    rw [hz1]
    exact Nat.succ_ne_self _
  · show (s.heap.push { cls := .type "list_iterator", data := .fields #[.ref l, .int 0 0] }).objs.size ≠ l
    rw [hz1]
    exact Nat.ne_of_gt (Nat.lt_succ_of_lt hlS)
  · exact ⟨_, Heap.get?_push_of_some _ (Heap.get?_push_size _ rfl), rfl, rfl⟩
  · exact Heap.IsList.at hl fun o e => Heap.get?_push_of_some _ (Heap.get?_push_of_some _ e)
  · refine h v h' tk hv fun b o e => hk b o (Nat.ne_of_lt (Heap.lt_size e)) (Nat.ne_of_lt ?_) (Heap.get?_push_of_some _ (Heap.get?_push_of_some _ e))
    show b < (s.heap.push { cls := .type "list_iterator", data := .fields #[.ref l, .int 0 0] }).objs.size
    rw [hz1]
    exact Nat.lt_succ_of_lt (Heap.lt_size e)
end
section
variable {X : Cx} {e : Expr} {σ : L2.St} {H : Hp} {p pos kp : Pos} {ns : List Int}
def rMaxD (X : Cx) : List V → List V → Hp → VK → Prop := fun vs zs H Q => ∃ (l : Addr) (ns : List Int), vs = [.ref l] ∧ zs = [.int 0] ∧ SqL X.K H l (ns.map V.int) ∧ ∀ m, ((ns = [] ∧ m = 0) ∨ (m ∈ ns ∧ ∀ a ∈ ns, a ≤ m)) → Q (.int m) H
theorem cr_maxd (hc : X.calm = true) : CallRK X (.builtin "max") [Str.ofString "default"] (rMaxD X) := by
  intro pins s σ H vs zs us ws Q I rv rz h
  obtain ⟨l, ns, rfl, rfl, hs, q⟩ := h
  obtain ⟨u, rfl, ru⟩ := Vals.one rv
  cases ru
  obtain ⟨d, rfl, t0, rfl⟩ := Vals.one rz
  obtain ⟨its, rvs, hl, hz⟩ := I.list hs
  refine call_maxd (I.ok.hd hc) hl.isList (intsAre_of rvs) fun v h' tk hv k => ?_
  rcases hv with ⟨e1, e2⟩ | ⟨M, t, e1, m1, m2⟩
  · exact ⟨.int 0, H, I.kept k, ⟨t0, e2⟩, q 0 (.inl ⟨e1, rfl⟩)⟩
  · exact ⟨.int M, H, I.kept k, ⟨t, e1⟩, q M (.inr ⟨m1, m2⟩)⟩
end
end Nr
/-! set_order, and sorted by it. -/
namespace Nr
open PySem PySem.Spec L2
open PyProof.Rows hiding St

/-- the key of a set: its size and itself -/
def keyS (d : D) : PyData := toPy (.tup [.int ((match d with | .tup ds => ds.length | _ => 0 : Nat) : Int), d])
noncomputable def sortS (ds : List D) : List D := ds.mergeSort (PySem.W.dataLe false keyS)
theorem sortS_perm (ds : List D) : (sortS ds).Perm ds := List.mergeSort_perm ..
theorem scSetOrder : FnScope ["columns"] ["columns"] (defScope sSetOrder) := ⟨rfl, rfl, rfl, by decide +kernel, rfl, by decide +kernel, by decide +kernel⟩
section
variable {P : Program} {w : World} {K : PySem.W.Frag} {mg : Str → Option Value} {base : Heap} {f : Addr} {fd : FuncData}
theorem call_setOrder (F : FnP K "set_order" "set_order" sSetOrder f fd) (hb : Binds K fd ["columns"] []) (hm : mg "len" = none) {A : Around} {outer : List Env} {s : Shared} {H : Hp} {a : Addr} {ds : List D} {vs : List V} (hr : Room 1 A) (e0 : Env0 P w K mg base A outer s H)
    (ha : H a = some (.tup vs)) (rl : RepL H ds vs) : wpAny (model P w) A (call (.ref f) [.ref a]) (PySem.W.KeyPure (keyS (.tup ds)) s) (fun _ _ => False) s := by
  obtain ⟨oc, od, dV, kV, doc, pm, an, cdv, ct, osl, rfl, lk, hcd, _, _⟩ := F.ex
  have KX : K.In s.heap := e0.mod.kin.keeps fun b o e => (e0.bs b o e).1
  have lim : s.heap.NoLimit := e0.mod.nolimit.keeps fun b o e => (e0.bs b o e).1
  have hkind : ∀ y ∈ (["columns"] : List Str).zip [Value.ref a], (defScope sSetOrder).names.lookup y.1 = some .local ∨ ((defScope sSetOrder).names.lookup y.1 = some .cell ∧ ((cellsFrom (s.heap.objs.size + 1) (defScope sSetOrder).names []).lookup y.1).isSome = true) := fun ⟨n, v⟩ hy => by
    rcases scSetOrder.par n (List.of_mem_zip hy).1 with q | q
    · exact .inl q
    · exact .inr ⟨q, PySem.W.cellsFrom_some _ _ _ (.inl q)⟩
  refine wpAny_call (codeAny_call_function hr.depth (KX _ _ lk) rfl scSetOrder.co scSetOrder.gen rfl (PySem.W.codeRec_of KX hcd) (hb s [.ref a] KX rfl _ _ _ _ ?_))
  refine wpAny_newFunctionEnv_cells scSetOrder.kind hkind fun env he s1 x => ?_
  subst he
  refine ⟨lim.keeps x.toInCall.keep, codeAny_func ?_⟩
  have I : Inv (cxOf CX0 P w K mg base ["columns"] "set_order" (defScope sSetOrder) f cdv A outer s H EF) [] (L2.start ["columns"] [V.ref a]) H s1 := inv_start scSetOrder hr.hd e0 (vs := [V.ref a]) (us := [Value.ref a]) rfl (.cons rfl .nil) x
  obtain ⟨h1, tk, es, hk⟩ := x.done
  obtain ⟨its, rv, ht, hz⟩ := I.tuple (SqT.of ha)
  have hlen := rv.length
  have ld : ∀ (Q : Value → Shared → Prop) (E : Value → Shared → Prop) (tk : Nat) (pos : Pos), Q (.ref a) { s1 with toks := tk } → wpAny (model P w) (A.deeper (envOfC "set_order" (defScope sSetOrder) s.heap.objs.size f cdv)) (eval (.Name "columns" pos) (envOfC "set_order" (defScope sSetOrder) s.heap.objs.size f cdv)) Q E { s1 with toks := tk } := fun Q E tk pos h => by
    obtain ⟨m, hn, hl⟩ := I.loc
    obtain ⟨u, ru, lk⟩ := hl 0 "columns" (.ref a) rfl rfl (.inl rfl)
    cases ru
    rcases lk with ⟨hk, hm⟩ | ⟨hk, _⟩
    · exact wpAny_Name (wpAny_loadName_local I.ok.kind hk hn hm h) (by decide)
    · rcases hk with hk | hk <;> cases hk
  refine wpAny_mono (Q := fun fl s' => ∃ v, fl = .ret v ∧ PySem.W.KeyPure (keyS (.tup ds)) s v s') (E := fun _ _ => False) ?_ (fun fl s' hs => ?_) fun e s' hs => hs.elim
  · refine wpAny_execs_cons (wpAny_Return_some (wpAny_Tuple_spliced ?_))
    refine Calls.spliced_cons (wpAny_Call_Name_kw (ld_blt (E := fun _ _ => False) I rfl hm PySem.boot_len ?_))
    refine PyProof.Rows.callWith_builtin1 (Calls.spliced_cons (ld _ _ s1.toks _ (Calls.spliced_nil ?_)))
    have hn63 : its.length < 2 ^ 63 := by
      have := line63
      omega
    refine len_tuple ht (by simp only [List.size_toArray]; omega) ?_
    refine Calls.spliced_cons (ld _ _ _ _ (Calls.spliced_nil ⟨by show 2 ≤ sizeLine; decide, ?_⟩))
    refine ⟨_, rfl, s1.heap.push { cls := .type "tuple", data := .seq [Value.int (its.toArray.size : Int) (s1.toks + 1), .ref a].toArray }, s1.toks + 1 + 1, ?_, ?_⟩
    · rw [es]
    · refine ⟨fun b o e => ?_, ?_⟩
      · refine Heap.get?_push_of_some _ ?_
        rw [es]
        exact hk b o e
      · have J : Inv (cxOf CX0 P w K mg base ["columns"] "set_order" (defScope sSetOrder) f cdv A outer s H EF) [] (L2.start ["columns"] [V.ref a]) H { s1 with heap := s1.heap.push { cls := .type "tuple", data := .seq [Value.int (its.toArray.size : Int) (s1.toks + 1), .ref a].toArray } } := I.kept (t' := s1.toks) fun b o e => Heap.get?_push_of_some _ e
        have r2 : Reads (s1.heap.push { cls := .type "tuple", data := .seq [Value.int (its.toArray.size : Int) (s1.toks + 1), .ref a].toArray }) (.ref a) (toPy (.tup ds)) [] := reads_rep J.hok (d := .tup ds) ⟨a, vs, rfl, ha, rl⟩ rfl
        have e1 : ((ds.length : Nat) : Int) = (its.toArray.size : Int) := by
          rw [List.size_toArray, ← hlen, rl.length]
        show Reads _ (.ref s1.heap.objs.size) (.tuple [.int (ds.length : Int), toPy (.tup ds)]) []
        rw [e1]
        exact .tuple (Heap.get?_push_size _ rfl) rfl rfl (.cons (.int _ _) (.cons r2 .nil))
  · obtain ⟨v, rfl, hv⟩ := hs
    exact hv
end
/-- tuples of ints, whatever their lengths -/
theorem sortOk_keys {ss : List (List Int)} : PySem.W.AllAlike ((ss.map D.ints).map keyS) ∧ PySem.W.Sortable ((ss.map D.ints).map keyS) ∧ ∀ d ∈ (ss.map D.ints).map keyS, d.depth ≤ 3 := by
  have al : ∀ a b : List Int, PySem.W.alikeAll (toPyL (a.map D.int)) (toPyL (b.map D.int)) = true := fun a => by
    induction a with
    | nil => intro b; cases b <;> rfl
    | cons x a ih =>
      intro b
      cases b with
      | nil => rfl
      | cons y b => simp [toPyL, PySem.W.alikeAll, toPy, PySem.W.alike, ih b]
  have dp : ∀ a : List Int, PyData.depthAll (toPyL (a.map D.int)) ≤ 1 := fun a => by
    induction a with
    | nil => simp [toPyL, PyData.depthAll]
    | cons x a ih => simp [toPyL, PyData.depthAll, toPy, PyData.depth]; exact ih
  refine ⟨fun d hd d' hd' => ?_, .inl fun d hd => ?_, fun d hd => ?_⟩
  · simp only [List.map_map, List.mem_map] at hd hd'
    obtain ⟨a, _, rfl⟩ := hd
    obtain ⟨b, _, rfl⟩ := hd'
    simp [keyS, toPy, toPyL, PySem.W.alike, PySem.W.alikeAll, al a b]
  · simp only [List.map_map, List.mem_map] at hd
    obtain ⟨a, ha, rfl⟩ := hd
    exact ⟨_, _, by simp [keyS, toPy, toPyL]; exact ⟨rfl, rfl⟩⟩
  · simp only [List.map_map, List.mem_map] at hd
    obtain ⟨a, _, rfl⟩ := hd
    have := dp a
    simp [keyS, toPy, toPyL, PyData.depth, PyData.depthAll]
    omega
section
variable {X : Cx}
def rSortedK (X : Cx) (f : Addr) : List V → List V → Hp → VK → Prop := fun vs zs H Q => ∃ (l : Addr) (xs : List V) (ss : List (List Int)), vs = [.ref l] ∧ zs = [.ref f] ∧ SqL X.K H l xs ∧ RepL H (ss.map D.ints) xs ∧ ss.length ≤ 1000 ∧
  ∀ p ys, H p = none → RepL H (sortS (ss.map D.ints)) ys → Q (.ref p) (upd H p (.lst ys))
theorem cr_sortedK {f : Addr} {fd : FuncData} (F : FnP X.K "set_order" "set_order" sSetOrder f fd) (hb : Binds X.K fd ["columns"] []) (hm : X.mg "len" = none) (hr : Room 3 X.A) : CallRK X (.builtin "sorted") [Str.ofString "key"] (rSortedK X f) := by
  intro pins s σ H vs zs us ws Q I rv rz h
  obtain ⟨l, xs, ss, rfl, rfl, hs, rl, hl, q⟩ := h
  obtain ⟨u, rfl, ru⟩ := Vals.one rv
  cases ru
  obtain ⟨w1, rfl, rw1⟩ := Vals.one rz
  cases rw1
  obtain ⟨its, rvs, pl, hz⟩ := I.list hs
  obtain ⟨e1, _⟩ := each_rep I.hok rl rvs
  have hzl : (xs.zip (ss.map D.ints)).map (·.2) = ss.map D.ints := zip_snd_map rl.length
  have hlen : (xs.zip (ss.map D.ints)).length = ss.length := by rw [List.length_zip, rl.length, Nat.min_self, List.length_map]
  obtain ⟨k1, k2, k3⟩ := sortOk_keys (ss := ss)
  have em : (xs.zip (ss.map D.ints)).map (fun b => keyS b.2) = (ss.map D.ints).map keyS := by
    conv => rhs; rw [← hzl]
    rw [List.map_map] <;> rfl
  have hun : X.A.units + 64 < cLine := hr.units
  refine PySem.W.sorted_key_data (b := false) (fun b : V × D => keyS b.2) pl.isList e1 (by rw [em]; exact k1) (by rw [em]; exact k2) (by rw [hlen]; exact Nat.le_trans hl (by decide)) (fun b hb => ?_) (PyProof.Rows.ksk_s1 _ _) (fun _ => PyProof.Rows.ksk_l1 _ _) (fun _ => PyProof.Rows.ksk_t1 _ _) (fun v b ⟨rvb, rb⟩ hbz h tk kp => ?_) fun out c h' tk kp hfr hD hol eo => ?_
  · have := k3 (keyS b.2) (by rw [← em]; exact List.mem_map.mpr ⟨b, hb, rfl⟩)
    omega
  · obtain ⟨r, hr', er⟩ := List.mem_map.mp (List.of_mem_zip hbz).2
    rw [← er] at rb ⊢
    obtain ⟨a, ws, ea, ha, rls⟩ := rb
    rw [ea] at rvb
    obtain rfl : v = Value.ref a := rvb
    have J : Inv X pins σ H { s with heap := h, toks := tk } := I.kept kp
    exact call_setOrder F hb hm ((Room.in1 (k := 1) (Room.in1 (k := 2) hr))) J.env0.in1.in1 ha rls
  · obtain ⟨o1, o2⟩ := each_out eo
    have es : ((xs.zip (ss.map D.ints)).mergeSort (PySem.W.dataLe false fun b : V × D => keyS b.2)).map (·.2) = sortS (ss.map D.ints) := by
      have := PySem.W.sort_maps (r := PySem.W.dataLe false fun b : V × D => keyS b.2) (s := PySem.W.dataLe false keyS) (fun b : V × D => b.2) (l := xs.zip (ss.map D.ints)) (fun a _ b _ => rfl)
      rw [this, hzl] <;> rfl
    rw [es] at o2
    have hn : H (s.heap.objs.size + 1) = none := I.hok.fresh (Nat.le_succ _)
    refine ⟨.ref (s.heap.objs.size + 1), _, I.laid (t' := tk) (o := .lst (((xs.zip (ss.map D.ints)).mergeSort (PySem.W.dataLe false fun b : V × D => keyS b.2)).map (·.1))) kp (Nat.le_succ _) ⟨?_, out, c, o1, hD⟩, rfl, q _ _ hn o2⟩
    rw [List.length_map, List.length_mergeSort, hlen]
    exact Nat.le_trans hl (by decide)
variable {e : Expr} {σ : L2.St} {H : Hp} {p pf pos kp : Pos} {ss : List (List Int)} {f : Addr} {fd : FuncData}
/-- sorted(e, key=set_order) -/
theorem el_sortedK (F : FnP X.K "set_order" "set_order" sSetOrder f fd) (hb : Binds X.K fd ["columns"] []) (hm : X.mg "len" = none) (hr : Room 3 X.A) (hf : X.mg "set_order" = some (.ref f)) (hgf : Gl X "set_order") (hg : Gl X "sorted") (hms : X.mg "sorted" = none)
    (h : LV X e σ H (ss.map D.ints)) (hl : ss.length ≤ 1000) (he : starEach [e] X.env = (false, eval e X.env) :: starEach [] X.env := by rfl)
    (hbk : backTo pos (starEach [e] X.env) = (false, eval e X.env) :: backTo pos (starEach [] X.env) := by rfl) : EL X (.Call (.Name "sorted" p) [e] [⟨some "key", .Name "set_order" pf, kp⟩] pos) σ H (sortS (ss.map D.ints)) := fun H1 s => by
  refine we (pe_callBK (cr_sortedK F hb hm hr) hg hms (by decide +kernel) (pa_cons pe_w pa_nil he) (pk_cons (pe_glob (v := .ref f) hgf hf rfl) pk_nil) (by decide) (by decide) hbk (by rw [hbk]; rfl)) ?_
  refine (h H1 s).mono fun v H2 ⟨s2, l, vs, e0, e1, rl⟩ => ?_
  rw [e0]
  exact ⟨l, vs, ss, rfl, rfl, SqL.of e1, rl, hl, fun p ys hp r => ⟨p, ys, rfl, Same.free s2 hp, s2.trans (same_new hp), upd_same, r.mono (same_new hp)⟩⟩
end
end Nr
/-! t * k, k from 1 on; methods of dicts of tuples; methods of lists. -/
namespace Nr
open PySem PySem.Spec L2
open PyProof.Rows hiding St

theorem mul_one_meets (l : Addr) (items : Array Value) (n : Nat) (dd : Option Addr) (sl : Array (Option Value)) (u : Tok) :
    Meets (Builtin.«tuple.__mul__» ⟨[.ref l, .int 1 u], []⟩) (fun _ R s => s.heap.get? l = some { cls := .type "tuple", dict := dd, data := .seq items n, slots := sl } ∧ R (.ok (.ret (.ref l))) s) :=
  .of_wp fun prog w A R s h => by
    obtain ⟨hp, g, d, tk, os⟩ := s
    obtain ⟨hl, h⟩ := h
    have f1 := AutoSeq1.idx_int
    have c1 : (items.isEmpty || (1 : Int) == 1) = true := by simp
    wp_walk using AutoSeq1.wpAny_loadPart' hl
    exact ⟨_, rfl, h⟩
section
variable {X : Cx}
def rRepA (K : PySem.W.Frag) : R2 := fun x y H Q => ∃ (l : Addr) (k : Nat) (xs : List V), x = .ref l ∧ y = .int (k : Int) ∧ SqT K H l xs ∧ xs ≠ [] ∧ 1 ≤ k ∧ k ≤ 1000 ∧ xs.length ≤ 1000 ∧ (k = 1 → Q (.ref l) H) ∧ (k ≠ 1 → ∀ p, H p = none → Q (.ref p) (upd H p (.tup (List.replicate k xs).flatten)))
theorem op_repA : OpR X (binaryOp .Mult) (rRepA X.K) := by
  intro pins s σ H x y v u Q I rx ry h
  obtain ⟨l, k, xs, rfl, rfl, hT, hne, h1, h2, hz, q1, q2⟩ := h
  by_cases hk : k = 1
  · subst hk
    cases rx
    obtain ⟨t, rfl⟩ := ry
    obtain ⟨its, r, ⟨⟨cls, dd, data, sl⟩, ho, hc, n, hd⟩, hs⟩ := I.tuple hT
    simp only at hc hd
    subst hc hd
    exact wpAny_binaryOp_repeat_ref (T := "tuple") (U := "int") (by decide) ⟨_, ho, rfl⟩ (fun s' => typeIs_int s' 1 t) noFill_tuple_mul PySem.F.fills_int_mul PySem.F.slot_int_rmul repeat_tuple PySem.F.slot_int_index.lookup
      (call_meets PySem.F.slot_int_rmul (typeIs_int s 1 t) PySem.F.entry_int_rmul (PySem.F.args_int_rmul_2 _ _) (int_rmul_tuple 1 t l its.toArray n dd sl)
        ⟨ho, rfl, ⟨_, ho, rfl⟩, call_meets PySem.F.slot_tuple_mul ⟨_, ho, rfl⟩ PySem.F.entry_tuple_mul (PySem.F.args_tuple_mul_2 _ _) (mul_one_meets l its.toArray n dd sl t) ⟨ho, ⟨.ref l, H, I, rfl, q1 rfl⟩⟩⟩)
  · exact op_repT pins s σ H _ _ v u Q I rx ry ⟨l, (k : Int), xs, rfl, rfl, hT, hne, by omega, by omega, hz, fun p hp => by
      have := q2 hk p hp
      rw [Int.toNat_natCast]
      exact this⟩
variable {a b : Expr} {σ : L2.St} {H : Hp} {pos : Pos} {ds : List D} {k : Nat}
theorem repL_rep {H : Hp} {ds : List D} {vs : List V} (r : RepL H ds vs) : ∀ k, RepL H (List.replicate k ds).flatten (List.replicate k vs).flatten
  | 0 => rfl
  | k + 1 => by
    rw [List.replicate_succ, List.replicate_succ, List.flatten_cons, List.flatten_cons]
    exact r.append (repL_rep r k)
theorem ev_repT (ha : EV X a σ H (.tup ds)) (hb : EV X b σ H (.int (k : Int))) (hne : ds ≠ []) (h1 : 1 ≤ k) (h2 : k ≤ 1000) (hl : ds.length ≤ 1000) : EV X (.BinOp a .Mult b pos) σ H (.tup (List.replicate k ds).flatten) :=
  ev_op op_repA ha hb fun x y H1 _ rx ry Q q => by
    obtain ⟨p, vs, e, e1, rl⟩ := id rx
    refine ⟨p, k, vs, e, ry, SqT.of e1, fun z => hne ?_, h1, h2, by rw [rl.length]; exact hl, fun hk => ?_, fun _ p hp => q _ _ (same_new hp) ⟨p, _, rfl, upd_same, (repL_rep rl k).mono (same_new hp)⟩⟩
    · exact List.eq_nil_of_length_eq_zero (by rw [← rl.length, z]; rfl)
    · subst hk
      rw [← e]
      refine q _ _ (Same.refl _) ?_
      rw [List.replicate_one, List.flatten_cons, List.flatten_nil, List.append_nil]
      exact rx
end

/-! ### methods of dicts of tuples -/
section
variable {X : Cx} {o e : Expr} {es : List Expr} {σ : L2.St} {H : Hp} {name : Str} {id : String} {r : V → List V → Hp → VK → Prop} {apos cpos : Pos}
theorem isD_ty {pins : List (Addr × Obj)} {s : Shared} {d : Addr} {xs : XS} (I : Inv X pins σ H s) (h : IsD X H d xs) : s.TypeIs (.ref d) "dict" ∧ ∀ a, Value.ref d = .ref a → ∃ ob, s.heap.get? a = some ob ∧ ob.dict = none := by
  obtain ⟨_, _, _, o, _, _, _, e, ex, _⟩ := (show ObjOk X.prog X.w H s.heap d (DO X.prog X.w d xs) from I.hok d _ h.ob).1
  refine ⟨⟨o, e, ex.1⟩, fun a z => ?_⟩
  cases z
  exact ⟨o, e, ex.2.1⟩
/-- d.m(e, ..) -/
theorem we_bmX {Q : VK} (slot : Slot "dict" name id) (hty : typeOf (.builtin id) = pure (.type "method_descriptor")) (hm : MtR X id r) (ho : WE X o σ H fun x H1 => (∃ d xs, x = .ref d ∧ IsD X H1 d xs) ∧ WA X (e :: es) σ H1 fun vs H2 => r x vs H2 Q)
    (hbase : attributeBase o name X.env (eval o X.env) = eval o X.env := by rfl)
    (hfew : ((backTo cpos (starEach (e :: es) X.env)).all (fun x => !x.1) && (backToKw cpos (keywordEach [] X.env)).all (fun x => x.1.isSome)
      && decide ((e :: es).length + ([] : List Keyword).length + (if ([] : List Keyword).isEmpty then 0 else 1) < 30)) = true := by rfl)
    (hline : (apos.endLine == cpos.line) = true := by rfl) (hs : starEach (e :: es) X.env = (false, eval e X.env) :: starEach es X.env := by rfl) (hplain : (backTo cpos (starEach es X.env)).any (·.1) = false := by rfl) :
    WE X (.Call (.Attribute o name apos) (e :: es) [] cpos) σ H Q := fun pins s I => by
  refine wpAny_Call_method_late hbase hfew hline rfl (thn (ho pins s I) fun v s1 ⟨x, H1, I1, r1, ⟨d, xs, ex, hd⟩, q1⟩ => ?_)
  rw [ex] at r1
  obtain rfl : v = Value.ref d := r1
  obtain ⟨h1, h2⟩ := isD_ty I1 hd
  refine ⟨"dict", id, PySem.F.plainAttrs_dict, slot, hty, h1, h2, ?_⟩
  have hA := q1 cpos pins s1 I1
  rw [hs] at hA ⊢
  refine Calls.callWith_builtin (by show (false || (backTo cpos (starEach es X.env)).any (·.1)) = false; rw [hplain] <;> rfl) (Calls.evalArgs_plain ?_)
  exact thn hA fun us s2 ⟨vs, H2, I2, r2, q2⟩ => hm pins s2 σ H2 x vs (.ref d) us Q I2 (by rw [ex]; rfl) r2 q2
theorem WA.one {Q : List V → Hp → Prop} (h : WE X e σ H fun v H1 => Q [v] H1) (hs : starEach [e] X.env = (false, eval e X.env) :: starEach [] X.env := by rfl) : WA X [e] σ H Q := wa (pa_cons pe_w pa_nil hs) h
theorem we_append {Q : VK} (h : WE X o σ H fun x H1 => (∃ l vs, x = .ref l ∧ H1 l = some (.lst vs)) ∧ WE X e σ H1 fun y H2 => ∃ l vs, x = .ref l ∧ H2 l = some (.lst vs) ∧ vs.length < sizeLine ∧ Q .non (upd H2 l (.lst (vs ++ [y]))))
    (hbase : attributeBase o "append" X.env (eval o X.env) = eval o X.env := by rfl)
    (hfew : ((backTo cpos (starEach [e] X.env)).all (fun x => !x.1) && (backToKw cpos (keywordEach [] X.env)).all (fun x => x.1.isSome)
      && decide ([e].length + ([] : List Keyword).length + (if ([] : List Keyword).isEmpty then 0 else 1) < 30)) = true := by rfl)
    (hline : (apos.endLine == cpos.line) = true := by rfl) (hs : starEach [e] X.env = (false, eval e X.env) :: starEach [] X.env := by rfl) :
    WE X (.Call (.Attribute o "append" apos) [e] [] cpos) σ H Q := by
  refine we (pe_bm PySem.F.plainAttrs_list PySem.F.slot_list_append PySem.F.type_list_append mt_append pe_w (pa_cons pe_w pa_nil hs) hbase hfew hline hs rfl) ?_
  refine h.mono fun x H1 ⟨⟨l, vs, ex, hl⟩, q⟩ => ⟨by rw [ex]; exact .inl ⟨rfl, _, SqL.of hl⟩, q.mono fun y H2 ⟨l2, vs2, ex2, hl2, hz, q2⟩ => ?_⟩
  exact ⟨l2, vs2, y, ex2, rfl, hl2, hz, q2⟩
end
end Nr
/-! The plain law of the chase: rows, dependencies, homomorphisms. -/
namespace Nr

abbrev Row := List Int
/-- the value of a row in a column -/
abbrev cel (r : Row) (c : Nat) : Int := r.getD c 0
structure Dep where
  st : Bool
  L : List Nat
  R : List Nat
def agr (a b : Row) (cs : List Nat) : Prop := ∀ c ∈ cs, cel a c = cel b c
def mix (n : Nat) (R : List Nat) (a b : Row) : Row := (List.range n).map fun c => if c ∈ R then cel a c else cel b c
def Keeps (n : Nat) (T : List Row) (d : Dep) : Prop := ∀ a ∈ T, ∀ b ∈ T, agr a b d.L → (d.st = true → agr a b d.R) ∧ (d.st = false → mix n d.R a b ∈ T)
def DepOk (n : Nat) (d : Dep) : Prop := (∀ c ∈ d.L, c < n) ∧ (∀ c ∈ d.R, c < n)
def Closed (n : Nat) (book : List Dep) (T : List Row) : Prop := ∀ d ∈ book, Keeps n T d
def Entails (n : Nat) (book : List Dep) (w : Dep) : Prop := ∀ T : List Row, (∀ r ∈ T, r.length = n) → Closed n book T → Keeps n T w
theorem cel_map_range {n c : Nat} (f : Nat → Int) (h : c < n) : cel ((List.range n).map f) c = f c := by
  unfold cel
  rw [List.getD_eq_getElem?_getD, List.getElem?_map, List.getElem?_range h]
  rfl
theorem row_ext {n : Nat} {a b : Row} (ha : a.length = n) (hb : b.length = n) (h : ∀ c < n, cel a c = cel b c) : a = b := by
  refine List.ext_getElem (ha.trans hb.symm) fun i h1 h2 => ?_
  have := h i (by omega)
  unfold cel at this
  rw [List.getD_eq_getElem?_getD, List.getD_eq_getElem?_getD, List.getElem?_eq_getElem h1, List.getElem?_eq_getElem h2] at this
  exact this
theorem cel_map {r : Row} {c : Nat} (f : Int → Int) (h : c < r.length) : cel (r.map f) c = f (cel r c) := by
  unfold cel
  rw [List.getD_eq_getElem?_getD, List.getD_eq_getElem?_getD, List.getElem?_map, List.getElem?_eq_getElem h]
  rfl
theorem mix_len (n : Nat) (R : List Nat) (a b : Row) : (mix n R a b).length = n := by unfold mix; rw [List.length_map, List.length_range]
theorem mix_cel {n : Nat} {R : List Nat} {a b : Row} {c : Nat} (h : c < n) : cel (mix n R a b) c = if c ∈ R then cel a c else cel b c := cel_map_range _ h
theorem mix_map {n : Nat} {R : List Nat} {a b : Row} (f : Int → Int) (ha : a.length = n) (hb : b.length = n) : (mix n R a b).map f = mix n R (a.map f) (b.map f) := by
  refine row_ext (n := n) (by rw [List.length_map, mix_len]) (mix_len ..) fun c hc => ?_
  rw [cel_map f (by rw [mix_len]; exact hc), mix_cel hc, mix_cel hc, cel_map f (by rw [ha]; exact hc), cel_map f (by rw [hb]; exact hc)]
  split <;> rfl
theorem agr_map {a b : Row} {cs : List Nat} {n : Nat} (f : Int → Int) (ha : a.length = n) (hb : b.length = n) (hc : ∀ c ∈ cs, c < n) (h : agr a b cs) : agr (a.map f) (b.map f) cs := fun c hcs => by
  rw [cel_map f (by rw [ha]; exact hc c hcs), cel_map f (by rw [hb]; exact hc c hcs), h c hcs]

/-! ### the chase -/
def nowv (bec : List (Int × Int)) (v : Int) : Int := (bec.lookup v).getD v
def rep (l g v : Int) : Int := if v = l then g else v
structure OOk (n : Nat) (o : Nat → Int) : Prop where
  low : ∀ c, c < n → o c < -(n : Int)
  inj : ∀ c d, c < n → d < n → o c = o d → c = d
theorem OOk.ne {n : Nat} {o : Nat → Int} (ok : OOk n o) {c d : Nat} (hc : c < n) (hd : d < n) : o c ≠ -1 - (d : Int) := by
  have := ok.low c hc
  omega
structure Ch (n : Nat) (o : Nat → Int) (book : List Dep) (st rows : List Row) (bec : List (Int × Int)) : Prop where
  nd : rows.Nodup
  len : ∀ r ∈ rows, r.length = n
  cell : ∀ r ∈ rows, ∀ c, c < n → cel r c = -1 - (c : Int) ∨ (cel r c = o c ∧ ∃ s ∈ st, cel s c = o c)
  bc : ∀ p ∈ bec, ∃ c, c < n ∧ p = (o c, -1 - (c : Int)) ∧ ∀ r ∈ rows, cel r c ≠ o c
  hom : ∀ T : List Row, (∀ r ∈ T, r.length = n) → Closed n book T → ∀ h : Int → Int, (∀ r ∈ st, r.map h ∈ T) → (∀ r ∈ rows, r.map h ∈ T) ∧ ∀ p ∈ bec, h p.1 = h p.2
  img : ∀ r ∈ st, r.map (nowv bec) ∈ rows
  stay : (rows = st ∧ bec = []) ∨ ¬ Closed n book st
theorem Ch.init {n : Nat} {o : Nat → Int} {book : List Dep} {st : List Row} (nd : st.Nodup) (len : ∀ r ∈ st, r.length = n) (cell : ∀ r ∈ st, ∀ c, c < n → cel r c = -1 - (c : Int) ∨ cel r c = o c) : Ch n o book st st [] where
  nd := nd
  len := len
  cell := fun r hr c hc => (cell r hr c hc).imp id fun e => ⟨e, r, hr, e⟩
  bc := fun p hp => nomatch hp
  hom := fun T _ _ h hs => ⟨hs, fun p hp => nomatch hp⟩
  img := fun r hr => by
    have : r.map (nowv []) = r := by
      conv => rhs; rw [← List.map_id r]
      exact List.map_congr_left fun x _ => rfl
    rw [this]
    exact hr
  stay := .inl ⟨rfl, rfl⟩
/-- how many columns still have values of their own -/
def opens (n : Nat) (o : Nat → Int) (rows : List Row) : Nat := ((List.range n).filter fun c => rows.any fun r => decide (cel r c = o c)).length
def meas (n : Nat) (o : Nat → Int) (rows : List Row) : Nat := 9 * opens n o rows + (8 - rows.length)
theorem filter_len_lt {α : Type} {p q : α → Bool} : ∀ {l : List α}, (∀ x ∈ l, p x = true → q x = true) → (∃ x ∈ l, p x = false ∧ q x = true) → (l.filter p).length < (l.filter q).length
  | [], _, ⟨x, hx, _⟩ => nomatch hx
  | y :: l, h, ⟨x, hx, h1, h2⟩ => by
    have hl : ∀ {l : List α}, (∀ x ∈ l, p x = true → q x = true) → (l.filter p).length ≤ (l.filter q).length := fun {l} => by
      induction l with
      | nil => intro _; exact Nat.le_refl _
      | cons z l ih =>
        intro h
        have := ih fun x hx => h x (List.mem_cons_of_mem _ hx)
        rw [List.filter_cons, List.filter_cons]
        cases hp : p z with
        | true => rw [h z List.mem_cons_self hp]; simpa using this
        | false =>
          cases hq : q z with
          | true => simp; omega
          | false => simpa using this
    rw [List.filter_cons, List.filter_cons]
    rcases List.mem_cons.mp hx with e | hx
    · rw [e] at h1 h2
      rw [h1, h2]
      have := hl fun x hx => h x (List.mem_cons_of_mem _ hx)
      simp
      omega
    · have := filter_len_lt (fun x hx => h x (List.mem_cons_of_mem _ hx)) ⟨x, hx, h1, h2⟩
      cases hp : p y with
      | true => rw [h y List.mem_cons_self hp]; simpa using this
      | false =>
        cases hq : q y with
        | true => simp; omega
        | false => simpa using this
theorem nowv_app {bec : List (Int × Int)} {l g v : Int} : nowv (bec ++ [(l, g)]) v = if (bec.lookup v).isSome = true then nowv bec v else rep l g v := by
  unfold nowv
  induction bec with
  | nil =>
    by_cases h : v = l
    · simp [List.lookup, rep, h]
    · have : (v == l) = false := beq_eq_false_iff_ne.mpr h
      simp [List.lookup, rep, h, this]
  | cons p bec ih =>
    obtain ⟨a, b⟩ := p
    rw [List.cons_append]
    by_cases h : v = a
    · simp [List.lookup, h]
    · have : (v == a) = false := beq_eq_false_iff_ne.mpr h
      simp only [List.lookup, this]
      exact ih
theorem lookup_mem {bec : List (Int × Int)} {v u : Int} (h : bec.lookup v = some u) : (v, u) ∈ bec := by
  induction bec with
  | nil => cases h
  | cons p bec ih =>
    obtain ⟨a, b⟩ := p
    by_cases e : v = a
    · simp only [List.lookup, e, beq_self_eq_true] at h
      rw [e, Option.some.inj h]
      exact List.mem_cons_self
    · have : (v == a) = false := beq_eq_false_iff_ne.mpr e
      simp only [List.lookup, this] at h
      exact List.mem_cons_of_mem _ (ih h)
section
variable {n : Nat} {o : Nat → Int} {book : List Dep} {st rows : List Row} {bec : List (Int × Int)}
theorem Ch.now_fix (h : Ch n o book st rows bec) (ok : OOk n o) {c : Nat} (hc : c < n) : nowv bec (-1 - (c : Int)) = -1 - (c : Int) := by
  unfold nowv
  cases e : bec.lookup (-1 - (c : Int)) with
  | none => rfl
  | some u =>
    obtain ⟨d, hd, e1, _⟩ := h.bc _ (lookup_mem e)
    exact absurd (Prod.mk.inj e1).1.symm (ok.ne hd hc)
/-- h does not tell a value from what became of it -/
theorem hom_now {h : Int → Int} (hb : ∀ p ∈ bec, h p.1 = h p.2) (v : Int) : h (nowv bec v) = h v := by
  unfold nowv
  cases e : bec.lookup v with
  | none => rfl
  | some u => exact (hb _ (lookup_mem e)).symm
/-- two values become equal -/
theorem Ch.eqs (h : Ch n o book st rows bec) (ok : OOk n o) {d : Dep} (hd : d ∈ book) (hok : DepOk n d) (hs : d.st = true) {a b : Row} (ha : a ∈ rows) (hb : b ∈ rows) (hL : agr a b d.L) {c : Nat} (hc : c ∈ d.R) (h1 : cel a c = o c) (h2 : cel b c = -1 - (c : Int))
    {rows' : List Row} (nd' : rows'.Nodup) (hm : ∀ r, r ∈ rows' ↔ ∃ r0 ∈ rows, r = r0.map (rep (o c) (-1 - (c : Int)))) :
    Ch n o book st rows' (bec ++ [(o c, -1 - (c : Int))]) ∧ opens n o rows' < opens n o rows ∧ bec.lookup (o c) = none := by
  have hcn : c < n := hok.2 c hc
  have nl : bec.lookup (o c) = none := by
    cases e : bec.lookup (o c) with
    | none => rfl
    | some u =>
      obtain ⟨d', hd', e1, e2⟩ := h.bc _ (lookup_mem e)
      have e3 := ok.inj c d' hcn hd' (Prod.mk.inj e1).1
      subst e3
      exact absurd h1 (e2 a ha)
  have len' : ∀ r ∈ rows', r.length = n := fun r hr => by
    obtain ⟨r0, hr0, rfl⟩ := (hm r).mp hr
    rw [List.length_map]
    exact h.len r0 hr0
  have cel' : ∀ r0 ∈ rows, ∀ d, d < n → cel (r0.map (rep (o c) (-1 - (c : Int)))) d = if d = c then -1 - (c : Int) else cel r0 d := fun r0 hr0 d hd' => by
    rw [cel_map _ (by rw [h.len r0 hr0]; exact hd')]
    unfold rep
    rcases h.cell r0 hr0 d hd' with e | ⟨e, _⟩
    · rw [e, if_neg (fun z => ok.ne hcn hd' z.symm)]
      by_cases q : d = c
      · rw [if_pos q, q]
      · rw [if_neg q]
    · rw [e]
      by_cases q : d = c
      · rw [if_pos q, q, if_pos rfl]
      · rw [if_neg q, if_neg fun z => q (ok.inj d c hd' hcn z)]
  refine ⟨⟨nd', len', fun r hr d hd' => ?_, fun p hp => ?_, fun T hT hcl hh hst => ?_, fun r hr => ?_, ?_⟩, ?_, nl⟩
  · obtain ⟨r0, hr0, rfl⟩ := (hm r).mp hr
    rw [cel' r0 hr0 d hd']
    by_cases q : d = c
    · rw [if_pos q, q]
      exact .inl rfl
    · rw [if_neg q]
      exact h.cell r0 hr0 d hd'
  · rcases List.mem_append.mp hp with hp | hp
    · obtain ⟨d', hd', e1, e2⟩ := h.bc p hp
      refine ⟨d', hd', e1, fun r hr => ?_⟩
      obtain ⟨r0, hr0, rfl⟩ := (hm r).mp hr
      rw [cel' r0 hr0 d' hd']
      by_cases q : d' = c
      · rw [if_pos q, q]
        exact fun z => ok.ne hcn hcn z.symm
      · rw [if_neg q]
        exact e2 r0 hr0
    · rw [List.mem_singleton.mp hp]
      refine ⟨c, hcn, rfl, fun r hr => ?_⟩
      obtain ⟨r0, hr0, rfl⟩ := (hm r).mp hr
      rw [cel' r0 hr0 c hcn, if_pos rfl]
      exact fun z => ok.ne hcn hcn z.symm
  · obtain ⟨g1, g2⟩ := h.hom T hT hcl hh hst
    have ea := agr_map (n := n) hh (h.len a ha) (h.len b hb) hok.1 hL
    have ec := (hcl d hd _ (g1 a ha) _ (g1 b hb) ea).1 hs c hc
    rw [cel_map hh (by rw [h.len a ha]; exact hcn), cel_map hh (by rw [h.len b hb]; exact hcn), h1, h2] at ec
    refine ⟨fun r hr => ?_, fun p hp => ?_⟩
    · obtain ⟨r0, hr0, rfl⟩ := (hm r).mp hr
      have : (r0.map (rep (o c) (-1 - (c : Int)))).map hh = r0.map hh := by
        rw [List.map_map]
        refine List.map_congr_left fun x _ => ?_
        show hh (rep (o c) (-1 - (c : Int)) x) = hh x
        unfold rep
        by_cases q : x = o c
        · rw [if_pos q, q, ec]
        · rw [if_neg q]
      rw [this]
      exact g1 r0 hr0
    · rcases List.mem_append.mp hp with hp | hp
      · exact g2 p hp
      · rw [List.mem_singleton.mp hp]
        exact ec
  · refine (hm _).mpr ⟨_, h.img r hr, ?_⟩
    rw [List.map_map]
    refine List.map_congr_left fun x _ => ?_
    show nowv (bec ++ [(o c, -1 - (c : Int))]) x = rep (o c) (-1 - (c : Int)) (nowv bec x)
    rw [nowv_app]
    cases e : bec.lookup x with
    | none =>
      have : nowv bec x = x := by unfold nowv; rw [e]; rfl
      rw [this]
      rfl
    | some u =>
      obtain ⟨d', hd', e1, _⟩ := h.bc _ (lookup_mem e)
      have e2 : nowv bec x = u := by unfold nowv; rw [e]; rfl
      rw [e2]
      show u = rep (o c) (-1 - (c : Int)) u
      rw [(Prod.mk.inj e1).2]
      unfold rep
      rw [if_neg fun z => ok.ne hcn hd' z.symm]
  · refine .inr fun hcl => ?_
    rcases h.stay with ⟨e, _⟩ | q
    · rw [← e] at hcl
      have := (hcl d hd a ha b hb hL).1 hs c hc
      rw [h1, h2] at this
      exact ok.ne hcn hcn this
    · exact q hcl
  · unfold opens
    refine filter_len_lt (fun d hd' hx => ?_) ⟨c, List.mem_range.mpr hcn, ?_, ?_⟩
    · have hdn := List.mem_range.mp hd'
      obtain ⟨r, hr, e⟩ := List.any_eq_true.mp hx
      have e := of_decide_eq_true e
      obtain ⟨r0, hr0, rfl⟩ := (hm r).mp hr
      rw [cel' r0 hr0 d hdn] at e
      by_cases q : d = c
      · rw [if_pos q, q] at e
        exact absurd e.symm (ok.ne hcn hcn)
      · rw [if_neg q] at e
        exact List.any_eq_true.mpr ⟨r0, hr0, decide_eq_true e⟩
    · cases e : rows'.any fun r => decide (cel r c = o c) with
      | false => rfl
      | true =>
        obtain ⟨r, hr, e⟩ := List.any_eq_true.mp e
        have e := of_decide_eq_true e
        obtain ⟨r0, hr0, rfl⟩ := (hm r).mp hr
        rw [cel' r0 hr0 c hcn, if_pos rfl] at e
        exact absurd e.symm (ok.ne hcn hcn)
    · exact List.any_eq_true.mpr ⟨a, ha, decide_eq_true h1⟩
/-- a row comes in -/
theorem Ch.adds (h : Ch n o book st rows bec) (ok : OOk n o) {d : Dep} (hd : d ∈ book) (hok : DepOk n d) (hs : d.st = false) {a b : Row} (ha : a ∈ rows) (hb : b ∈ rows) (hL : agr a b d.L) (hn : mix n d.R a b ∉ rows) :
    Ch n o book st (rows ++ [mix n d.R a b]) bec ∧ opens n o (rows ++ [mix n d.R a b]) ≤ opens n o rows := by
  have cm : ∀ c, c < n → cel (mix n d.R a b) c = cel a c ∨ cel (mix n d.R a b) c = cel b c := fun c hc => by
    rw [mix_cel hc]
    split
    · exact .inl rfl
    · exact .inr rfl
  refine ⟨⟨?_, fun r hr => ?_, fun r hr c hc => ?_, fun p hp => ?_, fun T hT hcl hh hst => ?_, fun r hr => List.mem_append_left _ (h.img r hr), ?_⟩, ?_⟩
  · exact List.nodup_append.mpr ⟨h.nd, by simp, fun x hx y hy e => hn (by rw [List.mem_singleton.mp hy] at e; exact e ▸ hx)⟩
  · rcases List.mem_append.mp hr with hr | hr
    · exact h.len r hr
    · rw [List.mem_singleton.mp hr]; exact mix_len ..
  · rcases List.mem_append.mp hr with hr | hr
    · exact h.cell r hr c hc
    · rw [List.mem_singleton.mp hr]
      rcases cm c hc with e | e
      · rw [e]; exact h.cell a ha c hc
      · rw [e]; exact h.cell b hb c hc
  · obtain ⟨c, hc, e1, e2⟩ := h.bc p hp
    refine ⟨c, hc, e1, fun r hr => ?_⟩
    rcases List.mem_append.mp hr with hr | hr
    · exact e2 r hr
    · rw [List.mem_singleton.mp hr]
      rcases cm c hc with e | e
      · rw [e]; exact e2 a ha
      · rw [e]; exact e2 b hb
  · obtain ⟨g1, g2⟩ := h.hom T hT hcl hh hst
    refine ⟨fun r hr => ?_, g2⟩
    rcases List.mem_append.mp hr with hr | hr
    · exact g1 r hr
    · rw [List.mem_singleton.mp hr, mix_map hh (h.len a ha) (h.len b hb)]
      exact (hcl d hd _ (g1 a ha) _ (g1 b hb) (agr_map (n := n) hh (h.len a ha) (h.len b hb) hok.1 hL)).2 hs
  · refine .inr fun hcl => ?_
    rcases h.stay with ⟨e, _⟩ | q
    · rw [← e] at hcl
      exact hn ((hcl d hd a ha b hb hL).2 hs)
    · exact q hcl
  · unfold opens
    have hl : ∀ {p q : Nat → Bool} {l : List Nat}, (∀ x ∈ l, p x = true → q x = true) → (l.filter p).length ≤ (l.filter q).length := fun {p q l} => by
      induction l with
      | nil => intro _; exact Nat.le_refl _
      | cons z l ih =>
        intro h
        have := ih fun x hx => h x (List.mem_cons_of_mem _ hx)
        rw [List.filter_cons, List.filter_cons]
        cases hp : p z with
        | true => rw [h z List.mem_cons_self hp]; simpa using this
        | false =>
          cases hq : q z with
          | true => simp; omega
          | false => simpa using this
    refine hl fun c hc hx => ?_
    have hcn := List.mem_range.mp hc
    obtain ⟨r, hr, e⟩ := List.any_eq_true.mp hx
    have e := of_decide_eq_true e
    rcases List.mem_append.mp hr with hr | hr
    · exact List.any_eq_true.mpr ⟨r, hr, decide_eq_true e⟩
    · rw [List.mem_singleton.mp hr] at e
      rcases cm c hcn with q | q
      · exact List.any_eq_true.mpr ⟨a, ha, decide_eq_true (q ▸ e)⟩
      · exact List.any_eq_true.mpr ⟨b, hb, decide_eq_true (q ▸ e)⟩
end

/-! ### how many rows -/
theorem nodup_len {α : Type} [DecidableEq α] : ∀ {l u : List α}, l.Nodup → (∀ x ∈ l, x ∈ u) → l.length ≤ u.length
  | [], _, _, _ => Nat.zero_le _
  | x :: l, u, h, hs => by
    obtain ⟨h1, h2⟩ := List.nodup_cons.mp h
    have hx := hs x List.mem_cons_self
    have := nodup_len (u := u.erase x) h2 fun y hy => (List.mem_erase_of_ne fun (e : y = x) => h1 (by rw [← e]; exact hy)).mpr (hs y (List.mem_cons_of_mem _ hy))
    rw [List.length_erase_of_mem hx] at this
    have := List.length_pos_of_mem hx
    rw [List.length_cons]
    omega
def allR (o : Nat → Int) (free : Nat → Bool) : List Nat → List Row
  | [] => [[]]
  | c :: cs => (allR o free cs).flatMap fun r => if free c then [(-1 - (c : Int)) :: r, o c :: r] else [(-1 - (c : Int)) :: r]
theorem allR_len (o : Nat → Int) (free : Nat → Bool) : ∀ cs : List Nat, (allR o free cs).length = 2 ^ (cs.filter free).length
  | [] => rfl
  | c :: cs => by
    rw [allR, List.length_flatMap, List.filter_cons]
    cases h : free c with
    | true =>
      simp only [if_true, List.length_cons, List.length_nil]
      have : ∀ l : List Row, (l.map fun _ => 0 + 1 + 1).sum = l.length * 2 := fun l => by
        induction l with
        | nil => rfl
        | cons x l ih => rw [List.map_cons, List.sum_cons, ih, List.length_cons]; omega
      rw [this, allR_len o free cs, Nat.pow_succ]
    | false =>
      simp only [Bool.false_eq_true, if_false, List.length_cons, List.length_nil]
      have : ∀ l : List Row, (l.map fun _ => 0 + 1).sum = l.length := fun l => by
        induction l with
        | nil => rfl
        | cons x l ih => rw [List.map_cons, List.sum_cons, ih, List.length_cons]; omega
      rw [this, allR_len o free cs]
theorem allR_mem {o : Nat → Int} {free : Nat → Bool} : ∀ {cs : List Nat} {r : Row}, r.length = cs.length → (∀ i (h : i < cs.length), cel r i = -1 - (cs[i] : Int) ∨ (cel r i = o cs[i] ∧ free cs[i] = true)) → r ∈ allR o free cs
  | [], r, hl, _ => by
    rw [List.eq_nil_of_length_eq_zero hl]
    exact List.mem_cons_self
  | c :: cs, [], hl, _ => nomatch hl
  | c :: cs, x :: r, hl, h => by
    rw [allR, List.mem_flatMap]
    refine ⟨r, allR_mem (by simpa using hl) fun i hi => ?_, ?_⟩
    · have := h (i + 1) (by rw [List.length_cons]; omega)
      simpa [cel] using this
    · have := h 0 (by rw [List.length_cons]; omega)
      simp [cel] at this
      rcases this with e | ⟨e, f⟩
      · rw [e]
        split <;> simp
      · rw [e, f]
        simp
section
variable {n : Nat} {o : Nat → Int} {book : List Dep} {st rows : List Row} {bec : List (Int × Int)}
def freeC (o : Nat → Int) (st : List Row) (c : Nat) : Bool := st.any fun s => decide (cel s c = o c)
theorem Ch.sub (h : Ch n o book st rows bec) : ∀ r ∈ rows, r ∈ allR o (freeC o st) (List.range n) := fun r hr => by
  refine allR_mem (by rw [List.length_range]; exact h.len r hr) fun i hi => ?_
  rw [List.getElem_range]
  rw [List.length_range] at hi
  rcases h.cell r hr i hi with e | ⟨e, s, hs, es⟩
  · exact .inl e
  · exact .inr ⟨e, List.any_eq_true.mpr ⟨s, hs, decide_eq_true es⟩⟩
theorem Ch.few (h : Ch n o book st rows bec) : rows.length ≤ 2 ^ ((List.range n).filter (freeC o st)).length := by
  rw [← allR_len o (freeC o st)]
  exact nodup_len h.nd h.sub
theorem Ch.few8 (h : Ch n o book st rows bec) (hn : n ≤ 3) : rows.length ≤ 8 := by
  have h1 := h.few
  have h2 : ((List.range n).filter (freeC o st)).length ≤ 3 := by
    have := List.length_filter_le (freeC o st) (List.range n)
    rw [List.length_range] at this
    omega
  have h3 : 2 ^ ((List.range n).filter (freeC o st)).length ≤ 2 ^ 3 := Nat.pow_le_pow_right (by decide) h2
  omega
end
end Nr
/-! Starts, what is met, what follows. -/
namespace Nr

def firstR (n : Nat) : Row := (List.range n).map fun (c : Nat) => -1 - (c : Int)
def partR (n : Nat) (part : List Nat) (turn : Nat) : Row := (List.range n).map fun (c : Nat) => -1 - (if c ∈ part then (c : Int) else ((n * turn + c : Nat) : Int))
def p1 (n : Nat) (w : Dep) : List Nat := (List.range n).filter fun c => decide (c ∈ w.L ∨ c ∈ w.R)
def p2 (n : Nat) (w : Dep) : List Nat := (List.range n).filter fun c => decide (c ∈ w.L ∨ c ∉ w.R)
def oW (n : Nat) (w : Dep) (c : Nat) : Int := if w.st = true then -1 - ((n + c : Nat) : Int) else if c ∈ w.R then -1 - ((n * 2 + c : Nat) : Int) else -1 - ((n + c : Nat) : Int)
def startL (n : Nat) (w : Dep) : List Row := if w.st = true then [firstR n, partR n w.L 1] else [partR n (p1 n w) 1, partR n (p2 n w) 2]
structure WishOk (n : Nat) (w : Dep) : Prop where
  ok : DepOk n w
  dj : ∀ c ∈ w.L, c ∉ w.R
  pos : 1 ≤ n
structure St (n : Nat) (w : Dep) (st : List Row) : Prop where
  nd : st.Nodup
  mem : ∀ r, r ∈ st ↔ r ∈ startL n w
theorem oW_ok (n : Nat) (w : Dep) : OOk n (oW n w) := by
  refine ⟨fun c hc => ?_, fun c d hc hd e => ?_⟩
  · unfold oW
    split
    · omega
    · split <;> omega
  · unfold oW at e
    split at e
    · omega
    · split at e <;> split at e <;> omega
theorem firstR_len (n : Nat) : (firstR n).length = n := by unfold firstR; rw [List.length_map, List.length_range]
theorem partR_len (n : Nat) (p : List Nat) (t : Nat) : (partR n p t).length = n := by unfold partR; rw [List.length_map, List.length_range]
theorem firstR_cel {n c : Nat} (h : c < n) : cel (firstR n) c = -1 - (c : Int) := cel_map_range _ h
theorem partR_cel {n c t : Nat} {p : List Nat} (h : c < n) : cel (partR n p t) c = -1 - (if c ∈ p then (c : Int) else ((n * t + c : Nat) : Int)) := cel_map_range _ h
theorem p1_mem {n c : Nat} {w : Dep} (h : c < n) : c ∈ p1 n w ↔ c ∈ w.L ∨ c ∈ w.R := by
  unfold p1
  rw [List.mem_filter, List.mem_range]
  simp [h]
theorem p2_mem {n c : Nat} {w : Dep} (h : c < n) : c ∈ p2 n w ↔ c ∈ w.L ∨ c ∉ w.R := by
  unfold p2
  rw [List.mem_filter, List.mem_range]
  simp [h]
section
variable {n : Nat} {w : Dep} {book : List Dep} {st rows : List Row} {bec : List (Int × Int)}
theorem startL_len {r : Row} (h : r ∈ startL n w) : r.length = n := by
  unfold startL at h
  split at h
  · rcases List.mem_cons.mp h with e | h
    · rw [e]; exact firstR_len n
    · rw [List.mem_singleton.mp h]; exact partR_len ..
  · rcases List.mem_cons.mp h with e | h
    · rw [e]; exact partR_len ..
    · rw [List.mem_singleton.mp h]; exact partR_len ..
theorem startL_cell (hw : WishOk n w) {r : Row} (h : r ∈ startL n w) {c : Nat} (hc : c < n) : cel r c = -1 - (c : Int) ∨ (cel r c = oW n w c ∧ c ∉ w.L) := by
  unfold startL at h
  split at h
  · rename_i hs
    rcases List.mem_cons.mp h with e | h
    · rw [e, firstR_cel hc]; exact .inl rfl
    · rw [List.mem_singleton.mp h, partR_cel hc]
      unfold oW
      rw [if_pos hs]
      by_cases q : c ∈ w.L
      · rw [if_pos q]; exact .inl rfl
      · rw [if_neg q, Nat.mul_one]; exact .inr ⟨rfl, q⟩
  · rename_i hs
    have e0 : oW n w c = if c ∈ w.R then -1 - ((n * 2 + c : Nat) : Int) else -1 - ((n + c : Nat) : Int) := by unfold oW; rw [if_neg hs]
    rcases List.mem_cons.mp h with e | h
    · rw [e, partR_cel hc]
      by_cases q : c ∈ p1 n w
      · rw [if_pos q]; exact .inl rfl
      · rw [if_neg q, Nat.mul_one]
        have q1 := fun z => q ((p1_mem hc).mpr z)
        rw [e0, if_neg fun z => q1 (.inr z)]
        exact .inr ⟨rfl, fun z => q1 (.inl z)⟩
    · rw [List.mem_singleton.mp h, partR_cel hc]
      by_cases q : c ∈ p2 n w
      · rw [if_pos q]; exact .inl rfl
      · rw [if_neg q]
        have q1 := fun z => q ((p2_mem hc).mpr z)
        have q2 : c ∈ w.R := Classical.byContradiction fun z => q1 (.inr z)
        rw [e0, if_pos q2]
        exact .inr ⟨rfl, fun z => q1 (.inl z)⟩
theorem St.init (s : St n w st) (hw : WishOk n w) : Ch n (oW n w) book st st [] :=
  Ch.init s.nd (fun r hr => startL_len ((s.mem r).mp hr)) fun r hr c hc => (startL_cell hw ((s.mem r).mp hr) hc).imp id (·.1)
theorem St.free (s : St n w st) (hw : WishOk n w) {c : Nat} (hc : c < n) (h : freeC (oW n w) st c = true) : c ∉ w.L := by
  obtain ⟨r, hr, e⟩ := List.any_eq_true.mp h
  have e := of_decide_eq_true e
  rcases startL_cell hw ((s.mem r).mp hr) hc with q | q
  · rw [q] at e
    exact absurd e.symm ((oW_ok n w).ne hc hc)
  · exact q.2
def Met (n : Nat) (w : Dep) (rows : List Row) (bec : List (Int × Int)) : Prop :=
  if w.st = true then ∀ c ∈ w.R, c ∉ w.L → nowv bec (-1 - (c : Int)) = nowv bec (-1 - ((n + c : Nat) : Int)) else (firstR n).map (nowv bec) ∈ rows
theorem map_now {h : Int → Int} (hb : ∀ p ∈ bec, h p.1 = h p.2) (r : Row) : (r.map (nowv bec)).map h = r.map h := by
  rw [List.map_map]
  exact List.map_congr_left fun x _ => hom_now hb x
theorem met_ent (ch : Ch n (oW n w) book st rows bec) (s : St n w st) (hw : WishOk n w) (hm : Met n w rows bec) : Entails n book w := by
  intro T hT hcl x hx y hy hL
  unfold Met at hm
  refine ⟨fun hs => ?_, fun hs => ?_⟩
  · rw [if_pos hs] at hm
    let h : Int → Int := fun v => if (-1 - v).toNat < n then cel x (-1 - v).toNat else cel y ((-1 - v).toNat - n)
    have h1 : ∀ c, c < n → h (-1 - (c : Int)) = cel x c := fun c hc => by
      show (if (-1 - (-1 - (c : Int))).toNat < n then _ else _) = _
      have e : (-1 - (-1 - (c : Int))).toNat = c := by omega
      rw [e, if_pos hc]
    have h2 : ∀ c, c < n → h (-1 - ((n + c : Nat) : Int)) = cel y c := fun c hc => by
      show (if (-1 - (-1 - ((n + c : Nat) : Int))).toNat < n then _ else _) = _
      have e : (-1 - (-1 - ((n + c : Nat) : Int))).toNat = n + c := by omega
      rw [e, if_neg (by omega), show n + c - n = c by omega]
    have hst : ∀ r ∈ st, r.map h ∈ T := fun r hr => by
      have := (s.mem r).mp hr
      unfold startL at this
      rw [if_pos hs] at this
      rcases List.mem_cons.mp this with e | e
      · have : r.map h = x := row_ext (n := n) (by rw [List.length_map, e, firstR_len]) (hT x hx) fun c hc => by
          rw [cel_map h (by rw [e, firstR_len]; exact hc), e, firstR_cel hc, h1 c hc]
        rw [this]; exact hx
      · have e := List.mem_singleton.mp e
        have : r.map h = y := row_ext (n := n) (by rw [List.length_map, e, partR_len]) (hT y hy) fun c hc => by
          rw [cel_map h (by rw [e, partR_len]; exact hc), e, partR_cel hc]
          by_cases q : c ∈ w.L
          · rw [if_pos q, h1 c hc]; exact hL c q
          · rw [if_neg q, Nat.mul_one, h2 c hc]
        rw [this]; exact hy
    obtain ⟨_, g2⟩ := ch.hom T hT hcl h hst
    intro c hc
    have hcn := hw.ok.2 c hc
    by_cases q : c ∈ w.L
    · exact hL c q
    · have := congrArg h (hm c hc q)
      rw [hom_now g2, hom_now g2, h1 c hcn, h2 c hcn] at this
      exact this
  · rw [if_neg (by rw [hs]; decide)] at hm
    have hs' : ¬ w.st = true := by rw [hs]; decide
    let h : Int → Int := fun v => if (-1 - v).toNat < n then cel (mix n w.R x y) (-1 - v).toNat else if (-1 - v).toNat < n * 2 then cel x ((-1 - v).toNat - n) else cel y ((-1 - v).toNat - n * 2)
    have h1 : ∀ c, c < n → h (-1 - (c : Int)) = cel (mix n w.R x y) c := fun c hc => by
      show (if (-1 - (-1 - (c : Int))).toNat < n then _ else _) = _
      have e : (-1 - (-1 - (c : Int))).toNat = c := by omega
      rw [e, if_pos hc]
    have h2 : ∀ c, c < n → h (-1 - ((n * 1 + c : Nat) : Int)) = cel x c := fun c hc => by
      show (if (-1 - (-1 - ((n * 1 + c : Nat) : Int))).toNat < n then _ else _) = _
      have e : (-1 - (-1 - ((n * 1 + c : Nat) : Int))).toNat = n + c := by omega
      rw [e, if_neg (by omega), if_pos (by omega), show n + c - n = c by omega]
    have h3 : ∀ c, c < n → h (-1 - ((n * 2 + c : Nat) : Int)) = cel y c := fun c hc => by
      show (if (-1 - (-1 - ((n * 2 + c : Nat) : Int))).toNat < n then _ else _) = _
      have e : (-1 - (-1 - ((n * 2 + c : Nat) : Int))).toNat = n * 2 + c := by omega
      rw [e, if_neg (by omega), if_neg (by omega), show n * 2 + c - n * 2 = c by omega]
    have hst : ∀ r ∈ st, r.map h ∈ T := fun r hr => by
      have := (s.mem r).mp hr
      unfold startL at this
      rw [if_neg hs'] at this
      rcases List.mem_cons.mp this with e | e
      · have : r.map h = x := row_ext (n := n) (by rw [List.length_map, e, partR_len]) (hT x hx) fun c hc => by
          rw [cel_map h (by rw [e, partR_len]; exact hc), e, partR_cel hc]
          by_cases q : c ∈ p1 n w
          · rw [if_pos q, h1 c hc, mix_cel hc]
            rcases (p1_mem hc).mp q with z | z
            · rw [if_neg (hw.dj c z)]; exact (hL c z).symm
            · rw [if_pos z]
          · rw [if_neg q, h2 c hc]
        rw [this]; exact hx
      · have e := List.mem_singleton.mp e
        have : r.map h = y := row_ext (n := n) (by rw [List.length_map, e, partR_len]) (hT y hy) fun c hc => by
          rw [cel_map h (by rw [e, partR_len]; exact hc), e, partR_cel hc]
          by_cases q : c ∈ p2 n w
          · rw [if_pos q, h1 c hc, mix_cel hc]
            rcases (p2_mem hc).mp q with z | z
            · rw [if_neg (hw.dj c z)]
            · rw [if_neg z]
          · rw [if_neg q, h3 c hc]
        rw [this]; exact hy
    obtain ⟨g1, g2⟩ := ch.hom T hT hcl h hst
    have := g1 _ hm
    rw [map_now g2] at this
    have e : (firstR n).map h = mix n w.R x y := row_ext (n := n) (by rw [List.length_map, firstR_len]) (mix_len ..) fun c hc => by
      rw [cel_map h (by rw [firstR_len]; exact hc), firstR_cel hc, h1 c hc]
    rw [e] at this
    exact this
theorem met_keeps (ch : Ch n (oW n w) book st rows bec) (s : St n w st) (hw : WishOk n w) (hk : Keeps n rows w) : Met n w rows bec := by
  have ok := oW_ok n w
  unfold Met
  by_cases hs : w.st = true
  · rw [if_pos hs]
    have i1 := ch.img (firstR n) ((s.mem _).mpr (by unfold startL; rw [if_pos hs]; exact List.mem_cons_self))
    have i2 := ch.img (partR n w.L 1) ((s.mem _).mpr (by unfold startL; rw [if_pos hs]; exact List.mem_cons_of_mem _ List.mem_cons_self))
    have ag : agr ((firstR n).map (nowv bec)) ((partR n w.L 1).map (nowv bec)) w.L := fun c hc => by
      have hcn := hw.ok.1 c hc
      rw [cel_map _ (by rw [firstR_len]; exact hcn), cel_map _ (by rw [partR_len]; exact hcn), firstR_cel hcn, partR_cel hcn, if_pos hc]
    intro c hc hn
    have hcn := hw.ok.2 c hc
    have := (hk _ i1 _ i2 ag).1 hs c hc
    rw [cel_map _ (by rw [firstR_len]; exact hcn), cel_map _ (by rw [partR_len]; exact hcn), firstR_cel hcn, partR_cel hcn, if_neg hn, Nat.mul_one] at this
    exact this
  · rw [if_neg hs]
    have hs' : w.st = false := by simpa using hs
    have i1 := ch.img (partR n (p1 n w) 1) ((s.mem _).mpr (by unfold startL; rw [if_neg hs]; exact List.mem_cons_self))
    have i2 := ch.img (partR n (p2 n w) 2) ((s.mem _).mpr (by unfold startL; rw [if_neg hs]; exact List.mem_cons_of_mem _ List.mem_cons_self))
    have ag : agr ((partR n (p1 n w) 1).map (nowv bec)) ((partR n (p2 n w) 2).map (nowv bec)) w.L := fun c hc => by
      have hcn := hw.ok.1 c hc
      rw [cel_map _ (by rw [partR_len]; exact hcn), cel_map _ (by rw [partR_len]; exact hcn), partR_cel hcn, partR_cel hcn, if_pos ((p1_mem hcn).mpr (.inl hc)), if_pos ((p2_mem hcn).mpr (.inl hc))]
    have := (hk _ i1 _ i2 ag).2 hs'
    have e : mix n w.R ((partR n (p1 n w) 1).map (nowv bec)) ((partR n (p2 n w) 2).map (nowv bec)) = (firstR n).map (nowv bec) := row_ext (n := n) (mix_len ..) (by rw [List.length_map, firstR_len]) fun c hc => by
      rw [mix_cel hc, cel_map _ (by rw [partR_len]; exact hc), cel_map _ (by rw [partR_len]; exact hc), cel_map _ (by rw [firstR_len]; exact hc), firstR_cel hc, partR_cel hc, partR_cel hc]
      by_cases q : c ∈ w.R
      · rw [if_pos q, if_pos ((p1_mem hc).mpr (.inr q))]
      · rw [if_neg q, if_pos ((p2_mem hc).mpr (.inr q))]
    rw [e] at this
    exact this
/-- a chase run to its end -/
structure Done (n : Nat) (book : List Dep) (w : Dep) (st rows : List Row) (bec : List (Int × Int)) : Prop where
  ch : Ch n (oW n w) book st rows bec
  st : St n w st
  cl : Closed n book rows
theorem Done.met_iff (d : Done n book w st rows bec) (hw : WishOk n w) : Met n w rows bec ↔ Entails n book w :=
  ⟨met_ent d.ch d.st hw, fun h => met_keeps d.ch d.st hw (h rows d.ch.len d.cl)⟩
theorem Done.brk (d : Done n book w st rows bec) (hw : WishOk n w) (h : ¬ Entails n book w) : ¬ Keeps n rows w := fun k => h (met_ent d.ch d.st hw (met_keeps d.ch d.st hw k))
end

/-! ### tables of other values, laid together -/
section
variable {n : Nat} {T T1 T2 : List Row} {d : Dep}
def Vals0 (T : List Row) (v : Int) : Prop := ∃ r ∈ T, ∃ c, c < r.length ∧ cel r c = v
theorem keeps_mem (h : ∀ r, r ∈ T1 ↔ r ∈ T2) : Keeps n T1 d ↔ Keeps n T2 d := by
  constructor
  · exact fun k a ha b hb hL => let ⟨x, y⟩ := k a ((h a).mpr ha) b ((h b).mpr hb) hL; ⟨x, fun e => (h _).mp (y e)⟩
  · exact fun k a ha b hb hL => let ⟨x, y⟩ := k a ((h a).mp ha) b ((h b).mp hb) hL; ⟨x, fun e => (h _).mpr (y e)⟩
/-- values renamed -/
theorem keeps_map {f : Int → Int} (hd : DepOk n d) (hT : ∀ r ∈ T, r.length = n) (inj : ∀ r ∈ T, ∀ s ∈ T, ∀ c e, c < n → e < n → f (cel r c) = f (cel s e) → cel r c = cel s e) : Keeps n (T.map fun r => r.map f) d ↔ Keeps n T d := by
  have ag : ∀ a ∈ T, ∀ b ∈ T, ∀ cs : List Nat, (∀ c ∈ cs, c < n) → (agr (a.map f) (b.map f) cs ↔ agr a b cs) := fun a ha b hb cs hcs => by
    constructor
    · intro h c hc
      have := h c hc
      rw [cel_map f (by rw [hT a ha]; exact hcs c hc), cel_map f (by rw [hT b hb]; exact hcs c hc)] at this
      exact inj a ha b hb c c (hcs c hc) (hcs c hc) this
    · exact agr_map f (hT a ha) (hT b hb) hcs
  constructor
  · intro k a ha b hb hL
    obtain ⟨x, y⟩ := k _ (List.mem_map.mpr ⟨a, ha, rfl⟩) _ (List.mem_map.mpr ⟨b, hb, rfl⟩) ((ag a ha b hb d.L hd.1).mpr hL)
    refine ⟨fun hs => (ag a ha b hb d.R hd.2).mp (x hs), fun hs => ?_⟩
    have := y hs
    rw [← mix_map f (hT a ha) (hT b hb)] at this
    obtain ⟨t, ht, e⟩ := List.mem_map.mp this
    have : t = mix n d.R a b := row_ext (n := n) (hT t ht) (mix_len ..) fun c hc => by
      have e1 : cel (t.map f) c = cel ((mix n d.R a b).map f) c := by rw [e]
      rw [cel_map f (by rw [hT t ht]; exact hc), cel_map f (by rw [mix_len]; exact hc)] at e1
      rw [mix_cel hc] at e1 ⊢
      by_cases q : c ∈ d.R
      · rw [if_pos q] at e1 ⊢
        exact inj t ht a ha c c hc hc e1
      · rw [if_neg q] at e1 ⊢
        exact inj t ht b hb c c hc hc e1
    rw [← this]; exact ht
  · intro k a' ha' b' hb' hL
    obtain ⟨a, ha, rfl⟩ := List.mem_map.mp ha'
    obtain ⟨b, hb, rfl⟩ := List.mem_map.mp hb'
    obtain ⟨x, y⟩ := k a ha b hb ((ag a ha b hb d.L hd.1).mp hL)
    refine ⟨fun hs => (ag a ha b hb d.R hd.2).mpr (x hs), fun hs => ?_⟩
    rw [← mix_map f (hT a ha) (hT b hb)]
    exact List.mem_map.mpr ⟨_, y hs, rfl⟩
/-- no value is in both -/
def Apart (n : Nat) (T1 T2 : List Row) : Prop := ∀ r ∈ T1, ∀ s ∈ T2, ∀ c e, c < n → e < n → cel r c ≠ cel s e
theorem keeps_app (ap : Apart n T1 T2) (hd : DepOk n d) (hL : d.L ≠ []) (k1 : Keeps n T1 d) (k2 : Keeps n T2 d) : Keeps n (T1 ++ T2) d := by
  have ne : ∀ a ∈ T1, ∀ b ∈ T2, ¬ agr a b d.L := fun a ha b hb h => by
    obtain ⟨c, hc⟩ := List.exists_mem_of_ne_nil _ hL
    exact ap a ha b hb c c (hd.1 c hc) (hd.1 c hc) (h c hc)
  intro a ha b hb hag
  rcases List.mem_append.mp ha with ha | ha <;> rcases List.mem_append.mp hb with hb | hb
  · obtain ⟨x, y⟩ := k1 a ha b hb hag
    exact ⟨x, fun e => List.mem_append_left _ (y e)⟩
  · exact absurd hag (ne a ha b hb)
  · exact absurd (fun c hc => (hag c hc).symm) (ne b hb a ha)
  · obtain ⟨x, y⟩ := k2 a ha b hb hag
    exact ⟨x, fun e => List.mem_append_right _ (y e)⟩
theorem brk_left (ap : Apart n T1 T2) (h1 : 1 ≤ n) (k : Keeps n (T1 ++ T2) d) : Keeps n T1 d := by
  intro a ha b hb hag
  obtain ⟨x, y⟩ := k a (List.mem_append_left _ ha) b (List.mem_append_left _ hb) hag
  refine ⟨x, fun e => ?_⟩
  rcases List.mem_append.mp (y e) with q | q
  · exact q
  · have := mix_cel (R := d.R) (a := a) (b := b) (show 0 < n from h1)
    by_cases z : 0 ∈ d.R
    · rw [if_pos z] at this
      exact absurd this.symm (ap a ha _ q 0 0 h1 h1)
    · rw [if_neg z] at this
      exact absurd this.symm (ap b hb _ q 0 0 h1 h1)
theorem brk_right (ap : Apart n T1 T2) (h1 : 1 ≤ n) (k : Keeps n (T1 ++ T2) d) : Keeps n T2 d := by
  intro a ha b hb hag
  obtain ⟨x, y⟩ := k a (List.mem_append_right _ ha) b (List.mem_append_right _ hb) hag
  refine ⟨x, fun e => ?_⟩
  rcases List.mem_append.mp (y e) with q | q
  · have := mix_cel (R := d.R) (a := a) (b := b) (show 0 < n from h1)
    by_cases z : 0 ∈ d.R
    · rw [if_pos z] at this
      exact absurd this (ap _ q a ha 0 0 h1 h1)
    · rw [if_neg z] at this
      exact absurd this (ap _ q b hb 0 0 h1 h1)
  · exact q
end
end Nr
/-! Walks: picked, agree, parts_of, told_value, first_row, part_row, _law_pick. -/
namespace Nr
open PySem PySem.Spec L2
open PyProof.Rows hiding St

abbrev natsT (cs : List Nat) : D := .tup (cs.map fun (c : Nat) => .int (c : Int))
def kindS (d : Dep) : Str := if d.st = true then "settles" else "deals"
def depD (d : Dep) : D := .tup [.str (kindS d), .int 0, natsT d.L, natsT d.R]
def pick (r : Row) (cs : List Nat) : Row := cs.map fun c => cel r c
theorem pick_eq {a b : Row} {cs : List Nat} : pick a cs = pick b cs ↔ agr a b cs := by
  unfold pick agr
  induction cs with
  | nil => simp
  | cons c cs ih => simp [ih]
theorem sh_ints (ns : List Int) : Sh (.ints ns) := by
  have h1 : ∀ ns : List Int, PyData.canLayAll0 (toPyL (ns.map D.int)) = true := fun ns => by
    induction ns with
    | nil => rfl
    | cons n ns ih => rw [List.map_cons, toPyL, PyData.canLayAll0, ih]; rfl
  have h2 : ∀ ns : List Int, PyData.depthAll (toPyL (ns.map D.int)) ≤ 1 := fun ns => by
    induction ns with
    | nil => simp [toPyL, PyData.depthAll]
    | cons x a ih => simp [toPyL, PyData.depthAll, toPy, PyData.depth]; exact ih
  unfold Sh SeqAt.shaped
  rw [Bool.and_eq_true]
  refine ⟨?_, decide_eq_true ?_⟩
  · show PyData.canLay0 (.tuple (toPyL (ns.map D.int))) = true
    rw [PyData.canLay0]
    exact h1 ns
  · show PyData.depth (.tuple (toPyL (ns.map D.int))) ≤ 64
    rw [PyData.depth]
    have := h2 ns
    omega
section
variable {X : Cx} {e elt iter c : Expr} {σ : L2.St} {H : Hp} {d d' : D} {ds ds' : List D} {scope : Scope} {x : Str} {p pos : Pos}
theorem EV.to (h : EV X e σ H d) (q : d = d') : EV X e σ H d' := q ▸ h
theorem EL.to (h : EL X e σ H ds) (q : ds = ds') : EL X e σ H ds' := q ▸ h
theorem ET.to {t t' : Bool} (h : ET X e σ H t) (q : t = t') : ET X e σ H t' := q ▸ h
/-- [elt for x in nats] -/
theorem el_mapN {cs : List Nat} (j : Nat) (f : Nat → D) (hN : X.N.Nodup) (ok : BlkOk X.N X.env.scope scope [(x, j)]) (hi : Src X (.Name x p) iter σ H (cs.map fun (c : Nat) => .int (c : Int))) (hl : cs.length ≤ 1000)
    (turn : ∀ c ∈ cs, ∀ H1, Same H H1 → ∀ b, EV (XB X scope b) elt ((σ.set j none).set j (some (.int (c : Int)))) H1 (f c)) (hc : X.calm = true := by rfl) (hg : ∀ b, PG (XB X scope b) (.Name x p) (gName j) := by exact fun b => pg_name (by assumption) rfl (Or.inl rfl))
    (hs : ∀ x, foldedSetIterable iter X.env x = pure x := by intro _; rfl) : ELS X (.ListComp elt [⟨.Name x p, iter, [], 0⟩] scope pos) σ H (cs.map f) := by
  refine (el_map j (fun d => match d with | .int i => f i.toNat | _ => .non) hc hN ok hi hg (by rw [List.length_map]; exact Nat.le_trans hl (by decide)) (fun d hd v H1 s1 rv b => ?_) hs).to ?_
  · obtain ⟨c, hcs, rfl⟩ := List.mem_map.mp hd
    rw [show v = V.int (c : Int) from rv]
    exact turn c hcs H1 s1 b
  · rw [List.map_map]
    rfl
theorem el_filterN {cs : List Nat} (j : Nat) (k : Nat → Bool) (f : Nat → D) (hN : X.N.Nodup) (ok : BlkOk X.N X.env.scope scope [(x, j)]) (hi : Src X (.Name x p) iter σ H (cs.map fun (c : Nat) => .int (c : Int))) (hl : cs.length ≤ 1000)
    (turn : ∀ i ∈ cs, ∀ H1, Same H H1 → ∀ b, ET (XB X scope b) c ((σ.set j none).set j (some (.int (i : Int)))) H1 (k i) ∧ (k i = true → EV (XB X scope b) elt ((σ.set j none).set j (some (.int (i : Int)))) H1 (f i))) (hc : X.calm = true := by rfl) (hg : ∀ b, PG (XB X scope b) (.Name x p) (gName j) := by exact fun b => pg_name (by assumption) rfl (Or.inl rfl))
    (hs : ∀ x, foldedSetIterable iter X.env x = pure x := by intro _; rfl) : ELS X (.ListComp elt [⟨.Name x p, iter, [c], 0⟩] scope pos) σ H ((cs.filter k).map f) := by
  refine (el_filter j (fun d => match d with | .int i => k i.toNat | _ => false) (fun d => match d with | .int i => f i.toNat | _ => .non) hc hN ok hi hg (by rw [List.length_map]; exact Nat.le_trans hl (by decide)) (fun d hd v H1 s1 rv b => ?_) hs).to ?_
  · obtain ⟨c, hcs, rfl⟩ := List.mem_map.mp hd
    rw [show v = V.int (c : Int) from rv]
    exact turn c hcs H1 s1 b
  · rw [List.filter_map, List.map_map]
    rfl
/-- [elt for x in rows] -/
theorem el_mapR {rows : List Row} (j : Nat) (f : Row → D) (hN : X.N.Nodup) (ok : BlkOk X.N X.env.scope scope [(x, j)]) (hi : Src X (.Name x p) iter σ H (rows.map D.ints)) (hl : rows.length ≤ 1000)
    (turn : ∀ r ∈ rows, ∀ v H1, Same H H1 → Rep H1 (.ints r) v → ∀ b, EV (XB X scope b) elt ((σ.set j none).set j (some v)) H1 (f r)) (hc : X.calm = true := by rfl) (hg : ∀ b, PG (XB X scope b) (.Name x p) (gName j) := by exact fun b => pg_name (by assumption) rfl (Or.inl rfl))
    (hs : ∀ x, foldedSetIterable iter X.env x = pure x := by intro _; rfl) : ELS X (.ListComp elt [⟨.Name x p, iter, [], 0⟩] scope pos) σ H (rows.map f) := by
  have un : ∀ r : Row, (fun d : D => match d with | .tup ds => f (ds.map fun d => match d with | .int i => i | _ => 0) | _ => .non) (.ints r) = f r := fun r => by
    show f ((r.map D.int).map _) = f r
    rw [List.map_map]
    congr 1
    exact List.map_id r
  refine (el_map j (fun d => match d with | .tup ds => f (ds.map fun d => match d with | .int i => i | _ => 0) | _ => .non) hc hN ok hi hg (by rw [List.length_map]; exact Nat.le_trans hl (by decide)) (fun d hd v H1 s1 rv b => ?_) hs).to ?_
  · obtain ⟨r, hr, rfl⟩ := List.mem_map.mp hd
    exact (turn r hr v H1 s1 rv b).to (un r).symm
  · rw [List.map_map]
    exact List.map_congr_left fun r _ => un r
/-- [elt for x in ints] -/
theorem el_mapI {is : List Int} (j : Nat) (f : Int → D) (hN : X.N.Nodup) (ok : BlkOk X.N X.env.scope scope [(x, j)]) (hi : Src X (.Name x p) iter σ H (is.map D.int)) (hl : is.length ≤ 1000)
    (turn : ∀ i ∈ is, ∀ H1, Same H H1 → ∀ b, EV (XB X scope b) elt ((σ.set j none).set j (some (.int i))) H1 (f i)) (hc : X.calm = true := by rfl) (hg : ∀ b, PG (XB X scope b) (.Name x p) (gName j) := by exact fun b => pg_name (by assumption) rfl (Or.inl rfl))
    (hs : ∀ x, foldedSetIterable iter X.env x = pure x := by intro _; rfl) : ELS X (.ListComp elt [⟨.Name x p, iter, [], 0⟩] scope pos) σ H (is.map f) := by
  refine (el_map j (fun d => match d with | .int i => f i | _ => .non) hc hN ok hi hg (by rw [List.length_map]; exact Nat.le_trans hl (by decide)) (fun d hd v H1 s1 rv b => ?_) hs).to ?_
  · obtain ⟨c, hcs, rfl⟩ := List.mem_map.mp hd
    rw [show v = V.int c from rv]
    exact turn c hcs H1 s1 b
  · rw [List.map_map]
    rfl
theorem leafNB_nats (cs : List Nat) : ∀ e ∈ cs.map (fun (c : Nat) => D.int (c : Int)), LeafNB e = true := fun e he => by
  obtain ⟨c, _, rfl⟩ := List.mem_map.mp he
  rfl
theorem mem_nats {c : Nat} {cs : List Nat} : D.int (c : Int) ∈ cs.map (fun (c : Nat) => D.int (c : Int)) ↔ c ∈ cs := by
  rw [List.mem_map]
  constructor
  · rintro ⟨a, ha, e⟩
    have : (a : Int) = c := D.int.inj e
    rw [← Int.ofNat.inj this]
    exact ha
  · exact fun h => ⟨c, h, rfl⟩
theorem ev_m1 {p1 p2 : Pos} : EV X (.UnaryOp .USub (.Constant (.int 1) 0 p1) p2) σ H (.int (-1)) := fun H1 s => we (pe_un un_neg pe_int) ⟨1, rfl, Same.refl _, rfl⟩
theorem ev_mulN {a b : Expr} {i j : Nat} (ha : EV X a σ H (.int (i : Int))) (hb : EV X b σ H (.int (j : Int))) (hi : i ≤ 1000) : EV X (.BinOp a .Mult b pos) σ H (.int ((i : Int) * (j : Int))) :=
  ev_op op_mul ha hb fun x y H1 _ rx ry Q q => ⟨(i : Int), (j : Int), rx, ry, .inl ⟨by omega, by omega⟩, q _ _ (Same.refl _) rfl⟩
/-- a column among columns -/
theorem et_inN {a b : Expr} {i : Nat} {cs : List Nat} (ha : EV X a σ H (.int (i : Int))) (hb : EV X b σ H (natsT cs)) (hm : behindInMarks .In b = false := by rfl) : ET X (.Compare a [.In] [b] pos) σ H (decide (i ∈ cs)) :=
  et_inT ha hb rfl (leafNB_nats cs) (by rw [decide_eq_true_iff]; exact mem_nats.symm) hm
theorem ev_inN {a b : Expr} {i : Nat} {cs : List Nat} (ha : EV X a σ H (.int (i : Int))) (hb : EV X b σ H (natsT cs)) (hm : behindInMarks .In b = false := by rfl) : EV X (.Compare a [.In] [b] pos) σ H (.bl (decide (i ∈ cs))) :=
  ev_inT ha hb rfl (leafNB_nats cs) (by rw [decide_eq_true_iff]; exact mem_nats.symm) hm
theorem et_ninN {a b : Expr} {i : Nat} {cs : List Nat} (ha : EV X a σ H (.int (i : Int))) (hb : EV X b σ H (natsT cs)) (hm : behindInMarks .NotIn b = false := by rfl) : ET X (.Compare a [.NotIn] [b] pos) σ H (!decide (i ∈ cs)) :=
  et_ninT ha hb rfl (leafNB_nats cs) (by rw [decide_eq_true_iff]; exact mem_nats.symm) hm
end
/-- no name of the top hides a builtin -/
structure Bi (mg : Str → Option Value) : Prop where
  all : mg "all" = none
  enum : mg "enumerate" = none
  int : mg "int" = none
  isi : mg "isinstance" = none
  bool : mg "bool" = none
  len : mg "len" = none
  list : mg "list" = none
  max : mg "max" = none
  range : mg "range" = none
  set : mg "set" = none
  sorted : mg "sorted" = none
  tuple : mg "tuple" = none
theorem two_of {α : Type} {l : List α} (h : l.length = 2) : ∃ a b, l = [a, b] := match l, h with
  | [a, b], _ => ⟨a, b, rfl⟩
theorem natsT_eq (cs : List Nat) : natsT cs = .ints (cs.map fun (c : Nat) => (c : Int)) := by
  unfold natsT D.ints
  rw [List.map_map]
  rfl
section
variable {P : Program} {w : World} {K : PySem.W.Frag} {mg : Str → Option Value} {base : Heap} {f : Addr} {fd : FuncData}
/-- picked(row, columns) -/
def rPicked (ds : List D) (d : D) : Prop := ∃ (row : Row) (cs : List Nat), ds = [.ints row, natsT cs] ∧ (∀ c ∈ cs, c < row.length) ∧ cs.length ≤ 1000 ∧ d = .ints (pick row cs)
theorem ints_at {row : Row} {c : Nat} (h : c < row.length) : (row.map D.int)[c]? = some (.int (cel row c)) := by
  unfold cel
  rw [List.getElem?_map, List.getD_eq_getElem?_getD, List.getElem?_eq_getElem h]
  rfl
theorem scPicked : FnScope ["row", "columns", "column"] ["row", "columns"] (defScope sPicked) := ⟨rfl, rfl, rfl, by decide +kernel, rfl, by decide +kernel, by decide +kernel⟩
theorem ok_picked (F : FnP K "picked" "picked" sPicked f fd) (B : Bi mg) : FnOk P w K mg base CX0 1 f fd ["row", "columns"] (spR 2 rPicked) := by
  refine okR F scPicked fun cdv A outer s H vs ds d E D hr rl hrd hq => ?_
  obtain ⟨row, cs, rfl, hc, hn, rfl⟩ := hrd
  obtain ⟨v1, _, rfl, r1, v2, _, rfl, r2, hnil⟩ := rl
  obtain rfl := hnil
  have nd := scPicked.nd
  refine wone (ws_retV (EV.to (ev_tuple (ELS.el (el_mapN 2 (fun c => .int (cel row c)) nd (blkOk_by (N := ["row", "columns", "column"]) (sc := defScope sPicked) (by decide +kernel)) (src_tup (ev_name 1 rfl r2)) hn
      (fun c hcs H1 s1 b => ev_ixT (i := c) (ev_name 0 rfl (r1.mono s1)) (ev_name 2 rfl rfl) (ints_at (hc c hcs)) (fun _ _ => rfl)))) rfl B.tuple) ?_) hq)
  rw [D.ints, pick, List.map_map]
  rfl
theorem scLawPick : FnScope ["_law_row", "_law_columns", "_law_column"] ["_law_row", "_law_columns"] (defScope sLawPick) := ⟨rfl, rfl, rfl, by decide +kernel, rfl, by decide +kernel, by decide +kernel⟩
theorem ok_lawPick (F : FnP K "_law_pick" "_law_pick" sLawPick f fd) (B : Bi mg) : FnOk P w K mg base CX0 1 f fd ["_law_row", "_law_columns"] (spR 2 rPicked) := by
  refine okR F scLawPick fun cdv A outer s H vs ds d E D hr rl hrd hq => ?_
  obtain ⟨row, cs, rfl, hc, hn, rfl⟩ := hrd
  obtain ⟨v1, _, rfl, r1, v2, _, rfl, r2, hnil⟩ := rl
  obtain rfl := hnil
  have nd := scLawPick.nd
  refine wone (ws_retV (EV.to (ev_tuple (ELS.el (el_mapN 2 (fun c => .int (cel row c)) nd (blkOk_by (N := ["_law_row", "_law_columns", "_law_column"]) (sc := defScope sLawPick) (by decide +kernel)) (src_tup (ev_name 1 rfl r2)) hn
      (fun c hcs H1 s1 b => ev_ixT (i := c) (ev_name 0 rfl (r1.mono s1)) (ev_name 2 rfl rfl) (ints_at (hc c hcs)) (fun _ _ => rfl)))) rfl B.tuple) ?_) hq)
  rw [D.ints, pick, List.map_map]
  rfl
/-- agree(one, other, columns) -/
def rAgree (ds : List D) (d : D) : Prop := ∃ (a b : Row) (cs : List Nat), ds = [.ints a, .ints b, natsT cs] ∧ (∀ c ∈ cs, c < a.length) ∧ (∀ c ∈ cs, c < b.length) ∧ cs.length ≤ 1000 ∧ d = .bl (decide (pick a cs = pick b cs))
theorem scAgree : FnScope ["one", "other", "columns"] ["one", "other", "columns"] (defScope sAgree) := ⟨rfl, rfl, rfl, by decide +kernel, rfl, by decide +kernel, by decide +kernel⟩
theorem ok_agree (F : FnP K "agree" "agree" sAgree f fd) (G : Ok P w K mg base 1 "picked" (spR 2 rPicked)) : FnOk P w K mg base CX0 2 f fd ["one", "other", "columns"] (spR 3 rAgree) := by
  refine okR F scAgree fun cdv A outer s H vs ds d E D hr rl hrd hq => ?_
  obtain ⟨a, b, cs, rfl, hc1, hc2, hn, rfl⟩ := hrd
  obtain ⟨v1, _, rfl, r1, v2, _, rfl, r2, v3, _, rfl, r3, hnil⟩ := rl
  obtain rfl := hnil
  refine wone (ws_retV (ev_eqD hr.units (ev_call G hr rfl (ea_cons (ev_name 0 rfl r1) (ea_cons (ev_name 2 rfl r3) ea_nil)) rfl ⟨a, cs, rfl, hc1, hn, rfl⟩) (ev_call G hr rfl (ea_cons (ev_name 1 rfl r2) (ea_cons (ev_name 2 rfl r3) ea_nil)) rfl ⟨b, cs, rfl, hc2, hn, rfl⟩) (sh_ints _) (sh_ints _) (noB_ints _) (noB_ints _) ?_) hq)
  rw [decide_eq_true_iff]
  exact ⟨fun e => by rw [e], fun e => ints_inj e⟩
/-- told_value(number) -/
def rTold (ds : List D) (d : D) : Prop := ∃ i : Int, ds = [.int i] ∧ d = .int (-1 - i)
theorem scTold : FnScope ["number"] ["number"] (defScope sToldValue) := ⟨rfl, rfl, rfl, by decide +kernel, rfl, by decide +kernel, by decide +kernel⟩
theorem ok_told (F : FnP K "told_value" "told_value" sToldValue f fd) : FnOk P w K mg base CX0 1 f fd ["number"] (spR 1 rTold) := by
  refine okR F scTold fun cdv A outer s H vs ds d E D hr rl hrd hq => ?_
  obtain ⟨i, rfl, rfl⟩ := hrd
  obtain ⟨v1, _, rfl, r1, hnil⟩ := rl
  obtain rfl := hnil
  exact wone (ws_retV (ev_sub ev_m1 (ev_name 0 rfl r1)) hq)
/-- first_row(width) -/
def rFirst (ds : List D) (d : D) : Prop := ∃ n : Nat, ds = [.int (n : Int)] ∧ n ≤ 1000 ∧ d = .ints (firstR n)
theorem scFirst : FnScope ["width", "column"] ["width"] (defScope sFirstRow) := ⟨rfl, rfl, rfl, by decide +kernel, rfl, by decide +kernel, by decide +kernel⟩
theorem ok_first (F : FnP K "first_row" "first_row" sFirstRow f fd) (B : Bi mg) (G : Ok P w K mg base 1 "told_value" (spR 1 rTold)) : FnOk P w K mg base CX0 2 f fd ["width"] (spR 1 rFirst) := by
  refine okR F scFirst fun cdv A outer s H vs ds d E D hr rl hrd hq => ?_
  obtain ⟨n, rfl, hn, rfl⟩ := hrd
  obtain ⟨v1, _, rfl, r1, hnil⟩ := rl
  obtain rfl := hnil
  have nd := scFirst.nd
  refine wone (ws_retV (EV.to (ev_tuple (ELS.el (el_mapN 1 (fun c => .int (-1 - (c : Int))) nd (blkOk_by (N := ["width", "column"]) (sc := defScope sFirstRow) (by decide +kernel)) (src_range (ev_name 0 rfl r1) (by omega) rfl B.range) (by rw [List.length_range]; exact hn)
      (fun c hcs H1 s1 b => ev_call G hr rfl (ea_cons (ev_name 1 rfl rep_int) ea_nil) rfl ⟨_, rfl, rfl⟩))) rfl B.tuple) ?_) hq)
  rw [D.ints, firstR, List.map_map]
  rfl
/-- part_row(width, part, turn) -/
def rPartRow (ds : List D) (d : D) : Prop := ∃ (n : Nat) (part : List Nat) (t : Nat), ds = [.int (n : Int), natsT part, .int (t : Int)] ∧ n ≤ 1000 ∧ t ≤ 1000 ∧ d = .ints (partR n part t)
theorem scPartRow : FnScope ["width", "part", "turn", "column"] ["width", "part", "turn"] (defScope sPartRow) := ⟨rfl, rfl, rfl, by decide +kernel, rfl, by decide +kernel, by decide +kernel⟩
theorem ok_partRow (F : FnP K "part_row" "part_row" sPartRow f fd) (B : Bi mg) (G : Ok P w K mg base 1 "told_value" (spR 1 rTold)) : FnOk P w K mg base CX0 2 f fd ["width", "part", "turn"] (spR 3 rPartRow) := by
  refine okR F scPartRow fun cdv A outer s H vs ds d E D hr rl hrd hq => ?_
  obtain ⟨n, part, t, rfl, hn, ht, rfl⟩ := hrd
  obtain ⟨v1, _, rfl, r1, v2, _, rfl, r2, v3, _, rfl, r3, hnil⟩ := rl
  obtain rfl := hnil
  have nd := scPartRow.nd
  refine wone (ws_retV (EV.to (ev_tuple (ELS.el (el_mapN 3 (fun c => .int (-1 - (if c ∈ part then (c : Int) else ((n * t + c : Nat) : Int)))) nd (blkOk_by (N := ["width", "part", "turn", "column"]) (sc := defScope sPartRow) (by decide +kernel)) (src_range (ev_name 0 rfl r1) (by omega) rfl B.range) (by rw [List.length_range]; exact hn)
      (fun c hcs H1 s1 b => ev_call G hr rfl (ea_cons (ev_if (et_inN (ev_name 3 rfl rfl) (ev_name 1 rfl (r2.mono s1))) (fun e => ?_) fun e => ?_) ea_nil) rfl ⟨_, rfl, rfl⟩))) rfl B.tuple) ?_) hq)
  · rw [if_pos (of_decide_eq_true e)]
    exact ev_name 3 rfl rfl
  · rw [if_neg (of_decide_eq_false e)]
    exact EV.to (ev_add (ev_mulN (ev_name 0 rfl (r1.mono s1)) (ev_name 2 rfl (r3.mono s1)) hn) (ev_name 3 rfl rfl)) (by rw [Int.natCast_add, Int.natCast_mul])
  · rw [D.ints, partR, List.map_map]
    rfl
/-- parts_of(width, dependency) -/
def rPartsOf (ds : List D) (d : D) : Prop := ∃ (n : Nat) (dp : Dep), ds = [.int (n : Int), depD dp] ∧ dp.st = false ∧ n ≤ 1000 ∧ d = .tup [natsT (p1 n dp), natsT (p2 n dp)]
theorem scPartsOf : FnScope ["width", "dependency", "left", "right", "one", "column"] ["width", "dependency"] (defScope sPartsOf) := ⟨rfl, rfl, rfl, by decide +kernel, rfl, by decide +kernel, by decide +kernel⟩
theorem ok_partsOf (F : FnP K "parts_of" "parts_of" sPartsOf f fd) (B : Bi mg) : FnOk P w K mg base CX0 1 f fd ["width", "dependency"] (spR 2 rPartsOf) := by
  refine okR F scPartsOf fun cdv A outer s H vs ds d E D hr rl hrd hq => ?_
  obtain ⟨n, dp, rfl, hst, hn, rfl⟩ := hrd
  obtain ⟨v1, _, rfl, r1, v2, _, rfl, r2, hnil⟩ := rl
  obtain rfl := hnil
  have nd := scPartsOf.nd
  have ek : kindS dp = "deals" := by unfold kindS; rw [hst]; rfl
  refine wcons (ws_ifB _ (et_eqS (ev_ixT (i := 0) (ev_name 1 rfl r2) ev_int rfl (fun _ _ => rfl)) ev_str) (fun e => ?_) fun _ H1 s1 => wnil ?_)
  · rw [ek] at e
    exact absurd e (by decide)
  have r1 := r1.mono s1
  have r2 := r2.mono s1
  have hq : ∀ v H', Same H1 H' → Rep H' (.tup [natsT (p1 n dp), natsT (p2 n dp)]) v → D.rt v H' := fun v H' s r => hq v H' (s1.trans s) r
  clear s1
  refine wcons (ws_pair 2 3 rfl nd (ev_slT (ev_name 1 rfl r2) (eo_some ev_int) eo_none) fun v3 v4 H2 s2 r3 r4 => ?_)
  have r1 := r1.mono s2
  have hq : ∀ v H', Same H2 H' → Rep H' (.tup [natsT (p1 n dp), natsT (p2 n dp)]) v → D.rt v H' := fun v H' s r => hq v H' (s2.trans s) r
  clear s2
  refine wcons (ws_setL 4 (el_filterN 5 (fun c => decide (c ∈ dp.L) || decide (c ∈ dp.R)) (fun (c : Nat) => .int (c : Int)) nd (blkOk_by (N := ["width", "dependency", "left", "right", "one", "column"]) (sc := defScope sPartsOf) (by decide +kernel)) (src_range (ev_name 0 rfl r1) (by omega) rfl B.range) (by rw [List.length_range]; exact hn)
    (fun c hcs H3 s3 b => ⟨et_or (et_inN (ev_name 5 rfl rep_int) (ev_name 2 rfl (r3.mono s3))) fun _ => et_inN (ev_name 5 rfl rep_int) (ev_name 3 rfl (r4.mono s3)), fun _ => ev_name 5 rfl rep_int⟩)) fun l vs H3 hl s3 h3 rl => ?_)
  refine wone (ws_retV (ev_tup (ea_cons (EV.to (ev_tupleL (lv_name 4 rfl h3 rl) rfl B.tuple) ?_) (ea_cons (EV.to (ev_tuple (ELS.el (el_filterN 5 (fun c => decide (c ∈ dp.L) || !decide (c ∈ dp.R)) (fun (c : Nat) => .int (c : Int)) nd (blkOk_by (N := ["width", "dependency", "left", "right", "one", "column"]) (sc := defScope sPartsOf) (by decide +kernel)) (src_range (ev_name 0 rfl (r1.mono s3)) (by omega) rfl B.range) (by rw [List.length_range]; exact hn)
    (fun c hcs H4 s4 b => ⟨et_or (et_inN (ev_name 5 rfl rep_int) (ev_name 2 rfl ((r3.mono s3).mono s4))) fun _ => et_ninN (ev_name 5 rfl rep_int) (ev_name 3 rfl ((r4.mono s3).mono s4)), fun _ => ev_name 5 rfl rep_int⟩))) rfl B.tuple) ?_) ea_nil)) (by show 2 ≤ sizeLine; decide)) fun v H4 s4 r => hq v H4 (s3.trans s4) r)
  · unfold natsT p1
    congr 2
    exact List.filter_congr fun c _ => by rw [Bool.decide_or]
  · unfold natsT p2
    congr 2
    exact List.filter_congr fun c _ => by rw [Bool.decide_or, decide_not]
end
end Nr
/-! Loops over dicts of rows, locked while they run. -/
namespace Nr
open PySem PySem.Spec L2
open PyProof.Rows hiding St

theorem same_lock {H H' : Hp} {d : Addr} {od : Obj} {u : HO} (h : H d = some u) (s : Same (upd H d (.frz od u)) H') : Same H (upd H' d u) := fun a o e => by
  by_cases q : a = d
  · rw [q, h] at e
    rw [q, upd_same, e]
  · rw [upd_ne q]
    exact s a o (by rw [upd_ne q]; exact e)
section
variable {X : Cx} {e : Expr} {σ : L2.St} {H : Hp} {d : Addr} {xs : XS} {DE : Ends} {body : List Stmt} {pos apos cpos tpos pk pv : Pos} {kt : Nat} {kn vn : Str}
theorem mut_do {P : Program} {w : World} {d : Addr} {xs : XS} : Mut (some (DO P w d xs)) := trivial
/-- the loop's body never returns or breaks -/
abbrev NxE (N : L2.St → Hp → Prop) : Ends := ⟨N, fun _ _ => False, fun _ _ => False, N⟩
theorem ws_itemsX (ik iv : Nat) (hp : PassesOwn (model X.prog X.w) X.A X.env X.xe) (hc : X.calm = true) (hN : X.N.Nodup) (he : NV X e σ (.ref d)) (hd : IsD X H d xs) (hmu : Mut (some (DO X.prog X.w d xs)) := by trivial)
    (loop : ∀ od, ∃ Pv : Nat → L2.St → Hp → Prop, Pv 0 σ (upd H d (.frz od (DO X.prog X.w d xs))) ∧ (∀ i σ' H', Pv i σ' H' → H' d = some (.frz od (DO X.prog X.w d xs)) ∧ KeysAt H' xs) ∧
      (∀ i x σ' H' T, xs[i]? = some x → Pv i σ' H' → H' T = none → WSs X body (NxE (Pv (i + 1))) ((σ'.set ik (some (.ref x.2.1))).set iv (some x.2.2)) (upd H' T (.tup [.ref x.2.1, x.2.2]))) ∧
      ∀ σ' H', Pv xs.length σ' H' → DE.nx σ' (upd H' d (DO X.prog X.w d xs)))
    (hgt : PG X (.Tuple [.Name kn pk, .Name vn pv] kt tpos) (gTup X.K 2 (gCons (gName ik) (gCons (gName iv) gNil))))
    (hbase : attributeBase e "items" X.env (eval e X.env) = eval e X.env := by rfl) (hline : (apos.endLine == cpos.line) = true := by rfl) (hs : ∀ x, foldedSetIterable (.Call (.Attribute e "items" apos) [] [] cpos) X.env x = pure x := by intro _; rfl) :
    WS X (.For (.Tuple [.Name kn pk, .Name vn pv] kt tpos) (.Call (.Attribute e "items" apos) [] [] cpos) body [] pos) DE σ H := by
  refine ws (ps_lock (ps_for hp hc pi_w hgt pss_w hs)) ⟨d, _, hd.ob, hmu, fun od => ?_⟩
  obtain ⟨Pv, h0, hS, turn, fin⟩ := loop od
  refine wi_itemsX (he _ _ ⟨d, od, xs, rfl, hd.lock, ?_⟩) hbase hline
  refine ⟨fun i m σ H => m = xs.length - i ∧ i ≤ xs.length ∧ Pv i σ H, ⟨xs.length, by simp, Nat.zero_le _, h0⟩, ?_⟩
  rintro i m σ1 H1 ⟨rfl, hi, p⟩
  have hf : IsF X H1 d od xs := ⟨(hS _ _ _ p).1, (hS _ _ _ p).2⟩
  by_cases hlt : i < xs.length
  · refine .inr ⟨⟨hf, hlt⟩, Pv (i + 1), fun σ' H' p' => ⟨xs.length - (i + 1), by omega, rfl, hlt, p'⟩, fun x H' ⟨T, y, hy, ex, hT, eH⟩ => ?_⟩
    rw [ex, eH]
    refine ⟨T, _, rfl, SqT.of upd_same, rfl, _, _, rfl, _, _, rfl, rfl, ?_⟩
    exact (turn i y σ1 H1 T hy p hT).mono (fun _ _ z => z) (fun _ _ z => z.elim) (fun _ _ z => z.elim) fun _ _ z => z
  · have e : i = xs.length := by omega
    subst e
    exact .inl ⟨⟨hf, Nat.le_refl _⟩, (hS _ _ _ p).1, fin σ1 H1 p⟩
theorem ws_valsX (iv : Nat) (hp : PassesOwn (model X.prog X.w) X.A X.env X.xe) (hc : X.calm = true) (he : NV X e σ (.ref d)) (hd : IsD X H d xs) (hmu : Mut (some (DO X.prog X.w d xs)) := by trivial)
    (loop : ∀ od, ∃ Pv : Nat → L2.St → Hp → Prop, Pv 0 σ (upd H d (.frz od (DO X.prog X.w d xs))) ∧ (∀ i σ' H', Pv i σ' H' → H' d = some (.frz od (DO X.prog X.w d xs)) ∧ KeysAt H' xs) ∧
      (∀ i x σ' H', xs[i]? = some x → Pv i σ' H' → WSs X body (NxE (Pv (i + 1))) (σ'.set iv (some x.2.2)) H') ∧
      ∀ σ' H', Pv xs.length σ' H' → DE.nx σ' (upd H' d (DO X.prog X.w d xs)))
    (hgt : PG X (.Name vn pv) (gName iv))
    (hbase : attributeBase e "values" X.env (eval e X.env) = eval e X.env := by rfl) (hline : (apos.endLine == cpos.line) = true := by rfl) (hs : ∀ x, foldedSetIterable (.Call (.Attribute e "values" apos) [] [] cpos) X.env x = pure x := by intro _; rfl) :
    WS X (.For (.Name vn pv) (.Call (.Attribute e "values" apos) [] [] cpos) body [] pos) DE σ H := by
  refine ws (ps_lock (ps_for hp hc pi_w hgt pss_w hs)) ⟨d, _, hd.ob, hmu, fun od => ?_⟩
  obtain ⟨Pv, h0, hS, turn, fin⟩ := loop od
  refine wi_valsX (he _ _ ⟨d, od, xs, rfl, hd.lock, ?_⟩) hbase hline
  refine ⟨fun i m σ H => m = xs.length - i ∧ i ≤ xs.length ∧ Pv i σ H, ⟨xs.length, by simp, Nat.zero_le _, h0⟩, ?_⟩
  rintro i m σ1 H1 ⟨rfl, hi, p⟩
  have hf : IsF X H1 d od xs := ⟨(hS _ _ _ p).1, (hS _ _ _ p).2⟩
  by_cases hlt : i < xs.length
  · refine .inr ⟨⟨hf, hlt⟩, Pv (i + 1), fun σ' H' p' => ⟨xs.length - (i + 1), by omega, rfl, hlt, p'⟩, fun x H' ⟨eH, y, hy, ex⟩ => ?_⟩
    rw [ex, eH]
    exact (turn i y σ1 H1 hy p).mono (fun _ _ z => z) (fun _ _ z => z.elim) (fun _ _ z => z.elim) fun _ _ z => z
  · have e : i = xs.length := by omega
    subst e
    exact .inl ⟨⟨hf, Nat.le_refl _⟩, (hS _ _ _ p).1, fin σ1 H1 p⟩
theorem we_ev {σ : L2.St} {H : Hp} {e : Expr} {dd : D} {Q : VK} (h : EV X e σ H dd) (k : ∀ v H2, Same H H2 → Rep H2 dd v → Q v H2) : WE X e σ H Q := h.now.mono fun v H2 ⟨s, r⟩ => k v H2 s r
theorem we_el {σ : L2.St} {H : Hp} {e : Expr} {ds : List D} {Q : VK} (h : EL X e σ H ds) (k : ∀ l vs H2, H l = none → Same H H2 → H2 l = some (.lst vs) → RepL H2 ds vs → Q (.ref l) H2) : WE X e σ H Q := h.now.mono fun v H2 ⟨l, vs, e, hn, s, h2, r⟩ => by rw [e]; exact k l vs H2 hn s h2 r
theorem ev_all {σ : L2.St} {H : Hp} {e : Expr} {bs : List Bool} {p pos : Pos} (h : EL X e σ H (bs.map D.bl)) (hc : X.calm = true) (hg : Gl X "all") (hm : X.mg "all" = none) (he : starEach [e] X.env = (false, eval e X.env) :: starEach [] X.env := by rfl) : EV X (.Call (.Name "all" p) [e] [] pos) σ H (.bl (bs.all id)) := fun H1 s => by
  refine we (pe_callB (cr_all hc) hg hm (by decide +kernel) (pa_cons pe_w pa_nil he) (by decide) (by decide) he rfl) ?_
  refine (h H1 s).mono fun v H2 ⟨l, vs, e0, hn, s2, h2, r⟩ => ?_
  rw [e0]
  have ev : ∀ {bs : List Bool} {vs : List V}, RepL H2 (bs.map D.bl) vs → vs = bs.map V.bl := fun {bs} => by
    induction bs with
    | nil => intro vs r; exact r
    | cons b bs ih =>
      intro vs r
      obtain ⟨v, vr, e, e1, e2⟩ := r
      rw [e, show v = V.bl b from e1, ih e2]
      rfl
  exact ⟨l, bs, rfl, by rw [← ev r]; exact SqL.of h2, s2, rfl⟩
end
end Nr
/-! missing_rows. -/
namespace Nr
open PySem PySem.Spec L2
open PyProof.Rows hiding St

/-! ### what it computes -/
abbrev kx (r : Row) : LK := r.map Leaf.num
def kat (k : LK) (c : Nat) : Leaf := k.getD c .none
def fits (k : LK) (r : Row) (p : List Nat) : Prop := ∀ c ∈ p, kat k c = .none ∨ kat k c = .num (cel r c)
instance (k : LK) (r : Row) (p : List Nat) : Decidable (fits k r p) := by unfold fits; infer_instance
def mkk (n : Nat) (p : List Nat) (k : LK) (r : Row) : LK := (List.range n).map fun c => if c ∈ p then .num (cel r c) else kat k c
theorem mkk_len (n : Nat) (p : List Nat) (k : LK) (r : Row) : (mkk n p k r).length = n := by unfold mkk; rw [List.length_map, List.length_range]
theorem mkk_at {n c : Nat} {p : List Nat} {k : LK} {r : Row} (h : c < n) : kat (mkk n p k r) c = if c ∈ p then .num (cel r c) else kat k c := by
  unfold mkk kat
  rw [List.getD_eq_getElem?_getD, List.getElem?_map, List.getElem?_range h]
  rfl
theorem kext {n : Nat} {a b : LK} (ha : a.length = n) (hb : b.length = n) (h : ∀ c < n, kat a c = kat b c) : a = b := by
  refine List.ext_getElem (ha.trans hb.symm) fun i h1 h2 => ?_
  have := h i (by omega)
  unfold kat at this
  rw [List.getD_eq_getElem?_getD, List.getD_eq_getElem?_getD, List.getElem?_eq_getElem h1, List.getElem?_eq_getElem h2] at this
  exact this
theorem kat_kx {r : Row} {c : Nat} (h : c < r.length) : kat (kx r) c = .num (cel r c) := by
  unfold kat cel
  rw [List.getD_eq_getElem?_getD, List.getElem?_map, List.getD_eq_getElem?_getD, List.getElem?_eq_getElem h]
  rfl
theorem kx_inj {a b : Row} (h : kx a = kx b) : a = b := map_inj (fun x y e => Leaf.num.inj e) h
/-- one part more -/
def Nxt (n : Nat) (rows : List Row) (p : List Nat) (K : LK → Prop) (k' : LK) : Prop := ∃ k r, K k ∧ r ∈ rows ∧ fits k r p ∧ k' = mkk n p k r
/-- fits and mkk look at the part's cells alone -/
theorem fits_pick {k : LK} {r s : Row} {p : List Nat} (h : pick r p = pick s p) : fits k r p ↔ fits k s p := by
  have := pick_eq.mp h
  exact ⟨fun f c hc => by rw [← this c hc]; exact f c hc, fun f c hc => by rw [this c hc]; exact f c hc⟩
theorem mkk_pick {n : Nat} {k : LK} {r s : Row} {p : List Nat} (h : pick r p = pick s p) : mkk n p k r = mkk n p k s := by
  have := pick_eq.mp h
  unfold mkk
  refine List.map_congr_left fun c _ => ?_
  by_cases q : c ∈ p
  · rw [if_pos q, if_pos q, this c q]
  · rw [if_neg q, if_neg q]
/-- both parts of a dependency that deals -/
theorem nxt2 {n : Nat} {rows : List Row} {d : Dep} (hr : ∀ r ∈ rows, r.length = n) (hd : DepOk n d) (k : LK) :
    Nxt n rows (p2 n d) (Nxt n rows (p1 n d) (· = List.replicate n .none)) k ↔ ∃ a ∈ rows, ∃ b ∈ rows, agr a b d.L ∧ k = kx (mix n d.R a b) := by
  have e0 : ∀ c, kat (List.replicate n Leaf.none) c = .none := fun c => by
    unfold kat
    rw [List.getD_eq_getElem?_getD]
    by_cases h : c < n
    · rw [List.getElem?_replicate, if_pos h]; rfl
    · rw [List.getElem?_replicate, if_neg h]; rfl
  have kk : ∀ a b : Row, agr a b d.L → mkk n (p2 n d) (mkk n (p1 n d) (List.replicate n .none) a) b = kx (mix n d.R a b) := fun a b hL => by
    refine kext (n := n) (mkk_len ..) (by rw [List.length_map, mix_len]) fun c hc => ?_
    rw [mkk_at hc, mkk_at hc, kat_kx (by rw [mix_len]; exact hc), mix_cel hc]
    by_cases q : c ∈ d.R
    · rw [if_pos q]
      by_cases z : c ∈ d.L
      · rw [if_pos ((p2_mem hc).mpr (.inl z)), hL c z]
      · rw [if_neg (fun y => ((p2_mem hc).mp y).elim z fun y => y q), if_pos ((p1_mem hc).mpr (.inr q))]
    · rw [if_neg q, if_pos ((p2_mem hc).mpr (.inr q))]
  constructor
  · rintro ⟨k1, b, ⟨k0, a, rfl, ha, _, rfl⟩, hb, hf, rfl⟩
    have hL : agr a b d.L := fun c hc => by
      have hcn := hd.1 c hc
      have := hf c ((p2_mem hcn).mpr (.inl hc))
      rw [mkk_at hcn, if_pos ((p1_mem hcn).mpr (.inl hc))] at this
      rcases this with e | e
      · cases e
      · exact Leaf.num.inj e
    exact ⟨a, ha, b, hb, hL, kk a b hL⟩
  · rintro ⟨a, ha, b, hb, hL, rfl⟩
    refine ⟨_, b, ⟨_, a, rfl, ha, fun c _ => .inl (e0 c), rfl⟩, hb, fun c hc => ?_, (kk a b hL).symm⟩
    have hcn : c < n := by
      unfold p2 at hc
      exact List.mem_range.mp (List.mem_filter.mp hc).1
    rw [mkk_at hcn]
    by_cases q : c ∈ p1 n d
    · rw [if_pos q]
      rcases (p1_mem hcn).mp q with z | z
      · exact .inr (by rw [hL c z])
      · rcases (p2_mem hcn).mp hc with y | y
        · exact .inr (by rw [hL c y])
        · exact absurd z y
    · rw [if_neg q, e0]
      exact .inl rfl

theorem flat_non (n : Nat) : D.tup (List.replicate n [D.non]).flatten = keyD (List.replicate n .none) := by
  unfold keyD
  congr 1
  rw [List.map_replicate]
  induction n with
  | zero => rfl
  | succ n ih => rw [List.replicate_succ, List.flatten_cons, ih, List.replicate_succ]; rfl

/-- the keys of found behind i parts -/
def KPi (n : Nat) (rows : List Row) (d : Dep) : Nat → LK → Prop
  | 0 => (· = List.replicate n .none)
  | 1 => Nxt n rows (p1 n d) (· = List.replicate n .none)
  | _ + 2 => Nxt n rows (p2 n d) (Nxt n rows (p1 n d) (· = List.replicate n .none))
theorem LV.to {X : Cx} {e : Expr} {σ : L2.St} {H : Hp} {ds ds' : List D} (h : LV X e σ H ds) (q : ds = ds') : LV X e σ H ds' := q ▸ h

/-! ### the walk -/
def spMissing (P : Program) (w : World) : Sp := fun vs H Q _ => ∃ (n : Nat) (l : Addr) (xs : List V) (rows : List Row) (dp : Dep) (v3 : V), vs = [.int (n : Int), .ref l, v3] ∧ H l = some (.lst xs) ∧ RepL H (rows.map D.ints) xs ∧ Rep H (.tup [natsT (p1 n dp), natsT (p2 n dp)]) v3 ∧
  DepOk n dp ∧ (∀ r ∈ rows, r.length = n) ∧ 1 ≤ n ∧ n ≤ 3 ∧ rows.length ≤ 8 ∧
  ∀ D (zs : XS) (miss : List Row) H', Same H H' → H D = none → H' D = some (DO P w D zs) → KeysAt H' zs → zs.map (·.1) = miss.map kx → miss.Nodup → (∀ r, r ∈ miss ↔ r ∉ rows ∧ ∃ a ∈ rows, ∃ b ∈ rows, agr a b dp.L ∧ r = mix n dp.R a b) → Q (.ref D) H'
abbrev nMissing : List Str := ["width", "rows", "parts", "found", "part", "firsts", "row", "longer", "values", "chosen", "more", "known", "column"]
theorem scMissing : FnScope nMissing ["width", "rows", "parts"] (defScope sMissingRows) := ⟨rfl, rfl, rfl, by decide +kernel, rfl, by decide +kernel, by decide +kernel⟩
section
variable {P : Program} {w : World} {K : PySem.W.Frag} {mg : Str → Option Value} {base : Heap} {f : Addr} {fd : FuncData}
/-! the loops' bodies, by their places -/
def fb (s : Stmt) : List Stmt := match s with
  | .For _ _ b _ _ => b
  | _ => []
abbrev mB1 : List Stmt := fb ((defBody sMissingRows).getD 1 (.Pass ⟨0, 0, 0, 0⟩))
abbrev mB2 : List Stmt := fb (mB1.getD 1 (.Pass ⟨0, 0, 0, 0⟩))
abbrev mB3 : List Stmt := fb (mB1.getD 3 (.Pass ⟨0, 0, 0, 0⟩))
abbrev mB4 : List Stmt := fb (mB3.getD 0 (.Pass ⟨0, 0, 0, 0⟩))
def TupV (H : Hp) (v : V) (m : Nat) : Prop := ∃ a vs, v = .ref a ∧ H a = some (.tup vs) ∧ vs.length ≤ m
theorem TupV.tm {H H' : Hp} {v : V} {m : Nat} (h : TupV H v m) (t : Tm H H') : TupV H' v m := let ⟨a, vs, e, h1, h2⟩ := h; ⟨a, vs, e, t _ _ h1, h2⟩
/-- found, longer: keys and tuples -/
structure FdAt (H : Hp) (xs : XS) (n m : Nat) : Prop where
  ks : KeysAt H xs
  ln : ∀ x ∈ xs, x.1.length = n
  tv : ∀ x ∈ xs, TupV H x.2.2 m
theorem FdAt.tm {H H' : Hp} {xs : XS} {n m : Nat} (h : FdAt H xs n m) (t : Tm H H') : FdAt H' xs n m := ⟨h.ks.tm t, h.ln, fun x hx => (h.tv x hx).tm t⟩
/-- firsts: a row for each pick -/
structure FiAt (H : Hp) (xs : XS) (rows : List Row) (p : List Nat) : Prop where
  ks : KeysAt H xs
  rw_ : ∀ x ∈ xs, ∃ r ∈ rows, x.1 = kx (pick r p) ∧ Rep H (.ints r) x.2.2
theorem FiAt.tm {H H' : Hp} {xs : XS} {rows : List Row} {p : List Nat} (h : FiAt H xs rows p) (t : Tm H H') : FiAt H' xs rows p := ⟨h.ks.tm t, fun x hx => let ⟨r, hr, e, q⟩ := h.rw_ x hx; ⟨r, hr, e, q.tm t⟩⟩
theorem leD1_inj {a b : Leaf} (h : leD1 a = leD1 b) : a = b := by
  cases a <;> cases b <;> simp [leD1] at h <;> first | rfl | (rw [h])
section
variable {P : Program} {w : World} {K : PySem.W.Frag} {mg : Str → Option Value} {base : Heap} {f : Addr}
abbrev XM (P : Program) (w : World) (K : PySem.W.Frag) (mg : Str → Option Value) (base : Heap) (f : Addr) (cdv : Value) (A : Around) (outer : List Env) (s : Shared) (H : Hp) (E : XK) : Cx := (cxOf CX0 P w K mg base nMissing "missing_rows" (defScope sMissingRows) f cdv A outer s H E).nox
/-- what stands in longer behind the pair (k, r) -/
theorem miss4 {cdv : Value} {A : Around} {outer : List Env} {s : Shared} {H0 : Hp} {E : XK} (B : Bi mg) (hu : A.units + 65 < cLine) {N : L2.St → Hp → Prop} {n : Nat} {v1 v2 v3 v5 : V} {σ : L2.St} {o10 o11 o12 : Option V} {lo : Addr} {lxs : XS} {m : Nat} {k : LK} {r : Row} {p : List Nat} {vp vk vr vc : V} {H : Hp}
    (hσ : σ = [some (.int (n : Int)), some v1, some v2, some v3, some vp, some v5, some vr, some (.ref lo), some vk, some vc, o10, o11, o12])
    (hp : Rep H (natsT p) vp) (hpl : p.length ≤ 1000) (hpn : ∀ c ∈ p, c < n) (hk : Rep H (keyD k) vk) (hkl : k.length = n) (hr : Rep H (.ints r) vr) (hrl : r.length = n) (hn : n ≤ 3) (hc : TupV H vc m) (hm : m ≤ 5) (hlo : H lo = some (DO P w lo lxs)) (hf : FdAt H lxs n (m + 1)) (hll : lxs.length ≤ 1000)
    (q : ∀ H' lxs' o10', (∀ a u, H a = some u → a ≠ lo → H' a = some u) → Tm H H' → H' lo = some (DO P w lo lxs') → FdAt H' lxs' n (m + 1) → lxs'.length ≤ lxs.length + 1 → lxs'.map (·.1) = (if fits k r p then addN (lxs.map (·.1)) (mkk n p k r) else lxs.map (·.1)) →
      N [some (.int (n : Int)), some v1, some v2, some v3, some vp, some v5, some vr, some (.ref lo), some vk, some vc, o10', o11, o12] H') : WSs (XM P w K mg base f cdv A outer s H0 E) mB4 (NxE N) σ H := by
  have nd := scMissing.nd
  subst hσ
  refine wone ?_
  have hix : ∀ {c : Nat}, c < n → ((k.map leD1)[c]? = some (leD1 (kat k c))) := fun {c} hc => by
    unfold kat
    rw [List.getElem?_map, List.getD_eq_getElem?_getD, List.getElem?_eq_getElem (by omega)]
    rfl
  have lf : ∀ x : Leaf, LeafNB (leD1 x) = true := fun x => by cases x <;> rfl
  have tm0 : ∀ {H' : Hp}, Same H H' → Tm H H' := Same.tm
  refine ws_ifB (decide (fits k r p)) ?_ (fun e H1 s1 => ?_) fun e H1 s1 => wnil ?_
  · refine ET.to (et_val (ev_all (ELS.el ((el_mapN 12 (fun c => .bl (decide (kat k c = .none ∨ kat k c = .num (cel r c)))) nd (blkOk_by (N := nMissing) (sc := defScope sMissingRows) (by decide +kernel)) (src_tup (ev_name 4 rfl hp)) hpl ?_).to (ds' := (p.map fun c => decide (kat k c = .none ∨ kat k c = .num (cel r c))).map D.bl) ?_)) rfl rfl B.all)) ?_
    · intro c hc H1 s1 b
      have hcn := hpn c hc
      refine ev_inT (d := leD1 (kat k c)) (ds := [.non, .int (cel r c)]) (ev_ixT (i := c) (ev_name 8 rfl (hk.mono s1)) (ev_name 12 rfl rep_int) (hix hcn) (fun _ _ => rfl)) (ev_tup (ea_cons ev_non (ea_cons (ev_ixT (i := c) (ev_name 6 rfl (hr.mono s1)) (ev_name 12 rfl rep_int) (ints_at (by omega)) (fun _ _ => rfl)) ea_nil)) (by show 2 ≤ sizeLine; decide)) (lf _) (fun e he => ?_) ?_
      · rcases List.mem_cons.mp he with z | z
        · rw [z]; rfl
        · rw [List.mem_singleton.mp z]; rfl
      · rw [decide_eq_true_iff, List.mem_cons, List.mem_singleton]
        cases kat k c with
        | none => simp [leD1]
        | num z => simp [leD1]
        | text z => simp [leD1]
    · rw [List.map_map]
      rfl
    · rw [Bool.eq_iff_iff, decide_eq_true_iff, List.all_map]
      simp only [List.all_eq_true, Function.comp, id, decide_eq_true_iff]
      rfl
  · -- more = [row[column] if column in part else values[column] for column in range(width)]
    have hfit : fits k r p := of_decide_eq_true e
    refine wcons ?_
    refine ws_setL 10 (el_mapN 12 (fun c => leD1 (if c ∈ p then .num (cel r c) else kat k c)) nd (blkOk_by (N := nMissing) (sc := defScope sMissingRows) (by decide +kernel)) (src_range (ev_name 0 rfl rep_int) (by omega) rfl B.range) (by rw [List.length_range]; omega) ?_) fun l vs H2 hl s2 h2 rl => ?_
    · intro c hc H2 s2 b
      have hcn := List.mem_range.mp hc
      refine ev_if (et_inN (ev_name 12 rfl rep_int) (ev_name 4 rfl ((hp.mono s1).mono s2))) (fun e => ?_) fun e => ?_
      · rw [if_pos (of_decide_eq_true e)]
        exact ev_ixT (i := c) (ev_name 6 rfl ((hr.mono s1).mono s2)) (ev_name 12 rfl rep_int) (ints_at (by omega)) (fun _ _ => rfl)
      · rw [if_neg (of_decide_eq_false e)]
        exact ev_ixT (i := c) (ev_name 8 rfl ((hk.mono s1).mono s2)) (ev_name 12 rfl rep_int) (hix hcn) (fun _ _ => rfl)
    have s12 := s1.trans s2
    refine wone (ws_expr ?_)
    refine we_bmX PySem.F.slot_dict_setdefault PySem.F.type_dict_setdefault (mt_setdefX ?_) ?_
    · show A.units + 3 + 1 < cLine
      omega
    refine NV.use (nv_name 7 rfl) ⟨⟨lo, lxs, rfl, s12 _ _ hlo, hf.ks.tm (Same.tm s12)⟩, ?_⟩
    refine wa (pa_cons pe_w (pa_cons pe_w pa_nil)) ?_
    refine we_ev (EV.to (ev_tupleL (lv_name 10 rfl h2 rl) rfl B.tuple) (d' := keyD (mkk n p k r)) ?_) fun v H3 s3 rv => ?_
    · unfold keyD mkk
      rw [List.map_map]
      rfl
    have s13 := s12.trans s3
    refine we (pe_op op_catA pe_w pe_w) ?_
    refine NV.use (nv_name 9 rfl) ?_
    refine we (pe_tup (pa_cons pe_w pa_nil)) ?_
    refine NV.use (nv_name 6 rfl) ⟨by show 1 ≤ sizeLine; decide, fun t ht => ?_⟩
    obtain ⟨ca, cvs, ec, hca, hcl⟩ := hc
    have s4 : Same H3 (upd H3 t (.tup [vr])) := same_new ht
    have s14 := s13.trans s4
    refine ⟨ca, t, cvs, [vr], ec, rfl, SqT.of (s14 _ _ hca), SqT.of upd_same, ?_, fun ecv => ?_, (fun _ z => nomatch z), fun _ _ t2 ht2 => ?_⟩
    · show cvs.length + 1 ≤ sizeLine
      rw [sizeLine_eq]
      omega
    all_goals
      refine ⟨lo, lxs, ?_⟩
      obtain ⟨ka, eka, hka⟩ := rep_keyD.mp rv
    · have hka' := s4 _ _ hka
      refine ⟨ka, mkk n p k r, .ref t, rfl, ⟨s14 _ _ hlo, hf.ks.tm (Same.tm s14)⟩, by rw [eka], hka', by rw [sizeLine_eq]; omega, fun b u hb => ?_, fun hb => ?_⟩
      · refine q _ lxs _ (fun a u h _ => s14 a u h) (Same.tm s14) (s14 _ _ hlo) (hf.tm (Same.tm s14)) (Nat.le_succ _) ?_
        rw [if_pos hfit, addN, if_pos (getX_iff.mp (by rw [hb]; rfl))]
      · have hlo' := s14 _ _ hlo
        have tmo : Tm (upd H3 t (.tup [vr])) (upd (upd H3 t (.tup [vr])) lo (DO P w lo (lxs ++ [(mkk n p k r, ka, .ref t)]))) := tm_do hlo'
        have tma := (Same.tm s14).trans tmo
        refine q _ (lxs ++ [(mkk n p k r, ka, .ref t)]) _ (fun a u h hne => ?_) tma upd_same ⟨?_, ?_, ?_⟩ (by rw [List.length_append]; exact Nat.le_refl _) ?_
        · rw [upd_ne hne]; exact s14 a u h
        · intro x hx
          rcases List.mem_append.mp hx with z | z
          · exact (hf.ks.tm tma) x z
          · rw [List.mem_singleton.mp z]; exact tmo _ _ hka'
        · intro x hx
          rcases List.mem_append.mp hx with z | z
          · exact hf.ln x z
          · rw [List.mem_singleton.mp z]; exact mkk_len ..
        · intro x hx
          rcases List.mem_append.mp hx with z | z
          · exact (hf.tv x z).tm tma
          · rw [List.mem_singleton.mp z]; exact ⟨t, [vr], rfl, tmo _ _ upd_same, by show 1 ≤ m + 1; omega⟩
        · have hnk : mkk n p k r ∉ lxs.map (·.1) := fun z => by
            have := getX_iff.mpr z
            rw [hb] at this
            cases this
          rw [if_pos hfit, addN, if_neg hnk, List.map_append]
          rfl
    · have s5 : Same (upd H3 t (.tup [vr])) (upd (upd H3 t (.tup [vr])) t2 (.tup (cvs ++ [vr]))) := same_new ht2
      have s15 := s14.trans s5
      have hka' := s5 _ _ (s4 _ _ hka)
      refine ⟨ka, mkk n p k r, .ref t2, rfl, ⟨s15 _ _ hlo, hf.ks.tm (Same.tm s15)⟩, by rw [eka], hka', by rw [sizeLine_eq]; omega, fun b u hb => ?_, fun hb => ?_⟩
      · refine q _ lxs _ (fun a u h _ => s15 a u h) (Same.tm s15) (s15 _ _ hlo) (hf.tm (Same.tm s15)) (Nat.le_succ _) ?_
        rw [if_pos hfit, addN, if_pos (getX_iff.mp (by rw [hb]; rfl))]
      · have hlo' := s15 _ _ hlo
        have tmo : Tm (upd (upd H3 t (.tup [vr])) t2 (.tup (cvs ++ [vr]))) (upd (upd (upd H3 t (.tup [vr])) t2 (.tup (cvs ++ [vr]))) lo (DO P w lo (lxs ++ [(mkk n p k r, ka, .ref t2)]))) := tm_do hlo'
        have tma := (Same.tm s15).trans tmo
        refine q _ (lxs ++ [(mkk n p k r, ka, .ref t2)]) _ (fun a u h hne => ?_) tma upd_same ⟨?_, ?_, ?_⟩ (by rw [List.length_append]; exact Nat.le_refl _) ?_
        · rw [upd_ne hne]; exact s15 a u h
        · intro x hx
          rcases List.mem_append.mp hx with z | z
          · exact (hf.ks.tm tma) x z
          · rw [List.mem_singleton.mp z]; exact tmo _ _ hka'
        · intro x hx
          rcases List.mem_append.mp hx with z | z
          · exact hf.ln x z
          · rw [List.mem_singleton.mp z]; exact mkk_len ..
        · intro x hx
          rcases List.mem_append.mp hx with z | z
          · exact (hf.tv x z).tm tma
          · rw [List.mem_singleton.mp z]; exact ⟨t2, cvs ++ [vr], rfl, tmo _ _ upd_same, by rw [List.length_append]; show cvs.length + 1 ≤ m + 1; omega⟩
        · have hnk : mkk n p k r ∉ lxs.map (·.1) := fun z => by
            have := getX_iff.mpr z
            rw [hb] at this
            cases this
          rw [if_pos hfit, addN, if_neg hnk, List.map_append]
          rfl
  · refine q H1 lxs _ (fun a u h _ => s1 a u h) (Same.tm s1) (s1 _ _ hlo) (hf.tm (Same.tm s1)) (Nat.le_succ _) ?_
    rw [if_neg (of_decide_eq_false e)]
end
theorem sh_mk {H H' : Hp} {fi : Addr} {u u' : HO} (h : H fi = some u) (hu : ∀ xs, u ≠ .tup xs) (f : ∀ a o, H a = some o → a ≠ fi → H' a = some o) : Tm H H' := fun a xs e => f a _ e (ne_of e h fun z => hu xs z.symm)
/-- all rows of firsts, for one pair of found -/
theorem miss3 {cdv : Value} {A : Around} {outer : List Env} {s : Shared} {H0 : Hp} {E : XK} (B : Bi mg) (hu : A.units + 65 < cLine) {N : L2.St → Hp → Prop} {n : Nat} {v1 v2 v3 : V} {σ : L2.St} {o6 o10 o11 o12 : Option V} {fi lo : Addr} {ixs lxs : XS} {m : Nat} {k : LK} {rows : List Row} {p : List Nat} {vp vk vc : V} {H : Hp}
    (hcalm : (XM P w K mg base f cdv A outer s H0 E).calm = true)
    (hσ : σ = [some (.int (n : Int)), some v1, some v2, some v3, some vp, some (.ref fi), o6, some (.ref lo), some vk, some vc, o10, o11, o12])
    (hp : Rep H (natsT p) vp) (hpl : p.length ≤ 1000) (hpn : ∀ c ∈ p, c < n) (hk : Rep H (keyD k) vk) (hkl : k.length = n) (hrl : ∀ r ∈ rows, r.length = n) (hn : n ≤ 3) (hc : TupV H vc m) (hm : m ≤ 5)
    (hlo : H lo = some (DO P w lo lxs)) (hf : FdAt H lxs n (m + 1)) (hfi : H fi = some (DO P w fi ixs)) (hif : FiAt H ixs rows p) (hfull : ∀ r ∈ rows, kx (pick r p) ∈ ixs.map (·.1)) (hne : fi ≠ lo) (hll : lxs.length + ixs.length ≤ 1000)
    (q : ∀ H' lxs' o6' o10', (∀ a u, H a = some u → a ≠ lo → H' a = some u) → Tm H H' → H' lo = some (DO P w lo lxs') → FdAt H' lxs' n (m + 1) → lxs'.length ≤ lxs.length + ixs.length → (∀ k', k' ∈ lxs'.map (·.1) ↔ k' ∈ lxs.map (·.1) ∨ ∃ r ∈ rows, fits k r p ∧ k' = mkk n p k r) →
      N [some (.int (n : Int)), some v1, some v2, some v3, some vp, some (.ref fi), o6', some (.ref lo), some vk, some vc, o10', o11, o12] H') : WSs (XM P w K mg base f cdv A outer s H0 E) mB3 (NxE N) σ H := by
  have nd := scMissing.nd
  subst hσ
  refine wone ?_
  refine ws_valsX (d := fi) (xs := ixs) 6 PassesOwn.never hcalm (nv_name 5 rfl) ⟨hfi, hif.ks⟩ trivial (fun od => ⟨fun j σ' H' => ∃ o6' o10' lxs', σ' = [some (.int (n : Int)), some v1, some v2, some v3, some vp, some (.ref fi), o6', some (.ref lo), some vk, some vc, o10', o11, o12] ∧
      (∀ a u, H a = some u → a ≠ lo → a ≠ fi → H' a = some u) ∧ H' fi = some (.frz od (DO P w fi ixs)) ∧ FiAt H' ixs rows p ∧ Tm H H' ∧ H' lo = some (DO P w lo lxs') ∧ FdAt H' lxs' n (m + 1) ∧ lxs'.length ≤ lxs.length + j ∧
      (∀ k', k' ∈ lxs'.map (·.1) ↔ k' ∈ lxs.map (·.1) ∨ ∃ x ∈ ixs.take j, ∃ r ∈ rows, x.1 = kx (pick r p) ∧ fits k r p ∧ k' = mkk n p k r), ?_, ?_, ?_, ?_⟩) (pgn 6 nd)
  · have t0 : Tm H (upd H fi (.frz od (DO P w fi ixs))) := tm_do hfi
    refine ⟨o6, o10, lxs, rfl, fun a u h _ h2 => by rw [upd_ne h2]; exact h, upd_same, hif.tm t0, t0, by rw [upd_ne hne.symm]; exact hlo, hf.tm t0, Nat.le_refl _, fun k' => ?_⟩
    simp
  · rintro j σ' H' ⟨_, _, _, _, _, h1, h2, _⟩
    exact ⟨h1, h2.ks⟩
  · rintro j x σ' H' hx ⟨o6', o10', lxs', rfl, hfr, h1, h2, t1, h3, h4, h5, h6⟩
    obtain ⟨r, hr, ex, rr⟩ := h2.rw_ x (List.mem_of_getElem? hx)
    have hjl : j < ixs.length := (List.getElem?_eq_some_iff.mp hx).1
    have hlf : lo ≠ fi := hne.symm
    refine miss4 (lxs := lxs') (m := m) B hu rfl (hp.tm t1) hpl hpn (hk.tm t1) hkl rr (hrl r hr) hn (hc.tm t1) hm h3 h4 (by omega) fun H2 lxs2 o10'' f2 t2 g1 g2 g3 g4 => ?_
    refine ⟨_, _, lxs2, rfl, fun a u ha h_1 h_2 => f2 a u (hfr a u ha h_1 h_2) h_1, f2 _ _ h1 hne, h2.tm t2, t1.trans t2, g1, g2, by omega, fun k' => ?_⟩
    rw [g4]
    have tk : ∀ y, y ∈ ixs.take (j + 1) ↔ y ∈ ixs.take j ∨ y = x := fun y => by
      rw [List.take_add_one, hx, List.mem_append]
      simp
    by_cases hfit : fits k r p
    · rw [if_pos hfit, addN_mem, h6]
      constructor
      · rintro ((z | ⟨y, hy, rest⟩) | z)
        · exact .inl z
        · exact .inr ⟨y, (tk y).mpr (.inl hy), rest⟩
        · exact .inr ⟨x, (tk x).mpr (.inr rfl), r, hr, ex, hfit, z⟩
      · rintro (z | ⟨y, hy, r2, hr2, e2, f2', z⟩)
        · exact .inl (.inl z)
        · rcases (tk y).mp hy with y1 | y1
          · exact .inl (.inr ⟨y, y1, r2, hr2, e2, f2', z⟩)
          · refine .inr ?_
            rw [y1] at e2
            rw [z, mkk_pick (kx_inj (e2.symm.trans ex))]
    · rw [if_neg hfit, h6]
      constructor
      · rintro (z | ⟨y, hy, rest⟩)
        · exact .inl z
        · exact .inr ⟨y, (tk y).mpr (.inl hy), rest⟩
      · rintro (z | ⟨y, hy, r2, hr2, e2, f2', z⟩)
        · exact .inl z
        · rcases (tk y).mp hy with y1 | y1
          · exact .inr ⟨y, y1, r2, hr2, e2, f2', z⟩
          · rw [y1] at e2
            exact absurd ((fits_pick (kx_inj (e2.symm.trans ex))).mp f2') hfit
  · rintro σ' H' ⟨o6', o10', lxs', rfl, hfr, h1, h2, t1, h3, h4, h5, h6⟩
    have t2 : Tm H' (upd H' fi (DO P w fi ixs)) := tm_frz h1
    refine q _ lxs' _ _ (fun a u ha h_1 => ?_) (t1.trans t2) (by rw [upd_ne hne.symm]; exact h3) (h4.tm t2) (by omega) fun k' => ?_
    · by_cases e : a = fi
      · rw [e, upd_same, ← ha, e, hfi]
        rfl
      · rw [upd_ne e]; exact hfr a u ha h_1 e
    · rw [h6, List.take_length]
      constructor
      · rintro (z | ⟨y, hy, r2, hr2, e2, f2', z⟩)
        · exact .inl z
        · exact .inr ⟨r2, hr2, f2', z⟩
      · rintro (z | ⟨r2, hr2, f2', z⟩)
        · exact .inl z
        · obtain ⟨y, hy, e⟩ := List.mem_map.mp (hfull r2 hr2)
          exact .inr ⟨y, hy, r2, hr2, e, f2', z⟩
/-- one part: found becomes longer -/
theorem miss1 {cdv : Value} {A : Around} {outer : List Env} {s : Shared} {H0 : Hp} {E : XK} (B : Bi mg) (G : Ok P w K mg base 1 "picked" (spR 2 rPicked)) (hr1 : Room 1 (A.deeper (envOfC "missing_rows" (defScope sMissingRows) s.heap.objs.size f cdv))) (hcalm : (XM P w K mg base f cdv A outer s H0 E).calm = true) {N : L2.St → Hp → Prop} {n : Nat} {v3 : V} {σ : L2.St} {o5 o6 o7 o8 o9 o10 o11 o12 : Option V}
    {l fd : Addr} {xs : List V} {fxs : XS} {m : Nat} {rows : List Row} {p : List Nat} {vp : V} {H : Hp} {KP : LK → Prop}
    (hσ : σ = [some (.int (n : Int)), some (.ref l), some v3, some (.ref fd), some vp, o5, o6, o7, o8, o9, o10, o11, o12])
    (hl : H l = some (.lst xs)) (rl : RepL H (rows.map D.ints) xs) (h8 : rows.length ≤ 8) (hp : Rep H (natsT p) vp) (hpl : p.length ≤ 1000) (hpn : ∀ c ∈ p, c < n) (hrl : ∀ r ∈ rows, r.length = n) (hn : n ≤ 3) (hm : m ≤ 4)
    (hfd : H fd = some (DO P w fd fxs)) (hf : FdAt H fxs n m) (hkp : ∀ k, k ∈ fxs.map (·.1) ↔ KP k) (hfl : fxs.length ≤ 100)
    (q : ∀ H' lo lxs o5' o6' o8' o9' o10', Same H H' → H lo = none → H' lo = some (DO P w lo lxs) → FdAt H' lxs n (m + 1) → lxs.length ≤ fxs.length * 8 → (∀ k', k' ∈ lxs.map (·.1) ↔ Nxt n rows p KP k') →
      N [some (.int (n : Int)), some (.ref l), some v3, some (.ref lo), some vp, o5', o6', some (.ref lo), o8', o9', o10', o11, o12] H') : WSs (XM P w K mg base f cdv A outer s H0 E) mB1 (NxE N) σ H := by
  have nd := scMissing.nd
  have hun : A.units + 3 + 64 < cLine := hr1.units
  subst hσ
  refine wcons ?_
  refine ws_set 5 nd (we_dnew fun fi hfi => ?_)
  have s1 : Same H (upd H fi (DO P w fi [])) := same_new hfi
  refine wcons ?_
  refine ws_for PassesOwn.never hcalm (pgn 6 nd) ((wi_list (l := l) (vs := xs) (ds := rows.map D.ints) (NV.use (nv_name 1 rfl) ⟨rfl, Same.refl _⟩) (s1 _ _ hl) (rl.mono s1)).mono fun J H1 ⟨sJ, rJ⟩ => ?_)
  refine forW rJ (fun j σ' H' => ∃ o6' ixs, σ' = [some (.int (n : Int)), some (.ref l), some v3, some (.ref fd), some vp, some (.ref fi), o6', o7, o8, o9, o10, o11, o12] ∧ Same H H' ∧ Tm H1 H' ∧ H' fi = some (DO P w fi ixs) ∧ FiAt H' ixs rows p ∧ (∀ r ∈ rows.take j, kx (pick r p) ∈ ixs.map (·.1)) ∧ ixs.length ≤ j)
    ⟨o6, [], rfl, s1.trans sJ, Tm.refl _, sJ _ _ upd_same, ⟨(fun x hx => nomatch hx), fun x hx => nomatch hx⟩, (fun r hr => by rw [List.take_zero] at hr; cases hr), Nat.le_refl _⟩ ?_ ?_ ?_
  · rintro j σ' H' _ ⟨o6', ixs, _, sH, t1, _⟩
    exact ⟨t1, sH _ _ hl⟩
  · rintro j d σ' H' hd ⟨o6', ixs, rfl, sH, t1, h1, h2, h3, h4⟩ v H2 s2 rv
    rw [List.getElem?_map] at hd
    obtain ⟨r, hr, rfl⟩ : ∃ r, rows[j]? = some r ∧ D.ints r = d := by
      cases h : rows[j]? with
      | none => rw [h] at hd; cases hd
      | some r => rw [h] at hd; exact ⟨r, rfl, Option.some.inj hd⟩
    have hrm := List.mem_of_getElem? hr
    have hjl : j < rows.length := (List.getElem?_eq_some_iff.mp hr).1
    have sH2 := sH.trans s2
    refine wone (ws_expr ?_)
    refine we_bmX PySem.F.slot_dict_setdefault PySem.F.type_dict_setdefault (mt_setdefX ?_) ?_
    · show A.units + 3 + 1 < cLine
      omega
    refine NV.use (nv_name 5 rfl) ⟨⟨fi, ixs, rfl, s2 _ _ h1, h2.ks.tm (Same.tm s2)⟩, ?_⟩
    refine wa (pa_cons pe_w (pa_cons pe_w pa_nil)) ?_
    refine we_ev (ev_call G hr1 rfl (ea_cons (ev_name 6 rfl rv) (ea_cons (ev_name 4 rfl (hp.mono sH2)) ea_nil)) rfl ⟨r, p, rfl, fun c hc => by rw [hrl r hrm]; exact hpn c hc, hpl, rfl⟩) fun vk H3 s3 rk => ?_
    refine NV.use (nv_name 6 rfl) ?_
    have sH3 := sH2.trans s3
    have s23 := s2.trans s3
    obtain ⟨ka, eka, hka⟩ := rep_keyD.mp (show Rep H3 (keyD (kx (pick r p))) vk by
      have e : keyD (kx (pick r p)) = D.ints (pick r p) := by
        unfold keyD kx D.ints
        rw [List.map_map]
        rfl
      rw [e]; exact rk)
    have hfi3 := s23 _ _ h1
    have tk : ∀ y, y ∈ rows.take (j + 1) ↔ y ∈ rows.take j ∨ y = r := fun y => by
      rw [List.take_add_one, hr, List.mem_append]
      simp
    refine ⟨fi, ixs, ka, kx (pick r p), v, rfl, ⟨hfi3, h2.ks.tm (Same.tm s23)⟩, by rw [eka], hka, by rw [sizeLine_eq]; omega, fun b u hb => ?_, fun hb => ?_⟩
    · refine ⟨_, ixs, rfl, sH3, t1.trans (Same.tm s23), hfi3, h2.tm (Same.tm s23), fun y hy => ?_, Nat.le_succ_of_le h4⟩
      rcases (tk y).mp hy with z | z
      · exact h3 y z
      · rw [z]; exact getX_iff.mp (by rw [hb]; rfl)
    · have tmo : Tm H3 (upd H3 fi (DO P w fi (ixs ++ [(kx (pick r p), ka, v)]))) := tm_do hfi3
      refine ⟨_, _, rfl, same_mut sH3 hfi, (t1.trans (Same.tm s23)).trans tmo, upd_same, ⟨fun x hx => ?_, fun x hx => ?_⟩, fun y hy => ?_, by rw [List.length_append]; exact Nat.succ_le_succ h4⟩
      · rcases List.mem_append.mp hx with z | z
        · exact (h2.ks.tm ((Same.tm s23).trans tmo)) x z
        · rw [List.mem_singleton.mp z]; exact tmo _ _ hka
      · rcases List.mem_append.mp hx with z | z
        · exact (h2.tm ((Same.tm s23).trans tmo)).rw_ x z
        · rw [List.mem_singleton.mp z]; exact ⟨r, hrm, rfl, (rv.mono s3).tm tmo⟩
      · rw [List.map_append]
        rcases (tk y).mp hy with z | z
        · exact List.mem_append_left _ (h3 y z)
        · rw [z]; exact List.mem_append_right _ List.mem_cons_self
  · rintro σ' H' ⟨o6', ixs, rfl, sH, t1, h1, h2, h3, h4⟩
    rw [List.length_map, List.take_length] at h3
    rw [List.length_map] at h4
    refine wcons ?_
    refine ws_set 7 nd (we_dnew fun lo hlo => ?_)
    have s3 : Same H' (upd H' lo (DO P w lo [])) := same_new hlo
    have hfl' : fi ≠ lo := ne_of_none h1 hlo
    have hfd' : H' fd = some (DO P w fd fxs) := sH _ _ hfd
    have hdl : fd ≠ lo := ne_of_none hfd' hlo
    have hdi : fd ≠ fi := ne_of_none hfd hfi
    refine wcons ?_
    refine ws_itemsX (d := fd) (xs := fxs) 8 9 PassesOwn.never hcalm nd (nv_name 3 rfl) ⟨s3 _ _ hfd', hf.ks.tm (Same.tm (sH.trans s3))⟩ trivial (fun od => ⟨fun i σ' H2 => ∃ o6' o8' o9' o10' lxs, σ' = [some (.int (n : Int)), some (.ref l), some v3, some (.ref fd), some vp, some (.ref fi), o6', some (.ref lo), o8', o9', o10', o11, o12] ∧
        (∀ a u, H a = some u → a ≠ fd → H2 a = some u) ∧ Tm H H2 ∧ H2 fd = some (.frz od (DO P w fd fxs)) ∧ FdAt H2 fxs n m ∧ H2 fi = some (DO P w fi ixs) ∧ FiAt H2 ixs rows p ∧ H2 lo = some (DO P w lo lxs) ∧ FdAt H2 lxs n (m + 1) ∧ lxs.length ≤ i * 8 ∧
        (∀ k', k' ∈ lxs.map (·.1) ↔ ∃ x ∈ fxs.take i, ∃ r ∈ rows, fits x.1 r p ∧ k' = mkk n p x.1 r), ?_, ?_, ?_, ?_⟩) (pg_tup rfl (pgs_cons (pgn 8 nd) (pgs_cons (pgn 9 nd) pgs_nil)))
    · have t3 : Tm (upd H' lo (DO P w lo [])) (upd (upd H' lo (DO P w lo [])) fd (.frz od (DO P w fd fxs))) := tm_do (s3 _ _ hfd')
      have t4 := (Same.tm s3).trans t3
      refine ⟨o6', o8, o9, o10, [], rfl, fun a u h hne => ?_, (Same.tm sH).trans t4, upd_same, hf.tm ((Same.tm sH).trans t4), ?_, h2.tm t4, ?_, ⟨(fun x hx => nomatch hx), (fun x hx => nomatch hx), fun x hx => nomatch hx⟩, Nat.zero_le _, fun k' => by simp⟩
      · rw [upd_ne hne]; exact s3 _ _ (sH a u h)
      · rw [upd_ne hdi.symm]; exact s3 _ _ h1
      · rw [upd_ne hdl.symm]; exact upd_same
    · rintro i σ' H2 ⟨_, _, _, _, _, _, _, _, g1, g2, _⟩
      exact ⟨g1, g2.ks⟩
    · rintro i x σ' H2 T hx ⟨o6', o8', o9', o10', lxs, rfl, g0, g1, g2, g3, g4, g5, g6, g7, g8, g9⟩ hT
      have hxm := List.mem_of_getElem? hx
      have hil : i < fxs.length := (List.getElem?_eq_some_iff.mp hx).1
      have sT : Same H2 (upd H2 T (.tup [.ref x.2.1, x.2.2])) := same_new hT
      have g3' := g3.tm (Same.tm sT)
      refine miss3 (ixs := ixs) (lxs := lxs) (m := m) (k := x.1) (rows := rows) B (by omega) hcalm rfl ((hp.tm g1).mono sT) hpl hpn (rep_key (g3'.ks x hxm)) (g3.ln x hxm) hrl hn (g3'.tv x hxm) (by omega) (sT _ _ g6) (g7.tm (Same.tm sT)) (sT _ _ g4) (g5.tm (Same.tm sT)) (fun r hr => h3 r hr) hfl' (by omega) fun H3 lxs' o6'' o10'' f1 f2 f3 f4 f5 f6 => ?_
      refine ⟨_, _, _, _, lxs', rfl, fun a u h hne => ?_, (g1.trans (Same.tm sT)).trans f2, f1 _ _ (sT _ _ g2) hdl, g3'.tm f2, f1 _ _ (sT _ _ g4) hfl', (g5.tm (Same.tm sT)).tm f2, f3, f4, by omega, fun k' => ?_⟩
      · refine f1 a u (sT _ _ (g0 a u h hne)) (ne_of_none h ?_)
        exact Same.free (sH) hlo
      · rw [f6, g9]
        have tk : ∀ y, y ∈ fxs.take (i + 1) ↔ y ∈ fxs.take i ∨ y = x := fun y => by
          rw [List.take_add_one, hx, List.mem_append]
          simp
        constructor
        · rintro (⟨y, hy, rest⟩ | rest)
          · exact ⟨y, (tk y).mpr (.inl hy), rest⟩
          · exact ⟨x, (tk x).mpr (.inr rfl), rest⟩
        · rintro ⟨y, hy, rest⟩
          rcases (tk y).mp hy with z | z
          · exact .inl ⟨y, z, rest⟩
          · rw [z] at rest; exact .inr rest
    · rintro σ' H2 ⟨o6', o8', o9', o10', lxs, rfl, g0, g1, g2, g3, g4, g5, g6, g7, g8, g9⟩
      have t2 : Tm H2 (upd H2 fd (DO P w fd fxs)) := tm_frz g2
      refine wone (ws_set 3 nd (NV.use (nv_name 7 rfl) ?_))
      refine q _ lo lxs _ _ _ _ _ (fun a u h => ?_) (Same.free sH hlo) (by show (upd H2 fd (DO P w fd fxs)) lo = _; rw [upd_ne hdl.symm]; exact g6) (g7.tm t2) g8 fun k' => ?_
      · show (upd H2 fd (DO P w fd fxs)) a = some u
        by_cases e : a = fd
        · rw [e, upd_same, ← h, e, hfd]
        · rw [upd_ne e]; exact g0 a u h e
      · rw [g9, List.take_length]
        constructor
        · rintro ⟨x, hx, r, hr, hf', e⟩
          exact ⟨x.1, r, (hkp _).mp (List.mem_map.mpr ⟨x, hx, rfl⟩), hr, hf', e⟩
        · rintro ⟨k, r, hk, hr, hf', e⟩
          obtain ⟨x, hx, rfl⟩ := List.mem_map.mp ((hkp k).mpr hk)
          exact ⟨x, hx, r, hr, hf', e⟩
theorem ok_missing (F : FnP K "missing_rows" "missing_rows" sMissingRows f fd) (B : Bi mg) (G : Ok P w K mg base 1 "picked" (spR 2 rPicked)) : FnOk P w K mg base CX0 2 f fd ["width", "rows", "parts"] (spMissing P w) := by
  refine fnOk F scMissing (fun vs H Q E h => ?_) fun cdv A outer s H vs Q E hr h => ?_
  · obtain ⟨n, l, xs, rows, dp, v3, rfl, _⟩ := h
    rfl
  obtain ⟨n, l, xs, rows, dp, v3, rfl, hl, rl, r3, hd, hrn, h1, h3, h8, hq⟩ := h
  have nd := scMissing.nd
  have hu : (A.deeper (envOfC "missing_rows" (defScope sMissingRows) s.heap.objs.size f cdv)).units + 1 < cLine := hu_of hr
  refine wcons ?_
  refine ws_set 3 nd ?_
  refine we_disp1 ?_ fun fd0 hfd => ?_
  · exact hr.units0
  have s1 : Same H (upd H fd0 (DO P w fd0 [])) := same_new hfd
  refine (ev_repT (k := n) (ev_tup (ea_cons ev_non ea_nil) (by show 1 ≤ sizeLine; decide)) (ev_name 0 rfl rep_int) (by simp) h1 (by omega) (by simp)).now.mono fun v H2 ⟨s2, rv⟩ => ?_
  refine (ev_tup ea_nil (by show 0 ≤ sizeLine; decide)).now.mono fun v0 H3 ⟨s3, r0⟩ => ?_
  have rv : Rep H3 (keyD (List.replicate n .none)) v := by
    rw [← flat_non]
    exact rv.mono s3
  obtain ⟨a0, ea0, ha0⟩ := rep_keyD.mp rv
  have hf3 : H3 fd0 = some (DO P w fd0 []) := s3 _ _ (s2 _ _ upd_same)
  refine ⟨a0, _, ea0, ha0, hf3, ?_⟩
  have sH : Same H (upd H3 fd0 (DO P w fd0 [(List.replicate n .none, a0, v0)])) := same_mut ((s1.trans s2).trans s3) hfd
  have tm3 : Tm H3 (upd H3 fd0 (DO P w fd0 [(List.replicate n .none, a0, v0)])) := tm_do hf3
  have hcalm : (XM P w K mg base f cdv A outer s H E).calm = true := rfl
  refine wcons ?_
  refine ws_for PassesOwn.never rfl (pgn 4 nd) ((wi_tup (ev_name 2 rfl (r3.mono sH))).mono fun J H4 ⟨s4, rJ⟩ => ?_)
  refine forW rJ (fun i σ' H' => ∃ fd fxs o4 o5 o6 o7 o8 o9 o10 o11 o12, σ' = [some (.int (n : Int)), some (.ref l), some v3, some (.ref fd), o4, o5, o6, o7, o8, o9, o10, o11, o12] ∧ Same H H' ∧ Tm H4 H' ∧ H fd = none ∧ H' fd = some (DO P w fd fxs) ∧ FdAt H' fxs n i ∧ (∀ k, k ∈ fxs.map (·.1) ↔ KPi n rows dp i k) ∧ fxs.length ≤ 8 ^ i)
    ⟨fd0, _, none, none, none, none, none, none, none, none, none, rfl, sH.trans s4, Tm.refl _, hfd, s4 _ _ upd_same, ⟨?_, ?_, ?_⟩, ?_, Nat.le_refl _⟩ ?_ ?_ ?_
  · intro x hx
    rw [List.mem_singleton.mp hx]
    exact s4 _ _ (tm3 _ _ ha0)
  · intro x hx
    rw [List.mem_singleton.mp hx]
    exact List.length_replicate
  · intro x hx
    rw [List.mem_singleton.mp hx]
    obtain ⟨t, ts, et, ht, hts⟩ := r0
    have hts' : ts = [] := hts
    exact ⟨t, ts, et, s4 _ _ (tm3 _ _ ht), by rw [hts']; exact Nat.zero_le _⟩
  · intro k
    rw [List.map_cons, List.map_nil, List.mem_singleton]
    rfl
  · rintro i σ' H' _ ⟨fd, fxs, o4, o5, o6, o7, o8, o9, o10, o11, o12, _, _, t, _⟩
    exact t
  · rintro i d σ' H' hd ⟨fd, fxs, o4, o5, o6, o7, o8, o9, o10, o11, o12, rfl, g1, g2, g3, g4, g5, g6, g7⟩ v H5 s5 rv
    have hi2 : i < 2 := (List.getElem?_eq_some_iff.mp hd).1
    have p1n : ∀ c ∈ p1 n dp, c < n := fun c hc => List.mem_range.mp (List.mem_filter.mp hc).1
    have p2n : ∀ c ∈ p2 n dp, c < n := fun c hc => List.mem_range.mp (List.mem_filter.mp hc).1
    have p1l : (p1 n dp).length ≤ 1000 := Nat.le_trans (List.length_filter_le ..) (by rw [List.length_range]; omega)
    have p2l : (p2 n dp).length ≤ 1000 := Nat.le_trans (List.length_filter_le ..) (by rw [List.length_range]; omega)
    have g7' : fxs.length ≤ 100 := Nat.le_trans g7 (Nat.le_trans (Nat.pow_le_pow_right (by decide) (show i ≤ 2 by omega)) (by decide))
    obtain ⟨p, ep, ekp, pn, pl⟩ : ∃ p, d = natsT p ∧ KPi n rows dp (i + 1) = Nxt n rows p (KPi n rows dp i) ∧ (∀ c ∈ p, c < n) ∧ p.length ≤ 1000 := by
      match i, hi2 with
      | 0, _ => exact ⟨p1 n dp, (Option.some.inj hd).symm, rfl, p1n, p1l⟩
      | 1, _ => exact ⟨p2 n dp, (Option.some.inj hd).symm, rfl, p2n, p2l⟩
    rw [ep] at rv
    have sH5 := g1.trans s5
    refine (miss1 (N := fun σ' H' => ∃ fd fxs o4 o5 o6 o7 o8 o9 o10 o11 o12, σ' = [some (.int (n : Int)), some (.ref l), some v3, some (.ref fd), o4, o5, o6, o7, o8, o9, o10, o11, o12] ∧ Same H H' ∧ Tm H4 H' ∧ H fd = none ∧ H' fd = some (DO P w fd fxs) ∧ FdAt H' fxs n (i + 1) ∧ (∀ k, k ∈ fxs.map (·.1) ↔ KPi n rows dp (i + 1) k) ∧ fxs.length ≤ 8 ^ (i + 1))
      B G hr hcalm rfl (sH5 _ _ hl) (rl.mono sH5) h8 rv pl pn hrn h3 (m := i) (by omega) (s5 _ _ g4) (g5.tm (Same.tm s5)) g6 g7' fun H6 lo lxs o5' o6' o8' o9' o10' q1 q2 q3 q4 q5 q6 => ?_).mono (fun _ _ z => z) (fun _ _ z => z.elim) (fun _ _ z => z.elim) fun _ _ z => z
    refine ⟨lo, lxs, _, _, _, _, _, _, _, _, _, rfl, sH5.trans q1, (g2.trans (Same.tm s5)).trans (Same.tm q1), Same.free sH5 q2, q3, q4, fun k => ?_, ?_⟩
    · rw [q6, ekp]
    · rw [Nat.pow_succ]
      omega
  · rintro σ' H' ⟨fd, fxs, o4, o5, o6, o7, o8, o9, o10, o11, o12, rfl, g1, g2, g3, g4, g5, g6, g7⟩
    have g6' : ∀ k, k ∈ fxs.map (·.1) ↔ ∃ a ∈ rows, ∃ b ∈ rows, agr a b dp.L ∧ k = kx (mix n dp.R a b) := fun k => (g6 k).trans (nxt2 hrn hd k)
    refine wcons ?_
    refine ws_set 11 nd ?_
    refine we_comp (cp_dictX ?_ rfl nd (blkOk_by (N := nMissing) (sc := defScope sMissingRows) (own := [("row", 6)]) (by decide +kernel)) (fun s H C cl fp => pgn 6 nd) (fun _ => rfl)) rfl ?_
    · show A.units + 3 + 1 < cLine
      have : A.units + 3 + 64 < cLine := hr.units
      omega
    refine dictX_sem (ks := rows.map kx) (dv := .bl true) (src_lv ((lv_name 1 rfl (g1 _ _ hl) (rl.mono g1)).to ?_)) (fun v => rfl) (by rw [List.length_map, sizeLine_eq]; omega) (fun b H1 a v r => ev_name 6 rfl r) (fun b τ H1 => ev_bl) fun D kxs H6 hD s6 isD ek => ?_
    · rw [List.map_map]
      refine List.map_congr_left fun r _ => ?_
      show D.ints r = keyD (kx r)
      unfold keyD kx D.ints
      rw [List.map_map]
      rfl
    refine wone (ws_ret ?_)
    have gD := s6 _ _ g4
    refine we (pe_lock pe_w) ⟨fd, _, gD, trivial, fun od => ?_⟩
    refine we_comp (cp_dictX ?_ rfl nd (blkOk_by (N := nMissing) (sc := defScope sMissingRows) (own := [("row", 6), ("chosen", 9)]) (by decide +kernel)) (g := gTup K 2 (gCons (gName 6) (gCons (gName 9) gNil))) (fun s H C cl fp => by exact pg_tup rfl (pgs_cons (pgn 6 nd) (pgs_cons (pgn 9 nd) pgs_nil))) (fun _ => rfl)) rfl ?_
    · show A.units + 3 + 1 < cLine
      have : A.units + 3 + 64 < cLine := hr.units
      omega
    have tl : Tm H6 (upd H6 fd (.frz od (DO P w fd fxs))) := tm_do gD
    have hDf : D ≠ fd := fun e => by
      have := isD.ob
      rw [e] at hD
      rw [g4] at hD
      cases hD
    refine wi_itemsX (NV.use (nv_name 3 rfl) ⟨fd, od, fxs, rfl, ⟨upd_same, (g5.ks.tm (Same.tm s6)).tm tl⟩, fun M hM => ?_⟩)
    have hMD : M ≠ D := fun e => by
      have z : (upd H6 fd (.frz od (DO P w fd fxs))) D = some (DO P w D kxs) := by rw [upd_ne hDf]; exact isD.ob
      rw [e, z] at hM
      cases hM
    have sH6 := g1.trans s6
    refine ⟨fun i m H7 => m = fxs.length - i ∧ i ≤ fxs.length ∧ ∃ zs, (∀ a u, H6 a = some u → a ≠ fd → H7 a = some u) ∧ Tm H6 H7 ∧ H7 fd = some (.frz od (DO P w fd fxs)) ∧ H7 M = some (DO P w M zs) ∧ KeysAt H7 zs ∧ zs.map (·.1) = dedupF (((fxs.take i).map (·.1)).filter fun k => !decide (k ∈ rows.map kx)) ∧ zs.length ≤ i, ⟨fxs.length, by simp, Nat.zero_le _, [], ?_⟩, ?_⟩
    · have t2 : Same (upd H6 fd (.frz od (DO P w fd fxs))) (upd (upd H6 fd (.frz od (DO P w fd fxs))) M (DO P w M [])) := same_new hM
      refine ⟨fun a u h hne => t2 _ _ (by rw [upd_ne hne]; exact h), tl.trans (Same.tm t2), t2 _ _ upd_same, upd_same, (fun x hx => nomatch hx), rfl, Nat.zero_le _⟩
    rintro i m H7 ⟨rfl, hi, zs, f1, f2, f3, f4, f5, f6, f7⟩
    have g5' := g5.tm ((Same.tm s6).trans f2)
    have hf : IsF (cxOf CX0 P w K mg base nMissing "missing_rows" (defScope sMissingRows) f cdv A outer s H E).nox H7 fd od fxs := ⟨f3, g5'.ks⟩
    by_cases hlt : i < fxs.length
    · obtain ⟨x, hx⟩ : ∃ x, fxs[i]? = some x := ⟨_, List.getElem?_eq_getElem hlt⟩
      have hxm := List.mem_of_getElem? hx
      refine .inr ⟨⟨hf, hlt⟩, fun H8 => i + 1 ≤ fxs.length ∧ ∃ zs, (∀ a u, H6 a = some u → a ≠ fd → H8 a = some u) ∧ Tm H6 H8 ∧ H8 fd = some (.frz od (DO P w fd fxs)) ∧ H8 M = some (DO P w M zs) ∧ KeysAt H8 zs ∧ zs.map (·.1) = dedupF (((fxs.take (i + 1)).map (·.1)).filter fun k => !decide (k ∈ rows.map kx)) ∧ zs.length ≤ i + 1, fun H8 z => ⟨fxs.length - (i + 1), by omega, rfl, z⟩, fun y H8 ⟨T, x', hx', ey, hT, eH⟩ => ?_⟩
      rw [hx] at hx'
      obtain rfl := Option.some.inj hx'
      rw [ey, eH]
      have sT : Same H7 (upd H7 T (.tup [.ref x.2.1, x.2.2])) := same_new hT
      refine ⟨T, _, rfl, SqT.of upd_same, rfl, _, _, rfl, _, _, rfl, rfl, rfl, fun b => ?_⟩
      have kD : (upd H7 T (.tup [.ref x.2.1, x.2.2])) D = some (DO P w D kxs) := sT _ _ (f1 _ _ isD.ob hDf)
      have kK : KeysAt (upd H7 T (.tup [.ref x.2.1, x.2.2])) kxs := isD.ks.tm (f2.trans (Same.tm sT))
      have tkf : ((fxs.take (i + 1)).map (·.1)) = (fxs.take i).map (·.1) ++ [x.1] := by
        rw [List.take_add_one, hx, List.map_append]
        rfl
      refine wts (pts_one (pt_cmpR (op_notInX ?_) pe_w pe_w rfl)) ?_
      · show A.units + 3 + 1 < cLine
        have : A.units + 3 + 64 < cLine := hr.units
        omega
      refine NV.use (nv_name 6 rfl) (NV.use (nv_name 11 rfl) ⟨D, kxs, x.2.1, x.1, rfl, ⟨kD, kK⟩, rfl, sT _ _ (g5'.ks x hxm), _, rfl, ?_⟩)
      have ein : (getX kxs x.1).isSome = decide (x.1 ∈ rows.map kx) := by
        rw [Bool.eq_iff_iff, getX_iff, ek, dedupF_mem, decide_eq_true_iff]
      rw [ein]
      by_cases hin : x.1 ∈ rows.map kx
      · rw [decide_eq_true hin]
        refine iteF ⟨hlt, zs, fun a u h hne => sT _ _ (f1 a u h hne), f2.trans (Same.tm sT), sT _ _ f3, sT _ _ f4, f5.tm (Same.tm sT), ?_, Nat.le_succ_of_le f7⟩
        have e0 : [x.1].filter (fun k => !decide (k ∈ rows.map kx)) = [] := by
          rw [List.filter_cons, decide_eq_true hin]
          rfl
        rw [tkf, List.filter_append, f6, e0, List.append_nil]
      · rw [decide_eq_false hin]
        refine iteT ?_
        intro b2
        refine NV.use (nv_name 6 rfl) fun b3 => NV.use (nv_name 9 rfl) ?_
        have hM7 : (upd H7 T (.tup [.ref x.2.1, x.2.2])) M = some (DO P w M zs) := sT _ _ f4
        have tmo : Tm (upd H7 T (.tup [.ref x.2.1, x.2.2])) (upd (upd H7 T (.tup [.ref x.2.1, x.2.2])) M (DO P w M (putX zs x.1 x.2.1 x.2.2))) := tm_do hM7
        have hMf : fd ≠ M := fun e => by
          rw [← e, upd_same] at hM
          cases hM
        refine ⟨zs, x.2.1, x.1, hM7, f5.tm (Same.tm sT), rfl, sT _ _ (g5'.ks x hxm), ?_, hlt, _, fun a u h hne => ?_, (f2.trans (Same.tm sT)).trans tmo, ?_, upd_same, ?_, ?_, ?_⟩
        · have : fxs.length ≤ 8 ^ 2 := g7
          rw [sizeLine_eq]
          omega
        · have hMn : a ≠ M := fun e => by
            rw [e] at h
            rw [upd_ne hMf.symm, h] at hM
            cases hM
          show (upd (upd H7 T (.tup [.ref x.2.1, x.2.2])) M (DO P w M (putX zs x.1 x.2.1 x.2.2))) a = some u
          rw [upd_ne hMn]
          exact sT _ _ (f1 a u h hne)
        · show (upd (upd H7 T (.tup [.ref x.2.1, x.2.2])) M (DO P w M (putX zs x.1 x.2.1 x.2.2))) fd = _
          rw [upd_ne hMf]
          exact sT _ _ f3
        · exact ((f5.tm (Same.tm sT)).put (sT _ _ (g5'.ks x hxm))).tm tmo
        · rw [putX_keysN, f6, tkf, List.filter_append]
          simp only [hin, List.filter_cons, List.filter_nil, decide_false, Bool.not_false, if_true]
          unfold dedupF
          rw [List.foldl_append]
          rfl
        · have := putX_len zs x.1 x.2.1 x.2.2
          omega
    · have e : i = fxs.length := by omega
      subst e
      refine .inl ⟨⟨hf, Nat.le_refl _⟩, f3, ?_⟩
      rw [List.take_length] at f6
      have t7 : Tm H7 (upd H7 fd (DO P w fd fxs)) := tm_frz f3
      have hMf : M ≠ fd := fun e => by
        rw [e, upd_same] at hM
        cases hM
      obtain ⟨miss, em⟩ : ∃ miss : List Row, zs.map (·.1) = miss.map kx := by
        have all : ∀ k ∈ zs.map (·.1), ∃ r, k = kx r := fun k hk => by
          rw [f6, dedupF_mem] at hk
          obtain ⟨a, _, b, _, _, e⟩ := (g6' k).mp (List.mem_filter.mp hk).1
          exact ⟨_, e⟩
        have gen : ∀ l : List LK, (∀ k ∈ l, ∃ r, k = kx r) → ∃ ms : List Row, l = ms.map kx := fun l => by
          induction l with
          | nil => intro _; exact ⟨[], rfl⟩
          | cons k l ih =>
            intro h
            obtain ⟨r, hr⟩ := h k List.mem_cons_self
            obtain ⟨ms, hms⟩ := ih fun k hk => h k (List.mem_cons_of_mem _ hk)
            exact ⟨r :: ms, by rw [hr, hms, List.map_cons]⟩
        exact gen _ all
      refine hq M zs miss _ (fun a u h => ?_) ?_ ?_ (f5.tm t7) em ?_ fun r => ?_
      · show (upd H7 fd (DO P w fd fxs)) a = some u
        have ha6 := sH6 a u h
        by_cases e : a = fd
        · rw [e] at h
          rw [h] at g3
          cases g3
        · rw [upd_ne e]
          exact f1 a u ha6 e
      · refine Same.free sH6 ?_
        rw [upd_ne hMf] at hM
        exact hM
      · show (upd H7 fd (DO P w fd fxs)) M = _
        rw [upd_ne hMf]
        exact f4
      · have : (miss.map kx).Nodup := by rw [← em, f6]; exact dedupF_nodup _
        exact (List.Pairwise.of_map kx (fun a b h e => h (congrArg kx e)) this)
      · have : r ∈ miss ↔ kx r ∈ miss.map kx := by
          rw [List.mem_map]
          exact ⟨fun h => ⟨r, h, rfl⟩, fun ⟨s, hs, e⟩ => kx_inj e ▸ hs⟩
        rw [this, ← em, f6, dedupF_mem, List.mem_filter, g6']
        have hrr : kx r ∈ rows.map kx ↔ r ∈ rows := by
          rw [List.mem_map]
          exact ⟨fun ⟨s, hs, e⟩ => kx_inj e ▸ hs, fun h => ⟨r, h, rfl⟩⟩
        rw [Bool.not_eq_true', decide_eq_false_iff_not, hrr]
        constructor
        · rintro ⟨⟨a, ha, b, hb, hL, e⟩, hn⟩
          exact ⟨hn, a, ha, b, hb, hL, kx_inj e⟩
        · rintro ⟨hn, a, ha, b, hb, hL, e⟩
          exact ⟨⟨a, ha, b, hb, hL, by rw [e]⟩, hn⟩
end
end Nr
/-! Instances: fields, methods; values that stand. -/
namespace Nr
open PySem PySem.Spec L2
open PyProof.Rows hiding St

/-- e is v, the heap stays as it is -/
def RV (X : Cx) (e : Expr) (σ : L2.St) (H : Hp) (v : V) : Prop := ∀ H1, Same H H1 → ∀ Q : VK, Q v H1 → WE X e σ H1 Q
section
variable {X : Cx} {e o a b : Expr} {es : List Expr} {σ : L2.St} {H H' : Hp} {v : V} {d : D} {ds : List D} {pos p apos cpos : Pos} {f m : Str} {C dx l : Addr} {fs : List (Str × V)} {vs : List V}
theorem RV.use {Q : VK} (h : RV X e σ H v) (q : Q v H) : WE X e σ H Q := h H (Same.refl H) Q q
theorem RV.mono (h : RV X e σ H v) (s : Same H H') : RV X e σ H' v := fun H1 s1 => h H1 (s.trans s1)
theorem NV.rv (h : NV X e σ v) : RV X e σ H v := fun H1 _ Q q => h H1 Q q
theorem rv_name {x : Str} (i : Nat) (h : σ[i]? = some (some v)) (hN : X.N[i]? = some x := by rfl) (hv : Vis X.env.scope x := by first | exact Or.inl rfl | exact Or.inr (Or.inl rfl) | exact Or.inr (Or.inr rfl))
    (hd : (x == ("__debug__" : Str)) = false := by decide) (hcd : (x == ("__classdict__" : Str)) = false := by decide) : RV X (.Name x pos) σ H v := (nv_name i h hN hv hd hcd).rv
theorem rv_fld {pa : Addr} (he : RV X e σ H (.ref pa)) (ob : H pa = some (.ins C dx fs)) (c : Cls X.K C) (n : NoAttr X.K C f) (lk : fs.lookup f = some v) (hb : attributeBase e f X.env (eval e X.env) = eval e X.env := by rfl) : RV X (.Attribute e f pos) σ H v := fun H1 s Q q =>
  we (pe_fld pe_w hb) (he H1 s _ ⟨pa, C, dx, fs, v, rfl, s _ _ ob, c, n, lk, q⟩)
theorem RV.ev (h : RV X e σ H v) (r : Rep H d v) : EV X e σ H d := fun H1 s => h H1 s _ ⟨Same.refl _, r.mono s⟩
theorem RV.lv (h : RV X e σ H (.ref l)) (hl : H l = some (.lst vs)) (r : RepL H ds vs) : LV X e σ H ds := fun H1 s => h H1 s _ ⟨Same.refl _, l, vs, rfl, s _ _ hl, r.mono s⟩
/-- an item of a list that stands -/
theorem rv_ixL {i : Nat} (ha : RV X a σ H (.ref l)) (hl : H l = some (.lst vs)) (hb : EV X b σ H (.int (i : Int))) (hv : vs[i]? = some v) (hb0 : RV X b σ H (.int (i : Int))) (hs : PlainIx b := by exact fun _ _ => rfl) : RV X (.Subscript a b pos) σ H v := fun H1 s Q q => by
  refine we (pe_ix ix_list pe_w pe_w hs) ?_
  exact ha H1 s _ (hb0 H1 s _ ⟨l, vs, (i : Int), v, rfl, rfl, SqL.of (s _ _ hl), atI_nat hv, q⟩)
theorem rv_ixT {i : Nat} {t : Addr} (ha : RV X a σ H (.ref t)) (ht : H t = some (.tup vs)) (hv : vs[i]? = some v) (hb0 : RV X b σ H (.int (i : Int))) (hs : PlainIx b := by exact fun _ _ => rfl) : RV X (.Subscript a b pos) σ H v := fun H1 s Q q => by
  refine we (pe_ix ix_tup pe_w pe_w hs) ?_
  exact ha H1 s _ (hb0 H1 s _ ⟨t, vs, (i : Int), v, rfl, rfl, SqT.of (s _ _ ht), atI_nat hv, q⟩)
theorem rv_int {i : Int} {j} : RV X (.Constant (.int i) j pos) σ H (.int i) := fun H1 s Q q => we pe_int q
/-- o.m(..) -/
def OkM (P : Program) (w : World) (K : PySem.W.Frag) (mg : Str → Option Value) (base : Heap) (C : Addr) (k : Nat) (m : Str) (sp : Sp) : Prop :=
  ∃ f fd ps, Meth K C m f ∧ Binds K fd ps [] ∧ FnOk P w K mg base CX0 k f fd ps sp
theorem we_meth {Q : VK} {k : Nat} {sp : Sp} {pa : Addr} {pl : Sem Bool} (h : OkM X.prog X.w X.K X.mg X.base C k m sp) (hr : Room k X.A) (c : Cls X.K C) (he : RV X o σ H (.ref pa)) (ob : H pa = some (.ins C dx fs)) (lk : fs.lookup m = none) (ha : WA X (e :: es) σ H fun vs H2 => sp (.ref pa :: vs) H2 Q EF)
    (hst : starEach (e :: es) X.env = (false, eval e X.env) :: starEach es X.env := by rfl) (hpl : (backTo pos (starEach es X.env)).any (·.1) = false := by rfl)
    (ht : eval (.Call (.Attribute o m apos) (e :: es) [] pos) X.env = (do
      let ov ← eval o X.env
      standAt apos.atName
      let (f, first) ← holding [ov] (getMethod ov m pl)
      callWith pos f first (backTo pos (starEach (e :: es) X.env)) (backToKw pos (keywordEach [] X.env))) := by rfl) : WE X (.Call (.Attribute o m apos) (e :: es) [] pos) σ H Q := by
  obtain ⟨f, fd, ps, h1, h3, h4⟩ := h
  refine we (pe_meth (E := EF) pe_w c h1 h4 hr h3 .nil pass0 pa_w hst hpl ht) ?_
  refine he.use ⟨pa, dx, fs, rfl, ob, lk, ?_⟩
  exact ha.mono fun vs H1 q => by rw [List.append_nil]; exact q
theorem we_meth0 {Q : VK} {k : Nat} {sp : Sp} {pa : Addr} {pl : Sem Bool} (h : OkM X.prog X.w X.K X.mg X.base C k m sp) (hr : Room k X.A) (c : Cls X.K C) (he : RV X o σ H (.ref pa)) (ob : H pa = some (.ins C dx fs)) (lk : fs.lookup m = none) (ha : sp [.ref pa] H Q EF)
    (ht : eval (.Call (.Attribute o m apos) [] [] pos) X.env = (do
      let ov ← eval o X.env
      standAt apos.atName
      let (f, first) ← holding [ov] (getMethod ov m pl)
      callWith pos f first (backTo pos (starEach [] X.env)) (backToKw pos (keywordEach [] X.env))) := by rfl) : WE X (.Call (.Attribute o m apos) [] [] pos) σ H Q := by
  obtain ⟨f, fd, ps, h1, h3, h4⟩ := h
  refine we (pe_meth0 (E := EF) pe_w c h1 h4 hr h3 .nil pass0 ht) ?_
  refine he.use ⟨pa, dx, fs, rfl, ob, lk, ?_⟩
  show sp [.ref pa] H Q EF
  exact ha
/-- o.f = value -/
theorem ws_fld {DE : Ends} {pos' : Pos} {value : Expr} (h : WE X value σ H fun y H1 => WE X o σ H1 fun x H2 => ∃ a dx fs, x = .ref a ∧ H2 a = some (.ins C dx fs) ∧ fs.length < 1000 ∧ DE.nx σ (upd H2 a (.ins C dx (putF f y fs)))) (c : Cls X.K C) (n : NoAttr X.K C f)
    (hs : swapsWith value (some (.Attribute o f pos')) pos.line X.env = pure false := by rfl) : WS X (.Assign [.Attribute o f pos'] value pos) DE σ H := by
  refine ws (ps_fld pe_w pe_w hs) (h.mono fun y H1 h1 => h1.mono fun x H2 ⟨a, dx, fs, ex, ha, hl, q⟩ => ?_)
  exact ⟨a, C, dx, fs, ex, ha, c, n, hl, q⟩
/-- a def's keys in a locked dict, as rows -/
theorem src_keys {tg : Expr} {dd : Addr} {od : Obj} {xs : XS} {rows : List Row} (he : RV X e σ H (.ref dd)) (hd : IsF X H dd od xs) (ek : xs.map (·.1) = rows.map kx) : Src X tg e σ H (rows.map D.ints) := fun H1 s => by
  refine wi_keysX (he H1 s _ ⟨dd, od, xs, rfl, hd.same s, Same.refl _, fun i H2 s2 => ⟨fun d hd' => ?_, fun hi => ?_⟩⟩)
  · have hf := (hd.same s).same s2
    rw [List.getElem?_map] at hd'
    obtain ⟨r, hr, rfl⟩ : ∃ r, rows[i]? = some r ∧ D.ints r = d := by
      cases h : rows[i]? with
      | none => rw [h] at hd'; cases hd'
      | some r => rw [h] at hd'; exact ⟨r, rfl, Option.some.inj hd'⟩
    have hl : xs.length = rows.length := by have := congrArg List.length ek; simpa using this
    have hir := (List.getElem?_eq_some_iff.mp hr).1
    refine ⟨⟨hf, by omega⟩, fun x H' ⟨eH, q, hq, ex⟩ => ?_⟩
    rw [eH, ex]
    refine ⟨Same.refl _, ?_⟩
    have e1 : q.1 = kx r := by
      have e2 : (xs.map (·.1))[i]? = (rows.map kx)[i]? := by rw [ek]
      rw [List.getElem?_map, List.getElem?_map, hq, hr] at e2
      exact Option.some.inj e2
    have := hf.ks q (List.mem_of_getElem? hq)
    rw [e1] at this
    refine rep_ints.mpr ⟨q.2.1, rfl, ?_⟩
    rw [this, List.map_map]
    rfl
  · have hf := (hd.same s).same s2
    have hl : xs.length = rows.length := by have := congrArg List.length ek; simpa using this
    rw [List.length_map] at hi
    exact ⟨hf, by omega⟩
/-- one item alone comes -/
def OneJ (J : It) (C : Hp → Prop) (v : V) : Prop := ∀ H, C H → J.go 0 H ∧ (∀ x H', J.yld 0 H x H' → H' = H ∧ x = v) ∧ J.stop 1 H
theorem one_list {K : PySem.W.Frag} {l : Addr} {v : V} : OneJ (Itl K l) (fun H => H l = some (.lst [v])) v := fun H h => by
  refine ⟨⟨[v], v, SqL.of h, rfl⟩, fun x H' ⟨e, y⟩ => ⟨e, ?_⟩, ⟨[v], SqL.of h, Nat.le_refl _⟩⟩
  have := y [v] (SqL.of h)
  exact (Option.some.inj this).symm
theorem one_tup {K : PySem.W.Frag} {l : Addr} {v : V} : OneJ (Itt K l) (fun H => H l = some (.tup [v])) v := fun H h => by
  refine ⟨⟨[v], v, SqT.of h, rfl⟩, fun x H' ⟨e, y⟩ => ⟨e, ?_⟩, ⟨[v], SqT.of h, Nat.le_refl _⟩⟩
  have := y [v] (SqT.of h)
  exact (Option.some.inj this).symm
/-- [elt for x in iter], one item -/
theorem lc_one {iter elt : Expr} {scope : Scope} {j : Nat} {Q : VK} (hc : X.calm = true) (hN : X.N.Nodup) {x : Str} {px : Pos} (ok : BlkOk X.N X.env.scope scope [(x, j)]) (hg : ∀ b, PG (XB X scope b) (.Name x px) (gName j))
    (hi : WI X (.Name x px) iter σ H fun J H1 => ∃ C v, OneJ J C v ∧ ∀ D, H1 D = none → C (upd H1 D (.lst [])) ∧ ∀ b, WE (XB X scope b) elt ((σ.set j none).set j (some v)) (upd H1 D (.lst [])) fun y H2 => H2 D = some (.lst []) ∧ C (upd H2 D (.lst [y])) ∧ Q (.ref D) (upd H2 D (.lst [y])))
    (hs : ∀ x, foldedSetIterable iter X.env x = pure x := by intro _; rfl) : WE X (.ListComp elt [⟨.Name x px, iter, [], 0⟩] scope pos) σ H Q := by
  refine we (pe_lc (own := [(x, j)]) (g := gName j) (tt := fun σ H Q => ∀ b, WTs (XB X scope b) [] σ H Q) (te := fun σ H Q => ∀ b, WE (XB X scope b) elt σ H Q) hc hN pi_w ok (fun s H C cl fp => hg (s, H, C, cl, fp)) (fun s H C cl fp => ⟨fun pins s' σ' H' Q I h => h (s, H, C, cl, fp) pins s' I⟩) (fun s H C cl fp => ⟨fun pins s' σ' H' Q I h => h (s, H, C, cl, fp) pins s' I⟩) hs) ?_
  refine hi.mono fun J H1 ⟨C, v, one, rest⟩ D hD => ?_
  obtain ⟨c0, we1⟩ := rest D hD
  refine ⟨fun i m H' => (i = 0 ∧ m = 1 ∧ H' = upd H1 D (.lst [])) ∨ (i = 1 ∧ m = 0 ∧ C H' ∧ Q (.ref D) H'), ⟨1, .inl ⟨rfl, rfl, rfl⟩⟩, ?_⟩
  rintro i m H' (⟨rfl, rfl, rfl⟩ | ⟨rfl, rfl, c1, q1⟩)
  · obtain ⟨go, y, _⟩ := one _ c0
    refine .inr ⟨go, fun H'' => C H'' ∧ Q (.ref D) H'', fun H'' z => ⟨0, Nat.zero_lt_one, .inr ⟨rfl, rfl, z⟩⟩, fun x H'' hy => ?_⟩
    obtain ⟨e1, e2⟩ := y x H'' hy
    rw [e1, e2]
    refine ⟨wipe1, fun b => wts_nil ?_⟩
    refine iteT ?_
    intro b2
    exact (we1 b2).mono fun y H2 ⟨h1, h2, h3⟩ => ⟨[], h1, by decide, h2, h3⟩
  · exact .inl ⟨(one _ c1).2.2, q1⟩
end
end Nr
/-! The class Chase: what an object looks like; now, store, is_there. -/
namespace Nr
open PySem PySem.Spec L2
open PyProof.Rows hiding St

def fl (s b t se be st : V) : List (Str × V) := [("scheme", s), ("book", b), ("tables", t), ("seen", se), ("became", be), ("steps", st), ("clashed", V.bl false)]
theorem fl_scheme {s b t se be st : V} : (fl s b t se be st).lookup ("scheme" : Str) = some s := by rfl
theorem fl_book {s b t se be st : V} : (fl s b t se be st).lookup ("book" : Str) = some b := by rfl
theorem fl_tables {s b t se be st : V} : (fl s b t se be st).lookup ("tables" : Str) = some t := by rfl
theorem fl_became {s b t se be st : V} : (fl s b t se be st).lookup ("became" : Str) = some be := by rfl
theorem fl_steps {s b t se be st : V} : (fl s b t se be st).lookup ("steps" : Str) = some st := by rfl
theorem fl_clashed {s b t se be st : V} : (fl s b t se be st).lookup ("clashed" : Str) = some (V.bl false) := by rfl
theorem fl_put {s b t se be st t' : V} : putF ("tables" : Str) t' (fl s b t se be st) = fl s b t' se be st := by rfl
theorem fl_make {s b t se be st : V} : putF ("clashed" : Str) (.bl false) (putF ("steps" : Str) st (putF ("became" : Str) be (putF ("seen" : Str) se (putF ("tables" : Str) t (putF ("book" : Str) b (putF ("scheme" : Str) s [])))))) = fl s b t se be st := by rfl
theorem fl_no {s b t se be st : V} {m : Str} (h : ∀ f ∈ ([("scheme" : Str), "book", "tables", "seen", "became", "steps", "clashed"] : List Str), m ≠ f) : (fl s b t se be st).lookup m = none := by
  have e : ∀ f ∈ ([("scheme" : Str), "book", "tables", "seen", "became", "steps", "clashed"] : List Str), (m == f) = false := fun f hf => beq_eq_false_iff_ne.mpr (h f hf)
  unfold fl
  simp only [List.lookup, e "scheme" (by simp), e "book" (by simp), e "tables" (by simp), e "seen" (by simp), e "became" (by simp), e "steps" (by simp), e "clashed" (by simp)]
abbrev bookD (book : List Dep) : D := .tup (book.map depD)
abbrev becK (bec : List (Int × Int)) : List (Key × V) := bec.map fun q => (Sum.inl q.1, V.int q.2)
/-- the object at p, all it owns -/
structure CAt (P : Program) (w : World) (C : Addr) (H : Hp) (p : Addr) (n : Nat) (book : List Dep) (rows : List Row) (bec : List (Int × Int)) (m : Nat) (O : List Addr) : Prop where
  ex : ∃ dx vs vb tl td se be sl xs ss, O = [p, tl, td, be, sl] ∧ H p = some (.ins C dx (fl vs vb (.ref tl) se (.ref be) (.ref sl))) ∧ Rep H (.tup [.int (n : Int)]) vs ∧ Rep H (bookD book) vb ∧
    H tl = some (.lst [.ref td]) ∧ H td = some (DO P w td xs) ∧ KeysAt H xs ∧ xs.map (·.1) = rows.map kx ∧ H be = some (.dK (becK bec)) ∧ H sl = some (.lst ss) ∧ ss.length ≤ m ∧ tl ≠ sl
def fnames : List Str := ["scheme", "book", "tables", "seen", "became", "steps", "clashed"]
/-- what of the text the class must have -/
structure Txt (K : PySem.W.Frag) (mg : Str → Option Value) (C : Addr) : Prop where
  cl : Cls K C
  na : ∀ f ∈ fnames, NoAttr K C f
  mgC : mg "Chase" = some (.ref C)
/-- what a call may change: what the object owns -/
def Fram (H H' : Hp) (O : List Addr) : Prop := ∀ a u, H a = some u → a ∉ O → H' a = some u
section
variable {P : Program} {w : World} {C : Addr} {H H' : Hp} {p : Addr} {n : Nat} {book : List Dep} {rows : List Row} {bec : List (Int × Int)} {m : Nat} {O : List Addr}
theorem CAt.notup (c : CAt P w C H p n book rows bec m O) : ∀ a ∈ O, ∀ xs, H a ≠ some (.tup xs) := by
  obtain ⟨dx, vs, vb, tl, td, se, be, sl, xs, ss, rfl, h1, _, _, h2, h3, _, _, h4, h5, _⟩ := c.ex
  intro a ha ys e
  simp only [List.mem_cons, List.not_mem_nil, or_false] at ha
  rcases ha with rfl | rfl | rfl | rfl | rfl
  · rw [h1] at e; cases e
  · rw [h2] at e; cases e
  · rw [h3] at e; cases e
  · rw [h4] at e; cases e
  · rw [h5] at e; cases e
theorem CAt.tm (c : CAt P w C H p n book rows bec m O) (f : Fram H H' O) : Tm H H' := fun a xs e => f a _ e fun ha => c.notup a ha xs e
theorem CAt.same (c : CAt P w C H p n book rows bec m O) (s : Same H H') : CAt P w C H' p n book rows bec m O := by
  obtain ⟨dx, vs, vb, tl, td, se, be, sl, xs, ss, h0, h1, h2, h3, h4, h5, h6, h7, h8, h9, h10⟩ := c.ex
  exact ⟨dx, vs, vb, tl, td, se, be, sl, xs, ss, h0, s _ _ h1, h2.mono s, h3.mono s, s _ _ h4, s _ _ h5, h6.tm (Same.tm s), h7, s _ _ h8, s _ _ h9, h10⟩
theorem CAt.owns (c : CAt P w C H p n book rows bec m O) : ∀ a ∈ O, ∃ u, H a = some u := by
  obtain ⟨dx, vs, vb, tl, td, se, be, sl, xs, ss, rfl, h1, _, _, h2, h3, _, _, h4, h5, _⟩ := c.ex
  intro a ha
  simp only [List.mem_cons, List.not_mem_nil, or_false] at ha
  rcases ha with rfl | rfl | rfl | rfl | rfl
  · exact ⟨_, h1⟩
  · exact ⟨_, h2⟩
  · exact ⟨_, h3⟩
  · exact ⟨_, h4⟩
  · exact ⟨_, h5⟩
end
theorem Same.fram {H H' : Hp} {O : List Addr} (s : Same H H') : Fram H H' O := fun a u h _ => s a u h
/-- two changes, one behind another -/
theorem Fram.trans {H H1 H2 : Hp} {O O1 : List Addr} (f : Fram H H1 O) (g : Fram H1 H2 O1) (h : ∀ a ∈ O1, a ∈ O ∨ H a = none) : Fram H H2 O := fun a u ha hn => g a u (f a u ha hn) fun z => (h a z).elim hn fun e => by rw [e] at ha; cases ha
theorem own_trans {H H1 : Hp} {O O1 O2 : List Addr} (f : Fram H H1 O) (h1 : ∀ a ∈ O1, a ∈ O ∨ H a = none) (h2 : ∀ a ∈ O2, a ∈ O1 ∨ H1 a = none) : ∀ a ∈ O2, a ∈ O ∨ H a = none := fun a ha => by
  rcases h2 a ha with z | z
  · exact h1 a z
  · by_cases q : a ∈ O
    · exact .inl q
    · refine .inr ?_
      cases e : H a with
      | none => rfl
      | some u => rw [f a u e q] at z; cases z
theorem kS_at {bec : List (Int × Int)} {v : Int} : valV (becK bec) (Sum.inl v : Key) = (bec.lookup v).map V.int := by
  induction bec with
  | nil => rfl
  | cons q bec ih =>
    obtain ⟨a, b⟩ := q
    by_cases e : v = a
    · subst e
      simp [becK, valV, List.lookup]
    · have e' : (v == a) = false := beq_eq_false_iff_ne.mpr e
      have e2 : ¬ (Sum.inl a : Key) = Sum.inl v := fun z => e (Sum.inl.inj z).symm
      simp only [becK, List.map_cons, List.lookup, e'] at ih ⊢
      rw [← ih]
      simp [valV, e2]
end Nr
/-! Chase: now, store, is_there. -/
namespace Nr
open PySem PySem.Spec L2
open PyProof.Rows hiding St

theorem keyD_kx (r : Row) : keyD (kx r) = D.ints r := by
  unfold keyD kx D.ints
  rw [List.map_map]
  rfl
theorem keys_rows {xs : XS} {rows : List Row} (e : xs.map (·.1) = rows.map kx) : (xs.map fun x => keyD x.1) = rows.map D.ints := by
  have : (xs.map fun x => keyD x.1) = (xs.map (·.1)).map keyD := by rw [List.map_map]; rfl
  rw [this, e, List.map_map]
  exact List.map_congr_left fun r _ => keyD_kx r
theorem kx_leV (r : Row) : (kx r).map leV = r.map V.int := by rw [List.map_map]; rfl
theorem Txt.nb {K : PySem.W.Frag} {mg : Str → Option Value} {C : Addr} (T : Txt K mg C) : NoAttr K C "became" := T.na _ (by simp [fnames])
theorem Txt.nt {K : PySem.W.Frag} {mg : Str → Option Value} {C : Addr} (T : Txt K mg C) : NoAttr K C "tables" := T.na _ (by simp [fnames])
theorem Txt.nk {K : PySem.W.Frag} {mg : Str → Option Value} {C : Addr} (T : Txt K mg C) : NoAttr K C "book" := T.na _ (by simp [fnames])
theorem Txt.ns {K : PySem.W.Frag} {mg : Str → Option Value} {C : Addr} (T : Txt K mg C) : NoAttr K C "scheme" := T.na _ (by simp [fnames])
theorem Txt.np {K : PySem.W.Frag} {mg : Str → Option Value} {C : Addr} (T : Txt K mg C) : NoAttr K C "steps" := T.na _ (by simp [fnames])
theorem Txt.nc {K : PySem.W.Frag} {mg : Str → Option Value} {C : Addr} (T : Txt K mg C) : NoAttr K C "clashed" := T.na _ (by simp [fnames])
theorem Txt.nse {K : PySem.W.Frag} {mg : Str → Option Value} {C : Addr} (T : Txt K mg C) : NoAttr K C "seen" := T.na _ (by simp [fnames])
theorem _root_.L2.Room.u1 {k : Nat} {A : Around} (h : Room k A) : A.units + 1 < cLine := Nat.lt_of_le_of_lt (Nat.add_le_add_left (by decide : 1 ≤ 64) _) h.units
section
variable {P : Program} {w : World} {K : PySem.W.Frag} {mg : Str → Option Value} {base : Heap} {f C : Addr} {fd : FuncData}
/-- now(value) -/
def spNow (P : Program) (w : World) (C : Addr) : Sp := fun vs H Q _ => ∃ p n book rows bec m O v, vs = [.ref p, .int v] ∧ CAt P w C H p n book rows bec m O ∧ (∀ q ∈ bec, bec.lookup q.2 = none) ∧ ∀ H', Same H H' → Q (.int (nowv bec v)) H'
theorem scNow : FnScope ["self", "value"] ["self", "value"] (defScope sCNow) := ⟨rfl, rfl, rfl, by decide +kernel, rfl, by decide +kernel, by decide +kernel⟩
theorem ok_now (F : FnP K "now" "Chase.now" sCNow f fd) (T : Txt K mg C) : FnOk P w K mg base CX0 1 f fd ["self", "value"] (spNow P w C) := by
  refine fnOk F scNow (fun vs H Q E h => ?_) fun cdv A outer s H vs Q E hr h => ?_
  · obtain ⟨p, n, book, rows, bec, m, O, v, rfl, _⟩ := h
    rfl
  obtain ⟨p, n, book, rows, bec, m, O, v, rfl, c, hb, hq⟩ := h
  obtain ⟨dx, w1, w2, tl, td, se, be, sl, xs, ss, h0, h1, h2, h3, h4, h5, h6, h7, h8, h9, h10⟩ := c.ex
  refine wcons ?_
  refine ws_while PassesOwn.never (fun i σ' H' => H' = H ∧ ((i = 1 ∧ σ' = [some (.ref p), some (.int v)]) ∨ (i = 0 ∧ σ' = [some (.ref p), some (.int (nowv bec v))] ∧ bec.lookup (nowv bec v) = none))) (m := 1) ⟨rfl, .inl ⟨rfl, rfl⟩⟩ ?_
  rintro i σ' H' ⟨rfl, hc⟩
  refine wt (pt_cmp (pc_din hr.u1 pe_w pe_w)) ?_
  have fin : ∀ u, bec.lookup u = none → u = nowv bec v → ∀ σ', σ' = [some (.ref p), some (.int (nowv bec v))] → WSs (cxOf CX0 P w K mg base ["self", "value"] "Chase.now" (defScope sCNow) f cdv A outer s H' E).nox (L2.defBody sCNow).tail ⟨fun _ H' => Q .non H', Q, fun _ _ => False, fun _ _ => False⟩ σ' H' := by
    rintro u _ rfl σ' rfl
    refine wone (ws_ret (NV.use (nv_name 1 rfl) ?_))
    exact hq _ (Same.refl _)
  rcases hc with ⟨rfl, rfl⟩ | ⟨rfl, rfl, hn⟩
  · refine NV.use (nv_name 1 rfl) ?_
    refine (rv_fld (rv_name 0 rfl) h1 T.cl T.nb fl_became).use ?_
    refine ⟨be, _, rfl, DGet.k (k := Sum.inl v) h8, _, rfl, ?_⟩
    rw [kS_at, Option.isSome_map]
    cases e : bec.lookup v with
    | none =>
      have en : nowv bec v = v := by unfold nowv; rw [e]; rfl
      refine iteF ?_
      exact fin v e en.symm _ (by rw [en])
    | some u =>
      have en : nowv bec v = u := by unfold nowv; rw [e]; rfl
      refine iteT ?_
      refine wone (ws_set 1 scNow.nd ?_)
      refine we (pe_dget hr.u1 pe_w pe_w (fun _ _ => rfl)) ?_
      refine (rv_fld (rv_name 0 rfl) h1 T.cl T.nb fl_became).use ?_
      refine NV.use (nv_name 1 rfl) ?_
      refine ⟨be, .int u, rfl, ?_, 0, Nat.zero_lt_one, rfl, .inr ⟨rfl, by rw [en]; rfl, by rw [en]; exact hb _ (lookup_mem e)⟩⟩
      have := DGet.k (k := Sum.inl v) h8
      rw [kS_at, e] at this
      exact this
  · refine NV.use (nv_name 1 rfl) ?_
    refine (rv_fld (rv_name 0 rfl) h1 T.cl T.nb fl_became).use ?_
    refine ⟨be, _, rfl, DGet.k (k := Sum.inl (nowv bec v)) h8, _, rfl, ?_⟩
    rw [kS_at, Option.isSome_map, hn]
    refine iteF ?_
    exact fin _ hn rfl _ rfl
/-- is_there(table, row) -/
def spThere (P : Program) (w : World) (C : Addr) : Sp := fun vs H Q _ => ∃ p n book rows bec m O r v, vs = [.ref p, .int 0, v] ∧ Rep H (.ints r) v ∧ CAt P w C H p n book rows bec m O ∧ ∀ H', Same H H' → Q (.bl (decide (r ∈ rows))) H'
theorem scThere : FnScope ["self", "table", "row"] ["self", "table", "row"] (defScope sCIsThere) := ⟨rfl, rfl, rfl, by decide +kernel, rfl, by decide +kernel, by decide +kernel⟩
theorem ok_there (F : FnP K "is_there" "Chase.is_there" sCIsThere f fd) (T : Txt K mg C) : FnOk P w K mg base CX0 1 f fd ["self", "table", "row"] (spThere P w C) := by
  refine fnOk F scThere (fun vs H Q E h => ?_) fun cdv A outer s H vs Q E hr h => ?_
  · obtain ⟨p, n, book, rows, bec, m, O, r, v, rfl, _⟩ := h
    rfl
  obtain ⟨p, n, book, rows, bec, m, O, r, v, rfl, hv, c, hq⟩ := h
  obtain ⟨dx, w1, w2, tl, td, se, be, sl, xs, ss, h0, h1, h2, h3, h4, h5, h6, h7, h8, h9, h10⟩ := c.ex
  obtain ⟨a, rfl, ha⟩ := rep_ints.mp hv
  refine wone (ws_ret ?_)
  refine we (pe_cmpR (op_inX ?_) pe_w pe_w rfl) ?_
  · exact hr.u1
  refine NV.use (nv_name 2 rfl) ?_
  refine (rv_ixL (i := 0) (rv_fld (rv_name 0 rfl) h1 T.cl T.nt fl_tables) h4 (ev_name 1 rfl rep_int) rfl (rv_name 1 rfl)).use ?_
  refine ⟨td, xs, a, kx r, rfl, ⟨h5, h6⟩, rfl, by rw [kx_leV]; exact ha, ?_⟩
  have e : id (getX xs (kx r)).isSome = decide (r ∈ rows) := by
    rw [id, Bool.eq_iff_iff, getX_iff, h7, decide_eq_true_iff, List.mem_map]
    exact ⟨fun ⟨s, hs, e⟩ => kx_inj e ▸ hs, fun h => ⟨r, h, rfl⟩⟩
  rw [e]
  exact hq _ (Same.refl _)
/-- store() -/
def spStore (P : Program) (w : World) (C : Addr) : Sp := fun vs H Q _ => ∃ p n book rows bec m O, vs = [.ref p] ∧ CAt P w C H p n book rows bec m O ∧ 1 ≤ n ∧ (∀ r ∈ rows, r.length = n) ∧ rows.length ≤ 1000 ∧ ∀ v H', Same H H' → Rep H' (.tup [.tup ((sortR rows).map D.ints)]) v → Q v H'
theorem scStore : FnScope ["self", "rows"] ["self"] (defScope sCStore) := ⟨rfl, rfl, rfl, by decide +kernel, rfl, by decide +kernel, by decide +kernel⟩
theorem ok_store (F : FnP K "store" "Chase.store" sCStore f fd) (T : Txt K mg C) (B : Bi mg) : FnOk P w K mg base CX0 1 f fd ["self"] (spStore P w C) := by
  refine fnOk F scStore (fun vs H Q E h => ?_) fun cdv A outer s H vs Q E hr h => ?_
  · obtain ⟨p, n, book, rows, bec, m, O, rfl, _⟩ := h
    rfl
  obtain ⟨p, n, book, rows, bec, m, O, rfl, c, hn, hlen, hm, hq⟩ := h
  obtain ⟨dx, w1, w2, tl, td, se, be, sl, xs, ss, h0, h1, h2, h3, h4, h5, h6, h7, h8, h9, h10⟩ := c.ex
  have nd := scStore.nd
  refine wone (ws_ret ?_)
  refine we (pe_callTy call_tuple_of rfl B.tuple (by decide +kernel) (pa_cons pe_w pa_nil rfl) (by decide) (by decide) rfl rfl) ?_
  refine lc_one (j := 1) rfl nd (blkOk_by (N := ["self", "rows"]) (sc := defScope sCStore) (by decide +kernel)) (fun b => pgn 1 nd) ?_
  refine wi (pi_list pe_w) ?_
  refine (rv_fld (rv_name 0 rfl) h1 T.cl T.nt fl_tables).use ?_
  refine ⟨tl, rfl, ⟨_, SqL.of h4⟩, _, _, one_list (v := .ref td), fun D hD => ?_⟩
  have sD : Same H (upd H D (.lst [])) := same_new hD
  refine ⟨sD _ _ h4, fun b => ?_⟩
  refine we (pe_callTy call_tuple_of rfl B.tuple (by decide +kernel) (pa_cons pe_w pa_nil rfl) (by decide) (by decide) rfl rfl) ?_
  refine we (pe_callB (cr_sortedX ?_ rfl) rfl B.sorted rfl (pa_cons pe_w pa_nil rfl) (by decide) (by decide) rfl rfl) ?_
  · exact hr.units
  refine NV.use (nv_name 1 rfl) ?_
  refine ⟨td, xs, rfl, ⟨sD _ _ h5, h6.tm (Same.tm sD)⟩, ?_, fun l ys hl rl => ?_⟩
  · rw [keys_rows h7]
    refine sortOk_rows (fun r hr e => ?_) (by omega)
    have := hlen r hr
    rw [e] at this
    have : (0 : Nat) = n := this
    omega
  rw [keys_rows h7, sortR_eq] at rl
  have sl' : Same (upd H D (.lst [])) (upd (upd H D (.lst [])) l (.lst ys)) := same_new hl
  refine ⟨l, ys, rfl, .inl ⟨SqL.of upd_same, fun t ht => ?_⟩⟩
  have st : Same (upd (upd H D (.lst [])) l (.lst ys)) (upd (upd (upd H D (.lst [])) l (.lst ys)) t (.tup ys)) := same_new ht
  have sall := sl'.trans st
  have hDD : (upd (upd (upd H D (.lst [])) l (.lst ys)) t (.tup ys)) D = some (.lst []) := sall _ _ upd_same
  have smut : Same H (upd (upd (upd (upd H D (.lst [])) l (.lst ys)) t (.tup ys)) D (.lst [.ref t])) := same_mut (sD.trans sall) hD
  refine ⟨hDD, smut _ _ h4, D, _, rfl, .inl ⟨SqL.of upd_same, fun u hu => ?_⟩⟩
  have su := same_new (o := .tup [.ref t]) hu
  refine hq _ _ (smut.trans su) ⟨u, [.ref t], rfl, upd_same, .one ⟨t, ys, rfl, su _ _ ?_, ?_⟩⟩
  · have htD : t ≠ D := fun e => by
      rw [e, sl' _ _ upd_same] at ht
      cases ht
    rw [upd_ne htD]
    exact upd_same
  · have tmD : Tm (upd (upd (upd H D (.lst [])) l (.lst ys)) t (.tup ys)) (upd (upd (upd (upd H D (.lst [])) l (.lst ys)) t (.tup ys)) D (.lst [.ref t])) := fun x zs hx => by
      have hxD : x ≠ D := fun e => by
        rw [e, hDD] at hx
        cases hx
      rw [upd_ne hxD]
      exact hx
    exact (((rl.mono sl').mono st).tm tmD).mono su
end
end Nr
/-! Chase: replace. -/
namespace Nr
open PySem PySem.Spec L2
open PyProof.Rows hiding St

theorem Fram.refl {H : Hp} {O : List Addr} : Fram H H O := fun _ _ h _ => h
theorem Fram.same {H H1 H2 : Hp} {O : List Addr} (f : Fram H H1 O) (s : Same H1 H2) : Fram H H2 O := fun a u h n => s a u (f a u h n)
theorem Fram.own {H H1 : Hp} {O : List Addr} {a : Addr} {o : HO} (f : Fram H H1 O) (h : a ∈ O) : Fram H (upd H1 a o) O := fun b u hb n => by
  rw [upd_ne (fun e : b = a => n (by rw [e]; exact h))]
  exact f b u hb n
theorem Fram.new {H H1 : Hp} {O : List Addr} {a : Addr} {o : HO} (f : Fram H H1 O) (h : H a = none) : Fram H (upd H1 a o) O := fun b u hb n => by
  rw [upd_ne (ne_of_none hb h)]
  exact f b u hb n
theorem Fram.free {H H1 : Hp} {O : List Addr} {a : Addr} (f : Fram H H1 O) (k : ∀ b ∈ O, H1 b ≠ none) (h : H1 a = none) : H a = none := by
  cases e : H a with
  | none => rfl
  | some u =>
    by_cases q : a ∈ O
    · exact absurd h (k a q)
    · rw [f a u e q] at h
      cases h
theorem tm_upd {H : Hp} {a : Addr} {o u : HO} (h : H a = some o) (k : ∀ xs, o ≠ .tup xs) : Tm H (upd H a u) := fun b ys hb => by
  rw [upd_ne fun e => ?_]
  · exact hb
  · rw [e, h] at hb
    exact k ys (Option.some.inj hb)
theorem addN_map {α β : Type} [DecidableEq α] [DecidableEq β] {f : α → β} (h : ∀ x y, f x = f y → x = y) (l : List α) (x : α) : addN (l.map f) (f x) = (addN l x).map f := by
  unfold addN
  have : f x ∈ l.map f ↔ x ∈ l := by
    rw [List.mem_map]
    exact ⟨fun ⟨y, hy, e⟩ => h y x e ▸ hy, fun hx => ⟨x, hx, rfl⟩⟩
  by_cases q : x ∈ l
  · rw [if_pos (this.mpr q), if_pos q]
  · rw [if_neg (fun z => q (this.mp z)), if_neg q, List.map_append]
    rfl
theorem dedupF_map {α β : Type} [DecidableEq α] [DecidableEq β] {f : α → β} (h : ∀ x y, f x = f y → x = y) (l : List α) : dedupF (l.map f) = (dedupF l).map f := by
  unfold dedupF
  have : ∀ (l acc : List α), (l.map f).foldl addN (acc.map f) = (l.foldl addN acc).map f := fun l => by
    induction l with
    | nil => intro acc; rfl
    | cons x l ih =>
      intro acc
      rw [List.map_cons, List.foldl_cons, List.foldl_cons, addN_map h]
      exact ih _
  exact this l []
/-- a loop over one item -/
theorem forW1 {X : Cx} {g : TG} {body : List Stmt} {DE : Ends} {J : It} {C : Hp → Prop} {v : V} {σ : L2.St} {H : Hp} (one : OneJ J C v) (h0 : C H)
    (turn : g v σ H fun σ2 H2 => WSs X body { DE with nx := fun σ' H' => C H' ∧ DE.nx σ' H', ct := fun σ' H' => C H' ∧ DE.nx σ' H', bk := DE.nx } σ2 H2) : ForW X g body DE J σ H := by
  refine ⟨fun i m σ' H' => (i = 0 ∧ m = 1 ∧ σ' = σ ∧ H' = H) ∨ (i = 1 ∧ m = 0 ∧ C H' ∧ DE.nx σ' H'), ⟨1, .inl ⟨rfl, rfl, rfl, rfl⟩⟩, ?_⟩
  rintro i m σ' H' (⟨rfl, rfl, rfl, rfl⟩ | ⟨rfl, rfl, c1, q1⟩)
  · obtain ⟨go, y, _⟩ := one _ h0
    refine .inr ⟨go, fun σ' H' => C H' ∧ DE.nx σ' H', fun σ' H' z => ⟨0, Nat.zero_lt_one, .inr ⟨rfl, rfl, z⟩⟩, fun x H' hy => ?_⟩
    obtain ⟨e1, e2⟩ := y x H' hy
    rw [e1, e2]
    exact turn
  · exact .inl ⟨(one _ c1).2.2, q1⟩
section
variable {P : Program} {w : World} {K : PySem.W.Frag} {mg : Str → Option Value} {base : Heap} {f C : Addr} {fd : FuncData}
/-- replace(lesser, greater) -/
def spReplace (P : Program) (w : World) (C : Addr) : Sp := fun vs H Q _ => ∃ p n book rows bec m O l g, vs = [.ref p, .int l, .int g] ∧ CAt P w C H p n book rows bec m O ∧ bec.lookup l = none ∧ bec.length ≤ 1000 ∧ rows.length ≤ 1000 ∧ (∀ r ∈ rows, r.length ≤ 1000) ∧
  ∀ O' H' rows', CAt P w C H' p n book rows' (bec ++ [(l, g)]) m O' → Fram H H' O → (∀ a ∈ O', a ∈ O ∨ H a = none) → rows'.Nodup → (∀ r, r ∈ rows' ↔ ∃ r0 ∈ rows, r = r0.map (rep l g)) → Q .non H'
abbrev nReplace : List Str := ["self", "lesser", "greater", "tables", "rows", "changed", "row", "value"]
theorem scReplace : FnScope nReplace ["self", "lesser", "greater"] (defScope sCReplace) := ⟨rfl, rfl, rfl, by decide +kernel, rfl, by decide +kernel, by decide +kernel⟩
theorem ok_replace (F : FnP K "replace" "Chase.replace" sCReplace f fd) (T : Txt K mg C) (B : Bi mg) : FnOk P w K mg base CX0 1 f fd ["self", "lesser", "greater"] (spReplace P w C) := by
  refine fnOk F scReplace (fun vs H Q E h => ?_) fun cdv A outer s H vs Q E hr h => ?_
  · obtain ⟨p, n, book, rows, bec, m, O, l, g, rfl, _⟩ := h
    rfl
  obtain ⟨p, n, book, rows, bec, m, O, l, g, rfl, c, hbl, hb1, hm, hrl, hq⟩ := h
  obtain ⟨dx, w1, w2, tl, td, se, be, sl, xs, ss, h0, h1, h2, h3, h4, h5, h6, h7, h8, h9, h10, h11⟩ := c.ex
  have nd := scReplace.nd
  have vb : valV (becK bec) (Sum.inl l : Key) = none := by rw [kS_at, hbl]; rfl
  have ebk : putK (becK bec) (Sum.inl l : Key) (V.int g) = becK (bec ++ [(l, g)]) := by
    rw [putK_new _ vb]
    unfold becK
    rw [List.map_append]
    rfl
  have pbe : p ≠ be := ne_of h1 h8 (by intro z; cases z)
  have tlbe : tl ≠ be := ne_of h4 h8 (by intro z; cases z)
  have tdbe : td ≠ be := ne_of h5 h8 (by intro z; cases z)
  have slbe : sl ≠ be := ne_of h9 h8 (by intro z; cases z)
  have ptd : p ≠ td := ne_of h1 h5 (by intro z; cases z)
  have tltd : tl ≠ td := ne_of h4 h5 (by intro z; cases z)
  have sltd : sl ≠ td := ne_of h9 h5 (by intro z; cases z)
  have ptl : p ≠ tl := ne_of h1 h4 (by intro z; cases z)
  have psl : p ≠ sl := ne_of h1 h9 (by intro z; cases z)
  refine wcons ?_
  refine ws (ps_dput hr.u1 pe_w pe_w pe_w rfl) ?_
  refine NV.use (nv_name 2 rfl) ?_
  refine (rv_fld (rv_name 0 rfl) h1 T.cl T.nb fl_became).use ?_
  refine NV.use (nv_name 1 rfl) ?_
  refine ⟨be, _, rfl, DPut.k (k := Sum.inl l) h8 ?_, ?_⟩
  · unfold becK
    rw [List.length_map, sizeLine_eq]
    omega
  rw [ebk]
  have f1 : Fram H (upd H be (.dK (becK (bec ++ [(l, g)])))) O := Fram.refl.own (by rw [h0]; simp)
  have tm1 : Tm H (upd H be (.dK (becK (bec ++ [(l, g)])))) := c.tm f1
  refine wcons ?_
  refine ws_set 3 nd (we_el (el_lst ea_nil (by show 0 ≤ sizeLine; decide)) fun t3 vs3 H2 ht3 s2 ht3' r3 => ?_)
  obtain rfl : vs3 = [] := r3
  have f2 := f1.same s2
  have b1 : H2 p = some (.ins C dx (fl w1 w2 (.ref tl) se (.ref be) (.ref sl))) := s2 _ _ (by rw [upd_ne pbe]; exact h1)
  have b4 : H2 tl = some (.lst [.ref td]) := s2 _ _ (by rw [upd_ne tlbe]; exact h4)
  have b5 : H2 td = some (DO P w td xs) := s2 _ _ (by rw [upd_ne tdbe]; exact h5)
  have b8 : H2 be = some (.dK (becK (bec ++ [(l, g)]))) := s2 _ _ upd_same
  have b9 : H2 sl = some (.lst ss) := s2 _ _ (by rw [upd_ne slbe]; exact h9)
  have ht3n : H t3 = none := f1.free (fun b hb => by
    rw [h0] at hb
    simp only [List.mem_cons, List.not_mem_nil, or_false] at hb
    rcases hb with rfl | rfl | rfl | rfl | rfl
    · rw [upd_ne pbe, h1]; intro z; cases z
    · rw [upd_ne tlbe, h4]; intro z; cases z
    · rw [upd_ne tdbe, h5]; intro z; cases z
    · rw [upd_same]; intro z; cases z
    · rw [upd_ne slbe, h9]; intro z; cases z) ht3
  have t3p : p ≠ t3 := ne_of_none h1 ht3n
  have t3tl : tl ≠ t3 := ne_of_none h4 ht3n
  have t3td : td ≠ t3 := ne_of_none h5 ht3n
  have t3be : be ≠ t3 := ne_of_none h8 ht3n
  have t3sl : sl ≠ t3 := ne_of_none h9 ht3n
  refine wcons ?_
  refine ws_for PassesOwn.never rfl (pgn 4 nd) (wi (pi_list pe_w) ?_)
  refine (rv_fld (rv_name 0 rfl) b1 T.cl T.nt fl_tables).use ?_
  refine ⟨tl, rfl, ⟨_, SqL.of b4⟩, forW1 (one_list (v := .ref td)) b4 ?_⟩
  refine wcons ?_
  refine ws (ps_lock ps_w) ⟨td, _, b5, trivial, fun od => ?_⟩
  have tmL : Tm H2 (upd H2 td (.frz od (DO P w td xs))) := tm_do b5
  have kL : IsF (cxOf CX0 P w K mg base nReplace "Chase.replace" (defScope sCReplace) f cdv A outer s H E).nox (upd H2 td (.frz od (DO P w td xs))) td od xs := ⟨upd_same, h6.tm ((tm1.trans (Same.tm s2)).trans tmL)⟩
  refine ws_setL 5 (el_mapR (rows := rows) 6 (fun r => .ints (r.map (rep l g))) nd (blkOk_by (N := nReplace) (sc := defScope sCReplace) (by decide +kernel)) (src_keys (rv_name 4 rfl) kL h7) hm (fun r hr v H3 s3 rv b => ?_)) fun cl vs4 H4 hcl s4 h4' r4 => ?_
  · refine EV.to (ev_tuple (ELS.el (el_mapI (is := r) 7 (fun i => .int (rep l g i)) nd (blkOk_by (N := nReplace) (sc := relS _ (defScope sCReplace)) (by decide +kernel)) (src_tup (ev_name 6 rfl rv)) (hrl r hr) (fun i hi H4 s4 b2 => ev_if (et_eqI (ev_name 7 rfl rep_int) (ev_name 1 rfl rep_int)) (fun e => ?_) fun e => ?_))) rfl B.tuple) ?_
    · have e := of_decide_eq_true e
      unfold rep
      rw [if_pos e]
      exact ev_name 2 rfl rep_int
    · have e := of_decide_eq_false e
      unfold rep
      rw [if_neg e]
      exact ev_name 7 rfl rep_int
    · rw [D.ints, List.map_map]
      rfl
  refine ⟨s4 _ _ upd_same, ?_⟩
  have tdcl : td ≠ cl := ne_of_none upd_same hcl
  have r4' : RepL (upd H4 td (DO P w td xs)) (rows.map fun r => .ints (r.map (rep l g))) vs4 := r4.tm (tm_upd (s4 _ _ upd_same) (by intro xs z; cases z))
  have s5 : Same H2 (upd H4 td (DO P w td xs)) := same_lock b5 s4
  refine wone (ws_expr ?_)
  refine we_append (WE.mono (NV.use (nv_name 3 rfl) (Q := fun v H' => v = .ref t3 ∧ H' = upd H4 td (DO P w td xs)) ⟨rfl, rfl⟩) ?_)
  rintro _ _ ⟨rfl, rfl⟩
  refine ⟨⟨t3, _, rfl, s5 _ _ ht3'⟩, ?_⟩
  refine we_comp (cp_dictX hr.u1 rfl nd (blkOk_by (N := nReplace) (sc := defScope sCReplace) (own := [("row", 6)]) (by decide +kernel)) (fun s H C cl fp => pgn 6 nd) (fun _ => rfl)) rfl ?_
  refine dictX_sem (ks := (rows.map fun r => r.map (rep l g)).map kx) (dv := .bl true) (src_lv ((lv_name 5 rfl (by rw [upd_ne tdcl.symm]; exact h4') r4').to ?_)) (fun v => rfl) (by rw [List.length_map, List.length_map, sizeLine_eq]; omega) (fun b H1 a v r => ev_name 6 rfl r) (fun b τ H1 => ev_bl) fun D xs2 H6 hD s6 isD ek => ?_
  · rw [List.map_map, List.map_map]
    exact List.map_congr_left fun r _ => (keyD_kx _).symm
  refine ⟨t3, [], rfl, s6 _ _ (s5 _ _ ht3'), by show 0 < sizeLine; decide, ?_⟩
  rw [List.nil_append]
  have c1 := s6 _ _ (s5 _ _ b1)
  have c4 := s6 _ _ (s5 _ _ b4)
  have c8 := s6 _ _ (s5 _ _ b8)
  have c9 := s6 _ _ (s5 _ _ b9)
  have f6 := (f2.same s5).same s6
  have hDn : H D = none := (f2.same s5).free (fun b hb => by
    rw [h0] at hb
    simp only [List.mem_cons, List.not_mem_nil, or_false] at hb
    rcases hb with rfl | rfl | rfl | rfl | rfl
    · rw [s5 _ _ b1]; intro z; cases z
    · rw [s5 _ _ b4]; intro z; cases z
    · rw [s5 _ _ b5]; intro z; cases z
    · rw [s5 _ _ b8]; intro z; cases z
    · rw [s5 _ _ b9]; intro z; cases z) hD
  have t3D : t3 ≠ D := ne_of_none (s5 _ _ ht3') hD
  refine ⟨by rw [upd_ne t3tl]; exact c4, ?_⟩
  refine wone (ws_fld (WE.mono (NV.use (nv_name 3 rfl) (Q := fun v H' => v = .ref t3 ∧ H' = upd H6 t3 (.lst [.ref D])) ⟨rfl, rfl⟩) ?_) T.cl T.nt)
  rintro _ _ ⟨rfl, rfl⟩
  refine NV.use (nv_name 0 rfl) ?_
  refine ⟨p, dx, _, rfl, (by rw [upd_ne t3p]; exact c1), (by show 7 < 1000; decide), ?_⟩
  rw [fl_put]
  have f7 : Fram H (upd (upd H6 t3 (.lst [.ref D])) p (.ins C dx (fl w1 w2 (.ref t3) se (.ref be) (.ref sl)))) O := (f6.new ht3n).own (by rw [h0]; simp)
  have tm7 := c.tm f7
  have pD : p ≠ D := ne_of_none h1 hDn
  have tmx : Tm H6 (upd (upd H6 t3 (.lst [.ref D])) p (.ins C dx (fl w1 w2 (.ref t3) se (.ref be) (.ref sl)))) := Tm.trans (tm_upd (s6 _ _ (s5 _ _ ht3')) (by intro xs z; cases z)) (tm_upd (o := .ins C dx (fl w1 w2 (.ref tl) se (.ref be) (.ref sl))) (by rw [upd_ne t3p]; exact c1) (by intro xs z; cases z))
  refine hq [p, t3, D, be, sl] _ (dedupF (rows.map fun r => r.map (rep l g))) ⟨dx, w1, w2, t3, D, se, be, sl, xs2, ss, rfl, upd_same, h2.tm tm7, h3.tm tm7, ?_, ?_, isD.ks.tm tmx, ?_, ?_, ?_, h10, t3sl.symm⟩ f7 ?_ (dedupF_nodup _) fun r => ?_
  · rw [upd_ne t3p.symm]
    exact upd_same
  · rw [upd_ne pD.symm, upd_ne t3D.symm]
    exact isD.ob
  · rw [ek]
    exact dedupF_map (fun a b e => kx_inj e) _
  · rw [upd_ne pbe.symm, upd_ne t3be]
    exact c8
  · rw [upd_ne psl.symm, upd_ne t3sl]
    exact c9
  · intro a ha
    simp only [List.mem_cons, List.not_mem_nil, or_false] at ha
    rcases ha with rfl | rfl | rfl | rfl | rfl
    · exact .inl (by rw [h0]; simp)
    · exact .inr ht3n
    · exact .inr hDn
    · exact .inl (by rw [h0]; simp)
    · exact .inl (by rw [h0]; simp)
  · rw [dedupF_mem, List.mem_map]
    exact ⟨fun ⟨a, ha, e⟩ => ⟨a, ha, e.symm⟩, fun ⟨a, ha, e⟩ => ⟨a, ha, e.symm⟩⟩
end
end Nr
/-! Chase: put_in, make_equal. -/
namespace Nr
open PySem PySem.Spec L2
open PyProof.Rows hiding St

theorem leD_int (x y : Int) : leD (.int x) (.int y) = decide (x ≤ y) := by
  rw [leD_eq]
  have e : PySem.W.sortLe (PyProof.Rows.listOrd PyProof.Rows.itemOrd) false keyT (.int x) (.int y) = !(PyProof.Rows.lexLt itemOrd [.inl y] [.inl x]) := rfl
  rw [e]
  have e2 : PyProof.Rows.lexLt itemOrd [.inl y] [.inl x] = (decide (y < x) || (!decide (x < y) && false)) := rfl
  rw [e2, Bool.and_false, Bool.or_false, ← decide_not]
  congr 1
  exact propext Int.not_lt
theorem sortD_two (x y : Int) : sortD [.int x, .int y] = [.int (min x y), .int (max x y)] := by
  unfold sortD
  by_cases h : x ≤ y
  · rw [Int.min_eq_left h, Int.max_eq_right h]
    rw [List.mergeSort_of_pairwise]
    simp [leD_int, h]
  · have h : y ≤ x := by omega
    rw [Int.min_eq_right h, Int.max_eq_left h]
    have p : [D.int x, .int y].Perm [.int y, .int x] := List.Perm.swap _ _ _
    have := sortD_perm p (fun a ha b hb e => ?_)
    · unfold sortD at this
      rw [this, List.mergeSort_of_pairwise]
      simp [leD_int, h]
    · simp only [List.mem_cons, List.not_mem_nil, or_false] at ha hb
      rcases ha with rfl | rfl <;> rcases hb with rfl | rfl <;> first | rfl | (have := List.cons.inj e; exact congrArg D.int (Sum.inl.inj this.1))
theorem sortOk_two (x y : Int) : SortOk [.int x, .int y] := by
  refine ⟨fun d hd d' hd' => ?_, .inr fun d hd => ?_, fun d hd => ?_, by show 2 ≤ 100000; decide⟩
  · simp only [List.map_cons, List.map_nil, List.mem_cons, List.not_mem_nil, or_false] at hd hd'
    rcases hd with rfl | rfl <;> rcases hd' with rfl | rfl <;> rfl
  · simp only [List.map_cons, List.map_nil, List.mem_cons, List.not_mem_nil, or_false] at hd
    rcases hd with rfl | rfl <;> exact ⟨(fun z => nomatch z), fun xs z => nomatch z⟩
  · simp only [List.mem_cons, List.not_mem_nil, or_false] at hd
    rcases hd with rfl | rfl <;> simp [toPy, PyData.depth]
section
variable {X : Cx} {e a b self : Expr} {es : List Expr} {σ : L2.St} {H H' : Hp} {v : V} {vs : List V} {l : Addr} {pos p1 p2 p3 p4 p5 : Pos}
/-- values that come with no change of the heap -/
def NVA (X : Cx) (es : List Expr) (σ : L2.St) (vs : List V) : Prop := ∀ (H : Hp) (Q : List V → Hp → Prop), Q vs H → WA X es σ H Q
theorem nva_nil : NVA X [] σ [] := fun H Q q => wa pa_nil q
theorem nva_cons (h : NV X e σ v) (hs : NVA X es σ vs) (he : starEach (e :: es) X.env = (false, eval e X.env) :: starEach es X.env := by rfl) : NVA X (e :: es) σ (v :: vs) := fun H Q q => wa (pa_cons pe_w pa_w he) (h.use (hs H _ q))
theorem nv_str {i : Str} {j} : NV X (.Constant (.str i) j pos) σ (.str i) := fun H Q q => we pe_str q
/-- l[i], the heap may grow -/
theorem we_ixLs {Q : VK} {i : Nat} (ha : RV X a σ H (.ref l)) (hl : H l = some (.lst vs)) (hb : EV X b σ H (.int (i : Int))) (hv : vs[i]? = some v) (q : ∀ H2, Same H H2 → Q v H2) (hs : PlainIx b := by exact fun _ _ => rfl) : WE X (.Subscript a b pos) σ H Q := by
  refine we (pe_ix ix_list pe_w pe_w hs) ?_
  refine ha.use (hb.now.mono fun y H2 ⟨s, ry⟩ => ?_)
  exact ⟨l, vs, (i : Int), v, rfl, ry, SqL.of (s _ _ hl), atI_nat hv, q H2 s⟩
/-- sorted(tables[0]) -/
theorem el_sortedT {tl td : Addr} {xs : XS} {rows : List Row} (ha : RV X a σ H (.ref tl)) (htl : H tl = some (.lst [.ref td])) (hb : EV X b σ H (.int 0)) (htd : H td = some (DO X.prog X.w td xs)) (hk : KeysAt H xs) (e : xs.map (·.1) = rows.map kx) (hn : ∀ r ∈ rows, r ≠ []) (hl : rows.length ≤ 1000)
    (hu : X.A.units + 64 < cLine) (hc : X.calm = true) (hg : Gl X "sorted") (hm : X.mg "sorted" = none) (hs : PlainIx b := by exact fun _ _ => rfl) (he : starEach [.Subscript a b p2] X.env = (false, eval (.Subscript a b p2) X.env) :: starEach [] X.env := by rfl) :
    EL X (.Call (.Name "sorted" p1) [.Subscript a b p2] [] pos) σ H ((sortR rows).map D.ints) := fun H1 s => by
  refine we (pe_callB (cr_sortedX hu hc) hg hm (by decide +kernel) (pa_cons pe_w pa_nil he) (by decide) (by decide) he rfl) ?_
  refine we_ixLs (i := 0) (ha.mono s) (s _ _ htl) (hb.mono s) rfl (fun H2 s2 => ?_) hs
  refine ⟨td, xs, rfl, ⟨s2 _ _ (s _ _ htd), hk.tm (Same.tm (s.trans s2))⟩, ?_, fun q ys hq rl => ?_⟩
  · rw [keys_rows e]
    exact sortOk_rows hn (by omega)
  · rw [keys_rows e, sortR_eq] at rl
    exact ⟨q, ys, rfl, Same.free s2 hq, s2.trans (same_new hq), upd_same, rl.mono (same_new hq)⟩
variable {P : Program} {w : World} {C : Addr} {p : Addr} {n : Nat} {book : List Dep} {rows : List Row} {bec : List (Int × Int)} {m : Nat} {O : List Addr}
/-- self.steps.append((..)) -/
theorem ws_steps {DE : Ends} {k : Nat} (T : Txt X.K X.mg C) (c : CAt P w C H p n book rows bec m O) (hm : m ≤ 1000) (hself : RV X self σ H (.ref p)) (ht : NVA X es σ vs) (hvs : vs.length ≤ 100) (q : ∀ H', CAt P w C H' p n book rows bec (m + 1) O → Fram H H' O → (∀ d v, Rep H d v → Rep H' d v) → DE.nx σ H')
    (hbf : attributeBase self "steps" X.env (eval self X.env) = eval self X.env := by rfl)
    (hbase : attributeBase (.Attribute self "steps" p1) "append" X.env (eval (.Attribute self "steps" p1) X.env) = eval (.Attribute self "steps" p1) X.env := by rfl)
    (hfew : ((backTo p4 (starEach [.Tuple es k p3] X.env)).all (fun x => !x.1) && (backToKw p4 (keywordEach [] X.env)).all (fun x => x.1.isSome)
      && decide ([(.Tuple es k p3 : Expr)].length + ([] : List Keyword).length + (if ([] : List Keyword).isEmpty then 0 else 1) < 30)) = true := by rfl)
    (hline : (p2.endLine == p4.line) = true := by rfl) (hs : starEach [.Tuple es k p3] X.env = (false, eval (.Tuple es k p3) X.env) :: starEach [] X.env := by rfl)
    (hsw : swapsWith (.Call (.Attribute (.Attribute self "steps" p1) "append" p2) [.Tuple es k p3] [] p4) none p5.line X.env = pure false := by rfl) :
    WS X (.Expr (.Call (.Attribute (.Attribute self "steps" p1) "append" p2) [.Tuple es k p3] [] p4) p5) DE σ H := by
  obtain ⟨dx, w1, w2, tl, td, se, be, sl, xs, ss, h0, h1, h2, h3, h4, h5, h6, h7, h8, h9, h10, h11⟩ := c.ex
  refine ws_expr ?_ hsw
  refine we_append ?_ hbase hfew hline hs
  refine (rv_fld hself h1 T.cl T.np fl_steps hbf).use ⟨⟨sl, ss, rfl, h9⟩, ?_⟩
  refine we (pe_tup pa_w) ?_
  refine ht H _ ⟨Nat.le_trans hvs (by rw [sizeLine_eq]; decide), fun t htn => ?_⟩
  have tsl : sl ≠ t := ne_of_none h9 htn
  have s1 : Same H (upd H t (.tup vs)) := same_new htn
  refine ⟨sl, ss, rfl, s1 _ _ h9, by rw [sizeLine_eq]; omega, ?_⟩
  have f : Fram H (upd (upd H t (.tup vs)) sl (.lst (ss ++ [.ref t]))) O := (Fram.refl.new htn).own (by rw [h0]; simp)
  have tm := c.tm f
  have psl : p ≠ sl := ne_of h1 h9 (by intro z; cases z)
  have tdsl : td ≠ sl := ne_of h5 h9 (by intro z; cases z)
  have besl : be ≠ sl := ne_of h8 h9 (by intro z; cases z)
  refine q _ ⟨dx, w1, w2, tl, td, se, be, sl, xs, ss ++ [.ref t], h0, ?_, h2.tm tm, h3.tm tm, ?_, ?_, h6.tm tm, h7, ?_, upd_same, ?_, h11⟩ f fun d v r => r.tm tm
  · rw [upd_ne psl]; exact s1 _ _ h1
  · rw [upd_ne h11]; exact s1 _ _ h4
  · rw [upd_ne tdsl]; exact s1 _ _ h5
  · rw [upd_ne besl]; exact s1 _ _ h8
  · rw [List.length_append]; exact Nat.succ_le_succ h10
end
section
variable {P : Program} {w : World} {K : PySem.W.Frag} {mg : Str → Option Value} {base : Heap} {f C : Addr} {fd : FuncData}
theorem book_at {book : List Dep} {i : Nat} {d : Dep} (h : book[i]? = some d) : (book.map depD)[i]? = some (depD d) := by rw [List.getElem?_map, h]; rfl
/-- put_in(index, rows, missing) -/
def spPutIn (P : Program) (w : World) (C : Addr) : Sp := fun vs H Q _ => ∃ p n book rows bec m O i d v3 v4 r, vs = [.ref p, .int (i : Nat), v3, v4] ∧ CAt P w C H p n book rows bec m O ∧ book[i]? = some d ∧ Rep H (.ints r) v4 ∧ r ∉ rows ∧ m ≤ 1000 ∧ rows.length ≤ 1000 ∧
  ∀ H', CAt P w C H' p n book (rows ++ [r]) bec (m + 1) O → Fram H H' O → Q .non H'
theorem scPutIn : FnScope ["self", "index", "rows", "missing"] ["self", "index", "rows", "missing"] (defScope sCPutIn) := ⟨rfl, rfl, rfl, by decide +kernel, rfl, by decide +kernel, by decide +kernel⟩
theorem ok_putIn (F : FnP K "put_in" "Chase.put_in" sCPutIn f fd) (T : Txt K mg C) : FnOk P w K mg base CX0 1 f fd ["self", "index", "rows", "missing"] (spPutIn P w C) := by
  refine fnOk F scPutIn (fun vs H Q E h => ?_) fun cdv A outer s H vs Q E hr h => ?_
  · obtain ⟨p, n, book, rows, bec, m, O, i, d, v3, v4, r, rfl, _⟩ := h
    rfl
  obtain ⟨p, n, book, rows, bec, m, O, i, d, v3, v4, r, rfl, c, hd, hv, hnr, hm, hrl, hq⟩ := h
  refine wcons ?_
  refine ws_steps T c hm (rv_name 0 rfl) (nva_cons nv_str (nva_cons (nv_name 1 rfl) (nva_cons (nv_name 2 rfl) nva_nil))) (by show 3 ≤ 100; decide) fun H1 c1 f1 t1 => ?_
  obtain ⟨dx, w1, w2, tl, td, se, be, sl, xs, ss, h0, h1, h2, h3, h4, h5, h6, h7, h8, h9, h10, h11⟩ := c1.ex
  refine wone (ws_asg (pg_sub pe_w pe_w (set_X ?_)) ?_)
  · exact hr.u1
  refine we_ev ev_bl fun vt H2 s2 _ => ?_
  refine we_ixLs (i := 0) (rv_fld (rv_name 0 rfl) (s2 _ _ h1) T.cl T.nt fl_tables) (s2 _ _ h4) (ev_ixT (i := 1) (ev_ixT (i := i) ((rv_fld (rv_name 0 rfl) (s2 _ _ h1) T.cl T.nk fl_book).ev (h3.mono s2)) (ev_name 1 rfl rep_int) (book_at hd) (fun _ _ => rfl)) ev_int rfl (fun _ _ => rfl)) rfl fun H3 s3 => ?_
  refine NV.use (nv_name 3 rfl) ?_
  have s13 := s2.trans s3
  obtain ⟨a, rfl, ha⟩ := rep_ints.mp ((t1 _ _ hv).mono s13)
  have g5 := s13 _ _ h5
  refine ⟨td, xs, a, kx r, rfl, ⟨g5, h6.tm (Same.tm s13)⟩, rfl, by rw [kx_leV]; exact ha, ?_, ?_⟩
  · have := congrArg List.length h7
    rw [List.length_map, List.length_map] at this
    rw [sizeLine_eq]
    omega
  have kn : getX xs (kx r) = none := by
    rw [getX_none]
    intro x hx e
    have : x.1 ∈ rows.map kx := by rw [← h7]; exact List.mem_map_of_mem hx
    rw [e] at this
    obtain ⟨y, hy, e2⟩ := List.mem_map.mp this
    exact hnr (kx_inj e2 ▸ hy)
  have f2 : Fram H (upd H3 td (DO P w td (putX xs (kx r) a vt))) O := (f1.same s13).own (by rw [h0]; simp)
  have tm2 : Tm H3 (upd H3 td (DO P w td (putX xs (kx r) a vt))) := tm_do g5
  have tm13 := (Same.tm s13).trans tm2
  have ptd : p ≠ td := ne_of h1 h5 (by intro z; cases z)
  have tltd : tl ≠ td := ne_of h4 h5 (by intro z; cases z)
  have betd : be ≠ td := ne_of h8 h5 (by intro z; cases z)
  have sltd : sl ≠ td := ne_of h9 h5 (by intro z; cases z)
  refine hq _ ⟨dx, w1, w2, tl, td, se, be, sl, putX xs (kx r) a vt, ss, h0, ?_, h2.tm tm13, h3.tm tm13, ?_, upd_same, ((h6.tm (Same.tm s13)).put (by rw [kx_leV]; exact ha)).tm tm2, ?_, ?_, ?_, h10, h11⟩ f2
  · rw [upd_ne ptd]; exact s13 _ _ h1
  · rw [upd_ne tltd]; exact s13 _ _ h4
  · rw [putX_new kn, List.map_append, h7, List.map_append]
    rfl
  · rw [upd_ne betd]; exact s13 _ _ h8
  · rw [upd_ne sltd]; exact s13 _ _ h9
/-- make_equal(index, one, other) -/
def spMakeEq (P : Program) (w : World) (C : Addr) : Sp := fun vs H Q _ => ∃ p n book rows bec m O i d v3 v4 a b, vs = [.ref p, .int (i : Nat), v3, v4] ∧ CAt P w C H p n book rows bec m O ∧ book[i]? = some d ∧ Rep H (.ints a) v3 ∧ Rep H (.ints b) v4 ∧ a.length = n ∧ b.length = n ∧ DepOk n d ∧ d.R.length ≤ 1000 ∧
  (∃ c ∈ d.R, cel a c ≠ cel b c) ∧ (∀ c ∈ d.R, cel a c ≠ cel b c → min (cel a c) (cel b c) < 0 ∧ bec.lookup (min (cel a c) (cel b c)) = none) ∧ bec.length ≤ 1000 ∧ rows.length ≤ 1000 ∧ (∀ r ∈ rows, r.length ≤ 1000) ∧ m ≤ 1000 ∧
  ∀ c ∈ d.R, cel a c ≠ cel b c → ∀ O' H' rows', CAt P w C H' p n book rows' (bec ++ [(min (cel a c) (cel b c), max (cel a c) (cel b c))]) (m + 1) O' → Fram H H' O → (∀ x ∈ O', x ∈ O ∨ H x = none) → rows'.Nodup →
    (∀ r, r ∈ rows' ↔ ∃ r0 ∈ rows, r = r0.map (rep (min (cel a c) (cel b c)) (max (cel a c) (cel b c)))) → Q .non H'
abbrev nMakeEq : List Str := ["self", "index", "one", "other", "unlike", "values", "column"]
theorem scMakeEq : FnScope nMakeEq ["self", "index", "one", "other"] (defScope sCMakeEqual) := ⟨rfl, rfl, rfl, by decide +kernel, rfl, by decide +kernel, by decide +kernel⟩
theorem ok_makeEq (F : FnP K "make_equal" "Chase.make_equal" sCMakeEqual f fd) (T : Txt K mg C) (B : Bi mg) (G : OkM P w K mg base C 1 "replace" (spReplace P w C)) : FnOk P w K mg base CX0 2 f fd ["self", "index", "one", "other"] (spMakeEq P w C) := by
  refine fnOk F scMakeEq (fun vs H Q E h => ?_) fun cdv A outer s H vs Q E hr h => ?_
  · obtain ⟨p, n, book, rows, bec, m, O, i, d, v3, v4, a, b, rfl, _⟩ := h
    rfl
  obtain ⟨p, n, book, rows, bec, m, O, i, d, v3, v4, a, b, rfl, c, hd, ha, hb, hla, hlb, hok, hR, ⟨c0, hc0, hne0⟩, hmin, hbl, hrl, hrw, hm, hq⟩ := h
  have nd := scMakeEq.nd
  refine wcons ?_
  refine ws_steps T c hm (rv_name 0 rfl) (nva_cons nv_str (nva_cons (nv_name 1 rfl) (nva_cons (nv_name 2 rfl) (nva_cons (nv_name 3 rfl) nva_nil)))) (by show 4 ≤ 100; decide) fun H1 c1 f1 t1 => ?_
  have ha := t1 _ _ ha
  have hb := t1 _ _ hb
  obtain ⟨dx, w1, w2, tl, td, se, be, sl, xs, ss, h0, h1, h2, h3, h4, h5, h6, h7, h8, h9, h10, h11⟩ := c1.ex
  refine wcons ?_
  refine ws_setL 4 (el_filterN (cs := d.R) 6 (fun c => !decide (cel a c = cel b c)) (fun (c : Nat) => .int (c : Int)) nd (blkOk_by (N := nMakeEq) (sc := defScope sCMakeEqual) (by decide +kernel)) (src_tup (ev_ixT (i := 3) (ev_ixT (i := i) ((rv_fld (rv_name 0 rfl) h1 T.cl T.nk fl_book).ev h3) (ev_name 1 rfl rep_int) (book_at hd) (fun _ _ => rfl)) ev_int rfl (fun _ _ => rfl))) hR
    (fun c hc H2 s2 b => ⟨et_neI (ev_ixT (i := c) (ev_name 2 rfl (ha.mono s2)) (ev_name 6 rfl rep_int) (ints_at ?_) (fun _ _ => rfl)) (ev_ixT (i := c) (ev_name 3 rfl (hb.mono s2)) (ev_name 6 rfl rep_int) (ints_at ?_) (fun _ _ => rfl)), fun _ => ev_name 6 rfl rep_int⟩)) fun ul uvs H2 hul s2 h2' r2 => ?_
  · rw [hla]; exact hok.2 c hc
  · rw [hlb]; exact hok.2 c hc
  obtain ⟨u, us, eu⟩ : ∃ u us, d.R.filter (fun c => !decide (cel a c = cel b c)) = u :: us := by
    have : c0 ∈ d.R.filter (fun c => !decide (cel a c = cel b c)) := List.mem_filter.mpr ⟨hc0, by show (!decide (cel a c0 = cel b c0)) = true; rw [decide_eq_false hne0]; rfl⟩
    cases h : d.R.filter (fun c => !decide (cel a c = cel b c)) with
    | nil => rw [h] at this; cases this
    | cons u us => exact ⟨u, us, rfl⟩
  have hum : u ∈ d.R.filter (fun c => !decide (cel a c = cel b c)) := by rw [eu]; exact List.mem_cons_self
  have huR := (List.mem_filter.mp hum).1
  have hune : cel a u ≠ cel b u := by have := (List.mem_filter.mp hum).2; simpa using this
  obtain ⟨m1, m2⟩ := hmin u huR hune
  rw [eu] at r2
  have ha2 := ha.mono s2
  have hb2 := hb.mono s2
  refine wcons ?_
  refine ws_set 5 nd ?_
  refine we (pe_callB (cr_sortedL ?_) rfl B.sorted rfl (pa_cons pe_w pa_nil rfl) (by decide) (by decide) rfl rfl) ?_
  · exact hr.units
  refine we_el (el_lst (ea_cons (ev_ixT (i := u) (ev_name 2 rfl ha2) (ev_ixL (i := 0) (lv_name 4 rfl h2' r2) ev_int rfl) (ints_at (by rw [hla]; exact hok.2 u huR)) (fun _ _ => rfl)) (ea_cons (ev_ixT (i := u) (ev_name 3 rfl hb2) (ev_ixL (i := 0) (lv_name 4 rfl h2' r2) ev_int rfl) (ints_at (by rw [hlb]; exact hok.2 u huR)) (fun _ _ => rfl)) ea_nil)) (by show 2 ≤ sizeLine; decide)) fun l2 vs2 H3 hl2 s3 h3' r3 => ?_
  refine ⟨l2, vs2, _, rfl, .inl (SqL.of h3'), r3, sortOk_two _ _, fun q ys hqn ry => ?_⟩
  rw [sortD_two] at ry
  have s4 : Same H3 (upd H3 q (.lst ys)) := same_new hqn
  have s14 := (s2.trans s3).trans s4
  have ry' := ry.mono s4
  have c4 := c1.same s14
  refine wone (ws_ifB _ (et_ge (ev_ixL (i := 0) (lv_name 5 rfl upd_same ry') ev_int rfl) ev_int) (fun e => ?_) fun _ H5 s5 => ?_)
  · exact absurd (of_decide_eq_true e) (Int.not_le.mpr m1)
  have c5 := c4.same s5
  obtain ⟨dx', w1', w2', tl', td', se', be', sl', xs', ss', h0', h1', _⟩ := c5.ex
  refine wone (ws_expr ?_)
  refine we_meth G hr T.cl (rv_name 0 rfl) h1' (fl_no (by decide)) ?_
  refine WA.mono ((ea_cons (ev_ixL (i := 0) (lv_name 5 rfl (s5 _ _ upd_same) (ry'.mono s5)) ev_int rfl) (ea_cons (ev_ixL (i := 1) (lv_name 5 rfl (s5 _ _ upd_same) (ry'.mono s5)) ev_int rfl) ea_nil)) H5 (Same.refl _)) ?_
  rintro vs6 H6 ⟨s6, r6⟩
  obtain ⟨_, _, rfl, rx, _, _, rfl, ry2, hnil⟩ := r6
  obtain rfl := hnil
  rw [show _ = V.int _ from rx, show _ = V.int _ from ry2]
  have f6 : Fram H H6 O := ((f1.same s14).same s5).same s6
  refine ⟨p, n, book, rows, bec, m + 1, O, _, _, rfl, c5.same s6, m2, hbl, hrl, hrw, fun O' H7 rows' c7 f7 ow nd7 mem7 => ?_⟩
  refine hq u huR hune O' H7 rows' c7 (f6.trans f7 fun a ha => .inl ha) (fun x hx => ?_) nd7 mem7
  rcases ow x hx with z | z
  · exact .inl z
  · exact .inr (f6.free (fun b hb => by obtain ⟨u, hu⟩ := (c5.same s6).owns b hb; rw [hu]; intro z; cases z) z)
end
end Nr
/-! Chase: unequal. -/
namespace Nr
open PySem PySem.Spec L2
open PyProof.Rows hiding St

theorem getX_snoc {xs : XS} {k k' : LK} {a : Addr} {v : V} (h : getX xs k = none) : getX (xs ++ [(k, a, v)]) k' = if k' = k then some (a, v) else getX xs k' := by
  have := getX_none.mp h
  induction xs with
  | nil =>
    rw [List.nil_append, getX_cons]
    by_cases e : k' = k
    · rw [if_pos e, if_pos e.symm]
    · rw [if_neg e, if_neg fun z => e z.symm]
  | cons x xs ih =>
    rw [List.cons_append, getX_cons, getX_cons]
    have h2 : getX xs k = none := getX_none.mpr fun y hy => this y (List.mem_cons_of_mem _ hy)
    have ih := ih h2 (getX_none.mp h2)
    by_cases e : x.1 = k'
    · rw [if_pos e, if_pos e, if_neg fun z => this x List.mem_cons_self (e.trans z)]
    · rw [if_neg e, if_neg e, ih]
theorem rep_row_inj {H : Hp} {a b : Row} {v : V} (h1 : Rep H (.ints a) v) (h2 : Rep H (.ints b) v) : a = b := by
  obtain ⟨x, rfl, hx⟩ := rep_ints.mp h1
  obtain ⟨y, e, hy⟩ := rep_ints.mp h2
  cases e
  rw [hx] at hy
  exact map_inj (fun x y e => V.int.inj e) (HO.tup.inj (Option.some.inj hy))
section
variable {P : Program} {w : World} {K : PySem.W.Frag} {mg : Str → Option Value} {base : Heap} {f C : Addr} {fd : FuncData}
/-- unequal(index) -/
def spUnequal (P : Program) (w : World) (C : Addr) : Sp := fun vs H Q _ => ∃ p n book rows bec m O i d, vs = [.ref p, .int (i : Nat)] ∧ CAt P w C H p n book rows bec m O ∧ book[i]? = some d ∧ d.st = true ∧ DepOk n d ∧ d.L.length ≤ 1000 ∧ d.R.length ≤ 1000 ∧ 1 ≤ n ∧ (∀ r ∈ rows, r.length = n) ∧ rows.length ≤ 1000 ∧
  (Keeps n rows d → ∀ H', Same H H' → Q .non H') ∧ ∀ a ∈ rows, ∀ b ∈ rows, agr a b d.L → ¬ agr a b d.R → ∀ t v1 v2 H', Same H H' → H' t = some (.tup [v1, v2]) → Rep H' (.ints a) v1 → Rep H' (.ints b) v2 → Q (.ref t) H'
abbrev nUnequal : List Str := ["self", "index", "left", "right", "firsts", "row", "first"]
theorem scUnequal : FnScope nUnequal ["self", "index"] (defScope sCUnequal) := ⟨rfl, rfl, rfl, by decide +kernel, rfl, by decide +kernel, by decide +kernel⟩
theorem ok_unequal (F : FnP K "unequal" "Chase.unequal" sCUnequal f fd) (T : Txt K mg C) (B : Bi mg) (G1 : Ok P w K mg base 2 "picked" (spR 2 rPicked)) (G2 : Ok P w K mg base 2 "agree" (spR 3 rAgree)) : FnOk P w K mg base CX0 3 f fd ["self", "index"] (spUnequal P w C) := by
  refine fnOk F scUnequal (fun vs H Q E h => ?_) fun cdv A outer s H vs Q E hr h => ?_
  · obtain ⟨p, n, book, rows, bec, m, O, i, d, rfl, _⟩ := h
    rfl
  obtain ⟨p, n, book, rows, bec, m, O, i, d, rfl, c, hd, hst, hok, hL, hR, hn, hlen, hrl, hq1, hq2⟩ := h
  have nd := scUnequal.nd
  obtain ⟨dx, w1, w2, tl, td, se, be, sl, xs, ss, h0, h1, h2, h3, h4, h5, h6, h7, h8, h9, h10, h11⟩ := c.ex
  refine wcons ?_
  refine ws_pair (d1 := natsT d.L) (d2 := natsT d.R) 2 3 rfl nd (ev_slT (ev_ixT (i := i) ((rv_fld (rv_name 0 rfl) h1 T.cl T.nk fl_book).ev h3) (ev_name 1 rfl rep_int) (book_at hd) (fun _ _ => rfl)) (eo_some ev_int) eo_none) fun vL vR H2 s2 rL rR => ?_
  refine wcons ?_
  refine ws_set 4 nd (we_dnew fun fi hfi => ?_)
  have s3 : Same H2 (upd H2 fi (DO P w fi [])) := same_new hfi
  have s03 := s2.trans s3
  have hnr : ∀ r ∈ rows, r ≠ [] := fun r hr e => by
    have := hlen r hr
    rw [e] at this
    have : (0 : Nat) = n := this
    omega
  have c3 := c.same s03
  refine wcons ?_
  refine ws_for PassesOwn.never rfl (pgn 5 nd) ?_
  refine WI.mono (wi_new (el_sortedT (tl := tl) (td := td) (xs := xs) (rows := rows) ?_ (s03 _ _ h4) ?_ (s03 _ _ h5) (h6.tm (Same.tm s03)) h7 hnr hrl ?_ rfl rfl B.sorted)) ?_
  · exact rv_fld (rv_name 0 rfl) (s03 _ _ h1) T.cl T.nt fl_tables
  · refine ev_ixT (ds := [.str (kindS d), .int 0, natsT d.L, natsT d.R]) (i := 1) ?_ ev_int rfl (fun _ _ => rfl)
    refine ev_ixT (ds := book.map depD) (i := i) ?_ (ev_name 1 rfl rep_int) (book_at hd) (fun _ _ => rfl)
    exact (rv_fld (rv_name 0 rfl) (s03 _ _ h1) T.cl T.nk fl_book).ev (h3.mono s03)
  · exact hr.units
  rintro J H4 ⟨s4, l, ys, hln, hl, rl, rJ⟩
  have hfi4 : H4 fi = some (DO P w fi []) := s4 _ _ upd_same
  have lfi : l ≠ fi := (ne_of_none upd_same hln).symm
  have srt : ∀ r, r ∈ sortR rows ↔ r ∈ rows := fun r => (sortR_perm rows).mem_iff
  have srl : (sortR rows).length = rows.length := (sortR_perm rows).length_eq
  have s04 := s03.trans s4
  have hfi0 : H fi = none := Same.free s2 hfi
  refine forW rJ (fun j σ' H' => ∃ o5 o6 ixs, σ' = [some (.ref p), some (.int (i : Nat)), some vL, some vR, some (.ref fi), o5, o6] ∧ Same H H' ∧ Tm H4 H' ∧ H' l = some (.lst ys) ∧ H' fi = some (DO P w fi ixs) ∧ KeysAt H' ixs ∧ ixs.length ≤ j ∧ (∀ x ∈ ixs, ∃ r ∈ rows, x.1 = kx (pick r d.L) ∧ Rep H' (.ints r) x.2.2) ∧
      ∀ r ∈ (sortR rows).take j, ∃ q r0, getX ixs (kx (pick r d.L)) = some q ∧ Rep H' (.ints r0) q.2 ∧ agr r0 r d.R)
    ⟨none, none, [], rfl, s04, Tm.refl _, hl, hfi4, (fun x hx => nomatch hx), Nat.le_refl _, (fun x hx => nomatch hx), (fun r hr => by rw [List.take_zero] at hr; cases hr)⟩ ?_ ?_ ?_
  · rintro j σ' H' _ ⟨o5, o6, ixs, _, _, t1, hl', _⟩
    exact ⟨t1, hl'⟩
  · rintro j d0 σ' H5 hd0 ⟨o5, o6, ixs, rfl, g0, g1, g2, g3, g4, g5, g6, g7⟩ v H6 s6 rv
    rw [List.getElem?_map] at hd0
    obtain ⟨r, hrj, rfl⟩ : ∃ r, (sortR rows)[j]? = some r ∧ D.ints r = d0 := by
      cases h : (sortR rows)[j]? with
      | none => rw [h] at hd0; cases hd0
      | some r => rw [h] at hd0; exact ⟨r, rfl, Option.some.inj hd0⟩
    have hrm : r ∈ rows := (srt r).mp (List.mem_of_getElem? hrj)
    have hjl : j < rows.length := by rw [← srl]; exact (List.getElem?_eq_some_iff.mp hrj).1
    have tk : ∀ y, y ∈ (sortR rows).take (j + 1) ↔ y ∈ (sortR rows).take j ∨ y = r := fun y => by
      rw [List.take_add_one, hrj, List.mem_append]
      simp
    refine wcons ?_
    refine ws_set 6 nd ?_
    refine we_bmX PySem.F.slot_dict_setdefault PySem.F.type_dict_setdefault (mt_setdefX hr.u1) ?_
    refine NV.use (nv_name 4 rfl) ⟨⟨fi, ixs, rfl, s6 _ _ g3, g4.tm (Same.tm s6)⟩, ?_⟩
    refine wa (pa_cons pe_w (pa_cons pe_w pa_nil)) ?_
    have rL6 : Rep H6 (natsT d.L) vL := ((rL.tm ((Same.tm s3).trans (Same.tm s4))).tm g1).mono s6
    have rR6 : Rep H6 (natsT d.R) vR := ((rR.tm ((Same.tm s3).trans (Same.tm s4))).tm g1).mono s6
    refine we_ev (ev_call G1 hr rfl (ea_cons (ev_name 5 rfl rv) (ea_cons (ev_name 2 rfl rL6) ea_nil)) rfl ⟨r, d.L, rfl, fun c hc => by rw [hlen r hrm]; exact hok.1 c hc, hL, rfl⟩) fun vk H7 s7 rk => ?_
    refine NV.use (nv_name 5 rfl) ?_
    have s57 := s6.trans s7
    obtain ⟨ka, eka, hka⟩ := rep_keyD.mp (show Rep H7 (keyD (kx (pick r d.L))) vk by rw [keyD_kx]; exact rk)
    have hfi7 := s57 _ _ g3
    have rv7 := rv.mono s7
    refine ⟨fi, ixs, ka, kx (pick r d.L), v, rfl, ⟨hfi7, g4.tm (Same.tm s57)⟩, by rw [eka], hka, by rw [sizeLine_eq]; omega, fun b u hb => ?_, fun hb => ?_⟩
    · -- a first row stands
      obtain ⟨r0, hr0, ek0, rr0⟩ := g6 _ (getX_mem hb)
      have rr0 := rr0.mono s57
      have hag : agr r0 r d.L := pick_eq.mp (kx_inj ek0).symm
      refine wone (ws_ifB _ (et_not (et_val (ev_call G2 hr rfl (ea_cons (ev_name 6 rfl rr0) (ea_cons (ev_name 5 rfl rv7) (ea_cons (ev_name 3 rfl (rR6.mono s7)) ea_nil))) rfl ⟨r0, r, d.R, rfl, fun c hc => by rw [hlen r0 hr0]; exact hok.2 c hc, fun c hc => by rw [hlen r hrm]; exact hok.2 c hc, hR, rfl⟩))) (fun e H8 s8 => ?_) fun e H8 s8 => wnil ?_)
      · have hne : ¬ agr r0 r d.R := fun z => by
          rw [decide_eq_true (pick_eq.mpr z)] at e
          cases e
        refine wone (ws_ret ?_)
        refine we (pe_tup (pa_cons pe_w (pa_cons pe_w pa_nil))) ?_
        refine NV.use (nv_name 6 rfl) (NV.use (nv_name 5 rfl) ⟨by show 2 ≤ sizeLine; decide, fun t ht => ?_⟩)
        have st := same_new (o := .tup [u, v]) ht
        exact hq2 r0 hr0 r hrm hag hne t u v _ (((g0.trans s57).trans s8).trans st) upd_same ((rr0.mono s8).mono st) ((rv7.mono s8).mono st)
      · have hag2 : agr r0 r d.R := by
          by_cases z : pick r0 d.R = pick r d.R
          · exact pick_eq.mp z
          · rw [decide_eq_false z] at e
            cases e
        have s58 := s57.trans s8
        refine ⟨_, _, ixs, rfl, g0.trans s58, g1.trans (Same.tm s58), s58 _ _ g2, s58 _ _ g3, g4.tm (Same.tm s58), Nat.le_succ_of_le g5, fun x hx => ?_, fun y hy => ?_⟩
        · obtain ⟨r1, hr1, e1, q1⟩ := g6 x hx
          exact ⟨r1, hr1, e1, q1.mono s58⟩
        · rcases (tk y).mp hy with z | z
          · obtain ⟨q, r1, e1, q1, q2⟩ := g7 y z
            exact ⟨q, r1, e1, q1.mono s58, q2⟩
          · rw [z]
            exact ⟨_, r0, hb, rr0.mono s8, hag2⟩
    · -- the row is the first
      have tmo : Tm H7 (upd H7 fi (DO P w fi (ixs ++ [(kx (pick r d.L), ka, v)]))) := tm_do hfi7
      have rv8 := rv7.tm tmo
      refine wone (ws_ifB _ (et_not (et_val (ev_call G2 hr rfl (ea_cons (ev_name 6 rfl rv8) (ea_cons (ev_name 5 rfl rv8) (ea_cons (ev_name 3 rfl ((rR6.mono s7).tm tmo)) ea_nil))) rfl ⟨r, r, d.R, rfl, fun c hc => by rw [hlen r hrm]; exact hok.2 c hc, fun c hc => by rw [hlen r hrm]; exact hok.2 c hc, hR, rfl⟩))) (fun e => ?_) fun e H8 s8 => wnil ?_)
      · rw [decide_eq_true rfl] at e
        cases e
      · have tm58 := ((Same.tm s57).trans tmo).trans (Same.tm s8)
        refine ⟨_, _, ixs ++ [(kx (pick r d.L), ka, v)], rfl, (same_mut (g0.trans s57) hfi0).trans s8, g1.trans tm58, s8 _ _ ?_, s8 _ _ upd_same, fun x hx => ?_, by rw [List.length_append]; exact Nat.succ_le_succ g5, fun x hx => ?_, fun y hy => ?_⟩
        · rw [upd_ne lfi]
          exact s57 _ _ g2
        · rcases List.mem_append.mp hx with z | z
          · exact (g4.tm tm58) x z
          · rw [List.mem_singleton.mp z]
            exact (tmo.trans (Same.tm s8)) _ _ hka
        · rcases List.mem_append.mp hx with z | z
          · obtain ⟨r1, hr1, e1, q1⟩ := g6 x z
            exact ⟨r1, hr1, e1, q1.tm tm58⟩
          · rw [List.mem_singleton.mp z]
            exact ⟨r, hrm, rfl, rv8.mono s8⟩
        · rw [getX_snoc hb]
          rcases (tk y).mp hy with z | z
          · obtain ⟨q, r1, e1, q1, q2⟩ := g7 y z
            refine ⟨q, r1, ?_, q1.tm tm58, q2⟩
            rw [if_neg fun e => ?_]
            · exact e1
            · rw [e, hb] at e1
              cases e1
          · rw [z, if_pos rfl]
            exact ⟨_, r, rfl, rv8.mono s8, fun c _ => rfl⟩
  · rintro σ' H' ⟨o5, o6, ixs, rfl, g0, g1, g2, g3, g4, g5, g6, g7⟩
    rw [List.length_map, List.take_length] at g7
    refine wone (ws_ret (we pe_non ?_))
    refine hq1 (fun a ha b hb hL => ⟨fun _ => ?_, fun e => ?_⟩) _ g0
    · obtain ⟨q, r0, e1, q1, q2⟩ := g7 a ((srt a).mpr ha)
      obtain ⟨q', r0', e1', q1', q2'⟩ := g7 b ((srt b).mpr hb)
      rw [pick_eq.mpr hL] at e1
      rw [e1] at e1'
      obtain rfl := Option.some.inj e1'
      obtain rfl := rep_row_inj q1 q1'
      exact fun c hc => (q2 c hc).symm.trans (q2' c hc)
    · rw [hst] at e
      cases e
end
end Nr
/-! Chase: settle. -/
namespace Nr
open PySem PySem.Spec L2
open PyProof.Rows hiding St

/-- what is asked of a book -/
structure Bk (n : Nat) (o : Nat → Int) (book : List Dep) : Prop where
  ok : OOk n o
  dep : ∀ d ∈ book, DepOk n d ∧ d.L.length ≤ 1000 ∧ d.R.length ≤ 1000
  h1 : 1 ≤ n
  h3 : n ≤ 3
  bl : book.length ≤ 1000
theorem Ch.ne {n : Nat} {o : Nat → Int} {book : List Dep} {st rows : List Row} {bec : List (Int × Int)} (h : Ch n o book st rows bec) (K : Bk n o book) {d : Dep} (hd : d ∈ book) (hs : d.st = true) {a b : Row} (ha : a ∈ rows) (hb : b ∈ rows) (hL : agr a b d.L) {c : Nat} (hc : c ∈ d.R) (hne : cel a c ≠ cel b c) :
    min (cel a c) (cel b c) < 0 ∧ bec.lookup (min (cel a c) (cel b c)) = none ∧ ∀ rows' : List Row, rows'.Nodup → (∀ r, r ∈ rows' ↔ ∃ r0 ∈ rows, r = r0.map (rep (min (cel a c) (cel b c)) (max (cel a c) (cel b c)))) →
      Ch n o book st rows' (bec ++ [(min (cel a c) (cel b c), max (cel a c) (cel b c))]) ∧ opens n o rows' < opens n o rows := by
  have hok := (K.dep d hd).1
  have hcn := hok.2 c hc
  have lo := K.ok.low c hcn
  have mem0 : ∀ l g : Int, ∀ r, r ∈ dedupF (rows.map fun r => r.map (rep l g)) ↔ ∃ r0 ∈ rows, r = r0.map (rep l g) := fun l g r => by
    rw [dedupF_mem, List.mem_map]
    exact ⟨fun ⟨a, ha, e⟩ => ⟨a, ha, e.symm⟩, fun ⟨a, ha, e⟩ => ⟨a, ha, e.symm⟩⟩
  rcases h.cell a ha c hcn with e1 | ⟨e1, _⟩ <;> rcases h.cell b hb c hcn with e2 | ⟨e2, _⟩
  · exact absurd (e1.trans e2.symm) hne
  · have m1 : min (cel a c) (cel b c) = o c := by rw [e1, e2]; omega
    have m2 : max (cel a c) (cel b c) = -1 - (c : Int) := by rw [e1, e2]; omega
    rw [m1, m2]
    refine ⟨by omega, (h.eqs K.ok hd hok hs hb ha (fun x hx => (hL x hx).symm) hc e2 e1 (dedupF_nodup _) (mem0 _ _)).2.2, fun rows' nd' hm => ?_⟩
    obtain ⟨q1, q2, _⟩ := h.eqs K.ok hd hok hs hb ha (fun x hx => (hL x hx).symm) hc e2 e1 nd' hm
    exact ⟨q1, q2⟩
  · have m1 : min (cel a c) (cel b c) = o c := by rw [e1, e2]; omega
    have m2 : max (cel a c) (cel b c) = -1 - (c : Int) := by rw [e1, e2]; omega
    rw [m1, m2]
    refine ⟨by omega, (h.eqs K.ok hd hok hs ha hb hL hc e1 e2 (dedupF_nodup _) (mem0 _ _)).2.2, fun rows' nd' hm => ?_⟩
    obtain ⟨q1, q2, _⟩ := h.eqs K.ok hd hok hs ha hb hL hc e1 e2 nd' hm
    exact ⟨q1, q2⟩
  · exact absurd (e1.trans e2.symm) hne
/-- the object within a chase -/
structure Cs (P : Program) (w : World) (C : Addr) (H : Hp) (p : Addr) (n : Nat) (o : Nat → Int) (book : List Dep) (st rows : List Row) (bec : List (Int × Int)) (m : Nat) (O : List Addr) : Prop where
  at_ : CAt P w C H p n book rows bec m O
  ch : Ch n o book st rows bec
  bl : bec.length ≤ m
  ms : m + meas n o rows ≤ 1000
/-- settle, fill, work -/
def spStep (P : Program) (w : World) (C : Addr) (kind : Dep → Prop) : Sp := fun vs H Q _ => ∃ p n o book st rows bec m O i d, vs = [.ref p, .int (i : Nat)] ∧ Cs P w C H p n o book st rows bec m O ∧ Bk n o book ∧ book[i]? = some d ∧ kind d ∧
  ∀ O' H' rows' bec' m' b, Cs P w C H' p n o book st rows' bec' m' O' → Fram H H' O → (∀ x ∈ O', x ∈ O ∨ H x = none) → (b = false → rows' = rows ∧ Keeps n rows d) → (b = true → meas n o rows' < meas n o rows) → Q (.bl b) H'
section
variable {X : Cx} {e : Expr} {σ : L2.St} {H : Hp} {v : V} {pos p : Pos} {j : Nat}
theorem et_notN (h : RV X e σ H v) : ET X (.Compare e [.IsNot] [.Constant .none j p] pos) σ H (!decide (v = .non)) := fun H1 s => wt (pt_cmp (pc_notN pe_w)) ((h H1 s) _ ⟨_, rfl, rfl, Same.refl _⟩)
end
section
variable {P : Program} {w : World} {K : PySem.W.Frag} {mg : Str → Option Value} {base : Heap} {f C : Addr} {fd : FuncData}
/-- what unequal gave -/
def Uneq (H : Hp) (n : Nat) (d : Dep) (rows : List Row) (v : V) : Prop := (v = .non ∧ Keeps n rows d) ∨ ∃ t v1 v2 a b, v = .ref t ∧ H t = some (.tup [v1, v2]) ∧ Rep H (.ints a) v1 ∧ Rep H (.ints b) v2 ∧ a ∈ rows ∧ b ∈ rows ∧ agr a b d.L ∧ ¬ agr a b d.R
abbrev nSettle : List Str := ["self", "index", "taken", "rows"]
theorem scSettle : FnScope nSettle ["self", "index"] (defScope sCSettle) := ⟨rfl, rfl, rfl, by decide +kernel, rfl, by decide +kernel, by decide +kernel⟩
theorem ok_settle (F : FnP K "settle" "Chase.settle" sCSettle f fd) (T : Txt K mg C) (G1 : OkM P w K mg base C 3 "unequal" (spUnequal P w C)) (G2 : OkM P w K mg base C 3 "make_equal" (spMakeEq P w C)) : FnOk P w K mg base CX0 4 f fd ["self", "index"] (spStep P w C fun d => d.st = true) := by
  refine fnOk F scSettle (fun vs H Q E h => ?_) fun cdv A outer s H vs Q E hr h => ?_
  · obtain ⟨p, n, o, book, st, rows, bec, m, O, i, d, rfl, _⟩ := h
    rfl
  obtain ⟨p, n, o, book, st, rows, bec, m, O, i, d, rfl, c, bk, hd, hst, hq⟩ := h
  have nd := scSettle.nd
  have hdm := List.mem_of_getElem? hd
  obtain ⟨hok, hL, hR⟩ := bk.dep d hdm
  have una : ∀ {H0 : Hp} {rows' bec' m' O'} {Q' : VK}, Cs P w C H0 p n o book st rows' bec' m' O' → (∀ v H', Same H0 H' → Uneq H' n d rows' v → Q' v H') → spUnequal P w C [.ref p, .int (i : Nat)] H0 Q' EF := by
    intro H0 rows' bec' m' O' Q' c' k
    refine ⟨p, n, book, rows', bec', m', O', i, d, rfl, c'.at_, hd, hst, hok, hL, hR, bk.h1, c'.ch.len, ?_, fun hk H' s' => k _ _ s' (.inl ⟨rfl, hk⟩), fun a ha b hb h1 h2 t v1 v2 H' s' ht r1 r2 => k _ _ s' (.inr ⟨t, v1, v2, a, b, rfl, ht, r1, r2, ha, hb, h1, h2⟩)⟩
    exact Nat.le_trans (c'.ch.few8 bk.h3) (by decide)
  refine wcons ?_
  refine ws_set 2 nd (we_ev ev_bl fun v0 H1 s1 r1 => ?_)
  obtain rfl := (show v0 = V.bl false from r1)
  refine wcons ?_
  refine ws_set 3 nd ?_
  obtain ⟨dx, w1, w2, tl, td, se, be, sl, xs, ss, h0, h1, _⟩ := (c.at_.same s1).ex
  refine we_meth G1 hr T.cl (rv_name 0 rfl) h1 (fl_no (by decide)) ?_
  refine (nva_cons (nv_name 1 rfl) nva_nil) _ _ (una ⟨c.at_.same s1, c.ch, c.bl, c.ms⟩ fun v H2 s2 u2 => ?_)
  clear h0 h1
  have s12 := s1.trans s2
  refine wcons ?_
  refine ws_while PassesOwn.never (fun k σ' H' => ∃ O' rows' bec' m' tk rv, σ' = [some (.ref p), some (.int (i : Nat)), some (.bl tk), some rv] ∧ Cs P w C H' p n o book st rows' bec' m' O' ∧ Fram H H' O ∧ (∀ x ∈ O', x ∈ O ∨ H x = none) ∧ (tk = false → rows' = rows) ∧ (tk = true → meas n o rows' < meas n o rows) ∧ Uneq H' n d rows' rv ∧ k = meas n o rows')
    (m := meas n o rows) ⟨O, rows, bec, m, false, v, rfl, ⟨c.at_.same s12, c.ch, c.bl, c.ms⟩, Same.fram s12, fun x hx => .inl hx, fun _ => rfl, (fun z => nomatch z), u2, rfl⟩ ?_
  rintro k σ' H3 ⟨O', rows', bec', m', tk, rv, rfl, c3, f3, ow3, t1, t2, u3, rfl⟩
  obtain ⟨dx, w1, w2, tl, td, se, be, sl, xs, ss, h0, h1, _⟩ := c3.at_.ex
  refine WT.mono ((et_and (et_notN (rv_name 3 rfl)) fun _ => et_not (et_val ((rv_fld (rv_name 0 rfl) h1 T.cl T.nc fl_clashed).ev (d := .bl false) rfl))) H3 (Same.refl _)) ?_
  rintro tb H4 ⟨rfl, s4⟩
  have f4 := f3.same s4
  rcases u3 with ⟨rfl, hk⟩ | ⟨t, v1, v2, a, b, rfl, ht, ra, rb, ha, hb, hL', hR'⟩
  · -- the end
    refine iteF ?_
    refine wone (ws_ret (NV.use (nv_name 2 rfl) ?_))
    refine hq O' H4 rows' bec' m' tk ⟨c3.at_.same s4, c3.ch, c3.bl, c3.ms⟩ f4 ow3 (fun e => ?_) t2
    have e1 := t1 e
    refine ⟨e1, ?_⟩
    rw [← e1]
    exact hk
  · refine iteT ?_
    have ht4 := s4 _ _ ht
    have ra4 := ra.mono s4
    have rb4 := rb.mono s4
    have rp : Rep H4 (.tup [.ints a, .ints b]) (.ref t) := ⟨t, [v1, v2], rfl, ht4, v1, [v2], rfl, ra4, v2, [], rfl, rb4, rfl⟩
    refine wcons ?_
    refine ws_expr ?_
    refine we_meth G2 hr T.cl (rv_name 0 rfl) (s4 _ _ h1) (fl_no (by decide)) ?_
    refine WA.mono ((ea_cons (ev_name 1 rfl (d := .int (i : Nat)) rfl) (ea_cons (ev_ixT (i := 0) (ev_name 3 rfl rp) ev_int rfl (fun _ _ => rfl)) (ea_cons (ev_ixT (i := 1) (ev_name 3 rfl rp) ev_int rfl (fun _ _ => rfl)) ea_nil))) H4 (Same.refl _)) ?_
    rintro vs5 H5 ⟨s5, r5⟩
    obtain ⟨_, _, rfl, rx, y1, _, rfl, ry, y2, _, rfl, rz, hnil⟩ := r5
    obtain rfl := hnil
    rw [show _ = V.int _ from rx]
    have s35 := s4.trans s5
    have c5 := c3.at_.same s35
    have f5 := f3.same s35
    have hex : ∃ c ∈ d.R, cel a c ≠ cel b c := by
      refine Classical.byContradiction fun z => hR' fun c hc => Classical.byContradiction fun y => z ⟨c, hc, y⟩
    have hm1000 : m' ≤ 1000 := Nat.le_trans (Nat.le_add_right _ _) c3.ms
    have few := c3.ch.few8 bk.h3
    refine ⟨p, n, book, rows', bec', m', O', i, d, y1, y2, a, b, rfl, c5, hd, ry, rz, c3.ch.len a ha, c3.ch.len b hb, hok, hR, hex, fun c hc hne => ?_, Nat.le_trans c3.bl hm1000, Nat.le_trans few (by decide), fun r hr => ?_, hm1000, fun c hc hne O6 H6 rows6 c6 f6 ow6 nd6 mem6 => ?_⟩
    · obtain ⟨q1, q2, _⟩ := c3.ch.ne bk hdm hst ha hb hL' hc hne
      exact ⟨q1, q2⟩
    · rw [c3.ch.len r hr]
      exact Nat.le_trans bk.h3 (by decide)
    obtain ⟨_, _, q3⟩ := c3.ch.ne bk hdm hst ha hb hL' hc hne
    obtain ⟨ch6, op6⟩ := q3 rows6 nd6 mem6
    have few6 := ch6.few8 bk.h3
    have ms6 : meas n o rows6 < meas n o rows' := by
      unfold meas
      omega
    have cs6 : Cs P w C H6 p n o book st rows6 (bec' ++ [(min (cel a c) (cel b c), max (cel a c) (cel b c))]) (m' + 1) O6 := ⟨c6, ch6, by rw [List.length_append]; exact Nat.succ_le_succ c3.bl, by have := c3.ms; omega⟩
    refine wcons ?_
    refine ws_set 2 nd (we_ev ev_bl fun v7 H7 s7 r7 => ?_)
    obtain rfl := (show v7 = V.bl true from r7)
    refine wone ?_
    refine ws_set 3 nd ?_
    obtain ⟨dx7, w17, w27, tl7, td7, se7, be7, sl7, xs7, ss7, h07, h17, _⟩ := (cs6.at_.same s7).ex
    refine we_meth G1 hr T.cl (rv_name 0 rfl) h17 (fl_no (by decide)) ?_
    refine (nva_cons (nv_name 1 rfl) nva_nil) _ _ (una ⟨cs6.at_.same s7, cs6.ch, cs6.bl, cs6.ms⟩ fun v H8 s8 u8 => ?_)
    have s78 := s7.trans s8
    have f6' : Fram H H6 O := f5.trans f6 ow3
    refine ⟨meas n o rows6, ms6, O6, rows6, _, m' + 1, true, v, rfl, ⟨cs6.at_.same s78, cs6.ch, cs6.bl, cs6.ms⟩, f6'.same s78, own_trans f5 ow3 ow6, (fun z => nomatch z), fun _ => ?_, u8, rfl⟩
    cases tk with
    | true => exact Nat.lt_trans ms6 (t2 rfl)
    | false => rw [t1 rfl] at ms6; exact ms6
end
end Nr
/-! Chase: fill, work. -/
namespace Nr
open PySem PySem.Spec L2
open PyProof.Rows hiding St

section
variable {P : Program} {w : World} {K : PySem.W.Frag} {mg : Str → Option Value} {base : Heap} {C : Addr}
theorem Ok.up {j k : Nat} {x : Str} {sp : Sp} (h : Ok P w K mg base j x sp) (l : j ≤ k) : Ok P w K mg base k x sp := let ⟨f, fd, ps, h1, h2, h3, h4⟩ := h; ⟨f, fd, ps, h1, h2, h3, h4.mono l⟩
theorem OkM.up {j k : Nat} {x : Str} {sp : Sp} (h : OkM P w K mg base C j x sp) (l : j ≤ k) : OkM P w K mg base C k x sp := let ⟨f, fd, ps, h1, h3, h4⟩ := h; ⟨f, fd, ps, h1, h3, h4.mono l⟩
end
section
variable {P : Program} {w : World} {C : Addr} {H H' : Hp} {p : Addr} {n : Nat} {book : List Dep} {rows : List Row} {bec : List (Int × Int)} {m : Nat} {O : List Addr}
theorem CAt.keep (c : CAt P w C H p n book rows bec m O) (k : ∀ a ∈ O, H' a = H a) (t : Tm H H') : CAt P w C H' p n book rows bec m O := by
  obtain ⟨dx, vs, vb, tl, td, se, be, sl, xs, ss, h0, h1, h2, h3, h4, h5, h6, h7, h8, h9, h10⟩ := c.ex
  refine ⟨dx, vs, vb, tl, td, se, be, sl, xs, ss, h0, ?_, h2.tm t, h3.tm t, ?_, ?_, h6.tm t, h7, ?_, ?_, h10⟩
  · rw [k p (by rw [h0]; simp)]; exact h1
  · rw [k tl (by rw [h0]; simp)]; exact h4
  · rw [k td (by rw [h0]; simp)]; exact h5
  · rw [k be (by rw [h0]; simp)]; exact h8
  · rw [k sl (by rw [h0]; simp)]; exact h9
theorem CAt.out (c : CAt P w C H p n book rows bec m O) {a : Addr} (h : H a = none) : a ∉ O := fun z => by
  obtain ⟨u, hu⟩ := c.owns a z
  rw [h] at hu
  cases hu
end
section
variable {X : Cx} {e : Expr} {σ : L2.St} {H : Hp} {pos p : Pos} {d : Addr} {xs : XS}
theorem ev_lenX (h : RV X e σ H (.ref d)) (hd : IsD X H d xs) (hg : Gl X "len") (hm : X.mg "len" = none) (he : starEach [e] X.env = (false, eval e X.env) :: starEach [] X.env := by rfl) : EV X (.Call (.Name "len" p) [e] [] pos) σ H (.int (xs.length : Int)) := fun H1 s => by
  refine we (pe_callB call_lenX hg hm PySem.boot_len (pa_cons pe_w pa_nil he) (by decide) (by decide) he rfl) ?_
  exact (h H1 s) _ ⟨d, xs, rfl, hd.same s, Same.refl _, rfl⟩
end
section
variable {P : Program} {w : World} {K : PySem.W.Frag} {mg : Str → Option Value} {base : Heap} {f C : Addr} {fd : FuncData}
abbrev nFill : List Str := ["self", "index", "dependency", "width", "rows", "missing", "row", "chosen"]
theorem scFill : FnScope nFill ["self", "index"] (defScope sCFill) := ⟨rfl, rfl, rfl, by decide +kernel, rfl, by decide +kernel, by decide +kernel⟩
theorem ok_fill (F : FnP K "fill" "Chase.fill" sCFill f fd) (T : Txt K mg C) (B : Bi mg) (G1 : Ok P w K mg base 3 "missing_rows" (spMissing P w)) (G2 : Ok P w K mg base 3 "parts_of" (spR 2 rPartsOf)) (G3 : OkM P w K mg base C 3 "put_in" (spPutIn P w C)) : FnOk P w K mg base CX0 4 f fd ["self", "index"] (spStep P w C fun d => d.st = false) := by
  refine fnOk F scFill (fun vs H Q E h => ?_) fun cdv A outer s H vs Q E hr h => ?_
  · obtain ⟨p, n, o, book, st, rows, bec, m, O, i, d, rfl, _⟩ := h
    rfl
  obtain ⟨p, n, o, book, st, rows, bec, m, O, i, d, rfl, c, bk, hd, hst, hq⟩ := h
  have nd := scFill.nd
  have hdm := List.mem_of_getElem? hd
  obtain ⟨hok, hL, hR⟩ := bk.dep d hdm
  have bk3 := bk.h3
  have bk1 := bk.h1
  obtain ⟨dx, w1, w2, tl, td, se, be, sl, xs, ss, h0, h1, h2, h3, h4, h5, h6, h7, h8, h9, h10, h11⟩ := c.at_.ex
  have few := c.ch.few8 bk.h3
  have hnr : ∀ r ∈ rows, r ≠ [] := fun r hr e => by
    have := c.ch.len r hr
    rw [e] at this
    have : (0 : Nat) = n := this
    omega
  refine wcons ?_
  refine ws_set 2 nd (we_ev (ev_ixT (i := i) ((rv_fld (rv_name 0 rfl) h1 T.cl T.nk fl_book).ev h3) (ev_name 1 rfl rep_int) (book_at hd) (fun _ _ => rfl)) fun vd H1 s1 rd => ?_)
  refine wcons ?_
  refine ws_set 3 nd (we_ev (dd := .int (n : Int)) ?_ fun vw H2 s2 rw_ => ?_)
  · refine ev_ixT (ds := [.int (n : Int)]) (i := 0) ?_ (ev_ixT (ds := [.str (kindS d), .int 0, natsT d.L, natsT d.R]) (i := 1) (ev_name 2 rfl rd) ev_int rfl (fun _ _ => rfl)) rfl (fun _ _ => rfl)
    exact (rv_fld (rv_name 0 rfl) (s1 _ _ h1) T.cl T.ns fl_scheme).ev (h2.mono s1)
  obtain rfl := (show vw = V.int (n : Int) from rw_)
  have s12 := s1.trans s2
  refine wcons ?_
  refine ws_set 4 nd (we_el (el_sortedT (tl := tl) (td := td) (xs := xs) (rows := rows) ?_ (s12 _ _ h4) (ev_ixT (ds := [.str (kindS d), .int 0, natsT d.L, natsT d.R]) (i := 1) (ev_name 2 rfl (rd.mono s2)) ev_int rfl (fun _ _ => rfl)) (s12 _ _ h5) (h6.tm (Same.tm s12)) h7 hnr (by omega) ?_ rfl rfl B.sorted) fun l vs3 H3 hl s3 h3' r3 => ?_)
  · exact rv_fld (rv_name 0 rfl) (s12 _ _ h1) T.cl T.nt fl_tables
  · exact hr.units
  have s13 := s12.trans s3
  refine wcons ?_
  refine ws_set 5 nd ?_
  refine we_call G1 hr rfl ?_
  refine wa (pa_cons pe_w (pa_cons pe_w (pa_cons pe_w pa_nil))) ?_
  refine NV.use (nv_name 3 rfl) (NV.use (nv_name 4 rfl) ?_)
  refine we_ev (ev_call G2 hr rfl (ea_cons (ev_name 3 rfl (d := .int (n : Int)) rfl) (ea_cons (ev_name 2 rfl ((rd.mono s2).mono s3)) ea_nil)) rfl ⟨n, d, rfl, hst, by omega, rfl⟩) fun v4 H4 s4 r4 => ?_
  have srt : ∀ r, r ∈ sortR rows ↔ r ∈ rows := fun r => (sortR_perm rows).mem_iff
  have srl : (sortR rows).length = rows.length := (sortR_perm rows).length_eq
  refine ⟨n, l, vs3, sortR rows, d, v4, rfl, s4 _ _ h3', r3.mono s4, r4, hok, fun r hr => c.ch.len r ((srt r).mp hr), bk.h1, bk.h3, by rw [srl]; exact few, fun M zs miss H5 s5 hM hM5 kM eM ndM memM => ?_⟩
  have s14 := s13.trans s4
  have s15 := s14.trans s5
  have hM0 : H M = none := Same.free s14 hM
  have mem' : ∀ r, r ∈ miss ↔ r ∉ rows ∧ ∃ a ∈ rows, ∃ b ∈ rows, agr a b d.L ∧ r = mix n d.R a b := fun r => by
    rw [memM, srt]
    constructor
    · rintro ⟨h1, a, ha, b, hb, h2⟩
      exact ⟨h1, a, (srt a).mp ha, b, (srt b).mp hb, h2⟩
    · rintro ⟨h1, a, ha, b, hb, h2⟩
      exact ⟨h1, a, (srt a).mpr ha, b, (srt b).mpr hb, h2⟩
  have hzl : zs.length = miss.length := by
    have := congrArg List.length eM
    rw [List.length_map, List.length_map] at this
    exact this
  have c5 := c.at_.same s15
  have hMO : M ∉ O := c.at_.out hM0
  refine wcons ?_
  refine ws_itemsX (d := M) (xs := zs) 6 7 PassesOwn.never rfl nd (nv_name 5 rfl) ⟨hM5, kM⟩ trivial (fun od => ⟨fun j σ' H' => ∃ o6 o7, σ' = [some (.ref p), some (.int (i : Nat)), some vd, some (.int (n : Int)), some (.ref l), some (.ref M), o6, o7] ∧ j ≤ miss.length ∧ Cs P w C H' p n o book st (rows ++ miss.take j) bec (m + j) O ∧ Fram H H' O ∧ H' M = some (.frz od (DO P w M zs)) ∧ KeysAt H' zs ∧ meas n o (rows ++ miss.take j) + j ≤ meas n o rows, ?_, ?_, ?_, ?_⟩) (by exact pg_tup rfl (pgs_cons (pgn 6 nd) (pgs_cons (pgn 7 nd) pgs_nil)))
  · have tm : Tm H5 (upd H5 M (.frz od (DO P w M zs))) := tm_do hM5
    have e0 : rows ++ miss.take 0 = rows := by rw [List.take_zero, List.append_nil]
    refine ⟨none, none, rfl, Nat.zero_le _, ?_, (Same.fram s15).new hM0, upd_same, kM.tm tm, by rw [e0]; exact Nat.le_refl _⟩
    rw [e0]
    refine ⟨c5.keep (fun a ha => upd_ne fun e => hMO (e ▸ ha)) tm, c.ch, c.bl, c.ms⟩
  · rintro j σ' H' ⟨o6, o7, _, _, _, _, g3, g4, _⟩
    exact ⟨g3, g4⟩
  · rintro j x σ' H6 Tn hx ⟨o6, o7, rfl, g0, g1, g2, g3, g4, g5⟩ hT
    have hjl : j < miss.length := by rw [← hzl]; exact (List.getElem?_eq_some_iff.mp hx).1
    have hrj : miss[j]? = some miss[j] := List.getElem?_eq_getElem hjl
    have exk : x.1 = kx miss[j] := by
      have e2 : (zs.map (·.1))[j]? = (miss.map kx)[j]? := by rw [eM]
      rw [List.getElem?_map, List.getElem?_map, hx, hrj] at e2
      exact Option.some.inj e2
    have hrm : miss[j] ∈ miss := List.getElem_mem hjl
    obtain ⟨hn1, a, ha, b, hb, hab, emx⟩ := (mem' _).mp hrm
    have hnew : miss[j] ∉ rows ++ miss.take j := fun z => by
      rcases List.mem_append.mp z with z | z
      · exact hn1 z
      · obtain ⟨k, hk, e⟩ := List.mem_take_iff_getElem.mp z
        have hk2 : k < j := by omega
        have := (List.getElem_inj ndM).mp e
        omega
    have tk : rows ++ miss.take (j + 1) = (rows ++ miss.take j) ++ [miss[j]] := by
      rw [List.take_add_one, hrj, List.append_assoc]
      rfl
    have sT : Same H6 (upd H6 Tn (.tup [.ref x.2.1, x.2.2])) := same_new hT
    have c7 := g1.at_.same sT
    obtain ⟨dx', w1', w2', tl', td', se', be', sl', xs', ss', h0', h1', _⟩ := c7.ex
    have hT0 : H Tn = none := g2.free (fun b hb => by obtain ⟨u, hu⟩ := g1.at_.owns b hb; rw [hu]; intro z; cases z) hT
    have ms0 := g1.ms
    have kx6 := g4 x (List.mem_of_getElem? hx)
    rw [exk, kx_leV] at kx6
    obtain ⟨ch', op'⟩ := g1.ch.adds bk.ok hdm hok hst (List.mem_append_left _ ha) (List.mem_append_left _ hb) hab (by rw [← emx]; exact hnew)
    rw [← emx, ← tk] at ch' op'
    have few' := ch'.few8 bk.h3
    have lenT : (rows ++ miss.take (j + 1)).length = (rows ++ miss.take j).length + 1 := by rw [tk, List.length_append]; rfl
    have msl : meas n o (rows ++ miss.take (j + 1)) + 1 ≤ meas n o (rows ++ miss.take j) := by
      unfold meas
      omega
    refine wone (ws_expr ?_)
    refine we_meth G3 hr T.cl (rv_name 0 rfl) h1' (fl_no (by decide)) ?_
    refine (nva_cons (nv_name 1 rfl) (nva_cons (nv_name 7 rfl) (nva_cons (nv_name 6 rfl) nva_nil))) _ _ ?_
    refine ⟨p, n, book, rows ++ miss.take j, bec, m + j, O, i, d, x.2.2, .ref x.2.1, miss[j], rfl, c7, hd, rep_ints.mpr ⟨_, rfl, sT _ _ kx6⟩, hnew, by omega, by omega, fun H8 c8 f8 => ?_⟩
    have tm8 : Tm H6 H8 := (Same.tm sT).trans (c7.tm f8)
    have hMT : M ≠ Tn := ne_of_none g3 hT
    refine ⟨_, _, rfl, hjl, ⟨by rw [tk]; exact c8, ch', by have := g1.bl; omega, by omega⟩, ?_, f8 _ _ (sT _ _ g3) hMO, g4.tm tm8, by omega⟩
    exact (g2.same sT).trans f8 fun a ha => .inl ha
  · rintro σ' H6 ⟨o6, o7, rfl, g0, g1, g2, g3, g4, g5⟩
    rw [hzl, List.take_length] at g1 g5
    have tm : Tm H6 (upd H6 M (DO P w M zs)) := tm_frz g3
    have c7 : CAt P w C (upd H6 M (DO P w M zs)) p n book (rows ++ miss) bec (m + miss.length) O := g1.at_.keep (fun a ha => upd_ne fun e => hMO (e ▸ ha)) tm
    refine wone (ws_ret (we_ev (ev_gt (ev_lenX (rv_name 5 rfl) ⟨upd_same, g4.tm tm⟩ rfl B.len) ev_int) fun v7 H7 s7 r7 => ?_))
    rw [show v7 = V.bl _ from r7]
    refine hq O H7 (rows ++ miss) bec (m + miss.length) _ ⟨c7.same s7, g1.ch, g1.bl, g1.ms⟩ ((g2.new hM0).same s7) (fun x hx => .inl hx) (fun e => ?_) fun e => ?_
    · have e := of_decide_eq_false e
      have e0 : miss = [] := List.eq_nil_of_length_eq_zero (by omega)
      refine ⟨by rw [e0, List.append_nil], fun a ha b hb hab => ⟨fun z => ?_, fun _ => ?_⟩⟩
      · rw [hst] at z
        cases z
      · refine Classical.byContradiction fun z => ?_
        have := (mem' (mix n d.R a b)).mpr ⟨z, a, ha, b, hb, hab, rfl⟩
        rw [e0] at this
        cases this
    · have e := of_decide_eq_true e
      omega
/-- work(index) -/
abbrev nWork : List Str := ["self", "index", "kind"]
theorem scWork : FnScope nWork ["self", "index"] (defScope sCWork) := ⟨rfl, rfl, rfl, by decide +kernel, rfl, by decide +kernel, by decide +kernel⟩
theorem ok_work (F : FnP K "work" "Chase.work" sCWork f fd) (T : Txt K mg C) (G1 : OkM P w K mg base C 4 "settle" (spStep P w C fun d => d.st = true)) (G2 : OkM P w K mg base C 4 "fill" (spStep P w C fun d => d.st = false)) : FnOk P w K mg base CX0 5 f fd ["self", "index"] (spStep P w C fun _ => True) := by
  refine fnOk F scWork (fun vs H Q E h => ?_) fun cdv A outer s H vs Q E hr h => ?_
  · obtain ⟨p, n, o, book, st, rows, bec, m, O, i, d, rfl, _⟩ := h
    rfl
  obtain ⟨p, n, o, book, st, rows, bec, m, O, i, d, rfl, c, bk, hd, _, hq⟩ := h
  have nd := scWork.nd
  obtain ⟨dx, w1, w2, tl, td, se, be, sl, xs, ss, h0, h1, h2, h3, _⟩ := c.at_.ex
  refine wcons ?_
  refine ws_set 2 nd (we_ev (dd := .str (kindS d)) ?_ fun vk H1 s1 rk => ?_)
  · refine ev_ixT (ds := [.str (kindS d), .int 0, natsT d.L, natsT d.R]) (i := 0) ?_ ev_int rfl (fun _ _ => rfl)
    exact ev_ixT (i := i) ((rv_fld (rv_name 0 rfl) h1 T.cl T.nk fl_book).ev h3) (ev_name 1 rfl rep_int) (book_at hd) (fun _ _ => rfl)
  refine wcons ?_
  refine ws_ifB _ (et_eqS (ev_name 2 rfl rk) ev_str) (fun e H2 s2 => ?_) fun e H2 s2 => wnil ?_
  · have hst : d.st = true := by
      unfold kindS at e
      cases z : d.st with
      | true => rfl
      | false => rw [z] at e; exact absurd (of_decide_eq_true e) (by decide)
    have s12 := s1.trans s2
    refine wone (ws_ret ?_)
    refine we_meth G1 hr T.cl (rv_name 0 rfl) (s12 _ _ h1) (fl_no (by decide)) ?_
    refine (nva_cons (nv_name 1 rfl) nva_nil) _ _ ⟨p, n, o, book, st, rows, bec, m, O, i, d, rfl, ⟨c.at_.same s12, c.ch, c.bl, c.ms⟩, bk, hd, hst, fun O' H3 rows' bec' m' b c' f' ow' k1 k2 => ?_⟩
    refine hq O' H3 rows' bec' m' b c' (Fram.trans (Same.fram s12) f' fun a ha => .inl ha) (fun x hx => ?_) k1 k2
    exact (ow' x hx).imp id fun z => Same.free s12 z
  · have hst : d.st = false := by
      unfold kindS at e
      cases z : d.st with
      | false => rfl
      | true => rw [z] at e; exact absurd (of_decide_eq_false e) (by decide)
    have ek : kindS d = "deals" := by unfold kindS; rw [hst]; rfl
    refine wcons ?_
    refine ws_ifB _ (et_eqS (ev_name 2 rfl (rk.mono s2)) ev_str) (fun e H3 s3 => ?_) fun e H3 s3 => wnil ?_
    · rw [ek] at e
      exact absurd (of_decide_eq_true e) (by decide)
    have s13 := (s1.trans s2).trans s3
    refine wone (ws_ret ?_)
    refine we_meth G2 hr T.cl (rv_name 0 rfl) (s13 _ _ h1) (fl_no (by decide)) ?_
    refine (nva_cons (nv_name 1 rfl) nva_nil) _ _ ⟨p, n, o, book, st, rows, bec, m, O, i, d, rfl, ⟨c.at_.same s13, c.ch, c.bl, c.ms⟩, bk, hd, hst, fun O' H3 rows' bec' m' b c' f' ow' k1 k2 => ?_⟩
    refine hq O' H3 rows' bec' m' b c' (Fram.trans (Same.fram s13) f' fun a ha => .inl ha) (fun x hx => ?_) k1 k2
    exact (ow' x hx).imp id fun z => Same.free s13 z
end
end Nr
/-! Chase: run. -/
namespace Nr
open PySem PySem.Spec L2
open PyProof.Rows hiding St

theorem filterMap_if {α : Type} {P : Nat → Bool} {g : Nat → α} : ∀ l : List Nat, l.filterMap (fun i => if P i = true then some (g i) else none) = (l.filter P).map g
  | [] => rfl
  | i :: l => by
    rw [List.filterMap_cons, List.filter_cons]
    cases h : P i with
    | true => simp [filterMap_if l]
    | false => simp [filterMap_if l]
def kindIn (book : List Dep) (ks : List Str) (i : Nat) : Bool := match book[i]? with
  | some d => decide (kindS d ∈ ks)
  | none => false
def enF (k : Nat → Bool) (d : D) : Option D := match d with
  | .tup [.int i, _] => if k i.toNat = true then some (.int i) else none
  | _ => none
theorem enF_eq (k : Nat → Bool) (ds : List D) : (enumD ds).filterMap (enF k) = ((List.range ds.length).filter k).map fun (i : Nat) => D.int (i : Int) := by
  unfold enumD
  rw [List.filterMap_map]
  exact filterMap_if (P := k) (g := fun i => D.int (i : Int)) (List.range ds.length)
abbrev strsT (ks : List Str) : D := .tup (ks.map D.str)
theorem leafNB_strs (ks : List Str) : ∀ e ∈ ks.map D.str, LeafNB e = true := fun e he => by
  obtain ⟨c, _, rfl⟩ := List.mem_map.mp he
  rfl
theorem mem_strs {k : Str} {ks : List Str} : D.str k ∈ ks.map D.str ↔ k ∈ ks := by
  rw [List.mem_map]
  exact ⟨fun ⟨a, ha, e⟩ => D.str.inj e ▸ ha, fun h => ⟨k, h, rfl⟩⟩
theorem turn_if {X : Cx} {c elt : Expr} {σ : L2.St} {H : Hp} {d : D} {t : Bool} (h : ET X c σ H t) (k : t = true → EV X elt σ H d) : TurnOk X [c] elt σ H (if t = true then some d else none) := by
  cases t with
  | true => exact ⟨h, k rfl⟩
  | false => exact h
section
variable {P : Program} {w : World} {K : PySem.W.Frag} {mg : Str → Option Value} {base : Heap} {f C : Addr} {fd : FuncData}
/-- run() -/
def spRun (P : Program) (w : World) (C : Addr) : Sp := fun vs H Q _ => ∃ p n o book st rows bec m O, vs = [.ref p] ∧ Cs P w C H p n o book st rows bec m O ∧ Bk n o book ∧
  ∀ O' H' rows' bec' m', Cs P w C H' p n o book st rows' bec' m' O' → Fram H H' O → (∀ x ∈ O', x ∈ O ∨ H x = none) → Closed n book rows' → Q .non H'
abbrev nRun : List Str := ["self", "order", "kinds", "index", "going", "dependency"]
theorem scRun : FnScope nRun ["self"] (defScope sCRun) := ⟨rfl, rfl, rfl, by decide +kernel, rfl, by decide +kernel, by decide +kernel⟩
abbrev kss : List (List Str) := [[("settles" : Str)], ["deals", "joins"], ["within"]]
theorem ok_run (F : FnP K "run" "Chase.run" sCRun f fd) (T : Txt K mg C) (B : Bi mg) (G : OkM P w K mg base C 5 "work" (spStep P w C fun _ => True)) : FnOk P w K mg base CX0 6 f fd ["self"] (spRun P w C) := by
  refine fnOk F scRun (fun vs H Q E h => ?_) fun cdv A outer s H vs Q E hr h => ?_
  · obtain ⟨p, n, o, book, st, rows, bec, m, O, rfl, _⟩ := h
    rfl
  obtain ⟨p, n, o, book, st, rows, bec, m, O, rfl, c, bk, hq⟩ := h
  have nd := scRun.nd
  have bkl := bk.bl
  obtain ⟨dx, w1, w2, tl, td, se, be, sl, xs, ss, h0, h1, h2, h3, h4, h5, h6, h7, h8, h9, h10, h11⟩ := c.at_.ex
  refine wcons ?_
  refine ws_set 1 nd (we_el (el_lst ea_nil (by show 0 ≤ sizeLine; decide)) fun l0 vs0 H1 hl0 s1 h1' r1 => ?_)
  refine wcons ?_
  refine ws_for PassesOwn.never rfl (pgn 2 nd) ?_
  refine WI.mono (wi_tup (ds := kss.map strsT) (ev_tup (ea_cons (ev_tup (ea_cons ev_str ea_nil) (by show 1 ≤ sizeLine; decide)) (ea_cons (ev_tup (ea_cons ev_str (ea_cons ev_str ea_nil)) (by show 2 ≤ sizeLine; decide)) (ea_cons (ev_tup (ea_cons ev_str ea_nil) (by show 1 ≤ sizeLine; decide)) ea_nil))) (by show 3 ≤ sizeLine; decide))) ?_
  rintro J H2 ⟨s2, rJ⟩
  refine forW rJ (fun j σ' H' => ∃ o2 o3 o4 o5 l vs os, σ' = [some (.ref p), some (.ref l), o2, o3, o4, o5] ∧ Same H H' ∧ Same H2 H' ∧ H l = none ∧ H' l = some (.lst vs) ∧ RepL H' (os.map fun (i : Nat) => D.int (i : Int)) vs ∧ os.length ≤ j * 1000 ∧ (∀ i ∈ os, i < book.length) ∧ ∀ i d, book[i]? = some d → (∃ ks ∈ kss.take j, kindS d ∈ ks) → i ∈ os)
    ⟨none, none, none, none, l0, vs0, [], rfl, s1.trans s2, Same.refl _, hl0, s2 _ _ h1', r1.mono s2, Nat.zero_le _, (fun i hi => nomatch hi), (fun i d _ ⟨ks, hk, _⟩ => nomatch hk)⟩ ?_ ?_ ?_
  · rintro j σ' H' _ ⟨o2, o3, o4, o5, l, vs, os, _, _, s2', _⟩
    exact Same.tm s2'
  · rintro j dk σ' H3 hdk ⟨o2, o3, o4, o5, l, vs, os, rfl, g0, g1, g2, g3, g4, g5, g6, g7⟩ vk H4 s4 rk
    rw [List.getElem?_map] at hdk
    obtain ⟨ks, hks, rfl⟩ : ∃ ks, kss[j]? = some ks ∧ strsT ks = dk := by
      cases h : kss[j]? with
      | none => rw [h] at hdk; cases hdk
      | some ks => rw [h] at hdk; exact ⟨ks, rfl, Option.some.inj hdk⟩
    have hj3 : j < 3 := (List.getElem?_eq_some_iff.mp hks).1
    have s04 := g0.trans s4
    refine wone (ws_set 1 nd (we_el (el_cat (lv_name 1 rfl (s4 _ _ g3) (g4.mono s4)) (ELS.el (ELS.to (ds' := ((List.range book.length).filter (kindIn book ks)).map fun (i : Nat) => D.int (i : Int)) (el_lc (ifs := [_]) (own := [("index", 3), ("dependency", 5)]) (g := gTup K 2 (gCons (gName 3) (gCons (gName 5) gNil))) (enF (kindIn book ks)) rfl nd (blkOk_by (N := nRun) (sc := defScope sCRun) (by decide +kernel))
      (ds := enumD (book.map depD)) ?_ (fun b => by exact pg_tup rfl (pgs_cons (pgn 3 nd) (pgs_cons (pgn 5 nd) pgs_nil))) ?_ ?_) ?_)).lv ?_) fun l5 vs5 H5 hl5 s5 h5' r5 => ?_))
    · exact src_enT (ds := book.map depD) ((rv_fld (rv_name 0 rfl) (s04 _ _ h1) T.cl T.nk fl_book).ev (h3.mono s04)) rfl B.enum
    · rw [enumD_len, List.length_map, sizeLine_eq]
      omega
    · intro d hd x H5 s5 rx Q' hQ
      obtain ⟨i, hi, rfl⟩ := List.mem_map.mp hd
      rw [List.length_map, List.mem_range] at hi
      have eb : book[i]? = some book[i] := List.getElem?_eq_getElem hi
      have ed : (book.map depD).getD i .non = depD book[i] := by rw [List.getD_eq_getElem?_getD, book_at eb]; rfl
      rw [ed] at rx
      obtain ⟨t, tvs, rfl, ht, y1, _, rfl, ry1, y2, _, rfl, ry2, hnil⟩ := rx
      obtain rfl := hnil
      obtain rfl := (show y1 = V.int (i : Nat) from ry1)
      refine ⟨t, _, rfl, SqT.of ht, rfl, _, _, rfl, _, _, rfl, rfl, hQ _ H5 (Same.refl _) rfl fun b => ?_⟩
      have ek : kindIn book ks i = decide (kindS book[i] ∈ ks) := by unfold kindIn; rw [eb]
      refine turn_if (t := kindIn book ks i) ?_ fun _ => ev_name 3 rfl rfl
      rw [ek]
      exact et_inT (d := .str (kindS book[i])) (ds := ks.map D.str) (ev_ixT (ds := [.str (kindS book[i]), .int 0, natsT (book[i]).L, natsT (book[i]).R]) (i := 0) (ev_name 5 rfl ry2) ev_int rfl (fun _ _ => rfl)) (ev_name 2 rfl (rk.mono s5)) rfl (leafNB_strs ks) (by rw [decide_eq_true_iff]; exact mem_strs.symm)
    · rw [enF_eq, List.length_map]
    · rw [List.length_map, List.length_map]
      have := List.length_filter_le (kindIn book ks) (List.range book.length)
      rw [List.length_range] at this
      rw [sizeLine_eq]
      omega
    · have fl := List.length_filter_le (kindIn book ks) (List.range book.length)
      rw [List.length_range] at fl
      refine ⟨_, _, _, _, l5, vs5, os ++ (List.range book.length).filter (kindIn book ks), rfl, s04.trans s5, (g1.trans s4).trans s5, Same.free s04 hl5, h5', by rw [List.map_append]; exact r5, by rw [List.length_append]; omega, fun i hi => ?_, fun i d hd hk => ?_⟩
      · rcases List.mem_append.mp hi with z | z
        · exact g6 i z
        · exact List.mem_range.mp (List.mem_filter.mp z).1
      · obtain ⟨ks', hk1, hk2⟩ := hk
        rw [List.take_add_one, hks] at hk1
        rcases List.mem_append.mp hk1 with z | z
        · exact List.mem_append_left _ (g7 i d hd ⟨ks', z, hk2⟩)
        · have e := List.mem_singleton.mp z
          refine List.mem_append_right _ (List.mem_filter.mpr ⟨List.mem_range.mpr (List.getElem?_eq_some_iff.mp hd).1, ?_⟩)
          unfold kindIn
          rw [hd]
          exact decide_eq_true (e ▸ hk2)
  · rintro σ' H3 ⟨o2, o3, o4, o5, l, vs, os, rfl, g0, g1, g2, g3, g4, g5, g6, g7⟩
    have g7 : ∀ i d, book[i]? = some d → i ∈ os := fun i d hd => g7 i d hd (by
      unfold kindS
      cases d.st with
      | true => exact ⟨_, List.mem_cons_self, by simp⟩
      | false => exact ⟨_, List.mem_cons_of_mem _ List.mem_cons_self, by simp⟩)
    refine wcons ?_
    refine ws_set 4 nd (we_ev ev_bl fun v4 H4 s4 r4 => ?_)
    obtain rfl := (show v4 = V.bl true from r4)
    have s04 := g0.trans s4
    have hlO : l ∉ O := c.at_.out g2
    have hl4 : H4 l = some (.lst vs) := s4 _ _ g3
    have r4' : RepL H4 (os.map fun (i : Nat) => D.int (i : Int)) vs := g4.mono s4
    refine wone ?_
    refine ws_while PassesOwn.never (fun k σ' H' => ∃ o2 o3 o5 O' rows' bec' m' g, σ' = [some (.ref p), some (.ref l), o2, o3, some (.bl g), o5] ∧ Cs P w C H' p n o book st rows' bec' m' O' ∧ Fram H4 H' O ∧ (∀ x ∈ O', x ∈ O ∨ H4 x = none) ∧ (g = false → Closed n book rows') ∧ k = if g = true then meas n o rows' + 1 else 0)
      (m := meas n o rows + 1) ⟨_, _, _, O, rows, bec, m, true, rfl, ⟨c.at_.same s04, c.ch, c.bl, c.ms⟩, Fram.refl, fun x hx => .inl hx, (fun z => nomatch z), rfl⟩ ?_
    rintro k σ' H5 ⟨o2, o3, o5, O5, rows5, bec5, m5, g, rfl, c5, f5, ow5, cl5, rfl⟩
    obtain ⟨dx5, w15, w25, tl5, td5, se5, be5, sl5, xs5, ss5, h05, h15, _⟩ := c5.at_.ex
    refine WT.mono ((et_and (et_val (ev_name 4 rfl (d := .bl g) rfl)) fun _ => et_not (et_val ((rv_fld (rv_name 0 rfl) h15 T.cl T.nc fl_clashed).ev (d := .bl false) rfl))) H5 (Same.refl _)) ?_
    rintro tb H6 ⟨rfl, s6⟩
    have c6 : Cs P w C H6 p n o book st rows5 bec5 m5 O5 := ⟨c5.at_.same s6, c5.ch, c5.bl, c5.ms⟩
    have f6 := f5.same s6
    cases g with
    | false =>
      refine iteF ?_
      refine hq O5 H6 rows5 bec5 m5 c6 (Fram.trans (Same.fram s04) f6 fun a ha => .inl ha) (fun x hx => ?_) (cl5 rfl)
      exact (ow5 x hx).imp id fun z => Same.free s04 z
    | true =>
      refine iteT ?_
      refine wcons ?_
      refine ws_set 4 nd (we_ev ev_bl fun v7 H7 s7 r7 => ?_)
      obtain rfl := (show v7 = V.bl false from r7)
      have c7 : Cs P w C H7 p n o book st rows5 bec5 m5 O5 := ⟨c6.at_.same s7, c5.ch, c5.bl, c5.ms⟩
      have f7 := f6.same s7
      have hlx : ∀ {H' : Hp} {O' : List Addr}, (∀ x ∈ O', x ∈ O ∨ H4 x = none) → l ∉ O' := fun ow z => by
        rcases ow l z with y | y
        · exact hlO y
        · rw [hl4] at y; cases y
      have hl7 : H7 l = some (.lst vs) := f7 _ _ hl4 hlO
      have r7' : RepL H7 (os.map fun (i : Nat) => D.int (i : Int)) vs := r4'.tm (fun a ys e => f7 _ _ e fun z => (c.at_.same s04).notup a z ys e)
      refine wone ?_
      refine ws_for PassesOwn.never rfl (pgn 3 nd) ?_
      refine WI.mono (wi_list (l := l) (vs := vs) (ds := os.map fun (i : Nat) => D.int (i : Int)) (NV.use (nv_name 1 rfl) ⟨rfl, Same.refl _⟩) hl7 r7') ?_
      rintro J8 H8 ⟨s8, rJ8⟩
      refine forW rJ8 (fun j σ' H' => ∃ o2 o3 o5 O' rows' bec' m' g, σ' = [some (.ref p), some (.ref l), o2, o3, some (.bl g), o5] ∧ Cs P w C H' p n o book st rows' bec' m' O' ∧ Fram H4 H' O ∧ (∀ x ∈ O', x ∈ O ∨ H4 x = none) ∧ Tm H8 H' ∧ (g = false → rows' = rows5 ∧ ∀ i ∈ os.take j, ∀ d, book[i]? = some d → Keeps n rows5 d) ∧ (g = true → meas n o rows' < meas n o rows5))
        ⟨_, _, _, O5, rows5, bec5, m5, false, rfl, ⟨c7.at_.same s8, c7.ch, c7.bl, c7.ms⟩, f7.same s8, ow5, Tm.refl _, (fun _ => ⟨rfl, fun i hi => by rw [List.take_zero] at hi; cases hi⟩), (fun z => nomatch z)⟩ ?_ ?_ ?_
      · rintro j σ' H' _ ⟨o2', o3', o5', O', rows', bec', m', g', _, _, f', _, t', _⟩
        exact ⟨t', f' _ _ hl4 hlO⟩
      · rintro j d0 σ' H9 hd0 ⟨o2', o3', o5', O9, rows9, bec9, m9, g9, rfl, c9, f9, ow9, t9, k9, k9'⟩ v9 H10 s10 rv10
        rw [List.getElem?_map] at hd0
        obtain ⟨i, hij, rfl⟩ : ∃ i, os[j]? = some i ∧ D.int (i : Nat) = d0 := by
          cases h : os[j]? with
          | none => rw [h] at hd0; cases hd0
          | some r => rw [h] at hd0; exact ⟨r, rfl, Option.some.inj hd0⟩
        obtain rfl := (show v9 = V.int (i : Nat) from rv10)
        have him := g6 i (List.mem_of_getElem? hij)
        have eb : book[i]? = some book[i] := List.getElem?_eq_getElem him
        have tk : ∀ y, y ∈ os.take (j + 1) → y ∈ os.take j ∨ y = i := fun y hy => by
          rw [List.take_add_one, hij, List.mem_append] at hy
          simpa using hy
        obtain ⟨dx9, w19, w29, tl9, td9, se9, be9, sl9, xs9, ss9, h09, h19, _⟩ := (c9.at_.same s10).ex
        have c10 : Cs P w C H10 p n o book st rows9 bec9 m9 O9 := ⟨c9.at_.same s10, c9.ch, c9.bl, c9.ms⟩
        refine wone (ws_if ?_)
        refine wt (pw_and pt_w (pw_and pt_w (pw_and1 pt_w))).pt ?_
        refine WT.mono ((et_not (et_val (ev_name 4 rfl (d := .bl g9) rfl))) H10 (Same.refl _)) ?_
        rintro t11 H11 ⟨rfl, s11⟩
        have c11 : Cs P w C H11 p n o book st rows9 bec9 m9 O9 := ⟨c10.at_.same s11, c9.ch, c9.bl, c9.ms⟩
        cases g9 with
        | true =>
          refine iteF (iteF (wnil ?_))
          exact ⟨_, _, _, O9, rows9, bec9, m9, true, rfl, c11, (f9.same s10).same s11, ow9, (t9.trans (Same.tm s10)).trans (Same.tm s11), (fun z => nomatch z), k9'⟩
        | false =>
          refine iteT ?_
          obtain ⟨e9, k9⟩ := k9 rfl
          subst e9
          refine WT.mono ((et_not (et_val ((rv_fld (rv_name 0 rfl) (s11 _ _ h19) T.cl T.nc fl_clashed).ev (d := .bl false) rfl))) H11 (Same.refl _)) ?_
          rintro t12 H12 ⟨rfl, s12⟩
          refine iteT ?_
          have c12 : Cs P w C H12 p n o book st rows9 bec9 m9 O9 := ⟨c11.at_.same s12, c9.ch, c9.bl, c9.ms⟩
          have f12 := ((f9.same s10).same s11).same s12
          have t12 := ((t9.trans (Same.tm s10)).trans (Same.tm s11)).trans (Same.tm s12)
          refine wt (pt_val pe_w (by intro _; rfl)) ?_
          refine we_meth G hr T.cl (rv_name 0 rfl) (s12 _ _ (s11 _ _ h19)) (fl_no (by decide)) ?_
          refine (nva_cons (nv_name 3 rfl) nva_nil) _ _ ⟨p, n, o, book, st, rows9, bec9, m9, O9, i, book[i], rfl, c12, bk, eb, trivial, fun O13 H13 rows13 bec13 m13 b c13 f13 ow13 q1 q2 => ?_⟩
          refine ⟨b, rfl, ?_⟩
          have f13' : Fram H4 H13 O := f12.trans f13 ow9
          have ow13' := own_trans f12 ow9 ow13
          have t13 : Tm H8 H13 := t12.trans (c12.at_.tm f13)
          cases b with
          | true =>
            refine iteT ?_
            refine wone (ws_set 4 nd (we_ev ev_bl fun v14 H14 s14 r14 => ?_))
            obtain rfl := (show v14 = V.bl true from r14)
            exact ⟨_, _, _, O13, rows13, bec13, m13, true, rfl, ⟨c13.at_.same s14, c13.ch, c13.bl, c13.ms⟩, f13'.same s14, ow13', t13.trans (Same.tm s14), (fun z => nomatch z), fun _ => q2 rfl⟩
          | false =>
            obtain ⟨e13, kp⟩ := q1 rfl
            subst e13
            refine iteF (wnil ?_)
            refine ⟨_, _, _, O13, rows13, bec13, m13, false, rfl, c13, f13', ow13', t13, (fun _ => ⟨rfl, fun i' hi' d' hd' => ?_⟩), (fun z => nomatch z)⟩
            rcases tk i' hi' with z | z
            · exact k9 i' z d' hd'
            · rw [z, eb] at hd'
              rw [← Option.some.inj hd']
              exact kp
      · rintro σ' H9 ⟨o2', o3', o5', O9, rows9, bec9, m9, g9, rfl, c9, f9, ow9, t9, k9, k9'⟩
        refine ⟨if g9 = true then meas n o rows9 + 1 else 0, ?_, _, _, _, O9, rows9, bec9, m9, g9, rfl, c9, f9, ow9, fun e => ?_, rfl⟩
        · cases g9 with
          | true =>
            rw [if_pos rfl, if_pos rfl]
            exact Nat.succ_lt_succ (k9' rfl)
          | false =>
            rw [if_pos rfl, if_neg Bool.false_ne_true]
            exact Nat.succ_pos _
        · obtain ⟨e9, k9⟩ := k9 e
          rw [List.length_map, List.take_length] at k9
          rw [e9]
          intro d hd
          obtain ⟨i, hi, e⟩ := List.getElem_of_mem hd
          have eb : book[i]? = some d := by rw [List.getElem?_eq_getElem hi, e]
          exact k9 i (g7 i d eb) d eb
end
end Nr
/-! Chase: __init__. -/
namespace Nr
open PySem PySem.Spec L2
open PyProof.Rows hiding St

def cellsOf (d : D) : List D := match d with
  | .tup is => is.flatMap fun i => [i]
  | _ => []
def rowsCells (d : D) : List D := match d with
  | .tup rs => rs.flatMap cellsOf
  | _ => []
theorem cells_ints (r : Row) : cellsOf (.ints r) = r.map D.int := by
  unfold cellsOf D.ints
  simp only
  induction r with
  | nil => rfl
  | cons x r ih => rw [List.map_cons, List.flatMap_cons, ih]; rfl
theorem rowsCells_len {rows : List Row} {k : Nat} (h : ∀ r ∈ rows, r.length ≤ k) : (rowsCells (.tup (rows.map D.ints))).length ≤ rows.length * k := by
  unfold rowsCells
  simp only
  induction rows with
  | nil => exact Nat.zero_le _
  | cons r rows ih =>
    rw [List.map_cons, List.flatMap_cons, List.length_append, cells_ints, List.length_map, List.length_cons, Nat.succ_mul]
    have := ih fun r hr => h r (List.mem_cons_of_mem _ hr)
    have := h r List.mem_cons_self
    omega
theorem dedup_self {α : Type} [DecidableEq α] {l : List α} (h : l.Nodup) : dedupF l = l := by
  have gen : ∀ (l acc : List α), (acc ++ l).Nodup → l.foldl addN acc = acc ++ l := fun l => by
    induction l with
    | nil => intro acc _; rw [List.append_nil]; rfl
    | cons x l ih =>
      intro acc nd
      have hx : x ∉ acc := fun z => (List.nodup_append.mp nd).2.2 x z x List.mem_cons_self rfl
      have e : addN acc x = acc ++ [x] := by unfold addN; rw [if_neg hx]
      rw [List.foldl_cons, e, ih _ (by rw [List.append_assoc]; exact nd), List.append_assoc]
      rfl
  exact gen l [] h
section
variable {P : Program} {w : World} {K : PySem.W.Frag} {mg : Str → Option Value} {base : Heap} {f C : Addr} {fd : FuncData}
/-- Chase(scheme, book, store) -/
def spInit (P : Program) (w : World) (C : Addr) : Sp := fun vs H Q _ => ∃ p dx v1 v2 v3 n book st, vs = [.ref p, v1, v2, v3] ∧ H p = some (.ins C dx []) ∧ Rep H (.tup [.int ((n : Nat) : Int)]) v1 ∧ Rep H (bookD book) v2 ∧ Rep H (.tup [.tup (st.map D.ints)]) v3 ∧ st.Nodup ∧ st.length ≤ 100 ∧ (∀ r ∈ st, r.length ≤ 100) ∧
  ∀ O H', CAt P w C H' p n book st [] 0 O → Fram H H' [p] → (∀ x ∈ O, x = p ∨ H x = none) → Q .non H'
abbrev nInit : List Str := ["self", "scheme", "book", "store", "rows", "row", "value"]
theorem scInit : FnScope nInit ["self", "scheme", "book", "store"] (defScope sCInit) := ⟨rfl, rfl, rfl, by decide +kernel, rfl, by decide +kernel, by decide +kernel⟩
theorem ok_init (F : FnP K "__init__" "Chase.__init__" sCInit f fd) (T : Txt K mg C) (B : Bi mg) : FnOk P w K mg base CX0 1 f fd ["self", "scheme", "book", "store"] (spInit P w C) := by
  refine fnOk F scInit (fun vs H Q E h => ?_) fun cdv A outer s H vs Q E hr h => ?_
  · obtain ⟨p, dx, v1, v2, v3, n, book, st, rfl, _⟩ := h
    rfl
  obtain ⟨p, dx, v1, v2, v3, n, book, st, rfl, hp, r1, r2, r3, nds, hst, hsr, hq⟩ := h
  have nd := scInit.nd
  obtain ⟨sa, svs, rfl, hsa, vr, _, rfl, rr, hnil⟩ := id r3
  obtain rfl := hnil
  refine wcons ?_
  refine ws_fld (NV.use (nv_name 1 rfl) (NV.use (nv_name 0 rfl) ⟨p, dx, _, rfl, hp, by show 0 < 1000; decide, ?_⟩)) T.cl T.ns
  have f1 : Fram H (upd H p (.ins C dx (putF "scheme" v1 []))) [p] := Fram.refl.own List.mem_cons_self
  have t1 : Tm H (upd H p (.ins C dx (putF "scheme" v1 []))) := tm_upd hp (by intro xs z; cases z)
  refine wcons ?_
  refine ws_fld (NV.use (nv_name 2 rfl) (NV.use (nv_name 0 rfl) ⟨p, dx, _, rfl, upd_same, by show 1 < 1000; decide, ?_⟩)) T.cl T.nk
  generalize eH2 : upd (upd H p (.ins C dx (putF "scheme" v1 []))) p (.ins C dx (putF "book" v2 (putF "scheme" v1 []))) = H2
  have hp2 : H2 p = some (.ins C dx (putF "book" v2 (putF "scheme" v1 []))) := by rw [← eH2]; exact upd_same
  have f2 : Fram H H2 [p] := by rw [← eH2]; exact f1.own List.mem_cons_self
  have t2 : Tm H H2 := by rw [← eH2]; exact t1.trans (tm_upd upd_same (by intro xs z; cases z))
  refine wcons ?_
  refine ws_fld ?_ T.cl T.nt
  refine lc_one (j := 4) rfl nd (blkOk_by (N := nInit) (sc := defScope sCInit) (by decide +kernel)) (fun b => pgn 4 nd) ?_
  refine wi (pi_tup pe_w) ?_
  refine NV.use (nv_name 3 rfl) ?_
  refine ⟨sa, rfl, ⟨_, SqT.of (t2 _ _ hsa)⟩, _, _, one_tup (v := vr), fun tl htl => ?_⟩
  have s3 : Same H2 (upd H2 tl (.lst [])) := same_new htl
  refine ⟨s3 _ _ (t2 _ _ hsa), fun b => ?_⟩
  refine we_comp (cp_dictX ?_ rfl nd (blkOk_by (N := nInit) (sc := relS _ (defScope sCInit)) (own := [("row", 5)]) (by decide +kernel)) (fun s H C cl fp => pgn 5 nd) (fun _ => rfl)) rfl ?_
  · exact hr.u1
  refine dictX_sem (ks := st.map kx) (dv := .bl true) (src_tup (EV.to (ev_name 4 rfl ((rr.tm t2).mono s3)) ?_)) (fun v => rfl) (by rw [List.length_map, sizeLine_eq]; omega) (fun b H1 a v r => ev_name 5 rfl r) (fun b τ H1 => ev_bl) fun td xs H4 htd s4 isD ek => ?_
  · rw [List.map_map]
    congr 1
    exact List.map_congr_left fun r _ => (keyD_kx r).symm
  have htl0 : H tl = none := f2.free (fun b hb => by rw [List.mem_singleton.mp hb, hp2]; intro z; cases z) htl
  have htd2 : H2 td = none := Same.free s3 htd
  have htd0 : H td = none := f2.free (fun b hb => by rw [List.mem_singleton.mp hb, hp2]; intro z; cases z) htd2
  have tltd : tl ≠ td := ne_of_none upd_same htd
  have ptl : p ≠ tl := ne_of_none hp htl0
  have ptd : p ≠ td := ne_of_none hp htd0
  have sm4 : Same H2 (upd H4 tl (.lst [.ref td])) := same_mut (s3.trans s4) htl
  refine ⟨s4 _ _ upd_same, sm4 _ _ (t2 _ _ hsa), ?_⟩
  generalize eH5 : upd H4 tl (.lst [.ref td]) = H5 at sm4
  have h5tl : H5 tl = some (.lst [.ref td]) := by rw [← eH5]; exact upd_same
  have h5td : H5 td = some (DO P w td xs) := by rw [← eH5, upd_ne tltd.symm]; exact isD.ob
  have k5 : KeysAt H5 xs := by
    rw [← eH5]
    exact isD.ks.tm (tm_upd (s4 _ _ upd_same) (by intro xs z; cases z))
  have ek5 : xs.map (·.1) = st.map kx := by
    rw [ek, dedupF_map (fun a b e => kx_inj e)]
    congr 1
    refine dedup_self nds
  refine NV.use (nv_name 0 rfl) ?_
  refine ⟨p, dx, _, rfl, sm4 _ _ hp2, by show 2 < 1000; decide, ?_⟩
  generalize eH6 : upd H5 p (.ins C dx (putF "tables" (.ref tl) (putF "book" v2 (putF "scheme" v1 [])))) = H6
  have hp6 : H6 p = some (.ins C dx (putF "tables" (.ref tl) (putF "book" v2 (putF "scheme" v1 [])))) := by rw [← eH6]; exact upd_same
  have t56 : Tm H5 H6 := by rw [← eH6]; exact tm_upd (sm4 _ _ hp2) (by intro xs z; cases z)
  have f6 : Fram H H6 [p] := by rw [← eH6]; exact (f2.same sm4).own List.mem_cons_self
  have t6 : Tm H H6 := (t2.trans (Same.tm sm4)).trans t56
  have h6tl : H6 tl = some (.lst [.ref td]) := by rw [← eH6, upd_ne ptl.symm]; exact h5tl
  have h6td : H6 td = some (DO P w td xs) := by rw [← eH6, upd_ne ptd.symm]; exact h5td
  refine wcons ?_
  refine ws_fld ?_ T.cl T.nse
  refine we_comp (cp_dictK3 (us1 := [5, 6]) (us2 := [6]) rfl nd (blkOk_by (N := nInit) (sc := defScope sCInit) (own := [("rows", 4), ("row", 5), ("value", 6)]) (by decide +kernel)) (fun s H C cl fp => pgn 4 nd) (fun s H C cl fp => pgn 5 nd) (fun s H C cl fp => pgn 6 nd) (by decide) (by decide) (fun _ => rfl) (fun _ _ => rfl) (fun _ _ => rfl) (fun j hj Y acc R s it h0 h => by
    rcases hj with rfl | rfl <;> exact start_in rfl rfl (fun _ => rfl) rfl rfl h0 h)) rfl ?_
  refine flatK_sem (ds := [.tup (st.map D.ints)]) (f := rowsCells) (nv_name 3 rfl) (r3.tm t6) (fun v => rfl) ?_ (fun D0 d hd v rv hD0 => ?_) fun se H7 hse s7 => ?_
  · rw [List.flatMap_cons, List.flatMap_nil, List.append_nil]
    have := rowsCells_len hsr
    rw [sizeLine_eq]
    omega
  · rw [List.mem_singleton.mp hd] at rv ⊢
    show Adds _ _ _ ((st.map D.ints).flatMap cellsOf)
    refine adds_in (ds := st.map D.ints) (f := cellsOf) kst_ok ?_ rv ?_ fun d2 hd2 v2 rv2 => ?_
    · exact fun b => nv_name 4 rfl
    · exact fun v => rfl
    obtain ⟨r, hr, rfl⟩ := List.mem_map.mp hd2
    show Adds _ _ _ ((r.map D.int).flatMap fun i => [i])
    refine adds_in (ds := r.map D.int) (f := fun i => [i]) kst_ok ?_ rv2 ?_ fun d3 hd3 v3 rv3 => ?_
    · exact fun b => nv_name 5 rfl
    · exact fun v => rfl
    obtain ⟨i, hi, rfl⟩ := List.mem_map.mp hd3
    exact adds_pairK (fun b => ev_name 6 rfl rv3) fun b => ev_bl
  refine NV.use (nv_name 0 rfl) ?_
  refine ⟨p, dx, _, rfl, s7 _ _ hp6, by show 3 < 1000; decide, ?_⟩
  generalize eH8 : upd H7 p (.ins C dx (putF "seen" (.ref se) (putF "tables" (.ref tl) (putF "book" v2 (putF "scheme" v1 []))))) = H8
  have hp8 : H8 p = some (.ins C dx (putF "seen" (.ref se) (putF "tables" (.ref tl) (putF "book" v2 (putF "scheme" v1 []))))) := by rw [← eH8]; exact upd_same
  have t68 : Tm H6 H8 := by rw [← eH8]; exact (Same.tm s7).trans (tm_upd (s7 _ _ hp6) (by intro xs z; cases z))
  have f8 : Fram H H8 [p] := by rw [← eH8]; exact (f6.same s7).own List.mem_cons_self
  have k8 : ∀ a u, a ≠ p → H6 a = some u → H8 a = some u := fun a u hn e => by rw [← eH8, upd_ne hn]; exact s7 _ _ e
  refine wcons ?_
  refine ws_fld ?_ T.cl T.nb
  refine we pe_dnewK fun be hbe => ?_
  refine NV.use (nv_name 0 rfl) ?_
  refine ⟨p, dx, _, rfl, (same_new hbe) _ _ hp8, by show 4 < 1000; decide, ?_⟩
  have hbe0 : H be = none := f8.free (fun b hb => by rw [List.mem_singleton.mp hb, hp8]; intro z; cases z) hbe
  have pbe : p ≠ be := ne_of_none hp hbe0
  generalize eH9 : upd (upd H8 be (.dK [])) p (.ins C dx (putF "became" (.ref be) (putF "seen" (.ref se) (putF "tables" (.ref tl) (putF "book" v2 (putF "scheme" v1 [])))))) = H9
  have hp9 : H9 p = some (.ins C dx (putF "became" (.ref be) (putF "seen" (.ref se) (putF "tables" (.ref tl) (putF "book" v2 (putF "scheme" v1 [])))))) := by rw [← eH9]; exact upd_same
  have t89 : Tm H8 H9 := by rw [← eH9]; exact (Same.tm (same_new hbe)).trans (tm_upd ((same_new hbe) _ _ hp8) (by intro xs z; cases z))
  have f9 : Fram H H9 [p] := by rw [← eH9]; exact (f8.new hbe0).own List.mem_cons_self
  have k9 : ∀ a u, a ≠ p → H8 a = some u → H9 a = some u := fun a u hn e => by rw [← eH9, upd_ne hn]; exact (same_new hbe) _ _ e
  have h9be : H9 be = some (.dK []) := by rw [← eH9, upd_ne pbe.symm]; exact upd_same
  refine wcons ?_
  refine ws_fld ?_ T.cl T.np
  refine we_el (el_lst ea_nil (by show 0 ≤ sizeLine; decide)) fun sl vs0 H10 hsl s10 h10' r10 => ?_
  refine NV.use (nv_name 0 rfl) ?_
  refine ⟨p, dx, _, rfl, s10 _ _ hp9, by show 5 < 1000; decide, ?_⟩
  obtain rfl : vs0 = [] := r10
  have hsl0 : H sl = none := f9.free (fun b hb => by rw [List.mem_singleton.mp hb, hp9]; intro z; cases z) hsl
  have psl : p ≠ sl := ne_of_none hp hsl0
  generalize eH11 : upd H10 p (.ins C dx (putF "steps" (.ref sl) (putF "became" (.ref be) (putF "seen" (.ref se) (putF "tables" (.ref tl) (putF "book" v2 (putF "scheme" v1 []))))))) = H11
  have hp11 : H11 p = some (.ins C dx (putF "steps" (.ref sl) (putF "became" (.ref be) (putF "seen" (.ref se) (putF "tables" (.ref tl) (putF "book" v2 (putF "scheme" v1 []))))))) := by rw [← eH11]; exact upd_same
  have t911 : Tm H9 H11 := by rw [← eH11]; exact (Same.tm s10).trans (tm_upd (s10 _ _ hp9) (by intro xs z; cases z))
  have f11 : Fram H H11 [p] := by rw [← eH11]; exact (f9.same s10).own List.mem_cons_self
  have k11 : ∀ a u, a ≠ p → H9 a = some u → H11 a = some u := fun a u hn e => by rw [← eH11, upd_ne hn]; exact s10 _ _ e
  have h11sl : H11 sl = some (.lst []) := by rw [← eH11, upd_ne psl.symm]; exact h10'
  refine wone ?_
  refine ws_fld ?_ T.cl T.nc
  refine we_ev ev_bl fun vc H12 s12 rc => ?_
  refine NV.use (nv_name 0 rfl) ?_
  refine ⟨p, dx, _, rfl, s12 _ _ hp11, by show 6 < 1000; decide, ?_⟩
  obtain rfl := (show vc = V.bl false from rc)
  rw [fl_make]
  have t12 : Tm H11 (upd H12 p (.ins C dx (fl v1 v2 (.ref tl) (.ref se) (.ref be) (.ref sl)))) := (Same.tm s12).trans (tm_upd (s12 _ _ hp11) (by intro xs z; cases z))
  have tAll : Tm H6 (upd H12 p (.ins C dx (fl v1 v2 (.ref tl) (.ref se) (.ref be) (.ref sl)))) := ((t68.trans t89).trans t911).trans t12
  have k12 : ∀ a u, a ≠ p → H11 a = some u → (upd H12 p (.ins C dx (fl v1 v2 (.ref tl) (.ref se) (.ref be) (.ref sl)))) a = some u := fun a u hn e => by rw [upd_ne hn]; exact s12 _ _ e
  have kA : ∀ a u, a ≠ p → H6 a = some u → (upd H12 p (.ins C dx (fl v1 v2 (.ref tl) (.ref se) (.ref be) (.ref sl)))) a = some u := fun a u hn e => k12 a u hn (k11 a u hn (k9 a u hn (k8 a u hn e)))
  refine hq [p, tl, td, be, sl] _ ⟨dx, v1, v2, tl, td, .ref se, be, sl, xs, [], rfl, upd_same, (r1.tm t6).tm tAll, (r2.tm t6).tm tAll, kA _ _ ptl.symm h6tl, kA _ _ ptd.symm h6td, (k5.tm t56).tm tAll, ek5, ?_, k12 _ _ psl.symm h11sl, Nat.le_refl _, fun e => ?_⟩ ((f11.same s12).own List.mem_cons_self) fun x hx => ?_
  · exact k12 _ _ pbe.symm (k11 _ _ pbe.symm h9be)
  · have := k9 _ _ ptl.symm (k8 _ _ ptl.symm h6tl)
    rw [e, hsl] at this
    cases this
  · simp only [List.mem_cons, List.not_mem_nil, or_false] at hx
    rcases hx with rfl | rfl | rfl | rfl | rfl
    · exact .inl rfl
    · exact .inr htl0
    · exact .inr htd0
    · exact .inr hbe0
    · exact .inr hsl0
end
end Nr
/-! chased, chase. -/
namespace Nr
open PySem PySem.Spec L2
open PyProof.Rows hiding St

/-- C(..) -/
def OkC (P : Program) (w : World) (K : PySem.W.Frag) (mg : Str → Option Value) (base : Heap) (C : Addr) (k : Nat) (x : Str) (sp : Sp) : Prop :=
  ∃ f fd ps, Mk K C f ∧ mg x = some (.ref C) ∧ Binds K fd ps [] ∧ FnOk P w K mg base CX0 k f fd ps sp
theorem we_make {X : Cx} {σ : L2.St} {H : Hp} {e : Expr} {es : List Expr} {x : Str} {p pos : Pos} {Q : VK} {k : Nat} {sp : Sp} {C : Addr} (h : OkC X.prog X.w X.K X.mg X.base C k x sp) (hr : Room (k + 1) X.A) (hg : Gl X x)
    (ha : WA X (e :: es) σ H fun vs H1 => ∀ q dx, H1 q = none → H1 dx = none → dx ≠ q → sp (.ref q :: vs) (upd (upd H1 dx (.own q)) q (.ins C dx [])) (fun v H2 => v = .non ∧ Q (.ref q) H2) EF) (hdb : (x == ("__debug__" : Str)) = false := by decide)
    (he : starEach (e :: es) X.env = (false, eval e X.env) :: starEach es X.env := by rfl) (hpl : (backTo pos (starEach es X.env)).any (·.1) = false := by rfl) : WE X (.Call (.Name x p) (e :: es) [] pos) σ H Q := by
  obtain ⟨f, fd, ps, h1, h2, h3, h4⟩ := h
  refine we (pe_make (E := EF) h1 h4 hr hg h2 h3 .nil pass0 pa_w hdb he hpl) ?_
  exact ha.mono fun vs H1 q y dx hy hdx hn => by rw [List.append_nil]; exact q y dx hy hdx hn
section
variable {P : Program} {w : World} {K : PySem.W.Frag} {mg : Str → Option Value} {base : Heap} {f C : Addr} {fd : FuncData}
theorem opens_le (n : Nat) (o : Nat → Int) (rows : List Row) : opens n o rows ≤ n := by
  have := List.length_filter_le (fun c => rows.any fun r => decide (cel r c = o c)) (List.range n)
  rw [List.length_range] at this
  exact this
/-- what a chase starts from -/
structure Bg (n : Nat) (book : List Dep) (wi : Dep) (st : List Row) : Prop where
  dep : ∀ d ∈ book, DepOk n d ∧ d.L.length ≤ 1000 ∧ d.R.length ≤ 1000
  h3 : n ≤ 3
  bl : book.length ≤ 1000
  wk : WishOk n wi
  st : St n wi st
theorem Bg.bk {n : Nat} {book : List Dep} {wi : Dep} {st : List Row} (b : Bg n book wi st) : Bk n (oW n wi) book := ⟨oW_ok n wi, b.dep, b.wk.pos, b.h3, b.bl⟩
theorem Bg.len {n : Nat} {book : List Dep} {wi : Dep} {st : List Row} (b : Bg n book wi st) : st.length ≤ 8 := (b.st.init (book := book) b.wk).few8 b.h3
/-- chased(scheme, book, store) -/
def spChased (P : Program) (w : World) (C : Addr) : Sp := fun vs H Q _ => ∃ v1 v2 v3 n book wi st, vs = [v1, v2, v3] ∧ Rep H (.tup [.int ((n : Nat) : Int)]) v1 ∧ Rep H (bookD book) v2 ∧ Rep H (.tup [.tup (st.map D.ints)]) v3 ∧ Bg n book wi st ∧
  ∀ p O H' rows bec m, Same H H' → CAt P w C H' p n book rows bec m O → Done n book wi st rows bec → Q (.ref p) H'
theorem scChased : FnScope ["scheme", "book", "store", "found"] ["scheme", "book", "store"] (defScope sChased) := ⟨rfl, rfl, rfl, by decide +kernel, rfl, by decide +kernel, by decide +kernel⟩
theorem ok_chased (F : FnP K "chased" "chased" sChased f fd) (T : Txt K mg C) (G1 : OkC P w K mg base C 5 "Chase" (spInit P w C)) (G2 : OkM P w K mg base C 6 "run" (spRun P w C)) : FnOk P w K mg base CX0 7 f fd ["scheme", "book", "store"] (spChased P w C) := by
  refine fnOk F scChased (fun vs H Q E h => ?_) fun cdv A outer s H vs Q E hr h => ?_
  · obtain ⟨v1, v2, v3, n, book, wi, st, rfl, _⟩ := h
    rfl
  obtain ⟨v1, v2, v3, n, book, wi, st, rfl, r1, r2, r3, bg, hq⟩ := h
  have nd := scChased.nd
  have few := bg.len
  have ch0 := bg.st.init (book := book) bg.wk
  have h3 := bg.h3
  refine wcons ?_
  refine ws_set 3 nd ?_
  refine we_make G1 hr rfl ?_
  refine (nva_cons (nv_name 0 rfl) (nva_cons (nv_name 1 rfl) (nva_cons (nv_name 2 rfl) nva_nil))) _ _ fun p dx hp hdx hn => ?_
  have s1 : Same H (upd (upd H dx (.own p)) p (.ins C dx [])) := same_mut (same_new hdx) hp
  refine ⟨p, dx, v1, v2, v3, n, book, st, rfl, upd_same, r1.mono s1, r2.mono s1, r3.mono s1, bg.st.nd, by omega, fun r hr => ?_, fun O H2 c2 f2 ow2 => ⟨rfl, ?_⟩⟩
  · rw [ch0.len r hr]
    omega
  have s2 : Same H H2 := fun a u h => by
    refine f2 a u (s1 a u h) fun z => ?_
    rw [List.mem_singleton.mp z, hp] at h
    cases h
  have ow2' : ∀ x ∈ O, H x = none := fun x hx => by
    rcases ow2 x hx with e | e
    · rw [e]; exact hp
    · exact Same.free s1 e
  have op := opens_le n (oW n wi) st
  refine wcons ?_
  refine ws_expr ?_
  obtain ⟨dx', w1', w2', tl', td', se', be', sl', xs', ss', h0', h1', _⟩ := c2.ex
  refine we_meth0 G2 hr T.cl (rv_name 3 rfl) h1' (fl_no (by decide)) ?_
  refine ⟨p, n, oW n wi, book, st, st, [], 0, O, rfl, ⟨c2, ch0, Nat.le_refl _, ?_⟩, bg.bk, fun O' H3 rows bec m c3 f3 ow3 cl => ?_⟩
  · unfold meas
    omega
  have s3 : Same H H3 := fun a u h => f3 a u (s2 a u h) fun z => by
    rw [ow2' a z] at h
    cases h
  refine wone (ws_ret (NV.use (nv_name 3 rfl) ?_))
  exact hq p O' H3 rows bec m s3 c3.at_ ⟨c3.ch, bg.st, cl⟩
/-- chase(scheme, book, store) -/
def spChase (P : Program) (w : World) : Sp := fun vs H Q _ => ∃ v1 v2 v3 n book wi st, vs = [v1, v2, v3] ∧ Rep H (.tup [.int ((n : Nat) : Int)]) v1 ∧ Rep H (bookD book) v2 ∧ Rep H (.tup [.tup (st.map D.ints)]) v3 ∧ Bg n book wi st ∧
  ∀ v H' rows bec, Same H H' → Done n book wi st rows bec → Rep H' (.tup [.tup ((sortR rows).map D.ints)]) v → Q v H'
theorem scChase : FnScope ["scheme", "book", "store", "found"] ["scheme", "book", "store"] (defScope sChase) := ⟨rfl, rfl, rfl, by decide +kernel, rfl, by decide +kernel, by decide +kernel⟩
theorem ok_chase (F : FnP K "chase" "chase" sChase f fd) (T : Txt K mg C) (G1 : Ok P w K mg base 7 "chased" (spChased P w C)) (G2 : OkM P w K mg base C 7 "store" (spStore P w C)) : FnOk P w K mg base CX0 8 f fd ["scheme", "book", "store"] (spChase P w) := by
  refine fnOk F scChase (fun vs H Q E h => ?_) fun cdv A outer s H vs Q E hr h => ?_
  · obtain ⟨v1, v2, v3, n, book, wi, st, rfl, _⟩ := h
    rfl
  obtain ⟨v1, v2, v3, n, book, wi, st, rfl, r1, r2, r3, bg, hq⟩ := h
  have nd := scChase.nd
  refine wcons ?_
  refine ws_set 3 nd ?_
  refine we_call G1 hr rfl ?_
  refine (nva_cons (nv_name 0 rfl) (nva_cons (nv_name 1 rfl) (nva_cons (nv_name 2 rfl) nva_nil))) _ _ ⟨v1, v2, v3, n, book, wi, st, rfl, r1, r2, r3, bg, fun p O H1 rows bec m s1 c1 dn => ?_⟩
  have few := dn.ch.few8 bg.h3
  obtain ⟨dx', w1', w2', tl', td', se', be', sl', xs', ss', h0', h1', _⟩ := c1.ex
  refine wone (ws_ret ?_)
  refine we (pe_ifExp pt_w pe_w pe_w) ?_
  refine WT.mono ((et_val ((rv_fld (rv_name 3 rfl) h1' T.cl T.nc fl_clashed).ev (d := .bl false) rfl)) H1 (Same.refl _)) ?_
  rintro tb H2 ⟨rfl, s2⟩
  refine iteF ?_
  refine we_meth0 G2 hr T.cl (rv_name 3 rfl) (s2 _ _ h1') (fl_no (by decide)) ?_
  refine ⟨p, n, book, rows, bec, m, O, rfl, c1.same s2, bg.wk.pos, dn.ch.len, by omega, fun v H3 s3 rv => ?_⟩
  exact hq v H3 rows bec ((s1.trans s2).trans s3) dn rv
end
end Nr
/-! start. -/
namespace Nr
open PySem PySem.Spec L2
open PyProof.Rows hiding St

theorem LV.orT {X : Cx} {e : Expr} {σ : L2.St} {H : Hp} {ds : List D} (h : LV X e σ H ds) : ∀ H1, Same H H1 → WE X e σ H1 fun v H2 => Same H1 H2 ∧ ∃ l vs, v = .ref l ∧ (H2 l = some (.lst vs) ∨ H2 l = some (.tup vs)) ∧ RepL H2 ds vs := fun H1 s => (h H1 s).mono fun v H2 ⟨s2, l, vs, e, h2, r⟩ => ⟨s2, l, vs, e, .inl h2, r⟩
theorem EV.orT {X : Cx} {e : Expr} {σ : L2.St} {H : Hp} {ds : List D} (h : EV X e σ H (.tup ds)) : ∀ H1, Same H H1 → WE X e σ H1 fun v H2 => Same H1 H2 ∧ ∃ l vs, v = .ref l ∧ (H2 l = some (.lst vs) ∨ H2 l = some (.tup vs)) ∧ RepL H2 ds vs := fun H1 s => (h H1 s).mono fun v H2 ⟨s2, l, vs, e, h2, r⟩ => ⟨s2, l, vs, e, .inr h2, r⟩
section
variable {P : Program} {w : World} {K : PySem.W.Frag} {mg : Str → Option Value} {base : Heap} {f C : Addr} {fd : FuncData}
abbrev schD (n : Nat) : D := .tup [.int (n : Int)]
abbrev storeD (rows : List Row) : D := .tup [.tup (rows.map D.ints)]
/-- start(scheme, dependency) -/
def rStart (ds : List D) (d : D) : Prop := ∃ (n : Nat) (wi : Dep), ds = [schD n, depD wi] ∧ WishOk n wi ∧ n ≤ 3 ∧ d = storeD (sortR (dedupF (startL n wi)))
theorem st_start {n : Nat} {wi : Dep} : St n wi (sortR (dedupF (startL n wi))) := ⟨(sortR_perm _).nodup_iff.mpr (dedupF_nodup _), fun r => by rw [(sortR_perm _).mem_iff, dedupF_mem]⟩
abbrev nStart : List Str := ["scheme", "dependency", "kind", "table", "width", "rows", "parts", "empty", "turn", "part"]
theorem scStart : FnScope nStart ["scheme", "dependency"] (defScope sStart) := ⟨rfl, rfl, rfl, by decide +kernel, rfl, by decide +kernel, by decide +kernel⟩
theorem ok_start (F : FnP K "start" "start" sStart f fd) (B : Bi mg) (G1 : Ok P w K mg base 2 "first_row" (spR 1 rFirst)) (G2 : Ok P w K mg base 2 "part_row" (spR 3 rPartRow)) (G3 : Ok P w K mg base 2 "parts_of" (spR 2 rPartsOf)) : FnOk P w K mg base CX0 3 f fd ["scheme", "dependency"] (spR 2 rStart) := by
  refine okR F scStart fun cdv A outer s H vs ds d E DE hr rl hrd hq => ?_
  obtain ⟨n, wi, rfl, hw, hn3, rfl⟩ := hrd
  obtain ⟨v1, _, rfl, r1, v2, _, rfl, r2, hnil⟩ := rl
  obtain rfl := hnil
  have nd := scStart.nd
  have hn1 := hw.pos
  refine wcons ?_
  refine ws_pair (d1 := .str (kindS wi)) (d2 := .int 0) 2 3 rfl nd (ev_slT (ev_name 1 rfl r2) eo_none (eo_some ev_int)) fun vk vt H1 s1 rk rt => ?_
  obtain rfl := (show vt = V.int 0 from rt)
  refine wcons ?_
  refine ws_set 4 nd (we_ev (ev_ixT (ds := [.int (n : Int)]) (i := 0) (ev_name 0 rfl (r1.mono s1)) (ev_name 3 rfl rep_int) rfl (fun _ _ => rfl)) fun vw H2 s2 rw_ => ?_)
  obtain rfl := (show vw = V.int (n : Int) from rw_)
  have s12 := s1.trans s2
  have rest : ∀ (H3 : Hp) (l : Addr) (xs : List V) (o6 : Option V), Same H H3 → H3 l = some (.lst xs) → RepL H3 ((startL n wi).map D.ints) xs →
      WSs (cxOf CX0 P w K mg base nStart "start" (defScope sStart) f cdv A outer s H E).nox ((L2.defBody sStart).drop 3) DE [some v1, some v2, some vk, some (.int 0), some (.int (n : Int)), some (.ref l), o6, none, none, none] H3 := by
    intro H3 l xs o6 s03 hl rl
    have sl2 : (startL n wi).length ≤ 2 := by unfold startL; split <;> exact Nat.le_refl _
    refine wcons ?_
    refine ws_set 7 nd (we_ev (dd := .tup [.tup []]) (EV.to (ev_repT (k := 1) (ev_tup (ea_cons (ev_tup ea_nil (by show 0 ≤ sizeLine; decide)) ea_nil) (by show 1 ≤ sizeLine; decide)) (ev_lenT (ev_name 0 rfl (r1.mono s03)) rfl B.len) (by simp) (by decide) (by decide) (by show 1 ≤ 1000; decide)) rfl) fun ve H4 s4 re => ?_)
    have s04 := s03.trans s4
    refine wone (ws_retV (d := storeD (sortR (dedupF (startL n wi)))) (EV.to (d := .tup (([] ++ [.tup ((sortR (dedupF (startL n wi))).map D.ints)]) ++ [])) (ev_catT (ev_catT ?_ ?_ ?_) ?_ ?_) rfl) fun v H5 s5 r5 => hq v H5 (s04.trans s5) r5)
    · refine EV.to (ev_slT (ds := [.tup []]) (l := none) (h := some 0) ?_ eo_none (eo_some ?_)) rfl
      · exact ev_name 7 rfl re
      · exact ev_name 3 rfl rep_int
    · refine ev_tup (ea_cons ?_ ea_nil) (by show 1 ≤ sizeLine; decide)
      refine ev_tupleL (EL.lv ?_) rfl B.tuple
      refine el_sortedset rfl ?_ (LV.orT (lv_name 5 rfl (s4 _ _ hl) (rl.mono s4))) ?_ ?_ rfl B.set rfl B.sorted
      · exact hr.units
      · omega
      · intro r hr e
        have := startL_len hr
        rw [e] at this
        have : (0 : Nat) = n := this
        omega
    · show 0 + 1 ≤ sizeLine
      decide
    · refine EV.to (ev_slT (ds := [.tup []]) (l := some (0 + 1)) (h := none) ?_ (eo_some (ev_add ?_ ev_int)) eo_none) rfl
      · exact ev_name 7 rfl re
      · exact ev_name 3 rfl rep_int
    · show 1 + 0 ≤ sizeLine
      decide
  refine wcons ?_
  refine ws_ifB _ (et_eqS (ev_name 2 rfl (rk.mono s2)) ev_str) (fun e H3 s3 => ?_) fun e H3 s3 => ?_
  · have hst : wi.st = true := by
      unfold kindS at e
      cases z : wi.st with
      | true => rfl
      | false => rw [z] at e; exact absurd (of_decide_eq_true e) (by decide)
    have s03 := s12.trans s3
    refine wone (ws_set 5 nd (we_el (ds := (startL n wi).map D.ints) ?_ fun l xs H4 hl s4 hl' rl => ?_))
    · have es : (startL n wi).map D.ints = [.ints (firstR n), .ints (partR n wi.L 1)] := by unfold startL; rw [hst]; rfl
      rw [es]
      refine el_lst (ea_cons ?_ (ea_cons ?_ ea_nil)) (by show 2 ≤ sizeLine; decide)
      · exact ev_call G1 hr rfl (ea_cons (ev_name 4 rfl rep_int) ea_nil) rfl ⟨n, rfl, by omega, rfl⟩
      · refine ev_call G2 hr rfl (ea_cons (ev_name 4 rfl rep_int) (ea_cons (ev_ixT (ds := [.str (kindS wi), .int 0, natsT wi.L, natsT wi.R]) (i := 2) (ev_name 1 rfl (r2.mono s03)) ev_int rfl (fun _ _ => rfl)) (ea_cons ev_int ea_nil))) rfl ⟨n, wi.L, 1, rfl, by omega, by decide, rfl⟩
    · exact rest H4 l xs none (s03.trans s4) hl' rl
  · have hst : wi.st = false := by
      unfold kindS at e
      cases z : wi.st with
      | false => rfl
      | true => rw [z] at e; exact absurd (of_decide_eq_false e) (by decide)
    have ek : kindS wi = "deals" := by unfold kindS; rw [hst]; rfl
    have s03 := s12.trans s3
    refine wone (ws_ifB _ (et_eqS (ev_name 2 rfl ((rk.mono s2).mono s3)) ev_str) (fun e => ?_) fun _ H4 s4 => ?_)
    · rw [ek] at e
      exact absurd (of_decide_eq_true e) (by decide)
    have s04 := s03.trans s4
    refine wcons ?_
    refine ws_set 6 nd (we_ev (ev_call G3 hr rfl (ea_cons (ev_name 4 rfl rep_int) (ea_cons (ev_name 1 rfl (r2.mono s04)) ea_nil)) rfl ⟨n, wi, rfl, hst, by omega, rfl⟩) fun vp H5 s5 rp => ?_)
    have es : (startL n wi).map D.ints = [.ints (partR n (p1 n wi) 1), .ints (partR n (p2 n wi) 2)] := by unfold startL; rw [hst]; rfl
    refine wone (ws_setL 5 (ELS.to (ds' := (startL n wi).map D.ints) (el_lc (ifs := []) (own := [("turn", 8), ("part", 9)]) (g := gTup K 2 (gCons (gName 8) (gCons (gName 9) gNil))) (fun d => match d with | .tup [.int t, _] => some (if t = 0 then .ints (partR n (p1 n wi) 1) else .ints (partR n (p2 n wi) 2)) | _ => none) rfl nd (blkOk_by (N := nStart) (sc := defScope sStart) (by decide +kernel))
      (ds := enumD [natsT (p1 n wi), natsT (p2 n wi)]) ?_ (fun b => by exact pg_tup rfl (pgs_cons (pgn 8 nd) (pgs_cons (pgn 9 nd) pgs_nil))) ?_ ?_) ?_) fun l xs H6 hl s6 hl' rl => ?_)
    · exact src_enT (ev_name 6 rfl rp) rfl B.enum
    · show 2 ≤ sizeLine
      decide
    · intro d hd x H6 s6 rx Q' hQ
      rw [show enumD [natsT (p1 n wi), natsT (p2 n wi)] = [.tup [.int ((0 : Nat) : Int), natsT (p1 n wi)], .tup [.int ((1 : Nat) : Int), natsT (p2 n wi)]] from rfl] at hd
      simp only [List.mem_cons, List.not_mem_nil, or_false] at hd
      rcases hd with rfl | rfl
      · obtain ⟨t, tvs, rfl, ht, y1, _, rfl, ry1, y2, _, rfl, ry2, hnil⟩ := rx
        obtain rfl := hnil
        obtain rfl := (show y1 = V.int ((0 : Nat) : Int) from ry1)
        refine ⟨t, _, rfl, SqT.of ht, rfl, _, _, rfl, _, _, rfl, rfl, hQ _ H6 (Same.refl _) rfl fun b => ?_⟩
        refine ⟨rfl, ?_⟩
        exact ev_call G2 hr rfl (ea_cons (ev_name 4 rfl rep_int) (ea_cons (ev_name 9 rfl ry2) (ea_cons (ev_add (ev_name 8 rfl rep_int) ev_int) ea_nil))) rfl ⟨n, p1 n wi, 1, rfl, by omega, by decide, rfl⟩
      · obtain ⟨t, tvs, rfl, ht, y1, _, rfl, ry1, y2, _, rfl, ry2, hnil⟩ := rx
        obtain rfl := hnil
        obtain rfl := (show y1 = V.int ((1 : Nat) : Int) from ry1)
        refine ⟨t, _, rfl, SqT.of ht, rfl, _, _, rfl, _, _, rfl, rfl, hQ _ H6 (Same.refl _) rfl fun b => ?_⟩
        refine ⟨rfl, ?_⟩
        exact ev_call G2 hr rfl (ea_cons (ev_name 4 rfl rep_int) (ea_cons (ev_name 9 rfl ry2) (ea_cons (ev_add (ev_name 8 rfl rep_int) ev_int) ea_nil))) rfl ⟨n, p2 n wi, 2, rfl, by omega, by decide, rfl⟩
    · rw [es]
      rfl
    · exact rest H6 l xs (some vp) ((s04.trans s5).trans s6) hl' rl
end
end Nr
/-! is_met, chased_start, follows. -/
namespace Nr
open PySem PySem.Spec L2
open PyProof.Rows hiding St

theorem Ch.lk {n : Nat} {o : Nat → Int} {book : List Dep} {st rows : List Row} {bec : List (Int × Int)} (h : Ch n o book st rows bec) (ok : OOk n o) : ∀ q ∈ bec, bec.lookup q.2 = none := by
  intro q hq
  obtain ⟨c, hc, e, _⟩ := h.bc q hq
  rw [e]
  cases l : bec.lookup (-1 - (c : Int)) with
  | none => rfl
  | some u =>
    obtain ⟨d, hd, e1, _⟩ := h.bc _ (lookup_mem l)
    exact absurd (Prod.mk.inj e1).1.symm (ok.ne hd hc)
section
variable {P : Program} {w : World} {X : Cx} {e o : Expr} {σ : L2.St} {H : Hp} {pos apos : Pos} {C p : Addr} {n : Nat} {book : List Dep} {rows : List Row} {bec : List (Int × Int)} {m : Nat} {O : List Addr} {v : Int}
/-- found.now(value) -/
theorem ev_now {k : Nat} {pl : Sem Bool} (G : OkM X.prog X.w X.K X.mg X.base C k "now" (spNow X.prog X.w C)) (hr : Room k X.A) (T : Txt X.K X.mg C) (ho : RV X o σ H (.ref p)) (c : CAt X.prog X.w C H p n book rows bec m O) (hb : ∀ q ∈ bec, bec.lookup q.2 = none) (ha : EV X e σ H (.int v))
    (hst : starEach [e] X.env = (false, eval e X.env) :: starEach [] X.env := by rfl) (hpl : (backTo pos (starEach [] X.env)).any (·.1) = false := by rfl)
    (ht : eval (.Call (.Attribute o "now" apos) [e] [] pos) X.env = (do
      let ov ← eval o X.env
      standAt apos.atName
      let (f, first) ← holding [ov] (getMethod ov "now" pl)
      callWith pos f first (backTo pos (starEach [e] X.env)) (backToKw pos (keywordEach [] X.env))) := by rfl) : EV X (.Call (.Attribute o "now" apos) [e] [] pos) σ H (.int (nowv bec v)) := fun H1 s => by
  have c1 := c.same s
  obtain ⟨dx, w1, w2, tl, td, se, be, sl, xs, ss, h0, h1, _⟩ := c1.ex
  refine we_meth G hr T.cl (ho.mono s) h1 (fl_no (by decide)) ?_ hst hpl ht
  refine WA.mono ((ea_cons ha ea_nil hst) H1 s) ?_
  rintro vs H2 ⟨s2, v1, _, rfl, r1, hnil⟩
  obtain rfl := hnil
  rw [show v1 = V.int v from r1]
  exact ⟨p, n, book, rows, bec, m, O, v, rfl, c1.same s2, hb, fun H3 s3 => ⟨s2.trans s3, rfl⟩⟩
end
section
variable {P : Program} {w : World} {K : PySem.W.Frag} {mg : Str → Option Value} {base : Heap} {f C : Addr} {fd : FuncData}
/-- is_met(found, dependency) -/
def spMet (P : Program) (w : World) (C : Addr) : Sp := fun vs H Q _ => ∃ p v2 n book wi st rows bec m O, vs = [.ref p, v2] ∧ CAt P w C H p n book rows bec m O ∧ Rep H (depD wi) v2 ∧ Done n book wi st rows bec ∧ n ≤ 3 ∧ WishOk n wi ∧ wi.R.length ≤ 1000 ∧
  ∀ b H', Same H H' → (b = true ↔ Met n wi rows bec) → Q (.bl b) H'
abbrev nIsMet : List Str := ["found", "dependency", "kind", "table", "width", "first", "left", "right", "others", "columns", "other", "wanted", "value", "column", "row"]
theorem scIsMet : FnScope nIsMet ["found", "dependency"] (defScope sIsMet) := ⟨rfl, rfl, rfl, by decide +kernel, rfl, by decide +kernel, by decide +kernel⟩
theorem ok_isMet (F : FnP K "is_met" "is_met" sIsMet f fd) (T : Txt K mg C) (B : Bi mg) (G1 : Ok P w K mg base 2 "first_row" (spR 1 rFirst)) (G2 : Ok P w K mg base 2 "told_value" (spR 1 rTold)) (G3 : OkM P w K mg base C 2 "now" (spNow P w C)) (G4 : OkM P w K mg base C 2 "is_there" (spThere P w C)) : FnOk P w K mg base CX0 3 f fd ["found", "dependency"] (spMet P w C) := by
  refine fnOk F scIsMet (fun vs H Q E h => ?_) fun cdv A outer s H vs Q E hr h => ?_
  · obtain ⟨p, v2, n, book, wi, st, rows, bec, m, O, rfl, _⟩ := h
    rfl
  obtain ⟨p, v2, n, book, wi, st, rows, bec, m, O, rfl, c, r2, dn, hn3, hw, hR, hq⟩ := h
  have nd := scIsMet.nd
  have hn1 := hw.pos
  have hlk := dn.ch.lk (oW_ok n wi)
  obtain ⟨dx, w1, w2, tl, td, se, be, sl, xs, ss, h0, h1, h2, h3, _⟩ := c.ex
  refine wcons ?_
  refine ws_pair (d1 := .str (kindS wi)) (d2 := .int 0) 2 3 rfl nd (ev_slT (ev_name 1 rfl r2) eo_none (eo_some ev_int)) fun vk vt H1 s1 rk rt => ?_
  obtain rfl := (show vt = V.int 0 from rt)
  refine wcons ?_
  refine ws_set 4 nd (we_ev (dd := .int (n : Int)) ?_ fun vw H2 s2 rw_ => ?_)
  · refine ev_ixT (ds := [.int (n : Int)]) (i := 0) ?_ (ev_name 3 rfl rep_int) rfl (fun _ _ => rfl)
    exact (rv_fld (rv_name 0 rfl) (s1 _ _ h1) T.cl T.ns fl_scheme).ev (h2.mono s1)
  obtain rfl := (show vw = V.int (n : Int) from rw_)
  have s12 := s1.trans s2
  refine wcons ?_
  refine ws_set 5 nd (we_el (ELS.el (el_mapI (is := firstR n) 12 (fun v => .int (nowv bec v)) nd (blkOk_by (N := nIsMet) (sc := defScope sIsMet) (by decide +kernel)) (src_tup ?_) ?_ ?_)) fun fl vs3 H3 hfl s3 h3' r3 => ?_)
  · exact ev_call G1 hr rfl (ea_cons (ev_name 4 rfl rep_int) ea_nil) rfl ⟨n, rfl, by omega, rfl⟩
  · rw [firstR_len]; omega
  · intro i hi H3 s3 b
    refine ev_now G3 hr T ?_ (c.same (s12.trans s3)) hlk ?_
    · exact rv_name 0 rfl
    · exact ev_name 12 rfl rep_int
  have s13 := s12.trans s3
  have e3 : (firstR n).map (fun v => D.int (nowv bec v)) = ((firstR n).map (nowv bec)).map D.int := by rw [List.map_map]; rfl
  rw [e3] at r3
  have cf : ∀ c, c < n → (((firstR n).map (nowv bec)).map D.int)[c]? = some (.int (nowv bec (-1 - (c : Int)))) := fun c hc => by
    unfold firstR
    rw [List.map_map, List.map_map, List.getElem?_map, List.getElem?_range hc]
    rfl
  refine wcons ?_
  refine ws_ifB _ (et_eqS (ev_name 2 rfl ((rk.mono s2).mono s3)) ev_str) (fun e H4 s4 => ?_) fun e H4 s4 => wnil ?_
  · have hst : wi.st = true := by
      unfold kindS at e
      cases z : wi.st with
      | true => rfl
      | false => rw [z] at e; exact absurd (of_decide_eq_true e) (by decide)
    have s04 := s13.trans s4
    refine wcons ?_
    refine ws_pair (d1 := natsT wi.L) (d2 := natsT wi.R) 6 7 rfl nd (ev_slT (ev_name 1 rfl (r2.mono s04)) (eo_some ev_int) eo_none) fun vL vR H5 s5 rL rR => ?_
    have s05 := s04.trans s5
    refine wcons ?_
    refine ws_set 8 nd (we_el (ELS.el (el_mapN (cs := List.range n) 13 (fun c => .int (nowv bec (-1 - ((n + c : Nat) : Int)))) nd (blkOk_by (N := nIsMet) (sc := defScope sIsMet) (by decide +kernel)) ?_ ?_ ?_)) fun ol vs6 H6 hol s6 h6' r6 => ?_)
    · exact src_range (ev_name 4 rfl rep_int) (by omega) rfl B.range
    · rw [List.length_range]; omega
    · intro x hx H6 s6 b
      refine ev_now G3 hr T ?_ (c.same (s05.trans s6)) hlk ?_
      · exact rv_name 0 rfl
      · refine ev_call G2 hr rfl (ea_cons (ev_add (ev_name 4 rfl rep_int) (ev_name 13 rfl rep_int)) ea_nil) rfl ⟨_, rfl, ?_⟩
        rw [Int.natCast_add]
    have s06 := s05.trans s6
    have s36 := (s4.trans s5).trans s6
    have co : ∀ c, c < n → ((List.range n).map fun c => D.int (nowv bec (-1 - ((n + c : Nat) : Int))))[c]? = some (.int (nowv bec (-1 - ((n + c : Nat) : Int)))) := fun c hc => by
      rw [List.getElem?_map, List.getElem?_range hc]
      rfl
    refine wone (ws_retV (d := .bl (((wi.R.filter fun c => !decide (c ∈ wi.L)).map fun (c : Nat) => decide (nowv bec (-1 - (c : Int)) = nowv bec (-1 - ((n + c : Nat) : Int)))).all id)) (ev_all (EL.to (ELS.el (el_filterN (cs := wi.R) 13 (fun c => !decide (c ∈ wi.L)) (fun (c : Nat) => .bl (decide (nowv bec (-1 - (c : Int)) = nowv bec (-1 - ((n + c : Nat) : Int))))) nd (blkOk_by (N := nIsMet) (sc := defScope sIsMet) (by decide +kernel)) (src_tup ?_) hR ?_)) ?_) rfl rfl B.all) fun v H7 s7 r7 => ?_)
    · exact ev_name 7 rfl (rR.mono s6)
    · intro x hx H7 s7 b
      have hxn := hw.ok.2 x hx
      refine ⟨?_, fun _ => ?_⟩
      · exact et_ninN (ev_name 13 rfl rep_int) (ev_name 6 rfl ((rL.mono s6).mono s7))
      · exact ev_eqI (ev_ixL (i := x) (lv_name 5 rfl (s7 _ _ (s36 _ _ h3')) ((r3.mono s36).mono s7)) (ev_name 13 rfl rep_int) (cf x hxn)) (ev_ixL (i := x) (lv_name 8 rfl (s7 _ _ h6') (r6.mono s7)) (ev_name 13 rfl rep_int) (co x hxn))
    · rw [List.map_map]
      rfl
    · rw [show v = V.bl _ from r7]
      refine hq _ H7 (s06.trans s7) ?_
      unfold Met
      rw [if_pos hst, List.all_eq_true]
      constructor
      · intro h x hx hxl
        have := h _ (List.mem_map.mpr ⟨x, List.mem_filter.mpr ⟨hx, by rw [decide_eq_false hxl]; rfl⟩, rfl⟩)
        exact of_decide_eq_true this
      · intro h b hb
        obtain ⟨x, hx, rfl⟩ := List.mem_map.mp hb
        obtain ⟨hx1, hx2⟩ := List.mem_filter.mp hx
        have hxl : x ∉ wi.L := fun z => by rw [decide_eq_true z] at hx2; cases hx2
        exact decide_eq_true (h x hx1 hxl)
  · have hst : wi.st = false := by
      unfold kindS at e
      cases z : wi.st with
      | false => rfl
      | true => rw [z] at e; exact absurd (of_decide_eq_false e) (by decide)
    have ek : kindS wi = "deals" := by unfold kindS; rw [hst]; rfl
    refine wcons ?_
    refine ws_ifB _ (et_eqS (ev_name 2 rfl (((rk.mono s2).mono s3).mono s4)) ev_str) (fun e => ?_) fun _ H5 s5 => wnil ?_
    · rw [ek] at e
      exact absurd (of_decide_eq_true e) (by decide)
    have s05 := (s13.trans s4).trans s5
    refine wone (ws_ret ?_)
    refine we_meth G4 hr T.cl (rv_name 0 rfl) (s05 _ _ h1) (fl_no (by decide)) ?_
    refine wa (pa_cons pe_w (pa_cons pe_w pa_nil)) ?_
    refine NV.use (nv_name 3 rfl) ?_
    refine we_ev (ev_tupleL (lv_name 5 rfl (s5 _ _ (s4 _ _ h3')) ((r3.mono s4).mono s5)) rfl B.tuple) fun y2 H6 s6 q2 => ?_
    refine ⟨p, n, book, rows, bec, m, O, (firstR n).map (nowv bec), y2, rfl, q2, c.same (s05.trans s6), fun H7 s7 => ?_⟩
    refine hq _ H7 ((s05.trans s6).trans s7) ?_
    unfold Met
    rw [if_neg (by rw [hst]; exact Bool.false_ne_true), decide_eq_true_iff]
/-- chased_start(scheme, book, dependency) -/
def spCs (P : Program) (w : World) (C : Addr) : Sp := fun vs H Q _ => ∃ v1 v2 v3 n book wi, vs = [v1, v2, v3] ∧ Rep H (schD n) v1 ∧ Rep H (bookD book) v2 ∧ Rep H (depD wi) v3 ∧ (∀ st, St n wi st → Bg n book wi st) ∧
  ∀ p O H' st rows bec m, Same H H' → CAt P w C H' p n book rows bec m O → Done n book wi st rows bec → Q (.ref p) H'
theorem scCs : FnScope ["scheme", "book", "dependency"] ["scheme", "book", "dependency"] (defScope sChasedStart) := ⟨rfl, rfl, rfl, by decide +kernel, rfl, by decide +kernel, by decide +kernel⟩
theorem ok_cs (F : FnP K "chased_start" "chased_start" sChasedStart f fd) (G1 : Ok P w K mg base 7 "chased" (spChased P w C)) (G2 : Ok P w K mg base 7 "start" (spR 2 rStart)) : FnOk P w K mg base CX0 8 f fd ["scheme", "book", "dependency"] (spCs P w C) := by
  refine fnOk F scCs (fun vs H Q E h => ?_) fun cdv A outer s H vs Q E hr h => ?_
  · obtain ⟨v1, v2, v3, n, book, wi, rfl, _⟩ := h
    rfl
  obtain ⟨v1, v2, v3, n, book, wi, rfl, r1, r2, r3, bg, hq⟩ := h
  have bg := bg _ st_start
  refine wone (ws_ret ?_)
  refine we_call G1 hr rfl ?_
  refine wa (pa_cons pe_w (pa_cons pe_w (pa_cons pe_w pa_nil))) ?_
  refine NV.use (nv_name 0 rfl) (NV.use (nv_name 1 rfl) ?_)
  refine we_ev (ev_call G2 hr rfl (ea_cons (ev_name 0 rfl r1) (ea_cons (ev_name 2 rfl r3) ea_nil)) rfl ⟨n, wi, rfl, bg.wk, bg.h3, rfl⟩) fun v4 H1 s1 r4 => ?_
  refine ⟨v1, v2, v4, n, book, wi, _, rfl, r1.mono s1, r2.mono s1, r4, bg, fun p O H2 rows bec m s2 c2 dn => ?_⟩
  exact hq p O H2 _ rows bec m (s1.trans s2) c2 dn
/-- follows(scheme, book, dependency) -/
def spFollows (P : Program) (w : World) : Sp := fun vs H Q _ => ∃ v1 v2 v3 n book wi, vs = [v1, v2, v3] ∧ Rep H (schD n) v1 ∧ Rep H (bookD book) v2 ∧ Rep H (depD wi) v3 ∧ (∀ st, St n wi st → Bg n book wi st) ∧ wi.R.length ≤ 1000 ∧
  ∀ b H', Same H H' → (b = true ↔ Entails n book wi) → Q (.bl b) H'
theorem scFollows : FnScope ["scheme", "book", "dependency"] ["scheme", "book", "dependency"] (defScope sFollows) := ⟨rfl, rfl, rfl, by decide +kernel, rfl, by decide +kernel, by decide +kernel⟩
theorem ok_follows (F : FnP K "follows" "follows" sFollows f fd) (G1 : Ok P w K mg base 8 "chased_start" (spCs P w C)) (G2 : Ok P w K mg base 8 "is_met" (spMet P w C)) : FnOk P w K mg base CX0 9 f fd ["scheme", "book", "dependency"] (spFollows P w) := by
  refine fnOk F scFollows (fun vs H Q E h => ?_) fun cdv A outer s H vs Q E hr h => ?_
  · obtain ⟨v1, v2, v3, n, book, wi, rfl, _⟩ := h
    rfl
  obtain ⟨v1, v2, v3, n, book, wi, rfl, r1, r2, r3, bg, hR, hq⟩ := h
  have bg0 := bg _ st_start
  refine wone (ws_ret ?_)
  refine we_call G2 hr rfl ?_
  refine wa (pa_cons pe_w (pa_cons pe_w pa_nil)) ?_
  refine we_call G1 hr rfl ?_
  refine (nva_cons (nv_name 0 rfl) (nva_cons (nv_name 1 rfl) (nva_cons (nv_name 2 rfl) nva_nil))) _ _ ⟨v1, v2, v3, n, book, wi, rfl, r1, r2, r3, bg, fun p O H1 st rows bec m s1 c1 dn => ?_⟩
  refine NV.use (nv_name 2 rfl) ?_
  refine ⟨p, v3, n, book, wi, st, rows, bec, m, O, rfl, c1, r3.mono s1, dn, bg0.h3, bg0.wk, hR, fun b H2 s2 hb => ?_⟩
  exact hq b H2 (s1.trans s2) (hb.trans (dn.met_iff bg0.wk))
end
end Nr
/-! sets_of_columns, wishes. -/
namespace Nr
open PySem PySem.Spec L2
open PyProof.Rows hiding St

def stepS (found : List (List Nat)) (c : Nat) : List (List Nat) := found ++ found.map (· ++ [c])
def subsF (cs : List Nat) : List (List Nat) := cs.foldl stepS [[]]
theorem foldS_len : ∀ (cs : List Nat) (acc : List (List Nat)), (cs.foldl stepS acc).length = acc.length * 2 ^ cs.length
  | [], acc => by simp
  | c :: cs, acc => by
    rw [List.foldl_cons, foldS_len cs, List.length_cons, Nat.pow_succ]
    unfold stepS
    rw [List.length_append, List.length_map]
    rw [← Nat.mul_two, Nat.mul_assoc, Nat.mul_comm 2]
def unN (d : D) : List Nat := match d with
  | .tup ds => ds.map fun d => match d with | .int i => i.toNat | _ => 0
  | _ => []
theorem unN_nats (s : List Nat) : unN (natsT s) = s := by
  unfold unN natsT
  simp only [List.map_map]
  exact List.map_id s
theorem perm_nats {l : List D} {ss : List (List Nat)} (h : l.Perm (ss.map natsT)) : ∃ ss' : List (List Nat), l = ss'.map natsT ∧ ss'.Perm ss := by
  refine ⟨l.map unN, ?_, ?_⟩
  · rw [List.map_map]
    have : ∀ d ∈ l, (natsT ∘ unN) d = d := fun d hd => by
      obtain ⟨s, _, rfl⟩ := List.mem_map.mp (h.mem_iff.mp hd)
      show natsT (unN (natsT s)) = _
      rw [unN_nats]
    rw [List.map_congr_left this]
    exact (List.map_id l).symm
  · have := h.map unN
    have e : ss.map (unN ∘ natsT) = ss := (List.map_congr_left (g := id) fun s _ => unN_nats s).trans (List.map_id ss)
    rw [List.map_map, e] at this
    exact this
theorem sortOk_ints {ns : List Int} (h : ns.length ≤ 1000) : SortOk (ns.map D.int) := by
  refine ⟨fun d hd d' hd' => ?_, .inr fun d hd => ?_, fun d hd => ?_, by rw [List.length_map]; omega⟩
  · rw [List.map_map] at hd hd'
    obtain ⟨a, _, rfl⟩ := List.mem_map.mp hd
    obtain ⟨b, _, rfl⟩ := List.mem_map.mp hd'
    rfl
  · rw [List.map_map] at hd
    obtain ⟨a, _, rfl⟩ := List.mem_map.mp hd
    exact ⟨(fun z => nomatch z), fun xs z => nomatch z⟩
  · obtain ⟨a, _, rfl⟩ := List.mem_map.mp hd
    simp [toPy, PyData.depth]
theorem sortD_asc {ns : List Int} (h : ns.Pairwise (· ≤ ·)) : sortD (ns.map D.int) = ns.map D.int := by
  unfold sortD
  refine List.mergeSort_of_pairwise ?_
  rw [List.pairwise_map]
  exact h.imp fun {a b} e => by rw [leD_int]; exact decide_eq_true e
section
variable {X : Cx} {e : Expr} {σ : L2.St} {H : Hp} {ds : List D} {p pos : Pos}
/-- sorted(a tuple) -/
theorem el_sortedTup (h : EV X e σ H (.tup ds)) (ok : SortOk ds) (hu : X.A.units + 64 < cLine) (hg : Gl X "sorted") (hm : X.mg "sorted" = none) (he : starEach [e] X.env = (false, eval e X.env) :: starEach [] X.env := by rfl) : EL X (.Call (.Name "sorted" p) [e] [] pos) σ H (sortD ds) := fun H1 s => by
  refine we (pe_callB (cr_sortedL hu) hg hm (by decide +kernel) (pa_cons pe_w pa_nil he) (by decide) (by decide) he rfl) ?_
  refine (h H1 s).mono fun v H2 ⟨s2, l, vs, e0, e1, rl⟩ => ?_
  rw [e0]
  exact ⟨l, vs, ds, rfl, .inr (SqT.of e1), rl, ok, fun q ys hq r => ⟨q, ys, rfl, Same.free s2 hq, s2.trans (same_new hq), upd_same, r.mono (same_new hq)⟩⟩
theorem el_sortedLst (h : LV X e σ H ds) (ok : SortOk ds) (hu : X.A.units + 64 < cLine) (hg : Gl X "sorted") (hm : X.mg "sorted" = none) (he : starEach [e] X.env = (false, eval e X.env) :: starEach [] X.env := by rfl) : EL X (.Call (.Name "sorted" p) [e] [] pos) σ H (sortD ds) := fun H1 s => by
  refine we (pe_callB (cr_sortedL hu) hg hm (by decide +kernel) (pa_cons pe_w pa_nil he) (by decide) (by decide) he rfl) ?_
  refine (h H1 s).mono fun v H2 ⟨s2, l, vs, e0, e1, rl⟩ => ?_
  rw [e0]
  exact ⟨l, vs, ds, rfl, .inl (SqL.of e1), rl, ok, fun q ys hq r => ⟨q, ys, rfl, Same.free s2 hq, s2.trans (same_new hq), upd_same, r.mono (same_new hq)⟩⟩
end
section
variable {P : Program} {w : World} {K : PySem.W.Frag} {mg : Str → Option Value} {base : Heap} {f fo C : Addr} {fd fdo : FuncData}
/-- sets_of_columns(columns) -/
def spSets : Sp := fun vs H Q _ => ∃ v cs, vs = [v] ∧ Rep H (natsT cs) v ∧ cs.Pairwise (· ≤ ·) ∧ cs.length ≤ 3 ∧ ∀ l xs (ss : List (List Nat)) H', Same H H' → H l = none → H' l = some (.lst xs) → RepL H' (ss.map natsT) xs → ss.Perm (subsF cs) → Q (.ref l) H'
abbrev nSets : List Str := ["columns", "found", "column", "known"]
theorem scSets : FnScope nSets ["columns"] (defScope sSetsOfColumns) := ⟨rfl, rfl, rfl, by decide +kernel, rfl, by decide +kernel, by decide +kernel⟩
theorem ok_sets (F : FnP K "sets_of_columns" "sets_of_columns" sSetsOfColumns f fd) (B : Bi mg) (FO : FnP K "set_order" "set_order" sSetOrder fo fdo) (hbO : Binds K fdo ["columns"] []) (hfO : mg "set_order" = some (.ref fo)) : FnOk P w K mg base CX0 4 f fd ["columns"] spSets := by
  refine fnOk F scSets (fun vs H Q E h => ?_) fun cdv A outer s H vs Q E hr h => ?_
  · obtain ⟨v, cs, rfl, _⟩ := h
    rfl
  obtain ⟨v, cs, rfl, rc, hcs, hl3, hq⟩ := h
  have nd := scSets.nd
  have asc : (cs.map fun (c : Nat) => (c : Int)).Pairwise (· ≤ ·) := by
    rw [List.pairwise_map]
    exact hcs.imp fun {a b} e => Int.ofNat_le.mpr e
  have ecs : (cs.map fun (c : Nat) => D.int (c : Int)) = (cs.map fun (c : Nat) => (c : Int)).map D.int := by rw [List.map_map]; rfl
  refine wcons ?_
  refine ws_set 1 nd (we_el (el_lst (ea_cons (ev_tup ea_nil (by show 0 ≤ sizeLine; decide)) ea_nil) (by show 1 ≤ sizeLine; decide)) fun l0 vs0 H1 hl0 s1 h1' r1 => ?_)
  refine wcons ?_
  refine ws_for PassesOwn.never rfl (pgn 2 nd) ?_
  refine WI.mono (wi_new (el_sortedTup (ds := (cs.map fun (c : Nat) => (c : Int)).map D.int) ?_ (sortOk_ints (by rw [List.length_map]; omega)) ?_ rfl B.sorted)) ?_
  · rw [← ecs]
    exact ev_name 0 rfl (rc.mono s1)
  · exact hr.units
  rintro J H2 ⟨s2, l2, vs2, hl2, h2', r2, rJ⟩
  rw [sortD_asc asc] at rJ r2
  refine forW rJ (fun j σ' H' => ∃ o2 o3 l xs, ∃ ss : List (List Nat), σ' = [some v, some (.ref l), o2, o3] ∧ Same H2 H' ∧ H l = none ∧ H' l = some (.lst xs) ∧ RepL H' (ss.map natsT) xs ∧ ss = (cs.take j).foldl stepS [[]])
    ⟨none, none, l0, vs0, [[]], rfl, Same.refl _, hl0, s2 _ _ h1', r1.mono s2, rfl⟩ ?_ ?_ ?_
  · rintro j σ' H' _ ⟨o2, o3, l, xs, ss, _, s', _⟩
    exact ⟨Same.tm s', s' _ _ h2'⟩
  · rintro j d σ' H3 hd ⟨o2, o3, l, xs, ss, rfl, g1, g2, g3, g4, g5⟩ x H4 s4 rx
    rw [← ecs, List.getElem?_map] at hd
    obtain ⟨c, hcj, rfl⟩ : ∃ c, cs[j]? = some c ∧ D.int ((c : Nat) : Int) = d := by
      cases h : cs[j]? with
      | none => rw [h] at hd; cases hd
      | some r => rw [h] at hd; exact ⟨r, rfl, Option.some.inj hd⟩
    obtain rfl := (show x = V.int ((c : Nat) : Int) from rx)
    have hjl : j < cs.length := (List.getElem?_eq_some_iff.mp hcj).1
    have tk : (cs.take (j + 1)).foldl stepS [[]] = stepS ss c := by
      rw [List.take_add_one, hcj, List.foldl_append, ← g5]
      rfl
    have ssl : ss.length ≤ 8 := by
      rw [g5, foldS_len, List.length_singleton, Nat.one_mul]
      refine Nat.le_trans (Nat.pow_le_pow_right (by decide) (show (cs.take j).length ≤ 3 from ?_)) (by decide)
      rw [List.length_take]
      omega
    refine wone (ws_set 1 nd (we_el (ds := (stepS ss c).map natsT) (EL.to (el_cat (lv_name 1 rfl (s4 _ _ g3) (g4.mono s4)) (EL.lv (ELS.el (el_map (ds := ss.map natsT) 3 (fun d => match d with | .tup ds => .tup (ds ++ [.int (c : Int)]) | _ => .non) rfl nd (blkOk_by (N := nSets) (sc := defScope sSetsOfColumns) (by decide +kernel)) ?_ (fun b => pgn 3 nd) ?_ ?_))) ?_) ?_) fun l5 xs5 H5 hl5 s5 h5' r5 => ?_))
    · exact src_lv (lv_name 1 rfl (s4 _ _ g3) (g4.mono s4))
    · rw [List.length_map, sizeLine_eq]; omega
    · intro d hd v5 H5 s5 rv5 b
      obtain ⟨k, hk, rfl⟩ := List.mem_map.mp hd
      have hkl : k.length ≤ 1000 := by
        have gen : ∀ (cs : List Nat) (acc : List (List Nat)) (m : Nat), (∀ s ∈ acc, s.length ≤ m) → ∀ s ∈ cs.foldl stepS acc, s.length ≤ m + cs.length := fun cs => by
          induction cs with
          | nil => intro acc m h s hs; exact h s hs
          | cons c cs ih =>
            intro acc m h s hs
            have := ih (stepS acc c) (m + 1) (fun t ht => by
              unfold stepS at ht
              rcases List.mem_append.mp ht with z | z
              · exact Nat.le_succ_of_le (h t z)
              · obtain ⟨u, hu, rfl⟩ := List.mem_map.mp z
                rw [List.length_append]
                exact Nat.succ_le_succ (h u hu)) s hs
            rw [List.length_cons]
            omega
        rw [g5] at hk
        have := gen (cs.take j) [[]] 0 (fun s hs => by rw [List.mem_singleton.mp hs]; exact Nat.le_refl _) k hk
        rw [List.length_take] at this
        omega
      refine ev_catT (ev_name 3 rfl rv5) (ev_tup (ea_cons (ev_name 2 rfl rep_int) ea_nil) (by show 1 ≤ sizeLine; decide)) ?_
      rw [List.length_map, sizeLine_eq]
      show k.length + 1 ≤ _
      omega
    · rw [List.length_map, List.length_map, List.length_map, sizeLine_eq]; omega
    · rw [stepS, List.map_append, List.map_map, List.map_map]
      congr 1
      refine List.map_congr_left fun s _ => ?_
      show D.tup (s.map (fun (c : Nat) => D.int (c : Int)) ++ [.int (c : Int)]) = natsT (s ++ [c])
      unfold natsT
      rw [List.map_append]
      rfl
    · have s05 : Same H H4 := ((s1.trans s2).trans g1).trans s4
      exact ⟨_, _, l5, xs5, _, rfl, (g1.trans s4).trans s5, Same.free s05 hl5, h5', r5, tk.symm⟩
  · rintro σ' H3 ⟨o2, o3, l, xs, ss, rfl, g1, g2, g3, g4, g5⟩
    rw [List.length_map, List.length_map, List.take_length] at g5
    have ssl : ss.length ≤ 8 := by
      rw [g5, foldS_len, List.length_singleton, Nat.one_mul]
      exact Nat.le_trans (Nat.pow_le_pow_right (by decide) hl3) (by decide)
    have ess : ss.map natsT = (ss.map fun s => s.map fun (c : Nat) => (c : Int)).map D.ints := by
      rw [List.map_map]
      exact List.map_congr_left fun s _ => natsT_eq s
    refine wone (ws_ret (we_el (el_sortedK (ss := ss.map fun s => s.map fun (c : Nat) => (c : Int)) FO hbO B.len ?_ hfO rfl rfl B.sorted ?_ ?_) fun l5 xs5 H5 hl5 s5 h5' r5 => ?_))
    · exact hr
    · rw [← ess]
      exact lv_name 1 rfl g3 g4
    · rw [List.length_map]; omega
    · rw [← ess] at r5
      obtain ⟨ss', e', p'⟩ := perm_nats (sortS_perm (ss.map natsT))
      rw [e'] at r5
      have s03 : Same H H3 := (s1.trans s2).trans g1
      refine hq l5 xs5 ss' H5 (s03.trans s5) (Same.free s03 hl5) h5' r5 ?_
      rw [← show ss = subsF cs from g5]
      exact p'
end
end Nr
/-! wishes. -/
namespace Nr
open PySem PySem.Spec L2
open PyProof.Rows hiding St

theorem subsF_mem {n : Nat} : ∀ {cs : List Nat} {acc : List (List Nat)} {m : Nat}, (∀ s ∈ acc, ∀ c ∈ s, c < n) → (∀ s ∈ acc, s.length ≤ m) → (∀ c ∈ cs, c < n) → ∀ s ∈ cs.foldl stepS acc, (∀ c ∈ s, c < n) ∧ s.length ≤ m + cs.length
  | [], acc, m, h1, h2, _, s, hs => ⟨h1 s hs, h2 s hs⟩
  | c :: cs, acc, m, h1, h2, h3, s, hs => by
    have := subsF_mem (n := n) (cs := cs) (acc := stepS acc c) (m := m + 1) (fun t ht => by
      unfold stepS at ht
      rcases List.mem_append.mp ht with z | z
      · exact h1 t z
      · obtain ⟨u, hu, rfl⟩ := List.mem_map.mp z
        intro x hx
        rcases List.mem_append.mp hx with y | y
        · exact h1 u hu x y
        · rw [List.mem_singleton.mp y]; exact h3 c List.mem_cons_self) (fun t ht => by
      unfold stepS at ht
      rcases List.mem_append.mp ht with z | z
      · exact Nat.le_succ_of_le (h2 t z)
      · obtain ⟨u, hu, rfl⟩ := List.mem_map.mp z
        rw [List.length_append]
        exact Nat.succ_le_succ (h2 u hu)) (fun x hx => h3 x (List.mem_cons_of_mem _ hx)) s hs
    rw [List.length_cons]
    exact ⟨this.1, by omega⟩
def restL (n : Nat) (left : List Nat) : List Nat := (List.range n).filter fun c => !decide (c ∈ left)
def setW (n : Nat) (left : List Nat) : List Dep := (restL n left).map fun c => ⟨true, left, [c]⟩
def dealOk (n : Nat) (left right : List Nat) : Bool := decide ((0 : Int) < (right.length : Int)) && decide ((right.length : Int) < (n : Int) - (left.length : Int))
def dealW (n : Nat) (left : List Nat) (rs : List (List Nat)) : List Dep := (rs.filter (dealOk n left)).map fun r => ⟨false, left, r⟩
def wish1 (n : Nat) (left : List Nat) : List Dep := setW n left ++ dealW n left (subsF (restL n left))
def wishL (n : Nat) : List Dep := (subsF (List.range n)).flatMap (wish1 n)
theorem restL_len (n : Nat) (left : List Nat) : (restL n left).length ≤ n := by
  have := List.length_filter_le (fun c => !decide (c ∈ left)) (List.range n)
  rw [List.length_range] at this
  exact this
theorem subsF_len (cs : List Nat) : (subsF cs).length = 2 ^ cs.length := by
  unfold subsF
  rw [foldS_len, List.length_singleton, Nat.one_mul]
theorem wish1_len {n : Nat} (h : n ≤ 3) (left : List Nat) : (wish1 n left).length ≤ 11 := by
  have h1 := restL_len n left
  have h2 := List.length_filter_le (dealOk n left) (subsF (restL n left))
  rw [subsF_len] at h2
  have h3 : 2 ^ (restL n left).length ≤ 2 ^ 3 := Nat.pow_le_pow_right (by decide) (by omega)
  unfold wish1 setW dealW
  rw [List.length_append, List.length_map, List.length_map]
  omega
section
variable {X : Cx} {e a b c : Expr} {σ : L2.St} {H H' : Hp} {d : D} {ds : List D} {p pos p1 p2 p4 p5 : Pos} {fl l : Addr} {xs vs : List V}
theorem et_lt2 {i j k : Int} (ha : EV X a σ H (.int i)) (hb : EV X b σ H (.int j)) (hc : EV X c σ H (.int k)) (hm : lastMarks [.Lt, .Lt] [b, c] = false := by with_unfolding_all rfl) : ET X (.Compare a [.Lt, .Lt] [b, c] pos) σ H (decide (i < j) && decide (j < k)) := fun H1 s => by
  refine wt (pt_chain op_lt op_lt pe_w pe_w pe_w hm) ?_
  refine (ha H1 s).mono fun x H2 ⟨s2, rx⟩ => (hb H2 (s.trans s2)).mono fun y H3 ⟨s3, ry⟩ => ⟨i, j, rx, ry, _, rfl, ?_⟩
  by_cases h : i < j
  · rw [if_pos (decide_eq_true h), decide_eq_true h]
    exact (hc H3 ((s.trans s2).trans s3)).mono fun z H4 ⟨s4, rz⟩ => ⟨j, k, ry, rz, _, rfl, rfl, (s2.trans s3).trans s4⟩
  · rw [if_neg (fun z => h (of_decide_eq_true z)), decide_eq_false h]
    exact ⟨false, rfl, rfl, s2.trans s3⟩
theorem ev_tupRange {n : Nat} (hc : X.calm = true) (h : EV X e σ H (.int (n : Int))) (hn : n ≤ 1000) (hg : Gl X "tuple") (hm : X.mg "tuple" = none) (hg2 : Gl X "range") (hm2 : X.mg "range" = none) (na : starEach [e] X.env = (false, eval e X.env) :: starEach [] X.env := by rfl)
    (nb : starEach [.Call (.Name "range" p2) [e] [] p4] X.env = (false, eval (.Call (.Name "range" p2) [e] [] p4) X.env) :: starEach [] X.env := by rfl) : EV X (.Call (.Name "tuple" p) [.Call (.Name "range" p2) [e] [] p4] [] pos) σ H (natsT (List.range n)) := fun H1 s => by
  refine we (pe_tupRg hc hg hm (prg_1 hg2 hm2 pe_w na) nb) ?_
  refine (h H1 s).mono fun v H2 ⟨s2, r⟩ => ⟨(n : Int), r, ⟨by omega, by omega, by omega, by omega, by omega⟩, fun q hq => ⟨s2.trans (same_new hq), ?_⟩⟩
  rw [natsT_eq]
  refine rep_ints.mpr ⟨q, rfl, ?_⟩
  rw [upd_same, List.map_map]
  unfold rgV
  have e1 : ((n : Int) - 0).toNat = n := by omega
  rw [e1]
  congr 2
  exact List.map_congr_left fun i _ => by rw [Int.zero_add]; rfl
theorem runs_itl {K : PySem.W.Frag} (rl : RepL H ds vs) : Runs (Itl K l) (fun H' => Tm H H' ∧ H' l = some (.lst vs)) ds := fun i H3 m => by
  refine ⟨fun d hd => ?_, fun hi => ?_⟩
  · obtain ⟨v, hv, rv⟩ := rl.get hd
    refine ⟨⟨vs, v, SqL.of m.2, hv⟩, fun x H' y => ?_⟩
    obtain ⟨e, y⟩ := y
    have y1 := y vs (SqL.of m.2)
    rw [hv] at y1
    rw [e, ← Option.some.inj y1]
    exact ⟨Same.refl _, rv.tm m.1⟩
  · exact ⟨vs, SqL.of m.2, by rw [rl.length, hi]; exact Nat.le_refl _⟩
theorem ws_app {DE : Ends} {x : Str} {p1 : Pos} (hN : NV X (.Name x p1) σ (.ref fl)) (hfl : H fl = some (.lst xs)) (rl : RepL H ds xs) (hl : ds.length < 100000) (he : EV X e σ H d) (k : ∀ v H2, Same H H2 → RepL (upd H2 fl (.lst (xs ++ [v]))) (ds ++ [d]) (xs ++ [v]) → Fram H (upd H2 fl (.lst (xs ++ [v]))) [fl] → Tm H (upd H2 fl (.lst (xs ++ [v]))) → DE.nx σ (upd H2 fl (.lst (xs ++ [v]))))
    (hbase : attributeBase (.Name x p1) "append" X.env (eval (.Name x p1) X.env) = eval (.Name x p1) X.env := by rfl)
    (hfew : ((backTo p4 (starEach [e] X.env)).all (fun x => !x.1) && (backToKw p4 (keywordEach [] X.env)).all (fun x => x.1.isSome)
      && decide ([e].length + ([] : List Keyword).length + (if ([] : List Keyword).isEmpty then 0 else 1) < 30)) = true := by rfl)
    (hline : (p2.endLine == p4.line) = true := by rfl) (hs : starEach [e] X.env = (false, eval e X.env) :: starEach [] X.env := by rfl) (hsw : swapsWith (.Call (.Attribute (.Name x p1) "append" p2) [e] [] p4) none p5.line X.env = pure false := by rfl) :
    WS X (.Expr (.Call (.Attribute (.Name x p1) "append" p2) [e] [] p4) p5) DE σ H := by
  refine ws_expr ?_ hsw
  refine we_append ?_ hbase hfew hline hs
  refine hN.use ⟨⟨fl, xs, rfl, hfl⟩, we_ev he fun v H2 s2 rv => ?_⟩
  have h2 := s2 _ _ hfl
  refine ⟨fl, xs, rfl, h2, by rw [rl.length, sizeLine_eq]; omega, ?_⟩
  have t : Tm H2 (upd H2 fl (.lst (xs ++ [v]))) := tm_upd h2 (by intro ys z; cases z)
  exact k v H2 s2 (((rl.mono s2).tm t).append (.one (rv.tm t))) ((Same.fram s2).own List.mem_cons_self) ((Same.tm s2).trans t)
end
section
variable {P : Program} {w : World} {K : PySem.W.Frag} {mg : Str → Option Value} {base : Heap} {f C : Addr} {fd : FuncData}
/-- wishes(width) -/
def spWishes : Sp := fun vs H Q _ => ∃ n : Nat, vs = [.int (n : Int)] ∧ n ≤ 3 ∧ ∀ l xs (W : List Dep) H', Same H H' → H l = none → H' l = some (.lst xs) → RepL H' (W.map depD) xs → W.Perm (wishL n) → Q (.ref l) H'
abbrev nWishes : List Str := ["width", "columns", "found", "left", "column", "right"]
theorem scWishes : FnScope nWishes ["width"] (defScope sWishes) := ⟨rfl, rfl, rfl, by decide +kernel, rfl, by decide +kernel, by decide +kernel⟩
theorem ok_wishes (F : FnP K "wishes" "wishes" sWishes f fd) (B : Bi mg) (G : Ok P w K mg base 4 "sets_of_columns" spSets) : FnOk P w K mg base CX0 5 f fd ["width"] spWishes := by
  refine fnOk F scWishes (fun vs H Q E h => ?_) fun cdv A outer s H vs Q E hr h => ?_
  · obtain ⟨n, rfl, _⟩ := h
    rfl
  obtain ⟨n, rfl, hn3, hq⟩ := h
  have nd := scWishes.nd
  have pr : (List.range n).Pairwise (· ≤ ·) := (List.pairwise_lt_range (n := n)).imp Nat.le_of_lt
  refine wcons ?_
  refine ws_set 1 nd (we_ev (ev_tupRange rfl (ev_name 0 rfl rep_int) (by omega) rfl B.tuple rfl B.range) fun vc H1 s1 rc => ?_)
  refine wcons ?_
  refine ws_set 2 nd (we_el (el_lst ea_nil (by show 0 ≤ sizeLine; decide)) fun fl vs2 H2 hfl s2 h2' r2 => ?_)
  have s12 := s1.trans s2
  have hfl0 : H fl = none := Same.free s1 hfl
  refine wcons ?_
  refine ws_for PassesOwn.never rfl (pgn 3 nd) (wi (pi_list pe_w) ?_)
  refine we_call G hr rfl ?_
  refine wa (pa_cons pe_w pa_nil) ?_
  refine we_ev (ev_name 1 rfl (rc.mono s2)) fun vc3 H3 s3 rc3 => ?_
  refine ⟨vc3, List.range n, rfl, rc3, pr, by rw [List.length_range]; exact hn3, fun l4 xs4 ss H4 s4 hl4 h4' r4 perm4 => ?_⟩
  refine ⟨l4, rfl, ⟨_, SqL.of h4'⟩, ?_⟩
  have s24 := s3.trans s4
  have l4fl : l4 ≠ fl := fun e => by
    rw [e, s3 _ _ h2'] at hl4
    cases hl4
  have ssl : ss.length ≤ 8 := by
    rw [perm4.length_eq, subsF_len, List.length_range]
    exact Nat.le_trans (Nat.pow_le_pow_right (by decide) hn3) (by decide)
  refine forW (runs_itl r4) (fun j σ' H' => ∃ o3 o4 o5 xs, ∃ W : List Dep, σ' = [some (.int (n : Int)), some vc, some (.ref fl), o3, o4, o5] ∧ Same H H' ∧ Fram H4 H' [fl] ∧ Tm H4 H' ∧ H' fl = some (.lst xs) ∧ RepL H' (W.map depD) xs ∧ W.Perm ((ss.take j).flatMap (wish1 n)))
    ⟨none, none, none, vs2, [], rfl, s12.trans s24, Fram.refl, Tm.refl _, s24 _ _ h2', r2.mono s24, by rw [List.take_zero]; exact List.Perm.refl _⟩ ?_ ?_ ?_
  · rintro j σ' H' _ ⟨o3, o4, o5, xs, W, _, _, f', t', _⟩
    exact ⟨t', f' _ _ h4' (by simp [l4fl])⟩
  · rintro j d σ' H5 hd ⟨o3, o4, o5, xs, W, rfl, g0, g1, g2, g3, g4, g5⟩ x H6 s6 rx
    rw [List.getElem?_map] at hd
    obtain ⟨left, hlj, rfl⟩ : ∃ left, ss[j]? = some left ∧ natsT left = d := by
      cases h : ss[j]? with
      | none => rw [h] at hd; cases hd
      | some r => rw [h] at hd; exact ⟨r, rfl, Option.some.inj hd⟩
    have hjl : j < ss.length := (List.getElem?_eq_some_iff.mp hlj).1
    have hleft := subsF_mem (n := n) (m := 0) (cs := List.range n) (acc := [[]]) (fun s hs c hc => by rw [List.mem_singleton.mp hs] at hc; cases hc) (fun s hs => by rw [List.mem_singleton.mp hs]; exact Nat.le_refl _) (fun c hc => List.mem_range.mp hc) left (perm4.mem_iff.mp (List.mem_of_getElem? hlj))
    rw [List.length_range] at hleft
    have tk : (ss.take (j + 1)).flatMap (wish1 n) = (ss.take j).flatMap (wish1 n) ++ wish1 n left := by
      rw [List.take_add_one, hlj, List.flatMap_append]
      show _ ++ ([left].flatMap (wish1 n)) = _
      rw [List.flatMap_cons, List.flatMap_nil, List.append_nil]
    have Wl : W.length ≤ 88 := by
      rw [g5.length_eq]
      have gen : ∀ l : List (List Nat), (l.flatMap (wish1 n)).length ≤ l.length * 11 := fun l => by
        induction l with
        | nil => exact Nat.zero_le _
        | cons s l ih =>
          rw [List.flatMap_cons, List.length_append, List.length_cons, Nat.succ_mul]
          have := wish1_len hn3 s
          omega
      have := gen (ss.take j)
      rw [List.length_take] at this
      omega
    have s06 := g0.trans s6
    have rcH : Rep H6 (natsT (List.range n)) vc := ((((rc.mono s2).mono s24).tm g2).mono s6)
    refine wcons ?_
    refine ws_for PassesOwn.never rfl (pgn 4 nd) ?_
    refine WI.mono (wi_tup (ds := (List.range n).map fun (c : Nat) => .int (c : Int)) (ev_name 1 rfl rcH)) ?_
    rintro J7 H7 ⟨s7, rJ7⟩
    have s67 := s6.trans s7
    refine forW rJ7 (fun i σ' H' => ∃ o4 xs, ∃ W1 : List Dep, σ' = [some (.int (n : Int)), some vc, some (.ref fl), some x, o4, o5] ∧ Same H H' ∧ Fram H4 H' [fl] ∧ Tm H4 H' ∧ Tm H7 H' ∧ H' fl = some (.lst xs) ∧ RepL H' (W1.map depD) xs ∧ W1 = W ++ (((List.range n).take i).filter fun c => !decide (c ∈ left)).map fun c => ⟨true, left, [c]⟩)
      ⟨o4, xs, W, rfl, s06.trans s7, g1.same s67, g2.trans (Same.tm s67), Tm.refl _, s67 _ _ g3, g4.mono s67, by rw [List.take_zero]; simp⟩ ?_ ?_ ?_
    · rintro i σ' H' _ ⟨_, _, _, _, _, _, _, t, _⟩
      exact t
    · rintro i d σ' H8 hd ⟨o4', xs8, W8, rfl, k0, k1, k2, k3, k4, k5, k6⟩ y H9 s9 ry
      rw [List.getElem?_map] at hd
      obtain ⟨c, hci, rfl⟩ : ∃ c, (List.range n)[i]? = some c ∧ D.int ((c : Nat) : Int) = d := by
        cases h : (List.range n)[i]? with
        | none => rw [h] at hd; cases hd
        | some r => rw [h] at hd; exact ⟨r, rfl, Option.some.inj hd⟩
      obtain rfl := (show y = V.int ((c : Nat) : Int) from ry)
      have tk8 : ((((List.range n).take (i + 1)).filter fun c => !decide (c ∈ left)).map fun c => (⟨true, left, [c]⟩ : Dep)) = ((((List.range n).take i).filter fun c => !decide (c ∈ left)).map fun c => (⟨true, left, [c]⟩ : Dep)) ++ (if c ∈ left then [] else [⟨true, left, [c]⟩]) := by
        rw [List.take_add_one, hci, List.filter_append, List.map_append]
        congr 1
        by_cases z : c ∈ left <;> simp [z]
      have rxH : Rep H9 (natsT left) x := ((rx.mono s7).tm k3).mono s9
      have W8l : W8.length ≤ 99 := by
        rw [k6, List.length_append, List.length_map]
        have h1 := List.length_filter_le (fun c => !decide (c ∈ left)) ((List.range n).take i)
        rw [List.length_take, List.length_range] at h1
        omega
      refine wone (ws_ifB _ (et_ninN (ev_name 4 rfl rep_int) (ev_name 3 rfl rxH)) (fun e H10 s10 => ?_) fun e H10 s10 => wnil ?_)
      · have hcl : c ∉ left := fun z => by rw [decide_eq_true z] at e; cases e
        have s910 := s9.trans s10
        refine wone ?_
        refine ws_app (ds := W8.map depD) (d := depD ⟨true, left, [c]⟩) (nv_name 2 rfl) (s910 _ _ k4) (k5.mono s910) (by rw [List.length_map]; omega) ?_ fun v H11 s11 r11 f11 t11 => ?_
        · refine ev_tup (ea_cons ev_str (ea_cons ev_int (ea_cons (ev_name 3 rfl (rxH.mono s10)) (ea_cons (ev_tup (ea_cons (ev_name 4 rfl rep_int) ea_nil) ?_) ea_nil)))) ?_
          · show 1 ≤ sizeLine; decide
          · show 4 ≤ sizeLine; decide
        · refine ⟨_, _, W8 ++ [⟨true, left, [c]⟩], rfl, ?_, (k1.same s910).trans f11 (fun a ha => .inl ha), (k2.trans (Same.tm s910)).trans t11, (k3.trans (Same.tm s910)).trans t11, upd_same, by rw [List.map_append]; exact r11, by rw [k6, tk8, if_neg hcl, List.append_assoc]⟩
          exact same_mut ((k0.trans s910).trans s11) hfl0
      · have hcl : c ∈ left := by
          by_cases z : c ∈ left
          · exact z
          · rw [decide_eq_false z] at e; cases e
        have s910 := s9.trans s10
        exact ⟨_, _, W8, rfl, k0.trans s910, k1.same s910, k2.trans (Same.tm s910), k3.trans (Same.tm s910), s910 _ _ k4, k5.mono s910, by rw [k6, tk8, if_pos hcl, List.append_nil]⟩
    · rintro σ' H8 ⟨o4', xs8, W8, rfl, k0, k1, k2, k3, k4, k5, k6⟩
      rw [List.length_map, List.take_length] at k6
      have k6 : W8 = W ++ setW n left := k6
      have rxH : Rep H8 (natsT left) x := (rx.mono s7).tm k3
      have rcH8 : Rep H8 (natsT (List.range n)) vc := (rcH.mono s7).tm k3
      refine wone ?_
      refine ws_for PassesOwn.never rfl (pgn 5 nd) (wi (pi_list pe_w) ?_)
      refine we_call G hr rfl ?_
      refine wa (pa_cons pe_w pa_nil) ?_
      refine we_ev (dd := natsT (restL n left)) (ev_tuple (ELS.el (el_filterN (cs := List.range n) 4 (fun c => !decide (c ∈ left)) (fun (c : Nat) => .int (c : Int)) nd (blkOk_by (N := nWishes) (sc := defScope sWishes) (by decide +kernel)) (src_tup (ev_name 1 rfl rcH8)) (by rw [List.length_range]; omega) fun c hc H9 s9 b => ⟨et_ninN (ev_name 4 rfl rep_int) (ev_name 3 rfl (rxH.mono s9)), fun _ => ev_name 4 rfl rep_int⟩)) rfl B.tuple) fun v9 H9 s9 r9 => ?_
      have rl3 := restL_len n left
      refine ⟨v9, restL n left, rfl, r9, List.Pairwise.filter _ pr, by omega, fun l10 xs10 ss2 H10 s10 hl10 h10' r10 perm10 => ?_⟩
      refine ⟨l10, rfl, ⟨_, SqL.of h10'⟩, ?_⟩
      have s810 := s9.trans s10
      have l10fl : l10 ≠ fl := fun e => by
        rw [e, s9 _ _ k4] at hl10
        cases hl10
      have ss2l : ss2.length ≤ 8 := by
        rw [perm10.length_eq, subsF_len]
        exact Nat.le_trans (Nat.pow_le_pow_right (by decide) (show (restL n left).length ≤ 3 by omega)) (by decide)
      have sw : (setW n left).length ≤ 3 := by unfold setW; rw [List.length_map]; omega
      refine forW (runs_itl r10) (fun i σ' H' => ∃ o5 xs, ∃ W1 : List Dep, σ' = [some (.int (n : Int)), some vc, some (.ref fl), some x, o4', o5] ∧ Same H H' ∧ Fram H4 H' [fl] ∧ Tm H4 H' ∧ Fram H10 H' [fl] ∧ Tm H10 H' ∧ H' fl = some (.lst xs) ∧ RepL H' (W1.map depD) xs ∧ W1 = W8 ++ dealW n left (ss2.take i))
        ⟨o5, xs8, W8, rfl, k0.trans s810, k1.same s810, k2.trans (Same.tm s810), Fram.refl, Tm.refl _, s810 _ _ k4, k5.mono s810, by rw [List.take_zero]; unfold dealW; simp⟩ ?_ ?_ ?_
      · rintro i σ' H' _ ⟨_, _, _, _, _, _, _, f, t, _⟩
        exact ⟨t, f _ _ h10' (by simp [l10fl])⟩
      · rintro i d σ' H11 hd ⟨o5', xs11, W11, rfl, m0, m1, m2, m3, m4, m5, m6, m7⟩ y H12 s12' ry
        rw [List.getElem?_map] at hd
        obtain ⟨right, hri, rfl⟩ : ∃ right, ss2[i]? = some right ∧ natsT right = d := by
          cases h : ss2[i]? with
          | none => rw [h] at hd; cases hd
          | some r => rw [h] at hd; exact ⟨r, rfl, Option.some.inj hd⟩
        have tk12 : dealW n left (ss2.take (i + 1)) = dealW n left (ss2.take i) ++ (if dealOk n left right = true then [⟨false, left, right⟩] else []) := by
          unfold dealW
          rw [List.take_add_one, hri, List.filter_append, List.map_append]
          congr 1
          by_cases z : dealOk n left right = true <;> simp [z]
        have W11l : W11.length ≤ 99 := by
          rw [m7, k6, List.length_append, List.length_append]
          unfold dealW
          rw [List.length_map]
          have h1 := List.length_filter_le (dealOk n left) (ss2.take i)
          rw [List.length_take] at h1
          omega
        have rxH12 : Rep H12 (natsT left) x := ((rxH.mono s810).tm m4).mono s12'
        refine wone (ws_ifB (dealOk n left right) ?_ (fun e H13 s13 => ?_) fun e H13 s13 => wnil ?_)
        · refine (et_lt2 (i := 0) (j := (right.length : Int)) (k := (n : Int) - (left.length : Int)) ev_int ?_ ?_).to rfl
          · exact EV.to (ev_lenT (ev_name 5 rfl ry) rfl B.len) (by rw [List.length_map])
          · exact ev_sub (ev_name 0 rfl rep_int) (EV.to (ev_lenT (ev_name 3 rfl rxH12) rfl B.len) (by rw [List.length_map]))
        · have s1213 := s12'.trans s13
          refine wone ?_
          refine ws_app (ds := W11.map depD) (d := depD ⟨false, left, right⟩) (nv_name 2 rfl) (s1213 _ _ m5) (m6.mono s1213) (by rw [List.length_map]; omega) ?_ fun v H14 s14 r14 f14 t14 => ?_
          · refine ev_tup (ea_cons ev_str (ea_cons ev_int (ea_cons (ev_name 3 rfl (rxH12.mono s13)) (ea_cons (ev_name 5 rfl (ry.mono s13)) ea_nil)))) ?_
            show 4 ≤ sizeLine; decide
          · refine ⟨_, _, W11 ++ [⟨false, left, right⟩], rfl, ?_, (m1.same s1213).trans f14 (fun a ha => .inl ha), (m2.trans (Same.tm s1213)).trans t14, (m3.same s1213).trans f14 (fun a ha => .inl ha), (m4.trans (Same.tm s1213)).trans t14, upd_same, by rw [List.map_append]; exact r14, by rw [m7, tk12, if_pos e, List.append_assoc]⟩
            exact same_mut ((m0.trans s1213).trans s14) hfl0
        · have s1213 := s12'.trans s13
          exact ⟨_, _, W11, rfl, m0.trans s1213, m1.same s1213, m2.trans (Same.tm s1213), m3.same s1213, m4.trans (Same.tm s1213), s1213 _ _ m5, m6.mono s1213, by rw [m7, tk12, e]; simp⟩
      · rintro σ' H11 ⟨o5', xs11, W11, rfl, m0, m1, m2, m3, m4, m5, m6, m7⟩
        rw [List.length_map, List.take_length] at m7
        refine ⟨_, _, _, xs11, W11, rfl, m0, m1, m2, m5, m6, ?_⟩
        rw [m7, k6, tk, List.append_assoc]
        refine g5.append (List.Perm.append_left _ ?_)
        exact (perm10.filter (dealOk n left)).map _
  · rintro σ' H5 ⟨o3, o4, o5, xs, W, rfl, g0, g1, g2, g3, g4, g5⟩
    rw [List.length_map, List.take_length] at g5
    refine wone (ws_ret (NV.use (nv_name 2 rfl) ?_))
    exact hq fl xs W H5 g0 hfl0 g3 g4 (g5.trans (List.Perm.flatMap_right _ perm4))
end
end Nr
/-! known_values. -/
namespace Nr
open PySem PySem.Spec L2
open PyProof.Rows hiding St

section
variable {X : Cx} {kx vx iter : Expr} {scope : Scope} {σ : L2.St} {H : Hp} {us : List Nat} {i1 i2 : Nat} {is : List Int} {x1 x2 : Str} {q1 q2 : Pos} {kt : Nat} {tp : Pos}
/-- {value: index for index, value in enumerate(ints)} -/
theorem dictE_sem {Q : VK} {K : PySem.W.Frag} (hi : Src X (.Tuple [.Name x1 q1, .Name x2 q2] kt tp) iter σ H (enumD (is.map D.int))) (hj : ∀ v u, wipe (((wipe σ us).set i1 (some v)).set i2 (some u)) us = wipe σ us) (hl : is.length < 1000) (nd : is.Nodup)
    (hk : ∀ b H1 (k i : Int), EV (XB X scope b) kx (((wipe σ us).set i1 (some (.int i))).set i2 (some (.int k))) H1 (.int k)) (hv : ∀ b H1 (k i : Int), EV (XB X scope b) vx (((wipe σ us).set i1 (some (.int i))).set i2 (some (.int k))) H1 (.int i))
    (q : ∀ D kvs H2, H D = none → Same H H2 → H2 D = some (.dK kvs) → (∀ j (h : j < is.length), valV kvs (Sum.inl is[j] : Key) = some (.int (j : Nat))) → Q (.ref D) H2) :
    tComp (WI X (.Tuple [.Name x1 q1, .Name x2 q2] kt tp) iter) (gTup K 2 (gCons (gName i1) (gCons (gName i2) gNil))) (fun σ H Q => ∀ b, WTs (XB X scope b) [] σ H Q) (fun D => .dK []) (tPairK (fun σ H Q => ∀ b, WE (XB X scope b) kx σ H Q) (fun σ H Q => ∀ b, WE (XB X scope b) vx σ H Q)) us σ H Q := by
  refine (hi H (Same.refl H)).mono fun J H1 ⟨s1, r1⟩ D0 hD => ?_
  have el : (enumD (is.map D.int)).length = is.length := by rw [enumD_len, List.length_map]
  refine tCl_of r1 (fun i H2 => H1 D0 = none ∧ Same H1 H2 ∧ i ≤ is.length ∧ ∃ kvs, H2 D0 = some (.dK kvs) ∧ kvs.length ≤ i ∧ ∀ j (h : j < is.length), j < i → valV kvs (Sum.inl is[j] : Key) = some (.int (j : Nat))) ⟨hD, same_new hD, Nat.zero_le _, [], upd_same, Nat.le_refl _, fun j _ h => nomatch h⟩ (fun i H2 _ h => h.2.1) ?_ ?_
  · rintro i d H2 hd ⟨_, s2, hle, kvs, h1, h2, h3⟩ v H3 s3 rv
    obtain ⟨x, hx, rfl⟩ := enumD_at hd
    have hlt : i < is.length := by
      have := (List.getElem?_eq_some_iff.mp hx).1
      rw [List.length_map] at this
      exact this
    rw [List.getElem?_map, List.getElem?_eq_getElem hlt] at hx
    obtain rfl := Option.some.inj hx
    obtain ⟨t, tvs, rfl, ht, y1, _, rfl, ry1, y2, _, rfl, ry2, hnil⟩ := rv
    obtain rfl := hnil
    obtain rfl := (show y1 = V.int (i : Nat) from ry1)
    obtain rfl := (show y2 = V.int is[i] from ry2)
    refine ⟨t, _, rfl, SqT.of ht, rfl, _, _, rfl, _, _, rfl, rfl, hj _ _, fun b => wts_nil ?_⟩
    refine iteT ?_
    intro b2
    refine (hk b2 H3 _ _).now.mono fun y H4 ⟨s4, ry⟩ b3 => (hv b3 H4 _ _).now.mono fun z H5 ⟨s5, rz⟩ => ?_
    have s35 := (s3.trans s4).trans s5
    obtain rfl := (show z = V.int (i : Nat) from rz)
    refine ⟨kvs, Sum.inl is[i], ry, s35 _ _ h1, by rw [sizeLine_eq]; omega, hD, same_mut (s2.trans s35) hD, hlt, _, upd_same, ?_, fun j hjl hji => ?_⟩
    · have := length_putK kvs (Sum.inl is[i] : Key) (V.int (i : Nat))
      omega
    · rw [valV_put]
      by_cases e : (Sum.inl is[j] : Key) = Sum.inl is[i]
      · rw [if_pos e]
        have := (List.getElem_inj nd).mp (Sum.inl.inj e)
        rw [this]
      · rw [if_neg e]
        refine h3 j hjl ?_
        have : j ≠ i := fun z => e (by subst z; rfl)
        omega
  · rintro H2 ⟨_, s2, hle, kvs, h1, h2, h3⟩
    rw [el] at h3
    exact q D0 kvs H2 (Same.free s1 hD) (s1.trans s2) h1 fun j h => h3 j h h
variable {a b : Expr} {pos : Pos} {d : Addr} {kvs : List (Key × V)} {v k : Int}
theorem ev_dgetK (hu : X.A.units + 1 < cLine) (ha : RV X a σ H (.ref d)) (hd : H d = some (.dK kvs)) (hb : EV X b σ H (.int v)) (hk : valV kvs (Sum.inl v : Key) = some (.int k)) (hs : NoSl b := by exact fun _ _ => rfl) : EV X (.Subscript a b pos) σ H (.int k) := fun H1 s => by
  refine we (pe_dget hu pe_w pe_w hs) ?_
  refine (ha.mono s).use ?_
  refine (hb H1 s).mono fun y H2 ⟨s2, ry⟩ => ?_
  obtain rfl := (show y = V.int v from ry)
  have := DGet.k (k := Sum.inl v) (s2 _ _ (s _ _ hd))
  rw [hk] at this
  exact ⟨d, .int k, rfl, this, s2, rfl⟩
end
def numF (rows : List Row) (v : Int) : Int := ((sortI rows.flatten).idxOf v : Nat)
theorem numF_at {rows : List Row} {r : Row} {v : Int} (hr : r ∈ rows) (hv : v ∈ r) : ∃ h : (sortI rows.flatten).idxOf v < (sortI rows.flatten).length, (sortI rows.flatten)[(sortI rows.flatten).idxOf v] = v := by
  have : v ∈ sortI rows.flatten := sortI_mem.mpr (List.mem_flatten.mpr ⟨r, hr, hv⟩)
  exact ⟨List.idxOf_lt_length_of_mem this, List.getElem_idxOf _⟩
theorem rowsCells_eq (rows : List Row) : rowsCells (.tup (rows.map D.ints)) = rows.flatten.map D.int := by
  unfold rowsCells
  simp only
  induction rows with
  | nil => rfl
  | cons r rows ih => rw [List.map_cons, List.flatMap_cons, ih, List.flatten_cons, List.map_append, cells_ints]
section
variable {P : Program} {w : World} {K : PySem.W.Frag} {mg : Str → Option Value} {base : Heap} {f C : Addr} {fd : FuncData}
/-- known_values(store) -/
def rKnown (ds : List D) (d : D) : Prop := ∃ (n : Nat) (rows : List Row), ds = [storeD rows] ∧ (∀ r ∈ rows, r.length = n) ∧ 1 ≤ n ∧ n ≤ 3 ∧ rows.length ≤ 8 ∧ d = storeD (sortR (rows.map fun r => r.map (numF rows)))
abbrev nKnown : List Str := ["store", "rows", "values", "number", "found", "row", "value", "index"]
theorem scKnown : FnScope nKnown ["store"] (defScope sKnownValues) := ⟨rfl, rfl, rfl, by decide +kernel, rfl, by decide +kernel, by decide +kernel⟩
theorem ok_known (F : FnP K "known_values" "known_values" sKnownValues f fd) (B : Bi mg) : FnOk P w K mg base CX0 3 f fd ["store"] (spR 1 rKnown) := by
  refine okR F scKnown fun cdv A outer s H vs ds d E DE hr rl hrd hq => ?_
  obtain ⟨n, rows, rfl, hlen, hn1, hn3, h8, rfl⟩ := hrd
  obtain ⟨v1, _, rfl, r1, hnil⟩ := rl
  obtain rfl := hnil
  have nd := scKnown.nd
  have fll : rows.flatten.length ≤ 24 := by
    have := rowsCells_len (rows := rows) (k := 3) fun r hr => by rw [hlen r hr]; exact hn3
    rw [rowsCells_eq, List.length_map] at this
    omega
  refine wcons ?_
  refine ws_set 2 nd (we_el (el_sortedsetI (ns := rows.flatten) rfl (fun H1 s1 => ?_) (by omega) rfl B.set rfl B.sorted) fun vl vs2 H2 hvl s2 h2' r2 => ?_)
  · refine we_comp (cp_list3 (us1 := [5, 6]) (us2 := [6]) rfl nd (blkOk_by (N := nKnown) (sc := defScope sKnownValues) (own := [("rows", 1), ("row", 5), ("value", 6)]) (by decide +kernel)) (fun s H C cl fp => pgn 1 nd) (fun s H C cl fp => pgn 5 nd) (fun s H C cl fp => pgn 6 nd) (by decide) (by decide) (fun _ => rfl) (fun _ _ => rfl) (fun _ _ => rfl) (fun j hj Y acc R s it h0 h => by
      rcases hj with rfl | rfl <;> exact start_in rfl rfl (fun _ => rfl) rfl rfl h0 h)) rfl ?_
    refine flat_sem (ds := [.tup (rows.map D.ints)]) (f := rowsCells) (nv_name 0 rfl) (r1.mono s1) (fun v => rfl) ?_ (fun D0 d hd v rv hD0 => ?_) fun l H2 hl s2 hx => ?_
    · rw [List.flatMap_cons, List.flatMap_nil, List.append_nil, rowsCells_eq, List.length_map, sizeLine_eq]
      omega
    · rw [List.mem_singleton.mp hd] at rv ⊢
      show Adds _ _ _ ((rows.map D.ints).flatMap cellsOf)
      refine adds_in (ds := rows.map D.ints) (f := cellsOf) lst_ok ?_ rv ?_ fun d2 hd2 v2 rv2 => ?_
      · exact fun b => nv_name 1 rfl
      · exact fun v => rfl
      obtain ⟨r, hr, rfl⟩ := List.mem_map.mp hd2
      show Adds _ _ _ ((r.map D.int).flatMap fun i => [i])
      refine adds_in (ds := r.map D.int) (f := fun i => [i]) lst_ok ?_ rv2 ?_ fun d3 hd3 v3 rv3 => ?_
      · exact fun b => nv_name 5 rfl
      · exact fun v => rfl
      · obtain ⟨i, hi, rfl⟩ := List.mem_map.mp hd3
        exact adds_item fun b => ev_name 6 rfl rv3
    · obtain ⟨xs, h2, r2⟩ := hx
      rw [List.flatMap_cons, List.flatMap_nil, List.append_nil, rowsCells_eq] at r2
      exact ⟨s2, l, xs, rfl, .inl h2, r2⟩
  have sil : (sortI rows.flatten).length ≤ 24 := Nat.le_trans (sortI_len _) fll
  have sin : (sortI rows.flatten).Nodup := (sortI_lt rows.flatten).imp fun {a b} h => Int.ne_of_lt h
  refine wcons ?_
  refine ws_set 3 nd ?_
  refine we_comp (cp_dictK rfl nd (blkOk_by (N := nKnown) (sc := defScope sKnownValues) (own := [("index", 7), ("value", 6)]) (by decide +kernel)) (g := gTup K 2 (gCons (gName 7) (gCons (gName 6) gNil))) (fun s H C cl fp => by exact pg_tup rfl (pgs_cons (pgn 7 nd) (pgs_cons (pgn 6 nd) pgs_nil))) (fun _ => rfl)) rfl ?_
  refine dictE_sem (is := sortI rows.flatten) (src_enL ?_ rfl B.enum) (fun v u => rfl) (by omega) sin (fun b H1 k i => ev_name 6 rfl rfl) (fun b H1 k i => ev_name 7 rfl rfl) fun nu kvs H3 hnu s3 h3' hkv => ?_
  · exact lv_name 2 rfl h2' r2
  have s23 := s2.trans s3
  have nk : ∀ r ∈ rows, ∀ v ∈ r, valV kvs (Sum.inl v : Key) = some (.int (numF rows v)) := fun r hr v hv => by
    obtain ⟨h1, h2⟩ := numF_at hr hv
    have := hkv _ h1
    rw [h2] at this
    exact this
  refine wcons ?_
  refine ws_set 4 nd (we_el (el_lst ea_nil (by show 0 ≤ sizeLine; decide)) fun fl vs4 H4 hfl s4 h4' r4 => ?_)
  have s24 := s23.trans s4
  obtain ⟨sa, svs, rfl, hsa, vr, _, rfl, rr, hnil⟩ := id r1
  obtain rfl := hnil
  have hfl0 : H fl = none := Same.free s23 hfl
  refine wcons ?_
  refine ws_for PassesOwn.never rfl (pgn 1 nd) (wi (pi_tup pe_w) ?_)
  refine NV.use (nv_name 0 rfl) ?_
  refine ⟨sa, rfl, ⟨_, SqT.of (s24 _ _ hsa)⟩, forW1 (one_tup (v := vr)) (s24 _ _ hsa) ?_⟩
  refine wone ?_
  refine ws_app (ds := []) (d := .tup ((sortR (rows.map fun r => r.map (numF rows))).map D.ints)) (nv_name 4 rfl) h4' r4 (by show 0 < 100000; decide) ?_ fun v H5 s5 r5 f5 t5 => ?_
  · refine ev_tupleL (EL.lv (EL.to (el_sortedLst (EL.lv (ELS.el (el_mapR (rows := rows) 5 (fun r => .ints (r.map (numF rows))) nd (blkOk_by (N := nKnown) (sc := defScope sKnownValues) (by decide +kernel)) (src_tup (ev_name 1 rfl (rr.mono s24))) (by omega) fun r hrw v H5 s5 rv b => ?_))) ?_ ?_ rfl B.sorted) ?_)) rfl B.tuple
    · refine EV.to (ev_tuple (ELS.el (el_mapI (is := r) 6 (fun i => .int (numF rows i)) nd (blkOk_by (N := nKnown) (sc := relS _ (defScope sKnownValues)) (by decide +kernel)) (src_tup (ev_name 5 rfl rv)) (by rw [hlen r hrw]; omega) fun i hi H6 s6 b2 => ?_)) rfl B.tuple) ?_
      · refine ev_dgetK ?_ (rv_name 3 rfl) (s6 _ _ (s5 _ _ (s4 _ _ h3'))) (ev_name 6 rfl rep_int) (nk r hrw i hi)
        exact hr.u1
      · rw [D.ints, List.map_map]
        rfl
    · have e1 : (rows.map fun r => D.ints (r.map (numF rows))) = (rows.map fun r => r.map (numF rows)).map D.ints := by rw [List.map_map]; rfl
      rw [e1]
      refine sortOk_rows (fun r hr e => ?_) (by rw [List.length_map]; omega)
      obtain ⟨s, hs, rfl⟩ := List.mem_map.mp hr
      have := hlen s hs
      have e2 := congrArg List.length e
      rw [List.length_map] at e2
      have e2 : s.length = 0 := e2
      omega
    · exact hr.units
    · have e1 : (rows.map fun r => D.ints (r.map (numF rows))) = (rows.map fun r => r.map (numF rows)).map D.ints := by rw [List.map_map]; rfl
      rw [e1, sortR_eq]
  · have s05 := s24.trans s5
    refine ⟨t5 _ _ (s24 _ _ hsa), ?_⟩
    refine wone (ws_retV (d := storeD (sortR (rows.map fun r => r.map (numF rows)))) ?_ fun v6 H6 s6 r6 => ?_)
    · exact ev_tupleL (lv_name 4 rfl upd_same r5) rfl B.tuple
    · exact hq v6 H6 ((same_mut s05 hfl0).trans s6) r6
end
end Nr
/-! The exact table, grown wish by wish. -/
namespace Nr
open PySem PySem.Spec L2
open PyProof.Rows hiding St

/-- an end of a wish that does not follow has k rows or more -/
def Big (n : Nat) (book : List Dep) (wi : Dep) (k : Nat) : Prop := ∃ st rows bec, Done n book wi st rows bec ∧ ¬ Entails n book wi ∧ k ≤ rows.length
noncomputable instance (n : Nat) (book : List Dep) (wi : Dep) (k : Nat) : Decidable (Big n book wi k) := Classical.propDecidable _
noncomputable def ubW (n : Nat) (book : List Dep) (wi : Dep) : Nat := ((List.range 8).filter fun k => decide (Big n book wi (k + 1))).length
theorem ubW_ge {n : Nat} {book : List Dep} {wi : Dep} {st rows : List Row} {bec : List (Int × Int)} (d : Done n book wi st rows bec) (ne : ¬ Entails n book wi) (hn : n ≤ 3) : rows.length ≤ ubW n book wi := by
  have few := d.ch.few8 hn
  have : (List.range rows.length).length ≤ ubW n book wi := by
    unfold ubW
    refine nodup_len List.nodup_range fun k hk => ?_
    rw [List.mem_range] at hk
    exact List.mem_filter.mpr ⟨List.mem_range.mpr (by omega), decide_eq_true ⟨st, rows, bec, d, ne, hk⟩⟩
  rw [List.length_range] at this
  exact this
theorem ubW_le {n : Nat} {book : List Dep} {wi : Dep} {b : Nat} (h : ∀ st rows bec, Done n book wi st rows bec → ¬ Entails n book wi → rows.length ≤ b) : ubW n book wi ≤ b := by
  unfold ubW
  have : ((List.range 8).filter fun k => decide (Big n book wi (k + 1))).length ≤ (List.range b).length := by
    refine nodup_len (List.Pairwise.filter _ List.nodup_range) fun k hk => ?_
    obtain ⟨st, rows, bec, d, ne, hl⟩ := of_decide_eq_true (List.mem_filter.mp hk).2
    have := h st rows bec d ne
    exact List.mem_range.mpr (by omega)
  rw [List.length_range] at this
  exact this
theorem ubW_zero {n : Nat} {book : List Dep} {wi : Dep} (h : Entails n book wi) : ubW n book wi = 0 :=
  Nat.le_zero.mp (ubW_le fun _ _ _ _ ne => absurd h ne)
theorem _root_.List.Nodup.map_on_of {α β : Type} {f : α → β} : ∀ {l : List α}, (∀ x ∈ l, ∀ y ∈ l, f x = f y → x = y) → l.Nodup → (l.map f).Nodup
  | [], _, _ => List.nodup_nil
  | x :: l, h, nd => by
    rw [List.map_cons, List.nodup_cons]
    have := List.nodup_cons.mp nd
    refine ⟨fun z => ?_, List.Nodup.map_on_of (fun a ha b hb => h a (List.mem_cons_of_mem _ ha) b (List.mem_cons_of_mem _ hb)) this.2⟩
    obtain ⟨y, hy, e⟩ := List.mem_map.mp z
    have := h y (List.mem_cons_of_mem _ hy) x List.mem_cons_self e
    rw [this] at hy
    exact (List.nodup_cons.mp nd).1 hy
/-- the table behind the wishes W -/
structure Tab (n : Nat) (book : List Dep) (W : List Dep) (R : List Row) : Prop where
  len : ∀ r ∈ R, r.length = n
  nn : ∀ r ∈ R, ∀ v ∈ r, 0 ≤ v
  nd : R.Nodup
  cl : Closed n book R
  br : ∀ wi ∈ W, ¬ Entails n book wi → ¬ Keeps n R wi
  ct : R.length ≤ (W.map (ubW n book)).sum
section
variable {n : Nat} {book W : List Dep} {R : List Row} {wi : Dep}
theorem Tab.nil : Tab n book [] [] := ⟨(fun r h => nomatch h), (fun r h => nomatch h), List.nodup_nil, (fun d _ a h => nomatch h), (fun w h => nomatch h), Nat.le_refl _⟩
theorem sum_snoc (f : Dep → Nat) (W : List Dep) (wi : Dep) : ((W ++ [wi]).map f).sum = (W.map f).sum + f wi := by
  rw [List.map_append, List.sum_append_nat]
  simp
theorem Tab.skip (t : Tab n book W R) (h : Entails n book wi) : Tab n book (W ++ [wi]) R := ⟨t.len, t.nn, t.nd, t.cl, fun w hw ne => by
  rcases List.mem_append.mp hw with z | z
  · exact t.br w z ne
  · rw [List.mem_singleton.mp z] at ne
    exact absurd h ne, by rw [sum_snoc]; have := t.ct; omega⟩
theorem cel_in {r : Row} {c : Nat} (h : c < r.length) : cel r c ∈ r := by
  unfold cel
  rw [List.getD_eq_getElem?_getD, List.getElem?_eq_getElem h]
  exact List.getElem_mem h
theorem numF_inj {rows : List Row} {r s : Row} {u v : Int} (hr : r ∈ rows) (hs : s ∈ rows) (hu : u ∈ r) (hv : v ∈ s) (e : numF rows u = numF rows v) : u = v := by
  obtain ⟨h1, h2⟩ := numF_at hr hu
  obtain ⟨h3, h4⟩ := numF_at hs hv
  have e' : (sortI rows.flatten).idxOf u = (sortI rows.flatten).idxOf v := Int.ofNat.inj e
  rw [← h2, ← h4]
  simp only [e']
theorem Tab.add (hb : ∀ d ∈ book, DepOk n d ∧ d.L ≠ []) (hn1 : 1 ≤ n) (hn3 : n ≤ 3) (t : Tab n book W R) (hw : WishOk n wi) {st rows : List Row} {bec : List (Int × Int)} (d : Done n book wi st rows bec) (ne : ¬ Entails n book wi) {m : Int} (hm : ∀ r ∈ R, ∀ v ∈ r, v + 1 ≤ m) (hm0 : 0 ≤ m) :
    Tab n book (W ++ [wi]) (R ++ (sortR (rows.map fun r => r.map (numF rows))).map fun r => r.map fun v => v + m) := by
  let f : Int → Int := fun v => numF rows v + m
  have hlen := d.ch.len
  have mem2 : ∀ r, r ∈ ((sortR (rows.map fun r => r.map (numF rows))).map fun r => r.map fun v => v + m) ↔ r ∈ rows.map fun r => r.map f := fun r => by
    rw [List.mem_map, List.mem_map]
    constructor
    · rintro ⟨a, ha, rfl⟩
      obtain ⟨b, hb, rfl⟩ := List.mem_map.mp ((sortR_perm _).mem_iff.mp ha)
      exact ⟨b, hb, by rw [List.map_map]; rfl⟩
    · rintro ⟨b, hb, rfl⟩
      exact ⟨b.map (numF rows), (sortR_perm _).mem_iff.mpr (List.mem_map.mpr ⟨b, hb, rfl⟩), by rw [List.map_map]; rfl⟩
  have finj : ∀ r ∈ rows, ∀ s ∈ rows, ∀ c e, c < n → e < n → f (cel r c) = f (cel s e) → cel r c = cel s e := fun r hr s hs c e hc he q => by
    refine numF_inj hr hs (cel_in (by rw [hlen r hr]; exact hc)) (cel_in (by rw [hlen s hs]; exact he)) ?_
    have : numF rows (cel r c) + m = numF rows (cel s e) + m := q
    omega
  have km : ∀ d, DepOk n d → (Keeps n ((sortR (rows.map fun r => r.map (numF rows))).map fun r => r.map fun v => v + m) d ↔ Keeps n rows d) := fun d hd => (keeps_mem mem2).trans (keeps_map hd hlen finj)
  have nn0 : ∀ v, 0 ≤ numF rows v := fun v => by unfold numF; omega
  have ap : Apart n R ((sortR (rows.map fun r => r.map (numF rows))).map fun r => r.map fun v => v + m) := fun r hr s hs c e hc he q => by
    have h1 := hm r hr (cel r c) (cel_in (by rw [t.len r hr]; exact hc))
    obtain ⟨s0, hs0, rfl⟩ := List.mem_map.mp ((mem2 s).mp hs)
    rw [cel_map f (by rw [hlen s0 hs0]; exact he)] at q
    have := nn0 (cel s0 e)
    have q' : cel r c = numF rows (cel s0 e) + m := q
    omega
  refine ⟨fun r hr => ?_, fun r hr v hv => ?_, ?_, fun d' hd' => ?_, fun w hw' ne' => ?_, ?_⟩
  · rcases List.mem_append.mp hr with z | z
    · exact t.len r z
    · obtain ⟨s0, hs0, rfl⟩ := List.mem_map.mp ((mem2 r).mp z)
      rw [List.length_map, hlen s0 hs0]
  · rcases List.mem_append.mp hr with z | z
    · exact t.nn r z v hv
    · obtain ⟨s0, hs0, rfl⟩ := List.mem_map.mp ((mem2 r).mp z)
      obtain ⟨u, hu, rfl⟩ := List.mem_map.mp hv
      have := nn0 u
      show 0 ≤ numF rows u + m
      omega
  · rw [List.nodup_append]
    refine ⟨t.nd, ?_, fun a ha b hb e => ?_⟩
    · have n1 : (rows.map fun r => r.map (numF rows)).Nodup := by
        refine List.Nodup.map_on_of ?_ d.ch.nd
        intro r hr s hs e
        refine row_ext (n := n) (hlen r hr) (hlen s hs) fun c hc => ?_
        refine numF_inj hr hs (cel_in (by rw [hlen r hr]; exact hc)) (cel_in (by rw [hlen s hs]; exact hc)) ?_
        have : cel (r.map (numF rows)) c = cel (s.map (numF rows)) c := by rw [e]
        rw [cel_map _ (by rw [hlen r hr]; exact hc), cel_map _ (by rw [hlen s hs]; exact hc)] at this
        exact this
      have n2 : (sortR (rows.map fun r => r.map (numF rows))).Nodup := (sortR_perm _).nodup_iff.mpr n1
      refine List.Nodup.map_on_of ?_ n2
      intro r hr s hs e
      exact map_inj (fun x y h => by omega) e
    · rw [e] at ha
      exact ap b ha b hb 0 0 hn1 hn1 rfl
  · obtain ⟨h1, h2⟩ := hb d' hd'
    exact keeps_app ap h1 h2 (t.cl d' hd') ((km d' h1).mpr (d.cl d' hd'))
  · rcases List.mem_append.mp hw' with z | z
    · exact fun k => t.br w z ne' (brk_left ap hn1 k)
    · rw [List.mem_singleton.mp z]
      exact fun k => d.brk hw ne ((km wi hw.ok).mp (brk_right ap hn1 k))
  · rw [sum_snoc, List.length_append, List.length_map, (sortR_perm _).length_eq, List.length_map]
    have := ubW_ge d ne hn3
    have := t.ct
    omega
end
end Nr
/-! beside, exact_table. -/
namespace Nr
open PySem PySem.Spec L2
open PyProof.Rows hiding St

def incD (d : D) : D := match d with
  | .int v => .int (v + 1)
  | _ => .non
def cellsInc (d : D) : List D := match d with
  | .tup is => is.flatMap fun i => [incD i]
  | _ => []
theorem cellsInc_ints (r : Row) : cellsInc (.ints r) = (r.map (· + 1)).map D.int := by
  unfold cellsInc D.ints
  simp only
  induction r with
  | nil => rfl
  | cons x r ih => rw [List.map_cons, List.flatMap_cons, ih]; rfl
theorem rowsInc_eq (rows : List Row) : (rows.map D.ints).flatMap cellsInc = (rows.flatten.map (· + 1)).map D.int := by
  induction rows with
  | nil => rfl
  | cons r rows ih => rw [List.map_cons, List.flatMap_cons, ih, List.flatten_cons, List.map_append, List.map_append, cellsInc_ints]
section
variable {P : Program} {w : World} {K : PySem.W.Frag} {mg : Str → Option Value} {base : Heap} {f C : Addr} {fd : FuncData}
/-- beside(rows, others) -/
def spBeside : Sp := fun vs H Q _ => ∃ v1 v2, ∃ R T : List Row, vs = [v1, v2] ∧ Rep H (.tup (R.map D.ints)) v1 ∧ Rep H (.tup (T.map D.ints)) v2 ∧ R.length ≤ 1000 ∧ (∀ r ∈ R, r.length ≤ 3) ∧ T.length ≤ 1000 ∧ (∀ r ∈ T, r.length ≤ 1000) ∧
  ∀ (m : Int) v H', Same H H' → (∀ r ∈ R, ∀ v ∈ r, v + 1 ≤ m) → ((∀ r ∈ R, ∀ v ∈ r, 0 ≤ v) → 0 ≤ m) → Rep H' (.tup ((R ++ T.map fun r => r.map fun v => v + m).map D.ints)) v → Q v H'
abbrev nBeside : List Str := ["rows", "others", "more", "row", "value"]
theorem scBeside : FnScope nBeside ["rows", "others"] (defScope sBeside) := ⟨rfl, rfl, rfl, by decide +kernel, rfl, by decide +kernel, by decide +kernel⟩
theorem ok_beside (F : FnP K "beside" "beside" sBeside f fd) (B : Bi mg) : FnOk P w K mg base CX0 3 f fd ["rows", "others"] spBeside := by
  refine fnOk F scBeside (fun vs H Q E h => ?_) fun cdv A outer s H vs Q E hr h => ?_
  · obtain ⟨v1, v2, R, T, rfl, _⟩ := h
    rfl
  obtain ⟨v1, v2, R, T, rfl, r1, r2, hR, hR3, hT, hT3, hq⟩ := h
  have nd := scBeside.nd
  have fll : R.flatten.length ≤ 3000 := by
    have := rowsCells_len (rows := R) (k := 3) hR3
    rw [rowsCells_eq, List.length_map] at this
    omega
  refine wcons ?_
  refine ws_set 2 nd ?_
  refine we (pe_callBK (cr_maxd rfl) rfl B.max (by decide +kernel) (pa_cons pe_w pa_nil rfl) (pk_cons pe_int pk_nil) (by decide) (by decide) rfl rfl) ?_
  refine we_comp (cp_list2 (us1 := [4]) rfl nd (blkOk_by (N := nBeside) (sc := defScope sBeside) (own := [("row", 3), ("value", 4)]) (by decide +kernel)) (fun s H C cl fp => pgn 3 nd) (fun s H C cl fp => pgn 4 nd) (by decide) (fun _ => rfl) (fun _ _ => rfl) (fun Y acc R s it h0 h => start_in rfl rfl (fun _ => rfl) rfl rfl h0 h)) rfl ?_
  refine flat_sem (ds := R.map D.ints) (f := cellsInc) (nv_name 0 rfl) r1 (fun v => rfl) ?_ (fun D0 d hd v rv hD0 => ?_) fun l H2 hl s2 hx => ?_
  · rw [rowsInc_eq, List.length_map, List.length_map, sizeLine_eq]
    omega
  · obtain ⟨r, hr, rfl⟩ := List.mem_map.mp hd
    show Adds _ _ _ ((r.map D.int).flatMap fun i => [incD i])
    refine adds_in (ds := r.map D.int) (f := fun i => [incD i]) lst_ok ?_ rv ?_ fun d3 hd3 v3 rv3 => ?_
    · exact fun b => nv_name 3 rfl
    · exact fun v => rfl
    · obtain ⟨i, hi, rfl⟩ := List.mem_map.mp hd3
      exact adds_item fun b => ev_add (ev_name 4 rfl rv3) ev_int
  obtain ⟨xs, h2, rl⟩ := hx
  rw [rowsInc_eq] at rl
  have exs := repL_ints.mp rl
  refine ⟨l, R.flatten.map (· + 1), rfl, rfl, by rw [← exs]; exact SqL.of h2, fun m hm => ?_⟩
  have hm1 : ∀ r ∈ R, ∀ v ∈ r, v + 1 ≤ m := fun r hr v hv => by
    have hvm : v + 1 ∈ R.flatten.map (· + 1) := List.mem_map.mpr ⟨v, List.mem_flatten.mpr ⟨r, hr, hv⟩, rfl⟩
    rcases hm with ⟨e, _⟩ | ⟨_, h⟩
    · rw [e] at hvm; cases hvm
    · exact h _ hvm
  have hm0 : (∀ r ∈ R, ∀ v ∈ r, 0 ≤ v) → 0 ≤ m := fun h => by
    rcases hm with ⟨_, e⟩ | ⟨hi, _⟩
    · rw [e]; exact Int.le_refl _
    · obtain ⟨v, hv, e⟩ := List.mem_map.mp hi
      obtain ⟨r, hr, hvr⟩ := List.mem_flatten.mp hv
      have := h r hr v hvr
      omega
  refine wone (ws_retV (d := .tup ((R ++ T.map fun r => r.map fun v => v + m).map D.ints)) (EV.to (d := .tup (R.map D.ints ++ T.map fun r => .ints (r.map fun v => v + m))) (ev_catT ?_ ?_ ?_) ?_) fun v H3 s3 r3 => hq m v H3 (s2.trans s3) hm1 hm0 r3)
  · exact ev_name 0 rfl (r1.mono s2)
  · refine ev_tuple (ELS.el (el_mapR (rows := T) 3 (fun r => .ints (r.map fun v => v + m)) nd (blkOk_by (N := nBeside) (sc := defScope sBeside) (by decide +kernel)) (src_tup (ev_name 1 rfl (r2.mono s2))) hT fun r hrw v H5 s5 rv b => ?_)) rfl B.tuple
    refine EV.to (ev_tuple (ELS.el (el_mapI (is := r) 4 (fun i => .int (i + m)) nd (blkOk_by (N := nBeside) (sc := relS _ (defScope sBeside)) (by decide +kernel)) (src_tup (ev_name 3 rfl rv)) (hT3 r hrw) fun i hi H6 s6 b2 => ?_)) rfl B.tuple) ?_
    · exact ev_add (ev_name 4 rfl rep_int) (ev_name 2 rfl rep_int)
    · rw [D.ints, List.map_map]
      rfl
  · rw [List.length_map, List.length_map, sizeLine_eq]
    omega
  · rw [List.map_append, List.map_map]
    rfl
theorem ubW_le8 (n : Nat) (book : List Dep) (wi : Dep) : ubW n book wi ≤ 8 := by
  have := List.length_filter_le (fun k => decide (Big n book wi (k + 1))) (List.range 8)
  rw [List.length_range] at this
  exact this
theorem sum_le8 (n : Nat) (book : List Dep) : ∀ W : List Dep, (W.map (ubW n book)).sum ≤ 8 * W.length
  | [] => Nat.le_refl _
  | w :: W => by
    rw [List.map_cons, List.sum_cons, List.length_cons]
    have := ubW_le8 n book w
    have := sum_le8 n book W
    omega
theorem wishL_len {n : Nat} (h : n ≤ 3) : (wishL n).length ≤ 88 := by
  have gen : ∀ l : List (List Nat), (l.flatMap (wish1 n)).length ≤ l.length * 11 := fun l => by
    induction l with
    | nil => exact Nat.zero_le _
    | cons s l ih =>
      rw [List.flatMap_cons, List.length_append, List.length_cons, Nat.succ_mul]
      have := wish1_len h s
      omega
  have h1 := gen (subsF (List.range n))
  rw [subsF_len, List.length_range] at h1
  have h2 : 2 ^ n ≤ 2 ^ 3 := Nat.pow_le_pow_right (by decide) h
  unfold wishL
  omega
theorem wishL_ok {n : Nat} (h1 : 1 ≤ n) {wi : Dep} (h : wi ∈ wishL n) : WishOk n wi ∧ wi.R.length ≤ n := by
  obtain ⟨left, hl, hw⟩ := List.mem_flatMap.mp h
  have hleft := (subsF_mem (n := n) (m := 0) (cs := List.range n) (acc := [[]]) (fun s hs c hc => by rw [List.mem_singleton.mp hs] at hc; cases hc) (fun s hs => by rw [List.mem_singleton.mp hs]; exact Nat.le_refl _) (fun c hc => List.mem_range.mp hc) left hl).1
  have hrest : ∀ c ∈ restL n left, c < n ∧ c ∉ left := fun c hc => by
    obtain ⟨a, b⟩ := List.mem_filter.mp hc
    refine ⟨List.mem_range.mp a, fun z => ?_⟩
    rw [decide_eq_true z] at b
    cases b
  rcases List.mem_append.mp hw with z | z
  · obtain ⟨c, hc, rfl⟩ := List.mem_map.mp z
    obtain ⟨a, b⟩ := hrest c hc
    refine ⟨⟨⟨hleft, fun x hx => by rw [List.mem_singleton.mp hx]; exact a⟩, fun x hx y => by rw [List.mem_singleton.mp y] at hx; exact b hx, h1⟩, h1⟩
  · obtain ⟨r, hr, rfl⟩ := List.mem_map.mp z
    have hm := (List.mem_filter.mp hr).1
    have key : (∀ c ∈ r, c ∈ restL n left) ∧ r.length ≤ (restL n left).length := by
      have gen : ∀ (cs : List Nat) (acc : List (List Nat)) (S : List Nat) (k : Nat), (∀ s ∈ acc, (∀ c ∈ s, c ∈ S) ∧ s.length ≤ k) → (∀ c ∈ cs, c ∈ S) → ∀ s ∈ cs.foldl stepS acc, (∀ c ∈ s, c ∈ S) ∧ s.length ≤ k + cs.length := fun cs => by
        induction cs with
        | nil => intro acc S k h _ s hs; exact h s hs
        | cons c cs ih =>
          intro acc S k h hS s hs
          have := ih (stepS acc c) S (k + 1) (fun t ht => by
            unfold stepS at ht
            rcases List.mem_append.mp ht with z | z
            · exact ⟨(h t z).1, Nat.le_succ_of_le (h t z).2⟩
            · obtain ⟨u, hu, rfl⟩ := List.mem_map.mp z
              refine ⟨fun x hx => ?_, by rw [List.length_append]; exact Nat.succ_le_succ (h u hu).2⟩
              rcases List.mem_append.mp hx with y | y
              · exact (h u hu).1 x y
              · rw [List.mem_singleton.mp y]; exact hS c List.mem_cons_self) (fun x hx => hS x (List.mem_cons_of_mem _ hx)) s hs
          rw [List.length_cons]
          exact ⟨this.1, by omega⟩
      have := gen (restL n left) [[]] (restL n left) 0 (fun s hs => by rw [List.mem_singleton.mp hs]; exact ⟨(fun c hc => nomatch hc), Nat.le_refl _⟩) (fun c hc => hc) r hm
      exact ⟨this.1, by omega⟩
    refine ⟨⟨⟨hleft, fun x hx => (hrest x (key.1 x hx)).1⟩, fun x hx y => (hrest x (key.1 x y)).2 hx, h1⟩, Nat.le_trans key.2 (restL_len n left)⟩
/-- what is asked of a book of the law -/
structure LBk (n : Nat) (book : List Dep) : Prop where
  dep : ∀ d ∈ book, DepOk n d ∧ d.L.length ≤ 1000 ∧ d.R.length ≤ 1000
  ne : ∀ d ∈ book, d.L ≠ []
  h1 : 1 ≤ n
  h3 : n ≤ 3
  bl : book.length ≤ 1000
/-- exact_table(scheme, book) -/
def spExact : Sp := fun vs H Q _ => ∃ v1 v2 n book, vs = [v1, v2] ∧ Rep H (schD n) v1 ∧ Rep H (bookD book) v2 ∧ LBk n book ∧
  ∀ (W : List Dep) R v H', Same H H' → W.Perm (wishL n) → Tab n book W R → Rep H' (.tup ((sortR R).map D.ints)) v → Q v H'
abbrev nExact : List Str := ["scheme", "book", "rows", "wish"]
theorem scExact : FnScope nExact ["scheme", "book"] (defScope sExactTable) := ⟨rfl, rfl, rfl, by decide +kernel, rfl, by decide +kernel, by decide +kernel⟩
theorem ok_exact (F : FnP K "exact_table" "exact_table" sExactTable f fd) (B : Bi mg) (G1 : Ok P w K mg base 9 "wishes" spWishes) (G2 : Ok P w K mg base 9 "follows" (spFollows P w)) (G3 : Ok P w K mg base 9 "start" (spR 2 rStart)) (G4 : Ok P w K mg base 9 "chase" (spChase P w)) (G5 : Ok P w K mg base 9 "known_values" (spR 1 rKnown)) (G6 : Ok P w K mg base 9 "beside" spBeside) :
    FnOk P w K mg base CX0 10 f fd ["scheme", "book"] spExact := by
  refine fnOk F scExact (fun vs H Q E h => ?_) fun cdv A outer s H vs Q E hr h => ?_
  · obtain ⟨v1, v2, n, book, rfl, _⟩ := h
    rfl
  obtain ⟨v1, v2, n, book, rfl, r1, r2, bk, hq⟩ := h
  have nd := scExact.nd
  have hn1 := bk.h1
  have hn3 := bk.h3
  refine wcons ?_
  refine ws_set 2 nd (we_ev (ev_tup ea_nil (by show 0 ≤ sizeLine; decide)) fun v0 H1 s1 r0 => ?_)
  refine wcons ?_
  refine ws_for PassesOwn.never rfl (pgn 3 nd) (wi (pi_list pe_w) ?_)
  refine we_call G1 hr rfl ?_
  refine wa (pa_cons pe_w pa_nil) ?_
  refine we_ev (ev_ixT (ds := [.int (n : Int)]) (i := 0) (ev_name 0 rfl (r1.mono s1)) ev_int rfl (fun _ _ => rfl)) fun vn H2 s2 rn => ?_
  obtain rfl := (show vn = V.int (n : Int) from rn)
  refine ⟨n, rfl, hn3, fun l xs W H3 s3 hl h3' r3 perm => ?_⟩
  refine ⟨l, rfl, ⟨_, SqL.of h3'⟩, ?_⟩
  have s13 := (s1.trans s2).trans s3
  have Wl : W.length ≤ 88 := by rw [perm.length_eq]; exact wishL_len hn3
  refine forW (runs_itl r3) (fun j σ' H' => ∃ o3 vr R, σ' = [some v1, some v2, some vr, o3] ∧ Same H3 H' ∧ Rep H' (.tup (R.map D.ints)) vr ∧ Tab n book (W.take j) R)
    ⟨none, v0, [], rfl, Same.refl _, (r0.mono s2).mono s3, by rw [List.take_zero]; exact Tab.nil⟩ ?_ ?_ ?_
  · rintro j σ' H' _ ⟨o3, vr, R, _, s', _⟩
    exact ⟨Same.tm s', s' _ _ h3'⟩
  · rintro j d σ' H4 hd ⟨o3, vr, R, rfl, g1, g2, g3⟩ x H5 s5 rx
    rw [List.getElem?_map] at hd
    obtain ⟨wi, hwj, rfl⟩ : ∃ wi, W[j]? = some wi ∧ depD wi = d := by
      cases h : W[j]? with
      | none => rw [h] at hd; cases hd
      | some r => rw [h] at hd; exact ⟨r, rfl, Option.some.inj hd⟩
    have hwm : wi ∈ wishL n := perm.mem_iff.mp (List.mem_of_getElem? hwj)
    obtain ⟨wk, wR⟩ := wishL_ok hn1 hwm
    have tk : W.take (j + 1) = W.take j ++ [wi] := by rw [List.take_add_one, hwj]; rfl
    have Rl : R.length ≤ 704 := by
      have h1 := g3.ct
      have h2 := sum_le8 n book (W.take j)
      rw [List.length_take] at h2
      omega
    have s35 := g1.trans s5
    have s05 := s13.trans s35
    have bg : ∀ st, St n wi st → Bg n book wi st := fun st hst => ⟨bk.dep, hn3, bk.bl, wk, hst⟩
    refine wone (ws_if ?_)
    refine wt (pt_not (pt_val pe_w (by intro _; rfl))) ?_
    refine we_call G2 hr rfl ?_
    refine (nva_cons (nv_name 0 rfl) (nva_cons (nv_name 1 rfl) (nva_cons (nv_name 3 rfl) nva_nil))) _ _ ⟨v1, v2, x, n, book, wi, rfl, r1.mono s05, r2.mono s05, rx, bg, by omega, fun b H6 s6 hb => ?_⟩
    refine ⟨b, rfl, ?_⟩
    cases b with
    | true =>
      have ent := hb.mp rfl
      refine iteF (wnil ?_)
      exact ⟨_, vr, R, rfl, s35.trans s6, (g2.mono s5).mono s6, by rw [tk]; exact g3.skip ent⟩
    | false =>
      have nent : ¬ Entails n book wi := fun z => by have := hb.mpr z; cases this
      refine iteT ?_
      refine wone (ws_set 2 nd ?_)
      refine we_call G6 hr rfl ?_
      refine wa (pa_cons pe_w (pa_cons pe_w pa_nil)) ?_
      refine NV.use (nv_name 2 rfl) ?_
      refine we (pe_ix ix_tup pe_w pe_w (fun _ _ => rfl)) ?_
      refine we_call G5 hr rfl ?_
      refine wa (pa_cons pe_w pa_nil) ?_
      refine we_call G4 hr rfl ?_
      refine wa (pa_cons pe_w (pa_cons pe_w (pa_cons pe_w pa_nil))) ?_
      refine NV.use (nv_name 0 rfl) (NV.use (nv_name 1 rfl) ?_)
      refine we_ev (ev_call G3 hr rfl (ea_cons (ev_name 0 rfl ((r1.mono s05).mono s6)) (ea_cons (ev_name 3 rfl (rx.mono s6)) ea_nil)) rfl ⟨n, wi, rfl, wk, hn3, rfl⟩) fun v7 H7 s7 r7 => ?_
      have s07 := (s05.trans s6).trans s7
      refine ⟨v1, v2, v7, n, book, wi, _, rfl, r1.mono s07, r2.mono s07, r7, bg _ st_start, fun v8 H8 rows bec s8 dn r8 => ?_⟩
      have few := dn.ch.few8 hn3
      have lenS : ∀ r ∈ sortR rows, r.length = n := fun r hr => dn.ch.len r ((sortR_perm rows).mem_iff.mp hr)
      have lS : (sortR rows).length = rows.length := (sortR_perm rows).length_eq
      refine ⟨rfl, [storeD (sortR rows)], storeD (sortR ((sortR rows).map fun r => r.map (numF (sortR rows)))), .one r8, ⟨n, sortR rows, rfl, lenS, hn1, hn3, by omega, rfl⟩, fun v9 H9 s9 r9 => ?_⟩
      refine we_ev ev_int fun vz H10 s10 rz => ?_
      obtain rfl := (show vz = V.int 0 from rz)
      obtain ⟨ta, tvs, rfl, hta, tv, _, rfl, rtv, hnil⟩ := r9.mono s10
      obtain rfl := hnil
      refine ⟨ta, _, 0, tv, rfl, rfl, SqT.of hta, atI_nat (show ([tv] : List V)[0]? = some tv from rfl), ?_⟩
      have s510 := ((((s6.trans s7).trans s8).trans s9).trans s10)
      have en : ∀ v, numF (sortR rows) v = numF rows v := fun v => by
        unfold numF
        have : sortI (sortR rows).flatten = sortI rows.flatten := asc_unique (sortI_lt _) (sortI_lt _) fun k => by
          rw [sortI_mem, sortI_mem, List.mem_flatten, List.mem_flatten]
          exact ⟨fun ⟨r, hr, hk⟩ => ⟨r, (sortR_perm rows).mem_iff.mp hr, hk⟩, fun ⟨r, hr, hk⟩ => ⟨r, (sortR_perm rows).mem_iff.mpr hr, hk⟩⟩
        rw [this]
      have e1 : sortR ((sortR rows).map fun r => r.map (numF (sortR rows))) = sortR (rows.map fun r => r.map (numF rows)) := by
        refine sortR_of_perm ?_
        have : (sortR rows).map (fun r => r.map (numF (sortR rows))) = (sortR rows).map fun r => r.map (numF rows) := List.map_congr_left fun r _ => List.map_congr_left fun v _ => en v
        rw [this]
        exact (sortR_perm rows).map _
      rw [e1] at rtv
      have hTm : ∀ r ∈ sortR (rows.map fun r => r.map (numF rows)), r.length = n := fun r hr => by
        obtain ⟨s0, hs0, rfl⟩ := List.mem_map.mp ((sortR_perm _).mem_iff.mp hr)
        rw [List.length_map]
        exact dn.ch.len s0 hs0
      have lT : (sortR (rows.map fun r => r.map (numF rows))).length = rows.length := by rw [(sortR_perm _).length_eq, List.length_map]
      refine ⟨vr, tv, R, _, rfl, (g2.mono s5).mono s510, rtv, by omega, fun r hr => by rw [g3.len r hr]; exact hn3, by omega, fun r hr => by rw [hTm r hr]; omega, fun m v11 H11 s11 hm1 hm0 r11 => ?_⟩
      exact ⟨_, v11, _, rfl, (s35.trans s510).trans s11, r11, by rw [tk]; exact g3.add (fun d hd => ⟨(bk.dep d hd).1, bk.ne d hd⟩) hn1 hn3 wk dn nent hm1 (hm0 g3.nn)⟩
  · rintro σ' H4 ⟨o3, vr, R, rfl, g1, g2, g3⟩
    rw [List.length_map, List.take_length] at g3
    have Rl : R.length ≤ 704 := by
      have h1 := g3.ct
      have h2 := sum_le8 n book W
      omega
    refine wone (ws_retV (d := .tup ((sortR R).map D.ints)) (ev_tupleL (EL.lv (EL.to (el_sortedTup (ev_name 2 rfl g2) ?_ ?_ rfl B.sorted) ?_)) ?_ B.tuple) fun v H5 s5 r5 => hq W R v H5 ((s13.trans g1).trans s5) perm g3 r5)
    · exact sortOk_rows (fun r hr e => by
        have := g3.len r hr
        rw [e] at this
        have : (0 : Nat) = n := this
        omega) (by omega)
    · exact hr.units
    · exact sortR_eq R
    · rfl
end
end Nr
/-! How many rows an exact table has. -/
namespace Nr
open PySem PySem.Spec L2
open PyProof.Rows hiding St

section
variable {n : Nat} {book : List Dep} {wi : Dep} {st rows : List Row} {bec : List (Int × Int)}
def outL (wi : Dep) (c : Nat) : Bool := decide (c ∉ wi.L)
theorem rows_sub (d : Done n book wi st rows bec) (hw : WishOk n wi) : ∀ r ∈ rows, r ∈ allR (oW n wi) (outL wi) (List.range n) := fun r hr => by
  refine allR_mem (by rw [List.length_range]; exact d.ch.len r hr) fun i hi => ?_
  rw [List.getElem_range]
  rw [List.length_range] at hi
  rcases d.ch.cell r hr i hi with e | ⟨e, s, hs, es⟩
  · exact .inl e
  · exact .inr ⟨e, decide_eq_true (d.st.free hw hi (List.any_eq_true.mpr ⟨s, hs, decide_eq_true es⟩))⟩
theorem rows_le (d : Done n book wi st rows bec) (hw : WishOk n wi) : rows.length ≤ 2 ^ ((List.range n).filter (outL wi)).length := by
  rw [← allR_len (oW n wi) (outL wi)]
  exact nodup_len d.ch.nd (rows_sub d hw)
/-- a full end holds each row that there is -/
theorem rows_all (d : Done n book wi st rows bec) (hw : WishOk n wi) (h : 2 ^ ((List.range n).filter (outL wi)).length ≤ rows.length) : ∀ u ∈ allR (oW n wi) (outL wi) (List.range n), u ∈ rows := fun u hu => by
  refine Classical.byContradiction fun z => ?_
  have := nodup_len (l := u :: rows) (u := allR (oW n wi) (outL wi) (List.range n)) (List.nodup_cons.mpr ⟨z, d.ch.nd⟩) fun x hx => by
    rcases List.mem_cons.mp hx with e | e
    · rw [e]; exact hu
    · exact rows_sub d hw x e
  rw [allR_len, List.length_cons] at this
  omega
theorem start_apart (hw : WishOk n wi) (hL : wi.L = []) {a b : Row} (ha : a ∈ startL n wi) (hb : b ∈ startL n wi) {c : Nat} (hc : c < n) (e : cel a c = cel b c) : a = b := by
  have hn := hw.pos
  unfold startL at ha hb
  by_cases hs : wi.st = true
  · rw [if_pos hs] at ha hb
    simp only [List.mem_cons, List.not_mem_nil, or_false] at ha hb
    rcases ha with rfl | rfl <;> rcases hb with rfl | rfl
    · rfl
    · rw [firstR_cel hc, partR_cel hc, hL, if_neg (by simp)] at e
      omega
    · rw [firstR_cel hc, partR_cel hc, hL, if_neg (by simp)] at e
      omega
    · rfl
  · rw [if_neg hs] at ha hb
    simp only [List.mem_cons, List.not_mem_nil, or_false] at ha hb
    have h1 : c ∈ p1 n wi ↔ c ∈ wi.R := by rw [p1_mem hc, hL]; simp
    have h2 : c ∈ p2 n wi ↔ c ∉ wi.R := by rw [p2_mem hc, hL]; simp
    rcases ha with rfl | rfl <;> rcases hb with rfl | rfl
    · rfl
    · rw [partR_cel hc, partR_cel hc] at e
      by_cases z : c ∈ wi.R
      · rw [if_pos (h1.mpr z), if_neg (fun y => (h2.mp y) z)] at e
        omega
      · rw [if_neg (fun y => z (h1.mp y)), if_pos (h2.mpr z)] at e
        omega
    · rw [partR_cel hc, partR_cel hc] at e
      by_cases z : c ∈ wi.R
      · rw [if_pos (h1.mpr z), if_neg (fun y => (h2.mp y) z)] at e
        omega
      · rw [if_neg (fun y => z (h1.mp y)), if_pos (h2.mpr z)] at e
        omega
    · rfl
theorem start_closed (hb : ∀ d ∈ book, DepOk n d ∧ d.L ≠ []) (hw : WishOk n wi) (hL : wi.L = []) (s : St n wi st) : Closed n book st := fun d hd a ha b hb' hag => by
  obtain ⟨h1, h2⟩ := hb d hd
  obtain ⟨c, hc⟩ := List.exists_mem_of_ne_nil _ h2
  have e := start_apart hw hL ((s.mem a).mp ha) ((s.mem b).mp hb') (h1.1 c hc) (hag c hc)
  subst e
  refine ⟨fun _ c _ => rfl, fun _ => ?_⟩
  have : mix n d.R a a = a := row_ext (n := n) (mix_len ..) (startL_len ((s.mem a).mp ha)) fun c hc => by
    rw [mix_cel hc]
    split <;> rfl
  rw [this]
  exact ha
theorem ub_nil (hb : ∀ d ∈ book, DepOk n d ∧ d.L ≠ []) (hw : WishOk n wi) (hL : wi.L = []) : ubW n book wi ≤ 2 := ubW_le fun st rows bec d ne => by
  rcases d.ch.stay with ⟨e, _⟩ | z
  · rw [e]
    have : st.length ≤ (startL n wi).length := nodup_len d.st.nd fun r hr => (d.st.mem r).mp hr
    have h2 : (startL n wi).length ≤ 2 := by unfold startL; split <;> exact Nat.le_refl _
    omega
  · exact absurd (start_closed hb hw hL d.st) z
theorem ub_pow (hw : WishOk n wi) {k : Nat} (h : 2 ^ ((List.range n).filter (outL wi)).length ≤ k) : ubW n book wi ≤ k := ubW_le fun st rows bec d ne => Nat.le_trans (rows_le d hw) h
/-- a wish that deals: its full end has met it -/
theorem ub_deals (hw : WishOk n wi) (hs : wi.st = false) {k : Nat} (h : 2 ^ ((List.range n).filter (outL wi)).length ≤ k + 1) : ubW n book wi ≤ k := ubW_le fun st rows bec d ne => by
  refine Classical.byContradiction fun z => ne ((d.met_iff hw).mp ?_)
  unfold Met
  rw [if_neg (by rw [hs]; exact Bool.false_ne_true)]
  have e : (firstR n).map (nowv bec) = firstR n := row_ext (n := n) (by rw [List.length_map, firstR_len]) (firstR_len n) fun c hc => by
    rw [cel_map _ (by rw [firstR_len]; exact hc), firstR_cel hc, d.ch.now_fix (oW_ok n wi) hc]
  rw [e]
  refine rows_all d hw (by omega) _ (allR_mem (by rw [firstR_len, List.length_range]) fun i hi => ?_)
  rw [List.getElem_range]
  rw [List.length_range] at hi
  exact .inl (firstR_cel hi)
/-- a wish that settles, with a full end: each wish that deals follows from the book -/
theorem full_settles (d : Done n book wi st rows bec) (hw : WishOk n wi) (hs : wi.st = true) (h : 2 ^ ((List.range n).filter (outL wi)).length ≤ rows.length) (R : List Nat) : Entails n book ⟨false, wi.L, R⟩ := by
  intro T hT hcl x hx y hy hL
  refine ⟨(fun z => absurd (show false = true from z) Bool.false_ne_true), fun _ => ?_⟩
  have hL : agr x y wi.L := hL
  let hh : Int → Int := fun v => if (-1 - v).toNat < n then cel x (-1 - v).toNat else cel y ((-1 - v).toNat - n)
  have h1 : ∀ c, c < n → hh (-1 - (c : Int)) = cel x c := fun c hc => by
    show (if (-1 - (-1 - (c : Int))).toNat < n then _ else _) = _
    have e : (-1 - (-1 - (c : Int))).toNat = c := by omega
    rw [e, if_pos hc]
  have h2 : ∀ c, c < n → hh (-1 - ((n + c : Nat) : Int)) = cel y c := fun c hc => by
    show (if (-1 - (-1 - ((n + c : Nat) : Int))).toNat < n then _ else _) = _
    have e : (-1 - (-1 - ((n + c : Nat) : Int))).toNat = n + c := by omega
    rw [e, if_neg (by omega), show n + c - n = c by omega]
  have hst : ∀ r ∈ st, r.map hh ∈ T := fun r hr => by
    have := (d.st.mem r).mp hr
    unfold startL at this
    rw [if_pos hs] at this
    simp only [List.mem_cons, List.not_mem_nil, or_false] at this
    rcases this with rfl | rfl
    · have : (firstR n).map hh = x := row_ext (n := n) (by rw [List.length_map, firstR_len]) (hT x hx) fun c hc => by
        rw [cel_map hh (by rw [firstR_len]; exact hc), firstR_cel hc, h1 c hc]
      rw [this]; exact hx
    · have : (partR n wi.L 1).map hh = y := row_ext (n := n) (by rw [List.length_map, partR_len]) (hT y hy) fun c hc => by
        rw [cel_map hh (by rw [partR_len]; exact hc), partR_cel hc]
        by_cases z : c ∈ wi.L
        · rw [if_pos z, h1 c hc]; exact hL c z
        · rw [if_neg z, Nat.mul_one, h2 c hc]
      rw [this]; exact hy
  have ho : ∀ c, oW n wi c = -1 - ((n + c : Nat) : Int) := fun c => by unfold oW; rw [if_pos hs]
  let r : Row := (List.range n).map fun c => if c ∈ R ∨ c ∈ wi.L then -1 - (c : Int) else oW n wi c
  have hr : r ∈ rows := by
    refine rows_all d hw h _ (allR_mem (by show ((List.range n).map _).length = _; rw [List.length_map]) fun i hi => ?_)
    rw [List.getElem_range]
    rw [List.length_range] at hi
    have e : cel r i = if i ∈ R ∨ i ∈ wi.L then -1 - (i : Int) else oW n wi i := cel_map_range _ hi
    by_cases z : i ∈ R ∨ i ∈ wi.L
    · rw [if_pos z] at e; exact .inl e
    · rw [if_neg z] at e; exact .inr ⟨e, decide_eq_true fun y => z (.inr y)⟩
  have := (d.ch.hom T hT hcl hh hst).1 r hr
  have er : r.map hh = mix n R x y := row_ext (n := n) (by show ((List.range n).map _ |>.map hh).length = n; rw [List.length_map, List.length_map, List.length_range]) (mix_len ..) fun c hc => by
    rw [cel_map hh (by show c < ((List.range n).map _).length; rw [List.length_map, List.length_range]; exact hc), mix_cel hc]
    have e : cel r c = if c ∈ R ∨ c ∈ wi.L then -1 - (c : Int) else oW n wi c := cel_map_range _ hc
    rw [e]
    by_cases z : c ∈ R
    · rw [if_pos (.inl z), if_pos z, h1 c hc]
    · rw [if_neg z]
      by_cases q : c ∈ wi.L
      · rw [if_pos (.inr q), h1 c hc]; exact hL c q
      · rw [if_neg (fun y => y.elim z q), ho, h2 c hc]
  rw [er] at this
  exact this
end
theorem group3 {book : List Dep} {a b c : Nat} (ha : a < 3) (hb : b < 3) (hc : c < 3) (hab : a ≠ b) (hac : a ≠ c) :
    ubW 3 book ⟨true, [a], [b]⟩ + ubW 3 book ⟨true, [a], [c]⟩ + ubW 3 book ⟨false, [a], [b]⟩ + ubW 3 book ⟨false, [a], [c]⟩ ≤ 12 := by
  have wk : ∀ s x, x < 3 → a ≠ x → WishOk 3 ⟨s, [a], [x]⟩ := fun s x hx hax => ⟨⟨fun y hy => by rw [List.mem_singleton.mp hy]; exact ha, fun y hy => by rw [List.mem_singleton.mp hy]; exact hx⟩, fun y hy z => hax ((List.mem_singleton.mp hy).symm.trans (List.mem_singleton.mp z)), by decide⟩
  have cnt : ∀ s x, ((List.range 3).filter (outL ⟨s, [a], [x]⟩)).length = 2 := fun s x => by
    have : a = 0 ∨ a = 1 ∨ a = 2 := by omega
    rcases this with rfl | rfl | rfl <;> rfl
  have dl : ∀ x, x < 3 → a ≠ x → ubW 3 book ⟨false, [a], [x]⟩ ≤ 3 := fun x hx hax => ub_deals (wk false x hx hax) rfl (by rw [cnt]; decide)
  have sl : ∀ x, x < 3 → a ≠ x → ubW 3 book ⟨true, [a], [x]⟩ ≤ 4 := fun x hx hax => ub_pow (wk true x hx hax) (by rw [cnt]; decide)
  have alt : ∀ x, x < 3 → a ≠ x → ubW 3 book ⟨true, [a], [x]⟩ ≤ 3 ∨ ∀ y, ubW 3 book ⟨false, [a], [y]⟩ = 0 := fun x hx hax => by
    by_cases z : ∃ st rows bec, Done 3 book ⟨true, [a], [x]⟩ st rows bec ∧ 4 ≤ rows.length
    · obtain ⟨st, rows, bec, d, h4⟩ := z
      exact .inr fun y => ubW_zero (full_settles d (wk true x hx hax) rfl (by rw [cnt]; exact h4) [y])
    · refine .inl (ubW_le fun st rows bec d ne => ?_)
      refine Classical.byContradiction fun y => z ⟨st, rows, bec, d, by omega⟩
  have d1 := dl b hb hab
  have d2 := dl c hc hac
  have s1 := sl b hb hab
  have s2 := sl c hc hac
  have a1 := alt b hb hab
  have a2 := alt c hc hac
  generalize ubW 3 book = f at *
  rcases a1 with h | h
  · rcases a2 with h' | h'
    · exact Nat.add_le_add (Nat.add_le_add (Nat.add_le_add h h') d1) d2
    · rw [h' b, h' c]
      have := Nat.add_le_add s1 s2
      exact Nat.le_trans this (by decide)
  · rw [h b, h c]
    have := Nat.add_le_add s1 s2
    exact Nat.le_trans this (by decide)
theorem sum_cons2 (f : Dep → Nat) (w : Dep) (W : List Dep) : ((w :: W).map f).sum = f w + (W.map f).sum := by rw [List.map_cons, List.sum_cons]
end Nr
/-! How many rows an exact table has. -/
namespace Nr
open PySem PySem.Spec L2
open PyProof.Rows hiding St

theorem w3 : wishL 3 = [⟨true, [], [0]⟩, ⟨true, [], [1]⟩, ⟨true, [], [2]⟩, ⟨false, [], [0]⟩, ⟨false, [], [1]⟩, ⟨false, [], [0, 1]⟩, ⟨false, [], [2]⟩, ⟨false, [], [0, 2]⟩, ⟨false, [], [1, 2]⟩,
        ⟨true, [0], [1]⟩, ⟨true, [0], [2]⟩, ⟨false, [0], [1]⟩, ⟨false, [0], [2]⟩, ⟨true, [1], [0]⟩, ⟨true, [1], [2]⟩, ⟨false, [1], [0]⟩, ⟨false, [1], [2]⟩, ⟨true, [0, 1], [2]⟩,
        ⟨true, [2], [0]⟩, ⟨true, [2], [1]⟩, ⟨false, [2], [0]⟩, ⟨false, [2], [1]⟩, ⟨true, [0, 2], [1]⟩, ⟨true, [1, 2], [0]⟩] := by kernel_rfl

theorem lin1 {a r k : Nat} (h : a ≤ 2) (q : r ≤ k) : a + r ≤ 2 + k := Nat.add_le_add h q
theorem lin4 {b1 b2 b3 b4 r k : Nat} (h : b1 + b2 + b3 + b4 ≤ 12) (q : r ≤ k) : b1 + (b2 + (b3 + (b4 + r))) ≤ 12 + k := by
  have e : b1 + (b2 + (b3 + (b4 + r))) = (b1 + b2 + b3 + b4) + r := by rw [Nat.add_assoc, Nat.add_assoc, Nat.add_assoc]
  rw [e]
  exact Nat.add_le_add h q
theorem wk3 {s : Bool} {L R : List Nat} (h1 : ∀ c ∈ L, c < 3) (h2 : ∀ c ∈ R, c < 3) (h3 : ∀ c ∈ L, c ∉ R) : WishOk 3 ⟨s, L, R⟩ := ⟨⟨h1, h2⟩, h3, by decide⟩
theorem count3 {book : List Dep} (hb : ∀ d ∈ book, DepOk 3 d ∧ d.L ≠ []) : ((wishL 3).map (ubW 3 book)).sum ≤ 60 := by
  rw [w3]
  simp only [sum_cons2, List.map_nil, List.sum_nil]
  have nn : ∀ s R, (∀ c ∈ R, c < 3) → ubW 3 book ⟨s, [], R⟩ ≤ 2 := fun s R h => ub_nil hb (wk3 (fun c hc => nomatch hc) h fun c hc => nomatch hc) rfl
  have pp : ∀ s x y z, (∀ c ∈ [x, y], c < 3) → (∀ c ∈ [z], c < 3) → (∀ c ∈ [x, y], c ∉ [z]) → 2 ^ ((List.range 3).filter (outL ⟨s, [x, y], [z]⟩)).length ≤ 2 → ubW 3 book ⟨s, [x, y], [z]⟩ ≤ 2 := fun s x y z h1 h2 h3 h4 => ub_pow (wk3 h1 h2 h3) h4
  have z : (0 : Nat) ≤ 0 := Nat.le_refl 0
  refine lin1 (nn _ _ (by decide)) (lin1 (nn _ _ (by decide)) (lin1 (nn _ _ (by decide)) (lin1 (nn _ _ (by decide)) (lin1 (nn _ _ (by decide)) (lin1 (nn _ _ (by decide)) (lin1 (nn _ _ (by decide)) (lin1 (nn _ _ (by decide)) (lin1 (nn _ _ (by decide))
    (lin4 ?_ (lin4 ?_ (lin1 ?_ (lin4 ?_ (lin1 ?_ (lin1 ?_ z))))))))))))))
  · exact group3 (by decide) (by decide) (by decide) (by decide) (by decide)
  · exact group3 (by decide) (by decide) (by decide) (by decide) (by decide)
  · exact pp _ _ _ _ (by decide) (by decide) (by decide) (by decide)
  · exact group3 (by decide) (by decide) (by decide) (by decide) (by decide)
  · exact pp _ _ _ _ (by decide) (by decide) (by decide) (by decide)
  · exact pp _ _ _ _ (by decide) (by decide) (by decide) (by decide)
theorem count60 {n : Nat} {book : List Dep} (hb : ∀ d ∈ book, DepOk n d ∧ d.L ≠ []) (h1 : 1 ≤ n) (h3 : n ≤ 3) : ((wishL n).map (ubW n book)).sum ≤ 60 := by
  have : n = 1 ∨ n = 2 ∨ n = 3 := by omega
  rcases this with rfl | rfl | rfl
  · have := sum_le8 1 book (wishL 1)
    have e : (wishL 1).length = 1 := by decide +kernel
    rw [e] at this
    exact Nat.le_trans this (by decide)
  · have := sum_le8 2 book (wishL 2)
    have e : (wishL 2).length = 6 := by decide +kernel
    rw [e] at this
    exact Nat.le_trans this (by decide)
  · exact count3 hb
theorem Tab.few {n : Nat} {book W : List Dep} {R : List Row} (t : Tab n book W R) (hb : ∀ d ∈ book, DepOk n d ∧ d.L ≠ []) (h1 : 1 ≤ n) (h3 : n ≤ 3) (p : W.Perm (wishL n)) : R.length ≤ 60 := by
  have e : (W.map (ubW n book)).sum = ((wishL n).map (ubW n book)).sum := (p.map (ubW n book)).sum_nat
  exact Nat.le_trans (Nat.le_trans t.ct (Nat.le_of_eq e)) (count60 hb h1 h3)
end Nr
/-! The law's defs: take. -/
namespace Nr
open PySem PySem.Spec L2
open PyProof.Rows hiding St

section
variable {X : Cx} {e : Expr} {σ : L2.St} {H : Hp} {p pos : Pos} {i : Int}
/-- int(an int) -/
theorem ev_intI (h : EV X e σ H (.int i)) (hg : Gl X "int") (hm : X.mg "int" = none) (he : starEach [e] X.env = (false, eval e X.env) :: starEach [] X.env := by rfl) : EV X (.Call (.Name "int" p) [e] [] pos) σ H (.int i) := fun H1 s => by
  refine we (pe_callTy call_int1 hg hm (by decide +kernel) (pa_cons pe_w pa_nil he) (by decide) (by decide) he rfl) ?_
  exact (h H1 s).mono fun v H2 ⟨s2, r⟩ => .inl ⟨i, by rw [show v = V.int i from r], s2, rfl⟩
theorem ev_mod {a b : Expr} {j : Int} (ha : EV X a σ H (.int i)) (hb : EV X b σ H (.int j)) (hj : 0 < j) : EV X (.BinOp a .Mod b pos) σ H (.int (i % j)) :=
  ev_op op_mod ha hb fun x y H1 _ rx ry Q q => ⟨i, j, rx, ry, hj, q _ _ (Same.refl _) rfl⟩
theorem op_mulV : OpR X (binaryOp .Mult) (rI (fun i j => IntMulOk i j) fun i j => .int (i * j)) := opI fun _ _ _ _ _ _ _ hc q => mul_int q hc
theorem ev_mulV {a b : Expr} {j : Int} (ha : EV X a σ H (.int i)) (hb : EV X b σ H (.int j)) (hj : IntMulOk i j) : EV X (.BinOp a .Mult b pos) σ H (.int (i * j)) :=
  ev_op op_mulV ha hb fun x y H1 _ rx ry Q q => ⟨i, j, rx, ry, hj, q _ _ (Same.refl _) rfl⟩
end
section
variable {P : Program} {w : World} {K : PySem.W.Frag} {mg : Str → Option Value} {base : Heap} {f C : Addr} {fd : FuncData}
/-- _law_take(draws, many) -/
def spTake : Sp := fun vs H Q _ => ∃ (l : Addr) (ds : List Int) (m : Int), vs = [.ref l, .int m] ∧ H l = some (.lst (ds.map V.int)) ∧ 0 < m ∧ ∀ (r : Int) (ds' : List Int) H', 0 ≤ r → r < m → H' l = some (.lst (ds'.map V.int)) → Fram H H' [l] → Tm H H' → Q (.int r) H'
theorem scTake : FnScope ["_law_draws_here", "_law_many"] ["_law_draws_here", "_law_many"] (defScope sLawTake) := ⟨rfl, rfl, rfl, by decide +kernel, rfl, by decide +kernel, by decide +kernel⟩
theorem ok_take (F : FnP K "_law_take" "_law_take" sLawTake f fd) (B : Bi mg) : FnOk P w K mg base CX0 1 f fd ["_law_draws_here", "_law_many"] spTake := by
  refine fnOk F scTake (fun vs H Q E h => ?_) fun cdv A outer s H vs Q E hr h => ?_
  · obtain ⟨l, ds, m, rfl, _⟩ := h
    rfl
  obtain ⟨l, ds, m, rfl, hl, hm, hq⟩ := h
  refine wcons ?_
  refine ws_ifB _ (et_eqI (ev_lenL (ds := ds.map D.int) (lv_name 0 rfl hl (repL_ints.mpr rfl)) rfl B.len) ev_int) (fun e H1 s1 => ?_) fun e H1 s1 => wnil ?_
  · refine wone (ws_ret (we_ev ev_int fun v H2 s2 rv => ?_))
    obtain rfl := (show v = V.int 0 from rv)
    exact hq 0 ds H2 (Int.le_refl _) hm (s2 _ _ (s1 _ _ hl)) (Same.fram (s1.trans s2)) (Same.tm (s1.trans s2))
  · have e := of_decide_eq_false e
    rw [List.length_map] at e
    refine wone (ws_ret ?_)
    refine we (pe_op op_mod (pe_callTy call_int1 rfl B.int (by decide +kernel) (pa_cons (pe_bm0 PySem.F.plainAttrs_list PySem.F.slot_list_pop PySem.F.type_list_pop mt_pop pe_w) pa_nil) (by decide) (by decide) rfl rfl) pe_w) ?_
    refine NV.use (nv_name 0 rfl) ?_
    have hne : ds ≠ [] := fun z => e (by rw [z]; rfl)
    have hlt : ds.length - 1 < ds.length := by have := List.length_pos_iff.mpr hne; omega
    refine ⟨.inl ⟨rfl, _, SqL.of (s1 _ _ hl)⟩, ?_⟩
    refine ⟨l, ds.map V.int, .int ds[ds.length - 1], rfl, rfl, s1 _ _ hl, by rw [List.length_map, List.getElem?_map, List.getElem?_eq_getElem hlt]; rfl, ?_⟩
    refine .inl ⟨_, rfl, ?_⟩
    refine NV.use (nv_name 1 rfl) ?_
    refine ⟨_, m, rfl, rfl, hm, ?_⟩
    refine hq _ ds.dropLast _ (Int.emod_nonneg _ (by omega)) (Int.emod_lt_of_pos _ hm) (by rw [upd_same, List.map_dropLast]) ((Same.fram s1).own List.mem_cons_self) ((Same.tm s1).trans (tm_upd (s1 _ _ hl) (by intro xs z; cases z)))
end
end Nr
/-! The law's defs: draws. -/
namespace Nr
open PySem PySem.Spec L2
open PyProof.Rows hiding St

theorem ixN_nat {n i : Nat} (h : i < n) : ixN n (i : Int) = some i := by
  unfold ixN
  rw [if_pos (by omega), if_pos (by omega)]
  simp
theorem sqL_same {K : PySem.W.Frag} {H H' : Hp} {a : Addr} {xs : List V} (h : SqL K H a xs) (s : Same H H') : SqL K H' a xs := by
  rcases h with h | h
  · rcases h with h | ⟨o, h⟩
    · exact .inl (.inl (s _ _ h))
    · exact .inl (.inr ⟨o, s _ _ h⟩)
  · exact .inr h
section
variable {X : Cx} {e tg : Expr} {σ : L2.St} {H : Hp} {a : Addr} {ns : List Int}
theorem src_sq (he : RV X e σ H (.ref a)) (h : SqL X.K H a (ns.map V.int)) : Src X tg e σ H (ns.map D.int) := fun H1 s => by
  refine wi (pi_list pe_w) (he H1 s _ ⟨a, rfl, ⟨_, sqL_same h s⟩, Same.refl _, fun i H2 s2 => ⟨fun d hd => ?_, fun hi => ?_⟩⟩)
  · have hS := sqL_same (sqL_same h s) s2
    rw [List.getElem?_map] at hd
    obtain ⟨n, hn, rfl⟩ : ∃ n, ns[i]? = some n ∧ D.int n = d := by
      cases q : ns[i]? with
      | none => rw [q] at hd; cases hd
      | some n => rw [q] at hd; exact ⟨n, rfl, Option.some.inj hd⟩
    have hv : (ns.map V.int)[i]? = some (V.int n) := by rw [List.getElem?_map, hn]; rfl
    refine ⟨⟨_, _, hS, hv⟩, fun x H' ⟨eH, y⟩ => ?_⟩
    have y1 := y _ hS
    rw [hv] at y1
    rw [eH, ← Option.some.inj y1]
    exact ⟨Same.refl _, rfl⟩
  · exact ⟨_, sqL_same (sqL_same h s) s2, by rw [List.length_map] at hi ⊢; omega⟩
end
section
variable {P : Program} {w : World} {K : PySem.W.Frag} {mg : Str → Option Value} {base : Heap} {f C : Addr} {fd : FuncData}
/-- _law_draws(script, many) -/
def spDraws (K : PySem.W.Frag) : Sp := fun vs H Q _ => ∃ (a : Addr) (ns : List Int) (m : Nat), vs = [.ref a, .int (m : Int)] ∧ SqL K H a (ns.map V.int) ∧ ns.length ≤ 63 ∧ m ≤ 1000 ∧ ∀ (l : Addr) (ds : List Int) H', H l = none → Same H H' → H' l = some (.lst (ds.map V.int)) → Q (.ref l) H'
abbrev nDraws : List Str := ["_law_script", "_law_many", "_law_cells", "_law_rest", "_law_draws_here", "_law_k", "_law_at", "_law_once", "_law_cell"]
theorem scDraws : FnScope nDraws ["_law_script", "_law_many"] (defScope sLawDraws) := ⟨rfl, rfl, rfl, by decide +kernel, rfl, by decide +kernel, by decide +kernel⟩
theorem ok_draws (F : FnP K "_law_draws" "_law_draws" sLawDraws f fd) (B : Bi mg) : FnOk P w K mg base CX0 1 f fd ["_law_script", "_law_many"] (spDraws K) := by
  refine fnOk F scDraws (fun vs H Q E h => ?_) fun cdv A outer s H vs Q E hr h => ?_
  · obtain ⟨a, ns, m, rfl, _⟩ := h
    rfl
  obtain ⟨a, ns, m, rfl, hS, hl63, hm, hq⟩ := h
  have nd := scDraws.nd
  refine wcons ?_
  refine ws_setL 2 (el_mapI (is := ns) 8 (fun i => .int i) nd (blkOk_by (N := nDraws) (sc := defScope sLawDraws) (by decide +kernel)) (src_sq (rv_name 0 rfl) hS) (by omega) fun i hi H1 s1 b => ?_) fun cl vs1 H1 hcl s1 h1' r1 => ?_
  · exact ev_intI (ev_name 8 rfl rep_int) rfl B.int
  obtain rfl := repL_ints.mp r1
  have rest : ∀ (H2 : Hp) (cs : List Int), cs ≠ [] → cs.length ≤ 63 → Same H H2 → H2 cl = some (.lst (cs.map V.int)) →
      WSs (cxOf CX0 P w K mg base nDraws "_law_draws" (defScope sLawDraws) f cdv A outer s H E).nox ((L2.defBody sLawDraws).drop 2) ⟨fun _ H' => Q .non H', Q, fun _ _ => False, fun _ _ => False⟩ [some (.ref a), some (.int (m : Int)), some (.ref cl), none, none, none, none, none, none] H2 := by
    intro H2 cs hne hc63 s02 h2
    have hcl0 : 0 < cs.length := List.length_pos_iff.mpr hne
    refine wcons ?_
    refine ws_set 3 nd (we_el (el_listL (ds := cs.map D.int) (lv_name 2 rfl h2 (repL_ints.mpr rfl)) rfl B.list) fun rl rvs H3 hrl s3 h3 r3 => ?_)
    obtain rfl := repL_ints.mp r3
    refine wcons ?_
    refine ws_set 4 nd (we_el (el_lst ea_nil (by show 0 ≤ sizeLine; decide)) fun dl vs4 H4 hdl s4 h4 r4 => ?_)
    obtain rfl : vs4 = [] := r4
    have s03 := s02.trans s3
    have s04 := s03.trans s4
    have hrl0 : H rl = none := Same.free s02 hrl
    have hdl0 : H dl = none := Same.free s03 hdl
    have clrl : cl ≠ rl := ne_of_none h2 hrl
    have cldl : cl ≠ dl := ne_of_none (s3 _ _ h2) hdl
    have rldl : rl ≠ dl := ne_of_none h3 hdl
    refine wcons ?_
    refine ws_for PassesOwn.never rfl (pgn 5 nd) ?_
    refine WI.mono (wi_range (n := m) (ev_name 1 rfl rep_int) (by omega) rfl B.range) ?_
    rintro J H5 ⟨s5, rJ⟩
    refine forW (rJ (fun _ => True)) (fun k σ' H' => ∃ o5 o6 o7, ∃ rs ds : List Int, σ' = [some (.ref a), some (.int (m : Int)), some (.ref cl), some (.ref rl), some (.ref dl), o5, o6, o7, none] ∧ Same H H' ∧ H' cl = some (.lst (cs.map V.int)) ∧ H' rl = some (.lst (rs.map V.int)) ∧ rs.length = cs.length ∧ H' dl = some (.lst (ds.map V.int)) ∧ ds.length ≤ k)
      ⟨none, none, none, cs, [], rfl, s04.trans s5, s5 _ _ (s4 _ _ (s3 _ _ h2)), s5 _ _ (s4 _ _ h3), rfl, s5 _ _ h4, Nat.le_refl _⟩ (fun _ _ _ _ _ => trivial) ?_ ?_
    · rintro j d σ' H6 hd ⟨o5, o6, o7, rs, ds, rfl, g0, g1, g2, g3, g4, g5⟩ x H7 s7 rx
      have hjm : j < m := by
        have := (List.getElem?_eq_some_iff.mp hd).1
        rw [natsD, List.length_map, List.length_range] at this
        exact this
      obtain rfl : D.int ((j : Nat) : Int) = d := by
        rw [natsD, List.getElem?_map, List.getElem?_range hjm] at hd
        exact Option.some.inj hd
      obtain rfl := (show x = V.int ((j : Nat) : Int) from rx)
      have hi : j % cs.length < cs.length := Nat.mod_lt _ hcl0
      have him : (cs.map D.int)[j % cs.length]? = some (.int cs[j % cs.length]) := by rw [List.getElem?_map, List.getElem?_eq_getElem hi]; rfl
      have hir : j % cs.length < rs.length := by rw [g3]; exact hi
      have hirm : (rs.map D.int)[j % cs.length]? = some (.int rs[j % cs.length]) := by rw [List.getElem?_map, List.getElem?_eq_getElem hir]; rfl
      refine wcons ?_
      refine ws_set 6 nd (we_ev (EV.to (d' := .int ((j % cs.length : Nat) : Int)) (ev_mod (i := (j : Int)) (j := (cs.length : Int)) (ev_name 5 rfl rep_int) (EV.to (ev_lenL (ds := cs.map D.int) (lv_name 2 rfl (s7 _ _ g1) (repL_ints.mpr rfl)) rfl B.len) (by rw [List.length_map])) (by omega)) (by rw [Int.natCast_emod])) fun va H8 s8 ra => ?_)
      obtain rfl := (show va = V.int ((j % cs.length : Nat) : Int) from ra)
      have s78 := s7.trans s8
      have k1 := s78 _ _ g1
      have k2 := s78 _ _ g2
      have k4 := s78 _ _ g4
      refine wone (ws_ifB _ (et_ge (ev_ixL (i := j % cs.length) (lv_name 2 rfl k1 (repL_ints.mpr rfl)) (ev_name 6 rfl rep_int) him) (ev_op (d := .int ((10 : Int) ^ (18 : Int).toNat)) op_pow ev_int ev_int fun x y H1 _ rx ry Q q => ⟨10, 18, rx, ry, by unfold CPow; decide, q _ _ (Same.refl _) rfl⟩)) (fun e H9 s9 => ?_) fun e H9 s9 => ?_)
      · -- the great cells
        refine wcons ?_
        refine ws_app (ds := ds.map D.int) (d := .int (rs[j % cs.length] % 1000)) (nv_name 4 rfl) (s9 _ _ k4) (repL_ints.mpr rfl) (by rw [List.length_map]; omega) (ev_mod (ev_intI (ev_ixL (i := j % cs.length) (lv_name 3 rfl (s9 _ _ k2) (repL_ints.mpr rfl)) (ev_name 6 rfl rep_int) hirm) rfl B.int) ev_int (by decide)) fun v H10 s10 r10 f10 t10 => ?_
        have ev := repL_ints.mp (show RepL _ ((ds ++ [rs[j % cs.length] % 1000]).map D.int) _ by rw [List.map_append]; exact r10)
        rw [ev]
        have q1 : (upd H10 dl (.lst ((ds ++ [rs[j % cs.length] % 1000]).map V.int))) cl = some (.lst (cs.map V.int)) := by rw [upd_ne cldl]; exact s10 _ _ (s9 _ _ k1)
        have q2 : (upd H10 dl (.lst ((ds ++ [rs[j % cs.length] % 1000]).map V.int))) rl = some (.lst (rs.map V.int)) := by rw [upd_ne rldl]; exact s10 _ _ (s9 _ _ k2)
        have q0 : Same H (upd H10 dl (.lst ((ds ++ [rs[j % cs.length] % 1000]).map V.int))) := same_mut (((g0.trans s78).trans s9).trans s10) hdl0
        refine wone (ws_asg (pg_sub pe_w pe_w set_list) (we_ev (dd := .int (rs[j % cs.length] / 1000)) (ev_op op_fdivW (ev_ixL (i := j % cs.length) (lv_name 3 rfl q2 (repL_ints.mpr rfl)) (ev_name 6 rfl rep_int) hirm) ev_int fun x y H1 _ rx ry Q q => ⟨_, 1000, rx, ry, wide_div (b := 10) (by decide) (by decide) (by decide) (by decide), q _ _ (Same.refl _) rfl⟩) fun v11 H11 s11 r11 => ?_))
        obtain rfl := (show v11 = V.int (rs[j % cs.length] / 1000) from r11)
        refine NV.use (nv_name 3 rfl) (NV.use (nv_name 6 rfl) ?_)
        refine ⟨rl, rs.map V.int, _, j % cs.length, rfl, rfl, s11 _ _ q2, ?_, ?_⟩
        · rw [List.length_map]
          exact ixN_nat hir
        · refine ⟨_, _, _, rs.set (j % cs.length) (rs[j % cs.length] / 1000), ds ++ [rs[j % cs.length] % 1000], rfl, same_mut (q0.trans s11) hrl0, ?_, ?_, ?_, ?_, by rw [List.length_append]; exact Nat.succ_le_succ g5⟩
          · rw [upd_ne clrl]; exact s11 _ _ q1
          · rw [upd_same, List.map_set]
          · rw [List.length_set]; exact g3
          · rw [upd_ne rldl.symm]; exact s11 _ _ upd_same
      · -- the small cells
        have big : IntMulOk cs[j % cs.length] 48271 := CMul.ok (.inr ⟨by decide, by decide⟩)
        refine wcons ?_
        refine ws_set 7 nd (we_ev (ev_mod (j := 2147483647) (ev_intI (ev_add (ev_add (ev_mulV (ev_ixL (i := j % cs.length) (lv_name 2 rfl (s9 _ _ k1) (repL_ints.mpr rfl)) (ev_name 6 rfl rep_int) him) ev_int big) (ev_mulV (i := (j : Int)) (ev_name 5 rfl rep_int) ev_int (CMul.ok (.inr ⟨by decide, by decide⟩)))) ev_int) rfl B.int) ev_int (by decide)) fun vo H10 s10 ro => ?_)
        generalize ho : (cs[j % cs.length] * 48271 + (j : Int) * 69621 + 11) % 2147483647 = once at ro
        have on0 : 0 ≤ once := by rw [← ho]; exact Int.emod_nonneg _ (by decide)
        have on1 : once < 2147483647 := by rw [← ho]; exact Int.emod_lt_of_pos _ (by decide)
        obtain rfl := (show vo = V.int once from ro)
        have sm : IntMulOk once once := CMul.ok (.inr ⟨by omega, by omega⟩)
        refine wone ?_
        refine ws_app (ds := ds.map D.int) (d := .int ((once * once + 3 * once + (j : Int)) % 1000003)) (nv_name 4 rfl) (s10 _ _ (s9 _ _ k4)) (repL_ints.mpr rfl) (by rw [List.length_map]; omega) (ev_mod (ev_intI (ev_add (ev_add (ev_mulV (ev_name 7 rfl rep_int) (ev_name 7 rfl rep_int) sm) (ev_mulV (i := 3) ev_int (ev_name 7 rfl rep_int) (CMul.ok (.inl ⟨by decide, by decide⟩)))) (ev_name 5 rfl rep_int)) rfl B.int) ev_int (by decide)) fun v H11 s11 r11 f11 t11 => ?_
        have ev := repL_ints.mp (show RepL _ ((ds ++ [(once * once + 3 * once + (j : Int)) % 1000003]).map D.int) _ by rw [List.map_append]; exact r11)
        rw [ev]
        have s911 := (s9.trans s10).trans s11
        refine ⟨_, _, _, rs, ds ++ [(once * once + 3 * once + (j : Int)) % 1000003], rfl, same_mut ((g0.trans s78).trans s911) hdl0, ?_, ?_, g3, upd_same, by rw [List.length_append]; exact Nat.succ_le_succ g5⟩
        · rw [upd_ne cldl]; exact s911 _ _ k1
        · rw [upd_ne rldl]; exact s911 _ _ k2
    · rintro σ' H6 ⟨o5, o6, o7, rs, ds, rfl, g0, g1, g2, g3, g4, g5⟩
      refine wcons ?_
      refine ws_expr ?_
      refine we (pe_bm0 PySem.F.plainAttrs_list PySem.F.slot_list_reverse PySem.F.type_list_reverse mt_reverse pe_w) ?_
      refine NV.use (nv_name 4 rfl) ?_
      refine ⟨.inl ⟨rfl, _, SqL.of g4⟩, ?_⟩
      refine ⟨dl, _, rfl, rfl, g4, ?_⟩
      refine wone (ws_ret (NV.use (nv_name 4 rfl) ?_))
      exact hq dl ds.reverse _ hdl0 (same_mut g0 hdl0) (by rw [upd_same, List.map_reverse])
  refine wcons ?_
  refine ws_ifB _ (et_eqI (ev_lenL (ds := ns.map D.int) (lv_name 2 rfl h1' r1) rfl B.len) ev_int) (fun e H2 s2 => ?_) fun e H2 s2 => wnil ?_
  · have e := of_decide_eq_true e
    rw [List.length_map] at e
    have e0 : ns = [] := List.eq_nil_of_length_eq_zero (by omega)
    subst e0
    refine wone ?_
    refine ws_app (ds := []) (d := .int 0) (nv_name 2 rfl) (s2 _ _ h1') rfl (by show 0 < 100000; decide) ev_int fun v H3 s3 r3 f3 t3 => ?_
    obtain ⟨_, _, e3, r0, hnil⟩ := r3
    have hv : v = V.int 0 := by
      have := (List.cons.inj e3).1
      rw [this]
      exact r0
    refine rest _ [0] (by simp) (by decide) (same_mut ((s1.trans s2).trans s3) hcl) ?_
    rw [upd_same, hv]
    rfl
  · have e := of_decide_eq_false e
    rw [List.length_map] at e
    exact rest H2 ns (fun z => e (by rw [z]; rfl)) hl63 (s1.trans s2) (s2 _ _ h1')
end
end Nr
/-! The law's defs: some. -/
namespace Nr
open PySem PySem.Spec L2
open PyProof.Rows hiding St

section
variable {P : Program} {w : World} {K : PySem.W.Frag} {mg : Str → Option Value} {base : Heap} {f C : Addr} {fd : FuncData}
/-- _law_some(draws, columns, share) -/
def spSome : Sp := fun vs H Q _ => ∃ (l : Addr) (ds : List Int) (cs : List Nat) (v : V) (sh : Int), vs = [.ref l, v, .int sh] ∧ H l = some (.lst (ds.map V.int)) ∧ Rep H (natsT cs) v ∧ cs.length ≤ 1000 ∧
  ∀ (cs' : List Nat) (ds' : List Int) u H', (∀ c ∈ cs', c ∈ cs) → cs'.length ≤ cs.length → H' l = some (.lst (ds'.map V.int)) → Fram H H' [l] → Tm H H' → Rep H' (natsT cs') u → Q u H'
abbrev nSome : List Str := ["_law_draws_here", "_law_columns", "_law_share", "_law_column"]
theorem scSome : FnScope nSome ["_law_draws_here", "_law_columns", "_law_share"] (defScope sLawSome) := ⟨rfl, rfl, rfl, by decide +kernel, rfl, by decide +kernel, by decide +kernel⟩
theorem ok_some (F : FnP K "_law_some" "_law_some" sLawSome f fd) (B : Bi mg) (G : Ok P w K mg base 1 "_law_take" spTake) : FnOk P w K mg base CX0 2 f fd ["_law_draws_here", "_law_columns", "_law_share"] spSome := by
  refine fnOk F scSome (fun vs H Q E h => ?_) fun cdv A outer s H vs Q E hr h => ?_
  · obtain ⟨l, ds, cs, v, sh, rfl, _⟩ := h
    rfl
  obtain ⟨l, ds, cs, v, sh, rfl, hl, rc, hcl, hq⟩ := h
  have nd := scSome.nd
  obtain ⟨ta, tvs, rfl, hta, rtv⟩ := id rc
  refine wone (ws_ret ?_)
  refine we (pe_callTy call_tuple_of rfl B.tuple (by decide +kernel) (pa_cons pe_w pa_nil rfl) (by decide) (by decide) rfl rfl) ?_
  refine we (pe_lc (own := [("_law_column", 3)]) (g := gName 3) (tt := fun σ H Q => ∀ b, WTs (XB (cxOf CX0 P w K mg base nSome "_law_some" (defScope sLawSome) f cdv A outer s H E).nox _ b) _ σ H Q) (te := fun σ H Q => ∀ b, WE (XB (cxOf CX0 P w K mg base nSome "_law_some" (defScope sLawSome) f cdv A outer s H E).nox _ b) _ σ H Q) rfl nd pi_w (blkOk_by (N := nSome) (sc := defScope sLawSome) (by decide +kernel)) (fun s H C cl fp => pgn 3 nd) (fun s H C cl fp => ⟨fun pins s' σ' H' Q I h => h (s, H, C, cl, fp) pins s' I⟩) (fun s H C cl fp => ⟨fun pins s' σ' H' Q I h => h (s, H, C, cl, fp) pins s' I⟩) (fun _ => rfl)) ?_
  refine wi (pi_tup pe_w) ?_
  refine NV.use (nv_name 1 rfl) ?_
  refine ⟨ta, rfl, ⟨_, SqT.of hta⟩, fun Dl hD => ?_⟩
  have lD : l ≠ Dl := ne_of_none hl hD
  have tl : tvs.length = cs.length := by rw [rtv.length, List.length_map]
  refine ⟨fun i m H' => m = cs.length - i ∧ i ≤ cs.length ∧ Fram H H' [l] ∧ Tm H H' ∧ ∃ (ds' : List Int) (cs' : List Nat), H' l = some (.lst (ds'.map V.int)) ∧ H' Dl = some (.lst (cs'.map fun (c : Nat) => V.int (c : Int))) ∧ (∀ c ∈ cs', c ∈ cs) ∧ cs'.length ≤ i, ⟨cs.length, by simp, Nat.zero_le _, Fram.refl.new hD, Same.tm (same_new hD), ds, [], by rw [upd_ne lD]; exact hl, upd_same, (fun c hc => nomatch hc), Nat.le_refl _⟩, ?_⟩
  rintro i m H1 ⟨rfl, hi, f1, t1, ds1, cs1, h1, h2, h3, h4⟩
  have hta1 := t1 _ _ hta
  by_cases hlt : i < cs.length
  · have hd : cs[i]? = some cs[i] := List.getElem?_eq_getElem hlt
    obtain ⟨y, hy, ry⟩ := rtv.get (show (cs.map fun (c : Nat) => D.int (c : Int))[i]? = some (.int (cs[i] : Int)) by rw [List.getElem?_map, hd]; rfl)
    obtain rfl := (show y = V.int (cs[i] : Int) from ry)
    refine .inr ⟨⟨_, _, SqT.of hta1, hy⟩, fun H' => i + 1 ≤ cs.length ∧ Fram H H' [l] ∧ Tm H H' ∧ ∃ (ds' : List Int) (cs' : List Nat), H' l = some (.lst (ds'.map V.int)) ∧ H' Dl = some (.lst (cs'.map fun (c : Nat) => V.int (c : Int))) ∧ (∀ c ∈ cs', c ∈ cs) ∧ cs'.length ≤ i + 1, fun H' z => ⟨cs.length - (i + 1), by omega, rfl, z⟩, fun x H2 ⟨eH, hx⟩ => ?_⟩
    have ex := hx _ (SqT.of hta1)
    rw [hy] at ex
    obtain rfl := Option.some.inj ex
    rw [eH]
    refine ⟨rfl, fun b => wts (pts_one pt_w) ?_⟩
    refine wt (pt_cmpR op_lt pe_w pe_w (nomark _)) ?_
    refine we_call G hr rfl ?_
    refine wa (pa_cons pe_w (pa_cons pe_w pa_nil)) ?_
    refine NV.use (nv_name 0 rfl) ?_
    refine we pe_int ?_
    refine ⟨l, ds1, 6, rfl, h1, by decide, fun r ds2 H3 r0 r1 h3' f3 t3 => ?_⟩
    refine NV.use (nv_name 2 rfl) ?_
    have hDl3 : H3 Dl = some (.lst (cs1.map fun (c : Nat) => V.int (c : Int))) := f3 _ _ h2 (by simp [lD.symm])
    have f13 : Fram H H3 [l] := f1.trans f3 fun a ha => .inl ha
    refine ⟨r, sh, rfl, rfl, _, rfl, ?_⟩
    by_cases hlt2 : r < sh
    · rw [decide_eq_true hlt2]
      refine iteT ?_
      intro b2
      refine NV.use (nv_name 3 rfl) ?_
      refine ⟨_, hDl3, by rw [List.length_map, sizeLine_eq]; omega, hlt, f13.new hD, (t1.trans t3).trans (tm_upd hDl3 (by intro xs z; cases z)), ds2, cs1 ++ [cs[i]], by rw [upd_ne lD]; exact h3', by rw [upd_same, List.map_append]; rfl, fun c hc => ?_, by rw [List.length_append]; exact Nat.succ_le_succ h4⟩
      rcases List.mem_append.mp hc with z | z
      · exact h3 c z
      · rw [List.mem_singleton.mp z]; exact List.getElem_mem hlt
    · rw [decide_eq_false hlt2]
      refine iteF ?_
      exact ⟨hlt, f13, t1.trans t3, ds2, cs1, h3', hDl3, h3, Nat.le_succ_of_le h4⟩
  · have e : i = cs.length := by omega
    refine .inl ⟨⟨_, SqT.of hta1, by rw [tl, e]; exact Nat.le_refl _⟩, Dl, _, rfl, .inl ⟨SqL.of h2, fun t ht => ?_⟩⟩
    have st := same_new (o := .tup (cs1.map fun (c : Nat) => V.int (c : Int))) ht
    refine hq cs1 ds1 _ _ h3 (by omega) (st _ _ h1) (f1.same st) (t1.trans (Same.tm st)) ?_
    rw [natsT_eq]
    refine rep_ints.mpr ⟨t, rfl, ?_⟩
    rw [upd_same, List.map_map]
    rfl
end
end Nr
/-! The law's defs: book. -/
namespace Nr
open PySem PySem.Spec L2
open PyProof.Rows hiding St

section
variable {P : Program} {w : World} {K : PySem.W.Frag} {mg : Str → Option Value} {base : Heap} {f C : Addr} {fd : FuncData}
/-- _law_book(draws, width, 3, False) -/
def spBook : Sp := fun vs H Q _ => ∃ (l : Addr) (ds : List Int) (n m : Nat), vs = [.ref l, .int (n : Int), .int (m : Int), .bl false] ∧ H l = some (.lst (ds.map V.int)) ∧ n ≤ 100 ∧ m ≤ 100 ∧
  ∀ (book : List Dep) (ds' : List Int) u H', book.length ≤ 100 → (∀ d ∈ book, DepOk n d ∧ d.L.length ≤ n ∧ d.R.length ≤ n) → H' l = some (.lst (ds'.map V.int)) → Fram H H' [l] → Tm H H' → Rep H' (bookD book) u → Q u H'
abbrev nBook : List Str := ["_law_draws_here", "_law_width", "_law_many", "_law_joins", "_law_columns", "_law_book_here", "_law_k", "_law_left", "_law_kind", "_law_parts_here", "_law_part", "_law_held", "_law_rest", "_law_one", "_law_j", "_law_column"]
theorem scBook : FnScope nBook ["_law_draws_here", "_law_width", "_law_many", "_law_joins"] (defScope sLawBook) := ⟨rfl, rfl, rfl, by decide +kernel, rfl, by decide +kernel, by decide +kernel⟩
theorem ok_book (F : FnP K "_law_book" "_law_book" sLawBook f fd) (B : Bi mg) (G1 : Ok P w K mg base 2 "_law_take" spTake) (G2 : Ok P w K mg base 2 "_law_some" spSome) : FnOk P w K mg base CX0 3 f fd ["_law_draws_here", "_law_width", "_law_many", "_law_joins"] spBook := by
  refine fnOk F scBook (fun vs H Q E h => ?_) fun cdv A outer s H vs Q E hr h => ?_
  · obtain ⟨l, ds, n, m, rfl, _⟩ := h
    rfl
  obtain ⟨l, ds, n, m, rfl, hl, hn, hm, hq⟩ := h
  have nd := scBook.nd
  refine wcons ?_
  refine ws_set 4 nd (we_ev (ev_tupRange rfl (ev_name 1 rfl rep_int) (by omega) rfl B.tuple rfl B.range) fun vc H1 s1 rc => ?_)
  refine wcons ?_
  refine ws_set 5 nd (we_el (el_lst ea_nil (by show 0 ≤ sizeLine; decide)) fun bl vs2 H2 hbl s2 h2' r2 => ?_)
  obtain rfl : vs2 = [] := r2
  have s12 := s1.trans s2
  have hbl0 : H bl = none := Same.free s1 hbl
  have lbl : l ≠ bl := ne_of_none hl hbl0
  refine wcons ?_
  refine ws_for PassesOwn.never rfl (pgn 6 nd) ?_
  refine wi (pi_range1 rfl B.range pa_w rfl) ?_
  refine wa (pa_cons pe_w pa_nil) ?_
  refine we_call G1 hr rfl ?_
  refine wa (pa_cons pe_w (pa_cons pe_w pa_nil)) ?_
  refine NV.use (nv_name 0 rfl) ?_
  refine we_ev (ev_add (ev_name 2 rfl (d := .int (m : Int)) rfl) ev_int) fun vm H3 s3 rm => ?_
  obtain rfl := (show vm = V.int ((m : Int) + 1) from rm)
  have s13 := s12.trans s3
  refine ⟨l, ds, (m : Int) + 1, rfl, s13 _ _ hl, by omega, fun r ds4 H4 r0 r1 h4 f4 t4 => ?_⟩
  obtain ⟨k, rfl⟩ : ∃ k : Nat, r = (k : Int) := ⟨r.toNat, by omega⟩
  have f04 : Fram H H4 [l] := Fram.trans (Same.fram s13) f4 fun a ha => .inl ha
  have t04 : Tm H H4 := (Same.tm s13).trans t4
  refine ⟨(k : Int), rfl, by omega, by omega, ?_⟩
  have k100 : k ≤ 100 := by omega
  have hbl4 : H4 bl = some (.lst []) := f4 _ _ (s3 _ _ h2') (by simp [lbl.symm])
  refine forW (runs_range 0 k (fun _ => True)) (fun j σ' H' => ∃ o6 o7 o8, ∃ (ds' : List Int) (bs : List V) (book : List Dep), σ' = [some (.ref l), some (.int (n : Int)), some (.int (m : Int)), some (.bl false), some vc, some (.ref bl), o6, o7, o8, none, none, none, none, none, none, none] ∧ Fram H H' [l] ∧ Tm H H' ∧ Tm H2 H' ∧ H' l = some (.lst (ds'.map V.int)) ∧ H' bl = some (.lst bs) ∧ RepL H' (book.map depD) bs ∧ book.length ≤ j ∧ ∀ d ∈ book, DepOk n d ∧ d.L.length ≤ n ∧ d.R.length ≤ n)
    ⟨none, none, none, ds4, [], [], rfl, f04, t04, (Same.tm s3).trans t4, h4, hbl4, rfl, Nat.zero_le _, (fun d hd => nomatch hd)⟩ (fun _ _ _ _ _ => trivial) ?_ ?_
  · rintro j d σ' H5 hd ⟨o6, o7, o8, ds5, bs, book, rfl, f5, t5, t25, g1, g2, g3, g4, g5⟩ x H6 s6 rx
    have hj : j < k := by
      have := (List.getElem?_eq_some_iff.mp hd).1
      rw [List.length_map, List.length_range] at this
      exact this
    have rc6 : Rep H6 (natsT (List.range n)) vc := (((rc.mono s2).tm t25).mono s6)
    refine wcons ?_
    refine ws_set 7 nd ?_
    refine we_call G2 hr rfl ?_
    refine wa (pa_cons pe_w (pa_cons pe_w (pa_cons pe_w pa_nil))) ?_
    refine NV.use (nv_name 0 rfl) (NV.use (nv_name 4 rfl) ?_)
    refine we (pe_ix ix_list pe_w pe_w (fun _ _ => rfl)) ?_
    refine we_el (ds := [.int 2, .int 2, .int 1, .int 3]) (el_lst (ea_cons ev_int (ea_cons ev_int (ea_cons ev_int (ea_cons ev_int ea_nil)))) (by show 4 ≤ sizeLine; decide)) fun l7 vs7 H7 hl7 s7 h7 r7 => ?_
    have e7 : vs7 = [.int 2, .int 2, .int 1, .int 3] := (repL_ints (ns := [2, 2, 1, 3])).mp r7
    refine we_call G1 hr rfl ?_
    refine wa (pa_cons pe_w (pa_cons pe_w pa_nil)) ?_
    refine NV.use (nv_name 0 rfl) ?_
    refine we pe_int ?_
    have g17 := s7 _ _ (s6 _ _ g1)
    refine ⟨l, ds5, 4, rfl, g17, by decide, fun r ds8 H8 r0 r1 h8 f8 t8 => ?_⟩
    obtain ⟨i, rfl⟩ : ∃ i : Nat, r = (i : Int) := ⟨r.toNat, by omega⟩
    have i4 : i < 4 := by omega
    have l7l : l7 ≠ l := fun e => by rw [e, s6 _ _ g1] at hl7; cases hl7
    obtain ⟨sh, hsh⟩ : ∃ sh : Int, ([.int 2, .int 2, .int 1, .int 3] : List V)[i]? = some (.int sh) := by
      match i, i4 with
      | 0, _ => exact ⟨2, rfl⟩
      | 1, _ => exact ⟨2, rfl⟩
      | 2, _ => exact ⟨1, rfl⟩
      | 3, _ => exact ⟨3, rfl⟩
    refine ⟨l7, vs7, (i : Int), .int sh, rfl, rfl, SqL.of (f8 _ _ h7 (by simp [l7l])), atI_nat (by rw [e7]; exact hsh), ?_⟩
    have t58 : Tm H5 H8 := (Same.tm (s6.trans s7)).trans t8
    have f58 : Fram H5 H8 [l] := Fram.trans (Same.fram (s6.trans s7)) f8 fun a ha => .inl ha
    refine ⟨l, ds8, List.range n, vc, sh, rfl, h8, (rc6.mono s7).tm t8, by rw [List.length_range]; omega, fun left ds9 vl H9 hl1 hl2 h9 f9 t9 rl => ?_⟩
    rw [List.length_range] at hl2
    have f59 : Fram H5 H9 [l] := f58.trans f9 fun a ha => .inl ha
    have t59 : Tm H5 H9 := t58.trans t9
    refine wcons ?_
    refine ws_set 8 nd ?_
    refine we_call G1 hr rfl ?_
    refine wa (pa_cons pe_w (pa_cons pe_w pa_nil)) ?_
    refine NV.use (nv_name 0 rfl) ?_
    refine we pe_int ?_
    refine ⟨l, ds9, 5, rfl, h9, by decide, fun kd ds10 H10 k0 k1 h10 f10 t10 => ?_⟩
    have f5a : Fram H5 H10 [l] := f59.trans f10 fun a ha => .inl ha
    have t5a : Tm H5 H10 := t59.trans t10
    have rla : Rep H10 (natsT left) vl := rl.tm t10
    have okd : ∀ (st : Bool) (right : List Nat), (∀ c ∈ right, c ∈ List.range n) → right.length ≤ n → ∀ d ∈ book ++ [⟨st, left, right⟩], DepOk n d ∧ d.L.length ≤ n ∧ d.R.length ≤ n := fun st right hr1 hr2 d hd => by
      rcases List.mem_append.mp hd with z | z
      · exact g5 d z
      · rw [List.mem_singleton.mp z]
        exact ⟨⟨fun c hc => List.mem_range.mp (hl1 c hc), fun c hc => List.mem_range.mp (hr1 c hc)⟩, hl2, hr2⟩
    refine wone (ws_ifB false ?_ (fun e => by cases e) fun _ H11 s11 => ?_)
    · refine (et_and3 (t := decide (kd = 0)) (u := false) (z := false) (et_eqI (ev_name 8 rfl rep_int) ev_int) (fun _ => et_val (ev_name 3 rfl (d := .bl false) rfl)) (fun _ z => nomatch z)).to (by simp)
    have h11 := s11 _ _ h10
    have bl11 : H11 bl = some (.lst bs) := s11 _ _ (f5a _ _ g2 (by simp [lbl.symm]))
    have t5b : Tm H5 H11 := t5a.trans (Same.tm s11)
    have f5b : Fram H5 H11 [l] := f5a.same s11
    have rcb : Rep H11 (natsT (List.range n)) vc := (rc.mono s2).tm (t25.trans t5b)
    refine wone (ws_ifB _ (et_lt (ev_name 8 rfl rep_int) ev_int) (fun e H12 s12' => ?_) fun e H12 s12' => ?_)
    · refine wone (ws_expr ?_)
      refine we_append ?_
      refine NV.use (nv_name 5 rfl) ⟨⟨bl, bs, rfl, s12' _ _ bl11⟩, ?_⟩
      refine we (pe_tup (pa_cons pe_w (pa_cons pe_w (pa_cons pe_w (pa_cons pe_w pa_nil))))) ?_
      refine we pe_str ?_
      refine we pe_int ?_
      refine NV.use (nv_name 7 rfl) ?_
      refine we_call G2 hr rfl ?_
      refine wa (pa_cons pe_w (pa_cons pe_w (pa_cons pe_w pa_nil))) ?_
      refine NV.use (nv_name 0 rfl) (NV.use (nv_name 4 rfl) ?_)
      refine we pe_int ?_
      refine ⟨l, ds10, List.range n, vc, 2, rfl, s12' _ _ h11, rcb.mono s12', by rw [List.length_range]; omega, fun right ds13 vr H13 hr1 hr2 h13 f13 t13 rr => ?_⟩
      rw [List.length_range] at hr2
      refine ⟨by show 4 ≤ sizeLine; decide, fun t ht => ?_⟩
      have st' := same_new (o := .tup [.str "deals", .int 0, vl, vr]) ht
      have bl13 : H13 bl = some (.lst bs) := f13 _ _ (s12' _ _ bl11) (by simp [lbl.symm])
      refine ⟨bl, bs, rfl, st' _ _ bl13, by rw [g3.length, List.length_map, sizeLine_eq]; omega, ?_⟩
      have tmu := tm_upd (u := .lst (bs ++ [.ref t])) (st' _ _ bl13) (by intro xs z; cases z)
      have tA : Tm H11 H13 := (Same.tm s12').trans t13
      have tB := tA.trans ((Same.tm st').trans tmu)
      have fA : Fram H11 H13 [l] := Fram.trans (Same.fram s12') f13 fun a ha => .inl ha
      refine ⟨_, _, _, ds13, bs ++ [.ref t], book ++ [⟨false, left, right⟩], rfl, (((f5.same s6).trans (Fram.trans (Fram.refl (H := H6)) (?_ : Fram H6 H13 [l]) fun a ha => .inl ha) fun a ha => .inl ha).same st').new hbl0, (t5.trans t5b).trans tB, (t25.trans t5b).trans tB, ?_, upd_same, ?_, by rw [List.length_append]; exact Nat.succ_le_succ g4, okd false right hr1 hr2⟩
      · exact ((((Fram.trans (Same.fram s7) f8 fun a ha => .inl ha).trans f9 fun a ha => .inl ha).trans f10 fun a ha => .inl ha).same s11).trans fA fun a ha => .inl ha
      · rw [upd_ne lbl]; exact st' _ _ h13
      · rw [List.map_append]
        refine RepL.append ((g3.tm t5b).tm tB) (.one ?_)
        refine ⟨t, [.str "deals", .int 0, vl, vr], rfl, tmu _ _ upd_same, ?_⟩
        exact .cons rfl (.cons rfl (.cons (((rla.mono s11).tm tB)) (.one (rr.tm ((Same.tm st').trans tmu)))))
    · refine wone (ws_expr ?_)
      refine we_append ?_
      refine NV.use (nv_name 5 rfl) ⟨⟨bl, bs, rfl, s12' _ _ bl11⟩, ?_⟩
      refine we (pe_tup (pa_cons pe_w (pa_cons pe_w (pa_cons pe_w (pa_cons pe_w pa_nil))))) ?_
      refine we pe_str ?_
      refine we pe_int ?_
      refine NV.use (nv_name 7 rfl) ?_
      refine we_call G2 hr rfl ?_
      refine wa (pa_cons pe_w (pa_cons pe_w (pa_cons pe_w pa_nil))) ?_
      refine NV.use (nv_name 0 rfl) (NV.use (nv_name 4 rfl) ?_)
      refine we pe_int ?_
      refine ⟨l, ds10, List.range n, vc, 1, rfl, s12' _ _ h11, rcb.mono s12', by rw [List.length_range]; omega, fun right ds13 vr H13 hr1 hr2 h13 f13 t13 rr => ?_⟩
      rw [List.length_range] at hr2
      refine ⟨by show 4 ≤ sizeLine; decide, fun t ht => ?_⟩
      have st' := same_new (o := .tup [.str "settles", .int 0, vl, vr]) ht
      have bl13 : H13 bl = some (.lst bs) := f13 _ _ (s12' _ _ bl11) (by simp [lbl.symm])
      refine ⟨bl, bs, rfl, st' _ _ bl13, by rw [g3.length, List.length_map, sizeLine_eq]; omega, ?_⟩
      have tmu := tm_upd (u := .lst (bs ++ [.ref t])) (st' _ _ bl13) (by intro xs z; cases z)
      have tA : Tm H11 H13 := (Same.tm s12').trans t13
      have tB := tA.trans ((Same.tm st').trans tmu)
      have fA : Fram H11 H13 [l] := Fram.trans (Same.fram s12') f13 fun a ha => .inl ha
      refine ⟨_, _, _, ds13, bs ++ [.ref t], book ++ [⟨true, left, right⟩], rfl, (((f5.same s6).trans (Fram.trans (Fram.refl (H := H6)) (?_ : Fram H6 H13 [l]) fun a ha => .inl ha) fun a ha => .inl ha).same st').new hbl0, (t5.trans t5b).trans tB, (t25.trans t5b).trans tB, ?_, upd_same, ?_, by rw [List.length_append]; exact Nat.succ_le_succ g4, okd true right hr1 hr2⟩
      · exact ((((Fram.trans (Same.fram s7) f8 fun a ha => .inl ha).trans f9 fun a ha => .inl ha).trans f10 fun a ha => .inl ha).same s11).trans fA fun a ha => .inl ha
      · rw [upd_ne lbl]; exact st' _ _ h13
      · rw [List.map_append]
        refine RepL.append ((g3.tm t5b).tm tB) (.one ?_)
        refine ⟨t, [.str "settles", .int 0, vl, vr], rfl, tmu _ _ upd_same, ?_⟩
        exact .cons rfl (.cons rfl (.cons (((rla.mono s11).tm tB)) (.one (rr.tm ((Same.tm st').trans tmu)))))
  · rintro σ' H5 ⟨o6, o7, o8, ds5, bs, book, rfl, f5, t5, t25, g1, g2, g3, g4, g5⟩
    rw [List.length_map, List.length_range] at g4
    refine wone (ws_ret (we_ev (ev_tupleL (lv_name 5 rfl g2 g3) rfl B.tuple) fun v6 H6 s6 r6 => ?_))
    exact hq book ds5 v6 H6 (by omega) g5 (s6 _ _ g1) (f5.same s6) (t5.trans (Same.tm s6)) r6
end
end Nr
/-! The law's chase, plain. -/
namespace Nr
theorem Ch.addsL {n : Nat} {o : Nat → Int} {book : List Dep} {st : List Row} {bec : List (Int × Int)} (ok : OOk n o) {d : Dep} (hd : d ∈ book) (hok : DepOk n d) (hs : d.st = false) : ∀ (miss rows : List Row), Ch n o book st rows bec → miss.Nodup → (∀ r ∈ miss, r ∉ rows ∧ ∃ a ∈ rows, ∃ b ∈ rows, agr a b d.L ∧ r = mix n d.R a b) →
    Ch n o book st (rows ++ miss) bec ∧ opens n o (rows ++ miss) ≤ opens n o rows
  | [], rows, h, _, _ => by rw [List.append_nil]; exact ⟨h, Nat.le_refl _⟩
  | r :: miss, rows, h, nd, hm => by
    obtain ⟨hr, a, ha, b, hb, hL, e⟩ := hm r List.mem_cons_self
    obtain ⟨h1, h2⟩ := h.adds ok hd hok hs ha hb hL (by rw [← e]; exact hr)
    rw [← e] at h1 h2
    obtain ⟨n1, n2⟩ := List.nodup_cons.mp nd
    obtain ⟨h3, h4⟩ := Ch.addsL ok hd hok hs miss (rows ++ [r]) h1 n2 fun x hx => by
      obtain ⟨q, a, ha, b, hb, hL, e⟩ := hm x (List.mem_cons_of_mem _ hx)
      refine ⟨fun z => ?_, a, List.mem_append_left _ ha, b, List.mem_append_left _ hb, hL, e⟩
      rcases List.mem_append.mp z with z | z
      · exact q z
      · rw [List.mem_singleton.mp z] at hx; exact n1 hx
    rw [List.append_assoc, List.singleton_append] at h3 h4
    exact ⟨h3, Nat.le_trans h4 h2⟩
theorem meas_adds {n : Nat} {o : Nat → Int} {rows miss : List Row} (h : opens n o (rows ++ miss) ≤ opens n o rows) (h8 : (rows ++ miss).length ≤ 8) (hm : miss ≠ []) : meas n o (rows ++ miss) < meas n o rows := by
  have := List.length_pos_iff.mpr hm
  unfold meas
  rw [List.length_append] at *
  omega
theorem meas_eqs {n : Nat} {o : Nat → Int} {rows rows' : List Row} (h : opens n o rows' < opens n o rows) : meas n o rows' < meas n o rows := by
  unfold meas
  omega
theorem keeps_of_eq {n : Nat} {rows : List Row} {d : Dep} (hs : d.st = true) (h : ∀ a ∈ rows, ∀ b ∈ rows, agr a b d.L → ∀ c ∈ d.R, ¬ cel a c < cel b c) : Keeps n rows d := fun a ha b hb hL => by
  refine ⟨fun _ c hc => ?_, fun z => by rw [hs] at z; cases z⟩
  have h1 := h a ha b hb hL c hc
  have h2 := h b hb a ha (fun c hc => (hL c hc).symm) c hc
  omega
theorem keeps_of_mix {n : Nat} {rows : List Row} {d : Dep} (hs : d.st = false) (h : ∀ a ∈ rows, ∀ b ∈ rows, agr a b d.L → mix n d.R a b ∈ rows) : Keeps n rows d := fun a ha b hb hL =>
  ⟨(fun z => by rw [hs] at z; cases z), fun _ => h a ha b hb hL⟩
theorem ent_full {n : Nat} {book : List Dep} {w : Dep} (hs : w.st = false) (h : ∀ c < n, c ∈ w.R ∨ c ∈ w.L) : Entails n book w := fun T hT _ => by
  refine keeps_of_mix hs fun a ha b hb hL => ?_
  have : mix n w.R a b = a := row_ext (n := n) (mix_len ..) (hT a ha) fun c hc => by
    rw [mix_cel hc]
    by_cases q : c ∈ w.R
    · rw [if_pos q]
    · rw [if_neg q]
      exact (hL c ((h c hc).resolve_left q)).symm
  rw [this]
  exact ha
end Nr
/-! What the law asks, plain. -/
namespace Nr
/-- the columns of a set are of the list -/
theorem subsF_sub : ∀ {cs : List Nat} {acc : List (List Nat)} {p : Nat → Prop}, (∀ s ∈ acc, ∀ c ∈ s, p c) → (∀ c ∈ cs, p c) → ∀ s ∈ cs.foldl stepS acc, ∀ c ∈ s, p c
  | [], acc, p, h1, _, s, hs => h1 s hs
  | c :: cs, acc, p, h1, h2, s, hs => subsF_sub (cs := cs) (acc := stepS acc c) (fun t ht x hx => by
      unfold stepS at ht
      rcases List.mem_append.mp ht with z | z
      · exact h1 t z x hx
      · obtain ⟨u, hu, rfl⟩ := List.mem_map.mp z
        rcases List.mem_append.mp hx with y | y
        · exact h1 u hu x y
        · rw [List.mem_singleton.mp y]; exact h2 c List.mem_cons_self) (fun x hx => h2 x (List.mem_cons_of_mem _ hx)) s hs
theorem subsF_of {cs s : List Nat} (h : s ∈ subsF cs) : ∀ c ∈ s, c ∈ cs := subsF_sub (p := fun c => c ∈ cs) (fun t ht c hc => by rw [List.mem_singleton.mp ht] at hc; cases hc) (fun _ h => h) s h
theorem mem_restL {n c : Nat} {left : List Nat} : c ∈ restL n left ↔ c < n ∧ c ∉ left := by
  unfold restL
  rw [List.mem_filter, List.mem_range]
  simp
theorem nil_sub : ∀ {cs : List Nat} {acc : List (List Nat)} {s : List Nat}, s ∈ acc → s ∈ cs.foldl stepS acc
  | [], _, _, h => h
  | c :: cs, acc, s, h => nil_sub (cs := cs) (List.mem_append_left _ h)
theorem wish_ok {n : Nat} {s : Bool} {left right : List Nat} (h1 : 1 ≤ n) (hl : left ∈ subsF (List.range n)) (hr : right ∈ subsF (restL n left)) : WishOk n ⟨s, left, right⟩ :=
  ⟨⟨fun c hc => List.mem_range.mp (subsF_of hl c hc), fun c hc => (mem_restL.mp (subsF_of hr c hc)).1⟩, fun c hc z => (mem_restL.mp (subsF_of hr c z)).2 hc, h1⟩
theorem full_of {n : Nat} (h1 : 1 ≤ n) (h3 : n ≤ 3) : ∀ left ∈ subsF (List.range n), ∀ right ∈ subsF (restL n left), right ≠ [] → dealOk n left right = false → ∀ c < n, c ∈ right ∨ c ∈ left := by
  have : n = 1 ∨ n = 2 ∨ n = 3 := by omega
  rcases this with rfl | rfl | rfl <;> decide +kernel
theorem mem_wish_st {n c : Nat} {left : List Nat} (hl : left ∈ subsF (List.range n)) (hc : c ∈ restL n left) : (⟨true, left, [c]⟩ : Dep) ∈ wishL n :=
  List.mem_flatMap.mpr ⟨left, hl, List.mem_append_left _ (List.mem_map.mpr ⟨c, hc, rfl⟩)⟩
theorem mem_wish_de {n : Nat} {left right : List Nat} (hl : left ∈ subsF (List.range n)) (hr : right ∈ subsF (restL n left)) (h : dealOk n left right = true) : (⟨false, left, right⟩ : Dep) ∈ wishL n :=
  List.mem_flatMap.mpr ⟨left, hl, List.mem_append_right _ (List.mem_map.mpr ⟨right, List.mem_filter.mpr ⟨hr, h⟩, rfl⟩)⟩
section
variable {n : Nat} {book W : List Dep} {R : List Row}
/-- the table keeps just what follows -/
theorem Tab.iff (t : Tab n book W R) (p : W.Perm (wishL n)) (h1 : 1 ≤ n) (h3 : n ≤ 3) {left right : List Nat} (hl : left ∈ subsF (List.range n)) (hr : right ∈ subsF (restL n left)) (ne : right ≠ []) {s : Bool} (hs : s = true → right.length = 1) :
    Keeps n R ⟨s, left, right⟩ ↔ Entails n book ⟨s, left, right⟩ := by
  refine ⟨fun k => ?_, fun e => e R t.len t.cl⟩
  cases s with
  | true =>
    obtain ⟨c, rfl⟩ : ∃ c, right = [c] := by
      have := hs rfl
      match right, this with
      | [c], _ => exact ⟨c, rfl⟩
    refine Classical.byContradiction fun e => ?_
    exact t.br _ (p.mem_iff.mpr (mem_wish_st hl (subsF_of hr c List.mem_cons_self))) e k
  | false =>
    cases h : dealOk n left right with
    | false => exact ent_full rfl (full_of h1 h3 left hl right hr ne h)
    | true =>
      refine Classical.byContradiction fun e => ?_
      exact t.br _ (p.mem_iff.mpr (mem_wish_de hl hr h)) e k
/-- it is not empty -/
theorem Tab.ne (t : Tab n book W R) (p : W.Perm (wishL n)) (h1 : 1 ≤ n) (hb : ∀ d ∈ book, DepOk n d ∧ d.L ≠ []) : R ≠ [] := by
  intro e
  have wk : WishOk n ⟨true, [], [0]⟩ := ⟨⟨(fun c hc => nomatch hc), fun c hc => by rw [List.mem_singleton.mp hc]; exact h1⟩, (fun c hc => nomatch hc), h1⟩
  have hmem : (⟨true, [], [0]⟩ : Dep) ∈ wishL n := mem_wish_st (nil_sub (List.mem_singleton.mpr rfl)) (mem_restL.mpr ⟨h1, fun z => nomatch z⟩)
  have st : St n ⟨true, [], [0]⟩ [firstR n, partR n [] 1] := by
    refine ⟨List.nodup_cons.mpr ⟨fun z => ?_, List.nodup_cons.mpr ⟨(fun z => nomatch z), List.nodup_nil⟩⟩, fun r => ?_⟩
    · have e := List.mem_singleton.mp z
      have e2 : cel (firstR n) 0 = cel (partR n [] 1) 0 := by rw [e]
      rw [firstR_cel h1, partR_cel h1, if_neg (fun z => nomatch z)] at e2
      omega
    · unfold startL
      rw [if_pos rfl]
  have cl := start_closed hb wk rfl st
  refine t.br _ (p.mem_iff.mpr hmem) (fun en => ?_) (by rw [e]; exact fun a ha => nomatch ha)
  have k := en [firstR n, partR n [] 1] (fun r hr => startL_len (w := ⟨true, [], [0]⟩) ((st.mem r).mp hr)) cl
  have := (k (firstR n) List.mem_cons_self (partR n [] 1) (List.mem_cons_of_mem _ List.mem_cons_self) fun c hc => nomatch hc).1 rfl 0 List.mem_cons_self
  rw [firstR_cel h1, partR_cel h1, if_neg (fun z => nomatch z)] at this
  omega
end
end Nr
/-! The law's defs: is_integer, known_rows; rules for lists of rows. -/
namespace Nr
open PySem PySem.Spec L2
open PyProof.Rows hiding St

/-! ### rows and lists of rows as data for ==, in -/
def isFl : D → Bool
  | .non => true
  | .int _ => true
  | _ => false
theorem lay_fl : ∀ ds : List D, (∀ d ∈ ds, isFl d = true) → PyData.canLayAll0 (toPyL ds) = true ∧ PyData.depthAll (toPyL ds) ≤ 1 ∧ noBL ds = true
  | [], _ => ⟨rfl, by simp [toPyL, PyData.depthAll], rfl⟩
  | d :: ds, h => by
    obtain ⟨h1, h2, h3⟩ := lay_fl ds fun x hx => h x (List.mem_cons_of_mem _ hx)
    have hd := h d List.mem_cons_self
    cases d with
    | non => exact ⟨by rw [toPyL, PyData.canLayAll0, h1]; rfl, by simp [toPyL, PyData.depthAll, toPy, PyData.depth]; exact h2, by rw [noBL, h3]; rfl⟩
    | int i => exact ⟨by rw [toPyL, PyData.canLayAll0, h1]; rfl, by simp [toPyL, PyData.depthAll, toPy, PyData.depth]; exact h2, by rw [noBL, h3]; rfl⟩
    | bl b => exact absurd hd Bool.false_ne_true
    | str b => exact absurd hd Bool.false_ne_true
    | tup b => exact absurd hd Bool.false_ne_true
def RowD (d : D) : Prop := ∃ ds : List D, d = .tup ds ∧ ∀ x ∈ ds, isFl x = true
theorem RowD.lay {d : D} (h : RowD d) : PyData.canLay0 (toPy d) = true ∧ PyData.depth (toPy d) ≤ 2 ∧ noB d = true := by
  obtain ⟨ds, rfl, hd⟩ := h
  obtain ⟨h1, h2, h3⟩ := lay_fl ds hd
  refine ⟨?_, ?_, ?_⟩
  · rw [toPy, PyData.canLay0]; exact h1
  · rw [toPy, PyData.depth]; omega
  · rw [noB]; exact h3
theorem lay_rows : ∀ ds : List D, (∀ d ∈ ds, RowD d) → PyData.canLayAll0 (toPyL ds) = true ∧ PyData.depthAll (toPyL ds) ≤ 2 ∧ noBL ds = true
  | [], _ => ⟨rfl, by simp [toPyL, PyData.depthAll], rfl⟩
  | d :: ds, h => by
    obtain ⟨h1, h2, h3⟩ := lay_rows ds fun x hx => h x (List.mem_cons_of_mem _ hx)
    obtain ⟨g1, g2, g3⟩ := (h d List.mem_cons_self).lay
    refine ⟨?_, ?_, ?_⟩
    · rw [toPyL, PyData.canLayAll0, h1, g1]; rfl
    · rw [toPyL, PyData.depthAll]; omega
    · rw [noBL, h3, g3]; rfl
theorem RowD.sh {d : D} (h : RowD d) : Sh d := by
  obtain ⟨g1, g2, g3⟩ := h.lay
  unfold Sh SeqAt.shaped
  rw [Bool.and_eq_true]
  exact ⟨g1, decide_eq_true (by omega)⟩
def ShL (ds : List D) : Prop := SeqAt.shaped (.list (toPyL ds)) = true
theorem shL_rows {ds : List D} (h : ∀ d ∈ ds, RowD d) : ShL ds := by
  obtain ⟨g1, g2, g3⟩ := lay_rows ds h
  unfold ShL SeqAt.shaped
  rw [Bool.and_eq_true]
  refine ⟨?_, decide_eq_true ?_⟩
  · rw [PyData.canLay0]; exact g1
  · rw [PyData.depth]; omega
theorem rowD_ints (r : Row) : RowD (.ints r) := ⟨_, rfl, fun x hx => by
  obtain ⟨i, _, rfl⟩ := List.mem_map.mp hx
  rfl⟩
theorem rowD_all (rows : List Row) : ∀ d ∈ rows.map D.ints, RowD d := fun d hd => by
  obtain ⟨r, _, rfl⟩ := List.mem_map.mp hd
  exact rowD_ints r
theorem any_py {d : D} (hd : noB d = true) : ∀ {ds : List D}, noBL ds = true → (((toPyL ds).any fun z => PyData.eqv z (toPy d)) = true ↔ d ∈ ds)
  | [], _ => by simp [toPyL]
  | e :: ds, h => by
    have h' : noB e = true ∧ noBL ds = true := by simpa [noBL] using h
    rw [toPyL, List.any_cons, Bool.or_eq_true, any_py hd h'.2, eqv_toPy e d h'.1 hd, List.mem_cons]
    exact ⟨fun z => z.imp Eq.symm id, fun z => z.imp Eq.symm id⟩
section
variable {X : Cx} {e a b : Expr} {σ : L2.St} {H : Hp} {d d1 d2 : D} {ds xs ys : List D} {p pos pT : Pos}
theorem et_neLL {t : Bool} (hu : X.A.units + 64 < cLine) (ha : LV X a σ H xs) (hb : LV X b σ H ys) (s1 : ∀ d ∈ xs, RowD d) (s2 : ∀ d ∈ ys, RowD d) (ht : t = true ↔ xs = ys) (hm : behindInMarks .NotEq b = false := by first | exact nobehind _ (by decide) (by decide) | rfl) : ET X (.Compare a [.NotEq] [b] pos) σ H (!t) := fun H1 s => by
  refine wt (pt_cmpR (op_neD hu) pe_w pe_w hm) ?_
  refine (ha H1 s).mono fun x H2 ⟨s2', l1, v1, e1, h1, r1⟩ => ?_
  refine (hb H2 (s.trans s2')).mono fun y H3 ⟨s3, l2, v2, e2, h2, r2⟩ => ?_
  refine ⟨_, _, by rw [e1]; exact .lst (SqL.of (s3 _ _ h1)) (dpAll_rep (r1.mono s3)), by rw [e2]; exact .lst (SqL.of h2) (dpAll_rep r2), shL_rows s1, shL_rows s2, _, rfl, ?_, s2'.trans s3⟩
  have e : PyData.eqv (.list (toPyL xs)) (.list (toPyL ys)) = t := by
    rw [Bool.eq_iff_iff, ht]
    have := eqvL_toPy xs ys (lay_rows xs s1).2.2 (lay_rows ys s2).2.2
    simpa [PyData.eqv] using this
  rw [e]
theorem et_ninLL {t : Bool} (hu : X.A.units + 65 < cLine) (ha : EV X a σ H d) (hb : LV X b σ H ds) (s1 : RowD d) (s2 : ∀ d ∈ ds, RowD d) (ht : t = true ↔ d ∈ ds) (hm : behindInMarks .NotIn b = false := by rfl) : ET X (.Compare a [.NotIn] [b] pos) σ H (!t) := fun H1 s => by
  refine wt (pt_cmpR (op_notInD hu) pe_w pe_w hm) ?_
  refine (ha H1 s).mono fun x H2 ⟨s2', r1⟩ => ?_
  refine (hb H2 (s.trans s2')).mono fun y H3 ⟨s3, l2, v2, e2, h2, r2⟩ => ?_
  refine ⟨_, _, dp_rep (r1.mono s3), by rw [e2]; exact .lst (SqL.of h2) (dpAll_rep r2), s1.sh, shL_rows s2, _, rfl, ?_, s2'.trans s3⟩
  have e : ((toPyL ds).any fun z => PyData.eqv z (toPy d)) = t := by
    rw [Bool.eq_iff_iff, ht]
    exact any_py s1.lay.2.2 (lay_rows ds s2).2.2
  rw [e]
theorem ev_inLL {t : Bool} (hu : X.A.units + 65 < cLine) (ha : EV X a σ H d) (hb : LV X b σ H ds) (s1 : RowD d) (s2 : ∀ d ∈ ds, RowD d) (ht : t = true ↔ d ∈ ds) (hm : behindInMarks .In b = false := by rfl) : EV X (.Compare a [.In] [b] pos) σ H (.bl t) := fun H1 s => by
  refine we (pe_cmpR (op_inD hu) pe_w pe_w hm) ?_
  refine (ha H1 s).mono fun x H2 ⟨s2', r1⟩ => ?_
  refine (hb H2 (s.trans s2')).mono fun y H3 ⟨s3, l2, v2, e2, h2, r2⟩ => ?_
  refine ⟨_, _, dp_rep (r1.mono s3), by rw [e2]; exact .lst (SqL.of h2) (dpAll_rep r2), s1.sh, shL_rows s2, s2'.trans s3, ?_⟩
  have e : ((toPyL ds).any fun z => PyData.eqv z (toPy d)) = t := by
    rw [Bool.eq_iff_iff, ht]
    exact any_py s1.lay.2.2 (lay_rows ds s2).2.2
  rw [e]
  rfl
/-! ### isinstance -/
def tyD : D → String
  | .non => "NoneType"
  | .bl _ => "bool"
  | .int _ => "int"
  | .str _ => "str"
  | .tup _ => "tuple"
theorem tyX_rep {K : PySem.W.Frag} {v : V} (r : Rep H d v) : TyX K H v (.type (tyD d)) := by
  cases d with
  | non => rw [show v = V.non from r]; exact .base .non
  | bl b => rw [show v = V.bl b from r]; exact .base (.bl b)
  | int b => rw [show v = V.int b from r]; exact .base (.int b)
  | str b => rw [show v = V.str b from r]; exact .base (.str b)
  | tup ds =>
    obtain ⟨q, vs, e, e1, _⟩ := r
    rw [e]
    exact .base (.tup e1)
theorem ev_isi {T : Str} {T' : String} {t : Bool} (T0 : String) (ha : EV X a σ H d) (hm : X.mg "isinstance" = none) (hmT : X.mg T = none) (hk : kitB T0 T' = some t) (hv : bootBuiltins T = some (.type T')) (hg : Gl X "isinstance" := by rfl) (hgT : Gl X T := by rfl) (h0 : tyD d = T0 := by rfl) (hn : T ≠ "__name__" := by decide) (hd : (T == ("__debug__" : Str)) = false := by decide)
    (he : starEach (a :: [.Name T pT]) X.env = (false, eval a X.env) :: starEach [.Name T pT] X.env := by rfl) : EV X (.Call (.Name "isinstance" p) [a, .Name T pT] [] pos) σ H (.bl t) := fun H1 s => by
  refine we (pe_callB call_isi hg hm PyProof.Rows.boot_isinstance (pa_cons pe_w (pa_cons (pe_bltn (v := .ty T') hgT hmT hv rfl hn hd) pa_nil) he) (by decide) (by decide) he rfl) ?_
  refine (ha H1 s).mono fun v H2 ⟨s2, r⟩ => ?_
  exact ⟨v, .ty T', _, _, t, rfl, .ty T', tyX_rep r, kit_ty (by rw [h0]; exact hk), s2, rfl⟩
theorem ev_andB {t u : Bool} (h1 : EV X a σ H (.bl t)) (h2 : t = true → EV X b σ H (.bl u)) : EV X (.BoolOp .And [a, b] pos) σ H (.bl (t && u)) := fun H1 s => by
  refine we (pe_and pe_w (pe_one pe_w)) ((h1 H1 s).mono fun v H2 ⟨s2, r⟩ => ⟨t, r, ?_⟩)
  cases t with
  | false => exact ⟨s2, rfl⟩
  | true => exact ((h2 rfl) H2 (s.trans s2)).mono fun c' H3 ⟨s3, e'⟩ => ⟨s2.trans s3, e'⟩
theorem ev_orB {t u : Bool} (h1 : EV X a σ H (.bl t)) (h2 : t = false → EV X b σ H (.bl u)) : EV X (.BoolOp .Or [a, b] pos) σ H (.bl (t || u)) := fun H1 s => by
  refine we (pe_or pe_w (pe_one pe_w)) ((h1 H1 s).mono fun v H2 ⟨s2, r⟩ => ⟨t, r, ?_⟩)
  cases t with
  | true => exact ⟨s2, rfl⟩
  | false => exact ((h2 rfl) H2 (s.trans s2)).mono fun c' H3 ⟨s3, e'⟩ => ⟨s2.trans s3, e'⟩
theorem ev_notB {t : Bool} (h1 : EV X a σ H (.bl t)) : EV X (.UnaryOp .Not a pos) σ H (.bl (!t)) := fun H1 s => by
  refine we (pe_not pe_w) ((h1 H1 s).mono fun v H2 ⟨s2, r⟩ => ⟨t, r, s2, rfl⟩)
end
section
variable {P : Program} {w : World} {K : PySem.W.Frag} {mg : Str → Option Value} {base : Heap} {f C : Addr} {fd : FuncData}
/-- _law_is_integer(value) -/
def rIsInt (ds : List D) (d : D) : Prop := ∃ i : Int, ds = [.int i] ∧ d = .bl true
theorem scIsInt : FnScope ["_law_value"] ["_law_value"] (defScope sLawIsInteger) := ⟨rfl, rfl, rfl, by decide +kernel, rfl, by decide +kernel, by decide +kernel⟩
theorem ok_isInt (F : FnP K "_law_is_integer" "_law_is_integer" sLawIsInteger f fd) (B : Bi mg) : FnOk P w K mg base CX0 1 f fd ["_law_value"] (spR 1 rIsInt) := by
  refine okR F scIsInt fun cdv A outer s H vs ds d E D hr rl hrd hq => ?_
  obtain ⟨i, rfl, rfl⟩ := hrd
  obtain ⟨v1, _, rfl, r1, hnil⟩ := rl
  obtain rfl := hnil
  refine wone (ws_retV (EV.to (ev_andB (t := true) (u := true) (ev_isi (T' := "int") "int" (ev_name 0 rfl r1) B.isi B.int (by decide +kernel) (by decide +kernel)) fun _ => EV.to (ev_notB (t := false) (ev_isi (T' := "bool") "int" (ev_name 0 rfl r1) B.isi B.bool (by decide +kernel) (by decide +kernel))) rfl) rfl) hq)
/-- _law_known_rows(rows, width) -/
def rKnownRows (ds : List D) (d : D) : Prop := ∃ (n : Nat) (R : List Row), ds = [.tup ((sortR R).map D.ints), .int (n : Int)] ∧ R.Nodup ∧ (∀ r ∈ R, r.length = n ∧ ∀ v ∈ r, 0 ≤ v) ∧ 1 ≤ n ∧ n ≤ 1000 ∧ R.length < 64 ∧ d = .bl true
abbrev nKnownRows : List Str := ["_law_rows", "_law_width", "_law_row", "_law_value"]
theorem scKnownRows : FnScope nKnownRows ["_law_rows", "_law_width"] (defScope sLawKnownRows) := ⟨rfl, rfl, rfl, by decide +kernel, rfl, by decide +kernel, by decide +kernel⟩
theorem ok_knownRows (F : FnP K "_law_known_rows" "_law_known_rows" sLawKnownRows f fd) (B : Bi mg) (G : Ok P w K mg base 1 "_law_is_integer" (spR 1 rIsInt)) : FnOk P w K mg base CX0 2 f fd ["_law_rows", "_law_width"] (spR 2 rKnownRows) := by
  refine okR F scKnownRows fun cdv A outer s H vs ds d E DE hr rl hrd hq => ?_
  obtain ⟨n, R, rfl, hnd, hR, h1, hn, h64, rfl⟩ := hrd
  obtain ⟨v1, _, rfl, r1, v2, _, rfl, r2, hnil⟩ := rl
  obtain rfl := hnil
  have nd := scKnownRows.nd
  have pS := sortR_perm R
  have hS : ∀ r ∈ sortR R, r.length = n ∧ ∀ v ∈ r, 0 ≤ v := fun r hr => hR r (pS.mem_iff.mp hr)
  have hlS : (sortR R).length < 64 := by rw [pS.length_eq]; exact h64
  have eS : sortR (dedupF (sortR R)) = sortR R := by
    refine sortR_of_perm ?_
    have q : (sortR R).Nodup := pS.nodup_iff.mpr hnd
    exact ((perm_dedup q fun r => Iff.rfl).symm.trans pS)
  refine wcons ?_
  refine ws_ifB false ?_ (fun e => by cases e) fun _ H1 s1 => wnil ?_
  · refine ET.to (et_or (t := false) (u := false) (ET.to (et_not (et_val (ev_isi (T' := "tuple") (t := true) "tuple" (ev_name 0 rfl r1) B.isi B.tuple (by decide +kernel) (by decide +kernel)))) rfl) fun _ => ET.to (et_neLL (t := true) hr.units (EL.lv (el_listT (ev_name 0 rfl r1) rfl B.list)) (EL.lv (el_sortedset (rows := sortR R) rfl hr.units (fun H1 s1 => ?_) hlS (fun r hr e => ?_) rfl B.set rfl B.sorted)) (rowD_all _) (rowD_all _) ?_) rfl) rfl
    · exact ((ev_name 0 rfl r1) H1 s1).mono fun v H2 ⟨s2, q, vs, e, h2, r2⟩ => ⟨s2, q, vs, e, .inr h2, r2⟩
    · have := (hS r hr).1
      rw [e] at this
      have : (0 : Nat) = n := this
      omega
    · rw [eS]
      exact ⟨fun _ => rfl, fun _ => rfl⟩
  · refine wcons ?_
    refine ws_for PassesOwn.never rfl (pgn 2 nd) ?_
    refine WI.mono (wi_tup (ev_name 0 rfl (r1.mono s1))) ?_
    rintro J H2 ⟨s2, rJ⟩
    have s12 := s1.trans s2
    refine forW rJ (fun j σ' H' => ∃ o2 o3, σ' = [some v1, some v2, o2, o3] ∧ Same H2 H') ⟨none, none, rfl, Same.refl _⟩ ?_ ?_ ?_
    · rintro j σ' H' _ ⟨_, _, _, t⟩
      exact Same.tm t
    · rintro j d σ' H3 hd ⟨o2, o3, rfl, s3⟩ x H4 s4 rx
      obtain ⟨r, hrj, rfl⟩ := List.mem_map.mp (List.mem_of_getElem? hd)
      obtain ⟨hl, hnn⟩ := hS r hrj
      have s24 := s3.trans s4
      refine wcons ?_
      refine ws_ifB false ?_ (fun e => by cases e) fun _ H5 s5 => wnil ?_
      · refine ET.to (et_or (t := false) (u := false) (ET.to (et_not (et_val (ev_isi (T' := "tuple") (t := true) "tuple" (ev_name 2 rfl rx) B.isi B.tuple (by decide +kernel) (by decide +kernel)))) rfl) fun _ => ET.to (et_neI (i := (n : Int)) (j := (n : Int)) (EV.to (ev_lenT (ev_name 2 rfl rx) rfl B.len) (by rw [List.length_map, hl])) (ev_name 1 rfl ((r2.mono s12).mono s24))) (by simp)) rfl
      · refine wone ?_
        refine ws_for PassesOwn.never rfl (pgn 3 nd) ?_
        refine WI.mono (wi_tup (ev_name 2 rfl (rx.mono s5))) ?_
        rintro J6 H6 ⟨s6, rJ6⟩
        refine forW rJ6 (fun j σ' H' => ∃ o3, σ' = [some v1, some v2, some x, o3] ∧ Same H6 H') ⟨o3, rfl, Same.refl _⟩ ?_ ?_ ?_
        · rintro j σ' H' _ ⟨_, _, t⟩
          exact Same.tm t
        · rintro j d σ' H7 hd ⟨o3, rfl, s7⟩ y H8 s8 ry
          obtain ⟨i, hi, rfl⟩ := List.mem_map.mp (List.mem_of_getElem? hd)
          have hi0 := hnn i hi
          refine wone ?_
          refine ws_ifB false ?_ (fun e => by cases e) fun _ H9 s9 => wnil ?_
          · refine ET.to (et_or (t := false) (u := false) (ET.to (et_not (et_val (ev_call G hr rfl (ea_cons (ev_name 3 rfl ry) ea_nil) rfl ⟨i, rfl, rfl⟩))) rfl) fun _ => ET.to (et_lt (i := i) (j := 0) (ev_name 3 rfl ry) ev_int) (decide_eq_false (by omega))) rfl
          · exact ⟨_, rfl, (s7.trans s8).trans s9⟩
        · rintro σ' H7 ⟨o3, rfl, s7⟩
          exact ⟨_, _, rfl, ((s24.trans s5).trans s6).trans s7⟩
    · rintro σ' H3 ⟨o2, o3, rfl, s3⟩
      exact wone (ws_retV ev_bl fun v H4 s4 r4 => hq v H4 ((s12.trans s3).trans s4) r4)
end
end Nr
/-! The law's defs: sets. -/
namespace Nr
open PySem PySem.Spec L2
open PyProof.Rows hiding St

/-- a set's length, the set -/
def lenD (d : D) : D := .tup [.int ((match d with | .tup ds => ds.length | _ => 0 : Nat) : Int), d]
def sndD (d : D) : D := match d with
  | .tup [_, x] => x
  | _ => .non
theorem lenD_key (d : D) : toPy (lenD d) = keyS d := by
  unfold lenD keyS
  rfl
theorem sortOk_len {ss : List (List Int)} (h : ss.length ≤ 1000) : SortOk ((ss.map D.ints).map lenD) := by
  obtain ⟨h1, h2, h3⟩ := sortOk_keys (ss := ss)
  have e : ((ss.map D.ints).map lenD).map toPy = (ss.map D.ints).map keyS := by
    rw [List.map_map]
    exact List.map_congr_left fun d _ => lenD_key d
  refine ⟨by rw [e]; exact h1, by rw [e]; exact h2, fun d hd => ?_, by rw [List.length_map, List.length_map]; omega⟩
  have : toPy d ∈ (ss.map D.ints).map keyS := by rw [← e]; exact List.mem_map_of_mem hd
  have := h3 _ this
  omega
theorem sets_len {m : Nat} : ∀ (cs : List Nat) (acc : List (List Nat)) (m : Nat), (∀ s ∈ acc, s.length ≤ m) → ∀ s ∈ cs.foldl stepS acc, s.length ≤ m + cs.length := fun cs => by
  induction cs with
  | nil => intro acc m h s hs; exact h s hs
  | cons c cs ih =>
    intro acc m h s hs
    have := ih (stepS acc c) (m + 1) (fun t ht => by
      unfold stepS at ht
      rcases List.mem_append.mp ht with z | z
      · exact Nat.le_succ_of_le (h t z)
      · obtain ⟨u, hu, rfl⟩ := List.mem_map.mp z
        rw [List.length_append]
        exact Nat.succ_le_succ (h u hu)) s hs
    rw [List.length_cons]
    omega
section
variable {P : Program} {w : World} {K : PySem.W.Frag} {mg : Str → Option Value} {base : Heap} {f C : Addr} {fd : FuncData}
/-- _law_sets(columns) -/
def spLawSets : Sp := fun vs H Q _ => ∃ v cs, vs = [v] ∧ Rep H (natsT cs) v ∧ cs.length ≤ 3 ∧ ∀ l xs (ss : List (List Nat)) H', Same H H' → H l = none → H' l = some (.lst xs) → RepL H' (ss.map natsT) xs → ss.Perm (subsF cs) → Q (.ref l) H'
abbrev nLawSets : List Str := ["_law_columns", "_law_found", "_law_column", "_law_keyed", "_law_one", "_law_key"]
theorem scLawSets : FnScope nLawSets ["_law_columns"] (defScope sLawSets) := ⟨rfl, rfl, rfl, by decide +kernel, rfl, by decide +kernel, by decide +kernel⟩
theorem ok_lawSets (F : FnP K "_law_sets" "_law_sets" sLawSets f fd) (B : Bi mg) : FnOk P w K mg base CX0 1 f fd ["_law_columns"] spLawSets := by
  refine fnOk F scLawSets (fun vs H Q E h => ?_) fun cdv A outer s H vs Q E hr h => ?_
  · obtain ⟨v, cs, rfl, _⟩ := h
    rfl
  obtain ⟨v, cs, rfl, rc, hl3, hq⟩ := h
  have nd := scLawSets.nd
  refine wcons ?_
  refine ws_set 1 nd (we_el (el_lst (ea_cons (ev_tup ea_nil (by show 0 ≤ sizeLine; decide)) ea_nil) (by show 1 ≤ sizeLine; decide)) fun l0 vs0 H1 hl0 s1 h1' r1 => ?_)
  refine wcons ?_
  refine ws_for PassesOwn.never rfl (pgn 2 nd) ?_
  refine WI.mono (wi_tup (ev_name 0 rfl (rc.mono s1))) ?_
  rintro J H2 ⟨s2, rJ⟩
  refine forW rJ (fun j σ' H' => ∃ o2 l xs, ∃ ss : List (List Nat), σ' = [some v, some (.ref l), o2, none, none, none] ∧ Same H2 H' ∧ H l = none ∧ H' l = some (.lst xs) ∧ RepL H' (ss.map natsT) xs ∧ ss = (cs.take j).foldl stepS [[]])
    ⟨none, l0, vs0, [[]], rfl, Same.refl _, hl0, s2 _ _ h1', r1.mono s2, rfl⟩ ?_ ?_ ?_
  · rintro j σ' H' _ ⟨o2, l, xs, ss, _, s', _⟩
    exact Same.tm s'
  · rintro j d σ' H3 hd ⟨o2, l, xs, ss, rfl, g1, g2, g3, g4, g5⟩ x H4 s4 rx
    rw [List.getElem?_map] at hd
    obtain ⟨c, hcj, rfl⟩ : ∃ c, cs[j]? = some c ∧ D.int ((c : Nat) : Int) = d := by
      cases h : cs[j]? with
      | none => rw [h] at hd; cases hd
      | some r => rw [h] at hd; exact ⟨r, rfl, Option.some.inj hd⟩
    obtain rfl := (show x = V.int ((c : Nat) : Int) from rx)
    have hjl : j < cs.length := (List.getElem?_eq_some_iff.mp hcj).1
    have tk : (cs.take (j + 1)).foldl stepS [[]] = stepS ss c := by
      rw [List.take_add_one, hcj, List.foldl_append, ← g5]
      rfl
    have ssl : ss.length ≤ 8 := by
      rw [g5, foldS_len, List.length_singleton, Nat.one_mul]
      refine Nat.le_trans (Nat.pow_le_pow_right (by decide) (show (cs.take j).length ≤ 3 from ?_)) (by decide)
      rw [List.length_take]
      omega
    refine wone (ws_set 1 nd (we_el (ds := (stepS ss c).map natsT) (EL.to (el_cat (lv_name 1 rfl (s4 _ _ g3) (g4.mono s4)) (EL.lv (ELS.el (el_map (ds := ss.map natsT) 4 (fun d => match d with | .tup ds => .tup (ds ++ [.int (c : Int)]) | _ => .non) rfl nd (blkOk_by (N := nLawSets) (sc := defScope sLawSets) (by decide +kernel)) ?_ (fun b => pgn 4 nd) ?_ ?_))) ?_) ?_) fun l5 xs5 H5 hl5 s5 h5' r5 => ?_))
    · exact src_lv (lv_name 1 rfl (s4 _ _ g3) (g4.mono s4))
    · rw [List.length_map, sizeLine_eq]; omega
    · intro d hd v5 H5 s5 rv5 b
      obtain ⟨k, hk, rfl⟩ := List.mem_map.mp hd
      have hkl : k.length ≤ 1000 := by
        rw [g5] at hk
        have := sets_len (m := 0) (cs.take j) [[]] 0 (fun s hs => by rw [List.mem_singleton.mp hs]; exact Nat.le_refl _) k hk
        rw [List.length_take] at this
        omega
      refine ev_catT (ev_name 4 rfl rv5) (ev_tup (ea_cons (ev_name 2 rfl rep_int) ea_nil) (by show 1 ≤ sizeLine; decide)) ?_
      rw [List.length_map, sizeLine_eq]
      show k.length + 1 ≤ _
      omega
    · rw [List.length_map, List.length_map, List.length_map, sizeLine_eq]; omega
    · rw [stepS, List.map_append, List.map_map, List.map_map]
      congr 1
      refine List.map_congr_left fun s _ => ?_
      show D.tup (s.map (fun (c : Nat) => D.int (c : Int)) ++ [.int (c : Int)]) = natsT (s ++ [c])
      unfold natsT
      rw [List.map_append]
      rfl
    · have s05 : Same H H4 := ((s1.trans s2).trans g1).trans s4
      exact ⟨_, l5, xs5, _, rfl, (g1.trans s4).trans s5, Same.free s05 hl5, h5', r5, tk.symm⟩
  · rintro σ' H3 ⟨o2, l, xs, ss, rfl, g1, g2, g3, g4, g5⟩
    rw [List.length_map, List.take_length] at g5
    have ssl : ss.length ≤ 8 := by
      rw [g5, foldS_len, List.length_singleton, Nat.one_mul]
      exact Nat.le_trans (Nat.pow_le_pow_right (by decide) hl3) (by decide)
    have ess : ss.map natsT = (ss.map fun s => s.map fun (c : Nat) => (c : Int)).map D.ints := by
      rw [List.map_map]
      exact List.map_congr_left fun s _ => natsT_eq s
    have s03 : Same H H3 := (s1.trans s2).trans g1
    refine wcons ?_
    refine ws_set 3 nd (we_el (el_sortedLst (ds := (ss.map natsT).map lenD) (EL.lv (ELS.el (el_map (ds := ss.map natsT) 4 lenD rfl nd (blkOk_by (N := nLawSets) (sc := defScope sLawSets) (by decide +kernel)) ?_ (fun b => pgn 4 nd) ?_ ?_))) ?_ hr.units rfl B.sorted) fun kl kxs H4 hkl s4 h4' r4 => ?_)
    · exact src_lv (lv_name 1 rfl g3 g4)
    · rw [List.length_map, sizeLine_eq]; omega
    · intro d hd v5 H5 s5 rv5 b
      obtain ⟨k, hk, rfl⟩ := List.mem_map.mp hd
      exact ev_tup (ea_cons (ev_lenT (ev_name 4 rfl rv5) rfl B.len) (ea_cons (ev_name 4 rfl rv5) ea_nil)) (by show 2 ≤ sizeLine; decide)
    · rw [ess]
      exact sortOk_len (by rw [List.length_map]; omega)
    have pm : (sortD ((ss.map natsT).map lenD)).Perm ((ss.map natsT).map lenD) := List.mergeSort_perm _ _
    refine wone (ws_ret (we_el (ELS.el (el_map (ds := sortD ((ss.map natsT).map lenD)) 5 sndD rfl nd (blkOk_by (N := nLawSets) (sc := defScope sLawSets) (by decide +kernel)) ?_ (fun b => pgn 5 nd) ?_ ?_)) fun l5 xs5 H5 hl5 s5 h5' r5 => ?_))
    · exact src_lv (lv_name 3 rfl h4' r4)
    · rw [pm.length_eq, List.length_map, List.length_map, sizeLine_eq]; omega
    · intro d hd v5 H5 s5 rv5 b
      obtain ⟨k, hk, rfl⟩ := List.mem_map.mp (pm.mem_iff.mp hd)
      exact ev_ixT (i := 1) (ev_name 5 rfl rv5) ev_int rfl (fun _ _ => rfl)
    · have e2 : ((ss.map natsT).map lenD).map sndD = ss.map natsT := by
        rw [List.map_map]
        exact (List.map_congr_left (g := id) fun d _ => rfl).trans (List.map_id _)
      have pm2 := pm.map sndD
      rw [e2] at pm2
      obtain ⟨ss', e', p'⟩ := perm_nats pm2
      rw [e'] at r5
      have s04 := s03.trans s4
      refine hq l5 xs5 ss' H5 (s04.trans s5) (Same.free s04 hl5) h5' r5 ?_
      rw [← show ss = subsF cs from g5]
      exact p'
end
end Nr
/-! list(d.values()). -/
namespace Nr
open PySem PySem.Spec L2
open PyProof.Rows hiding St

theorem vals_of : ∀ {xs : List V} {us : List Value}, us.length = xs.length → (∀ (i : Nat) (v : V), xs[i]? = some v → ∃ u, us[i]? = some u ∧ RelV v u) → Vals xs us
  | [], [], _, _ => .nil
  | [], _ :: _, h, _ => nomatch h
  | _ :: _, [], h, _ => nomatch h
  | x :: xs, u :: us, h, k => by
    obtain ⟨u', e, r⟩ := k 0 x rfl
    cases Option.some.inj e
    exact .cons r (vals_of (Nat.succ.inj h) fun i v hv => k (i + 1) v hv)
/-- a view of a dict's values -/
def VwO (r d : Addr) : HO := .ext (fun h => h.IsValuesView r d)
section
variable {P : Program} {w : World} {H : Hp} {h : Heap} {r d : Addr}
theorem vw_ok (x : h.IsValuesView r d) : ObjOk P w H h r (VwO r d) := by
  refine ⟨x, ?_, fun h1 h2 y k => ?_⟩
  · obtain ⟨o, e, _⟩ := x
    exact ⟨o, e⟩
  · obtain ⟨o, e, q⟩ := y
    exact ⟨o, k o e, q⟩
end
section
variable {X : Cx} {pins : List (Addr × Obj)} {σ : L2.St} {H : Hp} {s : Shared} {d : Addr} {xs : XS}
theorem do_raw (I : Inv X pins σ H s) (x : IsD X H d xs) : (d == sysModules) = false ∧ xs.length ≤ sizeLine ∧ ∃ (es : Array DictEntry) (ep : Nat), s.heap.DictRaw d es ep ∧ es.size = xs.length ∧
    ∀ (i : Nat) (p : LK × Addr × V), xs[i]? = some p → ∃ en u, es[i]? = some en ∧ en.val = u ∧ RelV p.2.2 u := by
  obtain ⟨⟨z, y, ys, o, es, ep, r, e1, e2, e3, e4, e5⟩, _⟩ := (show ObjOk X.prog X.w H s.heap d (DO X.prog X.w d xs) from I.hok d _ x.ob)
  refine ⟨y, z, es, ep, ⟨o, e1, e2, e3⟩, by rw [size_of_entries e4, Paired.length r], fun i p hp => ?_⟩
  obtain ⟨q, hq, e6, e7, e8⟩ := paired_get r hp
  have q1 := entry_at e4 i
  rw [hq] at q1
  exact ⟨_, q.2.2, q1, rfl, e8⟩
/-- d.values() as an object -/
theorem we_vals {e : Expr} {apos cpos : Pos} {Q : VK} (he : NV X e σ (.ref d)) (hd : IsD X H d xs) (k : ∀ r, H r = none → Q (.ref r) (upd H r (VwO r d)))
    (hbase : attributeBase e "values" X.env (eval e X.env) = eval e X.env := by rfl) (hline : (apos.endLine == cpos.line) = true := by rfl) : WE X (.Call (.Attribute e "values" apos) [] [] cpos) σ H Q := fun pins s I => by
  refine wpAny_Call_method (T := "dict") (id := "dict.values") hbase rfl hline F.plainAttrs_dict F.slot_dict_values F.type_dict_values (thn ((he.use (Q := fun v H1 => v = .ref d ∧ H1 = H) ⟨rfl, rfl⟩) pins s I) fun u s1 ⟨x, H1, I1, rx, ex, eH⟩ => ?_)
  subst ex
  subst eH
  obtain rfl : u = Value.ref d := rx
  obtain ⟨hs, hz, es, ep, hr, hsz, ent⟩ := do_raw I1 hd
  refine ⟨hr.typeIs, (fun a e => by obtain ⟨o, e1, e2, _⟩ := hr; cases e; exact ⟨o, e1, e2.2.1⟩), ?_⟩
  have I2 : Inv X pins σ (upd H1 s1.heap.objs.size (VwO s1.heap.objs.size d)) { s1 with heap := s1.heap.push { cls := .type "dict_values", data := .fields #[.ref d] } } :=
    I1.laid (t' := s1.toks) (fun _ _ q => Heap.get?_push_of_some _ q) (Nat.le_refl _) (vw_ok ⟨_, Heap.get?_push_size _ rfl, rfl, rfl⟩)
  have fin : EP X pins σ Q (.ref s1.heap.objs.size) { s1 with heap := s1.heap.push { cls := .type "dict_values", data := .fields #[.ref d] } } := ⟨.ref s1.heap.objs.size, _, I2, rfl, k _ (I1.hok.fresh (Nat.le_refl _))⟩
  show wpAny _ _ (callWith cpos (.builtin "dict.values") [.ref d] [] []) _ X.xe s1
  exact method_meetsIn F.slot_dict_values F.entry_dict_values rfl (PySem.evalArgs_none ⟨rfl, hr.typeIs, F.args_dict_values_1 _, _, meets_dict_values_raw d hs, ⟨⟨es, ep, hr⟩, fin⟩⟩)
/-- list(that) -/
def rListV (X : Cx) : List V → Hp → VK → Prop := fun vs H Q => ∃ r d xs, vs = [.ref r] ∧ H r = some (VwO r d) ∧ IsD X H d xs ∧ ∀ l, H l = none → Q (.ref l) (upd H l (.lst (xs.map (·.2.2))))
theorem cr_listV (hc : X.calm = true) : CallR X (.type "list") (rListV X) := by
  intro pins s σ H vs us Q I rv h
  obtain ⟨r, d, xs, rfl, hr, D, q⟩ := h
  obtain ⟨u, rfl, ru⟩ := Vals.one rv
  cases ru
  have hh : X.A.handled = none := by simpa using I.ok.hd hc
  obtain ⟨hs, hz, es, ep, hraw, hsz, ent⟩ := do_raw I D
  have hv : s.heap.IsValuesView r d := (show ObjOk X.prog X.w H s.heap r (VwO r d) from I.hok r _ hr).1
  refine PySem.W.kdl_call KdlSrc.rawValues hh ⟨hv, hraw⟩ (by rw [hsz]; exact hz) fun h' tk acc' c' hk hS hacc => ?_
  have vl : Vals (xs.map (·.2.2)) acc'.toList := by
    refine vals_of (by rw [Array.length_toList, hacc.1, hsz, List.length_map]) fun i v hv => ?_
    rw [List.getElem?_map] at hv
    obtain ⟨p, hp, rfl⟩ : ∃ p, xs[i]? = some p ∧ p.2.2 = v := by
      cases q : xs[i]? with
      | none => rw [q] at hv; cases hv
      | some p => rw [q] at hv; exact ⟨p, rfl, Option.some.inj hv⟩
    obtain ⟨en, u, e1, e2, e3⟩ := ent i p hp
    have hlt : i < acc'.size := by
      rw [hacc.1, hsz]
      exact (List.getElem?_eq_some_iff.mp hp).1
    obtain ⟨hi, e4⟩ := hacc.2 i _ (Array.getElem?_eq_getElem hlt)
    obtain ⟨hi', e5⟩ := getD_some e1
    refine ⟨acc'[i], by rw [Array.getElem?_toList, Array.getElem?_eq_getElem hlt], ?_⟩
    rw [e4, e5, e2]
    exact e3
  exact ⟨.ref s.heap.objs.size, _, I.laid (t' := tk) hk (Nat.le_refl _) (show ObjOk X.prog X.w _ h' _ (.lst _) from ⟨by rw [List.length_map]; exact hz, acc'.toList, c', vl, by rw [hS, Array.toArray_toList]⟩), rfl, q _ (I.hok.fresh (Nat.le_refl _))⟩
theorem we_listVals {o : Expr} {p apos cpos pos : Pos} {Q : VK} (hc : X.calm = true) (he : NV X o σ (.ref d)) (hd : IsD X H d xs) (hg : Gl X "list") (hm : X.mg "list" = none) (k : ∀ l H', H l = none → Same H H' → H' l = some (.lst (xs.map (·.2.2))) → Q (.ref l) H')
    (hbase : attributeBase o "values" X.env (eval o X.env) = eval o X.env := by rfl) (hline : (apos.endLine == cpos.line) = true := by rfl)
    (hs : starEach [.Call (.Attribute o "values" apos) [] [] cpos] X.env = (false, eval (.Call (.Attribute o "values" apos) [] [] cpos) X.env) :: starEach [] X.env := by rfl) :
    WE X (.Call (.Name "list" p) [.Call (.Attribute o "values" apos) [] [] cpos] [] pos) σ H Q := by
  refine we (pe_callTy (cr_listV hc) hg hm (by decide +kernel) (pa_cons pe_w pa_nil hs) (by decide) (by decide) hs rfl) ?_
  refine we_vals he hd (fun r hr => ?_) hbase hline
  have s1 : Same H (upd H r (VwO r d)) := same_new hr
  refine ⟨r, d, xs, rfl, upd_same, hd.same s1, fun l hl => ?_⟩
  exact k l _ (Same.free s1 hl) (s1.trans (same_new hl)) upd_same
end
end Nr
/-! The law's defs: groups. -/
namespace Nr
open PySem PySem.Spec L2
open PyProof.Rows hiding St

theorem putX_all {xs : XS} {k : LK} {a : Addr} {v : V} {p : LK × Addr × V → Prop} (h1 : ∀ x ∈ xs, x.1 ≠ k → p x) (h2 : ∀ b, p (k, b, v)) : ∀ x ∈ putX xs k a v, p x := fun x hx => by
  unfold putX at hx
  split at hx
  · obtain ⟨y, hy, rfl⟩ := List.mem_map.mp hx
    by_cases e : y.1 = k
    · rw [if_pos e, e]; exact h2 _
    · rw [if_neg e]; exact h1 y hy e
  · rename_i hn
    rcases List.mem_append.mp hx with z | z
    · refine h1 x z fun e => hn (getX_iff.mpr ?_)
      rw [← e]
      exact List.mem_map_of_mem z
    · rw [List.mem_singleton.mp z]; exact h2 _
/-- rows of the first i with this pick -/
def grpL (rows : List Row) (cs : List Nat) (i : Nat) (k : LK) : List Row := (rows.take i).filter fun r => decide (kx (pick r cs) = k)
theorem grpL_succ {rows : List Row} {cs : List Nat} {i : Nat} {r : Row} (h : rows[i]? = some r) (k : LK) : grpL rows cs (i + 1) k = grpL rows cs i k ++ if kx (pick r cs) = k then [r] else [] := by
  unfold grpL
  rw [List.take_add_one, h, List.filter_append]
  congr 1
  by_cases e : kx (pick r cs) = k <;> simp [e]
/-- the groups stand -/
def GsAt (H : Hp) (gs : List (List Row)) (xs : List V) : Prop := gs.length = xs.length ∧ ∀ (i : Nat) (g : List Row), gs[i]? = some g → ∃ (p : Addr) (vs : List V), xs[i]? = some (V.ref p) ∧ H p = some (.lst vs) ∧ RepL H (g.map D.ints) vs
theorem GsAt.same {H H' : Hp} {gs : List (List Row)} {xs : List V} (h : GsAt H gs xs) (s : Same H H') : GsAt H' gs xs := ⟨h.1, fun i g hg => let ⟨p, vs, e1, e2, e3⟩ := h.2 i g hg; ⟨p, vs, e1, s _ _ e2, e3.mono s⟩⟩
structure GrpOk (rows : List Row) (cs : List Nat) (gs : List (List Row)) : Prop where
  in_ : ∀ g ∈ gs, ∀ a ∈ g, ∀ b ∈ g, a ∈ rows ∧ b ∈ rows ∧ agr a b cs
  all : ∀ a ∈ rows, ∀ b ∈ rows, agr a b cs → ∃ g ∈ gs, a ∈ g ∧ b ∈ g
section
variable {P : Program} {w : World} {K : PySem.W.Frag} {mg : Str → Option Value} {base : Heap} {f C : Addr} {fd : FuncData}
/-- _law_groups(rows, columns) -/
def spGroups : Sp := fun vs H Q _ => ∃ v1 v2 rows cs, vs = [v1, v2] ∧ Rep H (.tup (rows.map D.ints)) v1 ∧ Rep H (natsT cs) v2 ∧ (∀ r ∈ rows, ∀ c ∈ cs, c < r.length) ∧ cs.length ≤ 1000 ∧ rows.length ≤ 1000 ∧
  ∀ l xs (gs : List (List Row)) H', Same H H' → H l = none → H' l = some (.lst xs) → GsAt H' gs xs → GrpOk rows cs gs → Q (.ref l) H'
abbrev nGroups : List Str := ["_law_rows", "_law_columns", "_law_groups_here", "_law_row", "_law_pick_here"]
theorem scGroups : FnScope nGroups ["_law_rows", "_law_columns"] (defScope sLawGroups) := ⟨rfl, rfl, rfl, by decide +kernel, rfl, by decide +kernel, by decide +kernel⟩
theorem ok_groups (F : FnP K "_law_groups" "_law_groups" sLawGroups f fd) (B : Bi mg) (G : Ok P w K mg base 1 "_law_pick" (spR 2 rPicked)) : FnOk P w K mg base CX0 2 f fd ["_law_rows", "_law_columns"] spGroups := by
  refine fnOk F scGroups (fun vs H Q E h => ?_) fun cdv A outer s H vs Q E hr h => ?_
  · obtain ⟨v1, v2, rows, cs, rfl, _⟩ := h
    rfl
  obtain ⟨v1, v2, rows, cs, rfl, r1, r2, hc, hcl, hrl, hq⟩ := h
  have nd := scGroups.nd
  refine wcons ?_
  refine ws_set 2 nd (we_dnew fun gd hgd => ?_)
  have s1 : Same H (upd H gd (DO P w gd [])) := same_new hgd
  refine wcons ?_
  refine ws_for PassesOwn.never rfl (pgn 3 nd) ?_
  refine WI.mono (wi_tup (ev_name 0 rfl (r1.mono s1))) ?_
  rintro J H2 ⟨s2, rJ⟩
  refine forW rJ (fun j σ' H' => ∃ o3 o4, ∃ xs : XS, σ' = [some v1, some v2, some (.ref gd), o3, o4] ∧ Same H H' ∧ Tm H2 H' ∧ H' gd = some (DO P w gd xs) ∧ KeysAt H' xs ∧ (∀ k, k ∈ xs.map (·.1) ↔ ∃ r ∈ rows.take j, kx (pick r cs) = k) ∧ xs.length ≤ j ∧ ∀ x ∈ xs, ∃ p vs, x.2.2 = .ref p ∧ H' p = some (.lst vs) ∧ RepL H' ((grpL rows cs j x.1).map D.ints) vs)
    ⟨none, none, [], rfl, s1.trans s2, Tm.refl _, s2 _ _ upd_same, (fun x hx => nomatch hx), (fun k => by simp), Nat.le_refl _, fun x hx => nomatch hx⟩ ?_ ?_ ?_
  · rintro j σ' H' _ ⟨_, _, _, _, _, t, _⟩
    exact t
  · rintro j d σ' H3 hd ⟨o3, o4, xs, rfl, g0, g1, g2, g3, g4, g5, g6⟩ x H4 s4 rx
    rw [List.getElem?_map] at hd
    obtain ⟨r, hrj, rfl⟩ : ∃ r, rows[j]? = some r ∧ D.ints r = d := by
      cases h : rows[j]? with
      | none => rw [h] at hd; cases hd
      | some r => rw [h] at hd; exact ⟨r, rfl, Option.some.inj hd⟩
    have hrm := List.mem_of_getElem? hrj
    have hjl : j < rows.length := (List.getElem?_eq_some_iff.mp hrj).1
    have g0' := g0.trans s4
    refine wcons ?_
    refine ws_set 4 nd (we_ev (ev_call G hr rfl (ea_cons (ev_name 3 rfl rx) (ea_cons (ev_name 1 rfl (r2.mono g0')) ea_nil)) rfl ⟨r, cs, rfl, hc r hrm, hcl, rfl⟩) fun vp H5 s5 rp => ?_)
    have s35 := s4.trans s5
    obtain ⟨ka, rfl, hka⟩ := rep_ints.mp rp
    have hka : H5 ka = some (.tup ((kx (pick r cs)).map leV)) := by rw [kx_leV]; exact hka
    refine wone (ws_asg (pg_sub pe_w pe_w (set_X ?_)) ?_)
    · exact hr.u1
    refine we (pe_op op_cat pe_w pe_w) ?_
    refine we_bmX PySem.F.slot_dict_get PySem.F.type_dict_get (mt_getX ?_) ?_
    · exact hr.u1
    refine NV.use (nv_name 2 rfl) ⟨⟨gd, xs, rfl, s35 _ _ g2, g3.tm (Same.tm s35)⟩, ?_⟩
    refine wa (pa_cons pe_w (pa_cons pe_w pa_nil)) ?_
    refine NV.use (nv_name 4 rfl) ?_
    refine we_el (el_lst ea_nil (by show 0 ≤ sizeLine; decide)) fun l6 vs6 H6 hl6 s6 h6 r6 => ?_
    obtain rfl : vs6 = [] := r6
    have s36 := s35.trans s6
    refine ⟨gd, xs, ka, kx (pick r cs), .ref l6, rfl, ⟨s36 _ _ g2, g3.tm (Same.tm s36)⟩, rfl, s6 _ _ hka, ?_⟩
    obtain ⟨p, vs, ep, hp, rp2⟩ : ∃ p vs, ((getX xs (kx (pick r cs))).map (·.2)).getD (.ref l6) = .ref p ∧ H6 p = some (.lst vs) ∧ RepL H6 ((grpL rows cs j (kx (pick r cs))).map D.ints) vs := by
      cases hx : getX xs (kx (pick r cs)) with
      | none =>
        have : grpL rows cs j (kx (pick r cs)) = [] := by
          have hn : kx (pick r cs) ∉ xs.map (·.1) := fun z => by
            have := getX_iff.mpr z
            rw [hx] at this; cases this
          unfold grpL
          rw [List.filter_eq_nil_iff]
          intro b hb e
          exact hn ((g4 _).mpr ⟨b, hb, of_decide_eq_true e⟩)
        rw [this]
        exact ⟨l6, [], rfl, h6, rfl⟩
      | some q =>
        obtain ⟨b, u⟩ := q
        obtain ⟨p, vs, e1, e2, e3⟩ := g6 _ (getX_mem hx)
        exact ⟨p, vs, e1, s36 _ _ e2, e3.mono s36⟩
    rw [ep]
    refine we_el (el_lst (ea_cons (ev_name 3 rfl ((rx.mono s5).mono s6)) ea_nil) (by show 1 ≤ sizeLine; decide)) fun l7 vs7 H7 hl7 s7 h7 r7 => ?_
    have s37 := s36.trans s7
    have gl : (grpL rows cs j (kx (pick r cs))).length ≤ 1000 := by
      unfold grpL
      refine Nat.le_trans (List.length_filter_le ..) ?_
      rw [List.length_take]
      omega
    refine ⟨p, l7, vs, vs7, rfl, rfl, s7 _ _ hp, h7, ?_, fun l8 hl8 => ?_⟩
    · rw [rp2.length, r7.length, List.length_map, sizeLine_eq]
      show (grpL rows cs j (kx (pick r cs))).length + 1 ≤ _
      omega
    have s8 : Same H7 (upd H7 l8 (.lst (vs ++ vs7))) := same_new hl8
    have s38 := s37.trans s8
    refine NV.use (nv_name 2 rfl) (NV.use (nv_name 4 rfl) ?_)
    refine ⟨gd, xs, ka, kx (pick r cs), rfl, ⟨s38 _ _ g2, g3.tm (Same.tm s38)⟩, rfl, s8 _ _ (s7 _ _ (s6 _ _ hka)), by rw [sizeLine_eq]; omega, ?_⟩
    have s3to8 : Same H3 (upd H7 l8 (.lst (vs ++ vs7))) := s38
    have gd8 := s3to8 _ _ g2
    have tmu : Tm (upd H7 l8 (.lst (vs ++ vs7))) (upd (upd H7 l8 (.lst (vs ++ vs7))) gd (DO P w gd (putX xs (kx (pick r cs)) ka (.ref l8)))) := tm_do gd8
    refine ⟨_, _, putX xs (kx (pick r cs)) ka (.ref l8), rfl, same_mut (g0.trans s3to8) hgd, (g1.trans (Same.tm s3to8)).trans tmu, upd_same, ((g3.tm (Same.tm s3to8)).put (s8 _ _ (s7 _ _ (s6 _ _ hka)))).tm tmu, fun k => ?_, ?_, ?_⟩
    · rw [putX_keysN, addN_mem, g4, List.take_add_one, hrj]
      constructor
      · rintro (⟨a, ha, e⟩ | e)
        · exact ⟨a, List.mem_append_left _ ha, e⟩
        · exact ⟨r, List.mem_append_right _ List.mem_cons_self, e.symm⟩
      · rintro ⟨a, ha, e⟩
        rcases List.mem_append.mp ha with z | z
        · exact .inl ⟨a, z, e⟩
        · have : a = r := by simpa using z
          rw [this] at e
          exact .inr e.symm
    · have := putX_len xs (kx (pick r cs)) ka (.ref l8)
      omega
    · have hgd8 : ∀ q u, (upd H7 l8 (.lst (vs ++ vs7))) q = some (.lst u) → (upd (upd H7 l8 (.lst (vs ++ vs7))) gd (DO P w gd (putX xs (kx (pick r cs)) ka (.ref l8)))) q = some (.lst u) := fun q u h => by
        have : q ≠ gd := ne_of h gd8 (by intro z; cases z)
        rw [upd_ne this]
        exact h
      refine putX_all (fun y hy hne => ?_) fun b => ?_
      · obtain ⟨q, us, e1, e2, e3⟩ := g6 y hy
        refine ⟨q, us, e1, hgd8 _ _ (s3to8 _ _ e2), ?_⟩
        rw [grpL_succ hrj, if_neg (fun z => hne z.symm), List.append_nil]
        exact (e3.mono s3to8).tm tmu
      · refine ⟨l8, vs ++ vs7, rfl, hgd8 _ _ upd_same, ?_⟩
        rw [grpL_succ hrj, if_pos rfl, List.map_append]
        exact ((((rp2.mono s7).mono s8).append (r7.mono s8)).tm tmu)
  · rintro σ' H3 ⟨o3, o4, xs, rfl, g0, g1, g2, g3, g4, g5, g6⟩
    rw [List.length_map] at g4 g6
    rw [List.take_length] at g4
    refine wone (ws_ret (we_listVals rfl (nv_name 2 rfl) ⟨g2, g3⟩ rfl B.list fun l H4 hl s4 h4 => ?_))
    have ga : GsAt H4 (xs.map fun x => grpL rows cs rows.length x.1) (xs.map (·.2.2)) := by
      refine ⟨by rw [List.length_map, List.length_map], fun i g hg => ?_⟩
      rw [List.getElem?_map] at hg
      obtain ⟨x, hx, rfl⟩ : ∃ x, xs[i]? = some x ∧ grpL rows cs rows.length x.1 = g := by
        cases h : xs[i]? with
        | none => rw [h] at hg; cases hg
        | some r => rw [h] at hg; exact ⟨r, rfl, Option.some.inj hg⟩
      obtain ⟨p, vs, e1, e2, e3⟩ := g6 x (List.mem_of_getElem? hx)
      exact ⟨p, vs, by rw [List.getElem?_map, hx, ← e1]; rfl, s4 _ _ e2, e3.mono s4⟩
    have go : GrpOk rows cs (xs.map fun x => grpL rows cs rows.length x.1) := by
      refine ⟨fun g hg a ha b hb => ?_, fun a ha b hb hab => ?_⟩
      · obtain ⟨x, hx, rfl⟩ := List.mem_map.mp hg
        unfold grpL at ha hb
        rw [List.take_length] at ha hb
        obtain ⟨a1, a2⟩ := List.mem_filter.mp ha
        obtain ⟨b1, b2⟩ := List.mem_filter.mp hb
        have e : kx (pick a cs) = kx (pick b cs) := (of_decide_eq_true a2).trans (of_decide_eq_true b2).symm
        exact ⟨a1, b1, pick_eq.mp (kx_inj e)⟩
      · have : kx (pick a cs) ∈ xs.map (·.1) := (g4 _).mpr ⟨a, ha, rfl⟩
        obtain ⟨x, hx, e⟩ := List.mem_map.mp this
        refine ⟨_, List.mem_map.mpr ⟨x, hx, rfl⟩, ?_, ?_⟩
        · unfold grpL
          rw [List.take_length]
          exact List.mem_filter.mpr ⟨ha, decide_eq_true e.symm⟩
        · unfold grpL
          rw [List.take_length]
          refine List.mem_filter.mpr ⟨hb, decide_eq_true ?_⟩
          rw [← pick_eq.mpr hab]
          exact e.symm
    exact hq l _ _ H4 (g0.trans s4) (Same.free g0 hl) h4 ga go
end
end Nr
/-! The law's defs: keeps_one. -/
namespace Nr
open PySem PySem.Spec L2
open PyProof.Rows hiding St

section
variable {X : Cx} {a b : Expr} {σ : L2.St} {H : Hp} {d l : Addr} {xs : XS} {r : Row} {pos : Pos} {t : Bool}
theorem et_ninX (hu : X.A.units + 1 < cLine) (ha : EV X a σ H (.ints r)) (hb : RV X b σ H (.ref d)) (hd : IsD X H d xs) (ht : t = true ↔ kx r ∈ xs.map (·.1)) (hm : behindInMarks .NotIn b = false := by rfl) : ET X (.Compare a [.NotIn] [b] pos) σ H (!t) := fun H1 s => by
  refine wt (pt_cmpR (op_notInX hu) pe_w pe_w hm) ?_
  refine (ha H1 s).mono fun x H2 ⟨s2, rx⟩ => ?_
  have s12 := s.trans s2
  refine (hb.mono s12).use ?_
  obtain ⟨q, rfl, hq⟩ := rep_ints.mp rx
  refine ⟨d, xs, q, kx r, rfl, hd.same s12, rfl, by rw [kx_leV]; exact hq, _, rfl, ?_, s2⟩
  have e : (getX xs (kx r)).isSome = t := by rw [Bool.eq_iff_iff, getX_iff, ht]
  rw [e]
/-- turns over a list that stands, values of any kind -/
theorem forV {K : PySem.W.Frag} {g : TG} {body : List Stmt} {DE : Ends} {us : List V} (Pv : Nat → L2.St → Hp → Prop) (h0 : Pv 0 σ H) (hC : ∀ i σ H, Pv i σ H → H l = some (.lst us))
    (turn : ∀ i v σ H, us[i]? = some v → Pv i σ H → g v σ H fun σ2 H2 => WSs X body { DE with nx := Pv (i + 1), ct := Pv (i + 1), bk := DE.nx } σ2 H2)
    (fin : ∀ σ H, Pv us.length σ H → DE.nx σ H) : ForW X g body DE (Itl K l) σ H := by
  refine ⟨fun i m σ H => m = us.length - i ∧ i ≤ us.length ∧ Pv i σ H, ⟨us.length, by simp, Nat.zero_le _, h0⟩, ?_⟩
  rintro i m σ H ⟨rfl, hi, p⟩
  have hl := hC i σ H p
  by_cases hlt : i < us.length
  · have hd : us[i]? = some us[i] := List.getElem?_eq_getElem hlt
    refine .inr ⟨⟨us, _, SqL.of hl, hd⟩, Pv (i + 1), fun σ' H' p' => ⟨us.length - (i + 1), by omega, rfl, hlt, p'⟩, fun x H' hy => ?_⟩
    obtain ⟨e, y⟩ := hy
    have y1 := y us (SqL.of hl)
    rw [hd] at y1
    rw [e, ← Option.some.inj y1]
    exact turn i _ σ H hd p
  · have e : i = us.length := by omega
    exact .inl ⟨⟨us, SqL.of hl, by omega⟩, fin σ H (by rw [← e]; exact p)⟩
end
/-! ### a row with some cells of another one -/
def setL (R : List Nat) (a b : Row) : Row := R.foldl (fun row c => row.set c (cel a c)) b
theorem setL_len {a : Row} : ∀ (R : List Nat) (b : Row), (setL R a b).length = b.length
  | [], b => rfl
  | c :: R, b => by
    show (setL R a (b.set c (cel a c))).length = _
    rw [setL_len R, List.length_set]
theorem cel_set {b : Row} {c e : Nat} {v : Int} (hc : c < b.length) (he : e < b.length) : cel (b.set c v) e = if e = c then v else cel b e := by
  unfold cel
  rw [List.getD_eq_getElem?_getD, List.getD_eq_getElem?_getD, List.getElem?_set]
  by_cases q : c = e
  · subst q
    rw [if_pos rfl, if_pos rfl, if_pos hc]
    rfl
  · rw [if_neg q, if_neg (fun z => q z.symm)]
theorem setL_cel {a : Row} {e : Nat} : ∀ (R : List Nat) (b : Row), (∀ c ∈ R, c < b.length) → e < b.length → cel (setL R a b) e = if e ∈ R then cel a e else cel b e
  | [], b, _, _ => by rw [if_neg (fun z => nomatch z)]; rfl
  | c :: R, b, h, he => by
    show cel (setL R a (b.set c (cel a c))) e = _
    rw [setL_cel R (b.set c (cel a c)) (fun x hx => by rw [List.length_set]; exact h x (List.mem_cons_of_mem _ hx)) (by rw [List.length_set]; exact he), cel_set (h c List.mem_cons_self) he]
    by_cases q : e ∈ R
    · rw [if_pos q, if_pos (List.mem_cons_of_mem _ q)]
    · rw [if_neg q]
      by_cases z : e = c
      · rw [if_pos z, if_pos (by rw [z]; exact List.mem_cons_self), z]
      · rw [if_neg z, if_neg (fun y => (List.mem_cons.mp y).elim z q)]
theorem setL_mix {n : Nat} {R : List Nat} {a b : Row} (hR : ∀ c ∈ R, c < n) (hb : b.length = n) : setL R a b = mix n R a b :=
  row_ext (n := n) (by rw [setL_len, hb]) (mix_len ..) fun c hc => by rw [setL_cel R b (fun x hx => by rw [hb]; exact hR x hx) (by rw [hb]; exact hc), mix_cel hc]
/-- a pair is right -/
def pok (n : Nat) (rows : List Row) (wd : Dep) (a b : Row) : Prop := (wd.st = true → agr a b wd.R) ∧ (wd.st = false → mix n wd.R a b ∈ rows)
abbrev nKeeps : List Str := ["_law_width", "_law_rows", "_law_wish", "_law_known", "_law_row", "_law_group", "_law_one", "_law_other", "_law_column"]
theorem scKeeps : FnScope nKeeps ["_law_width", "_law_rows", "_law_wish"] (defScope sLawKeepsOne) := ⟨rfl, rfl, rfl, by decide +kernel, rfl, by decide +kernel, by decide +kernel⟩
abbrev kB1 : List Stmt := fb ((defBody sLawKeepsOne).getD 2 (.Pass ⟨0, 0, 0, 0⟩))
abbrev kB2 : List Stmt := fb (kB1.getD 0 (.Pass ⟨0, 0, 0, 0⟩))
abbrev kB3 : List Stmt := fb (kB2.getD 0 (.Pass ⟨0, 0, 0, 0⟩))
section
variable {P : Program} {w : World} {K : PySem.W.Frag} {mg : Str → Option Value} {base : Heap} {f C : Addr} {fd : FuncData}
abbrev XKp (P : Program) (w : World) (K : PySem.W.Frag) (mg : Str → Option Value) (base : Heap) (f : Addr) (cdv : Value) (A : Around) (outer : List Env) (s : Shared) (H : Hp) (E : XK) : Cx := (cxOf CX0 P w K mg base nKeeps "_law_keeps_one" (defScope sLawKeepsOne) f cdv A outer s H E).nox
theorem keeps3 {cdv : Value} {A : Around} {outer : List Env} {s : Shared} {H0 : Hp} {E : XK} (B : Bi mg) (G : Ok P w K mg base 1 "_law_pick" (spR 2 rPicked)) (hr : Room 1 (A.deeper (envOfC "_law_keeps_one" (defScope sLawKeepsOne) s.heap.objs.size f cdv))) {DE : Ends} {n : Nat} {v1 v2 v3 vg vo vt : V} {σ : L2.St} {o4 o8 : Option V} {kd : Addr} {kxs : XS} {rows : List Row} {wd : Dep} {a b : Row} {H : Hp}
    (hσ : σ = [some v1, some v2, some v3, some (.ref kd), o4, some vg, some vo, some vt, o8]) (r3 : Rep H (depD wd) v3) (ra : Rep H (.ints a) vo) (rb : Rep H (.ints b) vt) (hd : IsD (XKp P w K mg base f cdv A outer s H0 E) H kd kxs) (hk : ∀ r : Row, kx r ∈ kxs.map (·.1) ↔ r ∈ rows)
    (hla : a.length = n) (hlb : b.length = n) (hn : n ≤ 1000) (hok : DepOk n wd) (hR : wd.R.length ≤ 1000)
    (k1 : pok n rows wd a b → ∀ o4' o8' H', Same H H' → DE.nx [some v1, some v2, some v3, some (.ref kd), o4', some vg, some vo, some vt, o8'] H') (k2 : ¬ pok n rows wd a b → ∀ v H', Same H H' → v = .bl false → DE.rt v H') :
    WSs (XKp P w K mg base f cdv A outer s H0 E) kB3 DE σ H := by
  have nd := scKeeps.nd
  subst hσ
  refine wone ?_
  refine ws_ifB _ (et_eqS (ev_ixT (i := 0) (ev_name 2 rfl r3) ev_int rfl (fun _ _ => rfl)) ev_str) (fun e H1 s1 => ?_) fun e H1 s1 => ?_
  · have hst : wd.st = true := by
      unfold kindS at e
      cases z : wd.st with
      | true => rfl
      | false => rw [z] at e; exact absurd (of_decide_eq_true e) (by decide)
    have r3 := r3.mono s1
    have ra := ra.mono s1
    have rb := rb.mono s1
    have hp : pok n rows wd a b ↔ pick a wd.R = pick b wd.R := by
      rw [pick_eq]
      exact ⟨fun h => h.1 hst, fun h => ⟨fun _ => h, fun z => by rw [hst] at z; cases z⟩⟩
    refine wone ?_
    refine ws_ifB _ (et_neD (t := decide (pick a wd.R = pick b wd.R)) hr.units (ev_call G hr rfl (ea_cons (ev_name 6 rfl ra) (ea_cons (ev_ixT (i := 3) (ev_name 2 rfl r3) ev_int rfl (fun _ _ => rfl)) ea_nil)) rfl ⟨a, wd.R, rfl, fun c hc => by rw [hla]; exact hok.2 c hc, hR, rfl⟩)
      (ev_call G hr rfl (ea_cons (ev_name 7 rfl rb) (ea_cons (ev_ixT (i := 3) (ev_name 2 rfl r3) ev_int rfl (fun _ _ => rfl)) ea_nil)) rfl ⟨b, wd.R, rfl, fun c hc => by rw [hlb]; exact hok.2 c hc, hR, rfl⟩) (sh_ints _) (sh_ints _) (noB_ints _) (noB_ints _) ?_) (fun e2 H2 s2 => ?_) fun e2 H2 s2 => wnil ?_
    · rw [decide_eq_true_iff]
      exact ⟨fun e => by rw [e], fun e => ints_inj e⟩
    · refine wone (ws_retV ev_bl fun v H3 s3 rv => ?_)
      refine k2 (fun z => ?_) v H3 ((s1.trans s2).trans s3) rv
      rw [decide_eq_true (hp.mp z)] at e2
      cases e2
    · refine k1 (hp.mpr ?_) _ _ H2 (s1.trans s2)
      by_cases z : pick a wd.R = pick b wd.R
      · exact z
      · rw [decide_eq_false z] at e2; cases e2
  · have hst : wd.st = false := by
      unfold kindS at e
      cases z : wd.st with
      | false => rfl
      | true => rw [z] at e; exact absurd (of_decide_eq_false e) (by decide)
    have r3 := r3.mono s1
    have ra := ra.mono s1
    have rb := rb.mono s1
    have hd := hd.same s1
    have hp : pok n rows wd a b ↔ mix n wd.R a b ∈ rows := ⟨fun h => h.2 hst, fun h => ⟨(fun z => by rw [hst] at z; cases z), fun _ => h⟩⟩
    refine wcons ?_
    refine ws_set 4 nd (we_el (el_listT (ev_name 7 rfl rb) rfl B.list) fun l4 vs4 H2 hl4 s2 h2' r2 => ?_)
    obtain rfl := repL_ints.mp r2
    refine wcons ?_
    refine ws_for PassesOwn.never rfl (pgn 8 nd) ?_
    refine WI.mono (wi_tup (ds := wd.R.map fun (c : Nat) => .int (c : Int)) (ev_ixT (i := 3) (ev_name 2 rfl (r3.mono s2)) ev_int rfl (fun _ _ => rfl))) ?_
    rintro J H3 ⟨s3, rJ⟩
    refine forW rJ (fun j σ' H' => ∃ o8', σ' = [some v1, some v2, some v3, some (.ref kd), some (.ref l4), some vg, some vo, some vt, o8'] ∧ Same H1 H' ∧ Tm H3 H' ∧ H' l4 = some (.lst ((setL (wd.R.take j) a b).map V.int)))
      ⟨o8, rfl, s2.trans s3, Tm.refl _, s3 _ _ h2'⟩ ?_ ?_ ?_
    · rintro j σ' H' _ ⟨_, _, _, t, _⟩
      exact t
    · rintro j d σ' H4 hdj ⟨o8', rfl, g0, g1, g2⟩ x H5 s5 rx
      rw [List.getElem?_map] at hdj
      obtain ⟨c, hcj, rfl⟩ : ∃ c, wd.R[j]? = some c ∧ D.int ((c : Nat) : Int) = d := by
        cases h : wd.R[j]? with
        | none => rw [h] at hdj; cases hdj
        | some r => rw [h] at hdj; exact ⟨r, rfl, Option.some.inj hdj⟩
      obtain rfl := (show x = V.int ((c : Nat) : Int) from rx)
      have hcn : c < n := hok.2 c (List.mem_of_getElem? hcj)
      refine wone (ws_asg (pg_sub pe_w pe_w set_list) (we_ev (ev_ixT (i := c) (ev_name 6 rfl (ra.mono (g0.trans s5))) (ev_name 8 rfl rep_int) (ints_at (by rw [hla]; exact hcn)) (fun _ _ => rfl)) fun v H6 s6 r6 => ?_))
      obtain rfl := (show v = V.int (cel a c) from r6)
      have g2' := s6 _ _ (s5 _ _ g2)
      refine NV.use (nv_name 4 rfl) (NV.use (nv_name 8 rfl) ?_)
      refine ⟨l4, _, _, c, rfl, rfl, g2', ?_, ?_⟩
      · rw [List.length_map, setL_len, hlb]
        exact ixN_nat hcn
      · refine ⟨_, rfl, same_mut ((g0.trans s5).trans s6) hl4, (g1.trans (Same.tm (s5.trans s6))).trans (tm_upd g2' (by intro xs z; cases z)), ?_⟩
        rw [upd_same, List.take_add_one, hcj]
        show some (HO.lst _) = some (HO.lst ((setL (wd.R.take j ++ [c]) a b).map V.int))
        unfold setL
        rw [List.foldl_append]
        show some (HO.lst _) = some (HO.lst ((List.set _ c (cel a c)).map V.int))
        rw [List.map_set]
    · rintro σ' H4 ⟨o8', rfl, g0, g1, g2⟩
      rw [List.length_map, List.take_length, setL_mix hok.2 hlb] at g2
      refine wone ?_
      refine ws_ifB _ (et_ninX (t := decide (mix n wd.R a b ∈ rows)) (r := mix n wd.R a b) hr.u1 (ev_tupleL (lv_name 4 rfl g2 (repL_ints.mpr rfl)) rfl B.tuple) (rv_name 3 rfl) (hd.same g0) ?_) (fun e2 H5 s5 => ?_) fun e2 H5 s5 => wnil ?_
      · rw [decide_eq_true_iff]
        exact (hk _).symm
      · refine wone (ws_retV ev_bl fun v H6 s6 rv => ?_)
        refine k2 (fun z => ?_) v H6 (((s1.trans g0).trans s5).trans s6) rv
        rw [decide_eq_true (hp.mp z)] at e2
        cases e2
      · refine k1 (hp.mpr ?_) _ _ H5 ((s1.trans g0).trans s5)
        by_cases z : mix n wd.R a b ∈ rows
        · exact z
        · rw [decide_eq_false z] at e2; cases e2
/-- _law_keeps_one(width, rows, wish) -/
def spKeeps : Sp := fun vs H Q _ => ∃ (n : Nat) (v2 v3 : V) (rows : List Row) (wd : Dep), vs = [.int (n : Int), v2, v3] ∧ Rep H (.tup (rows.map D.ints)) v2 ∧ Rep H (depD wd) v3 ∧ (∀ r ∈ rows, r.length = n) ∧ DepOk n wd ∧ wd.L.length ≤ 1000 ∧ wd.R.length ≤ 1000 ∧ rows.length ≤ 1000 ∧ n ≤ 1000 ∧
  ∀ b H', Same H H' → (b = true ↔ Keeps n rows wd) → Q (.bl b) H'
theorem ok_keeps (F : FnP K "_law_keeps_one" "_law_keeps_one" sLawKeepsOne f fd) (B : Bi mg) (G1 : Ok P w K mg base 2 "_law_groups" spGroups) (G2 : Ok P w K mg base 1 "_law_pick" (spR 2 rPicked)) : FnOk P w K mg base CX0 3 f fd ["_law_width", "_law_rows", "_law_wish"] spKeeps := by
  refine fnOk F scKeeps (fun vs H Q E h => ?_) fun cdv A outer s H vs Q E hr h => ?_
  · obtain ⟨n, v2, v3, rows, wd, rfl, _⟩ := h
    rfl
  obtain ⟨n, v2, v3, rows, wd, rfl, r2, r3, hlen, hok, hL, hR, hrl, hn, hq⟩ := h
  have nd := scKeeps.nd
  refine wcons ?_
  refine ws_set 3 nd (we_dnew fun kd hkd => ?_)
  have s1 : Same H (upd H kd (DO P w kd [])) := same_new hkd
  refine wcons ?_
  refine ws_for PassesOwn.never rfl (pgn 4 nd) ?_
  refine WI.mono (wi_tup (ev_name 1 rfl (r2.mono s1))) ?_
  rintro J H2 ⟨s2, rJ⟩
  refine forW rJ (fun j σ' H' => ∃ o4, ∃ xs : XS, σ' = [some (.int (n : Int)), some v2, some v3, some (.ref kd), o4, none, none, none, none] ∧ Same H H' ∧ Tm H2 H' ∧ H' kd = some (DO P w kd xs) ∧ KeysAt H' xs ∧ (∀ k, k ∈ xs.map (·.1) ↔ ∃ r ∈ rows.take j, kx r = k) ∧ xs.length ≤ j)
    ⟨none, [], rfl, s1.trans s2, Tm.refl _, s2 _ _ upd_same, (fun x hx => nomatch hx), (fun k => by simp), Nat.le_refl _⟩ ?_ ?_ ?_
  · rintro j σ' H' _ ⟨_, _, _, _, t, _⟩
    exact t
  · rintro j d σ' H3 hd ⟨o4, xs, rfl, g0, g1, g2, g3, g4, g5⟩ x H4 s4 rx
    rw [List.getElem?_map] at hd
    obtain ⟨r, hrj, rfl⟩ : ∃ r, rows[j]? = some r ∧ D.ints r = d := by
      cases h : rows[j]? with
      | none => rw [h] at hd; cases hd
      | some r => rw [h] at hd; exact ⟨r, rfl, Option.some.inj hd⟩
    have hjl : j < rows.length := (List.getElem?_eq_some_iff.mp hrj).1
    refine wone (ws_asg (pg_sub pe_w pe_w (set_X ?_)) (we_ev ev_bl fun vt H5 s5 _ => ?_))
    · exact hr.u1
    have s35 := s4.trans s5
    obtain ⟨ka, rfl, hka⟩ := rep_ints.mp (rx.mono s5)
    have hka : H5 ka = some (.tup ((kx r).map leV)) := by rw [kx_leV]; exact hka
    refine NV.use (nv_name 3 rfl) (NV.use (nv_name 4 rfl) ?_)
    have kd5 := s35 _ _ g2
    refine ⟨kd, xs, ka, kx r, rfl, ⟨kd5, g3.tm (Same.tm s35)⟩, rfl, hka, by rw [sizeLine_eq]; omega, ?_⟩
    have tmu : Tm H5 (upd H5 kd (DO P w kd (putX xs (kx r) ka vt))) := tm_do kd5
    refine ⟨_, putX xs (kx r) ka vt, rfl, same_mut (g0.trans s35) hkd, (g1.trans (Same.tm s35)).trans tmu, upd_same, ((g3.tm (Same.tm s35)).put hka).tm tmu, fun k => ?_, ?_⟩
    · rw [putX_keysN, addN_mem, g4, List.take_add_one, hrj]
      constructor
      · rintro (⟨a, ha, e⟩ | e)
        · exact ⟨a, List.mem_append_left _ ha, e⟩
        · exact ⟨r, List.mem_append_right _ List.mem_cons_self, e.symm⟩
      · rintro ⟨a, ha, e⟩
        rcases List.mem_append.mp ha with z | z
        · exact .inl ⟨a, z, e⟩
        · have : a = r := by simpa using z
          rw [this] at e
          exact .inr e.symm
    · have := putX_len xs (kx r) ka vt
      omega
  · rintro σ' H3 ⟨o4, kxs, rfl, g0, g1, g2, g3, g4, g5⟩
    rw [List.length_map, List.take_length] at g4
    have hk : ∀ r : Row, kx r ∈ kxs.map (·.1) ↔ r ∈ rows := fun r => (g4 _).trans ⟨fun ⟨a, ha, e⟩ => kx_inj e ▸ ha, fun h => ⟨r, h, rfl⟩⟩
    refine wcons ?_
    refine ws_for PassesOwn.never rfl (pgn 5 nd) (wi (pi_list pe_w) ?_)
    refine we_call G1 hr rfl ?_
    refine wa (pa_cons pe_w (pa_cons pe_w pa_nil)) ?_
    refine NV.use (nv_name 1 rfl) ?_
    refine we_ev (ev_ixT (i := 2) (ev_name 2 rfl (r3.mono g0)) ev_int rfl (fun _ _ => rfl)) fun vL H4 s4 rL => ?_
    have s04 := g0.trans s4
    refine ⟨v2, vL, rows, wd.L, rfl, r2.mono s04, rL, fun r hr c hc => by rw [hlen r hr]; exact hok.1 c hc, hL, hrl, fun gl gxs gs H5 s5 hgl h5' gat gok => ?_⟩
    have s05 := s04.trans s5
    have s35 := s4.trans s5
    refine ⟨gl, rfl, ⟨_, SqL.of h5'⟩, ?_⟩
    refine forV (us := gxs) (fun i σ' H' => ∃ o4 o5 o6 o7 o8, σ' = [some (.int (n : Int)), some v2, some v3, some (.ref kd), o4, o5, o6, o7, o8] ∧ Same H5 H' ∧ ∀ g ∈ gs.take i, ∀ a ∈ g, ∀ b ∈ g, pok n rows wd a b)
      ⟨o4, none, none, none, none, rfl, Same.refl _, (fun g hg => by rw [List.take_zero] at hg; cases hg)⟩ ?_ ?_ ?_
    · rintro i σ' H' ⟨_, _, _, _, _, _, t, _⟩
      exact t _ _ h5'
    · rintro i vg σ' H6 hvg ⟨o4, o5, o6, o7, o8, rfl, g6, q6⟩
      have hig : i < gs.length := by rw [gat.1]; exact (List.getElem?_eq_some_iff.mp hvg).1
      obtain ⟨g, hgi⟩ : ∃ g, gs[i]? = some g := ⟨_, List.getElem?_eq_getElem hig⟩
      have hgm := List.mem_of_getElem? hgi
      obtain ⟨gp, gvs, e1, e2, e3⟩ := gat.2 i g hgi
      rw [hvg] at e1
      obtain rfl := Option.some.inj e1
      refine wone ?_
      refine ws_for PassesOwn.never rfl (pgn 6 nd) (wi (pi_list pe_w) ?_)
      refine NV.use (nv_name 5 rfl) ?_
      refine ⟨gp, rfl, ⟨_, SqL.of (g6 _ _ e2)⟩, ?_⟩
      refine forV (us := gvs) (fun j σ' H' => ∃ o4 o6 o7 o8, σ' = [some (.int (n : Int)), some v2, some v3, some (.ref kd), o4, some (.ref gp), o6, o7, o8] ∧ Same H5 H' ∧ ∀ a ∈ g.take j, ∀ b ∈ g, pok n rows wd a b)
        ⟨o4, o6, o7, o8, rfl, g6, (fun a ha => by rw [List.take_zero] at ha; cases ha)⟩ ?_ ?_ ?_
      · rintro j σ' H' ⟨_, _, _, _, _, t, _⟩
        exact t _ _ e2
      · rintro j vo σ' H7 hvo ⟨o4, o6, o7, o8, rfl, g7, q7⟩
        have hja : j < g.length := by
          have := (List.getElem?_eq_some_iff.mp hvo).1
          rw [e3.length, List.length_map] at this
          exact this
        obtain ⟨a, haj⟩ : ∃ a, g[j]? = some a := ⟨_, List.getElem?_eq_getElem hja⟩
        have ham := List.mem_of_getElem? haj
        obtain ⟨vo', hvo', ra⟩ := e3.get (show (g.map D.ints)[j]? = some (.ints a) by rw [List.getElem?_map, haj]; rfl)
        rw [hvo] at hvo'
        obtain rfl := Option.some.inj hvo'
        refine wone ?_
        refine ws_for PassesOwn.never rfl (pgn 7 nd) (wi (pi_list pe_w) ?_)
        refine NV.use (nv_name 5 rfl) ?_
        refine ⟨gp, rfl, ⟨_, SqL.of (g7 _ _ e2)⟩, ?_⟩
        refine forV (us := gvs) (fun m σ' H' => ∃ o4 o7 o8, σ' = [some (.int (n : Int)), some v2, some v3, some (.ref kd), o4, some (.ref gp), some vo, o7, o8] ∧ Same H5 H' ∧ ∀ b ∈ g.take m, pok n rows wd a b)
          ⟨o4, o7, o8, rfl, g7, (fun b hb => by rw [List.take_zero] at hb; cases hb)⟩ ?_ ?_ ?_
        · rintro m σ' H' ⟨_, _, _, _, t, _⟩
          exact t _ _ e2
        · rintro m vt σ' H8 hvt ⟨o4, o7, o8, rfl, g8, q8⟩
          have hmb : m < g.length := by
            have := (List.getElem?_eq_some_iff.mp hvt).1
            rw [e3.length, List.length_map] at this
            exact this
          obtain ⟨b, hbm⟩ : ∃ b, g[m]? = some b := ⟨_, List.getElem?_eq_getElem hmb⟩
          have hbmm := List.mem_of_getElem? hbm
          obtain ⟨vt', hvt', rb⟩ := e3.get (show (g.map D.ints)[m]? = some (.ints b) by rw [List.getElem?_map, hbm]; rfl)
          rw [hvt] at hvt'
          obtain rfl := Option.some.inj hvt'
          obtain ⟨i1, i2, i3⟩ := gok.in_ g hgm a ham b hbmm
          have s58 := s35.trans g8
          refine keeps3 (rows := rows) (wd := wd) (a := a) (b := b) B G2 (hr.mono (by decide)) rfl (r3.mono (s05.trans g8)) (ra.mono g8) (rb.mono g8) (IsD.same (X := XKp P w K mg base f cdv A outer s H E) ⟨g2, g3⟩ s58) hk (hlen a i1) (hlen b i2) hn hok hR (fun hp o4' o8' H9 s9 => ?_) fun hp v H9 s9 ev => ?_
          · refine ⟨_, _, _, rfl, g8.trans s9, fun b' hb' => ?_⟩
            rw [List.take_add_one, hbm] at hb'
            rcases List.mem_append.mp hb' with z | z
            · exact q8 b' z
            · have : b' = b := by simpa using z
              rw [this]; exact hp
          · rw [ev]
            refine hq false H9 ((s05.trans g8).trans s9) ⟨(fun z => by cases z), fun kp => ?_⟩
            obtain ⟨x1, x2⟩ := kp a i1 b i2 i3
            exact absurd ⟨x1, x2⟩ hp
        · rintro σ' H8 ⟨o4, o7, o8, rfl, g8, q8⟩
          have el : gvs.length = g.length := by rw [e3.length, List.length_map]
          rw [el, List.take_length] at q8
          refine ⟨_, _, _, _, rfl, g8, fun a' ha' => ?_⟩
          rw [List.take_add_one, haj] at ha'
          rcases List.mem_append.mp ha' with z | z
          · exact q7 a' z
          · have : a' = a := by simpa using z
            rw [this]; exact q8
      · rintro σ' H7 ⟨o4, o6, o7, o8, rfl, g7, q7⟩
        have el : gvs.length = g.length := by rw [e3.length, List.length_map]
        rw [el, List.take_length] at q7
        refine ⟨_, _, _, _, _, rfl, g7, fun g' hg' => ?_⟩
        rw [List.take_add_one, hgi] at hg'
        rcases List.mem_append.mp hg' with z | z
        · exact q6 g' z
        · have : g' = g := by simpa using z
          rw [this]; exact q7
    · rintro σ' H6 ⟨o4, o5, o6, o7, o8, rfl, g6, q6⟩
      rw [← gat.1, List.take_length] at q6
      refine wone (ws_retV ev_bl fun v H7 s7 rv => ?_)
      rw [show v = V.bl true from rv]
      refine hq true H7 ((s05.trans g6).trans s7) ⟨fun _ => fun a ha b hb hab => ?_, fun _ => rfl⟩
      obtain ⟨g, hg, h1, h2⟩ := gok.all a ha b hb hab
      exact q6 g hg a h1 b h2
end
end Nr
/-! The law's defs: parts, unlike. -/
namespace Nr
open PySem PySem.Spec L2
open PyProof.Rows hiding St

theorem asc_cast {l : List Nat} (h : l.Pairwise (· < ·)) : (l.map fun (c : Nat) => (c : Int)).Pairwise (· < ·) := by
  rw [List.pairwise_map]
  exact h.imp fun {a b} e => Int.ofNat_lt.mpr e
theorem p1_asc (n : Nat) (w : Dep) : (p1 n w).Pairwise (· < ·) := List.Pairwise.filter _ List.pairwise_lt_range
theorem p2_asc (n : Nat) (w : Dep) : (p2 n w).Pairwise (· < ·) := List.Pairwise.filter _ List.pairwise_lt_range
theorem both_eq {n : Nat} {w : Dep} (h : DepOk n w) : sortI ((w.L ++ w.R).map fun (c : Nat) => (c : Int)) = (p1 n w).map fun (c : Nat) => (c : Int) := by
  refine asc_unique (sortI_lt _) (asc_cast (p1_asc n w)) fun k => ?_
  rw [sortI_mem, List.mem_map, List.mem_map]
  constructor
  · rintro ⟨c, hc, rfl⟩
    have hcn : c < n := (List.mem_append.mp hc).elim (h.1 c) (h.2 c)
    exact ⟨c, (p1_mem hcn).mpr (List.mem_append.mp hc), rfl⟩
  · rintro ⟨c, hc, rfl⟩
    have hcn : c < n := List.mem_range.mp (List.mem_filter.mp hc).1
    exact ⟨c, List.mem_append.mpr ((p1_mem hcn).mp hc), rfl⟩
section
variable {P : Program} {w : World} {K : PySem.W.Frag} {mg : Str → Option Value} {base : Heap} {f C : Addr} {fd : FuncData}
/-- _law_parts(width, dependency) -/
def rLawParts (ds : List D) (d : D) : Prop := ∃ (n : Nat) (dp : Dep), ds = [.int (n : Int), depD dp] ∧ dp.st = false ∧ n ≤ 1000 ∧ DepOk n dp ∧ dp.L.length + dp.R.length < 60 ∧ d = .tup [natsT (p1 n dp), natsT (p2 n dp)]
abbrev nLawParts : List Str := ["_law_width", "_law_dependency", "_law_left", "_law_both", "_law_column"]
theorem scLawParts : FnScope nLawParts ["_law_width", "_law_dependency"] (defScope sLawParts) := ⟨rfl, rfl, rfl, by decide +kernel, rfl, by decide +kernel, by decide +kernel⟩
theorem ok_lawParts (F : FnP K "_law_parts" "_law_parts" sLawParts f fd) (B : Bi mg) : FnOk P w K mg base CX0 1 f fd ["_law_width", "_law_dependency"] (spR 2 rLawParts) := by
  refine okR F scLawParts fun cdv A outer s H vs ds d E DE hr rl hrd hq => ?_
  obtain ⟨n, dp, rfl, hst, hn, hok, h60, rfl⟩ := hrd
  obtain ⟨v1, _, rfl, r1, v2, _, rfl, r2, hnil⟩ := rl
  obtain rfl := hnil
  have nd := scLawParts.nd
  have ek : kindS dp = "deals" := by unfold kindS; rw [hst]; rfl
  refine wcons ?_
  refine ws_ifB _ (et_eqS (ev_ixT (i := 0) (ev_name 1 rfl r2) ev_int rfl (fun _ _ => rfl)) ev_str) (fun e => ?_) fun _ H1 s1 => wnil ?_
  · rw [ek] at e
    exact absurd e (by decide)
  have r1 := r1.mono s1
  have r2 := r2.mono s1
  refine wcons ?_
  refine ws_set 2 nd (we_ev (dd := natsT dp.L) (ev_ixT (i := 2) (ev_name 1 rfl r2) ev_int rfl (fun _ _ => rfl)) fun vL H2 s2 rL => ?_)
  refine wcons ?_
  refine ws_set 3 nd (we_ev (dd := natsT (p1 n dp)) (EV.to (ev_tuple (el_sortedsetI (ns := (dp.L ++ dp.R).map fun (c : Nat) => (c : Int)) rfl (fun H3 s3 => ?_) ?_ rfl B.set rfl B.sorted) rfl B.tuple) ?_) fun vB H3 s3 rB => ?_)
  · refine we_ev (dd := .tup ((dp.L.map fun (c : Nat) => D.int (c : Int)) ++ dp.R.map fun (c : Nat) => D.int (c : Int))) (ev_catT (ev_name 2 rfl (rL.mono s3)) (ev_ixT (i := 3) (ev_name 1 rfl ((r2.mono s2).mono s3)) ev_int rfl (fun _ _ => rfl)) ?_) fun v H4 s4 rv => ?_
    · rw [List.length_map, List.length_map, sizeLine_eq]; omega
    · obtain ⟨t, vs, e, ht, rt⟩ := rv
      refine ⟨s4, t, vs, e, .inr ht, ?_⟩
      rw [List.map_map, List.map_append]
      exact rt
  · rw [List.length_map, List.length_append]; omega
  · rw [both_eq hok, List.map_map]
    rfl
  have s13 := s2.trans s3
  refine wone (ws_retV (ev_tup (ea_cons (ev_name 3 rfl rB) (ea_cons (EV.to (ev_tuple (ELS.el (el_filterN 4 (fun c => decide (c ∈ dp.L) || !decide (c ∈ p1 n dp)) (fun (c : Nat) => .int (c : Int)) nd (blkOk_by (N := nLawParts) (sc := defScope sLawParts) (by decide +kernel)) (src_range (ev_name 0 rfl (r1.mono s13)) (by omega) rfl B.range) (by rw [List.length_range]; exact hn)
    (fun c hc H4 s4 b => ⟨et_or (et_inN (ev_name 4 rfl rep_int) (ev_name 2 rfl ((rL.mono s3).mono s4))) fun _ => et_ninN (ev_name 4 rfl rep_int) (ev_name 3 rfl (rB.mono s4)), fun _ => ev_name 4 rfl rep_int⟩))) rfl B.tuple) ?_) ea_nil)) (by show 2 ≤ sizeLine; decide)) fun v H4 s4 r => hq v H4 ((s1.trans s13).trans s4) r)
  unfold natsT
  congr 2
  unfold p2
  refine List.filter_congr fun c hc => ?_
  have hcn := List.mem_range.mp hc
  rw [Bool.eq_iff_iff, Bool.or_eq_true, decide_eq_true_iff, Bool.not_eq_true', decide_eq_false_iff_not, p1_mem hcn, decide_eq_true_iff]
  by_cases h : c ∈ dp.L <;> simp [h]
/-- _law_unlike(rows, dependency) -/
def spUnlike : Sp := fun vs H Q _ => ∃ (n : Nat) (l : Addr) (xs : List V) (rows : List Row) (dp : Dep) (v2 : V), vs = [.ref l, v2] ∧ H l = some (.lst xs) ∧ RepL H (rows.map D.ints) xs ∧ Rep H (depD dp) v2 ∧ DepOk n dp ∧ dp.L.length ≤ 1000 ∧ dp.R.length ≤ 1000 ∧ (∀ r ∈ rows, r.length = n) ∧
  ((∀ a ∈ rows, ∀ b ∈ rows, agr a b dp.L → ∀ c ∈ dp.R, ¬ cel a c < cel b c) → ∀ H', Same H H' → Q .non H') ∧
  ∀ a ∈ rows, ∀ b ∈ rows, agr a b dp.L → ∀ c ∈ dp.R, cel a c < cel b c → ∀ v H', Same H H' → Rep H' (.ints [cel a c, cel b c]) v → Q v H'
abbrev nUnlike : List Str := ["_law_rows", "_law_dependency", "_law_one", "_law_other", "_law_column"]
theorem scUnlike : FnScope nUnlike ["_law_rows", "_law_dependency"] (defScope sLawUnlike) := ⟨rfl, rfl, rfl, by decide +kernel, rfl, by decide +kernel, by decide +kernel⟩
theorem ok_unlike (F : FnP K "_law_unlike" "_law_unlike" sLawUnlike f fd) (B : Bi mg) (G : Ok P w K mg base 1 "_law_pick" (spR 2 rPicked)) : FnOk P w K mg base CX0 2 f fd ["_law_rows", "_law_dependency"] spUnlike := by
  refine fnOk F scUnlike (fun vs H Q E h => ?_) fun cdv A outer s H vs Q E hr h => ?_
  · obtain ⟨n, l, xs, rows, dp, v2, rfl, _⟩ := h
    rfl
  obtain ⟨n, l, xs, rows, dp, v2, rfl, hl, rl, r2, hok, hL, hR, hlen, q1, q2⟩ := h
  have nd := scUnlike.nd
  refine wcons ?_
  refine ws_for PassesOwn.never rfl (pgn 2 nd) ?_
  refine WI.mono ((src_lv (lv_name 0 rfl hl rl)) H (Same.refl _)) ?_
  rintro J1 H1 ⟨s1, rJ1⟩
  refine forW rJ1 (fun i σ' H' => ∃ o2 o3 o4, σ' = [some (.ref l), some v2, o2, o3, o4] ∧ Same H1 H' ∧ ∀ a ∈ rows.take i, ∀ b ∈ rows, agr a b dp.L → ∀ c ∈ dp.R, ¬ cel a c < cel b c)
    ⟨none, none, none, rfl, Same.refl _, (fun a ha => by rw [List.take_zero] at ha; cases ha)⟩ ?_ ?_ ?_
  · rintro i σ' H' _ ⟨_, _, _, _, t, _⟩
    exact t
  · rintro i d σ' H2 hd ⟨o2, o3, o4, rfl, g2, p2⟩ va H3 s3 ra
    rw [List.getElem?_map] at hd
    obtain ⟨a, hai, rfl⟩ : ∃ a, rows[i]? = some a ∧ D.ints a = d := by
      cases h : rows[i]? with
      | none => rw [h] at hd; cases hd
      | some r => rw [h] at hd; exact ⟨r, rfl, Option.some.inj hd⟩
    have ham := List.mem_of_getElem? hai
    have s03 := (s1.trans g2).trans s3
    refine wone ?_
    refine ws_for PassesOwn.never rfl (pgn 3 nd) ?_
    refine WI.mono ((src_lv (lv_name 0 rfl (s03 _ _ hl) (rl.mono s03))) H3 (Same.refl _)) ?_
    rintro J4 H4 ⟨s4, rJ4⟩
    refine forW rJ4 (fun j σ' H' => ∃ o3 o4, σ' = [some (.ref l), some v2, some va, o3, o4] ∧ Same H4 H' ∧ ∀ b ∈ rows.take j, agr a b dp.L → ∀ c ∈ dp.R, ¬ cel a c < cel b c)
      ⟨o3, o4, rfl, Same.refl _, (fun b hb => by rw [List.take_zero] at hb; cases hb)⟩ ?_ ?_ ?_
    · rintro j σ' H' _ ⟨_, _, _, t, _⟩
      exact t
    · rintro j d σ' H5 hd ⟨o3, o4, rfl, g5, p5⟩ vb H6 s6 rb
      rw [List.getElem?_map] at hd
      obtain ⟨b, hbj, rfl⟩ : ∃ b, rows[j]? = some b ∧ D.ints b = d := by
        cases h : rows[j]? with
        | none => rw [h] at hd; cases hd
        | some r => rw [h] at hd; exact ⟨r, rfl, Option.some.inj hd⟩
      have hbm := List.mem_of_getElem? hbj
      have s36 := (s4.trans g5).trans s6
      have s06 := s03.trans s36
      have ra := ra.mono s36
      have r2 := r2.mono s06
      have nxt : ∀ σ' H' o4', σ' = [some (.ref l), some v2, some va, some vb, o4'] → Same H4 H' → (agr a b dp.L → ∀ c ∈ dp.R, ¬ cel a c < cel b c) → ∃ o3 o4, σ' = [some (.ref l), some v2, some va, o3, o4] ∧ Same H4 H' ∧ ∀ b ∈ rows.take (j + 1), agr a b dp.L → ∀ c ∈ dp.R, ¬ cel a c < cel b c := fun σ' H' o4' e s' k => by
        refine ⟨_, _, e, s', fun b' hb' => ?_⟩
        rw [List.take_add_one, hbj] at hb'
        rcases List.mem_append.mp hb' with z | z
        · exact p5 b' z
        · have : b' = b := by simpa using z
          rw [this]; exact k
      refine wone ?_
      refine ws_ifB _ (et_eqD (t := decide (pick a dp.L = pick b dp.L)) hr.units (ev_call G hr rfl (ea_cons (ev_name 2 rfl ra) (ea_cons (ev_ixT (i := 2) (ev_name 1 rfl r2) ev_int rfl (fun _ _ => rfl)) ea_nil)) rfl ⟨a, dp.L, rfl, fun c hc => by rw [hlen a ham]; exact hok.1 c hc, hL, rfl⟩)
        (ev_call G hr rfl (ea_cons (ev_name 3 rfl rb) (ea_cons (ev_ixT (i := 2) (ev_name 1 rfl r2) ev_int rfl (fun _ _ => rfl)) ea_nil)) rfl ⟨b, dp.L, rfl, fun c hc => by rw [hlen b hbm]; exact hok.1 c hc, hL, rfl⟩) (sh_ints _) (sh_ints _) (noB_ints _) (noB_ints _) ?_) (fun e H7 s7 => ?_) fun e H7 s7 => wnil ?_
      · rw [decide_eq_true_iff]
        exact ⟨fun e => by rw [e], fun e => ints_inj e⟩
      · have hab : agr a b dp.L := pick_eq.mp (of_decide_eq_true e)
        refine wone ?_
        refine ws_for PassesOwn.never rfl (pgn 4 nd) ?_
        refine WI.mono (wi_tup (ds := dp.R.map fun (c : Nat) => .int (c : Int)) (ev_ixT (i := 3) (ev_name 1 rfl (r2.mono s7)) ev_int rfl (fun _ _ => rfl))) ?_
        rintro J8 H8 ⟨s8, rJ8⟩
        refine forW rJ8 (fun m σ' H' => ∃ o4, σ' = [some (.ref l), some v2, some va, some vb, o4] ∧ Same H8 H' ∧ ∀ c ∈ dp.R.take m, ¬ cel a c < cel b c)
          ⟨o4, rfl, Same.refl _, (fun b hb => by rw [List.take_zero] at hb; cases hb)⟩ ?_ ?_ ?_
        · rintro m σ' H' _ ⟨_, _, t, _⟩
          exact Same.tm t
        · rintro m d σ' H9 hd ⟨o4, rfl, g9, p9⟩ vc H10 s10 rc
          rw [List.getElem?_map] at hd
          obtain ⟨c, hcm, rfl⟩ : ∃ c, dp.R[m]? = some c ∧ D.int ((c : Nat) : Int) = d := by
            cases h : dp.R[m]? with
            | none => rw [h] at hd; cases hd
            | some r => rw [h] at hd; exact ⟨r, rfl, Option.some.inj hd⟩
          have hcR := List.mem_of_getElem? hcm
          have hcn := hok.2 c hcR
          have s610 := ((s7.trans s8).trans g9).trans s10
          have ra := ra.mono s610
          have rb := rb.mono s610
          refine wone ?_
          refine ws_ifB (decide (cel a c < cel b c)) (et_lt (ev_ixT (i := c) (ev_name 2 rfl ra) (ev_name 4 rfl rc) (ints_at (by rw [hlen a ham]; exact hcn)) (fun _ _ => rfl)) (ev_ixT (i := c) (ev_name 3 rfl rb) (ev_name 4 rfl rc) (ints_at (by rw [hlen b hbm]; exact hcn)) (fun _ _ => rfl))) (fun e2 H11 s11 => ?_) fun e2 H11 s11 => wnil ?_
          · refine wone (ws_retV (d := .ints [cel a c, cel b c]) (ev_tup (ea_cons (ev_ixT (i := c) (ev_name 2 rfl (ra.mono s11)) (ev_name 4 rfl rc) (ints_at (by rw [hlen a ham]; exact hcn)) (fun _ _ => rfl)) (ea_cons (ev_ixT (i := c) (ev_name 3 rfl (rb.mono s11)) (ev_name 4 rfl rc) (ints_at (by rw [hlen b hbm]; exact hcn)) (fun _ _ => rfl)) ea_nil)) (by show 2 ≤ sizeLine; decide)) fun v H12 s12 rv => ?_)
            exact q2 a ham b hbm hab c hcR (of_decide_eq_true e2) v H12 (((s06.trans s610).trans s11).trans s12) rv
          · refine ⟨_, rfl, (g9.trans s10).trans s11, fun c' hc' => ?_⟩
            rw [List.take_add_one, hcm] at hc'
            rcases List.mem_append.mp hc' with z | z
            · exact p9 c' z
            · have : c' = c := by simpa using z
              rw [this]; exact of_decide_eq_false e2
        · rintro σ' H9 ⟨o4, rfl, g9, p9⟩
          rw [List.length_map, List.take_length] at p9
          exact nxt _ H9 _ rfl ((((g5.trans s6).trans s7).trans s8).trans g9) fun _ => p9
      · exact nxt _ H7 _ rfl ((g5.trans s6).trans s7) fun hab => absurd (pick_eq.mpr hab) (of_decide_eq_false e)
    · rintro σ' H5 ⟨o3, o4, rfl, g5, p5⟩
      rw [List.length_map, List.take_length] at p5
      refine ⟨_, _, _, rfl, ((g2.trans s3).trans s4).trans g5, fun a' ha' => ?_⟩
      rw [List.take_add_one, hai] at ha'
      rcases List.mem_append.mp ha' with z | z
      · exact p2 a' z
      · have : a' = a := by simpa using z
        rw [this]; exact p5
  · rintro σ' H2 ⟨o2, o3, o4, rfl, g2, p2⟩
    rw [List.length_map, List.take_length] at p2
    refine wone (ws_retV ev_non fun v H3 s3 rv => ?_)
    rw [show v = V.non from rv]
    exact q1 p2 H3 ((s1.trans g2).trans s3)
end
end Nr
/-! The law's defs: joined. -/
namespace Nr
open PySem PySem.Spec L2
open PyProof.Rows hiding St

/-! ### what it computes -/
def pickS (p : List Nat) (rs : List Row) (r : Row) : List Row := if pick r p ∈ rs.map (fun s => pick s p) then rs else rs ++ [r]
def picksF (p : List Nat) (rows : List Row) : List Row := rows.foldl (pickS p) []
def longS (n : Nat) (p : List Nat) (k : LK) (ls : List LK) (r : Row) : List LK := if fits k r p then addN ls (mkk n p k r) else ls
def longF (n : Nat) (p : List Nat) (rs : List Row) (ls : List LK) (k : LK) : List LK := rs.foldl (longS n p k) ls
def partF (n : Nat) (rows : List Row) (ks : List LK) (p : List Nat) : List LK := ks.foldl (longF n p (picksF p rows)) []
def joinF (n : Nat) (rows : List Row) (dp : Dep) : List LK := [p1 n dp, p2 n dp].foldl (partF n rows) [List.replicate n .none]
theorem pickS_len (p : List Nat) (rs : List Row) (r : Row) : (pickS p rs r).length ≤ rs.length + 1 := by
  unfold pickS
  split
  · exact Nat.le_succ _
  · rw [List.length_append]; exact Nat.le_refl _
theorem picks_fold {p : List Nat} : ∀ (rows acc : List Row), (∀ r, r ∈ rows.foldl (pickS p) acc → r ∈ acc ∨ r ∈ rows) ∧ (∀ r, r ∈ acc ∨ r ∈ rows → ∃ s ∈ rows.foldl (pickS p) acc, pick r p = pick s p) ∧ (rows.foldl (pickS p) acc).length ≤ acc.length + rows.length
  | [], acc => ⟨fun r h => .inl h, fun r h => h.elim (fun z => ⟨r, z, rfl⟩) (fun z => nomatch z), Nat.le_refl _⟩
  | x :: rows, acc => by
    obtain ⟨h1, h2, h3⟩ := picks_fold rows (pickS p acc x)
    rw [List.foldl_cons]
    have mono : ∀ r ∈ acc, r ∈ pickS p acc x := fun r hr => by
      unfold pickS
      split
      · exact hr
      · exact List.mem_append_left _ hr
    refine ⟨fun r hr => ?_, fun r hr => ?_, ?_⟩
    · rcases h1 r hr with z | z
      · unfold pickS at z
        split at z
        · exact .inl z
        · rcases List.mem_append.mp z with y | y
          · exact .inl y
          · rw [List.mem_singleton.mp y]; exact .inr List.mem_cons_self
      · exact .inr (List.mem_cons_of_mem _ z)
    · rcases hr with z | z
      · exact h2 r (.inl (mono r z))
      · rcases List.mem_cons.mp z with y | y
        · by_cases q : pick x p ∈ acc.map (fun s => pick s p)
          · obtain ⟨s, hs, e⟩ := List.mem_map.mp q
            obtain ⟨u, hu, e2⟩ := h2 s (.inl (mono s hs))
            exact ⟨u, hu, by rw [y, ← e, e2]⟩
          · refine h2 r (.inl ?_)
            unfold pickS
            rw [if_neg q, y]
            exact List.mem_append_right _ List.mem_cons_self
        · exact h2 r (.inr y)
    · have := pickS_len p acc x
      rw [List.length_cons]
      omega
theorem picksF_sub {p : List Nat} {rows : List Row} {r : Row} (h : r ∈ picksF p rows) : r ∈ rows := ((picks_fold rows []).1 r h).elim (fun z => nomatch z) id
theorem picksF_all {p : List Nat} {rows : List Row} {r : Row} (h : r ∈ rows) : ∃ s ∈ picksF p rows, pick r p = pick s p := (picks_fold rows []).2.1 r (.inr h)
theorem picksF_len (p : List Nat) (rows : List Row) : (picksF p rows).length ≤ rows.length := by
  have := (picks_fold (p := p) rows []).2.2
  rw [List.length_nil, Nat.zero_add] at this
  exact this
theorem longF_mem {n : Nat} {p : List Nat} {k x : LK} : ∀ (rs : List Row) (ls : List LK), x ∈ longF n p rs ls k ↔ x ∈ ls ∨ ∃ r ∈ rs, fits k r p ∧ x = mkk n p k r
  | [], ls => by simp [longF]
  | r :: rs, ls => by
    show x ∈ longF n p rs (longS n p k ls r) k ↔ _
    rw [longF_mem rs]
    unfold longS
    by_cases h : fits k r p
    · rw [if_pos h, addN_mem]
      constructor
      · rintro ((z | z) | ⟨s, hs, q⟩)
        · exact .inl z
        · exact .inr ⟨r, List.mem_cons_self, h, z⟩
        · exact .inr ⟨s, List.mem_cons_of_mem _ hs, q⟩
      · rintro (z | ⟨s, hs, q⟩)
        · exact .inl (.inl z)
        · rcases List.mem_cons.mp hs with y | y
          · rw [y] at q; exact .inl (.inr q.2)
          · exact .inr ⟨s, y, q⟩
    · rw [if_neg h]
      constructor
      · rintro (z | ⟨s, hs, q⟩)
        · exact .inl z
        · exact .inr ⟨s, List.mem_cons_of_mem _ hs, q⟩
      · rintro (z | ⟨s, hs, q⟩)
        · exact .inl z
        · rcases List.mem_cons.mp hs with y | y
          · rw [y] at q; exact absurd q.1 h
          · exact .inr ⟨s, y, q⟩
theorem longS_nodup {n : Nat} {p : List Nat} {k : LK} {ls : List LK} {r : Row} (h : ls.Nodup) : (longS n p k ls r).Nodup := by
  unfold longS
  split
  · exact addN_nodup h
  · exact h
theorem longS_len {n : Nat} {p : List Nat} {k : LK} {ls : List LK} {r : Row} : (longS n p k ls r).length ≤ ls.length + 1 := by
  unfold longS
  split
  · exact addN_len _ _
  · exact Nat.le_succ _
theorem longF_nodup {n : Nat} {p : List Nat} {k : LK} : ∀ (rs : List Row) {ls : List LK}, ls.Nodup → (longF n p rs ls k).Nodup
  | [], _, h => h
  | _ :: rs, _, h => longF_nodup rs (longS_nodup h)
theorem longF_len {n : Nat} {p : List Nat} {k : LK} : ∀ (rs : List Row) (ls : List LK), (longF n p rs ls k).length ≤ ls.length + rs.length
  | [], _ => Nat.le_refl _
  | r :: rs, ls => by
    have h1 := longF_len (n := n) (p := p) (k := k) rs (longS n p k ls r)
    have h2 := longS_len (n := n) (p := p) (k := k) (ls := ls) (r := r)
    show (longF n p rs (longS n p k ls r) k).length ≤ _
    rw [List.length_cons]
    omega
theorem part_fold {n : Nat} {p : List Nat} {rs : List Row} {x : LK} : ∀ (ks ls : List LK), x ∈ ks.foldl (longF n p rs) ls ↔ x ∈ ls ∨ ∃ k ∈ ks, ∃ r ∈ rs, fits k r p ∧ x = mkk n p k r
  | [], ls => by simp
  | k :: ks, ls => by
    rw [List.foldl_cons, part_fold ks, longF_mem]
    constructor
    · rintro ((z | z) | ⟨s, hs, q⟩)
      · exact .inl z
      · exact .inr ⟨k, List.mem_cons_self, z⟩
      · exact .inr ⟨s, List.mem_cons_of_mem _ hs, q⟩
    · rintro (z | ⟨s, hs, q⟩)
      · exact .inl (.inl z)
      · rcases List.mem_cons.mp hs with y | y
        · rw [y] at q; exact .inl (.inr q)
        · exact .inr ⟨s, y, q⟩
theorem part_nodup {n : Nat} {p : List Nat} {rs : List Row} : ∀ (ks : List LK) {ls : List LK}, ls.Nodup → (ks.foldl (longF n p rs) ls).Nodup
  | [], _, h => h
  | _ :: ks, _, h => part_nodup ks (longF_nodup rs h)
theorem part_len {n : Nat} {p : List Nat} {rs : List Row} : ∀ (ks ls : List LK), (ks.foldl (longF n p rs) ls).length ≤ ls.length + ks.length * rs.length
  | [], _ => by simp
  | k :: ks, ls => by
    have h1 := part_len (n := n) (p := p) (rs := rs) ks (longF n p rs ls k)
    have h2 := longF_len (n := n) (p := p) (k := k) rs ls
    rw [List.foldl_cons, List.length_cons, Nat.succ_mul]
    omega
theorem partF_mem {n : Nat} {rows : List Row} {ks : List LK} {p : List Nat} {x : LK} : x ∈ partF n rows ks p ↔ Nxt n rows p (· ∈ ks) x := by
  unfold partF Nxt
  rw [part_fold]
  constructor
  · rintro (z | ⟨k, hk, r, hr, h, e⟩)
    · cases z
    · exact ⟨k, r, hk, picksF_sub hr, h, e⟩
  · rintro ⟨k, r, hk, hr, h, e⟩
    obtain ⟨s, hs, q⟩ := picksF_all (p := p) hr
    exact .inr ⟨k, hk, s, hs, (fits_pick q).mp h, by rw [e, mkk_pick q]⟩
theorem partF_len {n : Nat} {rows : List Row} {ks : List LK} {p : List Nat} (h : rows.length ≤ 8) : (partF n rows ks p).length ≤ ks.length * 8 := by
  have h1 := part_len (n := n) (p := p) (rs := picksF p rows) ks []
  rw [List.length_nil, Nat.zero_add] at h1
  exact Nat.le_trans h1 (Nat.mul_le_mul_left _ (Nat.le_trans (picksF_len p rows) h))
theorem partF_nodup {n : Nat} {rows : List Row} {ks : List LK} {p : List Nat} : (partF n rows ks p).Nodup := part_nodup ks List.nodup_nil
/-- a half: its cells are numbers or None -/
structure Half (n : Nat) (k : LK) : Prop where
  len : k.length = n
  nt : ∀ c, kat k c = .none ∨ ∃ i, kat k c = .num i
theorem Half.mkk {n : Nat} {k : LK} (h : Half n k) (p : List Nat) (r : Row) : Half n (mkk n p k r) := ⟨mkk_len .., fun c => by
  by_cases hc : c < n
  · rw [mkk_at hc]
    by_cases q : c ∈ p
    · rw [if_pos q]; exact .inr ⟨_, rfl⟩
    · rw [if_neg q]; exact h.nt c
  · refine .inl ?_
    unfold kat
    rw [List.getD_eq_getElem?_getD, List.getElem?_eq_none (by rw [mkk_len]; omega)]
    rfl⟩
theorem Half.part {n : Nat} {rows : List Row} {ks : List LK} {p : List Nat} (h : ∀ k ∈ ks, Half n k) : ∀ k ∈ partF n rows ks p, Half n k := fun x hx => by
  obtain ⟨k, r, hk, _, _, e⟩ := partF_mem.mp hx
  rw [e]
  exact (h k hk).mkk p r
theorem half0 (n : Nat) : Half n (List.replicate n .none) := ⟨List.length_replicate, fun c => by
  refine .inl ?_
  unfold kat
  rw [List.getD_eq_getElem?_getD]
  by_cases h : c < n
  · rw [List.getElem?_replicate, if_pos h]; rfl
  · rw [List.getElem?_replicate, if_neg h]; rfl⟩
theorem Half.rowD {n : Nat} {k : LK} (h : Half n k) : RowD (keyD k) := ⟨_, rfl, fun x hx => by
  obtain ⟨l, hl, rfl⟩ := List.mem_map.mp hx
  obtain ⟨i, hi, e⟩ := List.getElem_of_mem hl
  have := h.nt i
  unfold kat at this
  rw [List.getD_eq_getElem?_getD, List.getElem?_eq_getElem hi] at this
  have e' : (some k[i]).getD Leaf.none = l := e
  rw [e'] at this
  rcases this with z | ⟨j, z⟩ <;> rw [z] <;> rfl⟩
theorem keyD_inj {a b : LK} (h : keyD a = keyD b) : a = b := map_inj (fun x y e => leD1_inj e) (D.tup.inj h)
theorem mem_keyD {k : LK} {ks : List LK} : keyD k ∈ ks.map keyD ↔ k ∈ ks := by
  rw [List.mem_map]
  exact ⟨fun ⟨a, ha, e⟩ => keyD_inj e ▸ ha, fun h => ⟨k, h, rfl⟩⟩
theorem Nxt.congr {n : Nat} {rows : List Row} {p : List Nat} {K K' : LK → Prop} (h : ∀ k, K k ↔ K' k) (k : LK) : Nxt n rows p K k ↔ Nxt n rows p K' k :=
  ⟨fun ⟨a, r, h1, h2⟩ => ⟨a, r, (h a).mp h1, h2⟩, fun ⟨a, r, h1, h2⟩ => ⟨a, r, (h a).mpr h1, h2⟩⟩
theorem joinF_mem {n : Nat} {rows : List Row} {dp : Dep} (hr : ∀ r ∈ rows, r.length = n) (hd : DepOk n dp) (k : LK) : k ∈ joinF n rows dp ↔ ∃ a ∈ rows, ∃ b ∈ rows, agr a b dp.L ∧ k = kx (mix n dp.R a b) := by
  refine Iff.trans ?_ (nxt2 hr hd k)
  show k ∈ partF n rows (partF n rows [List.replicate n .none] (p1 n dp)) (p2 n dp) ↔ _
  rw [partF_mem]
  refine Nxt.congr (fun x => ?_) k
  rw [partF_mem]
  exact Nxt.congr (fun y => List.mem_singleton) x
theorem joinF_nodup {n : Nat} {rows : List Row} {dp : Dep} : (joinF n rows dp).Nodup := partF_nodup
theorem joinF_rows {n : Nat} {rows : List Row} {dp : Dep} (hr : ∀ r ∈ rows, r.length = n) (hd : DepOk n dp) : ∃ js : List Row, joinF n rows dp = js.map kx := by
  have gen : ∀ l : List LK, (∀ k ∈ l, ∃ r : Row, k = kx r) → ∃ ms : List Row, l = ms.map kx := fun l => by
    induction l with
    | nil => intro _; exact ⟨[], rfl⟩
    | cons k l ih =>
      intro h
      obtain ⟨r, hr⟩ := h k List.mem_cons_self
      obtain ⟨ms, hms⟩ := ih fun k hk => h k (List.mem_cons_of_mem _ hk)
      exact ⟨r :: ms, by rw [hr, hms, List.map_cons]⟩
  refine gen _ fun k hk => ?_
  obtain ⟨a, _, b, _, _, e⟩ := (joinF_mem hr hd k).mp hk
  exact ⟨_, e⟩

/-! ### the walk -/
section
variable {X : Cx} {a : Expr} {σ : L2.St} {H : Hp} {d : D} {t : Bool} {pos p : Pos} {j : Nat}
theorem et_isnotN (ha : EV X a σ H d) (hl : Leafy d = true) (ht : t = true ↔ d = .non) (hm : behindInMarks .IsNot (.Constant .none j p) = false := by first | exact nobehind _ (by decide) (by decide) | rfl) : ET X (.Compare a [.IsNot] [.Constant .none j p] pos) σ H (!t) :=
  et_cmp op_notN ha ev_non hm fun x y H1 _ rx ry Q q => by
    have e : (x = V.non ↔ d = .non) := by
      have := rep_eqL (d2 := .non) hl rfl rx ry
      rw [show y = V.non from ry] at this
      exact this
    exact ⟨ry, by rw [dec_of e ht]; exact q _ (Same.refl _)⟩
end
abbrev nJoined : List Str := ["_law_width", "_law_rows", "_law_parts_here", "_law_found", "_law_part", "_law_picks", "_law_row", "_law_pick_here", "_law_longer", "_law_half", "_law_fits", "_law_k"]
theorem scJoined : FnScope nJoined ["_law_width", "_law_rows", "_law_parts_here"] (defScope sLawJoined) := ⟨rfl, rfl, rfl, by decide +kernel, rfl, by decide +kernel, by decide +kernel⟩
abbrev jB1 : List Stmt := fb ((defBody sLawJoined).getD 1 (.Pass ⟨0, 0, 0, 0⟩))
abbrev jB3 : List Stmt := fb (jB1.getD 3 (.Pass ⟨0, 0, 0, 0⟩))
abbrev jB4 : List Stmt := fb (jB3.getD 0 (.Pass ⟨0, 0, 0, 0⟩))
abbrev jB5 : List Stmt := fb (jB4.getD 2 (.Pass ⟨0, 0, 0, 0⟩))
theorem kat_ix {k : LK} {c : Nat} (h : c < k.length) : (k.map leD1)[c]? = some (leD1 (kat k c)) := by
  unfold kat
  rw [List.getElem?_map, List.getD_eq_getElem?_getD, List.getElem?_eq_getElem h]
  rfl
theorem leafNB_le (x : Leaf) : LeafNB (leD1 x) = true := by cases x <;> rfl
theorem leafy_le (x : Leaf) : Leafy (leD1 x) = true := by cases x <;> rfl
theorem leD1_non {x : Leaf} : leD1 x = .non ↔ x = .none := by cases x <;> simp [leD1]
theorem leD1_num {x : Leaf} {i : Int} : leD1 x = .int i ↔ x = .num i := by cases x <;> simp [leD1]
theorem mkk_nil {n : Nat} {k : LK} {r : Row} (h : k.length = n) : mkk n [] k r = k := kext (n := n) (mkk_len ..) h fun c hc => by rw [mkk_at hc, if_neg (fun z => nomatch z)]
theorem take_get {α : Type} {l : List α} {i : Nat} {c : α} (h : l[i]? = some c) : l.take (i + 1) = l.take i ++ [c] := by rw [List.take_add_one, h]; rfl
theorem not_take {p : List Nat} (hd : p.Nodup) {i c : Nat} (h : p[i]? = some c) : c ∉ p.take i := fun z => by
  obtain ⟨j, hj, e⟩ := List.getElem_of_mem z
  rw [List.length_take] at hj
  rw [List.getElem_take] at e
  obtain ⟨hi, e2⟩ := List.getElem?_eq_some_iff.mp h
  have := (List.getElem_inj hd).mp (e.trans e2.symm)
  omega
theorem mkk_step {n : Nat} {p : List Nat} {k : LK} {r : Row} {i c : Nat} (h : p[i]? = some c) (hc : c < n) : (mkk n (p.take i) k r).set c (.num (cel r c)) = mkk n (p.take (i + 1)) k r := by
  refine kext (n := n) (by rw [List.length_set, mkk_len]) (mkk_len ..) fun e he => ?_
  rw [mkk_at he, take_get h]
  unfold kat
  rw [List.getD_eq_getElem?_getD, List.getElem?_set]
  by_cases q : c = e
  · subst q
    rw [if_pos rfl, if_pos (by rw [mkk_len]; exact hc), if_pos (List.mem_append_right _ List.mem_cons_self)]
    rfl
  · rw [if_neg q, ← List.getD_eq_getElem?_getD]
    have := mkk_at (n := n) (p := p.take i) (k := k) (r := r) he
    unfold kat at this
    rw [this]
    by_cases z : e ∈ p.take i
    · rw [if_pos z, if_pos (List.mem_append_left _ z)]
    · rw [if_neg z, if_neg (fun y => (List.mem_append.mp y).elim z fun y => q (List.mem_singleton.mp y).symm)]
theorem fits_step {p : List Nat} {k : LK} {r : Row} {i c : Nat} (h : p[i]? = some c) : fits k r (p.take (i + 1)) ↔ fits k r (p.take i) ∧ (kat k c = .none ∨ kat k c = .num (cel r c)) := by
  rw [take_get h]
  unfold fits
  constructor
  · exact fun f => ⟨fun x hx => f x (List.mem_append_left _ hx), f c (List.mem_append_right _ List.mem_cons_self)⟩
  · rintro ⟨f, g⟩ x hx
    rcases List.mem_append.mp hx with z | z
    · exact f x z
    · rw [List.mem_singleton.mp z]; exact g
section
variable {P : Program} {w : World} {K : PySem.W.Frag} {mg : Str → Option Value} {base : Heap} {f C : Addr} {fd : FuncData}
abbrev XJ (P : Program) (w : World) (K : PySem.W.Frag) (mg : Str → Option Value) (base : Heap) (f : Addr) (cdv : Value) (A : Around) (outer : List Env) (s : Shared) (H : Hp) (E : XK) : Cx := (cxOf CX0 P w K mg base nJoined "_law_joined" (defScope sLawJoined) f cdv A outer s H E).nox
theorem join5 {cdv : Value} {A : Around} {outer : List Env} {s : Shared} {H0 : Hp} {E : XK} (B : Bi mg) {DE : Ends} {n i c : Nat} {v0 v1 v2 v3 v5 v8 v9 vp vq : V} {σ : L2.St} {l6 : Addr} {k : LK} {r : Row} {p : List Nat} {H : Hp}
    (hσ : σ = [some v0, some v1, some v2, some v3, some vp, some v5, some (.ref l6), some vq, some v8, some v9, some (.bl (decide (fits k r (p.take i)))), some (.int ((i : Nat) : Int))])
    (hp : Rep H (natsT p) vp) (hpd : p.Nodup) (hc : p[i]? = some c) (hcn : c < n) (hkl : k.length = n) (hq : Rep H (.ints (pick r p)) vq) (h6 : H l6 = some (.lst ((mkk n (p.take i) k r).map leV)))
    (q : ∀ H', Fram H H' [l6] → Tm H H' → H' l6 = some (.lst ((mkk n (p.take (i + 1)) k r).map leV)) → DE.nx [some v0, some v1, some v2, some v3, some vp, some v5, some (.ref l6), some vq, some v8, some v9, some (.bl (decide (fits k r (p.take (i + 1))))), some (.int ((i : Nat) : Int))] H') :
    WSs (XJ P w K mg base f cdv A outer s H0 E) jB5 DE σ H := by
  have nd := scJoined.nd
  subst hσ
  have hpi : (p.map fun (c : Nat) => D.int (c : Int))[i]? = some (.int (c : Int)) := by rw [List.getElem?_map, hc]; rfl
  have hqi : ((pick r p).map D.int)[i]? = some (.int (cel r c)) := by
    unfold pick
    rw [List.map_map, List.getElem?_map, hc]
    rfl
  have hci : ((mkk n (p.take i) k r).map leD1)[c]? = some (leD1 (kat k c)) := by
    rw [kat_ix (by rw [mkk_len]; exact hcn), mkk_at hcn, if_neg (not_take hpd hc)]
  have rest : ∀ H7, Same H H7 → WSs (XJ P w K mg base f cdv A outer s H0 E) (jB5.drop 1) DE [some v0, some v1, some v2, some v3, some vp, some v5, some (.ref l6), some vq, some v8, some v9, some (.bl (decide (fits k r (p.take (i + 1))))), some (.int ((i : Nat) : Int))] H7 := fun H7 s7 => by
    refine wone (ws_asg (pg_sub pe_w pe_w set_list) (we_ev (ev_ixT (i := i) (ev_name 7 rfl (hq.mono s7)) (ev_name 11 rfl rep_int) hqi (fun _ _ => rfl)) fun v H8 s8 rv => ?_))
    obtain rfl := (show v = V.int (cel r c) from rv)
    refine NV.use (nv_name 6 rfl) ?_
    refine we_ev (ev_ixT (i := i) (ev_name 4 rfl ((hp.mono s7).mono s8)) (ev_name 11 rfl rep_int) hpi (fun _ _ => rfl)) fun v9 H9 s9 r9 => ?_
    obtain rfl := (show v9 = V.int (c : Int) from r9)
    have s79 := (s7.trans s8).trans s9
    have g6 := s79 _ _ h6
    refine ⟨l6, _, _, c, rfl, rfl, g6, ?_, ?_⟩
    · rw [List.length_map, mkk_len]
      exact ixN_nat hcn
    · have e : ((mkk n (p.take i) k r).map leV).set c (.int (cel r c)) = (mkk n (p.take (i + 1)) k r).map leV := by
        rw [← mkk_step hc hcn, List.map_set]
        rfl
      rw [e]
      exact q _ ((Same.fram s79).own List.mem_cons_self) ((Same.tm s79).trans (tm_upd g6 (by intro xs z; cases z))) upd_same
  refine wcons ?_
  refine ws_ifB (!decide (kat k c = .none) && !decide (kat k c = .num (cel r c))) ?_ (fun e H7 s7 => ?_) fun e H7 s7 => wnil ?_
  · refine et_and (et_isnotN (t := decide (kat k c = .none)) (ev_ixL (i := c) (lv_name 6 rfl h6 (repL_le _)) (ev_ixT (i := i) (ev_name 4 rfl hp) (ev_name 11 rfl rep_int) hpi (fun _ _ => rfl)) hci) (leafy_le _) ?_) fun _ => et_neL (t := decide (kat k c = .num (cel r c))) (ev_ixL (i := c) (lv_name 6 rfl h6 (repL_le _)) (ev_ixT (i := i) (ev_name 4 rfl hp) (ev_name 11 rfl rep_int) hpi (fun _ _ => rfl)) hci) (ev_ixT (i := i) (ev_name 7 rfl hq) (ev_name 11 rfl rep_int) hqi (fun _ _ => rfl)) (leafNB_le _) rfl ?_
    · rw [decide_eq_true_iff]; exact leD1_non.symm
    · rw [decide_eq_true_iff]; exact leD1_num.symm
  · refine wone (ws_set 10 nd (we_ev ev_bl fun v H8 s8 rv => ?_))
    obtain rfl := (show v = V.bl false from rv)
    have hn : ¬ (kat k c = .none ∨ kat k c = .num (cel r c)) := by
      rw [Bool.and_eq_true] at e
      obtain ⟨e1, e2⟩ := e
      rintro (z | z)
      · rw [decide_eq_true z] at e1; cases e1
      · rw [decide_eq_true z] at e2; cases e2
    have ef : decide (fits k r (p.take (i + 1))) = false := decide_eq_false fun z => hn ((fits_step hc).mp z).2
    have := rest H8 (s7.trans s8)
    rw [ef] at this
    exact this
  · have hn : kat k c = .none ∨ kat k c = .num (cel r c) := by
      by_cases z1 : kat k c = .none
      · exact .inl z1
      · by_cases z2 : kat k c = .num (cel r c)
        · exact .inr z2
        · rw [decide_eq_false z1, decide_eq_false z2] at e; cases e
    have ef : decide (fits k r (p.take (i + 1))) = decide (fits k r (p.take i)) := by
      rw [Bool.eq_iff_iff, decide_eq_true_iff, decide_eq_true_iff, fits_step hc]
      exact ⟨fun z => z.1, fun z => ⟨z, hn⟩⟩
    have := rest H7 s7
    rw [ef] at this
    exact this
theorem join4 {cdv : Value} {A : Around} {outer : List Env} {s : Shared} {H0 : Hp} {E : XK} (B : Bi mg) (hu : A.units + 68 < cLine) {DE : Ends} {n : Nat} {v0 v1 v2 v3 v5 vk vp vq : V} {σ : L2.St} {o6 o10 o11 : Option V} {ll : Addr} {lvs : List V} {ls : List LK} {k : LK} {r : Row} {p : List Nat} {H : Hp}
    (hσ : σ = [some v0, some v1, some v2, some v3, some vp, some v5, o6, some vq, some (.ref ll), some vk, o10, o11])
    (hp : Rep H (natsT p) vp) (hpd : p.Nodup) (hpn : ∀ c ∈ p, c < n) (hpl : p.length ≤ 1000) (hk : Rep H (keyD k) vk) (hkh : Half n k) (hq : Rep H (.ints (pick r p)) vq) (hll : H ll = some (.lst lvs)) (rl : RepL H (ls.map keyD) lvs) (hls : ∀ k ∈ ls, Half n k) (hln : ls.length ≤ 1000)
    (q : ∀ H' lvs' o6' o10' o11', Fram H H' [ll] → Tm H H' → H' ll = some (.lst lvs') → RepL H' ((longS n p k ls r).map keyD) lvs' → DE.nx [some v0, some v1, some v2, some v3, some vp, some v5, o6', some vq, some (.ref ll), some vk, o10', o11'] H') :
    WSs (XJ P w K mg base f cdv A outer s H0 E) jB4 DE σ H := by
  have nd := scJoined.nd
  subst hσ
  refine wcons ?_
  refine ws_set 10 nd (we_ev ev_bl fun v H1 s1 rv => ?_)
  obtain rfl := (show v = V.bl true from rv)
  refine wcons ?_
  refine ws_set 6 nd (we_el (el_listT (ev_name 9 rfl (hk.mono s1)) rfl B.list) fun l6 vs6 H2 hl6 s2 h2' r2 => ?_)
  obtain rfl := key_of r2
  have s12 := s1.trans s2
  have hl60 : H l6 = none := Same.free s1 hl6
  refine wcons ?_
  refine ws_for PassesOwn.never rfl (pgn 11 nd) ?_
  refine WI.mono (wi_range (n := p.length) (EV.to (ev_lenT (ev_name 4 rfl (hp.mono s12)) rfl B.len) (by rw [List.length_map])) (by omega) rfl B.range) ?_
  rintro J H3 ⟨s3, rJ⟩
  have s13 := s12.trans s3
  refine forW (rJ (fun _ => True)) (fun i σ' H' => ∃ o11, σ' = [some v0, some v1, some v2, some v3, some vp, some v5, some (.ref l6), some vq, some (.ref ll), some vk, some (.bl (decide (fits k r (p.take i)))), o11] ∧ Same H H' ∧ H' l6 = some (.lst ((mkk n (p.take i) k r).map leV)))
    ⟨o11, ?_, s13, ?_⟩ (fun _ _ _ _ _ => trivial) ?_ ?_
  · have : decide (fits k r (p.take 0)) = true := decide_eq_true fun c hc => by rw [List.take_zero] at hc; cases hc
    rw [this]
    rfl
  · rw [List.take_zero, mkk_nil hkh.len]
    exact s3 _ _ h2'
  · rintro i d σ' H4 hd ⟨o11', rfl, g0, g6⟩ x H5 s5 rx
    have hip : i < p.length := by
      have := (List.getElem?_eq_some_iff.mp hd).1
      rw [natsD, List.length_map, List.length_range] at this
      exact this
    obtain rfl : D.int ((i : Nat) : Int) = d := by
      rw [natsD, List.getElem?_map, List.getElem?_range hip] at hd
      exact Option.some.inj hd
    obtain rfl := (show x = V.int ((i : Nat) : Int) from rx)
    have hc : p[i]? = some p[i] := List.getElem?_eq_getElem hip
    have g05 := g0.trans s5
    refine join5 B rfl (hp.mono g05) hpd hc (hpn _ (List.getElem_mem hip)) hkh.len (hq.mono g05) (s5 _ _ g6) fun H6 f6 t6 g6' => ?_
    refine ⟨_, rfl, fun a u ha => ?_, g6'⟩
    refine f6 a u (g05 a u ha) fun z => ?_
    rw [List.mem_singleton.mp z, hl60] at ha
    cases ha
  · rintro σ' H4 ⟨o11', rfl, g0, g6⟩
    have el : (natsD p.length).length = p.length := by rw [natsD, List.length_map, List.length_range]
    rw [el, List.take_length] at g6
    rw [el, List.take_length]
    have gll := g0 _ _ hll
    have hm := hkh.mkk p r
    refine wone ?_
    refine ws_ifB (decide (fits k r p) && !decide (mkk n p k r ∈ ls)) ?_ (fun e H5 s5 => ?_) fun e H5 s5 => wnil ?_
    · refine et_and (et_val (ev_name 10 rfl rfl)) fun _ => et_ninLL (d := keyD (mkk n p k r)) (ds := ls.map keyD) ?_ (ev_tupleL (lv_name 6 rfl g6 (repL_le _)) rfl B.tuple) (lv_name 8 rfl gll (rl.mono g0)) hm.rowD (fun d hd => ?_) ?_
      · show A.units + 3 + 65 < cLine
        omega
      · obtain ⟨y, hy, rfl⟩ := List.mem_map.mp hd
        exact (hls y hy).rowD
      · rw [decide_eq_true_iff]
        exact mem_keyD.symm
    · rw [Bool.and_eq_true] at e
      obtain ⟨e1, e2⟩ := e
      have h1 : fits k r p := of_decide_eq_true e1
      have h2 : mkk n p k r ∉ ls := fun z => by rw [decide_eq_true z] at e2; cases e2
      refine wone ?_
      refine ws_app (ds := ls.map keyD) (d := keyD (mkk n p k r)) (nv_name 8 rfl) (s5 _ _ gll) ((rl.mono g0).mono s5) (by rw [List.length_map]; omega) (ev_tupleL (lv_name 6 rfl (s5 _ _ g6) (repL_le _)) rfl B.tuple) fun v H6 s6 r6 f6 t6 => ?_
      refine q _ _ _ _ _ ((Same.fram (g0.trans s5)).trans f6 fun a ha => .inl ha) ((Same.tm (g0.trans s5)).trans t6) upd_same ?_
      unfold longS addN
      rw [if_pos h1, if_neg h2, List.map_append]
      exact r6
    · refine q _ lvs _ _ _ (Same.fram (g0.trans s5)) (Same.tm (g0.trans s5)) (s5 _ _ gll) ?_
      have e2 : longS n p k ls r = ls := by
        unfold longS addN
        by_cases h1 : fits k r p
        · rw [if_pos h1]
          by_cases h2 : mkk n p k r ∈ ls
          · rw [if_pos h2]
          · rw [decide_eq_true h1, decide_eq_false h2] at e; cases e
        · rw [if_neg h1]
      rw [e2]
      exact (rl.mono g0).mono s5
end
end Nr
/-! The law's defs: joined, missing. -/
namespace Nr
open PySem PySem.Spec L2
open PyProof.Rows hiding St

section
variable {P : Program} {w : World} {K : PySem.W.Frag} {mg : Str → Option Value} {base : Heap} {f C : Addr} {fd : FuncData}
theorem join1 {cdv : Value} {A : Around} {outer : List Env} {s : Shared} {H0 : Hp} {E : XK} (B : Bi mg) (G : Ok P w K mg base 1 "_law_pick" (spR 2 rPicked)) (hr : Room 1 (A.deeper (envOfC "_law_joined" (defScope sLawJoined) s.heap.objs.size f cdv))) (hu : A.units + 68 < cLine) {DE : Ends} {n : Nat} {v0 v2 vp : V} {σ : L2.St} {o5 o6 o7 o8 o9 o10 o11 : Option V} {l fl : Addr} {xs fvs : List V} {rows : List Row} {ks : List LK} {p : List Nat} {H : Hp}
    (hσ : σ = [some v0, some (.ref l), some v2, some (.ref fl), some vp, o5, o6, o7, o8, o9, o10, o11])
    (hl : H l = some (.lst xs)) (rl : RepL H (rows.map D.ints) xs) (hlen : ∀ r ∈ rows, r.length = n) (h8 : rows.length ≤ 8) (hp : Rep H (natsT p) vp) (hpd : p.Nodup) (hpn : ∀ c ∈ p, c < n) (hpl : p.length ≤ 1000) (hf : H fl = some (.lst fvs)) (rf : RepL H (ks.map keyD) fvs) (hks : ∀ k ∈ ks, Half n k) (hkl : ks.length ≤ 100)
    (q : ∀ H' fl' fvs' o5' o6' o7' o8' o9' o10' o11', Same H H' → H fl' = none → H' fl' = some (.lst fvs') → RepL H' ((partF n rows ks p).map keyD) fvs' → DE.nx [some v0, some (.ref l), some v2, some (.ref fl'), some vp, o5', o6', o7', o8', o9', o10', o11'] H') :
    WSs (XJ P w K mg base f cdv A outer s H0 E) jB1 DE σ H := by
  have nd := scJoined.nd
  subst hσ
  refine wcons ?_
  refine ws_set 5 nd (we_el (el_lst ea_nil (by show 0 ≤ sizeLine; decide)) fun pl pvs0 H1 hpl0 s1 h1' r1 => ?_)
  obtain rfl : pvs0 = [] := r1
  refine wcons ?_
  refine ws_for PassesOwn.never rfl (pgn 6 nd) ?_
  refine WI.mono (wi_list (NV.use (nv_name 1 rfl) ⟨rfl, Same.refl _⟩) (s1 _ _ hl) (rl.mono s1)) ?_
  rintro J2 H2 ⟨s2, rJ2⟩
  refine forW rJ2 (fun j σ' H' => ∃ o6 o7 pvs, ∃ rs : List Row, σ' = [some v0, some (.ref l), some v2, some (.ref fl), some vp, some (.ref pl), o6, o7, o8, o9, o10, o11] ∧ Same H H' ∧ Tm H2 H' ∧ H' pl = some (.lst pvs) ∧ RepL H' (rs.map fun r => D.ints (pick r p)) pvs ∧ rs = (rows.take j).foldl (pickS p) [])
    ⟨o6, o7, [], [], rfl, s1.trans s2, Tm.refl _, s2 _ _ h1', by exact rfl, rfl⟩ ?_ ?_ ?_
  · rintro j σ' H' _ ⟨_, _, _, _, _, t0, t, _⟩
    exact ⟨t, t0 _ _ hl⟩
  · rintro j d σ' H3 hd ⟨o6, o7, pvs, rs, rfl, g0, g1, g2, g3, g4⟩ x H4 s4 rx
    rw [List.getElem?_map] at hd
    obtain ⟨r, hrj, rfl⟩ : ∃ r, rows[j]? = some r ∧ D.ints r = d := by
      cases h : rows[j]? with
      | none => rw [h] at hd; cases hd
      | some r => rw [h] at hd; exact ⟨r, rfl, Option.some.inj hd⟩
    have hrm := List.mem_of_getElem? hrj
    have hjl : j < rows.length := (List.getElem?_eq_some_iff.mp hrj).1
    have g04 := g0.trans s4
    have rsl : rs.length ≤ 8 := by
      rw [g4]
      have := (picks_fold (p := p) (rows.take j) []).2.2
      rw [List.length_nil, List.length_take] at this
      omega
    refine wcons ?_
    refine ws_set 7 nd (we_ev (ev_call G hr rfl (ea_cons (ev_name 6 rfl rx) (ea_cons (ev_name 4 rfl (hp.mono g04)) ea_nil)) rfl ⟨r, p, rfl, fun c hc => by rw [hlen r hrm]; exact hpn c hc, hpl, rfl⟩) fun vq H5 s5 rq => ?_)
    have s45 := s4.trans s5
    have e4 : (rows.take (j + 1)).foldl (pickS p) [] = pickS p rs r := by
      rw [take_get hrj, List.foldl_append, ← g4]
      rfl
    refine wone ?_
    refine ws_ifB (!decide (pick r p ∈ rs.map fun s => pick s p)) (et_ninLL (d := .ints (pick r p)) (ds := rs.map fun r => D.ints (pick r p)) ?_ (ev_name 7 rfl rq) (lv_name 5 rfl (s45 _ _ g2) (g3.mono s45)) (rowD_ints _) (fun d hd => ?_) ?_) (fun e H6 s6 => ?_) fun e H6 s6 => wnil ?_
    · show A.units + 3 + 65 < cLine
      omega
    · obtain ⟨y, hy, rfl⟩ := List.mem_map.mp hd
      exact rowD_ints _
    · rw [decide_eq_true_iff, List.mem_map, List.mem_map]
      exact ⟨fun ⟨y, hy, e⟩ => ⟨y, hy, by rw [e]⟩, fun ⟨y, hy, e⟩ => ⟨y, hy, ints_inj e⟩⟩
    · have hn : pick r p ∉ rs.map fun s => pick s p := fun z => by rw [decide_eq_true z] at e; cases e
      have s46 := s45.trans s6
      refine wone ?_
      refine ws_app (ds := rs.map fun r => D.ints (pick r p)) (d := .ints (pick r p)) (nv_name 5 rfl) (s46 _ _ g2) (g3.mono s46) (by rw [List.length_map]; omega) (ev_name 7 rfl (rq.mono s6)) fun v H7 s7 r7 f7 t7 => ?_
      refine ⟨_, _, _, pickS p rs r, rfl, same_mut ((g0.trans s46).trans s7) hpl0, (g1.trans (Same.tm s46)).trans t7, upd_same, ?_, e4.symm⟩
      unfold pickS
      rw [if_neg hn, List.map_append]
      exact r7
    · have hn : pick r p ∈ rs.map fun s => pick s p := by
        by_cases z : pick r p ∈ rs.map fun s => pick s p
        · exact z
        · rw [decide_eq_false z] at e; cases e
      have s46 := s45.trans s6
      have e5 : pickS p rs r = rs := by unfold pickS; rw [if_pos hn]
      refine ⟨_, _, pvs, rs, rfl, g0.trans s46, g1.trans (Same.tm s46), s46 _ _ g2, g3.mono s46, by rw [e4, e5]⟩
  · rintro σ' H3 ⟨o6, o7, pvs, rs, rfl, g0, g1, g2, g3, g4⟩
    rw [List.length_map, List.take_length] at g4
    have g4 : rs = picksF p rows := g4
    have rsl : rs.length ≤ 8 := by rw [g4]; exact Nat.le_trans (picksF_len p rows) h8
    refine wcons ?_
    refine ws_set 8 nd (we_el (el_lst ea_nil (by show 0 ≤ sizeLine; decide)) fun ll lvs0 H4 hll0 s4 h4' r4 => ?_)
    obtain rfl : lvs0 = [] := r4
    have hllH : H ll = none := Same.free g0 hll0
    have plll : pl ≠ ll := ne_of_none g2 hll0
    have s04 := g0.trans s4
    have rp4 := g3.mono s4
    refine wcons ?_
    refine ws_for PassesOwn.never rfl (pgn 9 nd) ?_
    refine WI.mono (wi_list (NV.use (nv_name 3 rfl) ⟨rfl, Same.refl _⟩) (s04 _ _ hf) (rf.mono s04)) ?_
    rintro J5 H5 ⟨s5, rJ5⟩
    have s05 := s04.trans s5
    refine forW rJ5 (fun i σ' H' => ∃ o6 o7 o9 o10 o11 lvs, ∃ ls : List LK, σ' = [some v0, some (.ref l), some v2, some (.ref fl), some vp, some (.ref pl), o6, o7, some (.ref ll), o9, o10, o11] ∧ Same H H' ∧ Tm H5 H' ∧ H' pl = some (.lst pvs) ∧ H' ll = some (.lst lvs) ∧ RepL H' (ls.map keyD) lvs ∧ ls = (ks.take i).foldl (longF n p rs) [])
      ⟨o6, o7, o9, o10, o11, [], [], rfl, s05, Tm.refl _, s5 _ _ (s4 _ _ g2), s5 _ _ h4', by exact rfl, rfl⟩ ?_ ?_ ?_
    · rintro j σ' H' _ ⟨_, _, _, _, _, _, _, _, t0, t, _⟩
      exact ⟨t, t0 _ _ hf⟩
    · rintro i d σ' H6 hd ⟨o6, o7, o9, o10, o11, lvs, ls, rfl, k0, k1, k2, k3, k4, k5⟩ vk H7 s7 rk
      rw [List.getElem?_map] at hd
      obtain ⟨k, hki, rfl⟩ : ∃ k, ks[i]? = some k ∧ keyD k = d := by
        cases h : ks[i]? with
        | none => rw [h] at hd; cases hd
        | some r => rw [h] at hd; exact ⟨r, rfl, Option.some.inj hd⟩
      have hkm := List.mem_of_getElem? hki
      have hil : i < ks.length := (List.getElem?_eq_some_iff.mp hki).1
      have hkh := hks k hkm
      have lsl : ls.length ≤ 800 := by
        rw [k5]
        have h1 := part_len (n := n) (p := p) (rs := rs) (ks.take i) []
        rw [List.length_nil, Nat.zero_add, List.length_take] at h1
        have h2 : min i ks.length * rs.length ≤ 100 * 8 := Nat.mul_le_mul (by omega) rsl
        omega
      have lsh : ∀ x ∈ ls, Half n x := fun x hx => by
        rw [k5] at hx
        rcases (part_fold (ks.take i) []).mp hx with z | ⟨k', hk', r, _, _, e⟩
        · cases z
        · rw [e]; exact (hks k' (List.mem_of_mem_take hk')).mkk p r
      refine wone ?_
      refine ws_for PassesOwn.never rfl (pgn 7 nd) ?_
      refine WI.mono (wi_list (NV.use (nv_name 5 rfl) ⟨rfl, Same.refl _⟩) (s7 _ _ k2) (((rp4.mono s5).tm k1).mono s7)) ?_
      rintro J8 H8 ⟨s8, rJ8⟩
      have s78 := s7.trans s8
      refine forW rJ8 (fun j σ' H' => ∃ o6 o7 o10 o11 lvs', ∃ ls' : List LK, σ' = [some v0, some (.ref l), some v2, some (.ref fl), some vp, some (.ref pl), o6, o7, some (.ref ll), some vk, o10, o11] ∧ Same H H' ∧ Tm H8 H' ∧ H' pl = some (.lst pvs) ∧ H' ll = some (.lst lvs') ∧ RepL H' (ls'.map keyD) lvs' ∧ ls' = (rs.take j).foldl (longS n p k) ls)
        ⟨o6, o7, o10, o11, lvs, ls, rfl, k0.trans s78, Tm.refl _, s78 _ _ k2, s78 _ _ k3, k4.mono s78, rfl⟩ ?_ ?_ ?_
      · rintro j σ' H' _ ⟨_, _, _, _, _, _, _, _, t, t1, _⟩
        exact ⟨t, t1⟩
      · rintro j d σ' H9 hd ⟨o6, o7, o10, o11, lvs', ls', rfl, m0, m1, m2, m3, m4, m5⟩ vq H10 s10 rq
        rw [List.getElem?_map] at hd
        obtain ⟨r, hrj, rfl⟩ : ∃ r, rs[j]? = some r ∧ D.ints (pick r p) = d := by
          cases h : rs[j]? with
          | none => rw [h] at hd; cases hd
          | some r => rw [h] at hd; exact ⟨r, rfl, Option.some.inj hd⟩
        have hrm : r ∈ rows := picksF_sub (p := p) (by rw [← g4]; exact List.mem_of_getElem? hrj)
        have ls'l : ls'.length ≤ 1000 := by
          rw [m5]
          have h1 := longF_len (n := n) (p := p) (k := k) (rs.take j) ls
          rw [List.length_take] at h1
          have h1 : ((rs.take j).foldl (longS n p k) ls).length ≤ _ := h1
          omega
        have ls'h : ∀ x ∈ ls', Half n x := fun x hx => by
          rw [m5] at hx
          rcases (longF_mem (rs.take j) ls).mp hx with z | ⟨r', _, _, e⟩
          · exact lsh x z
          · rw [e]; exact hkh.mkk p r'
        refine join4 B hu rfl (hp.mono (m0.trans s10)) hpd hpn hpl (((rk.mono s8).tm m1).mono s10) hkh rq (s10 _ _ m3) (m4.mono s10) ls'h ls'l fun H11 lvs'' o6' o10' o11' f11 t11 h11 r11 => ?_
        refine ⟨_, _, _, _, lvs'', longS n p k ls' r, rfl, fun a u ha => ?_, (m1.trans (Same.tm s10)).trans t11, ?_, h11, r11, ?_⟩
        · refine f11 a u (s10 _ _ (m0 a u ha)) fun z => ?_
          rw [List.mem_singleton.mp z, hllH] at ha
          cases ha
        · exact f11 _ _ (s10 _ _ m2) fun z => plll (List.mem_singleton.mp z)
        · rw [take_get hrj, List.foldl_append, ← m5]
          rfl
      · rintro σ' H9 ⟨o6, o7, o10, o11, lvs', ls', rfl, m0, m1, m2, m3, m4, m5⟩
        rw [List.length_map, List.take_length] at m5
        refine ⟨_, _, _, _, _, lvs', ls', rfl, m0, (k1.trans (Same.tm s78)).trans m1, m2, m3, m4, ?_⟩
        rw [take_get hki, List.foldl_append, ← k5, m5]
        rfl
    · rintro σ' H6 ⟨o6, o7, o9, o10, o11, lvs, ls, rfl, k0, k1, k2, k3, k4, k5⟩
      rw [List.length_map, List.take_length, g4] at k5
      refine wone (ws_set 3 nd (NV.use (nv_name 8 rfl) ?_))
      refine q H6 ll lvs _ _ _ _ _ _ _ k0 hllH k3 ?_
      rw [k5] at k4
      exact k4
/-- _law_joined(width, rows, parts) -/
def spJoined : Sp := fun vs H Q _ => ∃ (n : Nat) (l : Addr) (xs : List V) (rows : List Row) (dp : Dep) (v3 : V), vs = [.int (n : Int), .ref l, v3] ∧ H l = some (.lst xs) ∧ RepL H (rows.map D.ints) xs ∧ Rep H (.tup [natsT (p1 n dp), natsT (p2 n dp)]) v3 ∧
  (∀ r ∈ rows, r.length = n) ∧ 1 ≤ n ∧ n ≤ 3 ∧ rows.length ≤ 8 ∧ ∀ l' ys H', Same H H' → H l' = none → H' l' = some (.lst ys) → RepL H' ((joinF n rows dp).map keyD) ys → Q (.ref l') H'
theorem ok_joined (F : FnP K "_law_joined" "_law_joined" sLawJoined f fd) (B : Bi mg) (G : Ok P w K mg base 1 "_law_pick" (spR 2 rPicked)) : FnOk P w K mg base CX0 2 f fd ["_law_width", "_law_rows", "_law_parts_here"] spJoined := by
  refine fnOk F scJoined (fun vs H Q E h => ?_) fun cdv A outer s H vs Q E hr h => ?_
  · obtain ⟨n, l, xs, rows, dp, v3, rfl, _⟩ := h
    rfl
  obtain ⟨n, l, xs, rows, dp, v3, rfl, hl, rl, r3, hlen, h1, h3, h8, hq⟩ := h
  have nd := scJoined.nd
  have hu : A.units + 68 < cLine := by
    have : A.units + 3 + 16 * 1 + 200 < cLine := hr.un
    omega
  refine wcons ?_
  refine ws_set 3 nd (we_el (el_lst (ea_cons (d := keyD (List.replicate n .none)) (EV.to (ev_repT (k := n) (ev_tup (ea_cons ev_non ea_nil) (by show 1 ≤ sizeLine; decide)) (ev_name 0 rfl rep_int) (by simp) h1 (by omega) (by simp)) (flat_non n)) ea_nil) (by show 1 ≤ sizeLine; decide)) fun fl0 fvs0 H1 hfl0 s1 h1' r1 => ?_)
  refine wcons ?_
  refine ws_for PassesOwn.never rfl (pgn 4 nd) ((wi_tup (ev_name 2 rfl (r3.mono s1))).mono fun J H2 ⟨s2, rJ⟩ => ?_)
  refine forW rJ (fun i σ' H' => ∃ fl fvs ks o4 o5 o6 o7 o8 o9 o10 o11, σ' = [some (.int (n : Int)), some (.ref l), some v3, some (.ref fl), o4, o5, o6, o7, o8, o9, o10, o11] ∧ Same H2 H' ∧ H fl = none ∧ H' fl = some (.lst fvs) ∧ RepL H' (ks.map keyD) fvs ∧ ks = ([p1 n dp, p2 n dp].take i).foldl (partF n rows) [List.replicate n .none])
    ⟨fl0, fvs0, [List.replicate n .none], none, none, none, none, none, none, none, none, rfl, Same.refl _, hfl0, s2 _ _ h1', r1.mono s2, rfl⟩ ?_ ?_ ?_
  · rintro i σ' H' _ ⟨_, _, _, _, _, _, _, _, _, _, _, _, t, _⟩
    exact Same.tm t
  · rintro i d σ' H3 hd ⟨fl, fvs, ks, o4, o5, o6, o7, o8, o9, o10, o11, rfl, g0, g1, g2, g3, g4⟩ v H4 s4 rv
    have hi2 : i < 2 := (List.getElem?_eq_some_iff.mp hd).1
    have p1n : ∀ c ∈ p1 n dp, c < n := fun c hc => List.mem_range.mp (List.mem_filter.mp hc).1
    have p2n : ∀ c ∈ p2 n dp, c < n := fun c hc => List.mem_range.mp (List.mem_filter.mp hc).1
    have p1l : (p1 n dp).length ≤ 1000 := Nat.le_trans (List.length_filter_le ..) (by rw [List.length_range]; omega)
    have p2l : (p2 n dp).length ≤ 1000 := Nat.le_trans (List.length_filter_le ..) (by rw [List.length_range]; omega)
    have ksok : (∀ k ∈ ks, Half n k) ∧ ks.length ≤ 100 := by
      match i, hi2 with
      | 0, _ =>
        rw [g4]
        exact ⟨fun k hk => by rw [List.mem_singleton.mp hk]; exact half0 n, by show 1 ≤ 100; decide⟩
      | 1, _ =>
        rw [g4]
        refine ⟨Half.part (ks := [List.replicate n .none]) fun k hk => by rw [List.mem_singleton.mp hk]; exact half0 n, ?_⟩
        exact Nat.le_trans (partF_len (ks := [List.replicate n .none]) h8) (by show 1 * 8 ≤ 100; decide)
    obtain ⟨p, ep, ekp, pn, pl, pd⟩ : ∃ p, d = natsT p ∧ ([p1 n dp, p2 n dp].take (i + 1)).foldl (partF n rows) [List.replicate n .none] = partF n rows ks p ∧ (∀ c ∈ p, c < n) ∧ p.length ≤ 1000 ∧ p.Nodup := by
      match i, hi2 with
      | 0, _ => exact ⟨p1 n dp, (Option.some.inj hd).symm, by rw [g4]; rfl, p1n, p1l, (p1_asc n dp).imp fun {a b} h => Nat.ne_of_lt h⟩
      | 1, _ => exact ⟨p2 n dp, (Option.some.inj hd).symm, by rw [g4]; rfl, p2n, p2l, (p2_asc n dp).imp fun {a b} h => Nat.ne_of_lt h⟩
    rw [ep] at rv
    have s04 := ((s1.trans s2).trans g0).trans s4
    refine join1 B G hr hu rfl (s04 _ _ hl) (rl.mono s04) hlen h8 rv pd pn pl (s4 _ _ g2) (g3.mono s4) ksok.1 ksok.2 fun H5 fl' fvs' o5' o6' o7' o8' o9' o10' o11' q1 q2 q3 q4 => ?_
    exact ⟨fl', fvs', _, _, _, _, _, _, _, _, _, rfl, (g0.trans s4).trans q1, Same.free s04 q2, q3, q4, ekp.symm⟩
  · rintro σ' H3 ⟨fl, fvs, ks, o4, o5, o6, o7, o8, o9, o10, o11, rfl, g0, g1, g2, g3, g4⟩
    refine wone (ws_ret (NV.use (nv_name 3 rfl) ?_))
    refine hq fl fvs H3 ((s1.trans s2).trans g0) g1 g2 ?_
    have : ks = joinF n rows dp := g4
    rw [← this]
    exact g3
end
section
variable {X : Cx} {e elt iter c : Expr} {σ : L2.St} {H : Hp} {scope : Scope} {x : Str} {p pos : Pos}
def unR (d : D) : Row := match d with
  | .tup ds => ds.map fun d => match d with | .int i => i | _ => 0
  | _ => []
theorem unR_ints (r : Row) : unR (.ints r) = r := by
  show (r.map D.int).map _ = r
  rw [List.map_map]
  exact List.map_id r
/-- [elt for x in rows if c] -/
theorem el_filterR {rows : List Row} (j : Nat) (k : Row → Bool) (f : Row → D) (hN : X.N.Nodup) (ok : BlkOk X.N X.env.scope scope [(x, j)]) (hi : Src X (.Name x p) iter σ H (rows.map D.ints)) (hl : rows.length ≤ 1000)
    (turn : ∀ r ∈ rows, ∀ v H1, Same H H1 → Rep H1 (.ints r) v → ∀ b, ET (XB X scope b) c ((σ.set j none).set j (some v)) H1 (k r) ∧ (k r = true → EV (XB X scope b) elt ((σ.set j none).set j (some v)) H1 (f r))) (hc : X.calm = true := by rfl) (hg : ∀ b, PG (XB X scope b) (.Name x p) (gName j) := by exact fun b => pg_name (by assumption) rfl (Or.inl rfl))
    (hs : ∀ x, foldedSetIterable iter X.env x = pure x := by intro _; rfl) : ELS X (.ListComp elt [⟨.Name x p, iter, [c], 0⟩] scope pos) σ H ((rows.filter k).map f) := by
  refine (el_filter j (fun d => k (unR d)) (fun d => f (unR d)) hc hN ok hi hg (by rw [List.length_map]; exact Nat.le_trans hl (by decide)) (fun d hd v H1 s1 rv b => ?_) hs).to ?_
  · obtain ⟨r, hr, rfl⟩ := List.mem_map.mp hd
    rw [unR_ints]
    exact turn r hr v H1 s1 rv b
  · rw [List.filter_map, List.map_map]
    have e1 : (fun d => k (unR d)) ∘ D.ints = k := funext fun r => by show k (unR (.ints r)) = k r; rw [unR_ints]
    rw [e1]
    exact List.map_congr_left fun r _ => by show f (unR (.ints r)) = f r; rw [unR_ints]
end
section
variable {P : Program} {w : World} {K : PySem.W.Frag} {mg : Str → Option Value} {base : Heap} {f C : Addr} {fd : FuncData}
/-- _law_missing(width, rows, dependency) -/
def spLawMiss : Sp := fun vs H Q _ => ∃ (n : Nat) (l : Addr) (xs : List V) (rows : List Row) (dp : Dep) (v3 : V), vs = [.int (n : Int), .ref l, v3] ∧ H l = some (.lst xs) ∧ RepL H (rows.map D.ints) xs ∧ Rep H (depD dp) v3 ∧ dp.st = false ∧ DepOk n dp ∧ dp.L.length + dp.R.length < 60 ∧
  (∀ r ∈ rows, r.length = n) ∧ 1 ≤ n ∧ n ≤ 3 ∧ rows.length ≤ 8 ∧ ∀ l' ys (miss : List Row) H', Same H H' → H l' = none → H' l' = some (.lst ys) → RepL H' (miss.map D.ints) ys → miss.Nodup → (∀ r, r ∈ miss ↔ r ∉ rows ∧ ∃ a ∈ rows, ∃ b ∈ rows, agr a b dp.L ∧ r = mix n dp.R a b) → Q (.ref l') H'
abbrev nLawMiss : List Str := ["_law_width", "_law_rows", "_law_dependency", "_law_row"]
theorem scLawMiss : FnScope nLawMiss ["_law_width", "_law_rows", "_law_dependency"] (defScope sLawMissing) := ⟨rfl, rfl, rfl, by decide +kernel, rfl, by decide +kernel, by decide +kernel⟩
theorem ok_lawMiss (F : FnP K "_law_missing" "_law_missing" sLawMissing f fd) (B : Bi mg) (G1 : Ok P w K mg base 2 "_law_joined" spJoined) (G2 : Ok P w K mg base 2 "_law_parts" (spR 2 rLawParts)) : FnOk P w K mg base CX0 3 f fd ["_law_width", "_law_rows", "_law_dependency"] spLawMiss := by
  refine fnOk F scLawMiss (fun vs H Q E h => ?_) fun cdv A outer s H vs Q E hr h => ?_
  · obtain ⟨n, l, xs, rows, dp, v3, rfl, _⟩ := h
    rfl
  obtain ⟨n, l, xs, rows, dp, v3, rfl, hl, rl, r3, hst, hok, h60, hlen, h1, h3, h8, hq⟩ := h
  have nd := scLawMiss.nd
  have hu : A.units + 68 < cLine := by
    have : A.units + 3 + 16 * 2 + 200 < cLine := hr.un
    omega
  obtain ⟨js, ejs⟩ := joinF_rows (rows := rows) hlen hok
  have ejd : (joinF n rows dp).map keyD = js.map D.ints := by
    rw [ejs, List.map_map]
    exact List.map_congr_left fun r _ => keyD_kx r
  have jsl : js.length ≤ 64 := by
    have h : (joinF n rows dp).length = js.length := by rw [ejs, List.length_map]
    have h2 : (joinF n rows dp).length ≤ (partF n rows [List.replicate n .none] (p1 n dp)).length * 8 := partF_len h8
    have h3 : (partF n rows [List.replicate n .none] (p1 n dp)).length ≤ 1 * 8 := partF_len h8
    omega
  refine wone (ws_ret (we_el (ELS.el (el_filterR (rows := js) 3 (fun r => !decide (r ∈ rows)) D.ints nd (blkOk_by (N := nLawMiss) (sc := defScope sLawMissing) (by decide +kernel)) (src_lv (fun H1 s1 => ?_)) (by omega) fun r hr2 v H1 s1 rv b => ⟨?_, fun _ => ev_name 3 rfl rv⟩)) fun l' ys H2 hl' s2 h2' r2 => ?_))
  · refine we_call G1 hr rfl ?_
    refine wa (pa_cons pe_w (pa_cons pe_w (pa_cons pe_w pa_nil))) ?_
    refine NV.use (nv_name 0 rfl) (NV.use (nv_name 1 rfl) ?_)
    refine we_ev (ev_call G2 hr rfl (ea_cons (ev_name 0 rfl rep_int) (ea_cons (ev_name 2 rfl (r3.mono s1)) ea_nil)) rfl ⟨n, dp, rfl, hst, by omega, hok, h60, rfl⟩) fun v4 H4 s4 r4 => ?_
    have s14 := s1.trans s4
    refine ⟨n, l, xs, rows, dp, v4, rfl, s14 _ _ hl, rl.mono s14, r4, hlen, h1, h3, h8, fun l5 ys5 H5 s5 hl5 h5 r5 => ?_⟩
    rw [ejd] at r5
    exact ⟨s4.trans s5, l5, ys5, rfl, h5, r5⟩
  · refine et_ninLL (t := decide (r ∈ rows)) ?_ (ev_name 3 rfl rv) (lv_name 1 rfl (s1 _ _ hl) (rl.mono s1)) (rowD_ints r) (rowD_all rows) ?_
    · show A.units + 3 + 65 < cLine
      omega
    · rw [decide_eq_true_iff, List.mem_map]
      exact ⟨fun h => ⟨r, h, rfl⟩, fun ⟨y, hy, e⟩ => ints_inj e ▸ hy⟩
  · refine hq l' ys (js.filter fun r => !decide (r ∈ rows)) H2 s2 hl' h2' r2 ?_ fun r => ?_
    · have nj : (js.map kx).Nodup := by rw [← ejs]; exact joinF_nodup
      exact List.Pairwise.filter _ (List.Pairwise.of_map kx (fun a b h e => h (congrArg kx e)) nj)
    · rw [List.mem_filter, Bool.not_eq_true', decide_eq_false_iff_not]
      have : r ∈ js ↔ kx r ∈ joinF n rows dp := by
        rw [ejs, List.mem_map]
        exact ⟨fun h => ⟨r, h, rfl⟩, fun ⟨s, hs, e⟩ => kx_inj e ▸ hs⟩
      rw [this, joinF_mem hlen hok]
      constructor
      · rintro ⟨⟨a, ha, b, hb, hL, e⟩, hn⟩
        exact ⟨hn, a, ha, b, hb, hL, kx_inj e⟩
      · rintro ⟨hn, a, ha, b, hb, hL, e⟩
        exact ⟨⟨a, ha, b, hb, hL, by rw [e]⟩, hn⟩
end
end Nr
/-! The law's defs: chase (the equal values). -/
namespace Nr
open PySem PySem.Spec L2
open PyProof.Rows hiding St

section
variable {X : Cx} {e a : Expr} {σ : L2.St} {H : Hp} {p pos : Pos} {t : Bool} {v : V} {j : Nat}
/-- int(a truth) -/
theorem ev_intB (h : EV X e σ H (.bl t)) (hg : Gl X "int") (hm : X.mg "int" = none) (he : starEach [e] X.env = (false, eval e X.env) :: starEach [] X.env := by rfl) : EV X (.Call (.Name "int" p) [e] [] pos) σ H (.int (if t then 1 else 0)) := fun H1 s => by
  refine we (pe_callTy call_int1 hg hm (by decide +kernel) (pa_cons pe_w pa_nil he) (by decide) (by decide) he rfl) ?_
  exact (h H1 s).mono fun v H2 ⟨s2, r⟩ => .inr ⟨t, by rw [show v = V.bl t from r], s2, rfl⟩
theorem wt_notN {Q : Bool → Hp → Prop} (he : NV X a σ v) (k1 : v = .non → Q false H) (k2 : v ≠ .non → Q true H) (hm : behindInMarks .IsNot (.Constant .none j p) = false := by first | exact nobehind _ (by decide) (by decide) | rfl) : WT X (.Compare a [.IsNot] [.Constant .none j p] pos) σ H Q := by
  refine wt (pt_cmpR op_notN pe_w pe_non hm) ?_
  refine he.use ?_
  refine ⟨rfl, _, rfl, ?_⟩
  by_cases h : v = .non
  · rw [decide_eq_true h]; exact k1 h
  · rw [decide_eq_false h]; exact k2 h
end
def fbw (s : Stmt) : List Stmt := match s with
  | .While _ b _ _ => b
  | _ => []
def thenB (s : Stmt) : List Stmt := match s with
  | .If _ b _ _ => b
  | _ => []
def elseB (s : Stmt) : List Stmt := match s with
  | .If _ _ b _ => b
  | _ => []
abbrev nChase : List Str := ["_law_width", "_law_book_here", "_law_rows", "_law_became", "_law_changed", "_law_dependency", "_law_pair", "_law_fresh", "_law_row", "_law_new", "_law_more", "_law_value"]
theorem scLawChase : FnScope nChase ["_law_width", "_law_book_here", "_law_rows"] (defScope sLawChase) := ⟨rfl, rfl, rfl, by decide +kernel, rfl, by decide +kernel, by decide +kernel⟩
abbrev cW : List Stmt := fbw ((defBody sLawChase).getD 3 (.Pass ⟨0, 0, 0, 0⟩))
abbrev cF : List Stmt := fb (cW.getD 1 (.Pass ⟨0, 0, 0, 0⟩))
abbrev cT : List Stmt := thenB (cF.getD 0 (.Pass ⟨0, 0, 0, 0⟩))
abbrev cE : List Stmt := elseB (cF.getD 0 (.Pass ⟨0, 0, 0, 0⟩))
abbrev cI : List Stmt := fbw (cT.getD 1 (.Pass ⟨0, 0, 0, 0⟩))
/-- what the chase holds -/
structure LS (H0 H : Hp) (n : Nat) (o : Nat → Int) (book : List Dep) (st : List Row) (rl bd : Addr) (rows : List Row) (bec : List (Int × Int)) : Prop where
  sm : Same H0 H
  ne : H0 bd = none
  ex : ∃ rvs, H rl = some (.lst rvs) ∧ RepL H (rows.map D.ints) rvs
  bd : H bd = some (.dK (becK bec))
  ch : Ch n o book st rows bec
  le : bec.length + opens n o rows ≤ 3
theorem LS.same {H0 H H' : Hp} {n : Nat} {o : Nat → Int} {book : List Dep} {st : List Row} {rl bd : Addr} {rows : List Row} {bec : List (Int × Int)} (L : LS H0 H n o book st rl bd rows bec) (s : Same H H') : LS H0 H' n o book st rl bd rows bec :=
  ⟨L.sm.trans s, L.ne, let ⟨rvs, h1, h2⟩ := L.ex; ⟨rvs, s _ _ h1, h2.mono s⟩, s _ _ L.bd, L.ch, L.le⟩
/-- an unlike pair -/
def PairAt (H : Hp) (d : Dep) (rows : List Row) (vp : V) : Prop := ∃ a ∈ rows, ∃ b ∈ rows, agr a b d.L ∧ ∃ c ∈ d.R, cel a c < cel b c ∧ Rep H (.ints [cel a c, cel b c]) vp
theorem PairAt.same {H H' : Hp} {d : Dep} {rows : List Row} {vp : V} (h : PairAt H d rows vp) (s : Same H H') : PairAt H' d rows vp :=
  let ⟨a, ha, b, hb, hL, c, hc, h1, h2⟩ := h; ⟨a, ha, b, hb, hL, c, hc, h1, h2.mono s⟩
theorem PairAt.ne {H : Hp} {d : Dep} {rows : List Row} {vp : V} (h : PairAt H d rows vp) : vp ≠ .non := fun e => by
  obtain ⟨a, _, b, _, _, c, _, _, h2⟩ := h
  obtain ⟨t, e2, _⟩ := rep_ints.mp h2
  rw [e] at e2
  cases e2
/-- rows with a value replaced -/
def freshF (x y : Int) (rows : List Row) : List Row := dedupF (rows.map fun r => r.map (rep x y))
section
variable {P : Program} {w : World} {K : PySem.W.Frag} {mg : Str → Option Value} {base : Heap} {f C : Addr} {fd : FuncData}
abbrev XC (P : Program) (w : World) (K : PySem.W.Frag) (mg : Str → Option Value) (base : Heap) (f : Addr) (cdv : Value) (A : Around) (outer : List Env) (s : Shared) (H : Hp) (E : XK) : Cx := (cxOf CX0 P w K mg base nChase "_law_chase" (defScope sLawChase) f cdv A outer s H E).nox
theorem chaseI {cdv : Value} {A : Around} {outer : List Env} {s : Shared} {Hs : Hp} {E : XK} (B : Bi mg) (G : Ok P w K mg base 2 "_law_unlike" spUnlike) (hr : Room 2 (A.deeper (envOfC "_law_chase" (defScope sLawChase) s.heap.objs.size f cdv))) (hu : A.units + 68 < cLine) {DE : Ends} {n : Nat} {o : Nat → Int} {book : List Dep} {st rows : List Row} {bec : List (Int × Int)} {v0 v1 vd vp : V} {σ : L2.St} {o4 o7 o8 o9 o10 : Option V} {rl bd : Addr} {d : Dep} {H0 H : Hp}
    (hσ : σ = [some v0, some v1, some (.ref rl), some (.ref bd), o4, some vd, some vp, o7, o8, o9, o10, none]) (L : LS H0 H n o book st rl bd rows bec) (ok : OOk n o) (hd : d ∈ book) (hok : DepOk n d) (hdl : d.L.length ≤ 1000) (hdr : d.R.length ≤ 1000) (hst : d.st = true) (h1 : 1 ≤ n) (h3 : n ≤ 3) (rd : Rep H (depD d) vd) (pr : PairAt H d rows vp)
    (q : ∀ H' rl' rows' bec' vp' o7' o8' o9', LS H0 H' n o book st rl' bd rows' bec' → Tm H H' → opens n o rows' < opens n o rows → (vp' = .non ∧ Keeps n rows' d ∨ PairAt H' d rows' vp') → DE.nx [some v0, some v1, some (.ref rl'), some (.ref bd), some (.bl true), some vd, some vp', o7', o8', o9', o10, none] H') :
    WSs (XC P w K mg base f cdv A outer s Hs E) cI DE σ H := by
  have nd := scLawChase.nd
  subst hσ
  obtain ⟨a, ha, b, hb, hL, c, hc, hlt, rp⟩ := pr
  have hcn : c < n := hok.2 c hc
  have ea : cel a c = o c := by
    rcases L.ch.cell a ha c hcn with e | ⟨e, _⟩
    · rcases L.ch.cell b hb c hcn with e2 | ⟨e2, _⟩
      · rw [e, e2] at hlt; exact absurd hlt (Int.lt_irrefl _)
      · have := ok.low c hcn
        rw [e, e2] at hlt
        omega
    · exact e
  have eb : cel b c = -1 - (c : Int) := by
    rcases L.ch.cell b hb c hcn with e | ⟨e, _⟩
    · exact e
    · rw [ea, e] at hlt; exact absurd hlt (Int.lt_irrefl _)
  rw [ea, eb] at rp
  have r8 := L.ch.few8 h3
  have hix0 : ([o c, -1 - (c : Int)].map D.int)[0]? = some (.int (o c)) := rfl
  have hix1 : ([o c, -1 - (c : Int)].map D.int)[1]? = some (.int (-1 - (c : Int))) := rfl
  refine wcons ?_
  refine ws_set 4 nd (we_ev ev_bl fun v H1 s1 rv => ?_)
  obtain rfl := (show v = V.bl true from rv)
  refine wcons ?_
  refine ws (ps_dput hr.u1 pe_w pe_w pe_w rfl) ?_
  refine we_ev (ev_ixT (i := 1) (ev_name 6 rfl (rp.mono s1)) ev_int hix1 (fun _ _ => rfl)) fun vy H2 s2 ry => ?_
  obtain rfl := (show vy = V.int (-1 - (c : Int)) from ry)
  have s12 := s1.trans s2
  refine NV.use (nv_name 3 rfl) ?_
  refine we_ev (ev_ixT (i := 0) (ev_name 6 rfl (rp.mono s12)) ev_int hix0 (fun _ _ => rfl)) fun vx H3 s3 rx => ?_
  obtain rfl := (show vx = V.int (o c) from rx)
  have s13 := s12.trans s3
  have L3 := L.same s13
  have bl3 : bec.length ≤ 3 := by have := L.le; omega
  have nl : bec.lookup (o c) = none := by
    have hh := L.ch.eqs ok hd hok hst ha hb hL hc ea eb (rows' := freshF (o c) (-1 - (c : Int)) rows) (dedupF_nodup _) fun r => by
      unfold freshF
      rw [dedupF_mem, List.mem_map]
      exact ⟨fun ⟨r0, h0, e⟩ => ⟨r0, h0, e.symm⟩, fun ⟨r0, h0, e⟩ => ⟨r0, h0, e.symm⟩⟩
    exact hh.2.2
  obtain ⟨ch', op', _⟩ := L.ch.eqs ok hd hok hst ha hb hL hc ea eb (rows' := freshF (o c) (-1 - (c : Int)) rows) (dedupF_nodup _) fun r => by
    unfold freshF
    rw [dedupF_mem, List.mem_map]
    exact ⟨fun ⟨r0, h0, e⟩ => ⟨r0, h0, e.symm⟩, fun ⟨r0, h0, e⟩ => ⟨r0, h0, e.symm⟩⟩
  have vb : valV (becK bec) (Sum.inl (o c) : Key) = none := by rw [kS_at, nl]; rfl
  have ebk : putK (becK bec) (Sum.inl (o c) : Key) (V.int (-1 - (c : Int))) = becK (bec ++ [(o c, -1 - (c : Int))]) := by
    rw [putK_new _ vb]
    unfold becK
    rw [List.map_append]
    rfl
  refine ⟨bd, _, rfl, DPut.k (k := Sum.inl (o c)) L3.bd ?_, ?_⟩
  · unfold becK
    rw [List.length_map, sizeLine_eq]
    omega
  rw [ebk]
  have tmb : Tm H3 (upd H3 bd (.dK (becK (bec ++ [(o c, -1 - (c : Int))])))) := tm_upd L3.bd (by intro xs z; cases z)
  have sb : Same H0 (upd H3 bd (.dK (becK (bec ++ [(o c, -1 - (c : Int))])))) := same_mut L3.sm L.ne
  obtain ⟨rvs, hrl, rrl⟩ := L3.ex
  have rlbd : rl ≠ bd := ne_of hrl L3.bd (by intro z; cases z)
  have hrl4 : (upd H3 bd (.dK (becK (bec ++ [(o c, -1 - (c : Int))])))) rl = some (.lst rvs) := by rw [upd_ne rlbd]; exact hrl
  have rp4 := (rp.mono s13).tm tmb
  have rd4 := (rd.mono s13).tm tmb
  have rr4 := rrl.tm tmb
  refine wcons ?_
  refine ws_set 7 nd (we_el (el_lst ea_nil (by show 0 ≤ sizeLine; decide)) fun fl fvs0 H5 hfl s5 h5' r5 => ?_)
  obtain rfl : fvs0 = [] := r5
  have hflH : H0 fl = none := Same.free sb hfl
  have s05 := sb.trans s5
  have flrl : rl ≠ fl := ne_of_none hrl4 hfl
  have bdfl : bd ≠ fl := ne_of_none (H := upd H3 bd (.dK (becK (bec ++ [(o c, -1 - (c : Int))])))) upd_same hfl
  refine wcons ?_
  refine ws_for PassesOwn.never rfl (pgn 8 nd) ?_
  refine WI.mono (wi_list (NV.use (nv_name 2 rfl) ⟨rfl, Same.refl _⟩) (s5 _ _ hrl4) (rr4.mono s5)) ?_
  rintro J6 H6 ⟨s6, rJ6⟩
  refine forW rJ6 (fun j σ' H' => ∃ o8 o9 fvs, ∃ fs : List Row, σ' = [some v0, some v1, some (.ref rl), some (.ref bd), some (.bl true), some vd, some vp, some (.ref fl), o8, o9, o10, none] ∧ Same H0 H' ∧ Tm H6 H' ∧ H' rl = some (.lst rvs) ∧ H' bd = some (.dK (becK (bec ++ [(o c, -1 - (c : Int))]))) ∧ H' fl = some (.lst fvs) ∧ RepL H' (fs.map D.ints) fvs ∧ fs = ((rows.take j).map fun r => r.map (rep (o c) (-1 - (c : Int)))).foldl addN [])
    ⟨o8, o9, [], [], rfl, s05.trans s6, Tm.refl _, s6 _ _ (s5 _ _ hrl4), s6 _ _ (s5 _ _ upd_same), s6 _ _ h5', by exact rfl, rfl⟩ ?_ ?_ ?_
  · rintro j σ' H' _ ⟨_, _, _, _, _, _, t, t1, _⟩
    exact ⟨t, t1⟩
  · rintro j dd σ' H7 hdj ⟨o8, o9, fvs, fs, rfl, g0, g1, g2, g3, g4, g5, g6⟩ x H8 s8 rx
    rw [List.getElem?_map] at hdj
    obtain ⟨r, hrj, rfl⟩ : ∃ r, rows[j]? = some r ∧ D.ints r = dd := by
      cases h : rows[j]? with
      | none => rw [h] at hdj; cases hdj
      | some r => rw [h] at hdj; exact ⟨r, rfl, Option.some.inj hdj⟩
    have hrm := List.mem_of_getElem? hrj
    have hrn := L.ch.len r hrm
    have hjl : j < rows.length := (List.getElem?_eq_some_iff.mp hrj).1
    have fsl : fs.length ≤ 8 := by
      rw [g6]
      have := foldl_addN_len ((rows.take j).map fun r => r.map (rep (o c) (-1 - (c : Int)))) []
      rw [List.length_nil, Nat.zero_add, List.length_map, List.length_take] at this
      omega
    have rp8 := (((rp4.mono s5).mono s6).tm g1).mono s8
    refine wcons ?_
    refine ws_set 9 nd (we_ev (dd := .ints (r.map (rep (o c) (-1 - (c : Int))))) (EV.to (ev_tuple (ELS.el (el_mapI (is := r) 11 (fun i => .int (rep (o c) (-1 - (c : Int)) i)) nd (blkOk_by (N := nChase) (sc := defScope sLawChase) (by decide +kernel)) (src_tup (ev_name 8 rfl rx)) (by rw [hrn]; omega) (fun i hi H9 s9 b => ?_))) rfl B.tuple) ?_) fun vn H9 s9 rn => ?_)
    · refine ev_ixL (i := if i = o c then 1 else 0) (ds := [.int i, .int (-1 - (c : Int))]) (EL.lv (el_lst (ea_cons (ev_name 11 rfl rep_int) (ea_cons (ev_ixT (i := 1) (ev_name 6 rfl (rp8.mono s9)) ev_int hix1 (fun _ _ => rfl)) ea_nil)) (by show 2 ≤ sizeLine; decide))) (EV.to (ev_intB (t := decide (i = o c)) (ev_eqI (ev_name 11 rfl rep_int) (ev_ixT (i := 0) (ev_name 6 rfl (rp8.mono s9)) ev_int hix0 (fun _ _ => rfl))) rfl B.int) ?_) ?_
      · by_cases h : i = o c <;> simp [h]
      · unfold rep
        by_cases h : i = o c
        · rw [if_pos h, if_pos h]; rfl
        · rw [if_neg h, if_neg h]; rfl
    · rw [D.ints, List.map_map]
      rfl
    have s89 := s8.trans s9
    have e6 : ((rows.take (j + 1)).map fun r => r.map (rep (o c) (-1 - (c : Int)))).foldl addN [] = addN fs (r.map (rep (o c) (-1 - (c : Int)))) := by
      rw [take_get hrj, List.map_append, List.foldl_append, ← g6]
      rfl
    refine wone ?_
    refine ws_ifB (!decide (r.map (rep (o c) (-1 - (c : Int))) ∈ fs)) (et_ninLL (d := .ints (r.map (rep (o c) (-1 - (c : Int))))) (ds := fs.map D.ints) ?_ (ev_name 9 rfl rn) (lv_name 7 rfl (s89 _ _ g4) (g5.mono s89)) (rowD_ints _) (rowD_all _) ?_) (fun e H10 s10 => ?_) fun e H10 s10 => wnil ?_
    · show A.units + 3 + 65 < cLine
      omega
    · rw [decide_eq_true_iff, List.mem_map]
      exact ⟨fun h => ⟨_, h, rfl⟩, fun ⟨y, hy, e⟩ => ints_inj e ▸ hy⟩
    · have hn : r.map (rep (o c) (-1 - (c : Int))) ∉ fs := fun z => by rw [decide_eq_true z] at e; cases e
      have s810 := s89.trans s10
      refine wone ?_
      refine ws_app (ds := fs.map D.ints) (d := .ints (r.map (rep (o c) (-1 - (c : Int))))) (nv_name 7 rfl) (s810 _ _ g4) (g5.mono s810) (by rw [List.length_map]; omega) (ev_name 9 rfl (rn.mono s10)) fun v H11 s11 r11 f11 t11 => ?_
      have s811 := s810.trans s11
      refine ⟨_, _, _, addN fs (r.map (rep (o c) (-1 - (c : Int)))), rfl, same_mut (g0.trans s811) hflH, (g1.trans (Same.tm s810)).trans t11, ?_, ?_, upd_same, ?_, e6.symm⟩
      · rw [upd_ne flrl]; exact s811 _ _ g2
      · rw [upd_ne bdfl]; exact s811 _ _ g3
      · unfold addN
        rw [if_neg hn, List.map_append]
        exact r11
    · have hn : r.map (rep (o c) (-1 - (c : Int))) ∈ fs := by
        by_cases z : r.map (rep (o c) (-1 - (c : Int))) ∈ fs
        · exact z
        · rw [decide_eq_false z] at e; cases e
      have s810 := s89.trans s10
      have e7 : addN fs (r.map (rep (o c) (-1 - (c : Int)))) = fs := by unfold addN; rw [if_pos hn]
      exact ⟨_, _, fvs, fs, rfl, g0.trans s810, g1.trans (Same.tm s810), s810 _ _ g2, s810 _ _ g3, s810 _ _ g4, g5.mono s810, by rw [e6, e7]⟩
  · rintro σ' H7 ⟨o8, o9, fvs, fs, rfl, g0, g1, g2, g3, g4, g5, g6⟩
    rw [List.length_map, List.take_length] at g6
    have g6 : fs = freshF (o c) (-1 - (c : Int)) rows := g6
    rw [g6] at g5
    have L7 : LS H0 H7 n o book st fl bd (freshF (o c) (-1 - (c : Int)) rows) (bec ++ [(o c, -1 - (c : Int))]) := ⟨g0, L.ne, ⟨fvs, g4, g5⟩, g3, ch', by
      have := L.le
      rw [List.length_append]
      show bec.length + 1 + _ ≤ 3
      omega⟩
    have t7 : Tm H H7 := ((((Same.tm s13).trans tmb).trans (Same.tm s5)).trans (Same.tm s6)).trans g1
    refine wcons ?_
    refine ws_set 2 nd (NV.use (nv_name 7 rfl) ?_)
    refine wone ?_
    refine ws_set 6 nd ?_
    refine we_call G hr rfl ?_
    refine wa (pa_cons pe_w (pa_cons pe_w pa_nil)) ?_
    refine NV.use (nv_name 2 rfl) (NV.use (nv_name 5 rfl) ?_)
    refine ⟨n, fl, fvs, freshF (o c) (-1 - (c : Int)) rows, d, vd, rfl, g4, g5, rd.tm t7, hok, hdl, hdr, ch'.len, fun hk H8 s8 => ?_, fun a' ha' b' hb' hL' c' hc' hlt' v' H8 s8 rv' => ?_⟩
    · exact q H8 fl _ _ _ _ _ _ (L7.same s8) (t7.trans (Same.tm s8)) op' (.inl ⟨rfl, keeps_of_eq hst hk⟩)
    · exact q H8 fl _ _ _ _ _ _ (L7.same s8) (t7.trans (Same.tm s8)) op' (.inr ⟨a', ha', b', hb', hL', c', hc', hlt', rv'⟩)
end
end Nr
/-! The law's defs: chase. -/
namespace Nr
open PySem PySem.Spec L2
open PyProof.Rows hiding St

section
variable {P : Program} {w : World} {K : PySem.W.Frag} {mg : Str → Option Value} {base : Heap} {f C : Addr} {fd : FuncData}
theorem chaseF {cdv : Value} {A : Around} {outer : List Env} {s : Shared} {Hs : Hp} {E : XK} (B : Bi mg) (G1 : Ok P w K mg base 2 "_law_unlike" spUnlike) (G2 : Ok P w K mg base 3 "_law_missing" spLawMiss) (hr : Room 3 (A.deeper (envOfC "_law_chase" (defScope sLawChase) s.heap.objs.size f cdv))) (hu : A.units + 68 < cLine) {DE : Ends} {n : Nat} {o : Nat → Int} {book : List Dep} {st rows : List Row} {bec : List (Int × Int)} {v1 vd : V} {σ : L2.St} {o6 o7 o8 o9 o10 : Option V} {chg : Bool} {rl bd : Addr} {d : Dep} {H0 H : Hp}
    (hσ : σ = [some (.int (n : Int)), some v1, some (.ref rl), some (.ref bd), some (.bl chg), some vd, o6, o7, o8, o9, o10, none]) (L : LS H0 H n o book st rl bd rows bec) (ok : OOk n o) (hd : d ∈ book) (hok : DepOk n d) (h60 : d.L.length + d.R.length < 60) (h1 : 1 ≤ n) (h3 : n ≤ 3) (rd : Rep H (depD d) vd)
    (q : ∀ H' rl' rows' bec' chg' o6' o7' o8' o9' o10', LS H0 H' n o book st rl' bd rows' bec' → Tm H H' → ((chg' = chg ∧ rows' = rows ∧ Keeps n rows d) ∨ (chg' = true ∧ meas n o rows' < meas n o rows)) → DE.nx [some (.int (n : Int)), some v1, some (.ref rl'), some (.ref bd), some (.bl chg'), some vd, o6', o7', o8', o9', o10', none] H') :
    WSs (XC P w K mg base f cdv A outer s Hs E) cF DE σ H := by
  have nd := scLawChase.nd
  subst hσ
  refine wone ?_
  refine ws_ifB _ (et_eqS (ev_ixT (i := 0) (ev_name 5 rfl rd) ev_int rfl (fun _ _ => rfl)) ev_str) (fun e H1 s1 => ?_) fun e H1 s1 => ?_
  · have hst : d.st = true := by
      unfold kindS at e
      cases z : d.st with
      | true => rfl
      | false => rw [z] at e; exact absurd (of_decide_eq_true e) (by decide)
    have L1 := L.same s1
    have rd1 := rd.mono s1
    have loop : ∀ H2 vp, Same H1 H2 → (vp = .non ∧ Keeps n rows d ∨ PairAt H2 d rows vp) → WSs (XC P w K mg base f cdv A outer s Hs E) (cT.drop 1) DE [some (.int (n : Int)), some v1, some (.ref rl), some (.ref bd), some (.bl chg), some vd, some vp, o7, o8, o9, o10, none] H2 := fun H2 vp s2 hp => by
      refine wone ?_
      refine ws_while PassesOwn.never (fun m σ' H' => ∃ rl' rows' bec' chg' vp' o7' o8' o9', σ' = [some (.int (n : Int)), some v1, some (.ref rl'), some (.ref bd), some (.bl chg'), some vd, some vp', o7', o8', o9', o10, none] ∧ LS H0 H' n o book st rl' bd rows' bec' ∧ Tm H H' ∧ ((chg' = chg ∧ rows' = rows) ∨ (chg' = true ∧ meas n o rows' < meas n o rows)) ∧ (vp' = .non ∧ Keeps n rows' d ∨ PairAt H' d rows' vp') ∧ m = meas n o rows') (m := meas n o rows)
        ⟨rl, rows, bec, chg, vp, o7, o8, o9, rfl, L1.same s2, (Same.tm s1).trans (Same.tm s2), .inl ⟨rfl, rfl⟩, hp, rfl⟩ ?_
      rintro m σ' H' ⟨rl', rows', bec', chg', vp', o7', o8', o9', rfl, L', t', pg, hp', rfl⟩
      refine wt_notN (nv_name 6 rfl) (fun e => ?_) fun e => ?_
      · refine iteF ?_
        have hk : Keeps n rows' d := by
          rcases hp' with ⟨_, k⟩ | pr
          · exact k
          · exact absurd e pr.ne
        refine q H' rl' rows' bec' chg' _ _ _ _ _ L' t' ?_
        rcases pg with ⟨e1, e2⟩ | pg
        · exact .inl ⟨e1, e2, by rw [← e2]; exact hk⟩
        · exact .inr pg
      · refine iteT ?_
        have pr : PairAt H' d rows' vp' := by
          rcases hp' with ⟨e2, _⟩ | pr
          · exact absurd e2 e
          · exact pr
        refine chaseI B G1 (hr.mono (by decide)) hu rfl L' ok hd hok (by omega) (by omega) hst h1 h3 (rd.tm t') pr fun H'' rl'' rows'' bec'' vp'' o7'' o8'' o9'' L'' t'' op'' hp'' => ?_
        have lt := meas_eqs op''
        refine ⟨meas n o rows'', lt, rl'', rows'', bec'', true, vp'', _, _, _, rfl, L'', t'.trans t'', .inr ⟨rfl, ?_⟩, hp'', rfl⟩
        rcases pg with ⟨_, e2⟩ | ⟨_, pg⟩
        · rw [e2] at lt; exact lt
        · exact Nat.lt_trans lt pg
    obtain ⟨rvs, hrl, rrl⟩ := L1.ex
    refine wcons ?_
    refine ws_set 6 nd ?_
    refine we_call G1 (hr.mono (by decide)) rfl ?_
    refine wa (pa_cons pe_w (pa_cons pe_w pa_nil)) ?_
    refine NV.use (nv_name 2 rfl) (NV.use (nv_name 5 rfl) ?_)
    refine ⟨n, rl, rvs, rows, d, vd, rfl, hrl, rrl, rd1, hok, by omega, by omega, L.ch.len, fun hk H2 s2 => ?_, fun a ha b hb hL c hc hlt v H2 s2 rv => ?_⟩
    · exact loop H2 _ s2 (.inl ⟨rfl, keeps_of_eq hst hk⟩)
    · exact loop H2 _ s2 (.inr ⟨a, ha, b, hb, hL, c, hc, hlt, rv⟩)
  · have hst : d.st = false := by
      unfold kindS at e
      cases z : d.st with
      | false => rfl
      | true => rw [z] at e; exact absurd (of_decide_eq_false e) (by decide)
    have L1 := L.same s1
    obtain ⟨rvs, hrl, rrl⟩ := L1.ex
    refine wcons ?_
    refine ws_set 10 nd ?_
    refine we_call G2 hr rfl ?_
    refine wa (pa_cons pe_w (pa_cons pe_w (pa_cons pe_w pa_nil))) ?_
    refine NV.use (nv_name 0 rfl) (NV.use (nv_name 2 rfl) (NV.use (nv_name 5 rfl) ?_))
    refine ⟨n, rl, rvs, rows, d, vd, rfl, hrl, rrl, rd.mono s1, hst, hok, h60, L.ch.len, h1, h3, L.ch.few8 h3, fun ml mvs miss H2 s2 hml h2' r2 mnd mm => ?_⟩
    obtain ⟨ch', op'⟩ := Ch.addsL ok hd hok hst miss rows L.ch mnd fun r hr => (mm r).mp hr
    have r8 := ch'.few8 h3
    have rr8 := L.ch.few8 h3
    rw [List.length_append] at r8
    have s12 := s1.trans s2
    refine wcons ?_
    refine ws_set 4 nd (we_ev (dd := .bl (chg || decide ((0 : Int) < ((miss.map D.ints).length : Int)))) (ev_orB (ev_name 4 rfl rfl) fun _ => ev_gt (i := ((miss.map D.ints).length : Int)) (j := 0) (ev_lenL (ds := miss.map D.ints) (lv_name 10 rfl h2' r2) rfl B.len) ev_int) fun v3 H3 s3 r3 => ?_)
    obtain rfl := (show v3 = V.bl (chg || decide ((0 : Int) < ((miss.map D.ints).length : Int))) from r3)
    refine wcons ?_
    refine ws_set 2 nd (we_el (el_cat (xs := rows.map D.ints) (ys := miss.map D.ints) (lv_name 2 rfl (s3 _ _ (s2 _ _ hrl)) ((rrl.mono s2).mono s3)) (lv_name 10 rfl (s3 _ _ h2') (r2.mono s3)) ?_) fun l4 vs4 H4 hl4 s4 h4' r4 => ?_)
    · rw [List.length_map, List.length_map, sizeLine_eq]; omega
    rw [← List.map_append] at r4
    have s24 := s3.trans s4
    refine wone ?_
    refine ws_ifB false (ET.to (et_gt (i := (((rows ++ miss).map D.ints).length : Int)) (j := 40) (ev_lenL (ds := (rows ++ miss).map D.ints) (lv_name 2 rfl h4' r4) rfl B.len) ev_int) ?_) (fun e => by cases e) fun _ H5 s5 => wnil ?_
    · refine decide_eq_false ?_
      rw [List.length_map, List.length_append]
      omega
    · have s15 := (s2.trans s24).trans s5
      have L5 := L1.same s15
      refine q H5 l4 (rows ++ miss) bec _ _ _ _ _ _ ⟨L5.sm, L5.ne, ⟨vs4, s5 _ _ h4', r4.mono s5⟩, L5.bd, ch', ?_⟩ ((Same.tm s1).trans (Same.tm s15)) ?_
      · have := L.le
        omega
      · cases miss with
        | nil =>
          refine .inl ⟨by simp, List.append_nil _, keeps_of_mix hst fun a ha b hb hL => ?_⟩
          by_cases z : mix n d.R a b ∈ rows
          · exact z
          · exact nomatch (mm (mix n d.R a b)).mpr ⟨z, a, ha, b, hb, hL, rfl⟩
        | cons x miss =>
          refine .inr ⟨?_, meas_adds op' (by rw [List.length_append]; exact r8) (by simp)⟩
          have : decide ((0 : Int) < (((x :: miss).map D.ints).length : Int)) = true := decide_eq_true (by rw [List.length_map, List.length_cons]; omega)
          rw [this, Bool.or_true]
/-- _law_chase(width, book, rows) -/
def spLawChase : Sp := fun vs H Q _ => ∃ (n : Nat) (vb : V) (l0 : Addr) (xs0 : List V) (book : List Dep) (wd : Dep) (st : List Row), vs = [.int (n : Int), vb, .ref l0] ∧ Rep H (bookD book) vb ∧ H l0 = some (.lst xs0) ∧ RepL H (st.map D.ints) xs0 ∧ (∀ d ∈ book, DepOk n d ∧ d.L.length + d.R.length < 60) ∧ n ≤ 3 ∧ book.length ≤ 1000 ∧ WishOk n wd ∧ St n wd st ∧
  ∀ t rl rvs bd rows bec H', Same H H' → H' t = some (.tup [.ref rl, .ref bd]) → H' rl = some (.lst rvs) → RepL H' (rows.map D.ints) rvs → H' bd = some (.dK (becK bec)) → Done n book wd st rows bec → Q (.ref t) H'
theorem ok_lawChase (F : FnP K "_law_chase" "_law_chase" sLawChase f fd) (B : Bi mg) (G1 : Ok P w K mg base 2 "_law_unlike" spUnlike) (G2 : Ok P w K mg base 3 "_law_missing" spLawMiss) : FnOk P w K mg base CX0 4 f fd ["_law_width", "_law_book_here", "_law_rows"] spLawChase := by
  refine fnOk F scLawChase (fun vs H Q E h => ?_) fun cdv A outer s H vs Q E hr h => ?_
  · obtain ⟨n, vb, l0, xs0, book, wd, st, rfl, _⟩ := h
    rfl
  obtain ⟨n, vb, l0, xs0, book, wd, st, rfl, rb, hl0, rl0, hbk, h3, hbl, hw, hst, hq⟩ := h
  have nd := scLawChase.nd
  have hu : A.units + 68 < cLine := by
    have : A.units + 3 + 16 * 3 + 200 < cLine := hr.un
    omega
  have ok := oW_ok n wd
  have h1 := hw.pos
  refine wcons ?_
  refine ws_set 2 nd (we_el (el_listL (lv_name 2 rfl hl0 rl0) rfl B.list) fun l1 xs1 H1 hl1 s1 h1' r1 => ?_)
  refine wcons ?_
  refine ws_set 3 nd (we pe_dnewK fun bd hbd => ?_)
  have s2 : Same H1 (upd H1 bd (.dK [])) := same_new hbd
  refine wcons ?_
  refine ws_set 4 nd (we_ev ev_bl fun v3 H3 s3 r3 => ?_)
  obtain rfl := (show v3 = V.bl true from r3)
  have s13 := s2.trans s3
  have L3 : LS H H3 n (oW n wd) book st l1 bd st [] := ⟨(s1.trans s2).trans s3, Same.free s1 hbd, ⟨xs1, s13 _ _ h1', r1.mono s13⟩, s3 _ _ upd_same, hst.init hw, by
    have := opens_le n (oW n wd) st
    rw [List.length_nil]
    omega⟩
  refine wcons ?_
  refine ws_while PassesOwn.never (fun m σ' H' => ∃ rl rows bec chg o5 o6 o7 o8 o9 o10, σ' = [some (.int (n : Int)), some vb, some (.ref rl), some (.ref bd), some (.bl chg), o5, o6, o7, o8, o9, o10, none] ∧ LS H H' n (oW n wd) book st rl bd rows bec ∧ ((chg = true ∧ m = meas n (oW n wd) rows + 1) ∨ (chg = false ∧ m = 0 ∧ Closed n book rows))) (m := meas n (oW n wd) st + 1)
    ⟨l1, st, [], true, none, none, none, none, none, none, rfl, L3, .inl ⟨rfl, rfl⟩⟩ ?_
  rintro m σ' H' ⟨rl, rows, bec, chg, o5, o6, o7, o8, o9, o10, rfl, L, hc⟩
  refine (et_val (t := chg) (ev_name 4 rfl rfl)).now.mono fun b H4 ⟨eb, s4⟩ => ?_
  rw [eb]
  have L4 := L.same s4
  rcases hc with ⟨rfl, rfl⟩ | ⟨rfl, rfl, hcl⟩
  · refine iteT ?_
    refine wcons ?_
    refine ws_set 4 nd (we_ev ev_bl fun v5 H5 s5 r5 => ?_)
    obtain rfl := (show v5 = V.bl false from r5)
    have L5 := L4.same s5
    refine wone ?_
    refine ws_for PassesOwn.never rfl (pgn 5 nd) ?_
    refine WI.mono (wi_tup (ev_name 1 rfl (rb.mono L5.sm))) ?_
    rintro J H6 ⟨s6, rJ⟩
    refine forW rJ (fun i σ' H' => ∃ rl' rows' bec' chg' o5 o6 o7 o8 o9 o10, σ' = [some (.int (n : Int)), some vb, some (.ref rl'), some (.ref bd), some (.bl chg'), o5, o6, o7, o8, o9, o10, none] ∧ LS H H' n (oW n wd) book st rl' bd rows' bec' ∧ Tm H6 H' ∧ ((chg' = false ∧ rows' = rows ∧ ∀ d ∈ book.take i, Keeps n rows d) ∨ (chg' = true ∧ meas n (oW n wd) rows' < meas n (oW n wd) rows)))
      ⟨rl, rows, bec, false, o5, o6, o7, o8, o9, o10, rfl, L5.same s6, Tm.refl _, .inl ⟨rfl, rfl, fun d hd => by rw [List.take_zero] at hd; cases hd⟩⟩ ?_ ?_ ?_
    · rintro i σ' H' _ ⟨_, _, _, _, _, _, _, _, _, _, _, _, t, _⟩
      exact t
    · rintro i dd σ' H7 hdi ⟨rl', rows', bec', chg', o5, o6, o7, o8, o9, o10, rfl, L7, t7, pg⟩ vd H8 s8 rd
      rw [List.getElem?_map] at hdi
      obtain ⟨d, hi, rfl⟩ : ∃ d, book[i]? = some d ∧ depD d = dd := by
        cases h : book[i]? with
        | none => rw [h] at hdi; cases hdi
        | some r => rw [h] at hdi; exact ⟨r, rfl, Option.some.inj hdi⟩
      have hdm := List.mem_of_getElem? hi
      obtain ⟨hok, h60⟩ := hbk d hdm
      refine chaseF B G1 G2 hr hu rfl (L7.same s8) ok hdm hok h60 h1 h3 rd fun H9 rl'' rows'' bec'' chg'' o6' o7' o8' o9' o10' L9 t9 hc9 => ?_
      refine ⟨rl'', rows'', bec'', chg'', _, _, _, _, _, _, rfl, L9, (t7.trans (Same.tm s8)).trans t9, ?_⟩
      rcases hc9 with ⟨e1, e2, hk⟩ | ⟨e1, lt⟩
      · rw [e1, e2]
        rcases pg with ⟨p1, p2, p3⟩ | pg
        · refine .inl ⟨p1, p2, fun d' hd' => ?_⟩
          rw [take_get hi] at hd'
          rcases List.mem_append.mp hd' with z | z
          · exact p3 d' z
          · rw [List.mem_singleton.mp z, ← p2]; exact hk
        · exact .inr pg
      · refine .inr ⟨e1, ?_⟩
        rcases pg with ⟨_, p2, _⟩ | ⟨_, pg⟩
        · rw [p2] at lt; exact lt
        · exact Nat.lt_trans lt pg
    · rintro σ' H7 ⟨rl', rows', bec', chg', o5, o6, o7, o8, o9, o10, rfl, L7, t7, pg⟩
      rw [List.length_map, List.take_length] at pg
      rcases pg with ⟨p1, p2, p3⟩ | ⟨p1, p2⟩
      · refine ⟨0, Nat.succ_pos _, rl', rows', bec', chg', _, _, _, _, _, _, rfl, L7, .inr ⟨p1, rfl, ?_⟩⟩
        rw [p2]
        exact p3
      · exact ⟨meas n (oW n wd) rows' + 1, Nat.succ_lt_succ p2, rl', rows', bec', chg', _, _, _, _, _, _, rfl, L7, .inl ⟨p1, rfl⟩⟩
  · refine iteF ?_
    refine wone (ws_ret ?_)
    refine we (pe_tup (pa_cons pe_w (pa_cons pe_w pa_nil))) ?_
    refine NV.use (nv_name 2 rfl) (NV.use (nv_name 3 rfl) ?_)
    refine ⟨by show 2 ≤ sizeLine; decide, fun t ht => ?_⟩
    have st := same_new (o := .tup [.ref rl, .ref bd]) ht
    obtain ⟨rvs, hrl, rrl⟩ := L4.ex
    exact hq t rl rvs bd rows bec _ (L4.sm.trans st) upd_same (st _ _ hrl) (rrl.mono st) (st _ _ L4.bd) ⟨L4.ch, hst, hcl⟩
end
end Nr
/-! The law's defs: now, start, follows. -/
namespace Nr
open PySem PySem.Spec L2
open PyProof.Rows hiding St

section
variable {P : Program} {w : World} {K : PySem.W.Frag} {mg : Str → Option Value} {base : Heap} {f C : Addr} {fd : FuncData}
/-- _law_now(became, value) -/
def spLawNow : Sp := fun vs H Q _ => ∃ bd bec v, vs = [.ref bd, .int v] ∧ H bd = some (.dK (becK bec)) ∧ (∀ q ∈ bec, bec.lookup q.2 = none) ∧ ∀ H', Same H H' → Q (.int (nowv bec v)) H'
theorem scLawNow : FnScope ["_law_became", "_law_value"] ["_law_became", "_law_value"] (defScope sLawNow) := ⟨rfl, rfl, rfl, by decide +kernel, rfl, by decide +kernel, by decide +kernel⟩
theorem ok_lawNow (F : FnP K "_law_now" "_law_now" sLawNow f fd) : FnOk P w K mg base CX0 1 f fd ["_law_became", "_law_value"] spLawNow := by
  refine fnOk F scLawNow (fun vs H Q E h => ?_) fun cdv A outer s H vs Q E hr h => ?_
  · obtain ⟨bd, bec, v, rfl, _⟩ := h
    rfl
  obtain ⟨be, bec, v, rfl, h8, hb, hq⟩ := h
  refine wcons ?_
  refine ws_while PassesOwn.never (fun i σ' H' => H' = H ∧ ((i = 1 ∧ σ' = [some (.ref be), some (.int v)]) ∨ (i = 0 ∧ σ' = [some (.ref be), some (.int (nowv bec v))] ∧ bec.lookup (nowv bec v) = none))) (m := 1) ⟨rfl, .inl ⟨rfl, rfl⟩⟩ ?_
  rintro i σ' H' ⟨rfl, hc⟩
  refine wt (pt_cmp (pc_din hr.u1 pe_w pe_w)) ?_
  have fin : ∀ u, bec.lookup u = none → u = nowv bec v → ∀ σ', σ' = [some (.ref be), some (.int (nowv bec v))] → WSs (cxOf CX0 P w K mg base ["_law_became", "_law_value"] "_law_now" (defScope sLawNow) f cdv A outer s H' E).nox (L2.defBody sLawNow).tail ⟨fun _ H' => Q .non H', Q, fun _ _ => False, fun _ _ => False⟩ σ' H' := by
    rintro u _ rfl σ' rfl
    refine wone (ws_ret (NV.use (nv_name 1 rfl) ?_))
    exact hq _ (Same.refl _)
  rcases hc with ⟨rfl, rfl⟩ | ⟨rfl, rfl, hn⟩
  · refine NV.use (nv_name 1 rfl) (NV.use (nv_name 0 rfl) ?_)
    refine ⟨be, _, rfl, DGet.k (k := Sum.inl v) h8, _, rfl, ?_⟩
    rw [kS_at, Option.isSome_map]
    cases e : bec.lookup v with
    | none =>
      have en : nowv bec v = v := by unfold nowv; rw [e]; rfl
      refine iteF ?_
      exact fin v e en.symm _ (by rw [en])
    | some u =>
      have en : nowv bec v = u := by unfold nowv; rw [e]; rfl
      refine iteT ?_
      refine wone (ws_set 1 scLawNow.nd ?_)
      refine we (pe_dget hr.u1 pe_w pe_w (fun _ _ => rfl)) ?_
      refine NV.use (nv_name 0 rfl) (NV.use (nv_name 1 rfl) ?_)
      refine ⟨be, .int u, rfl, ?_, 0, Nat.zero_lt_one, rfl, .inr ⟨rfl, by rw [en]; rfl, by rw [en]; exact hb _ (lookup_mem e)⟩⟩
      have := DGet.k (k := Sum.inl v) h8
      rw [kS_at, e] at this
      exact this
  · refine NV.use (nv_name 1 rfl) (NV.use (nv_name 0 rfl) ?_)
    refine ⟨be, _, rfl, DGet.k (k := Sum.inl (nowv bec v)) h8, _, rfl, ?_⟩
    rw [kS_at, Option.isSome_map, hn]
    refine iteF ?_
    exact fin _ hn rfl _ rfl
end
section
variable {X : Cx} {b e : Expr} {σ : L2.St} {H : Hp} {bd : Addr} {bec : List (Int × Int)} {v : Int} {k : Nat} {p pos : Pos}
theorem ev_lnow (G : OkX X k "_law_now" spLawNow) (hr : Room k X.A) (hg : Gl X "_law_now") (hb : RV X b σ H (.ref bd)) (hd : H bd = some (.dK (becK bec))) (hl : ∀ q ∈ bec, bec.lookup q.2 = none) (ha : EV X e σ H (.int v))
    (he : starEach (b :: [e]) X.env = (false, eval b X.env) :: starEach [e] X.env := by rfl) (he2 : starEach [e] X.env = (false, eval e X.env) :: starEach [] X.env := by rfl) (hpl : (backTo pos (starEach [e] X.env)).any (·.1) = false := by rfl) : EV X (.Call (.Name "_law_now" p) [b, e] [] pos) σ H (.int (nowv bec v)) := fun H1 s => by
  refine we_call G hr hg ?_ (by decide) he hpl
  refine wa (pa_cons pe_w (pa_cons pe_w pa_nil he2) he) ?_
  refine (hb.mono s).use ?_
  refine (ha H1 s).mono fun x H2 ⟨s2, rx⟩ => ?_
  obtain rfl := (show x = V.int v from rx)
  exact ⟨bd, bec, v, rfl, s2 _ _ (s _ _ hd), hl, fun H3 s3 => ⟨s2.trans s3, rfl⟩⟩
end
section
variable {P : Program} {w : World} {K : PySem.W.Frag} {mg : Str → Option Value} {base : Heap} {f C : Addr} {fd : FuncData}
/-- _law_start(width, dependency) -/
def spLawStart : Sp := fun vs H Q _ => ∃ (n : Nat) (v2 : V) (wd : Dep), vs = [.int (n : Int), v2] ∧ Rep H (depD wd) v2 ∧ WishOk n wd ∧ n ≤ 3 ∧ wd.L.length + wd.R.length < 60 ∧ wd.R ≠ [] ∧ ∀ l xs st H', Same H H' → H l = none → H' l = some (.lst xs) → RepL H' (st.map D.ints) xs → St n wd st → Q (.ref l) H'
abbrev nLawStart : List Str := ["_law_width", "_law_dependency", "_law_rows", "_law_parts_here", "_law_j", "_law_row", "_law_k"]
theorem scLawStart : FnScope nLawStart ["_law_width", "_law_dependency"] (defScope sLawStart) := ⟨rfl, rfl, rfl, by decide +kernel, rfl, by decide +kernel, by decide +kernel⟩
theorem ok_lawStart (F : FnP K "_law_start" "_law_start" sLawStart f fd) (B : Bi mg) (G : Ok P w K mg base 1 "_law_parts" (spR 2 rLawParts)) : FnOk P w K mg base CX0 2 f fd ["_law_width", "_law_dependency"] spLawStart := by
  refine fnOk F scLawStart (fun vs H Q E h => ?_) fun cdv A outer s H vs Q E hr h => ?_
  · obtain ⟨n, v2, wd, rfl, _⟩ := h
    rfl
  obtain ⟨n, v2, wd, rfl, r2, hw, h3, h60, hne, hq⟩ := h
  have nd := scLawStart.nd
  have h1 := hw.pos
  refine wcons ?_
  refine ws_ifB _ (et_eqS (ev_ixT (i := 0) (ev_name 1 rfl r2) ev_int rfl (fun _ _ => rfl)) ev_str) (fun e H1 s1 => ?_) fun e H1 s1 => wnil ?_
  · have hst : wd.st = true := by
      unfold kindS at e
      cases z : wd.st with
      | true => rfl
      | false => rw [z] at e; exact absurd (of_decide_eq_true e) (by decide)
    refine wcons ?_
    refine ws_set 2 nd (we_el (ds := [D.ints (firstR n)]) (el_lst (ea_cons (EV.to (ev_tuple (ELS.el (el_mapN (cs := List.range n) 6 (fun c => .int (-1 - (c : Int))) nd (blkOk_by (N := nLawStart) (sc := defScope sLawStart) (by decide +kernel)) (src_range (ev_name 0 rfl rep_int) (by omega) rfl B.range) (by rw [List.length_range]; omega) fun c hc H2 s2 b => ?_)) rfl B.tuple) ?_) ea_nil) (by show 1 ≤ sizeLine; decide)) fun l2 vs2 H2 hl2 s2 h2' r2' => ?_)
    · exact ev_sub ev_m1 (ev_name 6 rfl rep_int)
    · rw [D.ints, firstR, List.map_map]
      rfl
    have s12 := s1.trans s2
    refine wcons ?_
    refine ws_app (ds := [D.ints (firstR n)]) (d := .ints (partR n wd.L 1)) (nv_name 2 rfl) h2' r2' (by show 1 < 100000; decide) (EV.to (ev_tuple (ELS.el (el_mapN (cs := List.range n) 6 (fun c => .int (-1 - (if c ∈ wd.L then (c : Int) else ((n * 1 + c : Nat) : Int)))) nd (blkOk_by (N := nLawStart) (sc := defScope sLawStart) (by decide +kernel)) (src_range (ev_name 0 rfl rep_int) (by omega) rfl B.range) (by rw [List.length_range]; omega) fun c hc H3 s3 b => ?_)) rfl B.tuple) ?_) fun v H3 s3 r3 f3 t3 => ?_
    · refine ev_ixL (i := if c ∈ wd.L then 1 else 0) (ds := [.int (-1 - (n : Int) - (c : Int)), .int (-1 - (c : Int))]) (EL.lv (el_lst (ea_cons (ev_sub (ev_sub ev_m1 (ev_name 0 rfl rep_int)) (ev_name 6 rfl rep_int)) (ea_cons (ev_sub ev_m1 (ev_name 6 rfl rep_int)) ea_nil)) (by show 2 ≤ sizeLine; decide))) (EV.to (ev_intB (t := decide (c ∈ wd.L)) (ev_inN (ev_name 6 rfl rep_int) (ev_ixT (i := 2) (ev_name 1 rfl ((r2.mono s12).mono s3)) ev_int rfl (fun _ _ => rfl))) rfl B.int) ?_) ?_
      · by_cases h : c ∈ wd.L <;> simp [h]
      · by_cases h : c ∈ wd.L
        · rw [if_pos h, if_pos h]; rfl
        · rw [if_neg h, if_neg h]
          show some (D.int _) = some (D.int _)
          congr 2
          omega
    · rw [D.ints, partR, List.map_map]
      rfl
    refine wone (ws_ret (NV.use (nv_name 2 rfl) ?_))
    refine hq l2 _ [firstR n, partR n wd.L 1] _ (same_mut (s12.trans s3) (Same.free s1 hl2)) (Same.free s1 hl2) upd_same r3 ⟨?_, fun r => ?_⟩
    · refine List.nodup_cons.mpr ⟨fun z => ?_, List.nodup_cons.mpr ⟨(fun z => nomatch z), List.nodup_nil⟩⟩
      have e := List.mem_singleton.mp z
      obtain ⟨c, hc⟩ := List.exists_mem_of_ne_nil _ hne
      have hcn := hw.ok.2 c hc
      have hcl : c ∉ wd.L := fun y => hw.dj c y hc
      have e2 : cel (firstR n) c = cel (partR n wd.L 1) c := by rw [e]
      rw [firstR_cel hcn, partR_cel hcn, if_neg hcl] at e2
      omega
    · unfold startL
      rw [if_pos hst]
  · have hst : wd.st = false := by
      unfold kindS at e
      cases z : wd.st with
      | false => rfl
      | true => rw [z] at e; exact absurd (of_decide_eq_false e) (by decide)
    have r2 := r2.mono s1
    refine wcons ?_
    refine ws_set 2 nd (we_el (el_lst ea_nil (by show 0 ≤ sizeLine; decide)) fun l2 vs2 H2 hl2 s2 h2' r2' => ?_)
    obtain rfl : vs2 = [] := r2'
    have s12 := s1.trans s2
    have hl20 : H l2 = none := Same.free s1 hl2
    refine wcons ?_
    refine ws_set 3 nd (we_ev (ev_call G hr rfl (ea_cons (ev_name 0 rfl rep_int) (ea_cons (ev_name 1 rfl (r2.mono s2)) ea_nil)) rfl ⟨n, wd, rfl, hst, by omega, hw.ok, h60, rfl⟩) fun vp H3 s3 rp => ?_)
    have s23 := s2.trans s3
    refine wcons ?_
    refine ws_for PassesOwn.never rfl (pgn 4 nd) ?_
    refine WI.mono (wi_range (n := 2) (EV.to (ev_lenT (ev_name 3 rfl rp) rfl B.len) rfl) (by decide) rfl B.range) ?_
    rintro J H4 ⟨s4, rJ⟩
    refine forW (rJ (fun _ => True)) (fun i σ' H' => ∃ o4 o5 rvs, ∃ rs : List Row, σ' = [some (.int (n : Int)), some v2, some (.ref l2), some vp, o4, o5, none] ∧ Same H H' ∧ Tm H3 H' ∧ H' l2 = some (.lst rvs) ∧ RepL H' (rs.map D.ints) rvs ∧ rs = ([partR n (p1 n wd) 1, partR n (p2 n wd) 2].take i).foldl addN [])
      ⟨none, none, [], [], rfl, (s1.trans s23).trans s4, Same.tm s4, s4 _ _ (s3 _ _ h2'), by exact rfl, rfl⟩ (fun _ _ _ _ _ => trivial) ?_ ?_
    · rintro i d σ' H5 hd ⟨o4, o5, rvs, rs, rfl, g0, g1, g2, g3, g4⟩ x H6 s6 rx
      have hi2 : i < 2 := by
        have := (List.getElem?_eq_some_iff.mp hd).1
        rw [natsD, List.length_map, List.length_range] at this
        exact this
      obtain rfl : D.int ((i : Nat) : Int) = d := by
        rw [natsD, List.getElem?_map, List.getElem?_range hi2] at hd
        exact Option.some.inj hd
      obtain rfl := (show x = V.int ((i : Nat) : Int) from rx)
      obtain ⟨pj, epj, e4⟩ : ∃ pj, [natsT (p1 n wd), natsT (p2 n wd)][i]? = some (natsT pj) ∧ ([partR n (p1 n wd) 1, partR n (p2 n wd) 2].take (i + 1)).foldl addN [] = addN rs (partR n pj (i + 1)) := by
        match i, hi2 with
        | 0, _ => exact ⟨p1 n wd, rfl, by rw [g4]; rfl⟩
        | 1, _ => exact ⟨p2 n wd, rfl, by rw [g4]; rfl⟩
      have rsl : rs.length ≤ 8 := by
        rw [g4]
        have := foldl_addN_len ([partR n (p1 n wd) 1, partR n (p2 n wd) 2].take i) []
        rw [List.length_take] at this
        have e0 : ([] : List Row).length = 0 := rfl
        omega
      have rp6 := (rp.tm g1).mono s6
      refine wcons ?_
      refine ws_set 5 nd (we_ev (dd := .ints (partR n pj (i + 1))) (EV.to (ev_tuple (ELS.el (el_mapN (cs := List.range n) 6 (fun c => .int (-1 - (if c ∈ pj then (c : Int) else ((n * (i + 1) + c : Nat) : Int)))) nd (blkOk_by (N := nLawStart) (sc := defScope sLawStart) (by decide +kernel)) (src_range (ev_name 0 rfl rep_int) (by omega) rfl B.range) (by rw [List.length_range]; omega) fun c hc H7 s7 b => ?_)) rfl B.tuple) ?_) fun vr H7 s7 rr => ?_)
      · refine ev_ixL (i := if c ∈ pj then 1 else 0) (ds := [.int (-1 - ((n : Int) * ((i + 1 : Nat) : Int)) - (c : Int)), .int (-1 - (c : Int))]) (EL.lv (el_lst (ea_cons (ev_sub (ev_sub ev_m1 (ev_mulN (i := n) (j := i + 1) (ev_name 0 rfl rep_int) (EV.to (ev_add (i := (i : Int)) (j := 1) (ev_name 4 rfl rep_int) ev_int) (by rw [Int.natCast_add]; rfl)) (by omega))) (ev_name 6 rfl rep_int)) (ea_cons (ev_sub ev_m1 (ev_name 6 rfl rep_int)) ea_nil)) (by show 2 ≤ sizeLine; decide))) (EV.to (ev_intB (t := decide (c ∈ pj)) (ev_inN (ev_name 6 rfl rep_int) (ev_ixT (i := i) (ev_name 3 rfl (rp6.mono s7)) (ev_name 4 rfl rep_int) epj (fun _ _ => rfl))) rfl B.int) ?_) ?_
        · by_cases h : c ∈ pj <;> simp [h]
        · by_cases h : c ∈ pj
          · rw [if_pos h, if_pos h]; rfl
          · rw [if_neg h, if_neg h]
            show some (D.int _) = some (D.int _)
            have e9 : ((n * (i + 1) + c : Nat) : Int) = (n : Int) * ((i + 1 : Nat) : Int) + (c : Int) := by rw [Int.natCast_add, Int.natCast_mul]
            rw [e9]
            generalize (n : Int) * ((i + 1 : Nat) : Int) = z
            congr 2
            omega
      · rw [D.ints, partR, List.map_map]
        rfl
      have s67 := s6.trans s7
      refine wone ?_
      refine ws_ifB (!decide (partR n pj (i + 1) ∈ rs)) (et_ninLL (d := .ints (partR n pj (i + 1))) (ds := rs.map D.ints) ?_ (ev_name 5 rfl rr) (lv_name 2 rfl (s67 _ _ g2) (g3.mono s67)) (rowD_ints _) (rowD_all _) ?_) (fun e H8 s8 => ?_) fun e H8 s8 => wnil ?_
      · have : A.units + 3 + 16 * 1 + 200 < cLine := hr.un
        show A.units + 3 + 65 < cLine
        omega
      · rw [decide_eq_true_iff, List.mem_map]
        exact ⟨fun h => ⟨_, h, rfl⟩, fun ⟨y, hy, e⟩ => ints_inj e ▸ hy⟩
      · have hn : partR n pj (i + 1) ∉ rs := fun z => by rw [decide_eq_true z] at e; cases e
        have s68 := s67.trans s8
        refine wone ?_
        refine ws_app (ds := rs.map D.ints) (d := .ints (partR n pj (i + 1))) (nv_name 2 rfl) (s68 _ _ g2) (g3.mono s68) (by rw [List.length_map]; omega) (ev_name 5 rfl (rr.mono s8)) fun v H9 s9 r9 f9 t9 => ?_
        refine ⟨_, _, _, addN rs (partR n pj (i + 1)), rfl, same_mut (g0.trans (s68.trans s9)) hl20, (g1.trans (Same.tm s68)).trans t9, upd_same, ?_, e4.symm⟩
        unfold addN
        rw [if_neg hn, List.map_append]
        exact r9
      · have hn : partR n pj (i + 1) ∈ rs := by
          by_cases z : partR n pj (i + 1) ∈ rs
          · exact z
          · rw [decide_eq_false z] at e; cases e
        have s68 := s67.trans s8
        have e7 : addN rs (partR n pj (i + 1)) = rs := by unfold addN; rw [if_pos hn]
        exact ⟨_, _, rvs, rs, rfl, g0.trans s68, g1.trans (Same.tm s68), s68 _ _ g2, g3.mono s68, by rw [e4, e7]⟩
    · rintro σ' H5 ⟨o4, o5, rvs, rs, rfl, g0, g1, g2, g3, g4⟩
      have g4 : rs = dedupF [partR n (p1 n wd) 1, partR n (p2 n wd) 2] := g4
      refine wone (ws_ret (NV.use (nv_name 2 rfl) ?_))
      refine hq l2 rvs rs H5 g0 hl20 g2 g3 ⟨by rw [g4]; exact dedupF_nodup _, fun r => ?_⟩
      unfold startL
      rw [if_neg (by rw [hst]; exact Bool.false_ne_true), g4, dedupF_mem]
/-- _law_follows(width, book, dependency) -/
def spLawFollows : Sp := fun vs H Q _ => ∃ (n : Nat) (vb v3 : V) (book : List Dep) (wd : Dep), vs = [.int (n : Int), vb, v3] ∧ Rep H (bookD book) vb ∧ Rep H (depD wd) v3 ∧ (∀ d ∈ book, DepOk n d ∧ d.L.length + d.R.length < 60) ∧ n ≤ 3 ∧ book.length ≤ 1000 ∧ WishOk n wd ∧ wd.L.length + wd.R.length < 60 ∧ wd.R ≠ [] ∧
  ∀ b H', Same H H' → (b = true ↔ Entails n book wd) → Q (.bl b) H'
abbrev nLawFollows : List Str := ["_law_width", "_law_book_here", "_law_dependency", "_law_rows", "_law_became", "_law_column"]
theorem scLawFollows : FnScope nLawFollows ["_law_width", "_law_book_here", "_law_dependency"] (defScope sLawFollows) := ⟨rfl, rfl, rfl, by decide +kernel, rfl, by decide +kernel, by decide +kernel⟩
theorem ok_lawFollows (F : FnP K "_law_follows" "_law_follows" sLawFollows f fd) (B : Bi mg) (G1 : Ok P w K mg base 4 "_law_chase" spLawChase) (G2 : Ok P w K mg base 2 "_law_start" spLawStart) (G3 : Ok P w K mg base 1 "_law_now" spLawNow) : FnOk P w K mg base CX0 5 f fd ["_law_width", "_law_book_here", "_law_dependency"] spLawFollows := by
  refine fnOk F scLawFollows (fun vs H Q E h => ?_) fun cdv A outer s H vs Q E hr h => ?_
  · obtain ⟨n, vb, v3, book, wd, rfl, _⟩ := h
    rfl
  obtain ⟨n, vb, v3, book, wd, rfl, rb, r3, hbk, h3, hbl, hw, h60, hne, hq⟩ := h
  have nd := scLawFollows.nd
  have h1 := hw.pos
  have hr1 : Room 1 (A.deeper (envOfC "_law_follows" (defScope sLawFollows) s.heap.objs.size f cdv)) := hr.mono (by decide)
  refine wcons ?_
  refine ws_asg (g := gTup K 2 (gCons (gName 3) (gCons (gName 4) gNil))) (by exact pg_tup rfl (pgs_cons (pgn 3 nd) (pgs_cons (pgn 4 nd) pgs_nil))) ?_
  refine we_call G1 hr rfl ?_
  refine wa (pa_cons pe_w (pa_cons pe_w (pa_cons pe_w pa_nil))) ?_
  refine NV.use (nv_name 0 rfl) (NV.use (nv_name 1 rfl) ?_)
  refine we_call G2 (hr.mono (by decide)) rfl ?_
  refine (nva_cons (nv_name 0 rfl) (nva_cons (nv_name 2 rfl) nva_nil)) _ _ ⟨n, v3, wd, rfl, r3, hw, h3, h60, hne, fun l0 xs0 st H1 s1 hl0 h0' r0 hst => ?_⟩
  refine ⟨n, vb, l0, xs0, book, wd, st, rfl, rb.mono s1, h0', r0, hbk, h3, hbl, hw, hst, fun t rl rvs bd rows bec H2 s2 ht hrl rrl hbd dn => ?_⟩
  refine ⟨t, _, rfl, SqT.of ht, rfl, _, _, rfl, _, _, rfl, rfl, ?_⟩
  have s02 := s1.trans s2
  have r3 := r3.mono s02
  have hlk := dn.ch.lk (oW_ok n wd)
  have r8 := dn.ch.few8 h3
  refine wcons ?_
  refine ws_ifB _ (et_eqS (ev_ixT (i := 0) (ev_name 2 rfl r3) ev_int rfl (fun _ _ => rfl)) ev_str) (fun e H3 s3 => ?_) fun e H3 s3 => wnil ?_
  · have hst' : wd.st = true := by
      unfold kindS at e
      cases z : wd.st with
      | true => rfl
      | false => rw [z] at e; exact absurd (of_decide_eq_true e) (by decide)
    have r3 := r3.mono s3
    refine wcons ?_
    refine ws_for PassesOwn.never rfl (pgn 5 nd) ?_
    refine WI.mono (wi_tup (ds := wd.R.map fun (c : Nat) => .int (c : Int)) (ev_ixT (i := 3) (ev_name 2 rfl r3) ev_int rfl (fun _ _ => rfl))) ?_
    rintro J H4 ⟨s4, rJ⟩
    refine forW rJ (fun i σ' H' => ∃ o5, σ' = [some (.int (n : Int)), some vb, some v3, some (.ref rl), some (.ref bd), o5] ∧ Same H4 H' ∧ ∀ c ∈ wd.R.take i, c ∉ wd.L → nowv bec (-1 - (c : Int)) = nowv bec (-1 - ((n + c : Nat) : Int)))
      ⟨none, rfl, Same.refl _, fun c hc => by rw [List.take_zero] at hc; cases hc⟩ ?_ ?_ ?_
    · rintro i σ' H' _ ⟨_, _, t, _⟩
      exact Same.tm t
    · rintro i d σ' H5 hd ⟨o5, rfl, g5, p5⟩ x H6 s6 rx
      rw [List.getElem?_map] at hd
      obtain ⟨c, hci, rfl⟩ : ∃ c, wd.R[i]? = some c ∧ D.int ((c : Nat) : Int) = d := by
        cases h : wd.R[i]? with
        | none => rw [h] at hd; cases hd
        | some r => rw [h] at hd; exact ⟨r, rfl, Option.some.inj hd⟩
      obtain rfl := (show x = V.int ((c : Nat) : Int) from rx)
      have hcR := List.mem_of_getElem? hci
      have hcn := hw.ok.2 c hcR
      have s36 := (s4.trans g5).trans s6
      have hbd6 := s36 _ _ (s3 _ _ hbd)
      refine wone ?_
      refine ws_ifB (!decide (c ∈ wd.L) && !decide (nowv bec (-1 - (c : Int)) = nowv bec (-1 - ((n + c : Nat) : Int)))) ?_ (fun e2 H7 s7 => ?_) fun e2 H7 s7 => wnil ?_
      · refine et_and (et_ninN (ev_name 5 rfl rep_int) (ev_ixT (i := 2) (ev_name 2 rfl (r3.mono s36)) ev_int rfl (fun _ _ => rfl))) fun _ => et_neI (ev_lnow G3 hr1 rfl (rv_name 4 rfl) hbd6 hlk (ev_sub ev_m1 (ev_name 5 rfl rep_int))) (ev_lnow G3 hr1 rfl (rv_name 4 rfl) hbd6 hlk (EV.to (ev_sub (ev_sub ev_m1 (ev_name 0 rfl rep_int)) (ev_name 5 rfl rep_int)) ?_))
        rw [Int.natCast_add]
        congr 1
        omega
      · rw [Bool.and_eq_true] at e2
        obtain ⟨e3, e4⟩ := e2
        have hcl : c ∉ wd.L := fun z => by rw [decide_eq_true z] at e3; cases e3
        have hnv : nowv bec (-1 - (c : Int)) ≠ nowv bec (-1 - ((n + c : Nat) : Int)) := fun z => by rw [decide_eq_true z] at e4; cases e4
        refine wone (ws_retV ev_bl fun v H8 s8 rv => ?_)
        rw [show v = V.bl false from rv]
        refine hq false H8 (((s02.trans s3).trans s36).trans (s7.trans s8)) ⟨(fun z => by cases z), fun en => ?_⟩
        have m := (dn.met_iff hw).mpr en
        unfold Met at m
        rw [if_pos hst'] at m
        exact absurd (m c hcR hcl) hnv
      · refine ⟨_, rfl, (g5.trans s6).trans s7, fun c' hc' hcl => ?_⟩
        rw [take_get hci] at hc'
        rcases List.mem_append.mp hc' with z | z
        · exact p5 c' z hcl
        · rw [List.mem_singleton.mp z] at hcl ⊢
          by_cases hnv : nowv bec (-1 - (c : Int)) = nowv bec (-1 - ((n + c : Nat) : Int))
          · exact hnv
          · rw [decide_eq_false hcl, decide_eq_false hnv] at e2; cases e2
    · rintro σ' H5 ⟨o5, rfl, g5, p5⟩
      rw [List.length_map, List.take_length] at p5
      refine wone (ws_retV ev_bl fun v H6 s6 rv => ?_)
      rw [show v = V.bl true from rv]
      refine hq true H6 (((s02.trans s3).trans s4).trans (g5.trans s6)) ⟨fun _ => (dn.met_iff hw).mp ?_, fun _ => rfl⟩
      unfold Met
      rw [if_pos hst']
      exact p5
  · have hst' : wd.st = false := by
      unfold kindS at e
      cases z : wd.st with
      | false => rfl
      | true => rw [z] at e; exact absurd (of_decide_eq_false e) (by decide)
    refine wone (ws_retV (d := .bl (decide ((firstR n).map (nowv bec) ∈ rows))) (ev_inLL (d := .ints ((firstR n).map (nowv bec))) (ds := rows.map D.ints) ?_ (EV.to (ev_tuple (ELS.el (el_mapN (cs := List.range n) 5 (fun c => .int (nowv bec (-1 - (c : Int)))) nd (blkOk_by (N := nLawFollows) (sc := defScope sLawFollows) (by decide +kernel)) (src_range (ev_name 0 rfl rep_int) (by omega) rfl B.range) (by rw [List.length_range]; omega) fun c hc H4 s4 b => ?_)) rfl B.tuple) ?_) (lv_name 3 rfl (s3 _ _ hrl) (rrl.mono s3)) (rowD_ints _) (rowD_all _) ?_) fun v H4 s4 rv => ?_)
    · have : A.units + 3 + 16 * 4 + 200 < cLine := hr.un
      show A.units + 3 + 65 < cLine
      omega
    · exact ev_lnow G3 hr1 rfl (rv_name 4 rfl) (s4 _ _ (s3 _ _ hbd)) hlk (ev_sub ev_m1 (ev_name 5 rfl rep_int))
    · rw [D.ints, firstR, List.map_map, List.map_map]
      rfl
    · rw [decide_eq_true_iff, List.mem_map]
      exact ⟨fun h => ⟨_, h, rfl⟩, fun ⟨y, hy, e⟩ => ints_inj e ▸ hy⟩
    · rw [show v = V.bl _ from rv]
      refine hq _ H4 ((s02.trans s3).trans s4) ?_
      rw [decide_eq_true_iff]
      refine Iff.trans ?_ (dn.met_iff hw)
      unfold Met
      rw [if_neg (by rw [hst']; exact Bool.false_ne_true)]
end
end Nr
/-! The law. -/
namespace Nr
open PySem PySem.Spec L2
open PyProof.Rows hiding St

section
variable {X : Cx} {elt c a b : Expr} {σ : L2.St} {H H2 : Hp} {scope : Scope} {ds : List D} {vs : List V} {l : Addr} {pos : Pos} {t u : Bool}
theorem runs_itt {K : PySem.W.Frag} (hl : H l = some (.tup vs)) (rl : RepL H ds vs) : Runs (Itt K l) (Tm H) ds := fun i H3 m => by
  refine ⟨fun d hd => ?_, fun hi => ?_⟩
  · obtain ⟨v, hv, rv⟩ := rl.get hd
    refine ⟨⟨vs, v, SqT.of (m _ _ hl), hv⟩, fun x H' y => ?_⟩
    obtain ⟨e, y⟩ := y
    have y1 := y vs (SqT.of (m _ _ hl))
    rw [hv] at y1
    rw [e, ← Option.some.inj y1]
    exact ⟨Same.refl _, rv.tm m⟩
  · exact ⟨vs, SqT.of (m _ _ hl), by rw [rl.length, hi]; exact Nat.le_refl _⟩
/-- [x for x in .. if c], the walk begun -/
theorem lc_filt {J : It} {Q : VK} (j : Nat) (k : D → Bool) (r2 : Runs J (Same H2) ds) (hl : ds.length < sizeLine)
    (turn : ∀ d ∈ ds, ∀ v H3, Same H2 H3 → Rep H3 d v → ∀ b, ET (XB X scope b) c ((wipe σ [j]).set j (some v)) H3 (k d) ∧ EV (XB X scope b) elt ((wipe σ [j]).set j (some v)) H3 d)
    (kq : ∀ l vs H3, H2 l = none → Same H2 H3 → H3 l = some (.lst vs) → RepL H3 (ds.filter k) vs → Q (.ref l) H3) :
    tLc (fun σ H R => R J H) (gName j) (fun σ H Q => ∀ b, WTs (XB X scope b) [c] σ H Q) (fun σ H Q => ∀ b, WE (XB X scope b) elt σ H Q) [j] σ H2 Q := by
  intro Dl hD
  have sD : Same H2 (upd H2 Dl (.lst [])) := same_new hD
  refine ⟨fun i m H' => m = ds.length - i ∧ i ≤ ds.length ∧ Same H2 H' ∧ ∃ vs, H' Dl = some (.lst vs) ∧ vs.length ≤ i ∧ RepL H' ((ds.take i).filter k) vs, ⟨ds.length, by simp, Nat.zero_le _, sD, [], upd_same, Nat.le_refl _, by simp [RepL]⟩, ?_⟩
  rintro i m H3 ⟨rfl, hi', s3, vs, hv, hvl, rl⟩
  have rr := r2 i H3 s3
  by_cases hlt : i < ds.length
  · right
    have hd : ds[i]? = some ds[i] := List.getElem?_eq_getElem hlt
    obtain ⟨go, yl⟩ := rr.1 _ hd
    refine ⟨go, fun H' => i + 1 ≤ ds.length ∧ Same H2 H' ∧ ∃ vs, H' Dl = some (.lst vs) ∧ vs.length ≤ i + 1 ∧ RepL H' ((ds.take (i + 1)).filter k) vs, fun H' ⟨p1, p2, p3⟩ => ⟨ds.length - (i + 1), by omega, rfl, p1, p2, p3⟩, fun x H4 hy => ?_⟩
    obtain ⟨s4, rx⟩ := yl x H4 hy
    have st := s3.trans s4
    have ft : (ds.take (i + 1)).filter k = (ds.take i).filter k ++ if k ds[i] = true then [ds[i]] else [] := by
      rw [take_get hd, List.filter_append]
      congr 1
      by_cases z : k ds[i] = true <;> simp [z]
    have tk := turn ds[i] (List.getElem_mem hlt) x H4 st rx
    refine ⟨wipe1, fun b => ?_⟩
    refine wts (pts_one pt_w) ?_
    refine ((tk b).1 H4 (Same.refl _)).mono fun cc H5 ⟨ec, s5⟩ => ?_
    rw [ec]
    have s35 := s4.trans s5
    by_cases hk : k ds[i] = true
    · rw [if_pos hk]
      rw [if_pos hk] at ft
      intro b2
      refine ((tk b2).2 H5 s5).mono fun y H6 ⟨s6, ry⟩ => ?_
      have s36 := s35.trans s6
      refine ⟨vs, s36 _ _ hv, by omega, hlt, same_mut (s3.trans s36) hD, vs ++ [y], upd_same, by rw [List.length_append]; exact Nat.succ_le_succ hvl, ?_⟩
      rw [ft]
      have m7 : Tm H6 (upd H6 Dl (.lst (vs ++ [y]))) := tm_upd (s36 _ _ hv) (by intro ys z; cases z)
      exact RepL.append ((rl.mono s36).tm m7) (.one (ry.tm m7))
    · rw [if_neg hk]
      rw [if_neg hk, List.append_nil] at ft
      exact ⟨hlt, s3.trans s35, vs, s35 _ _ hv, Nat.le_succ_of_le hvl, by rw [ft]; exact rl.mono s35⟩
  · left
    have e : i = ds.length := by omega
    refine ⟨rr.2 e, kq Dl vs H3 hD s3 hv ?_⟩
    rw [e, List.take_length] at rl
    exact rl
theorem et_neBB (ha : EV X a σ H (.bl t)) (hb : EV X b σ H (.bl u)) (hm : behindInMarks .NotEq b = false := by first | exact nobehind _ (by decide) (by decide) | rfl) : ET X (.Compare a [.NotEq] [b] pos) σ H (!decide (t = u)) :=
  et_cmp op_ne ha hb hm fun x y H1 _ rx ry Q q => by
    rw [show x = V.bl t from rx, show y = V.bl u from ry]
    refine ⟨rfl, ?_⟩
    have : decide (V.bl t = V.bl u) = decide (t = u) := by
      rw [Bool.eq_iff_iff, decide_eq_true_iff, decide_eq_true_iff]
      exact ⟨fun z => V.bl.inj z, fun z => by rw [z]⟩
    rw [this]
    exact q _ (Same.refl _)
end
/-- is the left of such data not empty -/
def leftK (d : D) : Bool := match d with
  | .tup [_, _, .tup l, _] => decide ((0 : Int) < (l.length : Int))
  | _ => false
theorem leftK_dep (d : Dep) : leftK (depD d) = decide (d.L ≠ []) := by
  show decide ((0 : Int) < ((d.L.map fun (c : Nat) => D.int (c : Int)).length : Int)) = _
  rw [List.length_map, Bool.eq_iff_iff, decide_eq_true_iff, decide_eq_true_iff]
  constructor
  · intro h e
    rw [e] at h
    exact absurd h (by decide)
  · intro h
    have := List.length_pos_iff.mpr h
    omega
theorem book_filter (book : List Dep) : (book.map depD).filter leftK = (book.filter fun d => decide (d.L ≠ [])).map depD := by
  rw [List.filter_map]
  congr 1
  exact List.filter_congr fun d _ => leftK_dep d
open Classical in
theorem bool_of {b : Bool} {p : Prop} (h : b = true ↔ p) : b = decide p := by
  rw [Bool.eq_iff_iff, decide_eq_true_iff]
  exact h
abbrev nLaw : List Str := ["_law_script", "_law_draws_here", "_law_width", "_law_book_here", "_law_rows", "_law_columns", "_law_left", "_law_right", "_law_wishes", "_law_wish", "_law_one", "_law_column"]
theorem scLaw : FnScope nLaw ["_law_script"] (defScope sLaw) := ⟨rfl, rfl, rfl, by decide +kernel, rfl, by decide +kernel, by decide +kernel⟩
abbrev wL : List Stmt := fb ((defBody sLaw).getD 6 (.Pass ⟨0, 0, 0, 0⟩))
abbrev wR : List Stmt := fb (wL.getD 0 (.Pass ⟨0, 0, 0, 0⟩))
section
variable {P : Program} {w : World} {K : PySem.W.Frag} {mg : Str → Option Value} {base : Heap} {f C : Addr} {fd : FuncData}
abbrev XL (P : Program) (w : World) (K : PySem.W.Frag) (mg : Str → Option Value) (base : Heap) (f : Addr) (cdv : Value) (A : Around) (outer : List Env) (s : Shared) (H : Hp) (E : XK) : Cx := (cxOf CX0 P w K mg base nLaw "law" (defScope sLaw) f cdv A outer s H E).nox
/-- the wishes of one left, one right -/
theorem lawR {cdv : Value} {A : Around} {outer : List Env} {s : Shared} {Hs : Hp} {E : XK} (B : Bi mg) (G1 : Ok P w K mg base 3 "_law_keeps_one" spKeeps) (G2 : Ok P w K mg base 5 "_law_follows" spLawFollows) (hr : Room 5 (A.deeper (envOfC "law" (defScope sLaw) s.heap.objs.size f cdv))) {DE : Ends} {n : Nat} {book W : List Dep} {R : List Row} {v0 v1 vb vR v5 vl vr : V} {σ : L2.St} {o8 o9 : Option V} {left right : List Nat} {H : Hp}
    (hσ : σ = [some v0, some v1, some (.int (n : Int)), some vb, some vR, some v5, some vl, some vr, o8, o9, none, none]) (rb : Rep H (bookD book) vb) (rR : Rep H (.tup ((sortR R).map D.ints)) vR) (rl : Rep H (natsT left) vl) (rr : Rep H (natsT right) vr)
    (hbk : ∀ d ∈ book, DepOk n d ∧ d.L.length + d.R.length < 60) (hbl : book.length ≤ 1000) (h1 : 1 ≤ n) (h3 : n ≤ 3) (t : Tab n book W R) (p : W.Perm (wishL n)) (hRl : R.length ≤ 60) (hl : left ∈ subsF (List.range n)) (hrr : right ∈ subsF (restL n left))
    (q : ∀ H' o8' o9', Same H H' → DE.nx [some v0, some v1, some (.int (n : Int)), some vb, some vR, some v5, some vl, some vr, o8', o9', none, none] H') : WSs (XL P w K mg base f cdv A outer s Hs E) wR DE σ H := by
  have nd := scLaw.nd
  subst hσ
  have ll : left.length ≤ 3 := by
    have := (subsF_mem (n := n) (m := 0) (cs := List.range n) (acc := [[]]) (fun s hs c hc => by rw [List.mem_singleton.mp hs] at hc; cases hc) (fun s hs => by rw [List.mem_singleton.mp hs]; exact Nat.le_refl _) (fun c hc => List.mem_range.mp hc) left hl).2
    rw [List.length_range] at this
    omega
  have rl3 : right.length ≤ 3 := by
    have := (subsF_mem (n := n) (m := 0) (cs := restL n left) (acc := [[]]) (fun s hs c hc => by rw [List.mem_singleton.mp hs] at hc; cases hc) (fun s hs => by rw [List.mem_singleton.mp hs]; exact Nat.le_refl _) (fun c hc => (mem_restL.mp hc).1) right hrr).2
    have h2 := restL_len n left
    omega
  have hlen : ∀ r ∈ sortR R, r.length = n := fun r hr => t.len r ((sortR_perm R).mem_iff.mp hr)
  have hSl : (sortR R).length ≤ 1000 := by rw [(sortR_perm R).length_eq]; omega
  refine wcons ?_
  refine ws_set 8 nd (we_el (ds := [depD ⟨false, left, right⟩]) (el_lst (ea_cons (ev_tup (ea_cons ev_str (ea_cons ev_int (ea_cons (ev_name 6 rfl rl) (ea_cons (ev_name 7 rfl rr) ea_nil)))) (by show 4 ≤ sizeLine; decide)) ea_nil) (by show 1 ≤ sizeLine; decide)) fun wl wvs H1 hwl s1 h1' r1 => ?_)
  have rl1 := rl.mono s1
  have rr1 := rr.mono s1
  have rest : ∀ (ws' : List Dep) wvs' H2, (∀ x ∈ ws', ∃ b, x = ⟨b, left, right⟩ ∧ (b = true → right.length = 1)) → H2 wl = some (.lst wvs') → RepL H2 (ws'.map depD) wvs' → Same H H2 →
      WSs (XL P w K mg base f cdv A outer s Hs E) (wR.drop 2) DE [some v0, some v1, some (.int (n : Int)), some vb, some vR, some v5, some vl, some vr, some (.ref wl), o9, none, none] H2 := fun ws' wvs' H2 hws h2 r2 s02 => by
    refine wone ?_
    refine ws_for PassesOwn.never rfl (pgn 9 nd) ?_
    refine WI.mono ((src_lv (lv_name 8 rfl h2 r2)) H2 (Same.refl _)) ?_
    rintro J H3 ⟨s3, rJ⟩
    refine forW rJ (fun i σ' H' => ∃ o9, σ' = [some v0, some v1, some (.int (n : Int)), some vb, some vR, some v5, some vl, some vr, some (.ref wl), o9, none, none] ∧ Same H3 H') ⟨o9, rfl, Same.refl _⟩ ?_ ?_ ?_
    · rintro i σ' H' _ ⟨_, _, t⟩
      exact t
    · rintro i d σ' H4 hd ⟨o9, rfl, g4⟩ vw H5 s5 rw_
      obtain ⟨x, hx, rfl⟩ := List.mem_map.mp (List.mem_of_getElem? hd)
      obtain ⟨b, rfl, hb⟩ := hws x hx
      have s05 := ((s02.trans s3).trans g4).trans s5
      refine wone ?_
      refine ws_ifB false ?_ (fun e => by cases e) fun _ H6 s6 => wnil ?_
      · refine ET.to (et_and (t := decide ((0 : Int) < (right.length : Int))) (u := false) (et_gt (i := (right.length : Int)) (j := 0) (EV.to (ev_lenT (ev_name 7 rfl (rr.mono s05)) rfl B.len) (by rw [List.length_map])) ev_int) fun e => ?_) (by rw [Bool.and_false])
        have hne : right ≠ [] := fun z => by
          rw [z] at e
          exact absurd e (by decide)
        have wk : WishOk n ⟨b, left, right⟩ := wish_ok h1 hl hrr
        have key := t.iff p h1 h3 hl hrr hne hb
        refine ET.to (et_neBB (t := @decide (Keeps n R ⟨b, left, right⟩) (Classical.propDecidable _)) (u := @decide (Keeps n R ⟨b, left, right⟩) (Classical.propDecidable _)) (fun H6 s6 => ?_) fun H6 s6 => ?_) (by simp)
        · refine we_call G1 (hr.mono (by decide)) rfl ?_
          refine (nva_cons (nv_name 2 rfl) (nva_cons (nv_name 4 rfl) (nva_cons (nv_name 9 rfl) nva_nil))) _ _ ?_
          refine ⟨n, vR, vw, sortR R, ⟨b, left, right⟩, rfl, rR.mono (s05.trans s6), rw_.mono s6, hlen, wk.ok, by show left.length ≤ 1000; omega, by show right.length ≤ 1000; omega, hSl, by omega, fun b' H7 s7 hb' => ⟨s7, ?_⟩⟩
          have := bool_of (hb'.trans (keeps_mem fun r => (sortR_perm R).mem_iff))
          show V.bl b' = V.bl _
          rw [this]
        · refine we_call G2 hr rfl ?_
          refine (nva_cons (nv_name 2 rfl) (nva_cons (nv_name 3 rfl) (nva_cons (nv_name 9 rfl) nva_nil))) _ _ ?_
          refine ⟨n, vb, vw, book, ⟨b, left, right⟩, rfl, rb.mono (s05.trans s6), rw_.mono s6, hbk, h3, hbl, wk, by show left.length + right.length < 60; omega, hne, fun b' H7 s7 hb' => ⟨s7, ?_⟩⟩
          have := bool_of (hb'.trans key.symm)
          show V.bl b' = V.bl _
          rw [this]
      · exact ⟨_, rfl, (g4.trans s5).trans s6⟩
    · rintro σ' H4 ⟨o9, rfl, g4⟩
      exact q H4 _ _ ((s02.trans s3).trans g4)
  refine wcons ?_
  refine ws_ifB (decide ((right.length : Int) = 1)) (et_eqI (EV.to (ev_lenT (ev_name 7 rfl rr1) rfl B.len) (by rw [List.length_map])) ev_int) (fun e H2 s2 => ?_) fun e H2 s2 => wnil ?_
  · have h1r : right.length = 1 := by have := of_decide_eq_true e; omega
    refine wone ?_
    refine ws_app (ds := [depD ⟨false, left, right⟩]) (d := depD ⟨true, left, right⟩) (nv_name 8 rfl) (s2 _ _ h1') (r1.mono s2) (by show 1 < 100000; decide) (ev_tup (ea_cons ev_str (ea_cons ev_int (ea_cons (ev_name 6 rfl (rl1.mono s2)) (ea_cons (ev_name 7 rfl (rr1.mono s2)) ea_nil)))) (by show 4 ≤ sizeLine; decide)) fun v H3 s3 r3 f3 t3 => ?_
    refine rest [⟨false, left, right⟩, ⟨true, left, right⟩] _ _ (fun x hx => ?_) upd_same r3 (same_mut ((s1.trans s2).trans s3) hwl)
    rcases List.mem_cons.mp hx with z | z
    · exact ⟨false, z, fun y => by cases y⟩
    · exact ⟨true, List.mem_singleton.mp z, fun _ => h1r⟩
  · refine rest [⟨false, left, right⟩] wvs H2 (fun x hx => ⟨false, List.mem_singleton.mp hx, fun y => by cases y⟩) (s2 _ _ h1') (r1.mono s2) (s1.trans s2)
end
end Nr
/-! The law. -/
namespace Nr
open PySem PySem.Spec L2
open PyProof.Rows hiding St

section
variable {P : Program} {w : World} {K : PySem.W.Frag} {mg : Str → Option Value} {base : Heap} {f C : Addr} {fd : FuncData}
/-- law(script) -/
def spLaw (K : PySem.W.Frag) : Sp := fun vs H Q _ => ∃ (a : Addr) (ns : List Int), vs = [.ref a] ∧ SqL K H a (ns.map V.int) ∧ ns.length ≤ 63 ∧ ∀ H', Q (.bl true) H'
theorem ok_law (F : FnP K "law" "law" sLaw f fd) (B : Bi mg) (Gd : Ok P w K mg base 1 "_law_draws" (spDraws K)) (Gt : Ok P w K mg base 1 "_law_take" spTake) (Gb : Ok P w K mg base 3 "_law_book" spBook) (Ge : Ok P w K mg base 10 "exact_table" spExact) (Gk : Ok P w K mg base 2 "_law_known_rows" (spR 2 rKnownRows)) (Gs : Ok P w K mg base 1 "_law_sets" spLawSets)
    (G1 : Ok P w K mg base 3 "_law_keeps_one" spKeeps) (G2 : Ok P w K mg base 5 "_law_follows" spLawFollows) : FnOk P w K mg base CX0 11 f fd ["_law_script"] (spLaw K) := by
  refine fnOk F scLaw (fun vs H Q E h => ?_) fun cdv A outer s H vs Q E hr h => ?_
  · obtain ⟨a, ns, rfl, _⟩ := h
    rfl
  obtain ⟨a, ns, rfl, hS, hl63, hq⟩ := h
  have nd := scLaw.nd
  refine wcons ?_
  refine ws_set 1 nd ?_
  refine we_call Gd (hr.mono (by decide)) rfl ?_
  refine wa (pa_cons pe_w (pa_cons pe_w pa_nil)) ?_
  refine NV.use (nv_name 0 rfl) ?_
  refine we pe_int ?_
  refine ⟨a, ns, 90, rfl, hS, hl63, by decide, fun l ds H1 _ _ h1' => ?_⟩
  refine wcons ?_
  refine ws_set 2 nd ?_
  refine we (pe_ix ix_list pe_w pe_w (fun _ _ => rfl)) ?_
  refine we_el (ds := [.int 1, .int 2, .int 3, .int 3, .int 3]) (el_lst (ea_cons ev_int (ea_cons ev_int (ea_cons ev_int (ea_cons ev_int (ea_cons ev_int ea_nil))))) (by show 5 ≤ sizeLine; decide)) fun l2 vs2 H2 hl2 s2 h2' r2 => ?_
  have e2 : vs2 = [.int 1, .int 2, .int 3, .int 3, .int 3] := (repL_ints (ns := [1, 2, 3, 3, 3])).mp r2
  refine we_call Gt (hr.mono (by decide)) rfl ?_
  refine wa (pa_cons pe_w (pa_cons pe_w pa_nil)) ?_
  refine NV.use (nv_name 1 rfl) ?_
  refine we pe_int ?_
  have g12 := s2 _ _ h1'
  refine ⟨l, ds, 5, rfl, g12, by decide, fun r ds3 H3 r0 r5 h3' f3 t3 => ?_⟩
  obtain ⟨i, rfl⟩ : ∃ i : Nat, r = (i : Int) := ⟨r.toNat, by omega⟩
  have i5 : i < 5 := by omega
  have l2l : l2 ≠ l := fun e => by rw [e, h1'] at hl2; cases hl2
  obtain ⟨n, hn1, hn3, hsh⟩ : ∃ n : Nat, 1 ≤ n ∧ n ≤ 3 ∧ ([.int 1, .int 2, .int 3, .int 3, .int 3] : List V)[i]? = some (.int (n : Int)) := by
    match i, i5 with
    | 0, _ => exact ⟨1, by decide, by decide, rfl⟩
    | 1, _ => exact ⟨2, by decide, by decide, rfl⟩
    | 2, _ => exact ⟨3, by decide, by decide, rfl⟩
    | 3, _ => exact ⟨3, by decide, by decide, rfl⟩
    | 4, _ => exact ⟨3, by decide, by decide, rfl⟩
  refine ⟨l2, vs2, (i : Int), .int (n : Int), rfl, rfl, SqL.of (f3 _ _ h2' (by simp [l2l])), atI_nat (by rw [e2]; exact hsh), ?_⟩
  refine wcons ?_
  refine ws_set 3 nd ?_
  refine we (pe_callTy call_tuple_of rfl B.tuple (by decide +kernel) (pa_cons pe_w pa_nil rfl) (by decide) (by decide) rfl rfl) ?_
  refine WE.mono (Q := fun v H6 => ∃ (bl : Addr) (bvs : List V) (bk : List Dep), v = .ref bl ∧ H6 bl = some (.lst bvs) ∧ RepL H6 (bk.map depD) bvs ∧ bk.length ≤ 100 ∧ ∀ d ∈ bk, (DepOk n d ∧ d.L.length ≤ n ∧ d.R.length ≤ n) ∧ d.L ≠ []) ?_ fun vbl H5 ⟨bl, bvs, bk, ebl, h5', r5, hbl2, hbok⟩ => ?_
  · refine we (pe_lc (own := [("_law_one", 10)]) (g := gName 10) (tt := fun σ H Q => ∀ b, WTs (XB (XL P w K mg base f cdv A outer s H E) _ b) _ σ H Q) (te := fun σ H Q => ∀ b, WE (XB (XL P w K mg base f cdv A outer s H E) _ b) _ σ H Q) rfl nd pi_w (blkOk_by (N := nLaw) (sc := defScope sLaw) (by decide +kernel)) (fun s H C cl fp => pgn 10 nd) (fun s H C cl fp => ⟨fun pins s' σ' H' Q I h => h (s, H, C, cl, fp) pins s' I⟩) (fun s H C cl fp => ⟨fun pins s' σ' H' Q I h => h (s, H, C, cl, fp) pins s' I⟩) (fun _ => rfl)) ?_
    refine wi (pi_tup pe_w) ?_
    refine we_call Gb (hr.mono (by decide)) rfl ?_
    refine wa (pa_cons pe_w (pa_cons pe_w (pa_cons pe_w (pa_cons pe_w pa_nil)))) ?_
    refine NV.use (nv_name 1 rfl) (NV.use (nv_name 2 rfl) ?_)
    refine we pe_int ?_
    refine we pe_bl ?_
    refine ⟨l, ds3, n, 3, rfl, h3', by omega, by decide, fun book ds4 u H4 hb1 hb2 h4' f4 t4 ru => ?_⟩
    obtain ⟨ta, tvs, rfl, hta, rtv⟩ := ru
    refine ⟨ta, rfl, ⟨_, SqT.of hta⟩, ?_⟩
    have core : ∀ (scope : Scope) (c elt : Expr) (σ : L2.St), (∀ d ∈ book.map depD, ∀ v H5, Same H4 H5 → Rep H5 d v → ∀ b, ET (XB (XL P w K mg base f cdv A outer s H E) scope b) c ((wipe σ [10]).set 10 (some v)) H5 (leftK d) ∧ EV (XB (XL P w K mg base f cdv A outer s H E) scope b) elt ((wipe σ [10]).set 10 (some v)) H5 d) → _ := fun scope c elt σ turn => lc_filt (X := XL P w K mg base f cdv A outer s H E) (H2 := H4) (J := Itt K ta) (scope := scope) (c := c) (elt := elt) (σ := σ) 10 leftK ((runs_itt hta rtv).imp fun H' s' => Same.tm s') (by rw [List.length_map, sizeLine_eq]; omega) turn (Q := fun v H6 => ∃ (bl : Addr) (bvs : List V) (bk : List Dep), v = .ref bl ∧ H6 bl = some (.lst bvs) ∧ RepL H6 (bk.map depD) bvs ∧ bk.length ≤ 100 ∧ ∀ d ∈ bk, (DepOk n d ∧ d.L.length ≤ n ∧ d.R.length ≤ n) ∧ d.L ≠ []) fun bl bvs H5 hbl s5 h5' r5 => by
      rw [book_filter] at r5
      refine ⟨bl, bvs, _, rfl, h5', r5, Nat.le_trans (List.length_filter_le ..) hb1, fun d hd => ?_⟩
      obtain ⟨x1, x2⟩ := List.mem_filter.mp hd
      exact ⟨hb2 d x1, of_decide_eq_true x2⟩
    refine core _ _ _ _ fun d hd v H5 s5 rv b => ⟨?_, ?_⟩
    · obtain ⟨dp, hdp, rfl⟩ := List.mem_map.mp hd
      exact et_gt (ev_lenT (ev_ixT (i := 2) (ev_name 10 rfl rv) ev_int rfl (fun _ _ => rfl)) rfl B.len) ev_int
    · exact ev_name 10 rfl rv
  subst ebl
  refine ⟨bl, bvs, rfl, .inl ⟨SqL.of h5', fun bt hbt => ?_⟩⟩
  have s6 := same_new (o := .tup bvs) hbt
  have rb6 : Rep (upd H5 bt (.tup bvs)) (bookD bk) (.ref bt) := ⟨bt, bvs, rfl, upd_same, r5.mono s6⟩
  clear r5 h5'
  generalize upd H5 bt (.tup bvs) = H6 at rb6 s6
  have hbe : ∀ d ∈ bk, DepOk n d ∧ d.L ≠ [] := fun d hd => ⟨(hbok d hd).1.1, (hbok d hd).2⟩
  refine wcons ?_
  refine ws_set 4 nd ?_
  refine we_call Ge hr rfl ?_
  refine wa (pa_cons pe_w (pa_cons pe_w pa_nil)) ?_
  refine we_ev (dd := schD n) (ev_tup (ea_cons (ev_name 2 rfl rep_int) ea_nil) (by show 1 ≤ sizeLine; decide)) fun vs7 H7 s7 r7 => ?_
  refine NV.use (nv_name 3 rfl) ?_
  refine ⟨vs7, .ref bt, n, bk, rfl, r7, rb6.mono s7, ⟨fun d hd => ?_, fun d hd => (hbok d hd).2, hn1, hn3, by omega⟩, fun W R vR H8 s8 pm tb rR => ?_⟩
  · obtain ⟨x1, x2, x3⟩ := (hbok d hd).1
    exact ⟨x1, by omega, by omega⟩
  have rb8 := (rb6.mono s7).mono s8
  have hRl := tb.few hbe hn1 hn3 pm
  have hRne := tb.ne pm hn1 hbe
  refine wcons ?_
  refine ws_ifB false ?_ (fun e => by cases e) fun _ H9 s9 => wnil ?_
  · refine ET.to (et_or (t := false) (u := false) (ET.to (et_not (et_val (ev_call Gk (hr.mono (by decide)) rfl (ea_cons (ev_name 4 rfl rR) (ea_cons (ev_name 2 rfl rep_int) ea_nil)) rfl ⟨n, R, rfl, tb.nd, fun r hr' => ⟨tb.len r hr', tb.nn r hr'⟩, hn1, by omega, by omega, rfl⟩))) rfl) fun _ => ET.to (et_eqI (ev_lenT (ev_name 4 rfl rR) rfl B.len) ev_int) (decide_eq_false ?_)) rfl
    rw [List.length_map, (sortR_perm R).length_eq]
    have := List.length_pos_iff.mpr hRne
    omega
  have rb9 := rb8.mono s9
  have rR9 := rR.mono s9
  refine wcons ?_
  refine ws_set 5 nd (we_ev (ev_tupRange rfl (ev_name 2 rfl rep_int) (by omega) rfl B.tuple rfl B.range) fun vc H10 s10 rc => ?_)
  refine wcons ?_
  refine ws_for PassesOwn.never rfl (pgn 6 nd) (wi (pi_list pe_w) ?_)
  refine we_call Gs (hr.mono (by decide)) rfl ?_
  refine wa (pa_cons pe_w pa_nil) ?_
  refine NV.use (nv_name 5 rfl) ?_
  refine ⟨vc, List.range n, rfl, rc, by rw [List.length_range]; exact hn3, fun sl sxs ss H11 s11 hsl h11' r11 pm11 => ?_⟩
  refine ⟨sl, rfl, ⟨_, SqL.of h11'⟩, ?_⟩
  have s911 := s10.trans s11
  refine forW (runs_itl r11) (fun i σ' H' => ∃ o6 o7 o8 o9, σ' = [some (.ref a), some (.ref l), some (.int (n : Int)), some (.ref bt), some vR, some vc, o6, o7, o8, o9, none, none] ∧ Same H11 H') ⟨none, none, none, none, rfl, Same.refl _⟩ ?_ ?_ ?_
  · rintro i σ' H' _ ⟨_, _, _, _, _, t⟩
    exact ⟨Same.tm t, t _ _ h11'⟩
  · rintro i d σ' H12 hd ⟨o6, o7, o8, o9, rfl, g12⟩ vl H13 s13 rl
    obtain ⟨left, hlm, rfl⟩ := List.mem_map.mp (List.mem_of_getElem? hd)
    have hleft := pm11.mem_iff.mp hlm
    have s1113 := g12.trans s13
    have rc13 := (rc.mono s11).mono s1113
    refine wone ?_
    refine ws_for PassesOwn.never rfl (pgn 7 nd) (wi (pi_list pe_w) ?_)
    refine we_call Gs (hr.mono (by decide)) rfl ?_
    refine wa (pa_cons pe_w pa_nil) ?_
    refine we_ev (dd := natsT (restL n left)) (ev_tuple (ELS.el (el_filterN (cs := List.range n) 11 (fun c => !decide (c ∈ left)) (fun (c : Nat) => .int (c : Int)) nd (blkOk_by (N := nLaw) (sc := defScope sLaw) (by decide +kernel)) (src_tup (ev_name 5 rfl rc13)) (by rw [List.length_range]; omega) fun c hc H14 s14 b => ⟨et_ninN (ev_name 11 rfl rep_int) (ev_name 6 rfl (rl.mono s14)), fun _ => ev_name 11 rfl rep_int⟩)) rfl B.tuple) fun v14 H14 s14 r14 => ?_
    have hrl := restL_len n left
    refine ⟨v14, restL n left, rfl, r14, by omega, fun ql qxs qq H15 s15 hql h15' r15 pm15 => ?_⟩
    refine ⟨ql, rfl, ⟨_, SqL.of h15'⟩, ?_⟩
    have s1115 := (s1113.trans s14).trans s15
    refine forW (runs_itl r15) (fun j σ' H' => ∃ o7 o8 o9, σ' = [some (.ref a), some (.ref l), some (.int (n : Int)), some (.ref bt), some vR, some vc, some vl, o7, o8, o9, none, none] ∧ Same H15 H') ⟨o7, o8, o9, rfl, Same.refl _⟩ ?_ ?_ ?_
    · rintro j σ' H' _ ⟨_, _, _, _, t⟩
      exact ⟨Same.tm t, t _ _ h15'⟩
    · rintro j d σ' H16 hd ⟨o7, o8, o9, rfl, g16⟩ vr H17 s17 rr
      obtain ⟨right, hrm, rfl⟩ := List.mem_map.mp (List.mem_of_getElem? hd)
      have hright := pm15.mem_iff.mp hrm
      have s917 := s911.trans ((s1115.trans g16).trans s17)
      refine lawR B G1 G2 (hr.mono (by decide)) rfl (rb9.mono s917) (rR9.mono s917) ((((rl.mono s14).mono s15).mono g16).mono s17) rr (fun d hd => ?_) (by omega) hn1 hn3 tb pm hRl hleft hright fun H18 o8' o9' s18 => ?_
      · obtain ⟨x1, x2, x3⟩ := (hbok d hd).1
        exact ⟨x1, by omega⟩
      · exact ⟨_, _, _, rfl, (g16.trans s17).trans s18⟩
    · rintro σ' H16 ⟨o7, o8, o9, rfl, g16⟩
      exact ⟨_, _, _, _, rfl, s1115.trans g16⟩
  · rintro σ' H12 ⟨o6, o7, o8, o9, rfl, g12⟩
    refine wone (ws_retV ev_bl fun v H13 s13 rv => ?_)
    rw [show v = V.bl true from rv]
    exact hq H13
end
end Nr
/-! The end: what the head tells, each def's promise, the law's. -/
namespace Nr
open PySem PySem.Spec PyProof.Rows L2

section
variable {P : Program} {w : World} {K : PySem.W.Frag} {mg : Str → Option Value} {base : Heap} {x q : Str} {st : Stmt} {f C : Addr} {fd : FuncData} {j k : Nat} {ps : List Str} {sp : Sp}
theorem okOf (hm : mg x = some (.ref f)) (F : FnP K x x st f fd) (b : Binds K fd ps []) (h : FnOk P w K mg base CX0 j f fd ps sp) (hjk : j ≤ k) : Ok P w K mg base k x sp := ⟨f, fd, ps, hm, F.kp, b, h.mono hjk⟩
theorem okMOf (hm : Meth K C x f) (b : Binds K fd ps []) (h : FnOk P w K mg base CX0 j f fd ps sp) (hjk : j ≤ k) : OkM P w K mg base C k x sp := ⟨f, fd, ps, hm, b, h.mono hjk⟩
theorem okCOf (hm : Mk K C f) (hg : mg x = some (.ref C)) (b : Binds K fd ps []) (h : FnOk P w K mg base CX0 j f fd ps sp) (hjk : j ≤ k) : OkC P w K mg base C k x sp := ⟨f, fd, ps, hm, hg, b, h.mono hjk⟩
end
theorem facts {P : Program} {w : World} {K : PySem.W.Frag} {h : Heap} {mg : Str → Option Value} {fa : Addr} (X : K.In h) (G : h.Ns mainGlobals mg) (hfa : mg ("law" : Str) = some (.ref fa)) (c : He.SaysD faAll fnAll K) :
    ∃ fd : FuncData, (∀ (s : Shared) (v : Value), BindsTo s fd ⟨[v], []⟩ [("_law_script", v)]) ∧ ∀ base : Heap, FnOk P w K mg base CX0 11 fa fd ["_law_script"] (spLaw K) := by
  have B : Bi mg := ⟨He.free_ok X G (c.fact 39 (f := .free "all") rfl), He.free_ok X G (c.fact 43 (f := .free "enumerate") rfl), He.free_ok X G (c.fact 44 (f := .free "int") rfl), He.free_ok X G (c.fact 45 (f := .free "isinstance") rfl), He.free_ok X G (c.fact 41 (f := .free "bool") rfl), He.free_ok X G (c.fact 46 (f := .free "len") rfl), He.free_ok X G (c.fact 47 (f := .free "list") rfl), He.free_ok X G (c.fact 48 (f := .free "max") rfl), He.free_ok X G (c.fact 49 (f := .free "range") rfl), He.free_ok X G (c.fact 50 (f := .free "set") rfl), He.free_ok X G (c.fact 51 (f := .free "sorted") rfl), He.free_ok X G (c.fact 52 (f := .free "tuple") rfl)⟩
  obtain ⟨C, hC⟩ : ∃ C, C = He.ga K "Chase" := ⟨_, rfl⟩
  have T : Txt K mg C := by
    subst hC
    refine ⟨He.cls_ok (c.fact 54 (f := .cls "Chase") rfl), fun f hf => ?_, He.glo_ok X G (c.fact 4 (f := .glo "Chase") rfl)⟩
    simp only [fnames, List.mem_cons, List.not_mem_nil, or_false] at hf
    rcases hf with rfl | rfl | rfl | rfl | rfl | rfl | rfl
    · exact He.noat_ok (c.fact 56 (f := .noat "Chase" "scheme") rfl)
    · exact He.noat_ok (c.fact 57 (f := .noat "Chase" "book") rfl)
    · exact He.noat_ok (c.fact 58 (f := .noat "Chase" "tables") rfl)
    · exact He.noat_ok (c.fact 59 (f := .noat "Chase" "seen") rfl)
    · exact He.noat_ok (c.fact 60 (f := .noat "Chase" "became") rfl)
    · exact He.noat_ok (c.fact 61 (f := .noat "Chase" "steps") rfl)
    · exact He.noat_ok (c.fact 62 (f := .noat "Chase" "clashed") rfl)
  obtain ⟨fdO, FO⟩ : ∃ fd, FnP K "set_order" "set_order" sSetOrder (He.ga K "set_order") fd := c.def_ 13 (d := dSetOrder) rfl
  have bO : Binds K fdO ["columns"] [] := FO.bindsN fun _ _ _ _ _ _ us hl => match us, hl with | [_], _ => rfl
  have gO : mg "set_order" = some (.ref (He.ga K "set_order")) := He.glo_ok X G (c.fact 14 (f := .glo "set_order") rfl)
  obtain ⟨fd_told, F_told⟩ : ∃ fd, FnP K "told_value" "told_value" sToldValue (He.ga K "told_value") fd := by
    exact c.def_ 6 (d := dToldValue) rfl
  have b_told : Binds K fd_told ["number"] [] := F_told.bindsN fun _ _ _ _ _ _ us hl => match us, hl with | [_], _ => rfl
  obtain ⟨fd_picked, F_picked⟩ : ∃ fd, FnP K "picked" "picked" sPicked (He.ga K "picked") fd := by
    exact c.def_ 0 (d := dPicked) rfl
  have b_picked : Binds K fd_picked ["row", "columns"] [] := F_picked.bindsN fun _ _ _ _ _ _ us hl => match us, hl with | [_, _], _ => rfl
  obtain ⟨fd_agree, F_agree⟩ : ∃ fd, FnP K "agree" "agree" sAgree (He.ga K "agree") fd := by
    exact c.def_ 1 (d := dAgree) rfl
  have b_agree : Binds K fd_agree ["one", "other", "columns"] [] := F_agree.bindsN fun _ _ _ _ _ _ us hl => match us, hl with | [_, _, _], _ => rfl
  obtain ⟨fd_partsOf, F_partsOf⟩ : ∃ fd, FnP K "parts_of" "parts_of" sPartsOf (He.ga K "parts_of") fd := by
    exact c.def_ 2 (d := dPartsOf) rfl
  have b_partsOf : Binds K fd_partsOf ["width", "dependency"] [] := F_partsOf.bindsN fun _ _ _ _ _ _ us hl => match us, hl with | [_, _], _ => rfl
  obtain ⟨fd_first, F_first⟩ : ∃ fd, FnP K "first_row" "first_row" sFirstRow (He.ga K "first_row") fd := by
    exact c.def_ 7 (d := dFirstRow) rfl
  have b_first : Binds K fd_first ["width"] [] := F_first.bindsN fun _ _ _ _ _ _ us hl => match us, hl with | [_], _ => rfl
  obtain ⟨fd_partRow, F_partRow⟩ : ∃ fd, FnP K "part_row" "part_row" sPartRow (He.ga K "part_row") fd := by
    exact c.def_ 8 (d := dPartRow) rfl
  have b_partRow : Binds K fd_partRow ["width", "part", "turn"] [] := F_partRow.bindsN fun _ _ _ _ _ _ us hl => match us, hl with | [_, _, _], _ => rfl
  obtain ⟨fd_missing, F_missing⟩ : ∃ fd, FnP K "missing_rows" "missing_rows" sMissingRows (He.ga K "missing_rows") fd := by
    exact c.def_ 3 (d := dMissingRows) rfl
  have b_missing : Binds K fd_missing ["width", "rows", "parts"] [] := F_missing.bindsN fun _ _ _ _ _ _ us hl => match us, hl with | [_, _, _], _ => rfl
  obtain ⟨fd_now, F_now⟩ : ∃ fd, FnP K "now" "Chase.now" sCNow (He.ma K C "now") fd := by
    subst hC; exact c.def_ 40 (d := dCNow) rfl
  have b_now : Binds K fd_now ["self", "value"] [] := F_now.bindsN fun _ _ _ _ _ _ us hl => match us, hl with | [_, _], _ => rfl
  obtain ⟨fd_there, F_there⟩ : ∃ fd, FnP K "is_there" "Chase.is_there" sCIsThere (He.ma K C "is_there") fd := by
    subst hC; exact c.def_ 49 (d := dCIsThere) rfl
  have b_there : Binds K fd_there ["self", "table", "row"] [] := F_there.bindsN fun _ _ _ _ _ _ us hl => match us, hl with | [_, _, _], _ => rfl
  obtain ⟨fd_store, F_store⟩ : ∃ fd, FnP K "store" "Chase.store" sCStore (He.ma K C "store") fd := by
    subst hC; exact c.def_ 39 (d := dCStore) rfl
  have b_store : Binds K fd_store ["self"] [] := F_store.bindsN fun _ _ _ _ _ _ us hl => match us, hl with | [_], _ => rfl
  obtain ⟨fd_replace, F_replace⟩ : ∃ fd, FnP K "replace" "Chase.replace" sCReplace (He.ma K C "replace") fd := by
    subst hC; exact c.def_ 41 (d := dCReplace) rfl
  have b_replace : Binds K fd_replace ["self", "lesser", "greater"] [] := F_replace.bindsN fun _ _ _ _ _ _ us hl => match us, hl with | [_, _, _], _ => rfl
  obtain ⟨fd_putIn, F_putIn⟩ : ∃ fd, FnP K "put_in" "Chase.put_in" sCPutIn (He.ma K C "put_in") fd := by
    subst hC; exact c.def_ 43 (d := dCPutIn) rfl
  have b_putIn : Binds K fd_putIn ["self", "index", "rows", "missing"] [] := F_putIn.bindsN fun _ _ _ _ _ _ us hl => match us, hl with | [_, _, _, _], _ => rfl
  obtain ⟨fd_makeEq, F_makeEq⟩ : ∃ fd, FnP K "make_equal" "Chase.make_equal" sCMakeEqual (He.ma K C "make_equal") fd := by
    subst hC; exact c.def_ 42 (d := dCMakeEqual) rfl
  have b_makeEq : Binds K fd_makeEq ["self", "index", "one", "other"] [] := F_makeEq.bindsN fun _ _ _ _ _ _ us hl => match us, hl with | [_, _, _, _], _ => rfl
  obtain ⟨fd_unequal, F_unequal⟩ : ∃ fd, FnP K "unequal" "Chase.unequal" sCUnequal (He.ma K C "unequal") fd := by
    subst hC; exact c.def_ 44 (d := dCUnequal) rfl
  have b_unequal : Binds K fd_unequal ["self", "index"] [] := F_unequal.bindsN fun _ _ _ _ _ _ us hl => match us, hl with | [_, _], _ => rfl
  obtain ⟨fd_settle, F_settle⟩ : ∃ fd, FnP K "settle" "Chase.settle" sCSettle (He.ma K C "settle") fd := by
    subst hC; exact c.def_ 45 (d := dCSettle) rfl
  have b_settle : Binds K fd_settle ["self", "index"] [] := F_settle.bindsN fun _ _ _ _ _ _ us hl => match us, hl with | [_, _], _ => rfl
  obtain ⟨fd_fill, F_fill⟩ : ∃ fd, FnP K "fill" "Chase.fill" sCFill (He.ma K C "fill") fd := by
    subst hC; exact c.def_ 46 (d := dCFill) rfl
  have b_fill : Binds K fd_fill ["self", "index"] [] := F_fill.bindsN fun _ _ _ _ _ _ us hl => match us, hl with | [_, _], _ => rfl
  obtain ⟨fd_work, F_work⟩ : ∃ fd, FnP K "work" "Chase.work" sCWork (He.ma K C "work") fd := by
    subst hC; exact c.def_ 47 (d := dCWork) rfl
  have b_work : Binds K fd_work ["self", "index"] [] := F_work.bindsN fun _ _ _ _ _ _ us hl => match us, hl with | [_, _], _ => rfl
  obtain ⟨fd_run, F_run⟩ : ∃ fd, FnP K "run" "Chase.run" sCRun (He.ma K C "run") fd := by
    subst hC; exact c.def_ 48 (d := dCRun) rfl
  have b_run : Binds K fd_run ["self"] [] := F_run.bindsN fun _ _ _ _ _ _ us hl => match us, hl with | [_], _ => rfl
  obtain ⟨fd_init, F_init⟩ : ∃ fd, FnP K "__init__" "Chase.__init__" sCInit (He.ma K C "__init__") fd := by
    subst hC; exact c.def_ 38 (d := dCInit) rfl
  have b_init : Binds K fd_init ["self", "scheme", "book", "store"] [] := F_init.bindsN fun _ _ _ _ _ _ us hl => match us, hl with | [_, _, _, _], _ => rfl
  obtain ⟨fd_chased, F_chased⟩ : ∃ fd, FnP K "chased" "chased" sChased (He.ga K "chased") fd := by
    exact c.def_ 4 (d := dChased) rfl
  have b_chased : Binds K fd_chased ["scheme", "book", "store"] [] := F_chased.bindsN fun _ _ _ _ _ _ us hl => match us, hl with | [_, _, _], _ => rfl
  obtain ⟨fd_chase, F_chase⟩ : ∃ fd, FnP K "chase" "chase" sChase (He.ga K "chase") fd := by
    exact c.def_ 5 (d := dChase) rfl
  have b_chase : Binds K fd_chase ["scheme", "book", "store"] [] := F_chase.bindsN fun _ _ _ _ _ _ us hl => match us, hl with | [_, _, _], _ => rfl
  obtain ⟨fd_start, F_start⟩ : ∃ fd, FnP K "start" "start" sStart (He.ga K "start") fd := by
    exact c.def_ 9 (d := dStart) rfl
  have b_start : Binds K fd_start ["scheme", "dependency"] [] := F_start.bindsN fun _ _ _ _ _ _ us hl => match us, hl with | [_, _], _ => rfl
  obtain ⟨fd_isMet, F_isMet⟩ : ∃ fd, FnP K "is_met" "is_met" sIsMet (He.ga K "is_met") fd := by
    exact c.def_ 10 (d := dIsMet) rfl
  have b_isMet : Binds K fd_isMet ["found", "dependency"] [] := F_isMet.bindsN fun _ _ _ _ _ _ us hl => match us, hl with | [_, _], _ => rfl
  obtain ⟨fd_cs, F_cs⟩ : ∃ fd, FnP K "chased_start" "chased_start" sChasedStart (He.ga K "chased_start") fd := by
    exact c.def_ 11 (d := dChasedStart) rfl
  have b_cs : Binds K fd_cs ["scheme", "book", "dependency"] [] := F_cs.bindsN fun _ _ _ _ _ _ us hl => match us, hl with | [_, _, _], _ => rfl
  obtain ⟨fd_follows, F_follows⟩ : ∃ fd, FnP K "follows" "follows" sFollows (He.ga K "follows") fd := by
    exact c.def_ 12 (d := dFollows) rfl
  have b_follows : Binds K fd_follows ["scheme", "book", "dependency"] [] := F_follows.bindsN fun _ _ _ _ _ _ us hl => match us, hl with | [_, _, _], _ => rfl
  obtain ⟨fd_sets, F_sets⟩ : ∃ fd, FnP K "sets_of_columns" "sets_of_columns" sSetsOfColumns (He.ga K "sets_of_columns") fd := by
    exact c.def_ 14 (d := dSetsOfColumns) rfl
  have b_sets : Binds K fd_sets ["columns"] [] := F_sets.bindsN fun _ _ _ _ _ _ us hl => match us, hl with | [_], _ => rfl
  obtain ⟨fd_wishes, F_wishes⟩ : ∃ fd, FnP K "wishes" "wishes" sWishes (He.ga K "wishes") fd := by
    exact c.def_ 16 (d := dWishes) rfl
  have b_wishes : Binds K fd_wishes ["width"] [] := F_wishes.bindsN fun _ _ _ _ _ _ us hl => match us, hl with | [_], _ => rfl
  obtain ⟨fd_known, F_known⟩ : ∃ fd, FnP K "known_values" "known_values" sKnownValues (He.ga K "known_values") fd := by
    exact c.def_ 15 (d := dKnownValues) rfl
  have b_known : Binds K fd_known ["store"] [] := F_known.bindsN fun _ _ _ _ _ _ us hl => match us, hl with | [_], _ => rfl
  obtain ⟨fd_beside, F_beside⟩ : ∃ fd, FnP K "beside" "beside" sBeside (He.ga K "beside") fd := by
    exact c.def_ 17 (d := dBeside) rfl
  have b_beside : Binds K fd_beside ["rows", "others"] [] := F_beside.bindsN fun _ _ _ _ _ _ us hl => match us, hl with | [_, _], _ => rfl
  obtain ⟨fd_exact, F_exact⟩ : ∃ fd, FnP K "exact_table" "exact_table" sExactTable (He.ga K "exact_table") fd := by
    exact c.def_ 18 (d := dExactTable) rfl
  have b_exact : Binds K fd_exact ["scheme", "book"] [] := F_exact.bindsN fun _ _ _ _ _ _ us hl => match us, hl with | [_, _], _ => rfl
  obtain ⟨fd_lawPick, F_lawPick⟩ : ∃ fd, FnP K "_law_pick" "_law_pick" sLawPick (He.ga K "_law_pick") fd := by
    exact c.def_ 26 (d := dLawPick) rfl
  have b_lawPick : Binds K fd_lawPick ["_law_row", "_law_columns"] [] := F_lawPick.bindsN fun _ _ _ _ _ _ us hl => match us, hl with | [_, _], _ => rfl
  obtain ⟨fd_take, F_take⟩ : ∃ fd, FnP K "_law_take" "_law_take" sLawTake (He.ga K "_law_take") fd := by
    exact c.def_ 20 (d := dLawTake) rfl
  have b_take : Binds K fd_take ["_law_draws_here", "_law_many"] [] := F_take.bindsN fun _ _ _ _ _ _ us hl => match us, hl with | [_, _], _ => rfl
  obtain ⟨fd_draws, F_draws⟩ : ∃ fd, FnP K "_law_draws" "_law_draws" sLawDraws (He.ga K "_law_draws") fd := by
    exact c.def_ 19 (d := dLawDraws) rfl
  have b_draws : Binds K fd_draws ["_law_script", "_law_many"] [] := F_draws.bindsN fun _ _ _ _ _ _ us hl => match us, hl with | [_, _], _ => rfl
  obtain ⟨fd_some, F_some⟩ : ∃ fd, FnP K "_law_some" "_law_some" sLawSome (He.ga K "_law_some") fd := by
    exact c.def_ 21 (d := dLawSome) rfl
  have b_some : Binds K fd_some ["_law_draws_here", "_law_columns", "_law_share"] [] := F_some.bindsN fun _ _ _ _ _ _ us hl => match us, hl with | [_, _, _], _ => rfl
  obtain ⟨fd_book, F_book⟩ : ∃ fd, FnP K "_law_book" "_law_book" sLawBook (He.ga K "_law_book") fd := by
    exact c.def_ 22 (d := dLawBook) rfl
  have b_book : Binds K fd_book ["_law_draws_here", "_law_width", "_law_many", "_law_joins"] [] := F_book.bindsN fun _ _ _ _ _ _ us hl => match us, hl with | [_, _, _, _], _ => rfl
  obtain ⟨fd_isInt, F_isInt⟩ : ∃ fd, FnP K "_law_is_integer" "_law_is_integer" sLawIsInteger (He.ga K "_law_is_integer") fd := by
    exact c.def_ 23 (d := dLawIsInteger) rfl
  have b_isInt : Binds K fd_isInt ["_law_value"] [] := F_isInt.bindsN fun _ _ _ _ _ _ us hl => match us, hl with | [_], _ => rfl
  obtain ⟨fd_knownRows, F_knownRows⟩ : ∃ fd, FnP K "_law_known_rows" "_law_known_rows" sLawKnownRows (He.ga K "_law_known_rows") fd := by
    exact c.def_ 24 (d := dLawKnownRows) rfl
  have b_knownRows : Binds K fd_knownRows ["_law_rows", "_law_width"] [] := F_knownRows.bindsN fun _ _ _ _ _ _ us hl => match us, hl with | [_, _], _ => rfl
  obtain ⟨fd_lawSets, F_lawSets⟩ : ∃ fd, FnP K "_law_sets" "_law_sets" sLawSets (He.ga K "_law_sets") fd := by
    exact c.def_ 25 (d := dLawSets) rfl
  have b_lawSets : Binds K fd_lawSets ["_law_columns"] [] := F_lawSets.bindsN fun _ _ _ _ _ _ us hl => match us, hl with | [_], _ => rfl
  obtain ⟨fd_groups, F_groups⟩ : ∃ fd, FnP K "_law_groups" "_law_groups" sLawGroups (He.ga K "_law_groups") fd := by
    exact c.def_ 27 (d := dLawGroups) rfl
  have b_groups : Binds K fd_groups ["_law_rows", "_law_columns"] [] := F_groups.bindsN fun _ _ _ _ _ _ us hl => match us, hl with | [_, _], _ => rfl
  obtain ⟨fd_keeps, F_keeps⟩ : ∃ fd, FnP K "_law_keeps_one" "_law_keeps_one" sLawKeepsOne (He.ga K "_law_keeps_one") fd := by
    exact c.def_ 28 (d := dLawKeepsOne) rfl
  have b_keeps : Binds K fd_keeps ["_law_width", "_law_rows", "_law_wish"] [] := F_keeps.bindsN fun _ _ _ _ _ _ us hl => match us, hl with | [_, _, _], _ => rfl
  obtain ⟨fd_lawParts, F_lawParts⟩ : ∃ fd, FnP K "_law_parts" "_law_parts" sLawParts (He.ga K "_law_parts") fd := by
    exact c.def_ 29 (d := dLawParts) rfl
  have b_lawParts : Binds K fd_lawParts ["_law_width", "_law_dependency"] [] := F_lawParts.bindsN fun _ _ _ _ _ _ us hl => match us, hl with | [_, _], _ => rfl
  obtain ⟨fd_unlike, F_unlike⟩ : ∃ fd, FnP K "_law_unlike" "_law_unlike" sLawUnlike (He.ga K "_law_unlike") fd := by
    exact c.def_ 32 (d := dLawUnlike) rfl
  have b_unlike : Binds K fd_unlike ["_law_rows", "_law_dependency"] [] := F_unlike.bindsN fun _ _ _ _ _ _ us hl => match us, hl with | [_, _], _ => rfl
  obtain ⟨fd_joined, F_joined⟩ : ∃ fd, FnP K "_law_joined" "_law_joined" sLawJoined (He.ga K "_law_joined") fd := by
    exact c.def_ 30 (d := dLawJoined) rfl
  have b_joined : Binds K fd_joined ["_law_width", "_law_rows", "_law_parts_here"] [] := F_joined.bindsN fun _ _ _ _ _ _ us hl => match us, hl with | [_, _, _], _ => rfl
  obtain ⟨fd_lawMiss, F_lawMiss⟩ : ∃ fd, FnP K "_law_missing" "_law_missing" sLawMissing (He.ga K "_law_missing") fd := by
    exact c.def_ 31 (d := dLawMissing) rfl
  have b_lawMiss : Binds K fd_lawMiss ["_law_width", "_law_rows", "_law_dependency"] [] := F_lawMiss.bindsN fun _ _ _ _ _ _ us hl => match us, hl with | [_, _, _], _ => rfl
  obtain ⟨fd_lawChase, F_lawChase⟩ : ∃ fd, FnP K "_law_chase" "_law_chase" sLawChase (He.ga K "_law_chase") fd := by
    exact c.def_ 33 (d := dLawChase) rfl
  have b_lawChase : Binds K fd_lawChase ["_law_width", "_law_book_here", "_law_rows"] [] := F_lawChase.bindsN fun _ _ _ _ _ _ us hl => match us, hl with | [_, _, _], _ => rfl
  obtain ⟨fd_lawNow, F_lawNow⟩ : ∃ fd, FnP K "_law_now" "_law_now" sLawNow (He.ga K "_law_now") fd := by
    exact c.def_ 34 (d := dLawNow) rfl
  have b_lawNow : Binds K fd_lawNow ["_law_became", "_law_value"] [] := F_lawNow.bindsN fun _ _ _ _ _ _ us hl => match us, hl with | [_, _], _ => rfl
  obtain ⟨fd_lawStart, F_lawStart⟩ : ∃ fd, FnP K "_law_start" "_law_start" sLawStart (He.ga K "_law_start") fd := by
    exact c.def_ 35 (d := dLawStart) rfl
  have b_lawStart : Binds K fd_lawStart ["_law_width", "_law_dependency"] [] := F_lawStart.bindsN fun _ _ _ _ _ _ us hl => match us, hl with | [_, _], _ => rfl
  obtain ⟨fd_lawFollows, F_lawFollows⟩ : ∃ fd, FnP K "_law_follows" "_law_follows" sLawFollows (He.ga K "_law_follows") fd := by
    exact c.def_ 36 (d := dLawFollows) rfl
  have b_lawFollows : Binds K fd_lawFollows ["_law_width", "_law_book_here", "_law_dependency"] [] := F_lawFollows.bindsN fun _ _ _ _ _ _ us hl => match us, hl with | [_, _, _], _ => rfl
  obtain ⟨fd_law, F_law⟩ : ∃ fd, FnP K "law" "law" sLaw (He.ga K "law") fd := by
    exact c.def_ 37 (d := dLaw) rfl
  have e := hfa.symm.trans (He.glo_ok X G (c.fact 38 (f := .glo "law") rfl))
  cases e
  have b := FunD.bindsA (ps := ["_law_script"]) F_law fun _ _ _ _ _ _ us hl => match us, hl with | [_], _ => rfl
  refine ⟨fd_law, fun s v => b s [v] rfl, fun base => ?_⟩
  have Gtold : ∀ k, 1 ≤ k → Ok P w K mg base k "told_value" (spR 1 rTold) := fun k hk => okOf (He.glo_ok X G (c.fact 7 (f := .glo "told_value") rfl)) F_told b_told (ok_told F_told) hk
  have Gpicked : ∀ k, 1 ≤ k → Ok P w K mg base k "picked" (spR 2 rPicked) := fun k hk => okOf (He.glo_ok X G (c.fact 0 (f := .glo "picked") rfl)) F_picked b_picked (ok_picked F_picked B) hk
  have Gagree : ∀ k, 2 ≤ k → Ok P w K mg base k "agree" (spR 3 rAgree) := fun k hk => okOf (He.glo_ok X G (c.fact 1 (f := .glo "agree") rfl)) F_agree b_agree (ok_agree F_agree (Gpicked _ (by decide))) hk
  have GpartsOf : ∀ k, 1 ≤ k → Ok P w K mg base k "parts_of" (spR 2 rPartsOf) := fun k hk => okOf (He.glo_ok X G (c.fact 2 (f := .glo "parts_of") rfl)) F_partsOf b_partsOf (ok_partsOf F_partsOf B) hk
  have Gfirst : ∀ k, 2 ≤ k → Ok P w K mg base k "first_row" (spR 1 rFirst) := fun k hk => okOf (He.glo_ok X G (c.fact 8 (f := .glo "first_row") rfl)) F_first b_first (ok_first F_first B (Gtold _ (by decide))) hk
  have GpartRow : ∀ k, 2 ≤ k → Ok P w K mg base k "part_row" (spR 3 rPartRow) := fun k hk => okOf (He.glo_ok X G (c.fact 9 (f := .glo "part_row") rfl)) F_partRow b_partRow (ok_partRow F_partRow B (Gtold _ (by decide))) hk
  have Gmissing : ∀ k, 2 ≤ k → Ok P w K mg base k "missing_rows" (spMissing P w) := fun k hk => okOf (He.glo_ok X G (c.fact 3 (f := .glo "missing_rows") rfl)) F_missing b_missing (ok_missing F_missing B (Gpicked _ (by decide))) hk
  have Gnow : ∀ k, 1 ≤ k → OkM P w K mg base C k "now" (spNow P w C) := fun k hk => okMOf (by subst hC; exact He.meth_ok (c.fact 64 (f := .meth "Chase" "now") rfl)) b_now (ok_now F_now T) hk
  have Gthere : ∀ k, 1 ≤ k → OkM P w K mg base C k "is_there" (spThere P w C) := fun k hk => okMOf (by subst hC; exact He.meth_ok (c.fact 73 (f := .meth "Chase" "is_there") rfl)) b_there (ok_there F_there T) hk
  have Gstore : ∀ k, 1 ≤ k → OkM P w K mg base C k "store" (spStore P w C) := fun k hk => okMOf (by subst hC; exact He.meth_ok (c.fact 63 (f := .meth "Chase" "store") rfl)) b_store (ok_store F_store T B) hk
  have Greplace : ∀ k, 1 ≤ k → OkM P w K mg base C k "replace" (spReplace P w C) := fun k hk => okMOf (by subst hC; exact He.meth_ok (c.fact 65 (f := .meth "Chase" "replace") rfl)) b_replace (ok_replace F_replace T B) hk
  have GputIn : ∀ k, 1 ≤ k → OkM P w K mg base C k "put_in" (spPutIn P w C) := fun k hk => okMOf (by subst hC; exact He.meth_ok (c.fact 67 (f := .meth "Chase" "put_in") rfl)) b_putIn (ok_putIn F_putIn T) hk
  have GmakeEq : ∀ k, 2 ≤ k → OkM P w K mg base C k "make_equal" (spMakeEq P w C) := fun k hk => okMOf (by subst hC; exact He.meth_ok (c.fact 66 (f := .meth "Chase" "make_equal") rfl)) b_makeEq (ok_makeEq F_makeEq T B (Greplace _ (by decide))) hk
  have Gunequal : ∀ k, 3 ≤ k → OkM P w K mg base C k "unequal" (spUnequal P w C) := fun k hk => okMOf (by subst hC; exact He.meth_ok (c.fact 68 (f := .meth "Chase" "unequal") rfl)) b_unequal (ok_unequal F_unequal T B (Gpicked _ (by decide)) (Gagree _ (by decide))) hk
  have Gsettle : ∀ k, 4 ≤ k → OkM P w K mg base C k "settle" (spStep P w C fun d => d.st = true) := fun k hk => okMOf (by subst hC; exact He.meth_ok (c.fact 69 (f := .meth "Chase" "settle") rfl)) b_settle (ok_settle F_settle T (Gunequal _ (by decide)) (GmakeEq _ (by decide))) hk
  have Gfill : ∀ k, 4 ≤ k → OkM P w K mg base C k "fill" (spStep P w C fun d => d.st = false) := fun k hk => okMOf (by subst hC; exact He.meth_ok (c.fact 70 (f := .meth "Chase" "fill") rfl)) b_fill (ok_fill F_fill T B (Gmissing _ (by decide)) (GpartsOf _ (by decide)) (GputIn _ (by decide))) hk
  have Gwork : ∀ k, 5 ≤ k → OkM P w K mg base C k "work" (spStep P w C fun _ => True) := fun k hk => okMOf (by subst hC; exact He.meth_ok (c.fact 71 (f := .meth "Chase" "work") rfl)) b_work (ok_work F_work T (Gsettle _ (by decide)) (Gfill _ (by decide))) hk
  have Grun : ∀ k, 6 ≤ k → OkM P w K mg base C k "run" (spRun P w C) := fun k hk => okMOf (by subst hC; exact He.meth_ok (c.fact 72 (f := .meth "Chase" "run") rfl)) b_run (ok_run F_run T B (Gwork _ (by decide))) hk
  have Ginit : ∀ k, 1 ≤ k → OkC P w K mg base C k "Chase" (spInit P w C) := fun k hk => okCOf (by subst hC; exact He.mkr_ok (c.fact 55 (f := .mkr "Chase") rfl)) T.mgC b_init (ok_init F_init T B) hk
  have Gchased : ∀ k, 7 ≤ k → Ok P w K mg base k "chased" (spChased P w C) := fun k hk => okOf (He.glo_ok X G (c.fact 5 (f := .glo "chased") rfl)) F_chased b_chased (ok_chased F_chased T (Ginit _ (by decide)) (Grun _ (by decide))) hk
  have Gchase : ∀ k, 8 ≤ k → Ok P w K mg base k "chase" (spChase P w) := fun k hk => okOf (He.glo_ok X G (c.fact 6 (f := .glo "chase") rfl)) F_chase b_chase (ok_chase F_chase T (Gchased _ (by decide)) (Gstore _ (by decide))) hk
  have Gstart : ∀ k, 3 ≤ k → Ok P w K mg base k "start" (spR 2 rStart) := fun k hk => okOf (He.glo_ok X G (c.fact 10 (f := .glo "start") rfl)) F_start b_start (ok_start F_start B (Gfirst _ (by decide)) (GpartRow _ (by decide)) (GpartsOf _ (by decide))) hk
  have GisMet : ∀ k, 3 ≤ k → Ok P w K mg base k "is_met" (spMet P w C) := fun k hk => okOf (He.glo_ok X G (c.fact 11 (f := .glo "is_met") rfl)) F_isMet b_isMet (ok_isMet F_isMet T B (Gfirst _ (by decide)) (Gtold _ (by decide)) (Gnow _ (by decide)) (Gthere _ (by decide))) hk
  have Gcs : ∀ k, 8 ≤ k → Ok P w K mg base k "chased_start" (spCs P w C) := fun k hk => okOf (He.glo_ok X G (c.fact 12 (f := .glo "chased_start") rfl)) F_cs b_cs (ok_cs F_cs (Gchased _ (by decide)) (Gstart _ (by decide))) hk
  have Gfollows : ∀ k, 9 ≤ k → Ok P w K mg base k "follows" (spFollows P w) := fun k hk => okOf (He.glo_ok X G (c.fact 13 (f := .glo "follows") rfl)) F_follows b_follows (ok_follows F_follows (Gcs _ (by decide)) (GisMet _ (by decide))) hk
  have Gsets : ∀ k, 4 ≤ k → Ok P w K mg base k "sets_of_columns" (spSets) := fun k hk => okOf (He.glo_ok X G (c.fact 15 (f := .glo "sets_of_columns") rfl)) F_sets b_sets (ok_sets F_sets B FO bO gO) hk
  have Gwishes : ∀ k, 5 ≤ k → Ok P w K mg base k "wishes" (spWishes) := fun k hk => okOf (He.glo_ok X G (c.fact 17 (f := .glo "wishes") rfl)) F_wishes b_wishes (ok_wishes F_wishes B (Gsets _ (by decide))) hk
  have Gknown : ∀ k, 3 ≤ k → Ok P w K mg base k "known_values" (spR 1 rKnown) := fun k hk => okOf (He.glo_ok X G (c.fact 16 (f := .glo "known_values") rfl)) F_known b_known (ok_known F_known B) hk
  have Gbeside : ∀ k, 3 ≤ k → Ok P w K mg base k "beside" (spBeside) := fun k hk => okOf (He.glo_ok X G (c.fact 18 (f := .glo "beside") rfl)) F_beside b_beside (ok_beside F_beside B) hk
  have Gexact : ∀ k, 10 ≤ k → Ok P w K mg base k "exact_table" (spExact) := fun k hk => okOf (He.glo_ok X G (c.fact 19 (f := .glo "exact_table") rfl)) F_exact b_exact (ok_exact F_exact B (Gwishes _ (by decide)) (Gfollows _ (by decide)) (Gstart _ (by decide)) (Gchase _ (by decide)) (Gknown _ (by decide)) (Gbeside _ (by decide))) hk
  have GlawPick : ∀ k, 1 ≤ k → Ok P w K mg base k "_law_pick" (spR 2 rPicked) := fun k hk => okOf (He.glo_ok X G (c.fact 27 (f := .glo "_law_pick") rfl)) F_lawPick b_lawPick (ok_lawPick F_lawPick B) hk
  have Gtake : ∀ k, 1 ≤ k → Ok P w K mg base k "_law_take" (spTake) := fun k hk => okOf (He.glo_ok X G (c.fact 21 (f := .glo "_law_take") rfl)) F_take b_take (ok_take F_take B) hk
  have Gdraws : ∀ k, 1 ≤ k → Ok P w K mg base k "_law_draws" (spDraws K) := fun k hk => okOf (He.glo_ok X G (c.fact 20 (f := .glo "_law_draws") rfl)) F_draws b_draws (ok_draws F_draws B) hk
  have Gsome : ∀ k, 2 ≤ k → Ok P w K mg base k "_law_some" (spSome) := fun k hk => okOf (He.glo_ok X G (c.fact 22 (f := .glo "_law_some") rfl)) F_some b_some (ok_some F_some B (Gtake _ (by decide))) hk
  have Gbook : ∀ k, 3 ≤ k → Ok P w K mg base k "_law_book" (spBook) := fun k hk => okOf (He.glo_ok X G (c.fact 23 (f := .glo "_law_book") rfl)) F_book b_book (ok_book F_book B (Gtake _ (by decide)) (Gsome _ (by decide))) hk
  have GisInt : ∀ k, 1 ≤ k → Ok P w K mg base k "_law_is_integer" (spR 1 rIsInt) := fun k hk => okOf (He.glo_ok X G (c.fact 24 (f := .glo "_law_is_integer") rfl)) F_isInt b_isInt (ok_isInt F_isInt B) hk
  have GknownRows : ∀ k, 2 ≤ k → Ok P w K mg base k "_law_known_rows" (spR 2 rKnownRows) := fun k hk => okOf (He.glo_ok X G (c.fact 25 (f := .glo "_law_known_rows") rfl)) F_knownRows b_knownRows (ok_knownRows F_knownRows B (GisInt _ (by decide))) hk
  have GlawSets : ∀ k, 1 ≤ k → Ok P w K mg base k "_law_sets" (spLawSets) := fun k hk => okOf (He.glo_ok X G (c.fact 26 (f := .glo "_law_sets") rfl)) F_lawSets b_lawSets (ok_lawSets F_lawSets B) hk
  have Ggroups : ∀ k, 2 ≤ k → Ok P w K mg base k "_law_groups" (spGroups) := fun k hk => okOf (He.glo_ok X G (c.fact 28 (f := .glo "_law_groups") rfl)) F_groups b_groups (ok_groups F_groups B (GlawPick _ (by decide))) hk
  have Gkeeps : ∀ k, 3 ≤ k → Ok P w K mg base k "_law_keeps_one" (spKeeps) := fun k hk => okOf (He.glo_ok X G (c.fact 29 (f := .glo "_law_keeps_one") rfl)) F_keeps b_keeps (ok_keeps F_keeps B (Ggroups _ (by decide)) (GlawPick _ (by decide))) hk
  have GlawParts : ∀ k, 1 ≤ k → Ok P w K mg base k "_law_parts" (spR 2 rLawParts) := fun k hk => okOf (He.glo_ok X G (c.fact 30 (f := .glo "_law_parts") rfl)) F_lawParts b_lawParts (ok_lawParts F_lawParts B) hk
  have Gunlike : ∀ k, 2 ≤ k → Ok P w K mg base k "_law_unlike" (spUnlike) := fun k hk => okOf (He.glo_ok X G (c.fact 33 (f := .glo "_law_unlike") rfl)) F_unlike b_unlike (ok_unlike F_unlike B (GlawPick _ (by decide))) hk
  have Gjoined : ∀ k, 2 ≤ k → Ok P w K mg base k "_law_joined" (spJoined) := fun k hk => okOf (He.glo_ok X G (c.fact 31 (f := .glo "_law_joined") rfl)) F_joined b_joined (ok_joined F_joined B (GlawPick _ (by decide))) hk
  have GlawMiss : ∀ k, 3 ≤ k → Ok P w K mg base k "_law_missing" (spLawMiss) := fun k hk => okOf (He.glo_ok X G (c.fact 32 (f := .glo "_law_missing") rfl)) F_lawMiss b_lawMiss (ok_lawMiss F_lawMiss B (Gjoined _ (by decide)) (GlawParts _ (by decide))) hk
  have GlawChase : ∀ k, 4 ≤ k → Ok P w K mg base k "_law_chase" (spLawChase) := fun k hk => okOf (He.glo_ok X G (c.fact 34 (f := .glo "_law_chase") rfl)) F_lawChase b_lawChase (ok_lawChase F_lawChase B (Gunlike _ (by decide)) (GlawMiss _ (by decide))) hk
  have GlawNow : ∀ k, 1 ≤ k → Ok P w K mg base k "_law_now" (spLawNow) := fun k hk => okOf (He.glo_ok X G (c.fact 35 (f := .glo "_law_now") rfl)) F_lawNow b_lawNow (ok_lawNow F_lawNow) hk
  have GlawStart : ∀ k, 2 ≤ k → Ok P w K mg base k "_law_start" (spLawStart) := fun k hk => okOf (He.glo_ok X G (c.fact 36 (f := .glo "_law_start") rfl)) F_lawStart b_lawStart (ok_lawStart F_lawStart B (GlawParts _ (by decide))) hk
  have GlawFollows : ∀ k, 5 ≤ k → Ok P w K mg base k "_law_follows" (spLawFollows) := fun k hk => okOf (He.glo_ok X G (c.fact 37 (f := .glo "_law_follows") rfl)) F_lawFollows b_lawFollows (ok_lawFollows F_lawFollows B (GlawChase _ (by decide)) (GlawStart _ (by decide)) (GlawNow _ (by decide))) hk
  exact ok_law F_law B (Gdraws _ (by decide)) (Gtake _ (by decide)) (Gbook _ (by decide)) (Gexact _ (by decide)) (GknownRows _ (by decide)) (GlawSets _ (by decide)) (Gkeeps _ (by decide)) (GlawFollows _ (by decide))
end Nr
open PySem PySem.W PySem.Calls PyProof.Rows
theorem PySem.Challenge.cw_norowstray_k94_whole_exact_tables_holds : PySem.Challenge.rw_norowstray_k94_whole_exact_tables.Holds := by
  w_on; o_law
  refine HandSHeadRun.head_any (r := OpenLaw.row PySem.Challenge.rw_norowstray_k94_whole_exact_tables) (q := view (OpenLaw.row PySem.Challenge.rw_norowstray_k94_whole_exact_tables).prog [48]) (H := Nr.hkAll) (ob := Nr.obAll) (M := 4000) (loose := Nr.namesAll) (d := HandSHeadRun.topDef (OpenLaw.row PySem.Challenge.rw_norowstray_k94_whole_exact_tables).prog 48) (kwd := []) Nr.obAll_eq
    (by kernel_rfl) (fun s => by kernel_rfl) Nr.runAll (by kernel_rfl) (by kernel_rfl) (by kernel_rfl) (by rfl) (by first | assumption | decide +kernel) (by decide +kernel) ⟨rfl, rfl, rfl, rfl, rfl, by decide +kernel⟩ ?hw ?hc
  case hw => w_witness2
  case hc =>
    refine L2.walk_ofE (l := PySem.Challenge.rw_norowstray_k94_whole_exact_tables) (n := 63) (k := 11) (x := "_law_script") (CX := L2.CX0) rfl (by decide) (by kernel_rfl) ⟨rfl, by decide, by decide⟩ ?F (fun _ _ _ _ z => z)
    intro w mg fa h Y G hmg0
    obtain ⟨K, KX, c⟩ := Y
    have hmg : mg ("law" : PySem.Str) = some (.ref fa) := by
      have e : (HandSHeadRun.topDef (OpenLaw.row PySem.Challenge.rw_norowstray_k94_whole_exact_tables).prog 48).name = ("law" : PySem.Str) := by kernel_rfl
      rw [← e]
      exact hmg0
    obtain ⟨fd, hb, hF⟩ := Nr.facts (P := (PySem.Challenge.rw_norowstray_k94_whole_exact_tables).prog) (w := w) KX G hmg c
    exact ⟨K, fd, Nr.spLaw K, KX, hb, fun H a ns hl _ hS => ⟨a, ns, rfl, hS, hl, fun _ => rfl⟩, fun base _ _ => hF base⟩
