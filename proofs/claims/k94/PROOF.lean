import PyProof.Rows.All
import Wide.All
import OpenK.AllK
import Wide.FinOn
import KE.KStateDown
import KE.KLam
import KE.SortKeyHeap
import KE.SortLaws
import KE.KDictKeyed
import KE.KIndexOf
import HandS.SetKeys
import HandS.DictTup
import KE.KExcSuper
import HandS.ForMost
import HandS.ForExc
import HandS.More
import HandS.Sort
import HandS.SortOrd
import HandS.SortKw
import HandS.SortInts
import HandS.Strs
import HandS.SetFor
import HandS.TupSets
import HandS.TupAny
import HandS.Conv
import HandS.Deep
import HandS.DeepEq
import HandS.Flow
import HandS.Wide
import HandS.IsInst
import HandS.OwnEq
import HandS.Rev
import HandS.Codes
import HandS.Lambda
import HandS.EndBits
import HandS.EndTab
import HandS.ExcInit
import HandS.RaiseOp
import HandS.TryMany
import HandS.Defaults
import HandS.Head0
import HandS.Head1
import HandS.Head2
import HandS.HeadEnd
import HandS.HeadHook1
import HandS.HeadHook2
import HandS.HeadHook3
import HandS.HeadHook4
import HandS.HeadWalk
import HandS.Walk
import PySem.Challenge.RW_followsortable_k94_whole_inserts_are_sta
set_option Elab.async false
set_option linter.all false
set_option maxRecDepth 100000
namespace K9
open PySem L2
abbrev prog : Program := PySem.Challenge.pw_followsortable_k94_whole_inserts_are_sta
def top (i : Nat) : Stmt := PySem.Challenge.pw_followsortable_k94_whole_inserts_are_sta.main.body.getD i (.Pass ⟨0, 0, 0, 0⟩)
abbrev sBrokenI : Stmt := inClass (top 4) 0
abbrev sStoreI : Stmt := inClass (top 7) 0
abbrev sSides : Stmt := inClass (top 7) 1
abbrev sPut : Stmt := inClass (top 7) 2
abbrev sInsert : Stmt := inClass (top 7) 4
abbrev sRows : Stmt := inClass (top 7) 6
abbrev sAsSet : Stmt := top 9
abbrev sWithin : Stmt := top 12
abbrev sWhole : Stmt := top 13
abbrev sAllSets : Stmt := top 14
abbrev sSidesI : Stmt := inClass (top 16) 0
abbrev sTableI : Stmt := inClass (top 20) 0
abbrev sTableE : Stmt := inClass (top 20) 1
abbrev sCells : Stmt := inClass (top 20) 2
abbrev sKeepsFd : Stmt := top 25
abbrev sKeeps : Stmt := top 27
abbrev sBreaks : Stmt := top 29
abbrev sConfl : Stmt := top 30
abbrev sRepairs : Stmt := top 31
abbrev sFirst : Stmt := top 33
abbrev sChaseI : Stmt := inClass (top 35) 0
abbrev sNext : Stmt := inClass (top 35) 4
abbrev sRun : Stmt := inClass (top 35) 5
abbrev sWindow : Stmt := top 36
abbrev sNumbers : Stmt := top 38
abbrev sSparse : Stmt := top 40
abbrev sFds : Stmt := top 45
abbrev sLCells : Stmt := top 47
abbrev sRowsOf : Stmt := top 48
abbrev sLaw : Stmt := top 49
end K9

set_option maxHeartbeats 0
namespace K9
open PySem L2
def dStoreI : He.DefD := ⟨("Store", some "__init__"), "__init__", "Store.__init__", defArgs sStoreI, defBody sStoreI, defScope sStoreI, [], []⟩
def dSides : He.DefD := ⟨("Store", some "sides"), "sides", "Store.sides", defArgs sSides, defBody sSides, defScope sSides, [], []⟩
def dPut : He.DefD := ⟨("Store", some "put"), "put", "Store.put", defArgs sPut, defBody sPut, defScope sPut, [], []⟩
def dInsert : He.DefD := ⟨("Store", some "insert"), "insert", "Store.insert", defArgs sInsert, defBody sInsert, defScope sInsert, [], []⟩
def dRows : He.DefD := ⟨("Store", some "rows"), "rows", "Store.rows", defArgs sRows, defBody sRows, defScope sRows, [], []⟩
def dAsSet : He.DefD := ⟨("as_set", none), "as_set", "as_set", defArgs sAsSet, defBody sAsSet, defScope sAsSet, [], []⟩
def dWithin : He.DefD := ⟨("is_within", none), "is_within", "is_within", defArgs sWithin, defBody sWithin, defScope sWithin, [], []⟩
def dWhole : He.DefD := ⟨("whole", none), "whole", "whole", defArgs sWhole, defBody sWhole, defScope sWhole, [], []⟩
def dAllSets : He.DefD := ⟨("all_sets", none), "all_sets", "all_sets", defArgs sAllSets, defBody sAllSets, defScope sAllSets, [], []⟩
def dFdI : He.DefD := ⟨("Fd", some "__init__"), "__init__", "Sides.__init__", defArgs sSidesI, defBody sSidesI, defScope sSidesI, [], []⟩
def dTableI : He.DefD := ⟨("Table", some "__init__"), "__init__", "Table.__init__", defArgs sTableI, defBody sTableI, defScope sTableI, [], []⟩
def dTableE : He.DefD := ⟨("Table", some "__eq__"), "__eq__", "Table.__eq__", defArgs sTableE, defBody sTableE, defScope sTableE, [], []⟩
def dCells : He.DefD := ⟨("Table", some "cells"), "cells", "Table.cells", defArgs sCells, defBody sCells, defScope sCells, [], []⟩
def dKeepsFd : He.DefD := ⟨("keeps_fd", none), "keeps_fd", "keeps_fd", defArgs sKeepsFd, defBody sKeepsFd, defScope sKeepsFd, [], []⟩
def dKeeps : He.DefD := ⟨("keeps", none), "keeps", "keeps", defArgs sKeeps, defBody sKeeps, defScope sKeeps, [], []⟩
def dBreaks : He.DefD := ⟨("breaks", none), "breaks", "breaks", defArgs sBreaks, defBody sBreaks, defScope sBreaks, [], []⟩
def dConfl : He.DefD := ⟨("conflicts", none), "conflicts", "conflicts", defArgs sConfl, defBody sConfl, defScope sConfl, [], []⟩
def dRepairs : He.DefD := ⟨("repairs", none), "repairs", "repairs", defArgs sRepairs, defBody sRepairs, defScope sRepairs, [], []⟩
def dFirst : He.DefD := ⟨("first_rows", none), "first_rows", "first_rows", defArgs sFirst, defBody sFirst, defScope sFirst, [], []⟩
def dChaseI : He.DefD := ⟨("StateChase", some "__init__"), "__init__", "StateChase.__init__", defArgs sChaseI, defBody sChaseI, defScope sChaseI, [], []⟩
def dNext : He.DefD := ⟨("StateChase", some "next_step"), "next_step", "StateChase.next_step", defArgs sNext, defBody sNext, defScope sNext, [], []⟩
def dRun : He.DefD := ⟨("StateChase", some "run"), "run", "StateChase.run", defArgs sRun, defBody sRun, defScope sRun, [], []⟩
def dWindow : He.DefD := ⟨("window", none), "window", "window", defArgs sWindow, defBody sWindow, defScope sWindow, [], []⟩
def dNumbers : He.DefD := ⟨("_law_numbers", none), "_law_numbers", "_law_numbers", defArgs sNumbers, defBody sNumbers, defScope sNumbers, [], []⟩
def dSparse : He.DefD := ⟨("_law_sparse", none), "_law_sparse", "_law_sparse", defArgs sSparse, defBody sSparse, defScope sSparse, [], []⟩
def dFds : He.DefD := ⟨("_law_fds", none), "_law_fds", "_law_fds", defArgs sFds, defBody sFds, defScope sFds, [], []⟩
def dLCells : He.DefD := ⟨("_law_cells", none), "_law_cells", "_law_cells", defArgs sLCells, defBody sLCells, defScope sLCells, [], []⟩
def dRowsOf : He.DefD := ⟨("_law_rows_of", none), "_law_rows_of", "_law_rows_of", defArgs sRowsOf, defBody sRowsOf, defScope sRowsOf, [], []⟩
def dLaw : He.DefD := ⟨("law", none), "law", "law", defArgs sLaw, defBody sLaw, defScope sLaw, [], []⟩
def fn : List He.DefD := [dStoreI, dSides, dPut, dInsert, dRows, dAsSet, dWithin, dWhole, dAllSets, dFdI, dTableI, dTableE, dCells, dKeepsFd, dKeeps, dBreaks, dConfl, dRepairs, dFirst, dChaseI, dNext, dRun, dWindow, dNumbers, dSparse, dFds, dLCells, dRowsOf, dLaw]
def faA : List He.Fa := [.glo "Store", .cls "Store", .mkr "Store", .keep "Store", .glo "Table", .cls "Table", .mkr "Table", .keep "Table", .glo "Fd", .cls "Fd", .mkr "Fd", .keep "Fd", .glo "StateChase", .cls "StateChase", .mkr "StateChase", .keep "StateChase", .glo "Broken", .exm "Broken" "Broken" true, .noat "Store" "count", .noat "Store" "dependencies", .noat "Store" "held", .noat "Store" "indexes", .noat "Store" "changes", .noat "Fd" "left", .noat "Fd" "right", .noat "Table" "columns", .noat "Table" "rows", .noat "StateChase" "dependencies", .noat "StateChase" "rows", .noat "StateChase" "steps", .noat "StateChase" "has_clash", .noat "Broken" "index", .meth "Store" "sides", .meth "Store" "put"]
def faB : List He.Fa := [.meth "Store" "insert", .meth "Store" "rows", .meth "Table" "__eq__", .meth "Table" "cells", .meth "StateChase" "next_step", .meth "StateChase" "run", .glo "as_set", .glo "is_within", .glo "whole", .glo "all_sets", .glo "keeps_fd", .glo "keeps", .glo "breaks", .glo "conflicts", .glo "repairs", .glo "first_rows", .glo "window", .glo "_law_numbers", .glo "_law_sparse", .glo "_law_fds", .glo "_law_cells", .glo "_law_rows_of", .glo "law", .free "tuple", .free "enumerate", .free "sorted", .free "list", .free "len", .free "set", .free "range", .free "all", .free "any", .free "isinstance", .free "reversed", .free "super"]
def fa : List He.Fa := faA ++ faB
def looseA : List Str := ["_wall", "TableError", "InvalidTable", "Broken", "NoMark", "Store", "as_set", "united", "met", "is_within", "whole", "all_sets", "Sides", "Fd", "Jd", "Table", "project", "mixed", "join", "joined_parts", "keeps_fd"]
def looseB : List Str := ["parts_of", "keeps", "breaks", "conflicts", "repairs", "first_rows", "replaced", "StateChase", "window", "_law_numbers", "_law_set", "_law_sparse", "_law_united", "_law_met", "_law_less", "_law_is_within", "_law_fds", "_law_closed", "_law_cells", "_law_rows_of"]

/-! ### the class Broken, whose __init__ says super().__init__ -/
def brkCls (K : PySem.W.Frag) (C : Addr) : Bool := match K.lookup C with
  | some ⟨.type "type", _, .cls cd, sl⟩ => (match cd.mro, sl.toList with
    | .ref C' :: bm, [_, _, _, _, some (.builtin n), _] => C' == C && (n == "ValueError.__new__" && (!cd.hasDel && (cd.hasDict && PySem.HandSPX.refsVE bm)))
    | _, _ => false)
  | _ => false
def brkAt : Str × Option Str := ("Broken", some "__init__")
def brkClo (K : PySem.W.Frag) (C : Addr) : Bool := match K.lookup (He.fAd K brkAt) with
  | some ⟨_, _, .func fd, _⟩ => (match fd.closure with
    | [(x, cc)] => decide (x = "__class__") && (match K.lookup cc with
      | some ⟨_, _, .cell (some (.ref D)), _⟩ => D == C
      | _ => false)
    | _ => false) && ((match fd.defaults with
      | .none => true
      | _ => false) && (PySem.W.codeIn K fd.code "Broken.__init__" && (match fd.code with
      | .ref c => (match K.lookup c with
        | some ⟨_, _, .fields vs, _⟩ => (match (vs[2]? : Option Value) with
          | some (Value.str file _) => ((prog.main.file : Str) == file)
          | _ => false)
        | _ => false)
      | _ => false)))
  | _ => false
def ex9a (K : PySem.W.Frag) : Bool := brkCls K (He.ga K "Broken") && (brkClo K (He.ga K "Broken") && (He.eqO (PySem.W.findIn K (.ref (He.ga K "Broken")) "__setattr__") (some (some (.builtin "object.__setattr__"))) &&
  (decide (PySem.W.subIn K (.ref (He.ga K "Broken")) (.type "BaseException") = some true) && (decide (PySem.W.typeIn K (.ref (He.ga K "Broken")) = some (.type "type")) && (PySem.W.keepIn K (.ref (He.ga K "Broken")) &&
  (He.eqO (PySem.W.findIn K (.ref (He.ga K "Broken")) "__init__") (some (some (.ref (He.fAd K brkAt)))) && (decide (PySem.W.typeIn K (.ref (He.fAd K brkAt)) = some (.type "function")) && (PySem.W.keepIn K (.ref (He.fAd K brkAt)) &&
  (He.eqO (PySem.W.ks_superIn K (He.ga K "Broken") (He.ga K "Broken") "__init__") (some (some (.builtin "ValueError.__init__"))) && (decide (PySem.W.subIn K (.ref (He.ga K "Broken")) (.type "ValueError") = some true) && (He.eqO (PySem.W.nsIn K cStatics "thirdparty.any") (some none) && decide (PySem.W.mroIn K (He.ga K "Broken") (.ref (He.ga K "Broken")) = some true))))))))))))
def insOk (K : PySem.W.Frag) (C : Addr) : Bool := He.eqO (PySem.W.findIn K (.ref C) "__class__") (some (some (.builtin "object.__class__"))) && (He.eqO (PySem.W.specialIn K (.builtin "object.__class__") "__get__") (some (some (.builtin "getset_descriptor.__get__"))) &&
  (decide (PySem.W.takesIn K (.builtin "object.__class__") = some true) && (decide (PySem.W.mroIn K C (.type "object") = some true) && decide (PySem.W.kitOne K (.ref C) (.ref C) = some true))))
def ex9 (K : PySem.W.Frag) : Bool := ex9a K && (insOk K (He.ga K "Table") && insOk K (He.ga K "Fd"))
abbrev BkV : Type := Option (Str × Str × Arguments × FuncBody × Scope × Addr × Addr)
def bkObs (K : PySem.W.Frag) : BkV := match K.lookup (He.fAd K brkAt) with
  | some ⟨_, _, .func fd, _⟩ => some (fd.name, fd.qualname, fd.params, fd.body, fd.scope, fd.globals, fd.builtins)
  | _ => none
def bkVal : BkV := some ("__init__", "Broken.__init__", defArgs sBrokenI, .stmts (defBody sBrokenI), defScope sBrokenI, mainGlobals, builtinsNs)
/-- the part of the heap that is told: what the names reach, and the statics -/
def frag9 (g : Addr → Option Obj) : PySem.W.Frag := He.frT g (cStatics :: He.asD g 5)
def tab9 (g : Addr → Option Obj) (K : PySem.W.Frag) (p : He.Defn) : Bool :=
  PySem.W.codeHdIn K (He.cT K p).1 (He.cT K p).2 && ((K.lookup (He.cT K p).2).isNone && (match g (He.cT K p).2 with
    | some o => He.emptyTab o
    | none => false))
def tf9 : He.Defn := ("all_sets", none)
abbrev Al9 : Type := (He.AlT × Bool) × BkV
def obs9 (g : Addr → Option Obj) : Al9 := ((He.obsT fa fn [] (frag9 g), ex9 (frag9 g) && tab9 g (frag9 g) tf9), bkObs (frag9 g))
def val9 (w : World) : Al9 := ((He.valT fn [] w, true), bkVal)
/-- what the head tells -/
structure Says9 (w : World) (h : Heap) (K : PySem.W.Frag) : Prop where
  t : He.SaysT fa fn [] w K
  ex : ex9 K = true
  hd : PySem.W.codeHdIn K (He.cT K tf9).1 (He.cT K tf9).2 = true
  out : K.lookup (He.cT K tf9).2 = none
  empty : h.get? (He.cT K tf9).2 = some { cls := .none, data := .fields #[] }
  bk : bkObs K = bkVal
theorem says9_of {w : World} {h : Heap} (e : obs9 h.get? = val9 w) : Says9 w h (frag9 h.get?) := by
  have e1 : (He.obsT fa fn [] (frag9 h.get?), ex9 (frag9 h.get?) && tab9 h.get? (frag9 h.get?) tf9) = (He.valT fn [] w, true) := congrArg Prod.fst e
  obtain ⟨x1, x2⟩ := He.ba (show (ex9 (frag9 h.get?) && tab9 h.get? (frag9 h.get?) tf9) = true from congrArg Prod.snd e1)
  obtain ⟨y1, y2⟩ := He.ba x2
  obtain ⟨y3, y4⟩ := He.ba y2
  refine ⟨congrArg Prod.fst e1, x1, y1, by simpa using y3, ?_, congrArg Prod.snd e⟩
  cases q : h.get? (He.cT (frag9 h.get?) tf9).2 with
  | none => rw [q] at y4; cases y4
  | some o => rw [q] at y4; rw [He.emptyTab_eq y4]
def hook9 : PySem.W.Hook where
  α := Al9
  obs := fun s => obs9 s.heap.get?
  val := fun w => val9 w
  says := fun w h => ∃ K : PySem.W.Frag, K.In h ∧ Says9 w h K
  of := fun _ _ e => ⟨frag9 _, He.frT_in, says9_of e⟩
  keeps := fun _ _ _ z k => by
    obtain ⟨K, x, c⟩ := z
    exact ⟨K, x.keeps k, ⟨c.t, c.ex, c.hd, c.out, k _ _ c.empty, c.bk⟩⟩
abbrev R9 : PySem.W.OpenRow := PySem.W.OpenLaw.row PySem.Challenge.rw_followsortable_k94_whole_inserts_are_sta
def ob9 (s : PySem.W.SharedT) : Al9 := obs9 (HandSHeadRun.getT s)
theorem ob9_eq (s : PySem.W.SharedT) : ob9 s = hook9.obs s.abs := by
  have e : HandSHeadRun.getT s = s.abs.heap.get? := funext (HandSHeadRun.getT_eq s)
  show obs9 (HandSHeadRun.getT s) = obs9 s.abs.heap.get?
  rw [e]
theorem run9 (w : World) : HandSHeadRun.RunEq R9 (PySem.W.view R9.prog [49]) hook9 ob9 20000 (looseA ++ looseB) w := by
  intro os
  kernel_rfl
end K9

set_option maxHeartbeats 4000000
/-! Broken(index): its __init__ says super().__init__('..') and stores one field. -/
namespace K9
open PySem PySem.Calls PyProof.Rows
/-- the method-wrapper of ValueError.__init__, called -/
theorem call_mw {prog : Program} {w : World} {A : Around} {E : Value → Shared → Prop} {h : Heap} {g : Array GenState} {d : Drawn} {t : Nat} {os : OsState}
    {nm q : Str} {C N : Addr} {bs bm : List Value} {hdct : Bool} {sn : List Str} {sub : List Value} {ab : Bool} {col : Option Bool} {dd : Option Addr} {k0 k1 k2 k3 k5 : Option Value}
    {u e t0 : Addr} {rest : List Value} {Q : Value → Shared → Prop}
    (lC : h.get? C = some (excClassObj nm q C N bs bm hdct sn sub ab col dd k0 k1 k2 k3 k5 "ValueError.__new__")) (le : h.get? e = some (HandSPX.excO C t0))
    (lu : h.get? u = some (PySem.W.kxs_mw "ValueError.__init__" e)) (hz : rest.length ≤ sizeLine)
    (fin : ∀ h' t1, (∀ b o, b ≠ e → h.get? b = some o → h'.get? b = some o) → h'.get? e = some (HandSPX.excO C t1) → Q .none ⟨h', g, d, t, os⟩) :
    wpAny (model prog w) A (call (.ref u) rest) Q E ⟨h, g, d, t, os⟩ := by
  refine wpAny_call (codeAny_of_tree ?_)
  show wpAny _ A.in1 (callAny (.ref u) ⟨rest, []⟩) _ _ _
  unfold callAny
  refine wpAny_bind (wpAny_load lu ?_)
  have yes : (Value.type "method-wrapper" == Value.type "method" || Value.type "method-wrapper" == Value.type "builtin_function_or_method" || Value.type "method-wrapper" == Value.type "method-wrapper") = true := by decide
  simp only [PySem.W.kxs_mw, yes, if_true]
  refine W.KFB.if_so (by decide) ?_
  refine wpAny_bind (PySem.W.check_bound_init F.excBase_ValueError.toExcCallFacts lC le rfl ?_)
  refine wpAny_bind (wpAny_pure (wpAny_pure ⟨plainId_quiet F.excBase_ValueError.init.plain _, codeAny_builtin F.excBase_ValueError.initEntry ?_⟩))
  refine PySem.W.exc_init_tree (cls := .ref C) (t0 := t0) (dv := none) (c2 := .none) (c3 := .none) (b4 := .bool false) le hz fun h' k1 k2 k3 => ?_
  exact fin h' _ k1 k2

open L2
/-- the heap and what is tracked, behind the storing of the first field -/
theorem brk_un {P : Program} {w : World} {H : Hp} {h h' : Heap} {fs : List Addr} {a dx C t1 : Addr} {v : V} {u : Value} {f : Str} (ok : HOk P w H h) (ea : H a = some (exo a C none))
    (k : ∀ b o, b ≠ a → h.get? b = some o → h'.get? b = some o) (ld : h.objs.size ≤ dx) (ne : dx ≠ a)
    (hx : h'.get? a = some { cls := .ref C, dict := some dx, data := .fields #[.ref t1, .none, .none, .none, .bool false, .none] }) (hn : h'.Ns1 dx fun y => if y = f then some u else none) (rv : RelV v u) :
    H dx = none ∧ Un fs [] H (upd (upd H dx (exd dx [(f, v)])) a (exo a C (some dx))) h h' ∧ HOk P w (upd (upd H dx (exd dx [(f, v)])) a (exo a C (some dx))) h' := by
  have nd : H dx = none := ok.fresh ld
  have old : ∀ {b : Addr} {o : Obj}, h.get? b = some o → b ≠ dx := fun {b o} q => Nat.ne_of_lt (Nat.lt_of_lt_of_le (Heap.lt_size q) ld)
  have nota : ∀ {b : Addr}, H b = none → b ≠ a := fun {b} n z => by rw [z, ea] at n; cases n
  have keepH : ∀ {b : Addr} {o : HO}, H b = some o → exo a C none ≠ o → upd (upd H dx (exd dx [(f, v)])) a (exo a C (some dx)) b = some o := fun {b o} q n => by
    rw [upd_ne (at_ne ea q n), upd_ne (ne_of_none q nd)]
    exact q
  refine ⟨nd, ⟨fun b o q n _ _ => k b o (nota n) q, fun b o q n _ _ => ⟨o.slots, k b o (nota n) q⟩, fun b o q n _ => ?_, fun b o q _ => ?_, fun b xs q => keepH q exo_tup, fun b o v q => keepH q exo_frz, fun b ps q => ⟨#[], ?_⟩⟩, fun b o q => ?_⟩
  · rw [upd_ne (nota n), upd_ne (old q)]
    exact n
  · by_cases hb : b = a
    · exact ⟨_, by rw [hb]; exact hx⟩
    · exact ⟨o, k b o hb q⟩
  · rw [keepH q exo_tbl]
    simp
  · by_cases hb : b = a
    · subst hb
      rw [upd_same] at q
      cases q
      exact exo_ok hx
    · rw [upd_ne hb] at q
      by_cases hd : b = dx
      · subst hd
        rw [upd_same] at q
        cases q
        exact exd_ok hn (relO_put (fs := []) rv fun g => True.intro)
      · rw [upd_ne hd] at q
        refine (ok b o q).stay (fun c x hc z => k c x ?_ z) (fun c hc => keepH hc exo_own) fun c xs hc => keepH hc exo_tup
        rcases hc with hc | hc
        · rw [hc]; exact hb
        · exact at_ne ea hc exo_own
/-- what is told of the method: its function, its closure's cell, its code -/
structure BrkF (K : PySem.W.Frag) (mg : Str → Option Value) (C f : Addr) (fd : FuncData) : Prop where
  cls : OexC K C
  fn : ∃ (oc : Value) (od : Option Addr) (osl : Array (Option Value)) (kV doc pm ct : Value) (an : Option Addr) (cda cc : Addr),
    fd = PySem.W.fnX "__init__" "Broken.__init__" (defArgs sBrokenI) (defBody sBrokenI) (defScope sBrokenI) [("__class__", cc)] .none kV doc pm an (.ref cda) ct ∧
    K.lookup f = some ⟨oc, od, .func fd, osl⟩ ∧ PySem.W.codeIn K (.ref cda) "Broken.__init__" = true ∧ (∃ cl cld csl, K.lookup cc = some ⟨cl, cld, .cell (some (.ref C)), csl⟩) ∧
    ∃ (ccl : Value) (cdd : Option Addr) (vs : Array Value) (ccs : Array (Option Value)) (file : Str) (tf : Tok), K.lookup cda = some ⟨ccl, cdd, .fields vs, ccs⟩ ∧ vs[2]? = some (.str file tf) ∧ ((prog.main.file : Str) == file) = true
  up : PySem.W.ks_superIn K C C "__init__" = some (some (.builtin "ValueError.__init__"))
  sub : PySem.W.subIn K (.ref C) (.type "ValueError") = some true
  own : PySem.W.mroIn K C (.ref C) = some true
  thr : PySem.W.nsIn K cStatics "thirdparty.any" = some none
  noi : PySem.W.findIn K (.ref C) "index" = some none
  sup : mg "super" = none
/-- its promise: one field in a new dict -/
def spBrk (C : Addr) : Sp := fun vs H Q _ => ∃ (a : Addr) (v : V), vs = [.ref a, v] ∧ H a = some (exo a C none) ∧
  ∀ dx, H dx = none → dx ≠ a → Q .non (upd (upd H dx (exd dx [("index", v)])) a (exo a C (some dx)))
theorem htop9 : (prog.main.scope.names.lookup ("super" : Str)).isSome = false := by decide +kernel
theorem look_self (x y : Value) : (((["self", "index"] : List Str).zip [x, y]).reverse.lookup ("self" : Str)) = some x := by
  have e : (("self" : Str) == ("index" : Str)) = false := by decide +kernel
  simp [List.lookup, e]
theorem look_index (x y : Value) : (((["self", "index"] : List Str).zip [x, y]).reverse.lookup ("index" : Str)) = some y := by
  simp [List.lookup]
theorem ok_brk {w : World} {K : PySem.W.Frag} {mg : Str → Option Value} {base : Heap} {CX : CXT} {C f : Addr} {fd : FuncData} (B : BrkF K mg C f fd) : FnOk prog w K mg base CX 1 f fd ["self", "index"] (spBrk C) := by
  refine ⟨fun vs H Q E h => ?_, fun A outer s H args us vs Q E hr e0 hb r hsp => ?_⟩
  · obtain ⟨a, v, rfl, _⟩ := h
    rfl
  · obtain ⟨a, v, rfl, ea, q⟩ := hsp
    obtain ⟨u0, u1, rfl, ra, rv⟩ := vals2 r
    obtain rfl : u0 = Value.ref a := ra
    obtain ⟨oc, od, osl, kV, doc, pm, ct, an, cda, cc, rfl, lkf, hcd, ⟨cl, cld, csl, lkcc⟩, ccl, cdd, cvs, ccs, file, tf, lkcd, hv2, hfile⟩ := B.fn
    obtain ⟨nm, qn, N, bs, bm, sn, sub, ab, col, dd, k0, k1, k2, k3, k5, lkC, hbm⟩ := B.cls.cls
    have KX : K.In s.heap := e0.mod.kin.keeps fun b o e => (e0.bs b o e).1
    have lim : s.heap.NoLimit := e0.mod.nolimit.keeps fun b o e => (e0.bs b o e).1
    have hcl : PySem.W.clsIn K C = some { name := nm, bases := bs, mro := .ref C :: bm, ns := N, qualname := qn, hasDict := true, slotNames := sn, subclasses := sub, abstract := ab, collection := col, hasDel := false } := by
      unfold PySem.W.clsIn; rw [lkC] <;> rfl
    obtain ⟨t1, ho⟩ := exo_at e0.hok ea
    have hks : (defScope sBrokenI).names.lookup ("super" : Str) = some .globalImplicit := by decide +kernel
    have hkc : (defScope sBrokenI).names.lookup ("__class__" : Str) = some .free := by decide +kernel
    have hkS : (defScope sBrokenI).names.lookup ("self" : Str) = some .local := by decide +kernel
    have hkI : (defScope sBrokenI).names.lookup ("index" : Str) = some .local := by decide +kernel
    have haC : a ≠ C := fun z => by
      rw [z, KX _ _ lkC] at ho
      cases ho
    have hnc : ∀ x ∈ (defScope sBrokenI).names, x.2 ≠ .cell := by decide +kernel
    refine ks_codeAny_call_defAt hr.depth (KX _ _ lkf) rfl lim (PySem.W.codeRec_of KX hcd) rfl hb hnc (fun y hy => ?_) (fun h0 hns kp => ?_) (by rfl) (by rfl) (by rfl)
    · have hy' : y = (("self" : Str), Value.ref a) ∨ y = (("index" : Str), u1) := by simpa using hy
      rcases hy' with rfl | rfl
      · exact hkS
      · exact hkI
    · have ho0 := kp _ _ ho
      have X0 : K.In h0 := KX.keeps kp
      have bk : ∀ b o, base.get? b = some o → h0.get? b = some o := fun b o e => kp _ _ (e0.bs b o e).1
      have mS : (fun x => (((["self", "index"] : List Str).zip [Value.ref a, u1]).reverse.lookup x)) ("self" : Str) = some (Value.ref a) := look_self _ _
      have mI : (fun x => (((["self", "index"] : List Str).zip [Value.ref a, u1]).reverse.lookup x)) ("index" : Str) = some u1 := look_index _ _
      obtain ⟨mb, hb1, hb2⟩ := e0.mod.blt
      refine ks_wpAt_execs_cons (ks_wpAt_Expr_any (ks_wpAt_MethodCall (ks_wpAt_super_base (f := f) (cc := cda) hks hkc (by decide) rfl (X0 _ _ lkf) rfl rfl rfl (X0 _ _ lkcd) rfl hv2 hfile htop9 ?_)))
      refine PySem.W.ks_loadName_global rfl hks (loadGlobal_builtin (e0.mod.glob.keeps bk) B.sup (hb1.keeps bk) ((hb2 _ (by decide)).trans (by decide +kernel)) ⟨rfl, ?_⟩)
      refine wpAny_loadName_free rfl hkc rfl ⟨_, X0 _ _ lkcc, rfl⟩ ?_
      refine wpAny_loadName_local rfl hkS hns mS ?_
      refine ks_wpAny_isType_cls (X0 _ _ lkC) rfl ⟨rfl, ?_⟩
      refine ks_wpAny_call_super (X0 _ _ lkC) rfl ho0 rfl (fun c z => nomatch z) (PySem.W.looks_mroIn X0 B.own) fun h1 e1 kp1 => ?_
      have ho1 := kp1 _ _ ho0
      have X1 : K.In h1 := X0.keeps kp1
      have hm : PySem.W.alongIn K "__init__" (((Value.ref C :: bm).dropWhile (· != .ref C)).drop 1) = some (some (.builtin "ValueError.__init__")) := by
        have q := B.up
        unfold PySem.W.ks_superIn at q
        rw [hcl] at q
        exact q
      have Ix : PySem.W.InstAt h1 a { cls := .ref C, dict := none, data := .fields #[.ref t1, .none, .none, .none, .bool false, .none] } C none := ⟨ho1, rfl, rfl, trivial⟩
      refine PySem.W.kxs_getMethod PySem.W.kxs_ValueError e1 (PySem.W.looks_opaque X1 B.thr) (l₀ := .ref C :: bm) ((PySem.W.looks_clsIn X1 hcl).andThen .now) rfl X1 hm (Ix.type.andThen (PySem.W.looks_subIn X1 B.sub)) haC (by decide) ?_
      have hu : (h1.push (PySem.W.kxs_mw "ValueError.__init__" a)).get? h1.objs.size = some (PySem.W.kxs_mw "ValueError.__init__" a) := Heap.get?_push_size _ rfl
      refine PySem.W.kxs_callWith1 (h₀ := { objs := #[] }) (L := h1.objs.size + 1) (news := [(h1.objs.size, PySem.W.kxs_mw "ValueError.__init__" a)]) (i := "ValueError.__init__") (x := a) (fun p hp => ?_) (List.mem_singleton.mpr rfl) ?_
      · rw [List.mem_singleton.mp hp]
        exact ⟨hu, Nat.ne_of_lt (Nat.lt_succ_self _), rfl⟩
      refine spliced_cons (Calls.Constant_str (pos := ⟨12, 25, 12, 54⟩) (k := 0) (spliced_nil ⟨hu, ?_⟩))
      refine call_mw (Heap.get?_push_of_some _ (X1 _ _ lkC)) (Heap.get?_push_of_some _ ho1) hu (by show 1 ≤ sizeLine; decide) fun h2 t2 kp2 ho2 => ?_
      -- self.index = index
      have old : ∀ b o, s.heap.get? b = some o → b ≠ a → h2.get? b = some o := fun b o e n => kp2 b o n (Heap.get?_push_of_some _ (kp1 _ _ (kp _ _ e)))
      have hns2 : h2.Ns s.heap.objs.size (fun x => (((["self", "index"] : List Str).zip [Value.ref a, u1]).reverse.lookup x)) := by
        obtain ⟨oL, es, ep, hL, r2⟩ := hns
        refine ⟨oL, es, ep, kp2 _ _ (Nat.ne_of_gt (Heap.lt_size ho)) (Heap.get?_push_of_some _ (kp1 _ _ hL)), r2⟩
      have X2 : K.In h2 := fun b o e => by
        refine old b o (KX b o e) fun z => ?_
        have y := KX b o e
        rw [z, ho] at y
        have y2 := e0.mod.kin b o e
        have y3 := (e0.bs b o y2).2
        rw [z, ea] at y3
        cases y3
      refine ks_wpAt_execs_cons (wpAt_of_wpAny (plainObj_wpAny_Assign_Attribute ?_))
      refine wpAny_Name (wpAny_loadName_local rfl hkI hns2 mI ?_) (by decide)
      refine wpAny_Name (wpAny_loadName_local rfl hkS hns2 mS ?_) (by decide)
      refine PySem.W.set_plain X2 (ox := { cls := .ref C, dict := none, data := .fields #[.ref t2, .none, .none, .none, .bool false, .none] }) (od := none) ⟨ho2, rfl, rfl, trivial⟩ B.cls.sa ?_
      refine HandSPX.exc_osa X2 ho2 hcl (show HandSPX.refsVE (.ref C :: bm) = true from hbm) rfl B.noi fun h3 t3 dx kp3 ld ne hx3 hn3 => ?_
      have ls : s.heap.objs.size ≤ dx := by
        obtain ⟨oL, es, ep, hL, r2⟩ := hns2
        exact Nat.le_trans (Nat.le_of_lt (Heap.lt_size hL)) ld
      obtain ⟨nd, U, ok3⟩ := brk_un (P := prog) (w := w) (fs := frs outer) (v := v) e0.hok ea (fun b o n e => kp3 b o n (old b o e n)) ls ne hx3 hn3 rv
      refine wpAt_of_wpAny (wpAny_execs_nil ?_)
      exact ⟨.non, _, rfl, e0.bare, U, ok3, rfl, q dx nd ne⟩
end K9

set_option maxHeartbeats 4000000
/-! What stays of an abstract heap; rows, dependencies, tables as they stand in it. -/
namespace K9
open PySem L2
/-! ### what stays -/
/-- tuples, instances and their dicts never change here -/
def Stat : HO → Bool
  | .tup _ => true
  | .ins _ _ _ => true
  | .own _ => true
  | .frz _ (.tup _) => true
  | _ => false
def SK (H H' : Hp) : Prop := ∀ a o, H a = some o → Stat o = true → H' a = some o
theorem SK.rfl' {H : Hp} : SK H H := fun _ _ h _ => h
theorem SK.trans {H H1 H2 : Hp} (a : SK H H1) (b : SK H1 H2) : SK H H2 := fun c o h s => b c o (a c o h s) s
theorem SK.ext {H H' : Hp} (e : Ext H H') : SK H H' := fun a o h _ => e a o h
theorem SK.new {H : Hp} {p : Addr} {o : HO} (n : H p = none) : SK H (upd H p o) := SK.ext (Ext.upd n)
/-- an object that is no static one is changed -/
theorem SK.upd {H : Hp} {p : Addr} {u o : HO} (h : H p = some u) (n : Stat u = false) : SK H (upd H p o) := fun a x e s => by
  rw [upd_ne fun z => ?_]
  · exact e
  · rw [z, h] at e
    rw [← Option.some.inj e, n] at s
    cases s
theorem SK.lst {H : Hp} {p : Addr} {xs : List V} {o : HO} (h : H p = some (.lst xs)) : SK H (L2.upd H p o) := SK.upd h rfl
/-- all but what is new stays, a fresh object changed at will -/
theorem Ext.set {H H1 : Hp} {p : Addr} {o : HO} (e : Ext H H1) (n : H p = none) : Ext H (upd H1 p o) := fun a x h => by
  rw [upd_ne (ne_of_none h n)]
  exact e a x h
theorem Ext.free {H H' : Hp} (e : Ext H H') {p : Addr} (n : H' p = none) : H p = none := by
  cases q : H p with
  | none => rfl
  | some o =>
    rw [e p o q] at n
    cases n

/-- all but the tables of code objects stays; the table at P stays good -/
def lamName : Str := "all_sets.<locals>.<lambda>"
structure Keep (P : Addr) (H H' : Hp) : Prop where
  ext : LamX.ExtN H H'
  tab : LamX.TabS H P lamName → LamX.TabS H' P lamName
theorem Keep.rfl' {P : Addr} {H : Hp} : Keep P H H := ⟨LamX.ExtN.refl H, id⟩
theorem Keep.trans {P : Addr} {H H1 H2 : Hp} (a : Keep P H H1) (b : Keep P H1 H2) : Keep P H H2 := ⟨a.ext.trans b.ext, fun t => b.tab (a.tab t)⟩
theorem Keep.of {P : Addr} {H H' : Hp} (e : Ext H H') : Keep P H H' := ⟨LamX.ExtN.of e, fun t => t.ext e⟩
theorem Keep.sk {P : Addr} {H H' : Hp} (k : Keep P H H') : SK H H' := fun a o h s => k.ext a o h fun ps z => by
  rw [z] at s
  cases s
theorem Keep.lst {P : Addr} {H H' : Hp} (k : Keep P H H') {a : Addr} {xs : List V} (h : H a = some (.lst xs)) : H' a = some (.lst xs) := k.ext a _ h fun ps z => by cases z
theorem Keep.free {P : Addr} {H H' : Hp} (k : Keep P H H') {p : Addr} (n : H' p = none) : ∀ o, H p = some o → ∃ ps, o = .tbl ps := fun o h => by
  apply Classical.byContradiction
  intro z
  have q := k.ext p o h fun ps e => z ⟨ps, e⟩
  rw [n] at q
  cases q
theorem seqL_keep {K : PySem.W.Frag} {P : Addr} {H H' : Hp} (k : Keep P H H') {a : Addr} {xs : List V} (h : SqL K H a xs) : SqL K H' a xs := by
  rcases h with (h | ⟨o, h⟩) | h
  · exact .inl (.inl (k.lst h))
  · exact .inl (.inr ⟨o, k.ext _ _ h fun ps z => by cases z⟩)
  · exact .inr h

/-! ### rows: tuples of ints -/
abbrev Row : Type := List Int
abbrev Fdp : Type := List Int × List Int
def IsRow (H : Hp) (v : V) (r : Row) : Prop := ∃ p, v = .ref p ∧ H p = some (.tup (r.map V.int))
def Rows (H : Hp) : List V → List Row → Prop := Paired (IsRow H)
def TupRows (H : Hp) (v : V) (rs : List Row) : Prop := ∃ p vs, v = .ref p ∧ H p = some (.tup vs) ∧ Rows H vs rs
theorem IsRow.sk {H H' : Hp} {v : V} {r : Row} (h : IsRow H v r) (k : SK H H') : IsRow H' v r := by
  obtain ⟨p, e, q⟩ := h
  exact ⟨p, e, k _ _ q rfl⟩
theorem Rows.sk {H H' : Hp} {vs : List V} {rs : List Row} (h : Rows H vs rs) (k : SK H H') : Rows H' vs rs := Paired.mapP h fun _ _ z => z.sk k
theorem TupRows.sk {H H' : Hp} {v : V} {rs : List Row} (h : TupRows H v rs) (k : SK H H') : TupRows H' v rs := by
  obtain ⟨p, vs, e, q, r⟩ := h
  exact ⟨p, vs, e, k _ _ q rfl, r.sk k⟩
theorem Paired.getP {α β : Type} {R : α → β → Prop} : ∀ {xs : List α} {ys : List β} {i : Nat} {x : α}, Paired R xs ys → xs[i]? = some x → ∃ y, ys[i]? = some y ∧ R x y
  | _, _, _, _, .nil, e => by simp at e
  | _, _, 0, _, .cons r _, e => by simp at e; subst e; exact ⟨_, rfl, r⟩
  | _, _, i + 1, x, .cons _ t, e => by
    obtain ⟨y, h1, h2⟩ := Paired.getP (i := i) (x := x) t (by simpa using e)
    exact ⟨y, by simpa using h1, h2⟩
theorem Paired.getR {α β : Type} {R : α → β → Prop} : ∀ {xs : List α} {ys : List β} {i : Nat} {y : β}, Paired R xs ys → ys[i]? = some y → ∃ x, xs[i]? = some x ∧ R x y
  | _, _, _, _, .nil, e => by simp at e
  | _, _, 0, _, .cons r _, e => by simp at e; subst e; exact ⟨_, rfl, r⟩
  | _, _, i + 1, y, .cons _ t, e => by
    obtain ⟨x, h1, h2⟩ := Paired.getR (i := i) (y := y) t (by simpa using e)
    exact ⟨x, by simpa using h1, h2⟩
theorem Paired.snoc' {α β : Type} {R : α → β → Prop} {xs : List α} {ys : List β} {x : α} {y : β} (h : Paired R xs ys) (r : R x y) : Paired R (xs ++ [x]) (ys ++ [y]) := Paired.snoc h r
theorem Paired.mem {α β : Type} {R : α → β → Prop} : ∀ {xs : List α} {ys : List β} {x : α}, Paired R xs ys → x ∈ xs → ∃ y ∈ ys, R x y
  | _, _, _, .nil, e => by simp at e
  | _, _, x, .cons r t, e => by
    rcases List.mem_cons.mp e with e | e
    · subst e; exact ⟨_, List.mem_cons_self, r⟩
    · obtain ⟨y, h1, h2⟩ := Paired.mem t e
      exact ⟨y, List.mem_cons_of_mem _ h1, h2⟩

/-! ### dependencies -/
theorem nLR : ¬ (("left" : Str) = "right") := by decide +kernel
theorem fd_flds (l r : V) : putF "right" r (putF "left" l []) = ([("left", l), ("right", r)] : List (Str × V)) := by
  show (if ("left" : Str) = "right" then [(("left" : Str), r)] else (("left" : Str), l) :: putF "right" r []) = _
  rw [if_neg nLR]
  rfl
def IsFd (C : Addr) (H : Hp) (v : V) (f : Fdp) : Prop := ∃ p dx l r, v = .ref p ∧ H p = some (.ins C dx ([("left", V.ref l), ("right", V.ref r)] : List (Str × V))) ∧ H l = some (.tup (f.1.map V.int)) ∧ H r = some (.tup (f.2.map V.int))
theorem IsFd.sk {C : Addr} {H H' : Hp} {v : V} {f : Fdp} (h : IsFd C H v f) (k : SK H H') : IsFd C H' v f := by
  obtain ⟨p, dx, l, r, e, q1, q2, q3⟩ := h
  exact ⟨p, dx, l, r, e, k _ _ q1 rfl, k _ _ q2 rfl, k _ _ q3 rfl⟩
def Fds (C : Addr) (H : Hp) : List V → List Fdp → Prop := Paired (IsFd C H)
theorem Fds.sk {C : Addr} {H H' : Hp} {vs : List V} {fs : List Fdp} (h : Fds C H vs fs) (k : SK H H') : Fds C H' vs fs := Paired.mapP h fun _ _ z => z.sk k

/-! ### tables -/
theorem nCR : ¬ (("columns" : Str) = "rows") := by decide +kernel
theorem tb_flds (c r : V) : putF "rows" r (putF "columns" c []) = ([("columns", c), ("rows", r)] : List (Str × V)) := by
  show (if ("columns" : Str) = "rows" then [(("columns" : Str), r)] else (("columns" : Str), c) :: putF "rows" r []) = _
  rw [if_neg nCR]
  rfl
/-- the columns 0, 1, .. -/
def colz (n : Nat) : Row := (List.range n).map fun i : Nat => (i : Int)
theorem colz_len (n : Nat) : (colz n).length = n := by unfold colz; simp
theorem colz_get (n i : Nat) (h : i < n) : (colz n)[i]? = some (i : Int) := by unfold colz; simp [h]
theorem mem_colz {n : Nat} {c : Int} : c ∈ colz n ↔ 0 ≤ c ∧ c < n := by
  unfold colz
  rw [List.mem_map]
  constructor
  · rintro ⟨i, hi, rfl⟩
    have := List.mem_range.mp hi
    omega
  · rintro ⟨h1, h2⟩
    exact ⟨c.toNat, List.mem_range.mpr (by omega), by omega⟩
/-- the tuple of the columns: frozen, so that it has no dict -/
def ColT (H : Hp) (c : Addr) (n : Nat) : Prop := ∃ o : Obj, o.dict = none ∧ H c = some (.frz o (.tup ((colz n).map V.int)))
theorem ColT.sk {H H' : Hp} {c : Addr} {n : Nat} (h : ColT H c n) (k : SK H H') : ColT H' c n := by
  obtain ⟨o, e, q⟩ := h
  exact ⟨o, e, k _ _ q rfl⟩
theorem ColT.sq {K : PySem.W.Frag} {H : Hp} {c : Addr} {n : Nat} (h : ColT H c n) : SqT K H c ((colz n).map V.int) := by
  obtain ⟨o, e, q⟩ := h
  exact .inl (.inr ⟨o, q⟩)
def IsTab (C : Addr) (H : Hp) (v : V) (n : Nat) (rs : List Row) : Prop := ∃ p dx c r, v = .ref p ∧ H p = some (.ins C dx ([("columns", V.ref c), ("rows", V.ref r)] : List (Str × V))) ∧ ColT H c n ∧ TupRows H (.ref r) rs
theorem IsTab.sk {C : Addr} {H H' : Hp} {v : V} {n : Nat} {rs : List Row} (h : IsTab C H v n rs) (k : SK H H') : IsTab C H' v n rs := by
  obtain ⟨p, dx, c, r, e, q1, q2, q3⟩ := h
  exact ⟨p, dx, c, r, e, k _ _ q1 rfl, q2.sk k, q3.sk k⟩
end K9

set_option maxHeartbeats 4000000
/-! Rules: data of ints, sorted of a list of alike data, sorted of a set of rows. -/
namespace K9
open PySem PySem.Spec L2
abbrev dRow (r : Row) : PyData := .tuple (r.map PyData.int)
abbrev dTab (rs : List Row) : PyData := .tuple (rs.map dRow)
theorem dpAll_ints (K : PySem.W.Frag) (H : Hp) : ∀ r : Row, DpAll K H (r.map V.int) (r.map PyData.int)
  | [] => .nil
  | x :: r => .cons (.int x) (dpAll_ints K H r)
theorem IsRow.dp {K : PySem.W.Frag} {H : Hp} {v : V} {r : Row} (h : IsRow H v r) : Dp K H v (dRow r) := by
  obtain ⟨p, rfl, q⟩ := h
  exact .tup (SqT.of q) (dpAll_ints K H r)
theorem Rows.dp {K : PySem.W.Frag} {H : Hp} : ∀ {vs : List V} {rs : List Row}, Rows H vs rs → DpAll K H vs (rs.map dRow)
  | _, _, .nil => .nil
  | _, _, .cons h t => .cons h.dp (Rows.dp t)
theorem TupRows.dp {K : PySem.W.Frag} {H : Hp} {v : V} {rs : List Row} (h : TupRows H v rs) : Dp K H v (dTab rs) := by
  obtain ⟨p, vs, rfl, q, r⟩ := h
  exact .tup (SqT.of q) r.dp
theorem alike_row (a b : Row) : PySem.W.alike (dRow a) (dRow b) = true := by
  show PySem.W.alikeAll (a.map PyData.int) (b.map PyData.int) = true
  exact PySem.W.alike_ints a b
theorem alike_rowsAll : ∀ a b : List Row, PySem.W.alikeAll (a.map dRow) (b.map dRow) = true
  | [], _ => by simp [PySem.W.alikeAll]
  | _ :: _, [] => by simp [PySem.W.alikeAll]
  | x :: a, y :: b => by
    show PySem.W.alikeAll (dRow x :: a.map dRow) (dRow y :: b.map dRow) = true
    rw [PySem.W.alikeAll, alike_row, alike_rowsAll a b]
    rfl
theorem alike_rows (a b : List Row) : PySem.W.alike (dTab a) (dTab b) = true := alike_rowsAll a b
theorem depth_row (a : Row) : PyData.depth (dRow a) ≤ 1 := by
  show PyData.depth (.tuple (a.map PyData.int)) ≤ 1
  rw [PyData.depth, PySem.W.depth_ints]
  exact Nat.le_refl _
theorem depth_rowsAll : ∀ a : List Row, PyData.depthAll (a.map dRow) ≤ 1
  | [] => by simp [PyData.depthAll]
  | x :: a => by
    show PyData.depthAll (dRow x :: a.map dRow) ≤ 1
    rw [PyData.depthAll]
    have h1 := depth_row x
    have h2 := depth_rowsAll a
    omega
theorem depth_rows (a : List Row) : PyData.depth (dTab a) ≤ 2 := by
  show PyData.depth (.tuple (a.map dRow)) ≤ 2
  rw [PyData.depth]
  have := depth_rowsAll a
  omega
/-! ### sorted(xs), xs a list of alike data -/
/-- xs's items stand for bs -/
def rSortD {β : Type} (K : PySem.W.Frag) (ref : β → V) (enc : β → PyData) : List V → Hp → VK → Prop := fun vs H Q => ∃ (a : Addr) (bs : List β), vs = [V.ref a] ∧ SqL K H a (bs.map ref) ∧ (∀ b ∈ bs, Dp K H (ref b) (enc b)) ∧
  PySem.W.Sortable (bs.map enc) ∧ (∀ b ∈ bs, (enc b).depth ≤ 8) ∧ ∀ q, H q = none → Q (.ref q) (upd H q (.lst ((bs.mergeSort (PySem.W.dataLe false enc)).map ref)))
theorem each_of {β : Type} {R : Value → β → Prop} {ref : β → V} (hR : ∀ b u, RelV (ref b) u → R u b) : ∀ {bs : List β} {us : List Value}, Vals (bs.map ref) us → PySem.W.EachIs R us bs
  | [], _, r => by
    rw [List.map_nil] at r
    cases r
    exact .nil
  | b :: bs, _, r => by
    rw [List.map_cons] at r
    cases r with
    | cons h t => exact .cons (hR b _ h) (each_of hR t)
theorem vals_each {β : Type} {ref : β → V} : ∀ {us : List Value} {bs : List β}, PySem.W.EachIs (fun u b => RelV (ref b) u) us bs → Vals (bs.map ref) us
  | _, _, .nil => .nil
  | _, _, .cons h t => .cons h (vals_each t)
theorem each_with {β : Type} {R : Value → β → Prop} {S : Value → β → Prop} : ∀ {us : List Value} {bs : List β}, PySem.W.EachIs R us bs → (∀ u b, b ∈ bs → R u b → S u b) → PySem.W.EachIs S us bs
  | _, _, .nil, _ => .nil
  | _, _, .cons h t, f => .cons (f _ _ List.mem_cons_self h) (each_with t fun u b hb => f u b (List.mem_cons_of_mem _ hb))
theorem cr_sortD {X : Cx} {β : Type} {ref : β → V} {enc : β → PyData} {k : Nat} (hr : Room k X.A) (hal : ∀ b b', PySem.W.alike (enc b) (enc b') = true) : CallR X (.builtin "sorted") (rSortD X.K ref enc) := by
  intro pins s σ H vs us Q I r h
  obtain ⟨a, bs, rfl, hs, hd, hk, hz8, q⟩ := h
  obtain ⟨its, rv, hl, hz⟩ := I.list hs
  rw [Vals.ref1 r]
  have e : PySem.W.EachIs (fun u b => RelV (ref b) u) its bs := each_of (fun _ _ z => z) rv
  have er : PySem.W.EachIs (fun u b => ∃ as, Reads s.heap u (enc b) as) its bs := each_with e fun u b hb z => Dp.reads I (enc b) (ref b) u (hd b hb) z
  have hun := hr.units
  refine PySem.W.sorted_data hl.isList e er (PySem.W.AllAlike.of hal) hk (by rw [← List.length_map (f := ref)]; exact hz) (fun b hb => by have := hz8 b hb; omega) fun out ho eo => ?_
  obtain ⟨ep, he⟩ := PyProof.Rows.sortedAll_at s.heap its out.toArray
  have rv2 := vals_each eo
  have hlen : ((bs.mergeSort (PySem.W.dataLe false enc)).map ref).length ≤ sizeLine := by
    rw [List.length_map, (List.mergeSort_perm _ _).length_eq, ← List.length_map (f := ref)]
    exact hz
  exact ⟨.ref (s.heap.objs.size + 1), upd H (s.heap.objs.size + 1) (.lst ((bs.mergeSort (PySem.W.dataLe false enc)).map ref)), I.laid (t' := s.toks) (fun _ _ => PyProof.Rows.sortedAll_old) (Nat.le_succ _) ⟨hlen, out, ep, rv2, he⟩, rfl, q _ (I.hok.fresh (Nat.le_succ _))⟩
/-- the order of rows, as data -/
theorem rowLe_eq {β : Type} (f : β → Row) : PySem.W.dataLe false (fun b => dRow (f b)) = fun p q => !decide (f q < f p) := by
  funext p q
  show (!PySem.W.dataLt (.tuple ((f q).map PyData.int)) (.tuple ((f p).map PyData.int))) = _
  rw [PySem.W.dataLt_tuple]
  exact congrArg (fun b => !b) (PySem.W.dataLt_ints (f q) (f p))
theorem sortable_rows {β : Type} (f : β → Row) {bs : List β} (h : ∀ b ∈ bs, f b ≠ []) : PySem.W.Sortable (bs.map fun b => dRow (f b)) := .inl fun d hd => by
  obtain ⟨b, hb, rfl⟩ := List.mem_map.mp hd
  cases e : f b with
  | nil => exact absurd e (h b hb)
  | cons x r => exact ⟨.int x, r.map PyData.int, rfl⟩
/-! ### sorted of a set of rows -/
theorem perm_map_inv {α β : Type} {f : α → β} {l m : List β} (p : l.Perm m) : ∀ L : List α, m = L.map f → ∃ L1 : List α, L1.Perm L ∧ l = L1.map f := by
  induction p with
  | nil =>
    intro L e
    cases L with
    | nil => exact ⟨[], List.Perm.refl _, rfl⟩
    | cons _ _ => cases e
  | cons x _ ih =>
    intro L e
    cases L with
    | nil => cases e
    | cons y L =>
      rw [List.map_cons] at e
      injection e with e1 e2
      obtain ⟨L1, h1, h2⟩ := ih L e2
      exact ⟨y :: L1, h1.cons y, by rw [List.map_cons, ← h2, e1]⟩
  | swap x y l =>
    intro L e
    match L, e with
    | a :: b :: L, e =>
      rw [List.map_cons, List.map_cons] at e
      injection e with e1 e2
      injection e2 with e2 e3
      exact ⟨b :: a :: L, List.Perm.swap a b L, by rw [List.map_cons, List.map_cons, ← e1, ← e2, ← e3]⟩
  | trans _ _ ih1 ih2 =>
    intro L e
    obtain ⟨L2, h1, h2⟩ := ih2 L e
    obtain ⟨L1, h3, h4⟩ := ih1 L2 h2
    exact ⟨L1, h3.trans h1, h4⟩
open PyProof.Rows in
theorem sorted_setR {P : Program} {w : World} {A : Around} {E : Value → Shared → Prop} {s : Shared} {a : Addr} {L : List (Addr × List Int)} {es : Array (Int × Value)} {ep : Nat} {t : SetTable} {Q : Value → Shared → Prop}
    (R : SetTR P w s.heap a L es ep t) (hh : A.handled = none) (hu : A.units + 64 < cLine) (hne : ∀ p ∈ L, p.2 ≠ [])
    (fin : ∀ s' p (out : List Value) (c : Nat) (L' : List (Addr × List Int)), (∀ b o, s.heap.get? b = some o → s'.heap.get? b = some o) → s'.gens = s.gens → s'.os = s.os → s.heap.objs.size ≤ p →
      s'.heap.get? p = some (seqObj "list" out.toArray c) → Vals (L'.map fun q => V.ref q.1) out → L'.Perm L → L'.Pairwise (fun q r => ¬ r.2 < q.2) → Q (.ref p) s') :
    wpAny (model P w) A (call (.builtin "sorted") [.ref a]) Q E s := by
  obtain ⟨o, ho, hex, hd⟩ := R.ob
  have hsz := R.size
  have hfew := R.few
  refine Calls.call_function_entry kind_sorted plain_sorted entry_sorted (args_sorted1 _) ?_
  unfold Builtin.«sorted»
  refine wpAny_bind (m := checkCount "sorted" 1 1 _) (wpAny_pure ?_)
  refine wpAny_bind (collect_set (A := A.in1) hh ⟨o, ho, hex.1, hd⟩ R.fits (by unfold scanBound; omega) R.tab.ris R.led fun s1 vs k1 hz g1 o1 pm => ?_)
  have hes : es.toList.map (·.2) = L.map fun q => Value.ref q.1 := by
    rw [R.rows]
    unfold rowsOf
    rw [List.map_map] <;> rfl
  rw [hes] at pm
  obtain ⟨L1, p1, rfl⟩ := perm_map_inv pm L rfl
  have hvl : L1.length < 64 := by rw [p1.length_eq]; exact hfew
  refine wpAny_bind (wpAny_newList ?_ (by rw [sizeLine_eq, List.length_map]; omega))
  have hoL : (s1.heap.push (seqObj "list" (L1.map fun q => Value.ref q.1).toArray 0)).get? s1.heap.objs.size = some (seqObj "list" (L1.map fun q => Value.ref q.1).toArray 0) := Heap.get?_push_size _ rfl
  have ref : ∀ q ∈ L1, ∃ as, Reads (s1.heap.push (seqObj "list" (L1.map fun q => Value.ref q.1).toArray 0)) (.ref q.1) (dRow q.2) as ∧ s1.heap.objs.size ∉ as := fun q hq => by
    obtain ⟨ot, its, n, h1, h2, h3, h4⟩ := R.tup q (p1.mem_iff.mp hq)
    have all : ∀ {r : List Int} {us : List Value}, IntsAre us r → ReadsAll (s1.heap.push (seqObj "list" (L1.map fun q => Value.ref q.1).toArray 0)) us (r.map PyData.int) [] := by
      intro r us z
      induction z with
      | nil => exact .nil
      | cons x t _ ih => exact .cons (as := []) (bs := []) (.int _ _) ih
    exact ⟨[], .tuple (Heap.get?_push_of_some _ (k1 _ _ h1)) h2 h3 (all (ints_of_items h4)), by simp⟩
  have er : PySem.W.EachIs (fun v b => ∃ as, Reads (s1.heap.push (seqObj "list" (L1.map fun q => Value.ref q.1).toArray 0)) v (dRow b.2) as ∧ s1.heap.objs.size ∉ as) (L1.map fun q => Value.ref q.1) L1 := by
    have go : ∀ M : List (Addr × List Int), (∀ q ∈ M, q ∈ L1) → PySem.W.EachIs (fun v b => ∃ as, Reads (s1.heap.push (seqObj "list" (L1.map fun q => Value.ref q.1).toArray 0)) v (dRow b.2) as ∧ s1.heap.objs.size ∉ as) (M.map fun q => Value.ref q.1) M := by
      intro M
      induction M with
      | nil => intro _; exact .nil
      | cons m M ih => intro hM; exact .cons (ref m (hM m List.mem_cons_self)) (ih fun q hq => hM q (List.mem_cons_of_mem _ hq))
    exact go L1 fun _ h => h
  have e1 : PySem.W.EachIs (fun v (b : Addr × List Int) => RelV (V.ref b.1) v) (L1.map fun q => Value.ref q.1) L1 := by
    have go : ∀ M : List (Addr × List Int), PySem.W.EachIs (fun v (b : Addr × List Int) => RelV (V.ref b.1) v) (M.map fun q => Value.ref q.1) M := by
      intro M
      induction M with
      | nil => exact .nil
      | cons m M ih => exact .cons rfl ih
    exact go L1
  refine wpAny_bind (wpAny_holding (PySem.W.list_sort_data (s := { s1 with heap := s1.heap.push (seqObj "list" (L1.map fun q => Value.ref q.1).toArray 0) }) (enc := fun b : Addr × List Int => dRow b.2) hoL e1 er (PySem.W.AllAlike.of fun b b' => alike_row b.2 b'.2) (sortable_rows (fun b : Addr × List Int => b.2) fun b hb => hne b (p1.mem_iff.mp hb)) (by rw [sizeLine_eq]; omega) (fun b hb => ?_) fun out l1 eo => ?_))
  · have := depth_row b.2
    show A.units + 1 + 1 + _ < _
    omega
  · obtain ⟨c, hc⟩ := sortedHeap_at (vs := L1.map fun q => Value.ref q.1) (out := out.toArray) hoL
    have pL : (L1.mergeSort (PySem.W.dataLe false fun b : Addr × List Int => dRow b.2)).Perm L := (List.mergeSort_perm _ _).trans p1
    have pw : (L1.mergeSort (PySem.W.dataLe false fun b : Addr × List Int => dRow b.2)).Pairwise (fun q r => ¬ r.2 < q.2) := by
      rw [rowLe_eq (fun b : Addr × List Int => b.2)]
      refine List.Pairwise.imp (fun {q r} z => by simpa using z) (List.pairwise_mergeSort (le := fun p q : Addr × List Int => !decide (q.2 < p.2)) (fun a b c x y => ?_) (fun a b => ?_) L1)
      · simp only [Bool.not_eq_true', decide_eq_false_iff_not] at x y ⊢
        exact List.not_lt.mpr (List.le_trans (List.not_lt.mp x) (List.not_lt.mp y))
      · simp only [Bool.or_eq_true, Bool.not_eq_true', decide_eq_false_iff_not]
        rcases List.le_total a.2 b.2 with z | z
        · exact .inl (List.not_lt.mpr z)
        · exact .inr (List.not_lt.mpr z)
    refine wpAny_pure ⟨_, rfl, fin _ s1.heap.objs.size out c _ (fun b u e => ?_) g1 o1 hz hc (vals_each eo) pL pw⟩
    have q := k1 b u e
    have hlt := Heap.lt_size q
    show (sortedHeap (s1.heap.push (seqObj "list" (L1.map fun q => Value.ref q.1).toArray 0)) s1.heap.objs.size (L1.map fun q => Value.ref q.1) out.toArray).get? b = some u
    rw [sortedHeap_old (Nat.ne_of_lt hlt) (by rw [size_push']; exact Nat.lt_succ_of_lt hlt)]
    exact Heap.get?_push_of_some _ q
theorem canLay_ints : ∀ r : Row, PyData.canLayAll0 (r.map PyData.int) = true
  | [] => by simp [PyData.canLayAll0]
  | x :: r => by
    rw [List.map_cons, PyData.canLayAll0, canLay_ints r]
    simp [PyData.canLay0]
theorem canLay_rows : ∀ rs : List Row, PyData.canLayAll0 (rs.map dRow) = true
  | [] => by simp [PyData.canLayAll0]
  | x :: r => by
    rw [List.map_cons, PyData.canLayAll0, canLay_rows r]
    simp [dRow, PyData.canLay0, canLay_ints]
theorem canLay_tabs : ∀ rs : List (List Row), PyData.canLayAll0 (rs.map dTab) = true
  | [] => by simp [PyData.canLayAll0]
  | x :: r => by
    rw [List.map_cons, PyData.canLayAll0, canLay_tabs r]
    simp [dTab, PyData.canLay0, canLay_rows]
theorem shaped_row (r : Row) : SeqAt.shaped (dRow r) = true := by
  have := depth_row r
  have e : (dRow r).canLay0 = true := by
    show PyData.canLay0 (.tuple _) = true
    simp only [PyData.canLay0]
    exact canLay_ints r
  unfold SeqAt.shaped
  rw [e]
  simp
  omega
theorem shaped_tab (r : List Row) : SeqAt.shaped (dTab r) = true := by
  have := depth_rows r
  have e : (dTab r).canLay0 = true := by
    show PyData.canLay0 (.tuple _) = true
    simp only [PyData.canLay0]
    exact canLay_rows r
  unfold SeqAt.shaped
  rw [e]
  simp
  omega
theorem eqv_ints : ∀ a b : Row, PyData.eqvAll (a.map PyData.int) (b.map PyData.int) = decide (a = b)
  | [], [] => rfl
  | [], _ :: _ => rfl
  | _ :: _, [] => rfl
  | x :: a, y :: b => by
    rw [List.map_cons, List.map_cons, PyData.eqvAll, eqv_ints a b]
    by_cases e : x = y <;> by_cases e2 : a = b <;> simp [PyData.eqv, e, e2]
theorem eqv_row (a b : Row) : PyData.eqv (dRow a) (dRow b) = decide (a = b) := by
  show PyData.eqv (.tuple _) (.tuple _) = _
  rw [PyData.eqv]
  exact eqv_ints a b
theorem eqv_rows : ∀ a b : List Row, PyData.eqvAll (a.map dRow) (b.map dRow) = decide (a = b)
  | [], [] => rfl
  | [], _ :: _ => rfl
  | _ :: _, [] => rfl
  | x :: a, y :: b => by
    rw [List.map_cons, List.map_cons, PyData.eqvAll, eqv_rows a b, eqv_row]
    by_cases e : x = y <;> by_cases e2 : a = b <;> simp [e, e2]
theorem eqv_tab (a b : List Row) : PyData.eqv (dTab a) (dTab b) = decide (a = b) := by
  show PyData.eqv (.tuple _) (.tuple _) = _
  rw [PyData.eqv]
  exact eqv_rows a b
end K9

set_option maxHeartbeats 4000000
/-! Rules: sets of ints and of rows, tuple.index, setdefault with flat and with nested tuple keys. -/
namespace K9
open PySem PySem.Spec L2 PyProof.Rows
section
variable {X : Cx}
/-- sorted(set of rows) -/
def rSortedSR (K : PySem.W.Frag) (P : Program) (w : World) : List V → Hp → VK → Prop := fun vs H Q => ∃ (a : Addr) (L : List (Addr × List Int)), vs = [V.ref a] ∧ H a = some (SetTO P w a L) ∧ (∀ p ∈ L, SqT K H p.1 (p.2.map V.int)) ∧ (∀ p ∈ L, p.2 ≠ []) ∧
  ∀ (L' : List (Addr × List Int)) (q : Addr), L'.Perm L → (L'.map (·.2)).Nodup → L'.Pairwise (fun x y => ¬ y.2 < x.2) → H q = none → Q (.ref q) (upd H q (.lst (L'.map fun x => V.ref x.1)))
theorem cr_sortedSR {k : Nat} (hc : X.calm = true) (hr : Room k X.A) : CallR X (.builtin "sorted") (rSortedSR X.K X.prog X.w) := by
  intro pins s σ H vs us Q I r h
  obtain ⟨a, L, rfl, ha, hk, hne, q⟩ := h
  have R0 : SetT0 X.prog X.w s.heap a L := (I.hok a _ ha).1
  obtain ⟨es, ep, t, R⟩ := R0.full fun p hp => I.isT (hk p hp)
  rw [Vals.ref1 r]
  refine sorted_setR R (I.ok.hd hc) hr.units hne fun s' p out c L' k g o hp hg hv pm pw => ?_
  have hfew : L'.length < 64 := by rw [pm.length_eq]; exact R.few
  have hlen : (L'.map fun q => V.ref q.1).length ≤ sizeLine := by rw [List.length_map, sizeLine_eq]; omega
  have hn : H p = none := I.hok.fresh hp
  obtain ⟨hs, gs, ds, ts, os⟩ := s'
  obtain rfl : os = s.os := o
  have J : Inv X pins σ (upd H p (.lst (L'.map fun q => V.ref q.1))) { s with heap := hs, gens := gs, drawn := ds, toks := ts } :=
    I.call (ch := []) (Un.laid k hp hn) (I.hok.laid k hp ⟨hlen, out, c, hv, hg⟩) (by rw [show gs = s.gens from g]; exact I.bare) fun _ z => nomatch z
  exact ⟨.ref p, _, J, rfl, q L' p pm ((pm.map (·.2)).nodup_iff.mpr R.nd) pw hn⟩
/-- set(t), t a tuple of ints -/
def rSetI (K : PySem.W.Frag) (w : World) : List V → Hp → VK → Prop := fun vs H Q => ∃ (p : Addr) (ns : List Int), vs = [V.ref p] ∧ SqT K H p (ns.map V.int) ∧ ns.length ≤ 1000 ∧
  ∀ (q : Addr) (c : Nat), H q = none → c ≤ ns.length → Q (.ref q) (upd H q (SetO w q (fun j => decide (j ∈ ns)) c))
theorem cr_setI (hc : X.calm = true) : CallR X (.type "set") (rSetI X.K X.w) := by
  intro pins s σ H vs us Q I r h
  obtain ⟨p, ns, rfl, hs, hl, q⟩ := h
  obtain ⟨its, rv, ht, hz⟩ := I.tuple hs
  rw [Vals.ref1 r]
  refine call_set_tupI (P := X.prog) (w := X.w) ns (I.ok.hd hc) ht (by simpa using rv.ints) (by unfold scanBound; omega) fun h' tk c R hcl k => ?_
  exact ⟨.ref s.heap.objs.size, upd H s.heap.objs.size (SetO X.w s.heap.objs.size (fun j => decide (j ∈ ns)) c), I.laid (t' := tk) k (Nat.le_refl _) (setO_new R), rfl, q _ c (I.hok.fresh (Nat.le_refl _)) hcl⟩
/-- t.index(k) -/
def rTupIx (K : PySem.W.Frag) : V → List V → Hp → VK → Prop := fun x xs H Q => ∃ (p : Addr) (ns : List Int) (k : Int), x = .ref p ∧ xs = [.int k] ∧ SqT K H p (ns.map V.int) ∧ k ∈ ns ∧ Q (.int (ns.idxOf k : Nat)) H
theorem mt_tupIx : MtR X "tuple.index" (rTupIx X.K) := by
  intro pins s σ H x xs v us Q I rx rs h
  obtain ⟨p, ns, k, rfl, rfl, hs, hk, q⟩ := h
  cases rx
  obtain ⟨u, rfl, t, rfl⟩ := vals1 rs
  obtain ⟨its, rv, ht, hz⟩ := I.tuple hs
  exact PySem.SeqAt.tuple_index_ints (vs := its) ht rv.ints hk ⟨.int (ns.idxOf k : Nat), H, I.tok _, ⟨_, rfl⟩, q⟩
/-- t.index(k), t a tuple that is known to have no dict -/
def tTupIx (to te : TE) : TE := fun σ H Q => to σ H fun x H1 => ∃ (p : Addr) (n : Nat), x = .ref p ∧ ColT H1 p n ∧ te σ H1 fun y H2 => ∃ k : Int, y = .int k ∧ ColT H2 p n ∧ k ∈ colz n ∧ Q (.int ((colz n).idxOf k : Nat)) H2
theorem pe_tupIx {o e : Expr} {to te : TE} {apos cpos : Pos} (ho : PE X o to) (he : PE X e te) (m : M1 X o "index" apos e cpos) : PE X (.Call (.Attribute o "index" apos) [e] [] cpos) (tTupIx to te) := by
  refine ⟨fun pins s σ H Q I h => ?_⟩
  refine wpAny_Call_method m.base m.few m.line PySem.F.plainAttrs_tuple PySem.F.slot_tuple_index PySem.F.type_tuple_index (thn (ho.run pins s σ H _ I h) fun u s1 hh => ?_)
  obtain ⟨x, H1, I1, rx, p, n, ex, hc, q1⟩ := hh
  subst ex
  obtain rfl : u = Value.ref p := rx
  obtain ⟨ob, nd, hp⟩ := hc
  obtain ⟨hg, hz, its, rv, ob', g1, g2, _⟩ := (show ObjOk X.prog X.w H1 s1.heap p (.frz ob (.tup ((colz n).map V.int))) from I1.hok p _ hp)
  rw [hg] at g1
  cases g1
  refine ⟨⟨_, hg, g2⟩, fun b q => by cases q; exact ⟨_, hg, nd⟩, ?_⟩
  rw [m.trees]
  refine Calls.callWith_builtin rfl (Calls.evalArgs_plain (Calls.spliced_cons (thn (he.run pins s1 σ H1 _ I1 q1) fun iv s2 hh => Calls.spliced_nil ?_)))
  obtain ⟨y, H2, I2, ry, k, ey, hc2, hk, q2⟩ := hh
  subst ey
  exact mt_tupIx pins s2 σ H2 (.ref p) [.int k] (.ref p) [iv] Q I2 rfl (.cons ry .nil) ⟨p, colz n, k, rfl, rfl, hc2.sq, hk, q2⟩
/-- tuple(range(..)), the new tuple frozen -/
def tTupRgF (te : L2.St → Hp → (Int → Int → Hp → Prop) → Prop) : TE := fun σ H Q => te σ H fun a b H1 => RgOk a b ∧ ∀ (q : Addr) (o : Obj), o.dict = none → H1 q = none → Q (.ref q) (upd H1 q (.frz o (.tup (rgV a b))))
theorem pe_tupRgF {e : Expr} {te : L2.St → Hp → (Int → Int → Hp → Prop) → Prop} {p pos : Pos} (hc : X.calm = true) (hg : Gl X "tuple") (hm : X.mg "tuple" = none) (he : PRg X e te) (na : starEach [e] X.env = (false, eval e X.env) :: starEach [] X.env := by rfl) : PE X (.Call (.Name "tuple" p) [e] [] pos) (tTupRgF te) := by
  refine ⟨fun pins s σ H Q I h => ?_⟩
  refine Call_ (ld_blt I hg hm boot_tuple (PyProof.Rows.callWith_type1 (args_cons (thn (he pins s σ H _ I h) fun x s1 hh => args_nil ?_) na) na))
  obtain ⟨r, a, b, t, u, v, H1, ex, hr, I1, ok, q⟩ := hh
  subst ex
  obtain ⟨b1, b2, b3, b4, b5⟩ := ok
  refine call_tuple_range (n := (b - a).toNat) (I1.ok.hd hc) hr (small_one b1 b2 b3 b4) (rangeSize_nat a b) b5 fun h' tk acc hk hi => ?_
  have I2 : Inv X pins σ H1 { s1 with heap := h', toks := tk } := I1.kept hk
  refine ⟨.ref h'.objs.size, upd H1 h'.objs.size (.frz { cls := .type "tuple", data := .seq acc } (.tup (rgV a b))), I2.laid (t' := tk) (fun c o e => Heap.get?_push_of_some _ e) (Nat.le_refl _) (show ObjOk X.prog X.w _ _ _ (.frz { cls := .type "tuple", data := .seq acc } (.tup (rgV a b))) from ⟨Heap.get?_push_size _ rfl, ?_, acc.toList, vals_rg hi, ?_⟩), rfl, q _ _ rfl (I2.hok.fresh (Nat.le_refl _))⟩
  · rw [rgV_length, sizeLine_eq]; omega
  · rw [Array.toArray_toList]; exact IsTup.new _ _
end
/-! ### d.setdefault(k, x), keys flat tuples -/
def tSetdT (td ty tx : TE) : TE := fun σ H Q => td σ H fun x H1 => ∃ a, x = .ref a ∧ IsD H1 a ∧ ty σ H1 fun y H2 => tx σ H2 fun z H3 => ∃ (kvs : List (List L2.Key × V)) (k : List L2.Key) (b : Addr), H3 a = some (.dT kvs) ∧ y = .ref b ∧ H3 b = some (.tup (k.map kV)) ∧ kvs.length < sizeLine ∧
  (∀ v, valV kvs k = some v → Q v H3) ∧ (valV kvs k = none → Q z (upd H3 a (.dT (putK kvs k z))))
section
variable {X : Cx} {o e f : Expr} {td ty tx : TE} {apos cpos : Pos}
theorem pe_setdT (hu : X.A.units + 1 < cLine) (ho : PE X o td) (he : PE X e ty) (hf : PE X f tx) (m : M2 X o "setdefault" apos e f cpos) : PE X (.Call (.Attribute o "setdefault" apos) [e, f] [] cpos) (tSetdT td ty tx) := by
  refine ⟨fun pins s σ H Q I h => ?_⟩
  refine wpAny_Call_method m.base m.few m.line PySem.F.plainAttrs_dict PySem.F.slot_dict_setdefault PySem.F.type_dict_setdefault (thn (ho.run pins s σ H _ I h) fun u s1 hh => ?_)
  obtain ⟨x, H1, I1, rx, a, ex, d, q1⟩ := hh
  subst ex
  obtain rfl : u = Value.ref a := rx
  obtain ⟨t1, t2, _⟩ := isD_at I1 d
  refine ⟨t1, t2, ?_⟩
  rw [m.trees]
  refine Calls.callWith_builtin rfl (Calls.evalArgs_plain (Calls.spliced_cons (thn (he.run pins s1 σ H1 _ I1 q1) fun iv s2 hh => ?_)))
  obtain ⟨y, H2, I2, ry, q2⟩ := hh
  refine Calls.spliced_cons (thn (hf.run pins s2 σ H2 _ I2 q2) fun fv s3 hh => Calls.spliced_nil ?_)
  obtain ⟨z, H3, I3, rz, kvs, k, b, ea, ey, eb, hl, q3, q4⟩ := hh
  subst ey
  obtain rfl : iv = Value.ref b := ry
  obtain ⟨zl, hd, xs, rel, dd⟩ := dt_of I3.hok ea
  have hz : xs.length ≤ sizeLine := by rw [← Paired.length rel]; exact zl
  refine call_setdefault_heap (hsz := hz) (tupleKind_room_in1 hu) (key_of I3.hok eb) hd dd (fun p hp => ?_) fun hn h' dd' hs => ?_
  · have q := rel.val k
    rw [hp, Option.map_some] at q
    cases q0 : valV kvs k with
    | none => rw [q0] at q; exact (show False from q).elim
    | some v0 =>
      rw [q0] at q
      exact ⟨v0, H3, I3.tok _, q, q3 v0 q0⟩
  · have q := rel.val k
    rw [hn, Option.map_none] at q
    cases q0 : valV kvs k with
    | some v0 => rw [q0] at q; exact (show False from q).elim
    | none =>
      refine ⟨z, upd H3 a (.dT (putK kvs k z)), ?_, rz, q4 q0⟩
      have hl2 : (putK kvs k z).length ≤ sizeLine := by have := length_putK kvs k z; omega
      obtain ⟨ob, es, ep, hq, h2, h3, h4, _, h5⟩ := dd'
      refine d_write I3 (by rw [ea]; exact True.intro) hs ⟨ob, hq⟩ ⟨hl2, hd, _, (rel.put k eb rz).keeps fun c ys ec => ?_, ob, es, ep, hq, h2, h3, h4, h5⟩
      rw [upd_ne (ne_of ec ea (fun z => nomatch z))]
      exact ec
end
end K9

set_option maxHeartbeats 4000000
/-! A dict whose keys are tuples of pairs (0, x), its values ints: made, setdefault. -/
namespace K9
open PySem PySem.Spec L2 PyProof.Rows
/-- the key of a row of pairs -/
def nkey (r : Row) : NestedKey := .tup (r.map fun x => .tup [.num 0, .num x])
theorem nkey_inj {a b : Row} (h : nkey a = nkey b) : a = b := by
  unfold nkey at h
  injection h with h
  have go : ∀ a b : Row, a.map (fun x => NestedKey.tup [.num 0, .num x]) = b.map (fun x => NestedKey.tup [.num 0, .num x]) → a = b := by
    intro a
    induction a with
    | nil => intro b e; cases b with
      | nil => rfl
      | cons _ _ => simp at e
    | cons x a ih => intro b e; cases b with
      | nil => simp at e
      | cons y b =>
        rw [List.map_cons, List.map_cons] at e
        injection e with e1 e2
        injection e1 with e1
        injection e1 with _ e3
        injection e3 with e3 _
        injection e3 with e3
        rw [e3, ih b e2]
  exact go a b h
theorem nkey_depthAll : ∀ r : Row, NestedKey.depthAll (r.map fun x => NestedKey.tup [.num 0, .num x]) ≤ 2
  | [] => by simp [NestedKey.depthAll]
  | x :: r => by
    rw [List.map_cons, NestedKey.depthAll]
    have := nkey_depthAll r
    simp [NestedKey.depth, NestedKey.depthAll] at this ⊢
    omega
theorem nkey_depth (r : Row) : (nkey r).depth ≤ 8 := by
  unfold nkey
  rw [NestedKey.depth]
  have := nkey_depthAll r
  omega
/-- p is a tuple of pairs (0, x), x in r -/
def PairRow (H : Hp) (p : Addr) (r : Row) : Prop := ∃ vs, H p = some (.tup vs) ∧ Paired (fun v x => IsRow H v [0, x]) vs r
theorem PairRow.sk {H H' : Hp} {p : Addr} {r : Row} (h : PairRow H p r) (k : SK H H') : PairRow H' p r := by
  obtain ⟨vs, e, q⟩ := h
  exact ⟨vs, k _ _ e rfl, Paired.mapP q fun _ _ z => z.sk k⟩
/-- where the key stands, what is held -/
abbrev NEnt : Type := Row × Addr × Int
abbrev NRel : List NEnt → List (NestedKey × Addr × Value) → Prop := Paired fun x y => y.1 = nkey x.1 ∧ y.2.1 = x.2.1 ∧ RelV (.int x.2.2) y.2.2
def NDict (P : Program) (w : World) (a : Addr) (xs : List NEnt) : HO := .ext fun h => xs.length ≤ sizeLine ∧ (a == sysModules) = false ∧ ∃ ys, NRel xs ys ∧
  ∃ o es ep, h.get? a = some o ∧ o.ExactDict ∧ o.data = .dict es ep ∧ es.toList = ys.map (entryOfKey (nestedKind P w)) ∧ (ys.map (·.1)).Nodup
section
variable {X : Cx} {pins : List (Addr × Obj)} {σ : L2.St} {H : Hp} {s : Shared}
theorem ndict_ok {P : Program} {w : World} {H : Hp} {h : Heap} {a : Addr} {xs : List NEnt} {ys : List (NestedKey × Addr × Value)} {o : Obj} {es : Array DictEntry} {ep : Nat} (hl : xs.length ≤ sizeLine) (hd : (a == sysModules) = false) (r : NRel xs ys)
    (ho : h.get? a = some o) (h1 : o.ExactDict) (h2 : o.data = .dict es ep) (h3 : es.toList = ys.map (entryOfKey (nestedKind P w))) (h4 : (ys.map (·.1)).Nodup) : ObjOk P w H h a (NDict P w a xs) :=
  ⟨⟨hl, hd, ys, r, o, es, ep, ho, h1, h2, h3, h4⟩, ⟨o, ho⟩, fun g1 g2 z k => by
    obtain ⟨l, d, zs, r, o, es, ep, ho, q⟩ := z
    exact ⟨l, d, zs, r, o, es, ep, k _ ho, q⟩⟩
theorem ndict_at {a : Addr} {xs : List NEnt} (I : Inv X pins σ H s) (e : H a = some (NDict X.prog X.w a xs)) : xs.length ≤ sizeLine ∧ (a == sysModules) = false ∧ ∃ ys, NRel xs ys ∧
    ∃ o es ep, s.heap.get? a = some o ∧ o.ExactDict ∧ o.data = .dict es ep ∧ es.toList = ys.map (entryOfKey (nestedKind X.prog X.w)) ∧ (ys.map (·.1)).Nodup := by
  have x : ObjOk X.prog X.w H s.heap a (NDict X.prog X.w a xs) := I.hok a _ e
  exact x.1
theorem nested_row (I : Inv X pins σ H s) {v : V} {u : Value} {x : Int} (h : IsRow H v [0, x]) (r : RelV v u) : NestedIs s.heap (.tup [.num 0, .num x]) u := by
  obtain ⟨p, rfl, q⟩ := h
  obtain rfl : u = Value.ref p := r
  obtain ⟨_, its, rv, ob, e1, e2, n, e3⟩ := (show ObjOk X.prog X.w H s.heap p (.tup [V.int 0, V.int x]) from I.hok p _ q)
  obtain ⟨u1, u2, rfl, r1, r2⟩ := vals2 rv
  obtain ⟨t1, rfl⟩ := r1
  obtain ⟨t2, rfl⟩ := r2
  exact .tup e1 e2 e3 (.cons (.int 0 t1) (.cons (.int x t2) .nil))
theorem nested_go (I : Inv X pins σ H s) : ∀ (vs : List V) (r : Row), Paired (fun v x => IsRow H v [0, x]) vs r → ∀ its, Vals vs its → NestedAll s.heap (r.map fun x => NestedKey.tup [.num 0, .num x]) its
  | _, _, .nil, _, .nil => .nil
  | _, _, .cons h t, _, .cons r1 r2 => .cons (nested_row I h r1) (nested_go I _ _ t _ r2)
theorem nested_pairs (I : Inv X pins σ H s) {p : Addr} {r : Row} (h : PairRow H p r) : (nestedKind X.prog X.w).is s.heap (nkey r) p := by
  obtain ⟨vs, q, pr⟩ := h
  obtain ⟨_, its, rv, ob, e1, e2, n, e3⟩ := (show ObjOk X.prog X.w H s.heap p (.tup vs) from I.hok p _ q)
  refine ⟨.tup e1 e2 e3 ?_, nkey_depth r⟩
  show NestedAll s.heap (r.map fun x => NestedKey.tup [.num 0, .num x]) its
  exact nested_go I vs r pr its rv
theorem ndict_full {a : Addr} {xs : List NEnt} {ys : List (NestedKey × Addr × Value)} (I : Inv X pins σ H s) (r : NRel xs ys) (hk : ∀ x ∈ xs, PairRow H x.2.1 x.1) : ∀ y ∈ ys, (nestedKind X.prog X.w).is s.heap y.1 y.2.1 := by
  induction r with
  | nil => intro y hy; cases hy
  | cons h t ih =>
    intro y hy
    rcases List.mem_cons.mp hy with rfl | hy
    · rw [h.1, h.2.1]
      exact nested_pairs I (hk _ List.mem_cons_self)
    · exact ih (fun x hx => hk x (List.mem_cons_of_mem _ hx)) y hy
theorem NRel.find {r : Row} : ∀ {xs : List NEnt} {ys : List (NestedKey × Addr × Value)}, NRel xs ys → (∀ p, atKey ys (nkey r) = some p → ∃ x ∈ xs, x.1 = r ∧ RelV (.int x.2.2) p.2) ∧ (atKey ys (nkey r) = none → ∀ x ∈ xs, x.1 ≠ r)
  | _, _, .nil => ⟨fun p h => by simp [atKey] at h, fun _ x hx => by cases hx⟩
  | x :: xs, y :: ys, .cons h t => by
    obtain ⟨a1, a2⟩ := NRel.find (r := r) t
    by_cases e : x.1 = r
    · have e1 : y.1 = nkey r := by rw [h.1, e]
      have e2 : atKey (y :: ys) (nkey r) = some y.2 := by simp [atKey, e1]
      rw [e2]
      refine ⟨fun p hp => ?_, fun z => by cases z⟩
      cases hp
      exact ⟨x, List.mem_cons_self, e, h.2.2⟩
    · have e1 : ¬ y.1 = nkey r := fun z => e (nkey_inj (h.1.symm.trans z))
      have e2 : atKey (y :: ys) (nkey r) = atKey ys (nkey r) := by simp [atKey, e1]
      rw [e2]
      refine ⟨fun p hp => ?_, fun z q hq => ?_⟩
      · obtain ⟨q, q1, q2⟩ := a1 p hp
        exact ⟨q, List.mem_cons_of_mem _ q1, q2⟩
      · rcases List.mem_cons.mp hq with rfl | hq
        · exact e
        · exact a2 z q hq
/-- {} -/
theorem pe_newN {pos : Pos} : PE X (.Dict [] [] pos) (fun _ H Q => ∀ p, H p = none → Q (.ref p) (upd H p (NDict X.prog X.w p []))) := ⟨fun pins s σ H Q I h => by
  have nb : (s.heap.objs.size == sysModules) = false := beq_eq_false_iff_ne.mpr (Ne.symm (Nat.ne_of_lt I.big))
  have new : ObjOk X.prog X.w (upd H s.heap.objs.size (NDict X.prog X.w s.heap.objs.size [])) (s.heap.push { cls := .type "dict", data := .dict #[] }) s.heap.objs.size (NDict X.prog X.w s.heap.objs.size []) :=
    ndict_ok (ys := []) (Nat.zero_le _) nb .nil (Heap.get?_push_size _ rfl) ⟨rfl, rfl, rfl⟩ rfl rfl List.nodup_nil
  exact wpAny_Dict_empty ⟨.ref s.heap.objs.size, _, I.laid (a := s.heap.objs.size) (t' := s.toks) (fun _ _ q => Heap.get?_push_of_some _ q) (Nat.le_refl _) new, rfl, h _ (I.hok.fresh (Nat.le_refl _))⟩⟩
def tSetdN (P : Program) (w : World) (td ty tx : TE) : TE := fun σ H Q => td σ H fun x H1 => ∃ (a : Addr) (xs0 : List NEnt), x = .ref a ∧ H1 a = some (NDict P w a xs0) ∧ ty σ H1 fun y H2 => tx σ H2 fun z H3 => ∃ (xs : List NEnt) (r : Row) (b : Addr) (i : Int), H3 a = some (NDict P w a xs) ∧ y = .ref b ∧ z = .int i ∧ PairRow H3 b r ∧
  (∀ x ∈ xs, PairRow H3 x.2.1 x.1) ∧ xs.length < sizeLine ∧ (∀ x ∈ xs, x.1 = r → Q (.int x.2.2) H3) ∧ ((∀ x ∈ xs, x.1 ≠ r) → Q (.int i) (upd H3 a (NDict P w a (xs ++ [(r, b, i)]))))
theorem pe_setdN {o e f : Expr} {td ty tx : TE} {apos cpos : Pos} {k : Nat} (hr : Room k X.A) (ho : PE X o td) (he : PE X e ty) (hf : PE X f tx) (m : M2 X o "setdefault" apos e f cpos) : PE X (.Call (.Attribute o "setdefault" apos) [e, f] [] cpos) (tSetdN X.prog X.w td ty tx) := by
  refine ⟨fun pins s σ H Q I h => ?_⟩
  refine wpAny_Call_method m.base m.few m.line PySem.F.plainAttrs_dict PySem.F.slot_dict_setdefault PySem.F.type_dict_setdefault (thn (ho.run pins s σ H _ I h) fun u s1 hh => ?_)
  obtain ⟨x, H1, I1, rx, a, xs0, ex, ea0, q1⟩ := hh
  subst ex
  obtain rfl : u = Value.ref a := rx
  obtain ⟨_, _, ys0, _, o0, es0, ep0, ho0, hx0, hd0, _⟩ := ndict_at I1 ea0
  refine ⟨⟨_, ho0, hx0.1⟩, fun b q => by cases q; exact ⟨_, ho0, hx0.2.1⟩, ?_⟩
  rw [m.trees]
  refine Calls.callWith_builtin rfl (Calls.evalArgs_plain (Calls.spliced_cons (thn (he.run pins s1 σ H1 _ I1 q1) fun iv s2 hh => ?_)))
  obtain ⟨y, H2, I2, ry, q2⟩ := hh
  refine Calls.spliced_cons (thn (hf.run pins s2 σ H2 _ I2 q2) fun fv s3 hh => Calls.spliced_nil ?_)
  obtain ⟨z, H3, I3, rz, xs, r, b, i, ea, ey, ez, hp, hk, hl, q3, q4⟩ := hh
  subst ey
  subst ez
  obtain rfl : iv = Value.ref b := ry
  obtain ⟨zl, hd, ys, rel, ob, es, ep, h1, h2, h3, h4, h5⟩ := ndict_at I3 ea
  have dd : s3.heap.DictOfH (nestedKind X.prog X.w) a ys := ⟨ob, es, ep, h1, h2, h3, h4, ndict_full I3 (a := a) rel hk, h5⟩
  have hz : ys.length ≤ sizeLine := by rw [← Paired.length rel]; exact zl
  have room : (nestedKind X.prog X.w).room X.A.in1 := by
    have := hr.units
    show X.A.units + 1 + 8 < cLine
    omega
  obtain ⟨f1, f2⟩ := NRel.find (r := r) rel
  refine call_setdefault_heap (hsz := hz) room (nested_pairs I3 hp) hd dd (fun p hp => ?_) fun hn h' dd' hs => ?_
  · obtain ⟨x, hx, e, rp⟩ := f1 p hp
    exact ⟨.int x.2.2, H3, I3.tok _, rp, q3 x hx e⟩
  · refine ⟨.int i, upd H3 a (NDict X.prog X.w a (xs ++ [(r, b, i)])), ?_, rz, q4 (f2 hn)⟩
    obtain ⟨o', es', ep', g1, g2, g3, g4, _, g5⟩ := dd'
    have e1 : storedH ys (nkey r) b fv = ys ++ [(nkey r, b, fv)] := by
      unfold storedH
      rw [hn]
      rfl
    rw [e1] at g4 g5
    refine d_write I3 (by rw [ea]; exact True.intro) hs ⟨o', g1⟩ (ndict_ok (ys := ys ++ [(nkey r, b, fv)]) ?_ hd (Paired.snoc rel ⟨rfl, rfl, rz⟩) g1 g2 g3 g4 g5)
    rw [List.length_append]
    show xs.length + 1 ≤ sizeLine
    omega
end
end K9

set_option maxHeartbeats 4000000
/-! What the walks stand on: the names and classes of the module, comprehensions whose items make nothing. -/
namespace K9
open PySem L2
abbrev FnP (K : PySem.W.Frag) (x qual : Str) (st : Stmt) (f : Addr) (fd : FuncData) : Prop := FunD K x qual (defArgs st) (defBody st) (defScope st) [] [] f fd
abbrev aS (K : PySem.W.Frag) : Addr := He.ga K "Store"
abbrev aT (K : PySem.W.Frag) : Addr := He.ga K "Table"
abbrev aF (K : PySem.W.Frag) : Addr := He.ga K "Fd"
abbrev aC (K : PySem.W.Frag) : Addr := He.ga K "StateChase"
structure E9 (K : PySem.W.Frag) (mg : Str → Option Value) : Prop where
  cS : Cls K (aS K)
  cT : Cls K (aT K)
  cF : Cls K (aF K)
  cC : Cls K (aC K)
  iT : C8.InsC K (aT K)
  iF : C8.InsC K (aF K)
  gS : mg "Store" = some (.ref (aS K))
  gT : mg "Table" = some (.ref (aT K))
  gF : mg "Fd" = some (.ref (aF K))
  gC : mg "StateChase" = some (.ref (aC K))
  sCount : NoAttr K (aS K) "count"
  sDeps : NoAttr K (aS K) "dependencies"
  sHeld : NoAttr K (aS K) "held"
  sIdx : NoAttr K (aS K) "indexes"
  sChg : NoAttr K (aS K) "changes"
  fL : NoAttr K (aF K) "left"
  fR : NoAttr K (aF K) "right"
  tC : NoAttr K (aT K) "columns"
  tR : NoAttr K (aT K) "rows"
  cDeps : NoAttr K (aC K) "dependencies"
  cRows : NoAttr K (aC K) "rows"
  cSteps : NoAttr K (aC K) "steps"
  cClash : NoAttr K (aC K) "has_clash"
  tup : mg "tuple" = none
  enu : mg "enumerate" = none
  srt : mg "sorted" = none
  lis : mg "list" = none
  len : mg "len" = none
  set : mg "set" = none
  rng : mg "range" = none
  all : mg "all" = none
  any : mg "any" = none
  isi : mg "isinstance" = none
  rev : mg "reversed" = none
/-- what a comprehension's items are, some left out -/
theorem filterMap_take {α : Type} (fs : List (Option α)) (i : Nat) (r : Option α) (h : fs[i]? = some r) : (fs.take (i + 1)).filterMap id = (fs.take i).filterMap id ++ r.toList := by
  obtain ⟨hi, e⟩ := List.getElem?_eq_some_iff.mp h
  rw [List.take_succ, h, List.filterMap_append]
  cases r <;> rfl
theorem getOpt {α β : Type} {xs : List α} {ys : List β} (h : ys.length = xs.length) {i : Nat} {x : α} (e : xs[i]? = some x) : ∃ y, ys[i]? = some y := by
  obtain ⟨hi, _⟩ := List.getElem?_eq_some_iff.mp e
  exact ⟨_, List.getElem?_eq_getElem (h ▸ hi)⟩
/-- what one turn must do: r the item it makes, if any -/
def TurnP (tt : TT) (te : TE) (σ : L2.St) (H : Hp) (r : Option V) : Prop := (r = none → ∀ Q : Bool → Hp → Prop, Q false H → tt σ H Q) ∧ ∀ y, r = some y → (∀ Q : Bool → Hp → Prop, Q true H → tt σ H Q) ∧ ∀ Q : VK, Q y H → te σ H Q
section
variable {K : PySem.W.Frag} {a : Addr} {xs : List V} {tt : TT} {te : TE} {vs : List Nat} {j : Nat} {σ : L2.St} {H1 : Hp} {D : Addr} {Qd : Hp → Prop}
theorem lc_pure {fs : List (Option V)} (hD : H1 D = none) (hlen : fs.length = xs.length) (hz : fs.length < sizeLine) (hw : ∀ x, wipe ((wipe σ vs).set j (some x)) vs = wipe σ vs)
    (hs : ∀ (i : Nat) (x : V) (r : Option V), xs[i]? = some x → fs[i]? = some r → ∀ H, Ext H1 H → TurnP tt te ((wipe σ vs).set j (some x)) H r)
    (i : Nat) (x : V) (H : Hp) (hx : xs[i]? = some x) (p : H = upd H1 D (.lst ((fs.take i).filterMap id))) :
    gName j x (wipe σ vs) H fun σ2 H2 => wipe σ2 vs = wipe σ vs ∧ tt σ2 H2 fun b H3 =>
      if b = true then te σ2 H3 fun y H4 => ∃ acc, H4 D = some (.lst acc) ∧ acc.length < sizeLine ∧ upd H4 D (.lst (acc ++ [y])) = upd H1 D (.lst ((fs.take (i + 1)).filterMap id)) else H3 = upd H1 D (.lst ((fs.take (i + 1)).filterMap id)) := by
  obtain ⟨r, hr⟩ := getOpt hlen hx
  have e : Ext H1 H := by rw [p]; exact Ext.upd hD
  obtain ⟨h1, h2⟩ := hs i x r hx hr H e
  refine ⟨hw x, ?_⟩
  cases r with
  | none =>
    refine h1 rfl _ ?_
    rw [if_neg Bool.false_ne_true, filterMap_take fs i none hr, p]
    simp
  | some y =>
    obtain ⟨h3, h4⟩ := h2 y rfl
    refine h3 _ ?_
    rw [if_pos rfl]
    refine h4 _ ⟨_, by rw [p]; exact upd_same, ?_, ?_⟩
    · have := List.length_filterMap_le (id : Option V → Option V) (fs.take i)
      have h5 : (fs.take i).length ≤ fs.length := by rw [List.length_take]; omega
      omega
    · rw [filterMap_take fs i _ hr, p, upd_upd]
      rfl
theorem lcT {fs : List (Option V)} (hq : SqT K H1 a xs) (hD : H1 D = none) (hlen : fs.length = xs.length) (hz : fs.length < sizeLine) (hw : ∀ x, wipe ((wipe σ vs).set j (some x)) vs = wipe σ vs)
    (hs : ∀ (i : Nat) (x : V) (r : Option V), xs[i]? = some x → fs[i]? = some r → ∀ H, Ext H1 H → TurnP tt te ((wipe σ vs).set j (some x)) H r)
    (hd : Qd (upd H1 D (.lst (fs.filterMap id)))) : ∃ W : Nat → Nat → Hp → Prop, (∃ m, W 0 m (upd H1 D (.lst []))) ∧ ∀ i m H, W i m H →
      ((Itt K a).stop i H ∧ Qd H) ∨ ((Itt K a).go i H ∧ ∃ Nx : Hp → Prop, (∀ H', Nx H' → ∃ m', m' < m ∧ W (i + 1) m' H') ∧ ∀ x H', (Itt K a).yld i H x H' → gName j x (wipe σ vs) H' fun σ2 H2 => wipe σ2 vs = wipe σ vs ∧ tt σ2 H2 fun b H3 =>
        if b = true then te σ2 H3 fun y H4 => ∃ acc, H4 D = some (.lst acc) ∧ acc.length < sizeLine ∧ Nx (upd H4 D (.lst (acc ++ [y]))) else Nx H3) :=
  lc_tup (K := K) (a := a) (xs := xs) (fun i H => H = upd H1 D (.lst ((fs.take i).filterMap id))) (by simp) (fun i H _ p => by rw [p]; exact hq.ext (Ext.upd hD)) (fun i x H hx p => lc_pure hD hlen hz hw hs i x H hx p)
    (fun H p => by rw [p, ← hlen, List.take_length]; exact hd)
theorem lcL {fs : List (Option V)} (hq : SqL K H1 a xs) (hD : H1 D = none) (hlen : fs.length = xs.length) (hz : fs.length < sizeLine) (hw : ∀ x, wipe ((wipe σ vs).set j (some x)) vs = wipe σ vs)
    (hs : ∀ (i : Nat) (x : V) (r : Option V), xs[i]? = some x → fs[i]? = some r → ∀ H, Ext H1 H → TurnP tt te ((wipe σ vs).set j (some x)) H r)
    (hd : Qd (upd H1 D (.lst (fs.filterMap id)))) : ∃ W : Nat → Nat → Hp → Prop, (∃ m, W 0 m (upd H1 D (.lst []))) ∧ ∀ i m H, W i m H →
      ((Itl K a).stop i H ∧ Qd H) ∨ ((Itl K a).go i H ∧ ∃ Nx : Hp → Prop, (∀ H', Nx H' → ∃ m', m' < m ∧ W (i + 1) m' H') ∧ ∀ x H', (Itl K a).yld i H x H' → gName j x (wipe σ vs) H' fun σ2 H2 => wipe σ2 vs = wipe σ vs ∧ tt σ2 H2 fun b H3 =>
        if b = true then te σ2 H3 fun y H4 => ∃ acc, H4 D = some (.lst acc) ∧ acc.length < sizeLine ∧ Nx (upd H4 D (.lst (acc ++ [y]))) else Nx H3) :=
  lc_list (K := K) (a := a) (xs := xs) (fun i H => H = upd H1 D (.lst ((fs.take i).filterMap id))) (by simp) (fun i H _ p => by rw [p]; exact hq.ext (Ext.upd hD)) (fun i x H hx p => lc_pure hD hlen hz hw hs i x H hx p)
    (fun H p => by rw [p, ← hlen, List.take_length]; exact hd)
theorem lcR {lo : Int} {n : Nat} {fs : List (Option V)} (hD : H1 D = none) (hlen : fs.length = n) (hz : fs.length < sizeLine) (hw : ∀ x, wipe ((wipe σ vs).set j (some x)) vs = wipe σ vs)
    (hs : ∀ (i : Nat) (r : Option V), i < n → fs[i]? = some r → ∀ H, Ext H1 H → TurnP tt te ((wipe σ vs).set j (some (.int (lo + i)))) H r)
    (hd : Qd (upd H1 D (.lst (fs.filterMap id)))) : ∃ W : Nat → Nat → Hp → Prop, (∃ m, W 0 m (upd H1 D (.lst []))) ∧ ∀ i m H, W i m H →
      ((Itr lo n).stop i H ∧ Qd H) ∨ ((Itr lo n).go i H ∧ ∃ Nx : Hp → Prop, (∀ H', Nx H' → ∃ m', m' < m ∧ W (i + 1) m' H') ∧ ∀ x H', (Itr lo n).yld i H x H' → gName j x (wipe σ vs) H' fun σ2 H2 => wipe σ2 vs = wipe σ vs ∧ tt σ2 H2 fun b H3 =>
        if b = true then te σ2 H3 fun y H4 => ∃ acc, H4 D = some (.lst acc) ∧ acc.length < sizeLine ∧ Nx (upd H4 D (.lst (acc ++ [y]))) else Nx H3) :=
  lc_range (lo := lo) (n := n) (fun i H => H = upd H1 D (.lst ((fs.take i).filterMap id))) (by simp) (fun i H hi p => by
      refine lc_pure (xs := (List.range n).map fun i : Nat => V.int (lo + i)) hD (by simp [hlen]) hz hw (fun i x r hx hr => ?_) i (V.int (lo + i)) H (by simp [hi]) p
      obtain ⟨hl, e⟩ := List.getElem?_eq_some_iff.mp hx
      rw [List.length_map, List.length_range] at hl
      rw [List.getElem_map, List.getElem_range] at e
      rw [← e]
      exact hs i r hl hr)
    (fun H p => by rw [p, ← hlen, List.take_length]; exact hd)
end
theorem fm_some {α β : Type} (f : α → β) (l : List α) : (l.map fun x => some (f x)).filterMap id = l.map f := by
  induction l with
  | nil => rfl
  | cons x l ih => simp [ih]
/-- the turn with no test -/
theorem turnY {te : TE} {σ : L2.St} {H : Hp} {y : V} {r : Option V} (e : r = some y) (h : ∀ Q : VK, Q y H → te σ H Q) : TurnP tYes te σ H r := by
  subst e
  refine ⟨(fun z => nomatch z), fun y' z => ?_⟩
  cases z
  exact ⟨fun Q q => q, h⟩
/-- a walked thing that is told one of two ways -/
def iOr (a b : TI) : TI := fun σ H R => a σ H R ∨ b σ H R
theorem pi_or {X : Cx} {tg l : Expr} {a b : TI} (h1 : PI X tg l a) (h2 : PI X tg l b) : PI X tg l (iOr a b) :=
  ⟨fun pins s σ H R I h => h.elim (fun q => h1.run pins s σ H R I q) fun q => h2.run pins s σ H R I q⟩
abbrev iSeq (K : PySem.W.Frag) (i : Nat) : TI := iOr (iList K (tVar i)) (iTup K (tVar i))
section
variable {K : PySem.W.Frag} {r : Addr} {xs : List V} {tt : TT} {te : TE} {vs : List Nat} {i j : Nat} {σ : L2.St} {H : Hp} {Q : Addr → Hp → Prop}
abbrev lcBody (g : TG) (tt : TT) (te : TE) (vs : List Nat) (σ : L2.St) (Q : Addr → Hp → Prop) : It → Hp → Prop := fun J H1 => ∀ D, H1 D = none → ∃ W : Nat → Nat → Hp → Prop, (∃ m, W 0 m (upd H1 D (.lst []))) ∧ ∀ i m H, W i m H →
  (J.stop i H ∧ Q D H) ∨ (J.go i H ∧ ∃ Nx : Hp → Prop, (∀ H', Nx H' → ∃ m', m' < m ∧ W (i + 1) m' H') ∧ ∀ x H', J.yld i H x H' → g x (wipe σ vs) H' fun σ2 H2 => wipe σ2 vs = wipe σ vs ∧ tt σ2 H2 fun b H3 =>
    if b = true then te σ2 H3 fun y H4 => ∃ acc, H4 D = some (.lst acc) ∧ acc.length < sizeLine ∧ Nx (upd H4 D (.lst (acc ++ [y]))) else Nx H3)
theorem lcLT {fs : List (Option V)} (hσ : σ[i]? = some (some (.ref r))) (hq : SqL K H r xs ∨ SqT K H r xs) (hlen : fs.length = xs.length) (hz : fs.length < sizeLine) (hw : ∀ x, wipe ((wipe σ vs).set j (some x)) vs = wipe σ vs)
    (hs : ∀ (i : Nat) (x : V) (r : Option V), xs[i]? = some x → fs[i]? = some r → ∀ H', Ext H H' → TurnP tt te ((wipe σ vs).set j (some x)) H' r)
    (hd : ∀ D, H D = none → Q D (upd H D (.lst (fs.filterMap id)))) : Or (iList K (tVar i) σ H (lcBody (gName j) tt te vs σ Q)) (iTup K (tVar i) σ H (lcBody (gName j) tt te vs σ Q)) := by
  rcases hq with hq | hq
  · exact .inl ⟨_, hσ, r, rfl, ⟨_, hq⟩, fun D hD => lcL hq hD hlen hz hw hs (hd D hD)⟩
  · exact .inr ⟨_, hσ, r, rfl, ⟨_, hq⟩, fun D hD => lcT hq hD hlen hz hw hs (hd D hD)⟩
end
end K9

set_option maxHeartbeats 4000000
/-! Walks: as_set, whole, is_within, cells, sides. -/
namespace K9
open PySem L2
theorem colz_idx {n : Nat} {c : Int} (h : c ∈ colz n) : (colz n).idxOf c = c.toNat := by
  obtain ⟨h0, h1⟩ := mem_colz.mp h
  have hl : c.toNat < (colz n).length := by rw [colz_len]; omega
  have hg : (colz n)[c.toNat]? = some c := by
    rw [colz_get n c.toNat (by omega)]
    congr 1
    omega
  have nd : (colz n).Nodup := by
    unfold colz
    exact List.Pairwise.map _ (fun a b h z => h (by omega)) (List.nodup_range)
  obtain ⟨hl', e⟩ := List.getElem?_eq_some_iff.mp hg
  have := List.Nodup.idxOf_getElem nd c.toNat hl'
  rw [e] at this
  exact this
abbrev proj (r : Row) (cs : List Int) : Row := cs.map fun c => r.getD c.toNat 0
theorem row_at {r : Row} {c : Int} (h0 : 0 ≤ c) (h : c < r.length) : atI (r.map V.int) c = some (.int (r.getD c.toNat 0)) := by
  obtain ⟨k, rfl⟩ : ∃ k : Nat, c = k := ⟨c.toNat, by omega⟩
  refine atI_nat ?_
  have hk : k < r.length := by omega
  simp [hk]
section
variable {w : World} {K : PySem.W.Frag} {mg : Str → Option Value} {base : Heap} {f : Addr} {fd : FuncData}
/-! ### as_set -/
def spAsSet : Sp := fun vs H Q _ => ∃ (v : V) (r : Row), vs = [v] ∧ IsRow H v r ∧ r.length ≤ 60 ∧ ∀ (q : Addr) (r' : Row) (H' : Hp), Ext H H' → H q = none → H' q = some (.tup (r'.map V.int)) → r'.Pairwise (· < ·) → (∀ x, x ∈ r' ↔ x ∈ r) → Q (.ref q) H'
theorem scAsSet : FnScope ["columns"] ["columns"] (defScope sAsSet) := ⟨rfl, rfl, rfl, by decide +kernel, rfl, by decide +kernel, by decide +kernel⟩
theorem ok_asSet (F : FnP K "as_set" "as_set" sAsSet f fd) (Z : E9 K mg) : FnOk prog w K mg base CX0 1 f fd ["columns"] spAsSet := by
  refine F.ok scAsSet (fun vs H Q E h => ?_) (fun cdv A outer s H vs Q E hr h => ?_)
  · obtain ⟨v, r, rfl, _⟩ := h
    rfl
  · obtain ⟨v, r, rfl, hv, hl, k⟩ := h
    refine ⟨_, PSs.nox (pss_one (ps_ret (pe_tupleOf (by rfl) Z.tup (pe_callB (cr_sortedSet rfl) (by rfl) Z.srt (by decide +kernel) (pa_cons (pe_callTy (cr_setI rfl) (by rfl) Z.set (by decide +kernel) (pa_cons (pv 0) pa_nil)) pa_nil))))), ?_⟩
    obtain ⟨p, rfl, hp⟩ := hv
    refine ⟨_, rfl, p, r, rfl, SqT.of hp, by omega, fun q c hq hc => ?_⟩
    refine ⟨q, _, c, rfl, upd_same, by omega, fun ns p' asc mem hlen hp' => ?_⟩
    refine .inl ⟨p', _, rfl, SqL.of upd_same, fun q2 hq2 => ?_⟩
    refine k q2 ns _ (((Ext.upd hq).trans (Ext.upd hp')).trans (Ext.upd hq2)) ?_ upd_same asc (fun x => by rw [mem]; simp)
    exact Ext.free ((Ext.upd hq).trans (Ext.upd hp')) hq2
/-! ### whole -/
def spWhole : Sp := fun vs H Q _ => ∃ (n : Nat), vs = [.int n] ∧ n ≤ 1000 ∧ ∀ (q : Addr), H q = none → Q (.ref q) (upd H q (.tup ((colz n).map V.int)))
theorem scWhole : FnScope ["count"] ["count"] (defScope sWhole) := ⟨rfl, rfl, rfl, by decide +kernel, rfl, by decide +kernel, by decide +kernel⟩
theorem rgV_colz (n : Nat) : rgV 0 (n : Int) = (colz n).map V.int := by
  unfold rgV colz
  simp [List.map_map, Function.comp_def]
theorem ok_whole (F : FnP K "whole" "whole" sWhole f fd) (Z : E9 K mg) : FnOk prog w K mg base CX0 1 f fd ["count"] spWhole := by
  refine F.ok scWhole (fun vs H Q E h => ?_) (fun cdv A outer s H vs Q E hr h => ?_)
  · obtain ⟨n, rfl, _⟩ := h
    rfl
  · obtain ⟨n, rfl, hn, k⟩ := h
    refine ⟨_, PSs.nox (pss_one (ps_ret (pe_tupRg rfl (by rfl) Z.tup (prg_1 (by rfl) Z.rng (pv 0))))), ?_⟩
    refine ⟨_, rfl, _, rfl, ⟨by omega, by omega, by omega, by omega, by omega⟩, fun q hq => ?_⟩
    rw [rgV_colz]
    exact k q hq
/-! ### is_within -/
def spWithin : Sp := fun vs H Q _ => ∃ (va vb : V) (a b : Row), vs = [va, vb] ∧ IsRow H va a ∧ IsRow H vb b ∧ a.length ≤ 60 ∧ b.length ≤ 60 ∧ ∀ H', Ext H H' → Q (.bl (a.all fun x => decide (x ∈ b))) H'
theorem scWithin : FnScope ["a", "b", "column"] ["a", "b"] (defScope sWithin) := ⟨rfl, rfl, rfl, by decide +kernel, rfl, by decide +kernel, by decide +kernel⟩
theorem inV_ints (x : Int) (b : Row) : inV (.int x) (b.map V.int) = decide (x ∈ b) := by
  induction b with
  | nil => rfl
  | cons y b ih =>
    show (eqV (.int y) (.int x) || inV (.int x) (b.map V.int)) = _
    rw [ih]
    by_cases e : y = x
    · subst e
      simp [eqV]
    · have : eqV (.int y) (.int x) = false := by simp [eqV, e]
      rw [this]
      simp [Ne.symm e]
theorem flat_ints (b : Row) : (b.map V.int).all flatV = true := by
  rw [List.all_eq_true]
  intro x hx
  obtain ⟨i, _, rfl⟩ := List.mem_map.mp hx
  rfl
theorem ok_within (F : FnP K "is_within" "is_within" sWithin f fd) (Z : E9 K mg) : FnOk prog w K mg base CX0 1 f fd ["a", "b"] spWithin := by
  refine F.ok scWithin (fun vs H Q E h => ?_) (fun cdv A outer s H vs Q E hr h => ?_)
  · obtain ⟨va, vb, a, b, rfl, _⟩ := h
    rfl
  · obtain ⟨va, vb, a, b, rfl, ⟨pa, rfl, ha⟩, ⟨pb, rfl, hb⟩, la, lb, k⟩ := h
    refine ⟨_, PSs.nox (pss_one (ps_ret (pe_callB (cr_all rfl) (by rfl) Z.all (by decide +kernel) (pa_cons
      (pe_lc (own := [("column", 2)]) (g := gName 2) (tt := tYes) (te := tOp (rIn K false) (tVar 2) (tVar 1)) rfl scWithin.nd (pi_tup (pv 0)) (blkOk_by (N := ["a", "b", "column"]) (sc := defScope sWithin) (by decide +kernel)) (fun _ _ _ _ _ => pg_name (i := 2) scWithin.nd rfl (Or.inl rfl)) (fun _ _ _ _ _ => pts_nil)
        (fun _ _ _ _ _ => pe_cmpR op_in_seq (pv 2) (pv 1) (by rfl))) pa_nil)))), ?_⟩
    refine ⟨_, rfl, pa, rfl, ⟨_, SqT.of ha⟩, fun D hD => ?_⟩
    refine lcT (xs := a.map V.int) (fs := a.map fun x => some (V.bl (decide (x ∈ b)))) (SqT.of ha) hD (by simp) (by simp; exact small1000 (by omega)) (fun x => rfl) (fun i x r hx hr H2 e2 => ?_) ?_
    · rw [List.getElem?_map] at hx hr
      cases ea : a[i]? with
      | none => rw [ea] at hx; cases hx
      | some z =>
        rw [ea] at hx hr
        cases hx
        cases hr
        refine turnY rfl fun Q q => ?_
        refine ⟨_, rfl, _, rfl, pb, _, rfl, .inr (SqT.of (e2 _ _ hb)), rfl, flat_ints b, ?_⟩
        show Q (.bl (inV (.int z) (b.map V.int))) _
        rw [inV_ints]
        exact q
    · refine ⟨D, a.map fun x => decide (x ∈ b), rfl, SqL.of ?_, ?_⟩
      · rw [upd_same, fm_some, List.map_map]
        rfl
      · rw [List.all_map]
        exact k _ (Ext.upd hD)
/-! ### Table.cells -/
def spCells : Sp := fun vs H Q _ => ∃ (p dx c r : Addr) (vr vc : V) (n : Nat) (row cs : Row), vs = [.ref p, vr, vc] ∧ H p = some (.ins (aT K) dx ([("columns", V.ref c), ("rows", V.ref r)] : List (Str × V))) ∧ ColT H c n ∧ IsRow H vr row ∧ IsRow H vc cs ∧
  row.length = n ∧ (∀ c ∈ cs, c ∈ colz n) ∧ cs.length ≤ 60 ∧ ∀ (q : Addr) (H' : Hp), Ext H H' → H q = none → H' q = some (.tup ((proj row cs).map V.int)) → Q (.ref q) H'
abbrev nCells : List Str := ["self", "row", "columns", "column"]
theorem scCells : FnScope nCells ["self", "row", "columns"] (defScope sCells) := ⟨rfl, rfl, rfl, by decide +kernel, rfl, by decide +kernel, by decide +kernel⟩
theorem look2a (c r : V) : ([("columns", c), ("rows", r)] : List (Str × V)).lookup ("columns" : Str) = some c := by simp [List.lookup]
theorem look2b (c r : V) : ([("columns", c), ("rows", r)] : List (Str × V)).lookup ("rows" : Str) = some r := by
  have e : (("rows" : Str) == ("columns" : Str)) = false := by decide +kernel
  simp [List.lookup, e]
theorem ok_cells (F : FnP K "cells" "Table.cells" sCells f fd) (Z : E9 K mg) : FnOk prog w K mg base CX0 1 f fd ["self", "row", "columns"] (spCells (K := K)) := by
  refine F.ok scCells (fun vs H Q E h => ?_) (fun cdv A outer s H vs Q E hr h => ?_)
  · obtain ⟨p, dx, c, r, vr, vc, n, row, cs, rfl, _⟩ := h
    rfl
  · obtain ⟨p, dx, c, r, vr, vc, n, row, cs, rfl, hp, hc, ⟨pr, rfl, hrw⟩, ⟨pc, rfl, hcs⟩, hn, hin, hlen, k⟩ := h
    refine ⟨_, PSs.nox (pss_one (ps_ret (pe_tupleOf (by rfl) Z.tup
      (pe_lc (own := [("column", 3)]) (g := gName 3) (tt := tYes) (te := tOp (rIxT K) (tVar 1) (tTupIx (tFld K (tVar 0) "columns") (tVar 3))) rfl scCells.nd (pi_tup (pv 2)) (blkOk_by (N := nCells) (sc := defScope sCells) (by decide +kernel)) (fun _ _ _ _ _ => pg_name (i := 3) scCells.nd rfl (Or.inl rfl)) (fun _ _ _ _ _ => pts_nil)
        (fun _ _ _ _ _ => pe_ix ix_tup (pv 1) (pe_tupIx (pe_fld (pv 0) rfl) (pv 3) ⟨rfl, rfl, rfl, rfl⟩) (fun _ _ => rfl)))))), ?_⟩
    refine ⟨_, rfl, pc, rfl, ⟨_, SqT.of hcs⟩, fun D hD => ?_⟩
    refine lcT (xs := cs.map V.int) (fs := cs.map fun c => some (V.int (row.getD c.toNat 0))) (SqT.of hcs) hD (by simp) (by simp; exact small1000 (by omega)) (fun x => rfl) (fun i x r' hx hr' H2 e2 => ?_) ?_
    · rw [List.getElem?_map] at hx hr'
      cases ea : cs[i]? with
      | none => rw [ea] at hx; cases hx
      | some z =>
        rw [ea] at hx hr'
        cases hx
        cases hr'
        have hz := hin z (List.mem_of_getElem? ea)
        obtain ⟨z0, z1⟩ := mem_colz.mp hz
        refine turnY rfl fun Q q => ?_
        refine ⟨_, rfl, _, rfl, p, aT K, dx, _, _, rfl, e2 _ _ hp, Z.cT, Z.tC, look2a _ _, ?_⟩
        refine ⟨c, n, rfl, hc.sk (SK.ext e2), _, rfl, z, rfl, hc.sk (SK.ext e2), hz, ?_⟩
        rw [colz_idx hz]
        refine ⟨pr, row.map V.int, _, _, rfl, rfl, SqT.of (e2 _ _ hrw), ?_, q⟩
        rw [show ((z.toNat : Nat) : Int) = z by omega]
        exact row_at z0 (by omega)
    · refine .inl ⟨D, _, rfl, SqL.of upd_same, fun q hq => ?_⟩
      refine k q _ ((Ext.upd hD).trans (Ext.upd hq)) (Ext.free (Ext.upd hD) hq) ?_
      rw [upd_same, fm_some]
      simp [List.map_map, Function.comp_def]
end
end K9

set_option maxHeartbeats 4000000
/-! Walks: Sides.__init__, Table.__init__, Table.__eq__. -/
namespace K9
open PySem L2
section
variable {w : World} {K : PySem.W.Frag} {mg : Str → Option Value} {base : Heap} {f : Addr} {fd : FuncData}
/-! ### Fd(left, right) -/
def spFdI (K : PySem.W.Frag) : Sp := fun vs H Q _ => ∃ (p dx : Addr) (vl vr : V) (l r : Row), vs = [.ref p, vl, vr] ∧ H p = some (.ins (aF K) dx []) ∧ IsRow H vl l ∧ IsRow H vr r ∧ l.length ≤ 60 ∧ r.length ≤ 60 ∧
  ∀ (l' r' : Row) (a b : Addr) (H' : Hp), (∀ c o, H c = some o → c ≠ p → H' c = some o) → H' p = some (.ins (aF K) dx ([("left", V.ref a), ("right", V.ref b)] : List (Str × V))) → H' a = some (.tup (l'.map V.int)) → H' b = some (.tup (r'.map V.int)) →
    l'.Pairwise (· < ·) → (∀ x, x ∈ l' ↔ x ∈ l) → r'.Pairwise (· < ·) → (∀ x, x ∈ r' ↔ x ∈ r) → Q .non H'
theorem scFdI : FnScope ["self", "left", "right"] ["self", "left", "right"] (defScope sSidesI) := ⟨rfl, rfl, rfl, by decide +kernel, rfl, by decide +kernel, by decide +kernel⟩
theorem ok_fdI (F : FnP K "__init__" "Sides.__init__" sSidesI f fd) (Z : E9 K mg) (cA : C8.Cal prog w K mg base 1 "as_set" spAsSet []) : FnOk prog w K mg base CX0 2 f fd ["self", "left", "right"] (spFdI K) := by
  refine F.ok scFdI (fun vs H Q E h => ?_) (fun cdv A outer s H vs Q E hr h => ?_)
  · obtain ⟨p, dx, vl, vr, l, r, rfl, _⟩ := h
    rfl
  · obtain ⟨p, dx, vl, vr, l, r, rfl, hp, hl, hrr, ll, lr, k⟩ := h
    refine ⟨_, PSs.nox (pss_cons (ps_fld (pv 0) (C8.pe_c cA hr (by decide) (by rfl) (pa_cons (pv 1) pa_nil)) rfl) (pss_one (ps_fld (pv 0) (C8.pe_c cA hr (by decide) (by rfl) (pa_cons (pv 2) pa_nil)) rfl))), ?_⟩
    refine ⟨_, rfl, vl, l, rfl, hl, ll, fun a l' H1 e1 ha ga al ml => ?_⟩
    refine ⟨_, rfl, p, aF K, dx, _, rfl, e1 _ _ hp, Z.cF, Z.fL, by decide, ?_⟩
    have hpa : a ≠ p := fun z => by rw [z, hp] at ha; cases ha
    obtain ⟨pr, rfl, hq⟩ := hrr
    have hpr : pr ≠ p := fun z => by rw [z, hp] at hq; cases hq
    refine ⟨_, rfl, .ref pr, r, rfl, ⟨pr, rfl, by rw [upd_ne hpr]; exact e1 _ _ hq⟩, lr, fun b r' H2 e2 hb gb ar mr => ?_⟩
    have hpb : b ≠ p := fun z => by rw [z, upd_same] at hb; cases hb
    refine ⟨_, rfl, p, aF K, dx, _, rfl, e2 _ _ upd_same, Z.cF, Z.fR, by show 1 < 1000; decide, ?_⟩
    refine k l' r' a b _ (fun c o hc hn => ?_) (by rw [upd_same]; exact congrArg (fun z => some (HO.ins (aF K) dx z)) (fd_flds _ _)) ?_ ?_ al ml ar mr
    · rw [upd_ne hn]
      exact e2 _ _ (by rw [upd_ne hn]; exact e1 _ _ hc)
    · rw [upd_ne hpa]
      exact e2 _ _ (by rw [upd_ne hpa]; exact ga)
    · rw [upd_ne hpb]
      exact gb
/-! ### Table.__eq__ -/
def spTabE (K : PySem.W.Frag) : Sp := fun vs H Q _ => ∃ (va vb : V) (n : Nat) (a b : List Row), vs = [va, vb] ∧ IsTab (aT K) H va n a ∧ IsTab (aT K) H vb n b ∧ Q (.bl (decide (a = b))) H
theorem scTabE : FnScope ["self", "other"] ["self", "other"] (defScope sTableE) := ⟨rfl, rfl, rfl, by decide +kernel, rfl, by decide +kernel, by decide +kernel⟩
theorem ok_tabE (F : FnP K "__eq__" "Table.__eq__" sTableE f fd) (Z : E9 K mg) : FnOk prog w K mg base CX0 1 f fd ["self", "other"] (spTabE K) := by
  refine F.ok scTabE (fun vs H Q E h => ?_) (fun cdv A outer s H vs Q E hr h => ?_)
  · obtain ⟨va, vb, n, a, b, rfl, _⟩ := h
    rfl
  · obtain ⟨va, vb, n, a, b, rfl, ⟨pa, dxa, ca, ra, rfl, ha, hca, hra⟩, ⟨pb, dxb, cb, rb, rfl, hb, hcb, hrb⟩, k⟩ := h
    refine ⟨_, PSs.nox (pss_one (ps_ret (pe_and (pe_callB (C8.call_isC Z.iT) (by rfl) Z.isi (by decide +kernel) (pa_cons (pv 1) (pa_cons (C8.pe_gc (v := .ref (aT K)) (by rfl) ⟨_, Z.gT, rfl⟩) pa_nil)))
      (pe_and (pe_cmpR (op_eqD hr.units) (pe_fld (pv 0) rfl) (pe_fld (pv 1) rfl) (nomark _)) (pe_one (pe_cmpR (op_eqD hr.units) (pe_fld (pv 0) rfl) (pe_fld (pv 1) rfl) (nomark _))))))), ?_⟩
    refine ⟨_, rfl, pb, dxb, _, rfl, hb, ?_⟩
    refine ⟨_, rfl, ?_⟩
    refine iteT ?_
    refine ⟨_, rfl, pa, aT K, dxa, _, _, rfl, ha, Z.cT, Z.tC, look2a _ _, _, rfl, pb, aT K, dxb, _, _, rfl, hb, Z.cT, Z.tC, look2a _ _, ?_⟩
    refine ⟨dRow (colz n), dRow (colz n), .tup hca.sq (dpAll_ints _ _ _), .tup hcb.sq (dpAll_ints _ _ _), shaped_row _, shaped_row _, ?_⟩
    rw [eqv_row, decide_eq_true rfl]
    refine ⟨_, rfl, ?_⟩
    refine iteT ?_
    refine ⟨_, rfl, pa, aT K, dxa, _, _, rfl, ha, Z.cT, Z.tR, look2b _ _, _, rfl, pb, aT K, dxb, _, _, rfl, hb, Z.cT, Z.tR, look2b _ _, ?_⟩
    refine ⟨dTab a, dTab b, hra.dp, hrb.dp, shaped_tab _, shaped_tab _, ?_⟩
    rw [eqv_tab]
    exact k
end
end K9

set_option maxHeartbeats 4000000
/-! Walks: Table.__init__. -/
namespace K9
open PySem L2
theorem asc_unique : ∀ {a b : List Int}, a.Pairwise (· < ·) → b.Pairwise (· < ·) → (∀ x, x ∈ a ↔ x ∈ b) → a = b
  | [], [], _, _, _ => rfl
  | [], y :: b, _, _, m => by have := (m y).mpr List.mem_cons_self; cases this
  | x :: a, [], _, _, m => by have := (m x).mp List.mem_cons_self; cases this
  | x :: a, y :: b, ha, hb, m => by
    rw [List.pairwise_cons] at ha hb
    have e : x = y := by
      rcases List.mem_cons.mp ((m x).mp List.mem_cons_self) with h | h
      · exact h
      · rcases List.mem_cons.mp ((m y).mpr List.mem_cons_self) with h2 | h2
        · exact h2.symm
        · have := ha.1 y h2
          have := hb.1 x h
          omega
    subst e
    refine congrArg _ (asc_unique ha.2 hb.2 fun z => ?_)
    constructor
    · intro h
      rcases List.mem_cons.mp ((m z).mp (List.mem_cons_of_mem _ h)) with h2 | h2
      · subst h2
        exact absurd (ha.1 _ h) (by omega)
      · exact h2
    · intro h
      rcases List.mem_cons.mp ((m z).mpr (List.mem_cons_of_mem _ h)) with h2 | h2
      · subst h2
        exact absurd (hb.1 _ h) (by omega)
      · exact h2
theorem colz_asc (n : Nat) : (colz n).Pairwise (· < ·) := by
  unfold colz
  exact List.Pairwise.map _ (fun a b h => by omega) (List.pairwise_lt_range)
/-- ascending, the same members -/
def Canon (a b : List Row) : Prop := a.Pairwise (· < ·) ∧ ∀ r, r ∈ a ↔ r ∈ b
theorem pairs_of {H : Hp} : ∀ {vs : List V} {rs : List Row}, Rows H vs rs → ∃ ks : List (Addr × List Int), vs = ks.map (fun p => V.ref p.1) ∧ rs = ks.map (·.2) ∧ ∀ p ∈ ks, H p.1 = some (.tup (p.2.map V.int))
  | _, _, .nil => ⟨[], rfl, rfl, fun p h => by cases h⟩
  | _, _, .cons (a := v) (b := r) h t => by
    obtain ⟨ks, rfl, rfl, a⟩ := pairs_of t
    obtain ⟨p, rfl, q⟩ := h
    refine ⟨(p, r) :: ks, rfl, rfl, fun x hx => ?_⟩
    rcases List.mem_cons.mp hx with rfl | hx
    · exact q
    · exact a x hx
theorem of_pairs {H : Hp} : ∀ {ks : List (Addr × List Int)}, (∀ p ∈ ks, H p.1 = some (.tup (p.2.map V.int))) → Rows H (ks.map fun p => V.ref p.1) (ks.map (·.2))
  | [], _ => .nil
  | k :: ks, a => .cons ⟨k.1, rfl, a k List.mem_cons_self⟩ (of_pairs fun p hp => a p (List.mem_cons_of_mem _ hp))
theorem shaped_ints (r : Row) : SeqAt.shaped (.list (r.map PyData.int)) = true := by
  have h := shaped_row r
  unfold SeqAt.shaped at h ⊢
  simpa [PyData.canLay0, PyData.depth] using h
theorem lt_of_nodup {L : List (Addr × List Int)} (nd : (L.map (·.2)).Nodup) (pw : L.Pairwise fun x y => ¬ y.2 < x.2) : (L.map (·.2)).Pairwise (· < ·) := by
  induction L with
  | nil => exact .nil
  | cons a L ih =>
    rw [List.map_cons, List.nodup_cons] at nd
    rw [List.pairwise_cons] at pw
    rw [List.map_cons, List.pairwise_cons]
    refine ⟨fun r hr => ?_, ih nd.2 pw.2⟩
    obtain ⟨b, hb, rfl⟩ := List.mem_map.mp hr
    have h1 := pw.1 b hb
    apply Decidable.byContradiction
    intro z
    have e := List.le_antisymm (List.not_lt.mp h1) (List.not_lt.mp z)
    exact nd.1 (by rw [e]; exact hr)
theorem seq_upd {K : PySem.W.Frag} {H : Hp} {p r C dx : Addr} {fs : List (Str × V)} {o : HO} {xs : List V} (hp : H p = some (.ins C dx fs)) (hq : SqL K H r xs ∨ SqT K H r xs) : SqL K (upd H p o) r xs ∨ SqT K (upd H p o) r xs := by
  have ne : ∀ {u : HO}, H r = some u → (∀ C dx fs, u ≠ .ins C dx fs) → upd H p o r = some u := fun {u} h n => by
    rw [upd_ne fun z => ?_]
    · exact h
    · rw [z, hp] at h
      exact n _ _ _ (Option.some.inj h).symm
  rcases hq with h | h
  · rcases h with (h | ⟨o', h⟩) | h
    · exact .inl (.inl (.inl (ne h fun _ _ _ z => by cases z)))
    · exact .inl (.inl (.inr ⟨o', ne h fun _ _ _ z => by cases z⟩))
    · exact .inl (.inr h)
  · rcases h with (h | ⟨o', h⟩) | h
    · exact .inr (.inl (.inl (ne h fun _ _ _ z => by cases z)))
    · exact .inr (.inl (.inr ⟨o', ne h fun _ _ _ z => by cases z⟩))
    · exact .inr (.inr h)
section
variable {w : World} {K : PySem.W.Frag} {mg : Str → Option Value} {base : Heap} {f : Addr} {fd : FuncData}
def spTabI (K : PySem.W.Frag) : Sp := fun vs H Q _ => ∃ (p dx c r : Addr) (n : Nat) (xs : List V) (rs : List Row), vs = [.ref p, .ref c, .ref r] ∧ H p = some (.ins (aT K) dx []) ∧ ColT H c n ∧ 1 ≤ n ∧ n ≤ 60 ∧ (SqL K H r xs ∨ SqT K H r xs) ∧ Rows H xs rs ∧ (∀ r ∈ rs, r.length = n) ∧ rs.length < 64 ∧
  ∀ (rs' : List Row) (H' : Hp), (∀ b o, H b = some o → b ≠ p → H' b = some o) → IsTab (aT K) H' (.ref p) n rs' → Canon rs' rs → Q .non H'
abbrev nTabI : List Str := ["self", "columns", "rows", "ordered", "column", "row"]
theorem scTabI : FnScope nTabI ["self", "columns", "rows"] (defScope sTableI) := ⟨rfl, rfl, rfl, by decide +kernel, rfl, by decide +kernel, by decide +kernel⟩
theorem ok_tabI (F : FnP K "__init__" "Table.__init__" sTableI f fd) (Z : E9 K mg) : FnOk prog w K mg base CX0 1 f fd ["self", "columns", "rows"] (spTabI K) := by
  refine F.ok scTabI (fun vs H Q E h => ?_) (fun cdv A outer s H vs Q E hr h => ?_)
  · obtain ⟨p, dx, c, r, n, xs, rs, rfl, _⟩ := h
    rfl
  · obtain ⟨p, dx, c, r, n, xs, rs, rfl, hp, hc, hn1, hn2, hq, hrs, hlen, h64, k⟩ := h
    obtain ⟨ks, rfl, rfl, hks⟩ := pairs_of hrs
    have hlk : ks.length < 64 := by simpa using h64
    obtain ⟨o, hod, hco⟩ := id hc
    refine ⟨_, PSs.nox (pss_cons (ps_set (i := 3) scTabI.nd rfl (Or.inl rfl) (pe_and (pe_cmpR (op_eqD hr.units) (pe_callTy call_list_of (by rfl) Z.lis (by decide +kernel) (pa_cons (pv 1) pa_nil)) (pe_callB (cr_sortedSet rfl) (by rfl) Z.srt (by decide +kernel) (pa_cons (pe_callTy (cr_setI rfl) (by rfl) Z.set (by decide +kernel) (pa_cons (pv 1) pa_nil)) pa_nil)) (nomark _))
          (pe_one (pe_callB (cr_all rfl) (by rfl) Z.all (by decide +kernel) (pa_cons (pe_lc (own := [("column", 4)]) (g := gName 4) (tt := tYes) (te := tOp (rI0 fun i j => .bl (decide (j ≤ i))) (tVar 4) (tC (.int 0))) rfl scTabI.nd (pi_tup (pv 1)) (blkOk_by (N := nTabI) (sc := defScope sTableI) (by decide +kernel)) (fun _ _ _ _ _ => pg_name (i := 4) scTabI.nd rfl (Or.inl rfl)) (fun _ _ _ _ _ => pts_nil)
            (fun _ _ _ _ _ => pe_cmpR op_ge (pv 4) pe_int (nomark _))) pa_nil)))))
        (pss_cons (ps_if (PW.pt (pw_or (pt_not (pt_val (pv 3))) (pw_or1 (pt_not (pt_val (pe_callB (cr_all rfl) (by rfl) Z.all (by decide +kernel) (pa_cons (pe_lc (own := [("row", 5)]) (g := gName 5) (tt := tYes) (te := tOp rEq (tCB (rLen K) (tCons (tVar 5) tNil)) (tCB (rLen K) (tCons (tVar 1) tNil))) rfl scTabI.nd (pi_or (pi_list (pv 2)) (pi_tup (pv 2))) (blkOk_by (N := nTabI) (sc := defScope sTableI) (by decide +kernel)) (fun _ _ _ _ _ => pg_name (i := 5) scTabI.nd rfl (Or.inl rfl)) (fun _ _ _ _ _ => pts_nil)
            (fun _ _ _ _ _ => pe_cmpR op_eq (pe_callB call_len (by rfl) Z.len PySem.boot_len (pa_cons (pv 5) pa_nil)) (pe_callB call_len (by rfl) Z.len PySem.boot_len (pa_cons (pv 1) pa_nil)) (nomark _))) pa_nil)))))))
          (pss_one ps_never) pss_nil)
        (pss_cons (ps_fld (pv 0) (pe_tupleOf (by rfl) Z.tup (pv 1)) rfl)
        (pss_one (ps_fld (pv 0) (pe_tupleOf (by rfl) Z.tup (pe_callB (cr_sortedSR rfl hr) (by rfl) Z.srt (by decide +kernel) (pa_cons (pe_callTy (cr_setOfT rfl hr.units) (by rfl) Z.set (by decide +kernel) (pa_cons (pe_lc (own := [("row", 5)]) (g := gName 5) (tt := tYes) (te := tThen (tVar 5) (kTup K)) rfl scTabI.nd (pi_or (pi_list (pv 2)) (pi_tup (pv 2))) (blkOk_by (N := nTabI) (sc := defScope sTableI) (by decide +kernel)) (fun _ _ _ _ _ => pg_name (i := 5) scTabI.nd rfl (Or.inl rfl)) (fun _ _ _ _ _ => pts_nil)
            (fun _ _ _ _ _ => pe_tupleOf (by rfl) Z.tup (pv 5))) pa_nil)) pa_nil))) rfl))))), ?_⟩
    -- ordered
    refine ⟨_, rfl, c, _, rfl, .inr hc.sq, fun l hl => ?_⟩
    have hc1 : ColT (upd H l (.lst ((colz n).map V.int))) c n := hc.sk (SK.new hl)
    refine ⟨_, rfl, c, colz n, rfl, hc1.sq, (by rw [colz_len]; omega), fun q cn hq' hcn => ?_⟩
    rw [colz_len] at hcn
    refine ⟨q, _, cn, rfl, upd_same, by omega, fun ns p' asc mem hln hp' => ?_⟩
    have ens : ns = colz n := asc_unique asc (colz_asc n) fun x => by rw [mem]; simp
    subst ens
    have e1 := (Ext.upd (o := HO.lst ((colz n).map V.int)) hl).trans ((Ext.upd (o := SetO w q (fun j => decide (j ∈ colz n)) cn) hq').trans (Ext.upd (o := HO.lst ((colz n).map V.int)) hp'))
    have hlp : l ≠ p' := ne_of_none (upd_same) (Ext.free (Ext.upd hq') hp')
    refine ⟨.list ((colz n).map PyData.int), .list ((colz n).map PyData.int), .lst (SqL.of ?_) (dpAll_ints _ _ _), .lst (SqL.of upd_same) (dpAll_ints _ _ _), shaped_ints _, shaped_ints _, ?_⟩
    · exact ((Ext.upd hq').trans (Ext.upd hp')) _ _ upd_same
    rw [show PyData.eqv (.list ((colz n).map PyData.int)) (.list ((colz n).map PyData.int)) = true by rw [PyData.eqv, eqv_ints, decide_eq_true rfl]]
    refine ⟨_, rfl, ?_⟩
    refine iteT ?_
    have hc2 := hc.sk (SK.ext e1)
    refine ⟨_, rfl, c, rfl, ⟨_, hc2.sq⟩, fun D hD => ?_⟩
    refine lcT (xs := (colz n).map V.int) (fs := (colz n).map fun x => some (V.bl (decide (0 ≤ x)))) hc2.sq hD (by simp) (by simp [colz_len]; exact small1000 (by omega)) (fun x => rfl) (fun i x r hx hr' H2 e2 => ?_) ?_
    · rw [List.getElem?_map] at hx hr'
      cases ea : (colz n)[i]? with
      | none => rw [ea] at hx; cases hx
      | some z =>
        rw [ea] at hx hr'
        cases hx
        cases hr'
        exact turnY rfl fun Q q => ⟨_, rfl, _, _, rfl, rfl, q⟩
    refine ⟨D, (colz n).map fun x => decide (0 ≤ x), rfl, SqL.of (by rw [upd_same, fm_some, List.map_map]; rfl), ?_⟩
    rw [show ((colz n).map fun x => decide (0 ≤ x)).all id = true by
      rw [List.all_map, List.all_eq_true]
      intro x hx
      exact decide_eq_true (mem_colz.mp hx).1]
    have e2 := e1.trans (Ext.upd (o := HO.lst (List.filterMap id ((colz n).map fun x => some (V.bl (decide (0 ≤ x)))))) hD)
    refine ⟨_, rfl, _, rfl, ?_⟩
    refine iteF ?_
    have hq2 : SqL K _ r _ ∨ SqT K _ r _ := hq.elim (fun z => .inl (z.ext e2)) fun z => .inr (z.ext e2)
    have hc3 := hc.sk (SK.ext e2)
    refine lcLT (K := K) (r := r) (xs := ks.map fun p : Addr × List Int => V.ref p.1) (fs := ks.map fun _ : Addr × List Int => some (V.bl true)) rfl hq2 (by simp) (by simp; exact small1000 (by omega)) (fun x => rfl) (fun i x r' hx hr' H2 e3 => ?_) fun D2 hD2 => ?_
    · rw [List.getElem?_map] at hx hr'
      cases ea : ks[i]? with
      | none => rw [ea] at hx; cases hx
      | some z =>
        rw [ea] at hx hr'
        cases hx
        cases hr'
        have hz := List.mem_of_getElem? ea
        have hzl := hlen z.2 (List.mem_map_of_mem hz)
        refine turnY rfl fun Q q => ?_
        refine ⟨_, rfl, _, _, rfl, .inr ⟨_, SqT.of (e3 _ _ (e2 _ _ (hks z hz))), rfl⟩, _, rfl, _, _, rfl, .inr ⟨_, (hc3.sk (SK.ext e3)).sq, rfl⟩, rfl, ?_⟩
        rw [decide_eq_true (by simp [hzl, colz_len])]
        exact q
    refine ⟨D2, ks.map fun _ => true, rfl, SqL.of (by rw [upd_same, fm_some]; simp [Function.comp_def]), ?_⟩
    rw [show (ks.map fun _ : Addr × List Int => true).all id = true by simp]
    have e4 := e2.trans (Ext.upd (o := HO.lst (List.filterMap id (ks.map fun _ : Addr × List Int => some (V.bl true)))) hD2)
    refine ⟨_, rfl, ?_⟩
    refine iteF ?_
    -- self.columns = tuple(columns)
    refine ⟨_, rfl, .inr ⟨c, _, rfl, (hc.sk (SK.ext e4)).sq, ?_⟩⟩
    refine ⟨_, rfl, p, aT K, dx, _, rfl, e4 _ _ hp, Z.cT, Z.tC, by decide, ?_⟩
    have hp4 := e4 _ _ hp
    have hks4 : ∀ q ∈ ks, upd _ p (HO.ins (aT K) dx (putF "columns" (V.ref c) [])) q.1 = some (.tup (q.2.map V.int)) := fun q hq => by
      have z := e4 _ _ (hks q hq)
      rw [upd_ne (ne_of z hp4 (fun z => nomatch z))]
      exact z
    have hq4 := seq_upd (K := K) (o := HO.ins (aT K) dx (putF "columns" (V.ref c) [])) hp4 (hq.elim (fun z => .inl (z.ext e4)) fun z => .inr (z.ext e4))
    have e5 : ∀ b o, H b = some o → b ≠ p → upd _ p (HO.ins (aT K) dx (putF "columns" (V.ref c) [])) b = some o := fun b o h n => by
      rw [upd_ne n]
      exact e4 _ _ h
    refine lcLT (K := K) (r := r) (xs := ks.map fun p : Addr × List Int => V.ref p.1) (fs := ks.map fun q : Addr × List Int => some (V.ref q.1)) rfl hq4 (by simp) (by simp; exact small1000 (by omega)) (fun x => rfl) (fun i x r' hx hr' H2 e3 => ?_) fun D3 hD3 => ?_
    · rw [List.getElem?_map] at hx hr'
      cases ea : ks[i]? with
      | none => rw [ea] at hx; cases hx
      | some z =>
        rw [ea] at hx hr'
        cases hx
        cases hr'
        have hz := List.mem_of_getElem? ea
        exact turnY rfl fun Q q => ⟨_, rfl, .inr ⟨_, _, rfl, SqT.of (e3 _ _ (hks4 z hz)), q⟩⟩
    refine ⟨D3, ks, rfl, SqL.of (by rw [upd_same, fm_some]), fun q hq => SqT.of (Ext.upd hD3 _ _ (hks4 q hq)), hlk, fun a L ha hL1 hL2 => ?_⟩
    have e6 := Ext.upd (o := HO.lst (List.filterMap id (ks.map fun q : Addr × List Int => some (V.ref q.1)))) hD3
    have hL : ∀ q ∈ L, upd _ a (SetTO prog w a L) q.1 = some (.tup (q.2.map V.int)) := fun q hq => Ext.upd ha _ _ (e6 _ _ (hks4 q (hL1 q hq)))
    refine ⟨a, L, rfl, upd_same, fun q hq => SqT.of (hL q hq), fun q hq z => ?_, fun L' q pm nd pw hq' => ?_⟩
    · have := hlen q.2 (List.mem_map_of_mem (hL1 q hq))
      rw [z] at this
      simp at this
      omega
    refine .inl ⟨q, _, rfl, SqL.of upd_same, fun t ht => ?_⟩
    have e7 := (e6.trans (Ext.upd (o := SetTO prog w a L) ha)).trans ((Ext.upd (o := HO.lst (L'.map fun x => V.ref x.1)) hq').trans (Ext.upd (o := HO.tup (L'.map fun x => V.ref x.1)) ht))
    have hpp := e7 _ _ (upd_same (a := p))
    refine ⟨_, rfl, p, aT K, dx, _, rfl, hpp, Z.cT, Z.tR, (by show 1 < 1000; decide), ?_⟩
    have htp : t ≠ p := (ne_of_none (Ext.upd hq' _ _ (Ext.upd ha _ _ (e6 _ _ (upd_same (a := p))))) ht).symm
    refine k (L'.map (·.2)) _ (fun b o hb hn => ?_) ⟨p, dx, c, t, rfl, ?_, ?_, t, _, rfl, ?_, of_pairs fun q hq => ?_⟩ ⟨lt_of_nodup nd pw, fun r => ?_⟩
    · rw [upd_ne hn]
      exact e7 _ _ (e5 b o hb hn)
    · rw [upd_same]
      exact congrArg (fun z => some (HO.ins (aT K) dx z)) (tb_flds _ _)
    · obtain ⟨ob, h1, h2⟩ := hc
      have ncp : c ≠ p := fun z => by rw [z, hp] at h2; cases h2
      exact ⟨ob, h1, by rw [upd_ne ncp]; exact e7 _ _ (e5 c _ h2 ncp)⟩
    · rw [upd_ne htp, upd_same]
    · have hq1 := hL1 q (pm.mem_iff.mp hq)
      have nqp : q.1 ≠ p := fun z => by
        have := hks q hq1
        rw [z, hp] at this
        cases this
      rw [upd_ne nqp]
      exact e7 _ _ (hks4 q hq1)
    · rw [(pm.map (·.2)).mem_iff]
      constructor
      · intro hr'
        obtain ⟨q, hq, rfl⟩ := List.mem_map.mp hr'
        exact List.mem_map_of_mem (hL1 q hq)
      · intro hr'
        obtain ⟨q, hq, rfl⟩ := List.mem_map.mp hr'
        exact hL2 q hq
end
end K9

set_option maxHeartbeats 4000000
/-! Walks: keeps_fd, keeps, breaks. -/
namespace K9
open PySem L2
/-! ### what it says -/
def brk (f : Fdp) (a b : Row) : Bool := decide (proj a f.1 = proj b f.1) && !decide (proj a f.2 = proj b f.2)
def keepsR (f : Fdp) (rs : List Row) : Bool := rs.all fun a => rs.all fun b => !brk f a b
theorem brk_false {f : Fdp} {a b : Row} : brk f a b = false ↔ (proj a f.1 = proj b f.1 → proj a f.2 = proj b f.2) := by
  unfold brk
  by_cases h1 : proj a f.1 = proj b f.1 <;> by_cases h2 : proj a f.2 = proj b f.2 <;> simp [h1, h2]
theorem brk_true {f : Fdp} {a b : Row} : brk f a b = true ↔ (proj a f.1 = proj b f.1 ∧ proj a f.2 ≠ proj b f.2) := by
  unfold brk
  by_cases h1 : proj a f.1 = proj b f.1 <;> by_cases h2 : proj a f.2 = proj b f.2 <;> simp [h1, h2]
theorem brk_comm (f : Fdp) (a b : Row) : brk f a b = brk f b a := by
  cases h : brk f b a with
  | false => exact brk_false.mpr fun e => (brk_false.mp h e.symm).symm
  | true => exact brk_true.mpr ⟨(brk_true.mp h).1.symm, fun e => (brk_true.mp h).2 e.symm⟩
theorem keepsR_iff {f : Fdp} {rs : List Row} : keepsR f rs = true ↔ ∀ a ∈ rs, ∀ b ∈ rs, brk f a b = false := by
  unfold keepsR
  simp [List.all_eq_true]
theorem keepsR_false {f : Fdp} {rs : List Row} {a b : Row} (ha : a ∈ rs) (hb : b ∈ rs) (h : brk f a b = true) : keepsR f rs = false := by
  cases e : keepsR f rs with
  | false => rfl
  | true => rw [keepsR_iff.mp e a ha b hb] at h; cases h
structure WfFd (n : Nat) (f : Fdp) : Prop where
  l : ∀ c ∈ f.1, c ∈ colz n
  r : ∀ c ∈ f.2, c ∈ colz n
  ll : f.1.length ≤ 60
  lr : f.2.length ≤ 60
def WfRows (n : Nat) (rs : List Row) : Prop := ∀ r ∈ rs, r.length = n
abbrev kI (r : Row) : List L2.Key := r.map Sum.inl
theorem kI_kV (r : Row) : (kI r).map kV = r.map V.int := by simp [kI, List.map_map, Function.comp_def, kV]
theorem kI_inj {a b : Row} (h : kI a = kI b) : a = b := by
  induction a generalizing b with
  | nil => cases b with
    | nil => rfl
    | cons _ _ => simp at h
  | cons x a ih => cases b with
    | nil => simp at h
    | cons y b =>
      simp only [List.map_cons, List.cons.injEq] at h
      rw [Sum.inl.inj h.1, ih h.2]
/-- an index of the rows S by a dependency's left side, as keeps_fd builds it -/
structure Idx (H : Hp) (f : Fdp) (kvs : List (List L2.Key × V)) (S : List Row) : Prop where
  len : kvs.length ≤ S.length
  get : ∀ k v, valV kvs k = some v → ∃ r ∈ S, ∃ q, k = kI (proj r f.1) ∧ v = .ref q ∧ H q = some (.tup ((proj r f.2).map V.int))
  has : ∀ r ∈ S, ∃ v, valV kvs (kI (proj r f.1)) = some v
  ok : ∀ a ∈ S, ∀ b ∈ S, brk f a b = false
theorem Idx.sk {H H' : Hp} {f : Fdp} {kvs : List (List L2.Key × V)} {S : List Row} (h : Idx H f kvs S) (k : SK H H') : Idx H' f kvs S :=
  ⟨h.len, fun a v e => by
    obtain ⟨r, hr, q, e1, e2, e3⟩ := h.get a v e
    exact ⟨r, hr, q, e1, e2, k _ _ e3 rfl⟩, h.has, h.ok⟩
theorem brk_self (f : Fdp) (a : Row) : brk f a a = false := brk_false.mpr fun _ => rfl
theorem Idx.old {H : Hp} {f : Fdp} {kvs : List (List L2.Key × V)} {S : List Row} {x r : Row} (h : Idx H f kvs S) (hr : r ∈ S) (el : proj x f.1 = proj r f.1) (er : proj x f.2 = proj r f.2) : Idx H f kvs (S ++ [x]) := by
  have hx : ∀ b ∈ S, brk f x b = false := fun b hb => brk_false.mpr fun e => by
    rw [er]
    exact brk_false.mp (h.ok r hr b hb) (el.symm.trans e)
  refine ⟨by have := h.len; simp; omega, fun k v e => ?_, fun b hb => ?_, fun a ha b hb => ?_⟩
  · obtain ⟨r, hr, q⟩ := h.get k v e
    exact ⟨r, List.mem_append_left _ hr, q⟩
  · rcases List.mem_append.mp hb with hb | hb
    · exact h.has b hb
    · rw [List.mem_singleton.mp hb, el]
      exact h.has r hr
  · rcases List.mem_append.mp ha with ha | ha <;> rcases List.mem_append.mp hb with hb | hb
    · exact h.ok a ha b hb
    · rw [List.mem_singleton.mp hb, brk_comm]
      exact hx a ha
    · rw [List.mem_singleton.mp ha]
      exact hx b hb
    · rw [List.mem_singleton.mp ha, List.mem_singleton.mp hb]
      exact brk_self f x
theorem Idx.new {H : Hp} {f : Fdp} {kvs : List (List L2.Key × V)} {S : List Row} {x : Row} {q : Addr} (h : Idx H f kvs S) (hn : valV kvs (kI (proj x f.1)) = none) (hq : H q = some (.tup ((proj x f.2).map V.int))) : Idx H f (putK kvs (kI (proj x f.1)) (.ref q)) (S ++ [x]) := by
  have hx : ∀ b ∈ S, brk f x b = false := fun b hb => brk_false.mpr fun e => by
    obtain ⟨v, hv⟩ := h.has b hb
    rw [← e, hn] at hv
    cases hv
  refine ⟨by have := h.len; have := length_putK kvs (kI (proj x f.1)) (.ref q); rw [List.length_append, List.length_singleton]; omega, fun k v e => ?_, fun b hb => ?_, fun a ha b hb => ?_⟩
  · rw [valV_put] at e
    split at e
    · rename_i hk
      cases e
      exact ⟨x, List.mem_append_right _ (List.mem_singleton.mpr rfl), q, hk, rfl, hq⟩
    · obtain ⟨r, hr, q⟩ := h.get k v e
      exact ⟨r, List.mem_append_left _ hr, q⟩
  · rw [valV_put]
    split
    · exact ⟨_, rfl⟩
    · rename_i hk
      rcases List.mem_append.mp hb with hb | hb
      · exact h.has b hb
      · exact absurd (by rw [List.mem_singleton.mp hb]) hk
  · rcases List.mem_append.mp ha with ha | ha <;> rcases List.mem_append.mp hb with hb | hb
    · exact h.ok a ha b hb
    · rw [List.mem_singleton.mp hb, brk_comm]
      exact hx a ha
    · rw [List.mem_singleton.mp ha]
      exact hx b hb
    · rw [List.mem_singleton.mp ha, List.mem_singleton.mp hb]
      exact brk_self f x
theorem look_L (l r : V) : ([("left", l), ("right", r)] : List (Str × V)).lookup ("left" : Str) = some l := by simp [List.lookup]
theorem look_R (l r : V) : ([("left", l), ("right", r)] : List (Str × V)).lookup ("right" : Str) = some r := by
  have e : (("right" : Str) == ("left" : Str)) = false := by decide +kernel
  simp [List.lookup, e]
theorem look2n (c r : V) {m : Str} (h1 : (m == ("columns" : Str)) = false) (h2 : (m == ("rows" : Str)) = false) : ([("columns", c), ("rows", r)] : List (Str × V)).lookup m = none := by
  simp [List.lookup, h1, h2]
theorem take_snoc {α : Type} {l : List α} {i : Nat} {x : α} (h : l[i]? = some x) : l.take (i + 1) = l.take i ++ [x] := by
  rw [List.take_succ, h]
  rfl
section
variable {w : World} {K : PySem.W.Frag} {mg : Str → Option Value} {base : Heap} {f : Addr} {fd : FuncData}
def spKeepsFd (K : PySem.W.Frag) : Sp := fun vs H Q _ => ∃ (vt vd : V) (n : Nat) (rs : List Row) (g : Fdp), vs = [vt, vd] ∧ IsTab (aT K) H vt n rs ∧ IsFd (aF K) H vd g ∧ WfFd n g ∧ WfRows n rs ∧ rs.length ≤ 60 ∧ ∀ H', Ext H H' → Q (.bl (keepsR g rs)) H'
abbrev nKf : List Str := ["table", "dependency", "found", "row", "left", "right"]
theorem scKeepsFd : FnScope nKf ["table", "dependency"] (defScope sKeepsFd) := ⟨rfl, rfl, rfl, by decide +kernel, rfl, by decide +kernel, by decide +kernel⟩
theorem ok_keepsFd (F : FnP K "keeps_fd" "keeps_fd" sKeepsFd f fd) (Z : E9 K mg) (cM : C8.Met prog w K mg base 1 (aT K) "cells" (spCells (K := K)) []) : FnOk prog w K mg base CX0 2 f fd ["table", "dependency"] (spKeepsFd K) := by
  refine F.ok scKeepsFd (fun vs H Q E h => ?_) (fun cdv A outer s H vs Q E hr h => ?_)
  · obtain ⟨vt, vd, n, rs, g, rfl, _⟩ := h
    rfl
  · obtain ⟨vt, vd, n, rs, g, rfl, ⟨p, dx, c, ra, rfl, hp, hc, ht⟩, ⟨pf, dxf, al, ar, rfl, hpf, hal, har⟩, wf, wr, hlen, k⟩ := h
    have hu := hu_of hr
    refine ⟨_, PSs.nox (pss_cons (ps_set (i := 2) scKeepsFd.nd rfl (Or.inl rfl) pe_dnewT)
      (pss_cons (ps_for PassesOwn.never rfl (pi_tup (pe_fld (pv 0) rfl)) (pg_name (i := 3) scKeepsFd.nd rfl (Or.inl rfl))
        (pss_cons (ps_set (i := 4) scKeepsFd.nd rfl (Or.inl rfl) (C8.pe_mt cM hr (by decide) (pv 0) (pa_cons (pv 3) (pa_cons (pe_fld (pv 1) rfl) pa_nil))))
        (pss_cons (ps_set (i := 5) scKeepsFd.nd rfl (Or.inl rfl) (C8.pe_mt cM hr (by decide) (pv 0) (pa_cons (pv 3) (pa_cons (pe_fld (pv 1) rfl) pa_nil))))
        (pss_one (ps_if (pt_cmpR (op_neD hr.units) (pe_setdT hu (pv 2) (pv 4) (pv 5) ⟨rfl, rfl, rfl, rfl⟩) (pv 5) (nomark _)) (pss_one (ps_ret pe_bl)) pss_nil)))))
      (pss_one (ps_ret pe_bl)))), ?_⟩
    intro d hd
    obtain ⟨_, xs, hra, ht1, ht2⟩ := ht
    cases hra
    have s0 : Ext H (upd H d (.dT [])) := Ext.upd hd
    refine ⟨_, rfl, p, aT K, dx, _, _, rfl, s0 _ _ hp, Z.cT, Z.tR, look2b _ _, ra, rfl, ⟨_, SqT.of (s0 _ _ ht1)⟩, ?_⟩
    refine for_tup (K := K) (a := ra) (xs := xs) (fun i σ H2 => ∃ (kvs : List (List L2.Key × V)) (a b e : Option V), σ = [some (.ref p), some (.ref pf), some (.ref d), a, b, e] ∧ Ext H H2 ∧ H2 d = some (.dT kvs) ∧ Idx H2 g kvs (rs.take i))
      ⟨[], none, none, none, rfl, s0, upd_same, ⟨(by simp), (fun k v e => by cases e), (fun r hr => by simp at hr), (fun a ha => by simp at ha)⟩⟩ (fun i σ H2 _ q => ?_) ?_ ?_
    · obtain ⟨kvs, a, b, e, _, e2, _⟩ := q
      exact SqT.of (e2 _ _ ht1)
    · rintro i y σ H2 hi ⟨kvs, a, b, e, rfl, e2, hd2, ix⟩
      obtain ⟨x, hx, p0, rfl, hp0⟩ := K9.Paired.getP ht2 hi
      have hxr := List.mem_of_getElem? hx
      have hxl := wr x hxr
      refine ⟨_, rfl, p, dx, _, rfl, e2 _ _ hp, look2n _ _ (by decide +kernel) (by decide +kernel), _, rfl, _, rfl, pf, aF K, dxf, _, _, rfl, e2 _ _ hpf, Z.cF, Z.fL, look_L _ _, ?_⟩
      refine ⟨p, dx, c, ra, .ref p0, .ref al, n, x, g.1, rfl, e2 _ _ hp, hc.sk (SK.ext e2), ⟨p0, rfl, e2 _ _ hp0⟩, ⟨al, rfl, e2 _ _ hal⟩, hxl, wf.l, wf.ll, fun q H3 e3 hq0 hq => ?_⟩
      have e03 := e2.trans e3
      refine ⟨_, rfl, p, dx, _, rfl, e03 _ _ hp, look2n _ _ (by decide +kernel) (by decide +kernel), _, rfl, _, rfl, pf, aF K, dxf, _, _, rfl, e03 _ _ hpf, Z.cF, Z.fR, look_R _ _, ?_⟩
      refine ⟨p, dx, c, ra, .ref p0, .ref ar, n, x, g.2, rfl, e03 _ _ hp, hc.sk (SK.ext e03), ⟨p0, rfl, e03 _ _ hp0⟩, ⟨ar, rfl, e03 _ _ har⟩, hxl, wf.r, wf.lr, fun q2 H4 e4 hq20 hq2 => ?_⟩
      have e04 := e03.trans e4
      have hd4 := e4 _ _ (e3 _ _ hd2)
      have ix4 := ix.sk (SK.ext (e3.trans e4))
      have hl4 : kvs.length < sizeLine := small1000 (by have := ix.len; rw [List.length_take] at this; omega)
      have hqq : H4 q = some (.tup ((kI (proj x g.1)).map kV)) := by rw [kI_kV]; exact e4 _ _ hq
      refine ⟨_, rfl, d, rfl, .inr ⟨kvs, .inl hd4⟩, _, rfl, _, rfl, kvs, kI (proj x g.1), q, hd4, rfl, hqq, hl4, fun v hv => ?_, fun hn => ?_⟩
      · obtain ⟨r, hr', q3, ek, rfl, hq3⟩ := ix4.get _ _ hv
        have el := kI_inj ek
        refine ⟨_, rfl, dRow (proj r g.2), dRow (proj x g.2), IsRow.dp ⟨q3, rfl, hq3⟩, IsRow.dp ⟨q2, rfl, hq2⟩, shaped_row _, shaped_row _, ?_⟩
        rw [eqv_row]
        refine ⟨_, rfl, ?_⟩
        by_cases he : proj r g.2 = proj x g.2
        · rw [decide_eq_true he]
          refine iteF ?_
          refine ⟨kvs, _, _, _, rfl, e04, hd4, ?_⟩
          rw [take_snoc hx]
          exact ix4.old hr' el he.symm
        · rw [decide_eq_false he]
          refine iteT ?_
          rw [show false = keepsR g rs from (keepsR_false (List.mem_of_mem_take hr') hxr (brk_true.mpr ⟨el.symm, he⟩)).symm]
          exact k _ e04
      · have ne4 : q2 ≠ d := fun z => by rw [z, hd4] at hq2; cases hq2
        refine ⟨_, rfl, dRow (proj x g.2), dRow (proj x g.2), IsRow.dp ⟨q2, rfl, by rw [upd_ne ne4]; exact hq2⟩, IsRow.dp ⟨q2, rfl, by rw [upd_ne ne4]; exact hq2⟩, shaped_row _, shaped_row _, ?_⟩
        rw [eqv_row, decide_eq_true rfl]
        refine ⟨_, rfl, ?_⟩
        refine iteF ?_
        refine ⟨_, _, _, _, rfl, Ext.set e04 hd, upd_same, ?_⟩
        rw [take_snoc hx]
        exact (ix4.new hn hq2).sk (SK.upd hd4 rfl)
    · rintro σ H2 ⟨kvs, a, b, e, rfl, e2, hd2, ix⟩
      have hxl : xs.length = rs.length := Paired.length ht2
      rw [hxl, List.take_length] at ix
      rw [show true = keepsR g rs from (keepsR_iff.mpr ix.ok).symm]
      exact k _ e2
end
end K9

set_option maxHeartbeats 4000000
/-! Walks: keeps, breaks, conflicts. -/
namespace K9
open PySem L2
section
variable {w : World} {K : PySem.W.Frag} {mg : Str → Option Value} {base : Heap} {f : Addr} {fd : FuncData}
theorem scKeeps : FnScope ["table", "dependency"] ["table", "dependency"] (defScope sKeeps) := ⟨rfl, rfl, rfl, by decide +kernel, rfl, by decide +kernel, by decide +kernel⟩
theorem ok_keeps (F : FnP K "keeps" "keeps" sKeeps f fd) (Z : E9 K mg) (cK : C8.Cal prog w K mg base 2 "keeps_fd" (spKeepsFd K) []) : FnOk prog w K mg base CX0 3 f fd ["table", "dependency"] (spKeepsFd K) := by
  refine F.ok scKeeps (fun vs H Q E h => ?_) (fun cdv A outer s H vs Q E hr h => ?_)
  · obtain ⟨vt, vd, n, rs, g, rfl, _⟩ := h
    rfl
  · obtain ⟨vt, vd, n, rs, g, rfl, h⟩ := h
    obtain ⟨ht, ⟨pf, dxf, al, ar, rfl, hpf, hal, har⟩, wf, wr, hlen, k⟩ := id h
    refine ⟨_, PSs.nox (pss_cons (ps_if (pt_val (pe_callB (C8.call_isC Z.iF) (by rfl) Z.isi (by decide +kernel) (pa_cons (pv 1) (pa_cons (C8.pe_gc (v := .ref (aF K)) (by rfl) ⟨_, Z.gF, rfl⟩) pa_nil))))
      (pss_one (ps_ret (C8.pe_c cK hr (by decide) (by rfl) (pa_cons (pv 0) (pa_cons (pv 1) pa_nil))))) pss_nil) (pss_one ps_never)), ?_⟩
    refine ⟨_, rfl, pf, dxf, _, rfl, hpf, ?_⟩
    refine ⟨_, rfl, ?_⟩
    refine iteT ?_
    exact ⟨_, rfl, _, rfl, vt, _, n, rs, g, rfl, h⟩
/-! ### breaks -/
def spBreaks (K : PySem.W.Frag) : Sp := fun vs H Q _ => ∃ (vt vd : V) (n i j : Nat) (rs : List Row) (g : Fdp) (a b : Row), vs = [vt, vd, .int i, .int j] ∧ IsTab (aT K) H vt n rs ∧ IsFd (aF K) H vd g ∧ WfFd n g ∧ WfRows n rs ∧ rs[i]? = some a ∧ rs[j]? = some b ∧ ∀ H', Ext H H' → Q (.bl (brk g a b)) H'
abbrev nBr : List Str := ["table", "dependency", "first", "second", "one", "two"]
theorem scBreaks : FnScope nBr ["table", "dependency", "first", "second"] (defScope sBreaks) := ⟨rfl, rfl, rfl, by decide +kernel, rfl, by decide +kernel, by decide +kernel⟩
theorem ok_breaks (F : FnP K "breaks" "breaks" sBreaks f fd) (Z : E9 K mg) (cM : C8.Met prog w K mg base 1 (aT K) "cells" (spCells (K := K)) []) : FnOk prog w K mg base CX0 2 f fd ["table", "dependency", "first", "second"] (spBreaks K) := by
  refine F.ok scBreaks (fun vs H Q E h => ?_) (fun cdv A outer s H vs Q E hr h => ?_)
  · obtain ⟨vt, vd, n, i, j, rs, g, a, b, rfl, _⟩ := h
    rfl
  · obtain ⟨vt, vd, n, i, j, rs, g, a, b, rfl, ⟨p, dx, c, ra, rfl, hp, hc, ht⟩, ⟨pf, dxf, al, ar, rfl, hpf, hal, har⟩, wf, wr, hi, hj, k⟩ := h
    refine ⟨_, PSs.nox (pss_cons (ps_set (i := 4) scBreaks.nd rfl (Or.inl rfl) (pe_ix ix_tup (pe_fld (pv 0) rfl) (pv 2) (fun _ _ => rfl)))
      (pss_cons (ps_set (i := 5) scBreaks.nd rfl (Or.inl rfl) (pe_ix ix_tup (pe_fld (pv 0) rfl) (pv 3) (fun _ _ => rfl)))
      (pss_cons (ps_if (pt_cmpR (op_neD hr.units) (C8.pe_mt cM hr (by decide) (pv 0) (pa_cons (pv 4) (pa_cons (pe_fld (pv 1) rfl) pa_nil))) (C8.pe_mt cM hr (by decide) (pv 0) (pa_cons (pv 5) (pa_cons (pe_fld (pv 1) rfl) pa_nil))) (nomark _)) (pss_one (ps_ret pe_bl)) pss_nil)
      (pss_one (ps_ret (pe_cmpR (op_neD hr.units) (C8.pe_mt cM hr (by decide) (pv 0) (pa_cons (pv 4) (pa_cons (pe_fld (pv 1) rfl) pa_nil))) (C8.pe_mt cM hr (by decide) (pv 0) (pa_cons (pv 5) (pa_cons (pe_fld (pv 1) rfl) pa_nil))) (nomark _))))))), ?_⟩
    obtain ⟨_, xs, hra, ht1, ht2⟩ := ht
    cases hra
    obtain ⟨va, hva, pa, rfl, ha⟩ := K9.Paired.getR ht2 hi
    obtain ⟨vb, hvb, pb, rfl, hb⟩ := K9.Paired.getR ht2 hj
    have la := wr a (List.mem_of_getElem? hi)
    have lb := wr b (List.mem_of_getElem? hj)
    refine ⟨_, rfl, p, aT K, dx, _, _, rfl, hp, Z.cT, Z.tR, look2b _ _, _, rfl, ra, xs, _, _, rfl, rfl, SqT.of ht1, atI_nat hva, ?_⟩
    refine ⟨_, rfl, p, aT K, dx, _, _, rfl, hp, Z.cT, Z.tR, look2b _ _, _, rfl, ra, xs, _, _, rfl, rfl, SqT.of ht1, atI_nat hvb, ?_⟩
    refine ⟨_, rfl, p, dx, _, rfl, hp, look2n _ _ (by decide +kernel) (by decide +kernel), _, rfl, _, rfl, pf, aF K, dxf, _, _, rfl, hpf, Z.cF, Z.fL, look_L _ _, ?_⟩
    refine ⟨p, dx, c, ra, .ref pa, .ref al, n, a, g.1, rfl, hp, hc, ⟨pa, rfl, ha⟩, ⟨al, rfl, hal⟩, la, wf.l, wf.ll, fun q1 H1 e1 _ hq1 => ?_⟩
    refine ⟨_, rfl, p, dx, _, rfl, e1 _ _ hp, look2n _ _ (by decide +kernel) (by decide +kernel), _, rfl, _, rfl, pf, aF K, dxf, _, _, rfl, e1 _ _ hpf, Z.cF, Z.fL, look_L _ _, ?_⟩
    refine ⟨p, dx, c, ra, .ref pb, .ref al, n, b, g.1, rfl, e1 _ _ hp, hc.sk (SK.ext e1), ⟨pb, rfl, e1 _ _ hb⟩, ⟨al, rfl, e1 _ _ hal⟩, lb, wf.l, wf.ll, fun q2 H2 e2 _ hq2 => ?_⟩
    have e02 := e1.trans e2
    refine ⟨dRow (proj a g.1), dRow (proj b g.1), IsRow.dp ⟨q1, rfl, e2 _ _ hq1⟩, IsRow.dp ⟨q2, rfl, hq2⟩, shaped_row _, shaped_row _, ?_⟩
    rw [eqv_row]
    refine ⟨_, rfl, ?_⟩
    by_cases he : proj a g.1 = proj b g.1
    · rw [decide_eq_true he]
      refine iteF ?_
      refine ⟨_, rfl, p, dx, _, rfl, e02 _ _ hp, look2n _ _ (by decide +kernel) (by decide +kernel), _, rfl, _, rfl, pf, aF K, dxf, _, _, rfl, e02 _ _ hpf, Z.cF, Z.fR, look_R _ _, ?_⟩
      refine ⟨p, dx, c, ra, .ref pa, .ref ar, n, a, g.2, rfl, e02 _ _ hp, hc.sk (SK.ext e02), ⟨pa, rfl, e02 _ _ ha⟩, ⟨ar, rfl, e02 _ _ har⟩, la, wf.r, wf.lr, fun q3 H3 e3 _ hq3 => ?_⟩
      have e03 := e02.trans e3
      refine ⟨_, rfl, p, dx, _, rfl, e03 _ _ hp, look2n _ _ (by decide +kernel) (by decide +kernel), _, rfl, _, rfl, pf, aF K, dxf, _, _, rfl, e03 _ _ hpf, Z.cF, Z.fR, look_R _ _, ?_⟩
      refine ⟨p, dx, c, ra, .ref pb, .ref ar, n, b, g.2, rfl, e03 _ _ hp, hc.sk (SK.ext e03), ⟨pb, rfl, e03 _ _ hb⟩, ⟨ar, rfl, e03 _ _ har⟩, lb, wf.r, wf.lr, fun q4 H4 e4 _ hq4 => ?_⟩
      refine ⟨dRow (proj a g.2), dRow (proj b g.2), IsRow.dp ⟨q3, rfl, e4 _ _ hq3⟩, IsRow.dp ⟨q4, rfl, hq4⟩, shaped_row _, shaped_row _, ?_⟩
      rw [eqv_row]
      have z := k H4 (e03.trans e4)
      unfold brk at z
      rw [decide_eq_true he, Bool.true_and] at z
      exact z
    · rw [decide_eq_false he]
      refine iteT ?_
      have z := k H2 e02
      unfold brk at z
      rw [decide_eq_false he, Bool.false_and] at z
      exact z
/-! ### conflicts -/
def cfl (fs : List Fdp) (a b : Row) : Bool := fs.any fun g => brk g a b
/-- the pairs of places told by rows [x, y, k] are those of P -/
structure Told (cs : List Row) (P : Nat → Nat → Prop) : Prop where
  is : ∀ r ∈ cs, ∃ x y k : Nat, r = [(x : Int), (y : Int), (k : Int)] ∧ P x y
  has : ∀ x y, P x y → ∃ k : Nat, [(x : Int), (y : Int), (k : Int)] ∈ cs
def CflAt (fs : List Fdp) (rs : List Row) (x y : Nat) : Prop := x < y ∧ ∃ a b, rs[x]? = some a ∧ rs[y]? = some b ∧ cfl fs a b = true
theorem Told.imp {cs : List Row} {P P' : Nat → Nat → Prop} (h : Told cs P) (e : ∀ x y, P x y ↔ P' x y) : Told cs P' :=
  ⟨fun r hr => let ⟨x, y, k, a, b⟩ := h.is r hr; ⟨x, y, k, a, (e x y).mp b⟩, fun x y p => h.has x y ((e x y).mpr p)⟩
theorem Told.snoc {cs : List Row} {P : Nat → Nat → Prop} {a b k : Nat} (h : Told cs P) : Told (cs ++ [[(a : Int), (b : Int), (k : Int)]]) (fun x y => P x y ∨ (x = a ∧ y = b)) := by
  refine ⟨fun r hr => ?_, fun x y p => ?_⟩
  · rcases List.mem_append.mp hr with hr | hr
    · obtain ⟨x, y, k', e, p⟩ := h.is r hr
      exact ⟨x, y, k', e, .inl p⟩
    · exact ⟨a, b, k, List.mem_singleton.mp hr, .inr ⟨rfl, rfl⟩⟩
  · rcases p with p | ⟨rfl, rfl⟩
    · obtain ⟨k', m⟩ := h.has x y p
      exact ⟨k', List.mem_append_left _ m⟩
    · exact ⟨k, List.mem_append_right _ (List.mem_singleton.mpr rfl)⟩
theorem Told.perm {cs ds : List Row} {P : Nat → Nat → Prop} (h : Told cs P) (p : ds.Perm cs) : Told ds P :=
  ⟨fun r hr => h.is r (p.mem_iff.mp hr), fun x y q => let ⟨k, m⟩ := h.has x y q; ⟨k, p.mem_iff.mpr m⟩⟩
end
end K9

set_option maxHeartbeats 4000000
/-! Walks: conflicts. -/
namespace K9
open PySem L2
section
variable {w : World} {K : PySem.W.Frag} {mg : Str → Option Value} {base : Heap} {f : Addr} {fd : FuncData}
def spConfl (K : PySem.W.Frag) : Sp := fun vs H Q _ => ∃ (vt : V) (ld n : Nat) (fvs : List V) (rs : List Row) (fs : List Fdp), vs = [vt, .ref ld] ∧ IsTab (aT K) H vt n rs ∧ SqL K H ld fvs ∧ Fds (aF K) H fvs fs ∧ (∀ g ∈ fs, WfFd n g) ∧ WfRows n rs ∧ rs.length ≤ 60 ∧ fs.length ≤ 60 ∧
  ∀ (q : Addr) (items : List V) (cs : List Row) (H' : Hp), Ext H H' → H q = none → H' q = some (.lst items) → Rows H' items cs → cs.length ≤ 4000 → Told cs (CflAt fs rs) → Q (.ref q) H'
abbrev nCf : List Str := ["table", "dependencies", "found", "second", "first", "broken", "index", "one"]
theorem scConfl : FnScope nCf ["table", "dependencies"] (defScope sConfl) := ⟨rfl, rfl, rfl, by decide +kernel, rfl, by decide +kernel, by decide +kernel⟩
theorem rows_perm {ks : List (Addr × List Int)} {L : List (Addr × List Int)} {H : Hp} (h : ∀ p ∈ ks, H p.1 = some (.tup (p.2.map V.int))) (p : L.Perm ks) : Rows H (L.map fun p => V.ref p.1) (L.map (·.2)) := of_pairs fun q hq => h q (p.mem_iff.mp hq)
theorem ok_confl (F : FnP K "conflicts" "conflicts" sConfl f fd) (Z : E9 K mg) (cB : C8.Cal prog w K mg base 2 "breaks" (spBreaks K) []) : FnOk prog w K mg base CX0 3 f fd ["table", "dependencies"] (spConfl K) := by
  refine F.ok scConfl (fun vs H Q E h => ?_) (fun cdv A outer s H vs Q E hr h => ?_)
  · obtain ⟨vt, ld, n, fvs, rs, fs, rfl, _⟩ := h
    rfl
  · obtain ⟨vt, ld, n, fvs, rs, fs, rfl, ⟨p, dx, c, ra, rfl, hp, hc, _, xs, hra, ht1, ht2⟩, hld, hfd, wf, wr, hl1, hl2, k⟩ := h
    cases hra
    have hxs : xs.length = rs.length := Paired.length ht2
    have hfs : fvs.length = fs.length := Paired.length hfd
    refine ⟨_, PSs.nox (pss_cons (ps_set (i := 2) scConfl.nd rfl (Or.inl rfl) (pe_lst pa_nil))
      (pss_cons (ps_for PassesOwn.never rfl (pi_range1 (by rfl) Z.rng (pa_cons (pe_callB call_len (by rfl) Z.len PySem.boot_len (pa_cons (pe_fld (pv 0) rfl) pa_nil)) pa_nil)) (pg_name (i := 3) scConfl.nd rfl (Or.inr rfl))
        (pss_one (ps_for PassesOwn.never rfl (pi_range1 (by rfl) Z.rng (pa_cons (pv 3) pa_nil)) (pg_name (i := 4) scConfl.nd rfl (Or.inr rfl))
          (pss_cons (ps_setLc (i := 5) (own := [("index", 6), ("one", 7)]) (g := gTup K 2 (gCons (gName 6) (gCons (gName 7) gNil))) (tt := tB (tCall (spBreaks K) [] C8.E0 (tCons (tVar 0) (tCons (tVar 7) (tCons (tVar 4) (tCons (tVar 3) tNil)))))) (te := tVar 6) rfl scConfl.nd rfl rfl (sw_true rfl rfl rfl (by decide +kernel)) (pi_enum (by rfl) Z.enu (pa_cons (pv 1) pa_nil)) (blkOk_by (N := nCf) (sc := defScope sConfl) (by decide +kernel))
              (fun _ _ _ _ _ => pg_tup rfl (pgs_cons (pg_name (i := 6) scConfl.nd rfl (Or.inl rfl)) (pgs_cons (pg_name (i := 7) scConfl.nd rfl (Or.inl rfl)) pgs_nil)))
              (fun _ _ _ _ _ => pts_one (pt_val (C8.pe_c cB hr (by decide) (by rfl) (pa_cons (pv 0) (pa_cons (pv 7) (pa_cons (pv 4) (pa_cons (pv 3) pa_nil)))))))
              (fun _ _ _ _ _ => pv 6))
          (pss_one (ps_if (pt_cmpR op_gt (pe_callB call_len (by rfl) Z.len PySem.boot_len (pa_cons (pv 5) pa_nil)) pe_int (nomark _))
            (pss_one (ps_expr (pe_bm PySem.F.plainAttrs_list PySem.F.slot_list_append PySem.F.type_list_append mt_append (pv 2) (pa_cons (pe_tup (pa_cons (pv 4) (pa_cons (pv 3) (pa_cons (pe_ix ix_list (pv 5) pe_int (fun _ _ => rfl)) pa_nil)))) pa_nil)))) pss_nil))))))
      (pss_one (ps_ret (pe_callB (cr_sortD (ref := fun b : Addr × List Int => V.ref b.1) (enc := fun b : Addr × List Int => dRow b.2) hr (fun b b' => alike_row b.2 b'.2)) (by rfl) Z.srt (by decide +kernel) (pa_cons (pv 2) pa_nil)))))), ?_⟩
    refine ⟨by decide, fun F0 hF => ?_⟩
    have s0 : Ext H (upd H F0 (.lst [])) := Ext.upd hF
    refine ⟨_, rfl, p, aT K, dx, _, _, rfl, s0 _ _ hp, Z.cT, Z.tR, look2b _ _, ?_⟩
    refine ⟨_, _, rfl, .inr ⟨_, SqT.of (s0 _ _ ht1), rfl⟩, _, rfl, by omega, by omega, ?_⟩
    rw [hxs, Int.toNat_natCast]
    refine for_range (lo := 0) (n := rs.length) (fun i σ H2 => ∃ (a b e : Option V) (items : List V) (cs : List Row), σ = [some (.ref p), some (.ref ld), some (.ref F0), a, b, e, none, none] ∧ Ext H H2 ∧ H2 F0 = some (.lst items) ∧ Rows H2 items cs ∧ cs.length ≤ i * 60 ∧ Told cs (fun x y => CflAt fs rs x y ∧ y < i))
      ⟨none, none, none, [], [], rfl, s0, upd_same, .nil, by simp, ⟨(fun r hr => by cases hr), fun x y h => absurd h.2 (by omega)⟩⟩ ?_ ?_
    · rintro i σ H2 hi ⟨a, b, e, items, cs, rfl, e2, hF2, hit, hlc, tl⟩
      refine ⟨_, rfl, _, rfl, by omega, by omega, ?_⟩
      rw [show (0 + (i : Int)).toNat = i by omega]
      refine for_range (lo := 0) (n := i) (fun j σ H2 => ∃ (a b : Option V) (items : List V) (cs : List Row), σ = [some (.ref p), some (.ref ld), some (.ref F0), some (.int (0 + i)), a, b, none, none] ∧ Ext H H2 ∧ H2 F0 = some (.lst items) ∧ Rows H2 items cs ∧ cs.length ≤ i * 60 + j ∧ Told cs (fun x y => CflAt fs rs x y ∧ (y < i ∨ (y = i ∧ x < j))))
        ⟨b, e, items, cs, rfl, e2, hF2, hit, by omega, tl.imp fun x y => by constructor <;> (rintro ⟨h1, h2⟩; exact ⟨h1, by omega⟩)⟩ ?_ ?_
      · rintro j σ H3 hj ⟨a', b', items, cs, rfl, e3, hF3, hit, hlc, tl⟩
        obtain ⟨xa, hxa⟩ : ∃ xa, rs[j]? = some xa := ⟨_, List.getElem?_eq_getElem (by omega)⟩
        obtain ⟨xb, hxb⟩ : ∃ xb, rs[i]? = some xb := ⟨_, List.getElem?_eq_getElem hi⟩
        refine ⟨_, rfl, ld, fvs, rfl, hld.ext e3, fun D hD => ?_⟩
        refine lc_it (walk_enum (xs := fvs)) (fun t H4 => ∃ acc : List Nat, H4 D = some (.lst (acc.map fun k : Nat => V.int k)) ∧ Ext H3 H4 ∧ (acc = [] ↔ ∀ g ∈ fs.take t, brk g xa xb = false) ∧ acc.length ≤ t)
          ⟨[], upd_same, Ext.upd hD, by simp, Nat.le_refl _⟩ (fun t H4 _ q => ?_) ?_ ?_
        · obtain ⟨acc, _, e4, _⟩ := q
          exact hld.ext (e3.trans e4)
        · rintro t x H4 H4' ht ⟨acc, hD4, e4, hac, hal⟩ ⟨T, x1, y1, rfl, hT, rfl, hx1, hy1⟩
          cases hx1
          obtain ⟨g, hg, hgf⟩ := K9.Paired.getP hfd hy1
          have e5 := e4.trans (Ext.upd (o := HO.tup [V.int t, y1]) hT)
          have e05 := e3.trans e5
          have hD5 : upd H4 T (.tup [V.int t, y1]) D = some (.lst (acc.map fun k : Nat => V.int k)) := Ext.upd hT _ _ hD4
          refine ⟨T, _, rfl, SqT.of upd_same, rfl, _, _, rfl, _, _, rfl, rfl, rfl, ?_⟩
          refine ⟨_, rfl, _, rfl, _, rfl, _, rfl, ?_⟩
          refine ⟨.ref p, y1, n, j, i, rs, g, xa, xb, ?_, ⟨p, dx, c, ra, rfl, e05 _ _ hp, hc.sk (SK.ext e05), ra, xs, rfl, e05 _ _ ht1, ht2.sk (SK.ext e05)⟩, hgf.sk (SK.ext e05), wf g (List.mem_of_getElem? hg), wr, hxa, hxb, fun H6 e6 => ?_⟩
          · show [V.ref p, y1, V.int (0 + (j : Int)), V.int (0 + (i : Int))] = _
            rw [Int.zero_add, Int.zero_add]
          refine ⟨_, rfl, ?_⟩
          have hmem : ∀ g', g' ∈ fs.take (t + 1) ↔ g' ∈ fs.take t ∨ g' = g := fun g' => by rw [take_snoc hg]; simp
          cases hb : brk g xa xb with
          | true =>
            refine iteT ?_
            refine ⟨_, rfl, _, e6 _ _ hD5, (by rw [List.length_map]; exact small1000 (by omega)), acc ++ [t], by rw [upd_same]; simp, ?_, ?_, by simp; omega⟩
            · exact Ext.set (e5.trans e6) hD
            · constructor
              · intro z; simp at z
              · intro z
                rw [z g ((hmem g).mpr (.inr rfl))] at hb
                cases hb
          | false =>
            refine iteF ?_
            refine ⟨acc, e6 _ _ hD5, e5.trans e6, ?_, by omega⟩
            rw [hac]
            constructor
            · intro z g' hg'
              rcases (hmem g').mp hg' with h | h
              · exact z g' h
              · rw [h]; exact hb
            · intro z g' hg'
              exact z g' ((hmem g').mpr (.inl hg'))
        · rintro H4 ⟨acc, hD4, e4, hac, hal⟩
          rw [hfs, List.take_length] at hac
          have e04 := e3.trans e4
          refine ⟨_, rfl, _, _, rfl, .inl ⟨_, SqL.of hD4, rfl⟩, _, _, rfl, rfl, _, rfl, ?_⟩
          rw [List.length_map]
          have hF4 := e4 _ _ hF3
          have hcf : cfl fs xa xb = false ↔ ∀ g ∈ fs, brk g xa xb = false := by
            unfold cfl
            simp
          cases acc with
          | nil =>
            rw [show decide ((0 : Int) < (([] : List Nat).length : Nat)) = false by decide]
            refine iteF ?_
            have hno := hcf.mpr (hac.mp rfl)
            refine ⟨_, _, items, cs, rfl, e04, hF4, hit.sk (SK.ext e4), by omega, tl.imp fun x y => ?_⟩
            constructor
            · rintro ⟨h1, h2⟩
              exact ⟨h1, by omega⟩
            · rintro ⟨h1, h2⟩
              refine ⟨h1, ?_⟩
              rcases h2 with h2 | ⟨h2, h3⟩
              · exact .inl h2
              · refine .inr ⟨h2, ?_⟩
                apply Classical.byContradiction
                intro h4
                obtain rfl : x = j := by omega
                subst h2
                obtain ⟨_, a1, b1, ea, eb, hc1⟩ := h1
                rw [hxa] at ea
                rw [hxb] at eb
                cases ea
                cases eb
                rw [hno] at hc1
                cases hc1
          | cons k0 acc =>
            rw [decide_eq_true (show (0 : Int) < ((k0 :: acc).length : Nat) by simp)]
            refine iteT ?_
            have hyes : cfl fs xa xb = true := by
              cases z : cfl fs xa xb with
              | true => rfl
              | false => cases hac.mpr (hcf.mp z)
            refine ⟨_, rfl, .inl ⟨rfl, _, SqL.of hF4⟩, _, rfl, _, rfl, _, rfl, D, _, _, _, rfl, rfl, SqL.of hD4, atI_nat (j := 0) (v := V.int k0) rfl, by show 3 ≤ sizeLine; decide, fun T hT => ?_⟩
            have hFT : upd H4 T (.tup [V.int (0 + (j : Int)), V.int (0 + (i : Int)), V.int k0]) F0 = some (.lst items) := Ext.upd hT _ _ hF4
            refine ⟨F0, _, _, rfl, rfl, hFT, ?_, ?_⟩
            · have := Paired.length hit
              rw [this]
              refine Nat.lt_of_le_of_lt ?_ (show 5000 < sizeLine by decide)
              omega
            · have eT := e04.trans (Ext.upd (o := HO.tup [V.int (0 + (j : Int)), V.int (0 + (i : Int)), V.int k0]) hT)
              refine ⟨_, _, _, cs ++ [[(j : Int), (i : Int), (k0 : Int)]], rfl, Ext.set eT hF, upd_same, ?_, by rw [List.length_append, List.length_singleton]; omega, ?_⟩
              · refine K9.Paired.snoc' (((hit.sk (SK.ext e4)).sk (SK.new hT)).sk (SK.lst hFT)) ⟨T, rfl, ?_⟩
                rw [upd_ne fun z => ?_, upd_same]
                · simp
                · rw [z, hF4] at hT
                  cases hT
              · refine tl.snoc.imp fun x y => ?_
                constructor
                · rintro (⟨h1, h2⟩ | ⟨rfl, rfl⟩)
                  · exact ⟨h1, by omega⟩
                  · exact ⟨⟨hj, xa, xb, hxa, hxb, hyes⟩, .inr ⟨rfl, by omega⟩⟩
                · rintro ⟨h1, h2⟩
                  by_cases h4 : x = j ∧ y = i
                  · exact .inr h4
                  · exact .inl ⟨h1, by omega⟩
      · rintro σ H3 ⟨a', b', items, cs, rfl, e3, hF3, hit, hlc, tl⟩
        refine ⟨_, _, _, items, cs, rfl, e3, hF3, hit, by rw [Nat.succ_mul]; omega, tl.imp fun x y => ?_⟩
        constructor
        · rintro ⟨h1, h2⟩
          exact ⟨h1, by omega⟩
        · rintro ⟨h1, h2⟩
          have := h1.1
          exact ⟨h1, by omega⟩
    · rintro σ H2 ⟨a, b, e, items, cs, rfl, e2, hF2, hit, hlc, tl⟩
      obtain ⟨ks, rfl, rfl, hks⟩ := pairs_of hit
      refine ⟨_, rfl, F0, ks, rfl, SqL.of hF2, fun b hb => IsRow.dp ⟨b.1, rfl, hks b hb⟩, sortable_rows (fun b : Addr × List Int => b.2) fun b hb => ?_, fun b hb => ?_, fun q hq => ?_⟩
      · obtain ⟨x, y, k', z, _⟩ := tl.is b.2 (List.mem_map_of_mem hb)
        rw [z]
        simp
      · have := depth_row b.2
        show (dRow b.2).depth ≤ 8
        omega
      · have pm := List.mergeSort_perm ks (PySem.W.dataLe false fun b : Addr × List Int => dRow b.2)
        refine k q _ ((ks.mergeSort (PySem.W.dataLe false fun b : Addr × List Int => dRow b.2)).map (·.2)) _ (e2.trans (Ext.upd hq)) (Ext.free e2 hq) upd_same ?_ ?_ ?_
        · exact (rows_perm hks pm).sk (SK.new hq)
        · rw [List.length_map] at hlc ⊢
          rw [pm.length_eq]
          omega
        · refine (tl.perm (pm.map (·.2))).imp fun x y => ?_
          constructor
          · exact fun h => h.1
          · intro h
            obtain ⟨h1, a1, b1, ea, eb, _⟩ := id h
            exact ⟨h, (List.getElem?_eq_some_iff.mp eb).1⟩
end
end K9

set_option maxHeartbeats 4000000
/-! Rules: sorted of a list of one item at most; sorted(xs, key=lambda part: (len(part), part)). -/
namespace K9
open PySem PySem.Spec PySem.Calls PyProof.Rows L2
theorem cr_or {X : Cx} {f : Value} {r1 r2 : List V → Hp → VK → Prop} (h1 : CallR X f r1) (h2 : CallR X f r2) : CallR X f (fun xs H Q => r1 xs H Q ∨ r2 xs H Q) := fun pins s σ H xs us Q I r h => h.elim (h1 pins s σ H xs us Q I r) (h2 pins s σ H xs us Q I r)
def rSorted1 (K : PySem.W.Frag) : List V → Hp → VK → Prop := fun vs H Q => ∃ (a : Addr) (xs : List V), vs = [V.ref a] ∧ SqL K H a xs ∧ xs.length ≤ 1 ∧ ∀ q, H q = none → Q (.ref q) (upd H q (.lst xs))
theorem perm_one {α : Type} {a b : List α} (h : a.Perm b) (hl : b.length ≤ 1) : a = b := by
  match b, hl with
  | [], _ => exact List.perm_nil.mp h
  | [x], _ => exact List.perm_singleton.mp h
theorem cr_sorted1 {X : Cx} : CallR X (.builtin "sorted") (rSorted1 X.K) := by
  intro pins s σ H vs us Q I r h
  obtain ⟨a, xs, rfl, hs, hl1, q⟩ := h
  obtain ⟨its, rv, hl, hz⟩ := I.list hs
  rw [Vals.ref1 r]
  have hlen := rv.length
  refine Srt.sorted_any hl.isList (by omega) (fun h2 => by omega) fun out ho => ?_
  obtain rfl : out = its := perm_one ho (by omega)
  obtain ⟨ep, he⟩ := PyProof.Rows.sortedAll_at s.heap out out.toArray
  exact ⟨.ref (s.heap.objs.size + 1), upd H (s.heap.objs.size + 1) (.lst xs), I.laid (t' := s.toks) (fun _ _ => PyProof.Rows.sortedAll_old) (Nat.le_succ _) ⟨hz, out, ep, rv, he⟩, rfl, q _ (I.hok.fresh (Nat.le_succ _))⟩
/-- the key of a part -/
abbrev kPart (r : Row) : PyData := .tuple [.int (r.length : Nat), dRow r]
theorem lamKey_call {P : Program} {w : World} {A : Around} {s : Shared} {f c' p : Addr} {q : Str} {params : Arguments} {scope : Scope} {pm ctv : Value} {p1 p2 p3 p4 p5 : Pos} {x1 : _} {mg mb : Str → Option Value} {r : Row} {its : Array Value}
    (hroom : A.depth < recursionLimit) (hf : s.heap.get? f = some (PySem.W.kla_obj "<lambda>" q params (.Tuple [.Call (.Name "len" p1) [.Name "part" p2] [] p3, .Name "part" p4] x1 p5) scope [] pm c' ctv)) (hcd : s.heap.CodeRec (.ref c') q)
    (hbind : bindArgs (PySem.W.kla_fn "<lambda>" q params (.Tuple [.Call (.Name "len" p1) [.Name "part" p2] [] p3, .Name "part" p4] x1 p5) scope [] pm (.ref c') ctv) ⟨[Value.ref p], []⟩ = pure [(("part" : Str), Value.ref p)])
    (hk : scope.kind = .function) (hco : scope.isCoroutine = false) (hgen : scope.isGenerator = false) (hnc : ∀ x ∈ scope.names, x.2 ≠ .cell) (hlp : scope.names.lookup ("part" : Str) = some .local) (hll : scope.names.lookup ("len" : Str) = some .globalImplicit)
    (lim : s.heap.NoLimit) (hg : s.heap.Ns mainGlobals mg) (hm : mg "len" = none) (hb : s.heap.Ns builtinsNs mb) (hbl : mb "len" = some (.builtin "len"))
    (ht : IsTup s.heap p its) (hz : its.size ≤ sizeLine) (hr : IntsAre its.toList r) : wpAny (model P w) A (call (.ref f) [.ref p]) (PySem.W.KeyPure (kPart r) s) (fun _ _ => False) s := by
  have hl := line63
  have hs : sizeLine = 16777216 := sizeLine_eq
  refine wpAny_call (PySem.W.kla_callFunE hroom hf rfl hco hgen rfl hcd ?_)
  rw [hbind]
  refine wpAny_pure (wpAny_newFunctionEnv hnc (fun y hy => ?_) (fun h₁ hns hsb => ⟨lim.fresh _ hsb, ?_⟩) hk)
  · rw [List.mem_singleton.mp hy]
    exact hlp
  have kp : ∀ b o, s.heap.get? b = some o → h₁.get? b = some o := fun b o e => hsb.extBut b o (Nat.ne_of_lt (Heap.lt_size e)) (Heap.get?_push_of_some _ e)
  have mP : (fun x => ([(("part" : Str), Value.ref p)]).reverse.lookup x) ("part" : Str) = some (.ref p) := by simp [List.lookup]
  refine PySem.W.kla_codeExpr (wpAny_Tuple_spliced ?_)
  refine spliced_cons ?_
  refine wpAny_Call_Name_kw (Name_function_global hk hll (loadGlobal_builtin (hg.keeps kp) hm (hb.keeps kp) hbl ?_) (by decide +kernel))
  refine callWith_builtin1 ?_ (by rfl) (by rfl)
  refine spliced_cons (wpAny_Name (wpAny_loadName_local hk hlp hns mP ?_) (by decide +kernel))
  refine spliced_nil ?_
  have ht1 := ht.keeps kp
  refine len_tuple ht1 (by omega) ?_
  refine spliced_cons (wpAny_Name (wpAny_loadName_local hk hlp hns mP ?_) (by decide +kernel))
  refine spliced_nil ⟨by show 2 ≤ sizeLine; decide, ?_⟩
  refine ⟨_, _, rfl, fun b o e => Heap.get?_push_of_some _ (kp b o e), ?_⟩
  obtain ⟨o, ho, hc, n, hd⟩ := ht1
  have go : ∀ {us : List Value} {r : List Int}, IntsAre us r → ∀ h : Heap, us.length = r.length ∧ ReadsAll h us (r.map PyData.int) [] := by
    intro us r z h
    induction z with
    | nil => exact ⟨rfl, .nil⟩
    | cons x t _ ih => exact ⟨congrArg Nat.succ ih.1, .cons (as := []) (bs := []) (.int _ _) ih.2⟩
  have el : its.size = r.length := by
    have := (go hr h₁).1
    rwa [Array.length_toList] at this
  rw [el]
  refine .tuple (Heap.get?_push_size _ rfl) rfl rfl (.cons (as := []) (bs := []) (.int _ _) (.cons (as := []) (bs := []) (.tuple (Heap.get?_push_of_some _ ho) hc hd ?_) .nil))
  exact (go hr _).2
def tSortKey (K : PySem.W.Frag) (P : Addr) (te : TE) : TE := fun σ H Q => te σ H fun x H1 => ∃ (a : Addr) (ks : List (Addr × Row)), x = .ref a ∧ SqL K H1 a (ks.map fun k => V.ref k.1) ∧ (∀ k ∈ ks, H1 k.1 = some (.tup (k.2.map V.int))) ∧ LamX.TabS H1 P lamName ∧
  ∀ (H2 : Hp) (q : Addr) (ks' : List (Addr × Row)), Keep P H1 H2 → H2 q = some (.lst (ks'.map fun k => V.ref k.1)) → ks'.Perm ks → ks'.Pairwise (fun x y => x.2.length ≤ y.2.length) → Q (.ref q) H2
theorem kPart_lt (x y : Row) : PySem.W.dataLt (kPart x) (kPart y) = decide (x.length < y.length ∨ (x.length = y.length ∧ x < y)) := by
  have al : PySem.W.alike (.int (x.length : Nat)) (.int (y.length : Nat)) = true := by simp only [PySem.W.alike]
  rw [PySem.W.dataLt_tuple, PySem.W.dataLt_cons al]
  by_cases e : x.length = y.length
  · have e1 : PyData.eqv (.int (x.length : Nat)) (.int (y.length : Nat)) = true := by rw [e]; simp [PyData.eqv]
    rw [if_pos e1, PySem.W.dataLt_cons (alike_row x y), eqv_row]
    by_cases e2 : x = y
    · subst e2
      rw [if_pos (decide_eq_true rfl), lex_irrefl]
      symm
      rw [decide_eq_false_iff_not]
      rintro (h | ⟨_, h⟩)
      · omega
      · exact List.lt_irrefl _ h
    · rw [if_neg (by simpa using e2)]
      have h3 : PySem.W.dataLt (dRow x) (dRow y) = decide (x < y) := by
        show PySem.W.dataLt (.tuple (x.map PyData.int)) (.tuple (y.map PyData.int)) = _
        rw [PySem.W.dataLt_tuple]
        exact PySem.W.dataLt_ints x y
      rw [h3]
      by_cases h4 : x < y <;> simp [h4, e]
  · have e1 : ¬ PyData.eqv (.int (x.length : Nat)) (.int (y.length : Nat)) = true := by simp [PyData.eqv]; omega
    rw [if_neg e1, PySem.W.dataLt_int]
    by_cases h : x.length < y.length
    · rw [decide_eq_true (by omega), decide_eq_true (.inl h)]
    · rw [decide_eq_false (by omega), decide_eq_false (by rintro (z | ⟨z, _⟩) <;> omega)]
theorem kPart_sorted (ks : List (Addr × Row)) : (ks.mergeSort (PySem.W.dataLe false fun k : Addr × Row => kPart k.2)).Pairwise (fun x y => x.2.length ≤ y.2.length) := by
  have el : PySem.W.dataLe false (fun k : Addr × Row => kPart k.2) = fun x y => !decide (y.2.length < x.2.length ∨ (y.2.length = x.2.length ∧ y.2 < x.2)) := by
    funext x y
    show (!PySem.W.dataLt (kPart y.2) (kPart x.2)) = _
    rw [kPart_lt]
  rw [el]
  refine List.Pairwise.imp (fun {x y} z => ?_) (List.pairwise_mergeSort (le := fun x y : Addr × Row => !decide (y.2.length < x.2.length ∨ (y.2.length = x.2.length ∧ y.2 < x.2))) (fun a b c h1 h2 => ?_) (fun a b => ?_) ks)
  · simp only [Bool.not_eq_true', decide_eq_false_iff_not] at z
    omega
  · simp only [Bool.not_eq_true', decide_eq_false_iff_not] at h1 h2 ⊢
    rintro (h | ⟨h, h3⟩)
    · omega
    · have e1 : b.2.length = a.2.length := by omega
      have e2 : c.2.length = b.2.length := by omega
      have l1 : a.2 ≤ b.2 := List.not_lt.mp fun z => h1 (.inr ⟨e1, z⟩)
      have l2 : b.2 ≤ c.2 := List.not_lt.mp fun z => h2 (.inr ⟨e2, z⟩)
      exact absurd h3 (List.not_lt.mpr (List.le_trans l1 l2))
  · simp only [Bool.or_eq_true, Bool.not_eq_true', decide_eq_false_iff_not]
    apply Decidable.byContradiction
    intro h
    have h1 : b.2.length < a.2.length ∨ (b.2.length = a.2.length ∧ b.2 < a.2) := Decidable.byContradiction fun z => h (.inl z)
    have h2 : a.2.length < b.2.length ∨ (a.2.length = b.2.length ∧ a.2 < b.2) := Decidable.byContradiction fun z => h (.inr z)
    rcases h1 with h1 | ⟨h1, h3⟩ <;> rcases h2 with h2 | ⟨h2, h4⟩ <;> try omega
    exact List.lt_asymm h3 h4
theorem pe_sortKey {X : Cx} {k : Nat} {e : Expr} {te : TE} {params : Arguments} {scope : Scope} {c P : Addr} {p1 p2 p3 p4 p5 lpos kpos p pos : Pos} {x1 : Nat} (hr : Room (k + 2) X.A) (hg : Gl X "sorted") (hm : X.mg "sorted" = none) (hlen : X.mg "len" = none)
    (TB : LamX.TabB X.base X.mg c P) (hcode : X.env.code = .ref c) (hq : X.env.qual ++ "<lambda>" = lamName) (he : PE X e te)
    (hdef : defaultsOf params X.env = ([], [])) (hbind : ∀ (q : Str) (cl : List (Str × Addr)) (pm cv ctv v : Value), bindArgs (PySem.W.kla_fn "<lambda>" q params (.Tuple [.Call (.Name "len" p1) [.Name "part" p2] [] p3, .Name "part" p4] x1 p5) scope cl pm cv ctv) ⟨[v], []⟩ = pure [(("part" : Str), v)])
    (hk : scope.kind = .function) (hco : scope.isCoroutine = false) (hgen : scope.isGenerator = false) (hnc : ∀ x ∈ scope.names, x.2 ≠ .cell) (hnf : ∀ x ∈ scope.names, x.2 ≠ .free) (hlp : scope.names.lookup ("part" : Str) = some .local) (hll : scope.names.lookup ("len" : Str) = some .globalImplicit)
    (hcl : cloFrom X.env.cells scope.names [] = [])
    (hst : backTo pos (starEach [e] X.env) = (false, eval e X.env) :: backTo pos (starEach [] X.env) := by rfl) (hpl : (backTo pos (starEach [e] X.env)).any (·.1) = false := by rfl) :
    PE X (.Call (.Name "sorted" p) [e] [⟨some "key", .Lambda params (.Tuple [.Call (.Name "len" p1) [.Name "part" p2] [] p3, .Name "part" p4] x1 p5) scope lpos, kpos⟩] pos) (tSortKey X.K P te) := by
  refine ⟨fun pins s σ H Q I h => ?_⟩
  refine wpAny_Call_Name_kw (ld_blt (u := .builtin "sorted") I hg hm (by decide +kernel) ?_ (by decide) (by decide))
  refine PyProof.Rows.callWith_kw ?_ hst hpl (by rfl) (by rfl)
  rw [hst]
  refine Calls.spliced_cons (thn (he.run pins s σ H _ I h) fun u s1 hh => Calls.spliced_nil ?_)
  obtain ⟨x, H1, I1, rx, a, ks, ex, hl, hks, ht, q⟩ := hh
  subst ex
  obtain rfl : u = Value.ref a := rx
  refine wpAny_evalAll_cons (wpAny_bind (LamX.lam_make2 (T := [(P, lamName)]) I1 TB hcode (by rw [hq]; exact List.mem_singleton.mpr rfl) (fun p hp _ => by rw [List.mem_singleton.mp hp, hq]) (fun p hp => by rw [List.mem_singleton.mp hp]; exact ht) hdef (fun y hy e => absurd e (hnf y hy)) fun f c' pm ctv H2 s2 I2 eN T2 hf hfn hfr hcO => wpAny_bind (wpAny_standAt (wpAny_pure ?_))))
  refine wpAny_evalAll_nil ?_
  rw [hcl] at hf
  have K2 : Keep P H1 H2 := ⟨eN, fun _ => T2 _ (List.mem_singleton.mpr rfl)⟩
  have hl2 := seqL_keep K2 hl
  obtain ⟨its, rv, pl, hz⟩ := I2.list hl2
  have hks2 : ∀ k ∈ ks, H2 k.1 = some (.tup (k.2.map V.int)) := fun k hk => K2.sk _ _ (hks k hk) rfl
  have er : PySem.W.EachIs (fun (v : Value) (k : Addr × Row) => v = .ref k.1) its ks := each_of (ref := fun k : Addr × Row => V.ref k.1) (fun b u z => z) rv
  obtain ⟨⟨oc, vs, t, g1, g2, g3⟩, _, _⟩ := I2.hok c' _ hcO
  show wpAny _ _ (call (.builtin "sorted") [.ref a] [(("key" : Str), .ref f)]) _ _ s2
  obtain ⟨mb, hb1, hb2⟩ := I2.mod.blt
  refine PySem.W.sorted_key_data (b := false) (bs := ks) (fun k : Addr × Row => kPart k.2) pl.isList er (PySem.W.AllAlike.of fun b b' => ?_) (PySem.W.Sortable.tuples fun _ => ⟨_, _, rfl⟩) (by rw [List.length_map] at hz; exact hz) (fun b hb => ?_) (PyProof.Rows.ksk_s1 _ _) (fun _ => PyProof.Rows.ksk_l1 _ _) (fun _ => PyProof.Rows.ksk_t1 _ _) (fun v b hv hb h tk kp => ?_) fun out cc h' tk kp fresh hD hlen2 eo => ?_
  · show PySem.W.alikeAll [.int (b.2.length : Nat), dRow b.2] [.int (b'.2.length : Nat), dRow b'.2] = true
    rw [PySem.W.alikeAll, PySem.W.alikeAll, alike_row]
    simp [PySem.W.alike, PySem.W.alikeAll]
  · have h1 := depth_row b.2
    have h2 := hr.units
    have h3 : (kPart b.2).depth ≤ 2 := by
      simp only [kPart, PyData.depth, PyData.depthAll] at h1 ⊢
      omega
    show X.A.units + 2 + (kPart b.2).depth < cLine
    omega
  · subst hv
    obtain ⟨is, r2, it, hz2⟩ := I2.tuple (SqT.of (K := X.K) (hks2 b hb))
    refine lamKey_call (q := X.env.qual ++ "<lambda>") (mg := X.mg) (mb := mb) hr.in1.in1.depth (kp _ _ hf) ⟨c', oc, vs, t, rfl, kp _ _ g1, g2, g3⟩ (hbind _ _ _ _ _ _) hk hco hgen hnc hlp hll ?_ ?_ hlen ?_ ((hb2 _ (by decide)).trans PySem.boot_len) (it.keeps kp) (by rw [List.size_toArray, ← r2.length]; exact hz2) ?_
    · exact (I2.mod.nolimit.keeps I2.bk).keeps kp
    · exact (I2.mod.glob.keeps I2.bk).keeps kp
    · exact (hb1.keeps I2.bk).keeps kp
    · simpa using r2.ints
  · have hn : H2 (s2.heap.objs.size + 1) = none := I2.hok.fresh (Nat.le_succ _)
    have rv2 : Vals ((ks.mergeSort (PySem.W.dataLe false fun k : Addr × Row => kPart k.2)).map fun k => V.ref k.1) out := vals_each (ref := fun k : Addr × Row => V.ref k.1) (eo.mono fun v k z => z)
    refine ⟨.ref (s2.heap.objs.size + 1), upd H2 (s2.heap.objs.size + 1) (.lst ((ks.mergeSort (PySem.W.dataLe false fun k : Addr × Row => kPart k.2)).map fun k => V.ref k.1)), I2.laid (t' := tk) kp (Nat.le_succ _) ⟨?_, out, cc, rv2, hD⟩, rfl, q _ _ _ (K2.trans (Keep.of (Ext.upd hn))) upd_same (List.mergeSort_perm _ _) (kPart_sorted ks)⟩
    rw [List.length_map, (List.mergeSort_perm _ _).length_eq]
    rw [List.length_map] at hz
    exact hz
end K9

set_option maxHeartbeats 4000000
/-! Walks: all_sets. -/
namespace K9
open PySem L2
/-- all sets of the columns, as all_sets makes them -/
def subsOf (cs : List Int) : List Row := cs.foldl (fun acc c => acc ++ acc.map fun p => p ++ [c]) [[]]
theorem subsOf_snoc (cs : List Int) (c : Int) : subsOf (cs ++ [c]) = subsOf cs ++ (subsOf cs).map fun p => p ++ [c] := by
  unfold subsOf
  rw [List.foldl_append]
  rfl
theorem subs_len : ∀ (cs : List Int) (acc : List Row), (cs.foldl (fun acc c => acc ++ acc.map fun p => p ++ [c]) acc).length = acc.length * 2 ^ cs.length
  | [], acc => by simp
  | c :: cs, acc => by
    rw [List.foldl_cons, subs_len cs, List.length_append, List.length_map, List.length_cons, Nat.pow_succ]
    rw [← Nat.two_mul, Nat.mul_comm 2 acc.length, Nat.mul_assoc, Nat.mul_comm 2]
theorem subsOf_length (cs : List Int) : (subsOf cs).length = 2 ^ cs.length := by
  unfold subsOf
  rw [subs_len]
  simp
theorem subs_mem : ∀ (cs : List Int) (acc : List Row) (n : Nat), (∀ p ∈ acc, p.length ≤ n) → ∀ p ∈ cs.foldl (fun acc c => acc ++ acc.map fun p => p ++ [c]) acc, p.length ≤ n + cs.length
  | [], acc, n, h, p, hp => h p hp
  | c :: cs, acc, n, h, p, hp => by
    rw [List.foldl_cons] at hp
    have := subs_mem cs _ (n + 1) (fun p hp => ?_) p hp
    · rw [List.length_cons]
      omega
    · rcases List.mem_append.mp hp with hp | hp
      · have := h p hp
        omega
      · obtain ⟨q, hq, rfl⟩ := List.mem_map.mp hp
        have := h q hq
        rw [List.length_append, List.length_singleton]
        omega
theorem subsOf_mem {cs : List Int} {p : Row} (h : p ∈ subsOf cs) : p.length ≤ cs.length := by
  have := subs_mem cs [[]] 0 (fun p hp => by rw [List.mem_singleton.mp hp]; exact Nat.le_refl _) p h
  omega
theorem row_ks {ks : List (Addr × Row)} {H H' : Hp} (h : ∀ k ∈ ks, H k.1 = some (.tup (k.2.map V.int))) (e : SK H H') : ∀ k ∈ ks, H' k.1 = some (.tup (k.2.map V.int)) := fun k hk => e _ _ (h k hk) rfl
section
variable {w : World} {K : PySem.W.Frag} {mg : Str → Option Value} {base : Heap} {f : Addr} {fd : FuncData}
abbrev aP (K : PySem.W.Frag) : Addr := (He.cT K tf9).2
def spAllSets (K : PySem.W.Frag) : Sp := fun vs H Q _ => ∃ (v : V) (m : Nat), vs = [v] ∧ IsRow H v (colz m) ∧ m ≤ 10 ∧ LamX.TabS H (aP K) lamName ∧
  ∀ (q : Addr) (ks : List (Addr × Row)) (H' : Hp), Keep (aP K) H H' → H' q = some (.lst (ks.map fun k => V.ref k.1)) → (∀ k ∈ ks, H' k.1 = some (.tup (k.2.map V.int))) → (ks.map (·.2)).Perm (subsOf (colz m)) → ks.Pairwise (fun x y => x.2.length ≤ y.2.length) → Q (.ref q) H'
abbrev nAs : List Str := ["columns", "found", "column", "part"]
theorem scAllSets : FnScope nAs ["columns"] (defScope sAllSets) := ⟨rfl, rfl, rfl, by decide +kernel, rfl, by decide +kernel, by decide +kernel⟩
theorem ok_allSets (F : FnP K "all_sets" "all_sets" sAllSets (He.fAd K tf9) fd) (Z : E9 K mg) (TB : LamX.TabB base mg (He.cT K tf9).1 (He.cT K tf9).2) : FnOk prog w K mg base CX0 3 (He.fAd K tf9) fd ["columns"] (spAllSets K) := by
  obtain ⟨oc, od, dV, kV, doc, pm, an, cdv, ct, osl, rfl, lk, hcd, _, _⟩ := F.ex
  obtain ⟨c0, rfl⟩ := He.codeIn_ref hcd
  have ec : (He.cT K tf9).1 = c0 := He.codeOf_eq lk rfl
  refine fn_of lk hcd scAllSets (fun vs H Q E h => ?_) fun A outer s H vs Q E hr h => ?_
  · obtain ⟨v, m, rfl, _⟩ := h
    rfl
  · obtain ⟨v, m, rfl, ⟨p, rfl, hp⟩, hm, hT, k⟩ := h
    refine ⟨_, PSs.nox (pss_cons (ps_set (i := 1) scAllSets.nd rfl (Or.inl rfl) (pe_lst (pa_cons (pe_tup pa_nil) pa_nil)))
      (pss_cons (ps_for PassesOwn.never rfl (pi_tup (pv 0)) (pg_name (i := 2) scAllSets.nd rfl (Or.inr rfl))
        (pss_one (ps_set (i := 1) scAllSets.nd rfl (Or.inl rfl) (pe_op op_cat (pv 1)
          (pe_lc (own := [("part", 3)]) (g := gName 3) (tt := tYes) (te := tOp (rCatA K) (tVar 3) (tTup (tCons (tVar 2) tNil))) rfl scAllSets.nd (pi_list (pv 1)) (blkOk_by (N := nAs) (sc := defScope sAllSets) (by decide +kernel)) (fun _ _ _ _ _ => pg_name (i := 3) scAllSets.nd rfl (Or.inl rfl)) (fun _ _ _ _ _ => pts_nil)
            (fun _ _ _ _ _ => pe_op op_catA (pv 3) (pe_tup (pa_cons (pv 2) pa_nil))))))))
      (pss_one (ps_ret (pe_sortKey (k := 0) (c := (He.cT K tf9).1) (P := (He.cT K tf9).2) hr (by rfl) Z.srt Z.len TB (by rw [ec]; rfl) (by rfl) (pv 1) (by rfl) (fun _ _ _ _ _ _ => rfl) rfl rfl rfl (by decide +kernel) (by decide +kernel) (by decide +kernel) (by decide +kernel) (by rfl)))))), ?_⟩
    refine ⟨by decide, fun u hu => ⟨by show 1 ≤ sizeLine; decide, fun F0 hF => ?_⟩⟩
    have s0 : Ext H (upd (upd H u (.tup [])) F0 (.lst [V.ref u])) := (Ext.upd hu).trans (Ext.upd hF)
    refine ⟨_, rfl, p, rfl, ⟨_, SqT.of (s0 _ _ hp)⟩, ?_⟩
    refine for_tup (K := K) (a := p) (xs := (colz m).map V.int) (fun i σ H2 => ∃ (F1 : Addr) (ks : List (Addr × Row)) (a : Option V), σ = [some (.ref p), some (.ref F1), a, none] ∧ Ext H H2 ∧ H2 F1 = some (.lst (ks.map fun k => V.ref k.1)) ∧ (∀ k ∈ ks, H2 k.1 = some (.tup (k.2.map V.int))) ∧ ks.map (·.2) = subsOf ((colz m).take i))
      ⟨F0, [(u, [])], none, rfl, s0, upd_same, fun k hk => ?_, rfl⟩ (fun i σ H2 _ q => ?_) ?_ ?_
    · rw [List.mem_singleton.mp hk]
      exact Ext.upd hF _ _ upd_same
    · obtain ⟨F1, ks, a, _, e2, _⟩ := q
      exact SqT.of (e2 _ _ hp)
    · rintro i y σ H2 hi ⟨F1, ks, a, rfl, e2, hF1, hks, hsub⟩
      obtain ⟨c, rfl, hc⟩ : ∃ c, y = V.int c ∧ (colz m)[i]? = some c := by
        rw [List.getElem?_map] at hi
        cases e : (colz m)[i]? with
        | none => rw [e] at hi; cases hi
        | some c => rw [e] at hi; exact ⟨c, (Option.some.inj hi).symm, rfl⟩
      have him : i < m := by
        have := (List.getElem?_eq_some_iff.mp hc).1
        rwa [colz_len] at this
      have hlk : ks.length ≤ 1024 := by
        have h1 := congrArg List.length hsub
        rw [List.length_map, subsOf_length, List.length_take, colz_len] at h1
        have h2 : 2 ^ min i m ≤ 2 ^ 10 := Nat.pow_le_pow_right (by decide) (by omega)
        omega
      refine ⟨_, rfl, _, rfl, F1, rfl, ⟨_, SqL.of hF1⟩, fun D hD => ?_⟩
      refine lc_list (K := K) (a := F1) (xs := ks.map fun k => V.ref k.1) (fun j H3 => ∃ ks' : List (Addr × Row), H3 D = some (.lst (ks'.map fun k => V.ref k.1)) ∧ Ext H2 H3 ∧ (∀ k ∈ ks', H3 k.1 = some (.tup (k.2.map V.int))) ∧ ks'.map (·.2) = (ks.take j).map (fun k => k.2 ++ [c]))
        ⟨[], upd_same, Ext.upd hD, (fun k hk => by cases hk), rfl⟩ (fun j H3 _ q => ?_) ?_ ?_
      · obtain ⟨ks', _, e3, _⟩ := q
        exact SqL.of (e3 _ _ hF1)
      · rintro j x H3 hj ⟨ks', hD3, e3, hks', hm'⟩
        obtain ⟨kk, rfl, hkk⟩ : ∃ kk, x = V.ref kk.1 ∧ ks[j]? = some kk := by
          rw [List.getElem?_map] at hj
          cases e : ks[j]? with
          | none => rw [e] at hj; cases hj
          | some c => rw [e] at hj; exact ⟨c, (Option.some.inj hj).symm, rfl⟩
        have hk3 := e3 _ _ (hks kk (List.mem_of_getElem? hkk))
        have hl' : ks'.length ≤ 1024 := by
          have h1 := congrArg List.length hm'
          rw [List.length_map, List.length_map, List.length_take] at h1
          omega
        have fin : ∀ (z : Addr) (H4 : Hp), Ext H3 H4 → H4 z = some (.tup ((kk.2 ++ [c]).map V.int)) → ∃ acc, H4 D = some (.lst acc) ∧ acc.length < sizeLine ∧ ∃ ks' : List (Addr × Row), upd H4 D (.lst (acc ++ [V.ref z])) D = some (.lst (ks'.map fun k => V.ref k.1)) ∧ Ext H2 (upd H4 D (.lst (acc ++ [V.ref z]))) ∧ (∀ k ∈ ks', upd H4 D (.lst (acc ++ [V.ref z])) k.1 = some (.tup (k.2.map V.int))) ∧ ks'.map (·.2) = (ks.take (j + 1)).map (fun k => k.2 ++ [c]) := fun z H4 e4 hz => by
          refine ⟨_, e4 _ _ hD3, by rw [List.length_map]; exact Nat.lt_of_le_of_lt hl' (by decide), ks' ++ [(z, kk.2 ++ [c])], by rw [upd_same, List.map_append]; rfl, Ext.set (e3.trans e4) hD, fun k hk => ?_, ?_⟩
          · rcases List.mem_append.mp hk with hk | hk
            · exact SK.lst (e4 _ _ hD3) _ _ (e4 _ _ (hks' k hk)) rfl
            · rw [List.mem_singleton.mp hk]
              exact SK.lst (e4 _ _ hD3) _ _ hz rfl
          · rw [List.map_append, hm', take_snoc hkk, List.map_append]
            rfl
        refine ⟨rfl, _, rfl, _, rfl, by show 1 ≤ sizeLine; decide, fun t ht => ?_⟩
        have et : Ext H3 (upd H3 t (.tup [V.int c])) := Ext.upd ht
        refine ⟨kk.1, t, _, _, rfl, rfl, SqT.of (et _ _ hk3), SqT.of upd_same, ?_, (fun e0 => ?_), (fun _ e0 => by cases e0), fun hne _ t2 ht2 => ?_⟩
        · have h1 : kk.2 ∈ subsOf ((colz m).take i) := by rw [← hsub]; exact List.mem_map_of_mem (List.mem_of_getElem? hkk)
          have h2 := subsOf_mem h1
          rw [List.length_take] at h2
          rw [List.length_map, List.length_singleton]
          exact Nat.le_trans (show kk.2.length + 1 ≤ 11 by omega) (by decide)
        · refine fin t _ et ?_
          have : kk.2 = [] := by simpa using e0
          rw [this, upd_same]
          rfl
        · refine fin t2 _ (et.trans (Ext.upd ht2)) ?_
          rw [upd_same, List.map_append]
          rfl
      · rintro H3 ⟨ks', hD3, e3, hks', hm'⟩
        rw [List.length_map, List.take_length] at hm'
        have hl' : ks'.length ≤ 1024 := by
          have h1 := congrArg List.length hm'
          rw [List.length_map, List.length_map] at h1
          omega
        refine ⟨F1, D, _, _, rfl, rfl, e3 _ _ hF1, hD3, by rw [List.length_map, List.length_map]; exact Nat.le_trans (Nat.add_le_add hlk hl') (by decide), fun q hq => ?_⟩
        have eq := Ext.upd (o := HO.lst ((ks.map fun k => V.ref k.1) ++ (ks'.map fun k => V.ref k.1))) hq
        refine ⟨q, ks ++ ks', _, rfl, e2.trans (e3.trans eq), by rw [upd_same, List.map_append], fun k hk => ?_, ?_⟩
        · rcases List.mem_append.mp hk with hk | hk
          · exact eq _ _ (e3 _ _ (hks k hk))
          · exact eq _ _ (hks' k hk)
        · rw [take_snoc hc, subsOf_snoc, ← hsub, List.map_append, hm', List.map_map]
          rfl
    · rintro σ H2 ⟨F1, ks, a, rfl, e2, hF1, hks, hsub⟩
      rw [List.length_map, List.take_length] at hsub
      refine ⟨_, rfl, F1, ks, rfl, SqL.of hF1, hks, hT.ext e2, fun H3 q ks' kp hq pm pw => ?_⟩
      refine k q ks' H3 ((Keep.of e2).trans kp) hq (fun x hx => kp.sk _ _ (hks x (pm.mem_iff.mp hx)) rfl) ?_ pw
      rw [← hsub]
      exact pm.map _
end
end K9

set_option maxHeartbeats 4000000
/-! Plain: the sets that repairs keeps. -/
namespace K9
/-! ### subsets -/
theorem sub_of_subs (cs : List Int) : ∀ (ds : List Int) (acc : List Row), (∀ p ∈ acc, p.Sublist ds) → ∀ p ∈ cs.foldl (fun acc c => acc ++ acc.map fun p => p ++ [c]) acc, p.Sublist (ds ++ cs) := by
  induction cs with
  | nil => intro ds acc h p hp; rw [List.append_nil]; exact h p hp
  | cons c cs ih =>
    intro ds acc h p hp
    rw [List.foldl_cons] at hp
    have := ih (ds ++ [c]) _ (fun q hq => ?_) p hp
    · rw [List.append_assoc] at this
      exact this
    · rcases List.mem_append.mp hq with hq | hq
      · exact (h q hq).trans (List.sublist_append_left _ _)
      · obtain ⟨q', hq', rfl⟩ := List.mem_map.mp hq
        exact (h q' hq').append (List.Sublist.refl _)
theorem subs_sub {cs : List Int} {p : Row} (h : p ∈ subsOf cs) : p.Sublist cs := by
  have := sub_of_subs cs [] [[]] (fun p hp => by rw [List.mem_singleton.mp hp]; exact List.Sublist.refl _) p h
  simpa using this
theorem subs_of_sub' (cs : List Int) : ∀ (acc : List Row) (q p : Row), q ∈ acc → p.Sublist cs → q ++ p ∈ cs.foldl (fun acc c => acc ++ acc.map fun p => p ++ [c]) acc := by
  induction cs with
  | nil => intro acc q p hq hp; rw [List.eq_nil_of_sublist_nil hp, List.append_nil]; exact hq
  | cons c cs ih =>
    intro acc q p hq hp
    rw [List.foldl_cons]
    cases hp with
    | cons _ h => exact ih _ q p (List.mem_append_left _ hq) h
    | cons_cons _ h =>
      rename_i p'
      have := ih (acc ++ acc.map fun p => p ++ [c]) (q ++ [c]) p' (List.mem_append_right _ (List.mem_map.mpr ⟨q, hq, rfl⟩)) h
      rw [List.append_assoc] at this
      exact this
theorem subs_of_sub {cs : List Int} {p : Row} (h : p.Sublist cs) : p ∈ subsOf cs := by
  have := subs_of_sub' cs [[]] [] p (List.mem_singleton.mpr rfl) h
  simpa [subsOf] using this
/-! ### what is kept -/
def within (a b : Row) : Bool := a.all fun x => decide (x ∈ b)
theorem within_iff {a b : Row} : within a b = true ↔ ∀ x ∈ a, x ∈ b := by
  unfold within
  simp [List.all_eq_true]
def stepF (ind : Row → Bool) (F : List Row) (S : Row) : List Row := if ind S = true ∧ (F.any fun o => within S o) = false then F ++ [S] else F
def runF (ind : Row → Bool) (L : List Row) : List Row := L.foldl (stepF ind) []
section
variable {ind : Row → Bool}
theorem runF_snoc (L : List Row) (S : Row) : runF ind (L ++ [S]) = stepF ind (runF ind L) S := by
  unfold runF
  rw [List.foldl_append]
  rfl
theorem step_sub {F : List Row} {S o : Row} (h : o ∈ F) : o ∈ stepF ind F S := by
  unfold stepF
  split
  · exact List.mem_append_left _ h
  · exact h
theorem fold_sub : ∀ (L F : List Row) (o : Row), o ∈ F → o ∈ L.foldl (stepF ind) F
  | [], _, _, h => h
  | S :: L, F, o, h => fold_sub L _ o (step_sub h)
theorem step_cov {F : List Row} {S : Row} (h : ind S = true) : ∃ o ∈ stepF ind F S, within S o = true := by
  unfold stepF
  by_cases e : (F.any fun o => within S o) = false
  · rw [if_pos ⟨h, e⟩]
    exact ⟨S, List.mem_append_right _ (List.mem_singleton.mpr rfl), within_iff.mpr fun x hx => hx⟩
  · rw [if_neg (fun z => e z.2)]
    have : (F.any fun o => within S o) = true := by simpa using e
    exact List.any_eq_true.mp this
theorem fold_cov : ∀ (L F : List Row) (S : Row), S ∈ L → ind S = true → ∃ o ∈ L.foldl (stepF ind) F, within S o = true
  | [], _, _, h, _ => by cases h
  | T :: L, F, S, h, hi => by
    rcases List.mem_cons.mp h with rfl | h
    · obtain ⟨o, ho, hw⟩ := step_cov (F := F) hi
      exact ⟨o, fold_sub L _ o ho, hw⟩
    · exact fold_cov L _ S h hi
theorem fold_mem : ∀ (L F : List Row) (o : Row), o ∈ L.foldl (stepF ind) F → o ∈ F ∨ (o ∈ L ∧ ind o = true)
  | [], _, _, h => .inl h
  | T :: L, F, o, h => by
    rcases fold_mem L _ o h with h | ⟨h1, h2⟩
    · unfold stepF at h
      split at h
      · rename_i z
        rcases List.mem_append.mp h with h | h
        · exact .inl h
        · rw [List.mem_singleton.mp h]
          exact .inr ⟨List.mem_cons_self, z.1⟩
      · exact .inl h
    · exact .inr ⟨List.mem_cons_of_mem _ h1, h2⟩
theorem runF_cov {L : List Row} {S : Row} (h : S ∈ L) (hi : ind S = true) : ∃ o ∈ runF ind L, within S o = true := fold_cov L [] S h hi
theorem runF_mem {L : List Row} {o : Row} (h : o ∈ runF ind L) : o ∈ L ∧ ind o = true := by
  rcases fold_mem L [] o h with h | h
  · cases h
  · exact h
theorem runF_max {L : List Row} {I : Row} (h : I ∈ L) (hi : ind I = true) (hm : ∀ o ∈ L, ind o = true → within I o = true → o = I) : I ∈ runF ind L := by
  obtain ⟨o, ho, hw⟩ := runF_cov h hi
  obtain ⟨h1, h2⟩ := runF_mem ho
  rw [← hm o h1 h2 hw]
  exact ho
theorem runF_one {full : Row} {L : List Row} (hi : ind full = true) (hw : ∀ o ∈ L, within o full = true) : runF ind (full :: L) = [full] := by
  unfold runF
  rw [List.foldl_cons]
  have e0 : stepF ind [] full = [full] := by
    unfold stepF
    rw [if_pos ⟨hi, rfl⟩]
    rfl
  rw [e0]
  induction L with
  | nil => rfl
  | cons S L ih =>
    rw [List.foldl_cons]
    have : stepF ind [full] S = [full] := by
      unfold stepF
      rw [if_neg]
      rintro ⟨_, h⟩
      have := hw S List.mem_cons_self
      simp [this] at h
    rw [this]
    exact ih fun o ho => hw o (List.mem_cons_of_mem _ ho)
/-- the empty set is not kept where another one is at hand -/
theorem runF_ne {L1 L2 : List Row} {S : Row} (hS : S ∈ L1) (hi : ind S = true) (hL : [] ∉ L1) (hL2 : ∀ F : List Row, F ≠ [] → [] ∉ F → [] ∉ L2.foldl (stepF ind) F) : [] ∉ runF ind (L1 ++ L2) := by
  unfold runF
  rw [List.foldl_append]
  refine hL2 _ (fun z => ?_) fun z => ?_
  · obtain ⟨o, ho, _⟩ := fold_cov L1 [] S hS hi
    rw [z] at ho
    cases ho
  · rcases fold_mem L1 [] [] z with h | h
    · cases h
    · exact hL h.1
theorem fold_ne : ∀ (L F : List Row), F ≠ [] → [] ∉ F → [] ∉ L.foldl (stepF ind) F
  | [], _, _, h => h
  | S :: L, F, hn, h => by
    have e : stepF ind F S ≠ [] ∧ [] ∉ stepF ind F S := by
      unfold stepF
      split
      · rename_i z
        refine ⟨by simp, fun y => ?_⟩
        rcases List.mem_append.mp y with y | y
        · exact h y
        · obtain rfl := List.mem_singleton.mp y
          cases F with
          | nil => exact hn rfl
          | cons a F =>
            have := z.2
            simp [within] at this
      · exact ⟨hn, h⟩
    exact fold_ne L _ e.1 e.2
end
/-! ### rows by their places -/
def rowAt (rs : List Row) (i : Int) : Row := rs.getD i.toNat []
theorem ascR_unique : ∀ {a b : List Row}, a.Pairwise (· < ·) → b.Pairwise (· < ·) → (∀ x, x ∈ a ↔ x ∈ b) → a = b
  | [], [], _, _, _ => rfl
  | [], y :: b, _, _, m => by have := (m y).mpr List.mem_cons_self; cases this
  | x :: a, [], _, _, m => by have := (m x).mp List.mem_cons_self; cases this
  | x :: a, y :: b, ha, hb, m => by
    rw [List.pairwise_cons] at ha hb
    have e : x = y := by
      rcases List.mem_cons.mp ((m x).mp List.mem_cons_self) with h | h
      · exact h
      · rcases List.mem_cons.mp ((m y).mpr List.mem_cons_self) with h2 | h2
        · exact h2.symm
        · exact absurd (ha.1 y h2) (List.lt_asymm (hb.1 x h))
    subst e
    refine congrArg _ (ascR_unique ha.2 hb.2 fun z => ?_)
    constructor
    · intro h
      rcases List.mem_cons.mp ((m z).mp (List.mem_cons_of_mem _ h)) with h2 | h2
      · subst h2
        exact absurd (ha.1 _ h) (List.lt_irrefl _)
      · exact h2
    · intro h
      rcases List.mem_cons.mp ((m z).mpr (List.mem_cons_of_mem _ h)) with h2 | h2
      · subst h2
        exact absurd (hb.1 _ h) (List.lt_irrefl _)
      · exact h2
theorem canon_eq {a b : List Row} (h : Canon a b) (hb : b.Pairwise (· < ·)) : a = b := ascR_unique h.1 hb h.2
theorem colz_rows (rs : List Row) : (colz rs.length).map (rowAt rs) = rs := by
  apply List.ext_getElem?
  intro i
  unfold colz rowAt
  rw [List.map_map, List.getElem?_map]
  by_cases h : i < rs.length
  · rw [List.getElem?_range h]
    simp [h]
  · rw [List.getElem?_eq_none (by simp; omega), List.getElem?_eq_none (by omega)]
    rfl
theorem rows_sub {rs : List Row} {I : Row} (h : I.Sublist (colz rs.length)) : (I.map (rowAt rs)).Sublist rs := by
  have := h.map (rowAt rs)
  rwa [colz_rows] at this
theorem rowAt_mem {rs : List Row} {i : Int} (h : i ∈ colz rs.length) : ∃ r, rs[i.toNat]? = some r ∧ rowAt rs i = r := by
  obtain ⟨h0, h1⟩ := mem_colz.mp h
  have hl : i.toNat < rs.length := by omega
  refine ⟨rs[i.toNat], List.getElem?_eq_getElem hl, ?_⟩
  unfold rowAt
  simp [hl]
/-- no pair of cs within S -/
def indOf (cs : List Row) (S : Row) : Bool := !(cs.any fun r => decide (r.getD 0 0 ∈ S) && decide (r.getD 1 0 ∈ S))
theorem indOf_iff {cs : List Row} {P : Nat → Nat → Prop} (t : Told cs P) {S : Row} : indOf cs S = true ↔ ∀ x y : Nat, P x y → ¬ ((x : Int) ∈ S ∧ (y : Int) ∈ S) := by
  unfold indOf
  rw [Bool.not_eq_true', ← Bool.not_eq_true, List.any_eq_true]
  constructor
  · intro h x y p z
    obtain ⟨k, hk⟩ := t.has x y p
    exact h ⟨_, hk, by simp [z.1, z.2]⟩
  · rintro h ⟨r, hr, z⟩
    obtain ⟨x, y, k, rfl, p⟩ := t.is r hr
    simp at z
    exact h x y p z
/-- what repairs answers -/
structure RepOk (fs : List Fdp) (rs : List Row) (Ls : List (List Row)) : Prop where
  one : (∀ x y, ¬ CflAt fs rs x y) → Ls = [rs]
  mem : ∀ S : List Row, S.Sublist rs → (∀ a ∈ S, ∀ b ∈ S, cfl fs a b = false) → (∀ r ∈ rs, r ∉ S → ∃ s ∈ S, cfl fs r s = true) → S ∈ Ls
theorem cfl_comm (fs : List Fdp) (a b : Row) : cfl fs a b = cfl fs b a := by
  unfold cfl
  congr 1
  funext g
  exact brk_comm g a b
theorem cfl_self (fs : List Fdp) (a : Row) : cfl fs a a = false := by
  unfold cfl
  simp [brk_self]
theorem colz_sub_asc {n : Nat} {I : Row} (h : I.Sublist (colz n)) : I.Pairwise (· < ·) := (colz_asc n).sublist h
theorem last_full {n : Nat} {ord : List Row} (pm : ord.Perm (subsOf (colz n))) (pw : ord.Pairwise fun x y => x.length ≤ y.length) : ∃ L, ord.reverse = colz n :: L := by
  have hf : colz n ∈ ord := pm.mem_iff.mpr (subs_of_sub (List.Sublist.refl _))
  cases e : ord.reverse with
  | nil =>
    rw [List.reverse_eq_nil_iff] at e
    rw [e] at hf
    cases hf
  | cons S L =>
    have pr := List.pairwise_reverse.mpr pw
    rw [e, List.pairwise_cons] at pr
    have hS : S ∈ ord := by
      have : S ∈ ord.reverse := by rw [e]; exact List.mem_cons_self
      exact List.mem_reverse.mp this
    have hs := subs_sub (pm.mem_iff.mp hS)
    have hl : (colz n).length ≤ S.length := by
      have : colz n ∈ S :: L := by rw [← e]; exact List.mem_reverse.mpr hf
      rcases List.mem_cons.mp this with h | h
      · rw [h]; exact Nat.le_refl _
      · exact pr.1 _ h
    rw [hs.eq_of_length_le hl]
    exact ⟨L, rfl⟩
theorem rep_ok {fs : List Fdp} {rs : List Row} {cs ord : List Row} {Ls : List (List Row)} (hrs : rs.Pairwise (· < ·)) (t : Told cs (CflAt fs rs)) (pm : ord.Perm (subsOf (colz rs.length))) (pw : ord.Pairwise fun x y => x.length ≤ y.length)
    (pL : Ls.Perm ((runF (indOf cs) ord.reverse).map fun I => I.map (rowAt rs))) : RepOk fs rs Ls := by
  refine ⟨fun hn => ?_, fun S hS hk hm => ?_⟩
  · obtain ⟨L, eL⟩ := last_full pm pw
    have hi : ∀ S, indOf cs S = true := fun S => (indOf_iff t).mpr fun x y p => absurd p (hn x y)
    have e1 : runF (indOf cs) ord.reverse = [colz rs.length] := by
      rw [eL]
      refine runF_one (hi _) fun o ho => within_iff.mpr fun x hx => ?_
      have : o ∈ ord := List.mem_reverse.mp (by rw [eL]; exact List.mem_cons_of_mem _ ho)
      exact (subs_sub (pm.mem_iff.mp this)).subset hx
    rw [e1, List.map_cons, List.map_nil, colz_rows] at pL
    exact List.perm_singleton.mp pL
  · -- the places of S
    let I : Row := (colz rs.length).filter fun i => decide (rowAt rs i ∈ S)
    have hI : I.Sublist (colz rs.length) := List.filter_sublist
    have hIm : ∀ i, i ∈ I ↔ i ∈ colz rs.length ∧ rowAt rs i ∈ S := fun i => by simp [I]
    have eI : I.map (rowAt rs) = S := by
      refine ascR_unique (hrs.sublist (rows_sub hI)) (hrs.sublist hS) fun r => ?_
      rw [List.mem_map]
      constructor
      · rintro ⟨i, hi, rfl⟩
        exact ((hIm i).mp hi).2
      · intro hr
        have h2 : r ∈ (colz rs.length).map (rowAt rs) := by rw [colz_rows]; exact hS.subset hr
        obtain ⟨i, hi, rfl⟩ := List.mem_map.mp h2
        exact ⟨i, (hIm i).mpr ⟨hi, hr⟩, rfl⟩
    have hind : indOf cs I = true := (indOf_iff t).mpr fun x y p z => by
      obtain ⟨_, a, b, ha, hb, hc⟩ := p
      have h1 := ((hIm x).mp z.1).2
      have h2 := ((hIm y).mp z.2).2
      have e1 : rowAt rs x = a := by unfold rowAt; simp [ha]
      have e2 : rowAt rs y = b := by unfold rowAt; simp [hb]
      rw [e1] at h1
      rw [e2] at h2
      rw [hk a h1 b h2] at hc
      cases hc
    have key : I ∈ runF (indOf cs) ord.reverse := by
      refine runF_max (List.mem_reverse.mpr (pm.mem_iff.mpr (subs_of_sub hI))) hind fun o ho hio hw => ?_
      have hos := subs_sub (pm.mem_iff.mp (List.mem_reverse.mp ho))
      refine asc_unique (colz_sub_asc hos) (colz_sub_asc hI) fun x => ⟨fun hx => ?_, fun hx => within_iff.mp hw x hx⟩
      apply Classical.byContradiction
      intro hxI
      have hxc := hos.subset hx
      obtain ⟨r, hr, er⟩ := rowAt_mem hxc
      have hnS : rowAt rs x ∉ S := fun z => hxI ((hIm x).mpr ⟨hxc, z⟩)
      obtain ⟨s, hs, hc⟩ := hm (rowAt rs x) (by rw [er]; exact List.mem_of_getElem? hr) hnS
      rw [← eI] at hs
      obtain ⟨y, hy, rfl⟩ := List.mem_map.mp hs
      have hyo := within_iff.mp hw y hy
      have hyc := hos.subset hyo
      obtain ⟨r2, hr2, er2⟩ := rowAt_mem hyc
      obtain ⟨x0, x1⟩ := mem_colz.mp hxc
      obtain ⟨y0, y1⟩ := mem_colz.mp hyc
      have hxy : x ≠ y := fun z => by
        subst z
        exact hxI hy
      have ex : ((x.toNat : Nat) : Int) = x := by omega
      have ey : ((y.toNat : Nat) : Int) = y := by omega
      rw [er, er2] at hc
      rcases Nat.lt_or_gt_of_ne (show x.toNat ≠ y.toNat by omega) with h | h
      · exact (indOf_iff t).mp hio x.toNat y.toNat ⟨h, r, r2, hr, hr2, hc⟩ ⟨by rw [ex]; exact hx, by rw [ey]; exact hyo⟩
      · exact (indOf_iff t).mp hio y.toNat x.toNat ⟨h, r2, r, hr2, hr, by rw [cfl_comm]; exact hc⟩ ⟨by rw [ey]; exact hyo, by rw [ex]; exact hx⟩
    refine pL.mem_iff.mpr (List.mem_map.mpr ⟨I, key, eI⟩)
/-- no kept set is empty where there is a row -/
theorem run_ne {fs : List Fdp} {rs : List Row} {cs ord : List Row} (t : Told cs (CflAt fs rs)) (pm : ord.Perm (subsOf (colz rs.length))) (pw : ord.Pairwise fun x y => x.length ≤ y.length) (hm : 1 ≤ rs.length) : [] ∉ runF (indOf cs) ord.reverse := by
  have h0 : ([0] : Row) ∈ ord.reverse := by
    refine List.mem_reverse.mpr (pm.mem_iff.mpr (subs_of_sub ?_))
    refine List.singleton_sublist.mpr (mem_colz.mpr ⟨Int.le_refl _, by omega⟩)
  have hi : indOf cs [0] = true := (indOf_iff t).mpr fun x y p z => by
    have := p.1
    simp at z
    omega
  have hE : ([] : Row) ∈ ord.reverse := List.mem_reverse.mpr (pm.mem_iff.mpr (subs_of_sub (List.nil_sublist _)))
  obtain ⟨L1, L2, e, hL⟩ := List.eq_append_cons_of_mem hE
  · have h1 : ([0] : Row) ∈ L1 := by
      rw [e] at h0
      rcases List.mem_append.mp h0 with h | h
      · exact h
      · have pr := List.pairwise_reverse.mpr pw
        rw [e, List.pairwise_append] at pr
        rcases List.mem_cons.mp h with h | h
        · cases h
        · have := (List.pairwise_cons.mp pr.2.1).1 _ h
          simp at this
    rw [e]
    exact runF_ne h1 hi hL fun F hF hn => fold_ne _ F hF hn
end K9

set_option maxHeartbeats 4000000
/-! Walks: repairs. -/
namespace K9
open PySem L2
theorem Keep.set {P : Addr} {H H1 : Hp} {p : Addr} {xs : List V} {o : HO} (k : Keep P H H1) (n : H p = none) (h : H1 p = some (.lst xs)) : Keep P H (upd H1 p o) := by
  refine ⟨fun b u e q => ?_, fun t => ?_⟩
  · rw [upd_ne (ne_of_none e n)]
    exact k.ext b u e q
  · obtain ⟨ps, h1, h2, h3⟩ := k.tab t
    have ne : P ≠ p := fun z => by rw [z, h] at h1; cases h1
    refine ⟨ps, by rw [upd_ne ne]; exact h1, h2, fun pos cv hc => ?_⟩
    obtain ⟨c, e1, e2⟩ := h3 pos cv hc
    refine ⟨c, e1, ?_⟩
    rw [upd_ne fun z => ?_]
    · exact e2
    · rw [z, h] at e2
      unfold LamX.CodeO at e2
      cases e2
theorem lcLg {K : PySem.W.Frag} {a : Addr} {xs ys : List V} {g : TG} {te : TE} {vs : List Nat} {σ : L2.St} {H1 : Hp} {D : Addr} {Qd : Hp → Prop} (hq : SqL K H1 a xs) (hD : H1 D = none) (hlen : ys.length = xs.length) (hz : ys.length < sizeLine)
    (hs : ∀ (i : Nat) (x y : V), xs[i]? = some x → ys[i]? = some y → ∀ H', Ext H1 H' → ∀ Q : VK, Q y H' → g x (wipe σ vs) H' fun σ2 H2 => wipe σ2 vs = wipe σ vs ∧ te σ2 H2 Q)
    (hd : Qd (upd H1 D (.lst ys))) : ∃ W : Nat → Nat → Hp → Prop, (∃ m, W 0 m (upd H1 D (.lst []))) ∧ ∀ i m H, W i m H →
      ((Itl K a).stop i H ∧ Qd H) ∨ ((Itl K a).go i H ∧ ∃ Nx : Hp → Prop, (∀ H', Nx H' → ∃ m', m' < m ∧ W (i + 1) m' H') ∧ ∀ x H', (Itl K a).yld i H x H' → g x (wipe σ vs) H' fun σ2 H2 => wipe σ2 vs = wipe σ vs ∧ tYes σ2 H2 fun b H3 =>
        if b = true then te σ2 H3 fun y H4 => ∃ acc, H4 D = some (.lst acc) ∧ acc.length < sizeLine ∧ Nx (upd H4 D (.lst (acc ++ [y]))) else Nx H3) := by
  refine lc_list (K := K) (a := a) (xs := xs) (fun i H => H = upd H1 D (.lst (ys.take i))) (by simp) (fun i H _ p => by rw [p]; exact hq.ext (Ext.upd hD)) (fun i x H hx p => ?_) (fun H p => by rw [p, ← hlen, List.take_length]; exact hd)
  obtain ⟨y, hy⟩ := getOpt hlen hx
  exact hs i x y hx hy H (by rw [p]; exact Ext.upd hD) _ ⟨ys.take i, by rw [p]; exact upd_same, by rw [List.length_take]; omega, by rw [p, upd_upd, take_snoc hy]⟩
theorem runF_len {ind : Row → Bool} : ∀ (L F : List Row), (L.foldl (stepF ind) F).length ≤ F.length + L.length
  | [], _ => Nat.le_refl _
  | S :: L, F => by
    have h1 := runF_len (ind := ind) L (stepF ind F S)
    have h2 : (stepF ind F S).length ≤ F.length + 1 := by
      unfold stepF
      split
      · simp
      · omega
    rw [List.foldl_cons, List.length_cons]
    omega
abbrev pr2 (r : Row) : Row := [r.getD 0 0, r.getD 1 0]
theorem indOf_pr2 (cs : List Row) (S : Row) : indOf (cs.map pr2) S = indOf cs S := by
  unfold indOf
  rw [List.any_map]
  rfl
theorem sorted_tabs {K : PySem.W.Frag} {H : Hp} {D : Addr} {tk : List (Addr × List Row)} {Q : VK} (hD : SqL K H D (tk.map fun b => V.ref b.1)) (hdp : ∀ b ∈ tk, Dp K H (V.ref b.1) (dTab b.2)) (hc : tk.length ≤ 1 ∨ ∀ b ∈ tk, b.2 ≠ [])
    (fin : ∀ (q : Addr) (tk' : List (Addr × List Row)), H q = none → tk'.Perm tk → Q (.ref q) (upd H q (.lst (tk'.map fun b => V.ref b.1)))) :
    rSorted1 K [V.ref D] H Q ∨ rSortD K (fun b : Addr × List Row => V.ref b.1) (fun b : Addr × List Row => dTab b.2) [V.ref D] H Q := by
  rcases hc with hc | hc
  · exact .inl ⟨D, _, rfl, hD, by rw [List.length_map]; exact hc, fun q hq => fin q tk hq (List.Perm.refl _)⟩
  · refine .inr ⟨D, tk, rfl, hD, hdp, .inl fun d hd => ?_, fun b hb => ?_, fun q hq => fin q _ hq (List.mergeSort_perm _ _)⟩
    · obtain ⟨b, hb, rfl⟩ := List.mem_map.mp hd
      cases e : b.2 with
      | nil => exact absurd e (hc b hb)
      | cons x r => exact ⟨_, _, rfl⟩
    · have := depth_rows b.2
      show (dTab b.2).depth ≤ 8
      omega
theorem runF_congr {f g : Row → Bool} (h : ∀ S, f S = g S) (L : List Row) : runF f L = runF g L := by
  have : f = g := funext h
  rw [this]
section
variable {w : World} {K : PySem.W.Frag} {mg : Str → Option Value} {base : Heap} {f : Addr} {fd : FuncData}
def spRepairs (K : PySem.W.Frag) : Sp := fun vs H Q _ => ∃ (vt : V) (ld n : Nat) (fvs : List V) (rs : List Row) (fs : List Fdp), vs = [vt, .ref ld] ∧ IsTab (aT K) H vt n rs ∧ SqL K H ld fvs ∧ Fds (aF K) H fvs fs ∧ (∀ g ∈ fs, WfFd n g) ∧ WfRows n rs ∧ rs.Pairwise (· < ·) ∧ rs.length ≤ 10 ∧ fs.length ≤ 60 ∧ 1 ≤ n ∧ n ≤ 60 ∧ LamX.TabS H (aP K) lamName ∧
  ∀ (q : Addr) (ts : List V) (Ls : List (List Row)) (H' : Hp), Keep (aP K) H H' → (∀ o, H q = some o → ∃ ps, o = .tbl ps) → H' q = some (.lst ts) → Paired (fun v r => IsTab (aT K) H' v n r) ts Ls → RepOk fs rs Ls → Ls.length ≤ 1024 → Q (.ref q) H'
abbrev nRp : List Str := ["table", "dependencies", "pairs", "found", "indexes", "tables", "first", "second", "_", "other", "index", "rows"]
theorem scRepairs : FnScope nRp ["table", "dependencies"] (defScope sRepairs) := ⟨rfl, rfl, rfl, by decide +kernel, rfl, by decide +kernel, by decide +kernel⟩
theorem ok_repairs (F : FnP K "repairs" "repairs" sRepairs f fd) (Z : E9 K mg) (cC : C8.Cal prog w K mg base 3 "conflicts" (spConfl K) []) (cA : C8.Cal prog w K mg base 3 "all_sets" (spAllSets K) []) (cW : C8.Cal prog w K mg base 1 "whole" spWhole []) (cI : C8.Cal prog w K mg base 1 "is_within" spWithin [])
    (mT : C8.Mak prog w K mg base 1 "Table" (aT K) (spTabI K) []) : FnOk prog w K mg base CX0 4 f fd ["table", "dependencies"] (spRepairs K) := by
  refine F.ok scRepairs (fun vs H Q E h => ?_) (fun cdv A outer s H vs Q E hr h => ?_)
  · obtain ⟨vt, ld, n, fvs, rs, fs, rfl, _⟩ := h
    rfl
  · obtain ⟨vt, ld, n, fvs, rs, fs, rfl, ⟨p, dx, c, ra, rfl, hp, hc, _, xs, hra, ht1, ht2⟩, hld, hfd, wf, wr, hasc, hl1, hl2, hn1, hn2, hT, k⟩ := h
    cases hra
    have hxs : xs.length = rs.length := Paired.length ht2
    refine ⟨_, PSs.nox (pss_cons (ps_setLc (i := 2) (own := [("first", 6), ("second", 7), ("_", 8)]) (g := gTup K 3 (gCons (gName 6) (gCons (gName 7) (gCons (gName 8) gNil)))) (tt := tYes) (te := tTup (tCons (tVar 6) (tCons (tVar 7) tNil))) rfl scRepairs.nd rfl rfl (sw_true rfl rfl rfl (by decide +kernel))
          (pi_list (C8.pe_c cC hr (by decide) (by rfl) (pa_cons (pv 0) (pa_cons (pv 1) pa_nil)))) (blkOk_by (N := nRp) (sc := defScope sRepairs) (by decide +kernel))
          (fun _ _ _ _ _ => pg_tup rfl (pgs_cons (pg_name (i := 6) scRepairs.nd rfl (Or.inl rfl)) (pgs_cons (pg_name (i := 7) scRepairs.nd rfl (Or.inl rfl)) (pgs_cons (pg_name (i := 8) scRepairs.nd rfl (Or.inl rfl)) pgs_nil)))) (fun _ _ _ _ _ => pts_nil)
          (fun _ _ _ _ _ => pe_tup (pa_cons (pv 6) (pa_cons (pv 7) pa_nil))))
      (pss_cons (ps_set (i := 3) scRepairs.nd rfl (Or.inl rfl) (pe_lst pa_nil))
      (pss_cons (ps_for PassesOwn.never rfl (pi_reversed (by rfl) Z.rev (pa_cons (C8.pe_c cA hr (by decide) (by rfl) (pa_cons (C8.pe_c cW hr (by decide) (by rfl) (pa_cons (pe_callB call_len (by rfl) Z.len PySem.boot_len (pa_cons (pe_fld (pv 0) rfl) pa_nil)) pa_nil)) pa_nil)) pa_nil)) (pg_name (i := 4) scRepairs.nd rfl (Or.inr rfl))
        (pss_one (ps_if (pt_not (pt_val (pe_callB (cr_any rfl) (by rfl) Z.any (by decide +kernel) (pa_cons
            (pe_lc (own := [("first", 6), ("second", 7)]) (g := gTup K 2 (gCons (gName 6) (gCons (gName 7) gNil))) (tt := tYes) (te := tAndV (tOp (rIn K false) (tVar 6) (tVar 4)) (tOp (rIn K false) (tVar 7) (tVar 4))) rfl scRepairs.nd (pi_list (pv 2)) (blkOk_by (N := nRp) (sc := defScope sRepairs) (by decide +kernel))
              (fun _ _ _ _ _ => pg_tup rfl (pgs_cons (pg_name (i := 6) scRepairs.nd rfl (Or.inl rfl)) (pgs_cons (pg_name (i := 7) scRepairs.nd rfl (Or.inl rfl)) pgs_nil))) (fun _ _ _ _ _ => pts_nil)
              (fun _ _ _ _ _ => pe_and (pe_cmpR op_in_seq (pv 6) (pv 4) (by rfl)) (pe_one (pe_cmpR op_in_seq (pv 7) (pv 4) (by rfl))))) pa_nil))))
          (pss_one (ps_if (pt_not (pt_val (pe_callB (cr_any rfl) (by rfl) Z.any (by decide +kernel) (pa_cons
              (pe_lc (own := [("other", 9)]) (g := gName 9) (tt := tYes) (te := tCall spWithin [] C8.E0 (tCons (tVar 4) (tCons (tVar 9) tNil))) rfl scRepairs.nd (pi_list (pv 3)) (blkOk_by (N := nRp) (sc := defScope sRepairs) (by decide +kernel))
                (fun _ _ _ _ _ => pg_name (i := 9) scRepairs.nd rfl (Or.inl rfl)) (fun _ _ _ _ _ => pts_nil)
                (fun _ _ _ _ _ => C8.pe_c cI hr (by decide) (by rfl) (pa_cons (pv 4) (pa_cons (pv 9) pa_nil)))) pa_nil))))
            (pss_one (ps_expr (pe_bm PySem.F.plainAttrs_list PySem.F.slot_list_append PySem.F.type_list_append mt_append (pv 3) (pa_cons (pv 4) pa_nil)))) pss_nil)) pss_nil)))
      (pss_cons (ps_setLc (i := 5) (own := [("indexes", 4)]) (g := gName 4) (tt := tYes) (te := tThen (tLc (iTup K (tVar 4)) (gName 10) tYes (tOp (rIxT K) (tFld K (tVar 0) "rows") (tVar 10)) [10]) (kTup K)) rfl scRepairs.nd rfl rfl (sw_true rfl rfl rfl (by decide +kernel)) (pi_list (pv 3)) (blkOk_by (N := nRp) (sc := defScope sRepairs) (by decide +kernel))
          (fun _ _ _ _ _ => pg_name (i := 4) scRepairs.nd rfl (Or.inl rfl)) (fun _ _ _ _ _ => pts_nil)
          (fun _ _ _ _ _ => pe_tupleOf (by rfl) Z.tup (pe_lc (own := [("index", 10)]) (g := gName 10) (tt := tYes) (te := tOp (rIxT K) (tFld K (tVar 0) "rows") (tVar 10)) rfl scRepairs.nd (pi_tup (pv 4)) (blkOk_by (N := nRp) (sc := { kind := .function, names := [(".0", .local), ("indexes", .local), ("tuple", .globalImplicit), ("table", .cell)], isGenerator := false, isCoroutine := false }) (by decide +kernel))
            (fun _ _ _ _ _ => pg_name (i := 10) scRepairs.nd rfl (Or.inl rfl)) (fun _ _ _ _ _ => pts_nil) (fun _ _ _ _ _ => pe_ix ix_tup (pe_fld (pv 0) rfl) (pv 10) (fun _ _ => rfl)))))
      (pss_one (ps_ret (pe_lc (own := [("rows", 11)]) (g := gName 11) (tt := tYes) (te := tMake (aT K) (spTabI K) [] C8.E0 (tCons (tFld K (tVar 0) "columns") (tCons (tVar 11) tNil))) rfl scRepairs.nd
          (pi_list (pe_callB (cr_or cr_sorted1 (cr_sortD (ref := fun b : Addr × List Row => V.ref b.1) (enc := fun b : Addr × List Row => dTab b.2) hr (fun b b' => alike_rows b.2 b'.2))) (by rfl) Z.srt (by decide +kernel) (pa_cons (pv 5) pa_nil))) (blkOk_by (N := nRp) (sc := defScope sRepairs) (by decide +kernel))
          (fun _ _ _ _ _ => pg_name (i := 11) scRepairs.nd rfl (Or.inl rfl)) (fun _ _ _ _ _ => pts_nil)
          (fun _ _ _ _ _ => C8.pe_mk mT hr (by decide) (by rfl) (pa_cons (pe_fld (pv 0) rfl) (pa_cons (pv 11) pa_nil)))))))))), ?_⟩
    -- pairs
    refine ⟨_, rfl, _, rfl, .ref p, ld, n, fvs, rs, fs, rfl, ⟨p, dx, c, ra, rfl, hp, hc, ra, xs, rfl, ht1, ht2⟩, hld, hfd, wf, wr, by omega, hl2, fun q0 items cs H1 e1 hq0 hq0' hit hlc tl => ?_⟩
    refine ⟨q0, rfl, ⟨_, SqL.of hq0'⟩, fun D hD => ?_⟩
    refine lc_list (K := K) (a := q0) (xs := items) (fun j H2 => ∃ ps : List (Addr × Row), H2 D = some (.lst (ps.map fun k => V.ref k.1)) ∧ Ext H1 H2 ∧ (∀ k ∈ ps, H2 k.1 = some (.tup (k.2.map V.int))) ∧ ps.map (·.2) = (cs.take j).map pr2)
      ⟨[], upd_same, Ext.upd hD, (fun k hk => by cases hk), rfl⟩ (fun j H2 _ q => ?_) ?_ ?_
    · obtain ⟨ps, _, e2, _⟩ := q
      exact SqL.of (e2 _ _ hq0')
    · rintro j x H2 hj ⟨ps, hD2, e2, hps, hm⟩
      obtain ⟨r, hr, pr, rfl, hpr⟩ := K9.Paired.getP hit hj
      obtain ⟨x, y, k', rfl, _⟩ := tl.is r (List.mem_of_getElem? hr)
      have hpr2 := e2 _ _ hpr
      have hjl := (List.getElem?_eq_some_iff.mp hr).1
      have hpl : ps.length ≤ 4000 := by
        have := congrArg List.length hm
        rw [List.length_map, List.length_map, List.length_take] at this
        omega
      refine ⟨pr, _, rfl, SqT.of hpr2, rfl, _, _, rfl, _, _, rfl, _, _, rfl, rfl, rfl, _, rfl, _, rfl, by show 2 ≤ sizeLine; decide, fun t ht => ?_⟩
      have et : Ext H2 (upd H2 t (.tup [V.int x, V.int y])) := Ext.upd ht
      refine ⟨_, et _ _ hD2, by rw [List.length_map]; exact Nat.lt_of_le_of_lt hpl (by decide), ps ++ [(t, [(x : Int), (y : Int)])], by rw [upd_same, List.map_append]; rfl, Ext.set (Ext.trans e2 et) hD, fun k hk => ?_, ?_⟩
      · rcases List.mem_append.mp hk with hk | hk
        · exact SK.lst (et _ _ hD2) _ _ (et _ _ (hps k hk)) rfl
        · rw [List.mem_singleton.mp hk]
          exact SK.lst (et _ _ hD2) _ _ upd_same rfl
      · rw [List.map_append, hm, take_snoc hr, List.map_append]
        rfl
    rintro H2 ⟨ps, hD2, e2, hps, hm⟩
    have hcl : items.length = cs.length := Paired.length hit
    rw [hcl, List.take_length] at hm
    have hpl : ps.length ≤ 4000 := by
      have := congrArg List.length hm
      rw [List.length_map, List.length_map] at this
      omega
    have e02 : Ext H H2 := Ext.trans e1 e2
    -- found
    refine ⟨by decide, fun F0 hF0 => ?_⟩
    have e03 : Ext H (upd H2 F0 (.lst [])) := Ext.trans e02 (Ext.upd hF0)
    have hFH : H F0 = none := Ext.free e02 hF0
    refine ⟨_, rfl, p, aT K, dx, _, _, rfl, e03 _ _ hp, Z.cT, Z.tR, look2b _ _, _, _, rfl, .inr ⟨_, SqT.of (e03 _ _ ht1), rfl⟩, ?_⟩
    rw [hxs]
    refine ⟨rs.length, rfl, by omega, fun q1 hq1 => ?_⟩
    have e3 := Ext.upd (o := HO.tup ((colz rs.length).map V.int)) hq1
    refine ⟨.ref q1, rs.length, rfl, ⟨q1, rfl, upd_same⟩, hl1, hT.ext (Ext.trans e03 e3), fun q2 ks H4 kp hq2 hks pm pw => ?_⟩
    have k4 : Keep (aP K) H H4 := (Keep.of (Ext.trans e03 e3)).trans kp
    have hF4 : H4 F0 = some (.lst []) := kp.lst (e3 _ _ upd_same)
    have hD4 : H4 D = some (.lst (ps.map fun k => V.ref k.1)) := kp.lst (e3 _ _ (Ext.upd hF0 _ _ hD2))
    have hps4 : ∀ k ∈ ps, H4 k.1 = some (.tup (k.2.map V.int)) := fun k hk => kp.sk _ _ (e3 _ _ (Ext.upd hF0 _ _ (hps k hk))) rfl
    have hkl : ks.length = 2 ^ rs.length := by
      have := pm.length_eq
      rw [List.length_map, subsOf_length, colz_len] at this
      exact this
    have hk1 : ks.length ≤ 1024 := by
      rw [hkl]
      exact Nat.pow_le_pow_right (show 2 > 0 by decide) hl1
    have nq2 : q2 ≠ F0 := fun z => by
      rw [z, hF4] at hq2
      injection hq2 with z2
      injection z2 with z3
      have := congrArg List.length z3
      rw [List.length_map, hkl, List.length_nil] at this
      have := Nat.pow_pos (n := rs.length) (show 0 < 2 by decide)
      omega
    have nD : D ≠ F0 := ne_of_none hD2 hF0
    refine ⟨q2, _, rfl, SqL.of hq2, RT.for_Itv (K := K) (a := q2) (xs := ks.map fun k : Addr × Row => V.ref k.1) (fun i σ H5 => ∃ (a : Option V) (fk : List (Addr × Row)), σ = [some (.ref p), some (.ref ld), some (.ref D), some (.ref F0), a, none, none, none, none, none, none, none] ∧ Keep (aP K) H H5 ∧ H5 F0 = some (.lst (fk.map fun k => V.ref k.1)) ∧ (∀ k ∈ fk, H5 k.1 = some (.tup (k.2.map V.int))) ∧
        fk.map (·.2) = runF (indOf cs) ((ks.reverse.map (·.2)).take i) ∧ H5 q2 = some (.lst (ks.map fun k => V.ref k.1)) ∧ (∀ k ∈ ks, H5 k.1 = some (.tup (k.2.map V.int))) ∧ H5 D = some (.lst (ps.map fun k => V.ref k.1)) ∧ (∀ k ∈ ps, H5 k.1 = some (.tup (k.2.map V.int))))
      ⟨none, [], rfl, k4, hF4, (fun k hk => by cases hk), rfl, hq2, hks, hD4, hps4⟩ (fun i σ H5 q => ?_) ?_ ?_⟩
    · obtain ⟨_, _, _, _, _, _, _, hq5, _⟩ := q
      exact SqL.of hq5
    · rintro i x σ H5 hi hx ⟨a, fk, rfl, k5, hF5, hfk, hrun, hq5, hks5, hD5, hps5⟩
      rw [List.length_map] at hi hx
      obtain ⟨kk, rfl, hkk⟩ : ∃ kk, x = V.ref kk.1 ∧ ks.reverse[i]? = some kk := by
        rw [List.getElem?_map] at hx
        rw [List.getElem?_reverse hi]
        cases e : ks[ks.length - 1 - i]? with
        | none => rw [e] at hx; cases hx
        | some c => rw [e] at hx; exact ⟨c, (Option.some.inj hx).symm, rfl⟩
      have hkm : kk ∈ ks := List.mem_reverse.mp (List.mem_of_getElem? hkk)
      have hkt := hks5 kk hkm
      have hkl2 : kk.2.length ≤ 10 := by
        have h1 : kk.2 ∈ subsOf (colz rs.length) := pm.mem_iff.mp (List.mem_map_of_mem hkm)
        have h2 := subsOf_mem h1
        rw [colz_len] at h2
        omega
      have htk : (ks.reverse.map (·.2)).take (i + 1) = (ks.reverse.map (·.2)).take i ++ [kk.2] := take_snoc (by rw [List.getElem?_map, hkk]; rfl)
      have hfl : fk.length ≤ 1024 := by
        have h1 := congrArg List.length hrun
        rw [List.length_map] at h1
        have h2 := runF_len (ind := indOf cs) ((ks.reverse.map (·.2)).take i) []
        rw [show ((ks.reverse.map (·.2)).take i).foldl (stepF (indOf cs)) [] = runF (indOf cs) ((ks.reverse.map (·.2)).take i) from rfl, List.length_take, List.length_map, List.length_reverse, List.length_nil] at h2
        omega
      -- a pair within
      refine ⟨_, rfl, D, rfl, ⟨_, SqL.of hD5⟩, fun D2 hD2 => ?_⟩
      refine lcLg (K := K) (a := D) (xs := ps.map fun k : Addr × Row => V.ref k.1) (ys := ps.map fun q : Addr × Row => V.bl (decide (q.2.getD 0 0 ∈ kk.2) && decide (q.2.getD 1 0 ∈ kk.2))) (SqL.of hD5) hD2 (by simp) (by rw [List.length_map]; exact Nat.lt_of_le_of_lt hpl (by decide)) (fun j y z hy hz H6 e6 Q hQ => ?_) ?_
      · rw [List.getElem?_map] at hy hz
        cases ep : ps[j]? with
        | none => rw [ep] at hy; cases hy
        | some pj =>
          rw [ep] at hy hz
          cases hy
          cases hz
          have hpm := List.mem_of_getElem? ep
          obtain ⟨r, _, er⟩ : ∃ r, r ∈ cs ∧ pr2 r = pj.2 := by
            have : pj.2 ∈ cs.map pr2 := by rw [← hm]; exact List.mem_map_of_mem hpm
            exact List.mem_map.mp this
          have ht := e6 _ _ (hps5 pj hpm)
          change Q (V.bl (decide (pj.2.getD 0 0 ∈ kk.2) && decide (pj.2.getD 1 0 ∈ kk.2))) H6 at hQ
          rw [← er] at ht hQ
          have hk6 := e6 _ _ hkt
          refine ⟨pj.1, _, rfl, SqT.of ht, rfl, _, _, rfl, _, _, rfl, rfl, rfl, ?_⟩
          refine ⟨_, rfl, _, rfl, kk.1, _, rfl, .inr (SqT.of hk6), rfl, flat_ints _, ?_⟩
          refine ⟨_, rfl, ?_⟩
          show if inV (.int (r.getD 0 0)) (kk.2.map V.int) = true then _ else _
          rw [inV_ints]
          by_cases h1 : r.getD 0 0 ∈ kk.2
          · rw [if_pos (decide_eq_true h1)]
            refine ⟨_, rfl, _, rfl, kk.1, _, rfl, .inr (SqT.of hk6), rfl, flat_ints _, ?_⟩
            show Q (.bl (inV (.int (r.getD 1 0)) (kk.2.map V.int))) _
            rw [inV_ints]
            have z : (decide ((pr2 r).getD 0 0 ∈ kk.2) && decide ((pr2 r).getD 1 0 ∈ kk.2)) = decide (r.getD 1 0 ∈ kk.2) := by
              show (decide (r.getD 0 0 ∈ kk.2) && decide (r.getD 1 0 ∈ kk.2)) = _
              rw [decide_eq_true h1, Bool.true_and]
            rw [z] at hQ
            exact hQ
          · rw [if_neg (by rw [decide_eq_false h1]; exact Bool.false_ne_true)]
            have z : (decide ((pr2 r).getD 0 0 ∈ kk.2) && decide ((pr2 r).getD 1 0 ∈ kk.2)) = false := by
              show (decide (r.getD 0 0 ∈ kk.2) && decide (r.getD 1 0 ∈ kk.2)) = _
              rw [decide_eq_false h1, Bool.false_and]
            rw [z] at hQ
            exact hQ
      have e6 : Ext H5 (upd H5 D2 (.lst (ps.map fun q => V.bl (decide (q.2.getD 0 0 ∈ kk.2) && decide (q.2.getD 1 0 ∈ kk.2))))) := Ext.upd hD2
      refine ⟨D2, ps.map fun q => (decide (q.2.getD 0 0 ∈ kk.2) && decide (q.2.getD 1 0 ∈ kk.2)), rfl, SqL.of (by rw [upd_same, List.map_map]; rfl), _, rfl, ?_⟩
      have hind : (!((ps.map fun q => (decide (q.2.getD 0 0 ∈ kk.2) && decide (q.2.getD 1 0 ∈ kk.2))).any id)) = indOf cs kk.2 := by
        rw [← indOf_pr2, ← hm]
        unfold indOf
        rw [List.any_map, List.any_map]
        rfl
      show if (!((ps.map fun q => (decide (q.2.getD 0 0 ∈ kk.2) && decide (q.2.getD 1 0 ∈ kk.2))).any id)) = true then _ else _
      rw [hind]
      by_cases hi1 : indOf cs kk.2 = true
      · rw [if_pos hi1]
        generalize upd H5 D2 (.lst (ps.map fun q => V.bl (decide (q.2.getD 0 0 ∈ kk.2) && decide (q.2.getD 1 0 ∈ kk.2)))) = H6 at e6 ⊢
        have hF6 := e6 _ _ hF5
        refine ⟨_, rfl, F0, rfl, ⟨_, SqL.of hF6⟩, fun D3 hD3 => ?_⟩
        refine lc_list (K := K) (a := F0) (xs := fk.map fun k : Addr × Row => V.ref k.1) (fun j H7 => ∃ bs : List Bool, H7 D3 = some (.lst (bs.map V.bl)) ∧ Ext H6 H7 ∧ bs = (fk.take j).map fun o => within kk.2 o.2)
          ⟨[], upd_same, Ext.upd hD3, rfl⟩ (fun j H7 _ q => ?_) ?_ ?_
        · obtain ⟨bs, _, e7, _⟩ := q
          exact SqL.of (e7 _ _ hF6)
        · rintro j y H7 hj ⟨bs, hD7, e7, hbs⟩
          obtain ⟨o, rfl, ho⟩ : ∃ o, y = V.ref o.1 ∧ fk[j]? = some o := by
            rw [List.getElem?_map] at hj
            cases e : fk[j]? with
            | none => rw [e] at hj; cases hj
            | some c => rw [e] at hj; exact ⟨c, (Option.some.inj hj).symm, rfl⟩
          have hom := List.mem_of_getElem? ho
          have hob : o.2.length ≤ 10 := by
            have h1 : o.2 ∈ runF (indOf cs) ((ks.reverse.map (·.2)).take i) := by rw [← hrun]; exact List.mem_map_of_mem hom
            have h2 := List.mem_of_mem_take (runF_mem h1).1
            obtain ⟨k2, hk2, e2⟩ := List.mem_map.mp h2
            have h3 : o.2 ∈ subsOf (colz rs.length) := by rw [← e2]; exact pm.mem_iff.mp (List.mem_map_of_mem (List.mem_reverse.mp hk2))
            have h4 := subsOf_mem h3
            rw [colz_len] at h4
            omega
          have hbl : bs.length ≤ 1024 := by rw [hbs, List.length_map, List.length_take]; omega
          refine ⟨rfl, _, rfl, _, rfl, .ref kk.1, .ref o.1, kk.2, o.2, rfl, ⟨_, rfl, e7 _ _ (e6 _ _ hkt)⟩, ⟨_, rfl, e7 _ _ (e6 _ _ (hfk o hom))⟩, by omega, by omega, fun H8 e8 => ?_⟩
          refine ⟨_, e8 _ _ hD7, by rw [List.length_map]; exact Nat.lt_of_le_of_lt hbl (by decide), bs ++ [within kk.2 o.2], by rw [upd_same, List.map_append]; rfl, Ext.set (Ext.trans e7 e8) hD3, ?_⟩
          rw [hbs, take_snoc ho, List.map_append]
          rfl
        rintro H7 ⟨bs, hD7, e7, hbs⟩
        rw [List.length_map, List.take_length] at hbs
        have e57 : Ext H5 H7 := Ext.trans e6 e7
        refine ⟨D3, bs, rfl, SqL.of hD7, _, rfl, ?_⟩
        have hany : bs.any id = (runF (indOf cs) ((ks.reverse.map (·.2)).take i)).any (fun o => within kk.2 o) := by
          rw [hbs, ← hrun, List.any_map, List.any_map]
          rfl
        show if (!(bs.any id)) = true then _ else _
        by_cases hb : bs.any id = false
        · rw [hb]
          refine iteT ?_
          refine ⟨_, rfl, .inl ⟨rfl, _, SqL.of (e57 _ _ hF5)⟩, _, rfl, F0, _, _, rfl, rfl, e57 _ _ hF5, by rw [List.length_map]; exact Nat.lt_of_le_of_lt hfl (by decide), ?_⟩
          have hF7 := e57 _ _ hF5
          have o7 : ∀ {b : Addr} {u : HO}, H5 b = some u → Stat u = true → upd H7 F0 (.lst ((fk.map fun k : Addr × Row => V.ref k.1) ++ [V.ref kk.1])) b = some u := fun {b u} h s => SK.lst hF7 _ _ (e57 _ _ h) s
          refine ⟨_, fk ++ [kk], rfl, Keep.set (k5.trans (Keep.of e57)) hFH hF7, by rw [upd_same, List.map_append]; rfl, fun k hk => ?_, ?_, by rw [upd_ne nq2]; exact e57 _ _ hq5, fun k hk => o7 (hks5 k hk) rfl, by rw [upd_ne nD]; exact e57 _ _ hD5, fun k hk => o7 (hps5 k hk) rfl⟩
          · rcases List.mem_append.mp hk with hk | hk
            · exact o7 (hfk k hk) rfl
            · rw [List.mem_singleton.mp hk]
              exact o7 hkt rfl
          · rw [htk, runF_snoc, List.map_append, hrun]
            unfold stepF
            rw [if_pos ⟨hi1, by rw [← hany]; exact hb⟩]
            rfl
        · rw [show bs.any id = true by simpa using hb]
          refine iteF ?_
          refine ⟨_, fk, rfl, k5.trans (Keep.of e57), e57 _ _ hF5, fun k hk => e57 _ _ (hfk k hk), ?_, e57 _ _ hq5, fun k hk => e57 _ _ (hks5 k hk), e57 _ _ hD5, fun k hk => e57 _ _ (hps5 k hk)⟩
          rw [htk, runF_snoc, hrun]
          unfold stepF
          rw [if_neg fun z => hb (by rw [hany]; exact z.2)]
      · rw [if_neg hi1]
        refine ⟨_, fk, rfl, k5.trans (Keep.of e6), e6 _ _ hF5, fun k hk => e6 _ _ (hfk k hk), ?_, e6 _ _ hq5, fun k hk => e6 _ _ (hks5 k hk), e6 _ _ hD5, fun k hk => e6 _ _ (hps5 k hk)⟩
        rw [htk, runF_snoc, hrun]
        unfold stepF
        rw [if_neg fun z => hi1 z.1]
    · rintro σ H5 ⟨a, fk, rfl, k5, hF5, hfk, hrun, hq5, hks5, hD5, hps5⟩
      rw [List.length_map, show ks.length = (ks.reverse.map (·.2)).length by simp, List.take_length] at hrun
      have hrev : ks.reverse.map (·.2) = (ks.map (·.2)).reverse := by rw [List.map_reverse]
      rw [hrev] at hrun
      have pwl : (ks.map (·.2)).Pairwise fun x y => x.length ≤ y.length := by
        rw [List.pairwise_map]
        exact pw
      have hfl : fk.length ≤ 1024 := by
        have h1 := congrArg List.length hrun
        rw [List.length_map] at h1
        have h2 := runF_len (ind := indOf cs) (ks.map (·.2)).reverse []
        rw [show (ks.map (·.2)).reverse.foldl (stepF (indOf cs)) [] = runF (indOf cs) (ks.map (·.2)).reverse from rfl, List.length_reverse, List.length_map, List.length_nil] at h2
        omega
      have hsubs : ∀ o ∈ fk, o.2.Sublist (colz rs.length) := fun o ho => by
        have h1 : o.2 ∈ runF (indOf cs) (ks.map (·.2)).reverse := by rw [← hrun]; exact List.mem_map_of_mem ho
        have h2 := List.mem_reverse.mp (runF_mem h1).1
        exact subs_sub (pm.mem_iff.mp h2)
      have hT5 := k5.tab hT
      have hra5 : H5 ra = some (.tup xs) := k5.sk _ _ ht1 rfl
      have hp5 := k5.sk _ _ hp rfl
      -- tables
      refine ⟨_, rfl, F0, rfl, ⟨_, SqL.of hF5⟩, fun D6 hD6 => ?_⟩
      refine lc_list (K := K) (a := F0) (xs := fk.map fun k : Addr × Row => V.ref k.1) (fun j H7 => ∃ tk : List (Addr × List Row), H7 D6 = some (.lst (tk.map fun k => V.ref k.1)) ∧ Ext H5 H7 ∧ (∀ k ∈ tk, ∃ vs, H7 k.1 = some (.tup vs) ∧ Rows H7 vs k.2) ∧ tk.map (·.2) = (fk.take j).map fun o => o.2.map (rowAt rs))
        ⟨[], upd_same, Ext.upd hD6, (fun k hk => by cases hk), rfl⟩ (fun j H7 _ q => ?_) ?_ ?_
      · obtain ⟨_, _, e7, _⟩ := q
        exact SqL.of (e7 _ _ hF5)
      · rintro j y H7 hj ⟨tk, hD7, e7, htk, hmt⟩
        obtain ⟨o, rfl, ho⟩ : ∃ o, y = V.ref o.1 ∧ fk[j]? = some o := by
          rw [List.getElem?_map] at hj
          cases e : fk[j]? with
          | none => rw [e] at hj; cases hj
          | some c => rw [e] at hj; exact ⟨c, (Option.some.inj hj).symm, rfl⟩
        have hom := List.mem_of_getElem? ho
        have hot := e7 _ _ (hfk o hom)
        have hsub := hsubs o hom
        have hol : o.2.length ≤ 10 := by
          have := hsub.length_le
          rw [colz_len] at this
          omega
        refine ⟨rfl, _, rfl, o.1, rfl, ⟨_, SqT.of hot⟩, fun D8 hD8 => ?_⟩
        refine lcT (K := K) (a := o.1) (xs := o.2.map V.int) (fs := o.2.map fun i => some (xs.getD i.toNat .non)) (SqT.of hot) hD8 (by simp) (by rw [List.length_map]; exact Nat.lt_of_le_of_lt hol (by decide)) (fun x => rfl) (fun i x r hx hr' H9 e9 => ?_) ?_
        · rw [List.getElem?_map] at hx hr'
          cases ea : o.2[i]? with
          | none => rw [ea] at hx; cases hx
          | some z =>
            rw [ea] at hx hr'
            cases hx
            cases hr'
            have hz := hsub.subset (List.mem_of_getElem? ea)
            obtain ⟨z0, z1⟩ := mem_colz.mp hz
            refine turnY rfl fun Q q => ?_
            refine ⟨_, rfl, p, aT K, dx, _, _, rfl, e9 _ _ (e7 _ _ hp5), Z.cT, Z.tR, look2b _ _, _, rfl, ra, xs, _, _, rfl, rfl, SqT.of (e9 _ _ (e7 _ _ hra5)), ?_, q⟩
            have e : ((z.toNat : Nat) : Int) = z := by omega
            have hlt : z.toNat < xs.length := by omega
            have := atI_nat (xs := xs) (j := z.toNat) (v := xs.getD z.toNat .non) (by simp [hlt])
            rwa [e] at this
        · have e8 : Ext H7 (upd H7 D8 (.lst ((o.2.map fun i => some (xs.getD i.toNat .non)).filterMap id))) := Ext.upd hD8
          refine .inl ⟨D8, _, rfl, SqL.of upd_same, fun t ht => ?_⟩
          have et := Ext.trans e8 (Ext.upd (o := HO.tup ((o.2.map fun i => some (xs.getD i.toNat .non)).filterMap id)) ht)
          have e75 : Ext H5 (upd (upd H7 D8 (.lst ((o.2.map fun i => some (xs.getD i.toNat .non)).filterMap id))) t (.tup ((o.2.map fun i => some (xs.getD i.toNat .non)).filterMap id))) := Ext.trans e7 et
          have htl : tk.length ≤ 1024 := by
            have := congrArg List.length hmt
            rw [List.length_map, List.length_map, List.length_take] at this
            omega
          refine ⟨_, et _ _ hD7, by rw [List.length_map]; exact Nat.lt_of_le_of_lt htl (by decide), tk ++ [(t, o.2.map (rowAt rs))], by rw [upd_same, List.map_append]; rfl, Ext.set e75 hD6, fun k hk => ?_, ?_⟩
          · rcases List.mem_append.mp hk with hk | hk
            · obtain ⟨vs, h1, h2⟩ := htk k hk
              exact ⟨vs, SK.lst (et _ _ hD7) _ _ (et _ _ h1) rfl, (h2.sk (SK.ext et)).sk (SK.lst (et _ _ hD7))⟩
            · rw [List.mem_singleton.mp hk]
              refine ⟨_, SK.lst (et _ _ hD7) _ _ upd_same rfl, ?_⟩
              have hrow : ∀ I : Row, (∀ i ∈ I, i ∈ colz rs.length) → Rows H (I.map fun i => xs.getD i.toNat .non) (I.map (rowAt rs)) := by
                intro I
                induction I with
                | nil => intro _; exact .nil
                | cons i I ih =>
                  intro hI
                  obtain ⟨r, hr1, hr2⟩ := rowAt_mem (hI i List.mem_cons_self)
                  obtain ⟨v, hv1, hv2⟩ := K9.Paired.getR ht2 hr1
                  refine .cons ?_ (ih fun i hi => hI i (List.mem_cons_of_mem _ hi))
                  show IsRow H (xs.getD i.toNat .non) (rowAt rs i)
                  rw [hr2]
                  have : xs.getD i.toNat .non = v := by simp [hv1]
                  rw [this]
                  exact hv2
              have hR : Rows H ((o.2.map fun i => some (xs.getD i.toNat .non)).filterMap id) (o.2.map (rowAt rs)) := by
                rw [fm_some]
                exact hrow o.2 fun i hi => hsub.subset hi
              exact ((hR.sk k5.sk).sk (SK.ext e75)).sk (SK.lst (et _ _ hD7))
          · rw [List.map_append, hmt, take_snoc ho, List.map_append]
            rfl
      rintro H7 ⟨tk, hD7, e7, htk, hmt⟩
      rw [List.length_map, List.take_length] at hmt
      have hmt2 : tk.map (·.2) = (runF (indOf cs) (ks.map (·.2)).reverse).map fun I => I.map (rowAt rs) := by
        rw [hmt, ← hrun, List.map_map]
        rfl
      have htl : tk.length ≤ 1024 := by
        have := congrArg List.length hmt
        rw [List.length_map, List.length_map] at this
        omega
      have htsub : ∀ t ∈ tk, t.2.Sublist rs := fun t ht => by
        have h1 : t.2 ∈ fk.map fun o => o.2.map (rowAt rs) := by rw [← hmt]; exact List.mem_map_of_mem ht
        obtain ⟨o, ho, e⟩ := List.mem_map.mp h1
        rw [← e]
        exact rows_sub (hsubs o ho)
      have k7 : Keep (aP K) H H7 := k5.trans (Keep.of e7)
      -- the sorted list
      have hdp : ∀ b ∈ tk, Dp K H7 (V.ref b.1) (dTab b.2) := fun b hb => by
        obtain ⟨vs, h1, h2⟩ := htk b hb
        exact TupRows.dp ⟨b.1, vs, rfl, h1, h2⟩
      have hcase : (tk.length ≤ 1) ∨ (∀ b ∈ tk, b.2 ≠ []) := by
        by_cases hm0 : 1 ≤ rs.length
        · have hne := run_ne tl pm pwl hm0
          refine .inr fun b hb z => ?_
          have h1 : b.2 ∈ (runF (indOf cs) (ks.map (·.2)).reverse).map fun I => I.map (rowAt rs) := by rw [← hmt2]; exact List.mem_map_of_mem hb
          obtain ⟨I, hI, e⟩ := List.mem_map.mp h1
          rw [z, List.map_eq_nil_iff] at e
          rw [e] at hI
          exact hne hI
        · have hm0 : rs.length = 0 := by omega
          have hk1' : ks.length = 1 := by rw [hkl, hm0]
          refine .inl ?_
          have h1 := congrArg List.length hmt2
          have h2 := runF_len (ind := indOf cs) (ks.map (·.2)).reverse []
          rw [show (ks.map (·.2)).reverse.foldl (stepF (indOf cs)) [] = runF (indOf cs) (ks.map (·.2)).reverse from rfl, List.length_reverse, List.length_map, List.length_nil] at h2
          rw [List.length_map, List.length_map] at h1
          omega
      refine ⟨_, rfl, sorted_tabs (SqL.of hD7) hdp hcase fun q tk' hq pmt => ?_⟩
      have hlt' : tk'.length ≤ 1024 := by rw [pmt.length_eq]; exact htl
      have e8 : Ext H7 (upd H7 q (.lst (tk'.map fun b : Addr × List Row => V.ref b.1))) := Ext.upd hq
      have e58 := Ext.trans e7 e8
      refine ⟨q, rfl, ⟨_, SqL.of upd_same⟩, fun D9 hD9 => ?_⟩
      refine lc_list (K := K) (a := q) (xs := tk'.map fun b : Addr × List Row => V.ref b.1) (fun j H8 => ∃ ts : List V, H8 D9 = some (.lst ts) ∧ Ext (upd H7 q (.lst (tk'.map fun b : Addr × List Row => V.ref b.1))) H8 ∧ Paired (fun v r => IsTab (aT K) H8 v n r) ts ((tk'.map (·.2)).take j))
        ⟨[], upd_same, Ext.upd hD9, .nil⟩ (fun j H8 _ q => ?_) ?_ ?_
      · obtain ⟨_, _, e9, _⟩ := q
        exact SqL.of (e9 _ _ upd_same)
      · rintro j y H8 hj ⟨ts, hD8, e9, hts⟩
        obtain ⟨o, rfl, ho⟩ : ∃ o, y = V.ref o.1 ∧ tk'[j]? = some o := by
          rw [List.getElem?_map] at hj
          cases e : tk'[j]? with
          | none => rw [e] at hj; cases hj
          | some c => rw [e] at hj; exact ⟨c, (Option.some.inj hj).symm, rfl⟩
        have hom := pmt.mem_iff.mp (List.mem_of_getElem? ho)
        have hsub := htsub o hom
        obtain ⟨vs, hv1, hv2⟩ := htk o hom
        have e59 := Ext.trans e58 e9
        have k8 : Keep (aP K) H H8 := k5.trans (Keep.of e59)
        have hol : o.2.length ≤ 10 := Nat.le_trans hsub.length_le hl1
        have htl : ts.length ≤ 1024 := by
          rw [Paired.length hts, List.length_take, List.length_map]
          omega
        refine ⟨rfl, _, rfl, p, aT K, dx, _, _, rfl, k8.sk _ _ hp rfl, Z.cT, Z.tC, look2a _ _, _, rfl, fun x dx' hx hdx hne => ?_⟩
        have hxH : upd H8 dx' (.own x) x = none := by rw [upd_ne hne.symm]; exact hx
        have e10 : Ext H8 (upd (upd H8 dx' (.own x)) x (.ins (aT K) dx' [])) := (Ext.upd hdx).trans (Ext.upd hxH)
        refine ⟨x, dx', c, o.1, n, vs, o.2, rfl, upd_same, (hc.sk k8.sk).sk (SK.ext e10), hn1, hn2, .inr (SqT.of (e10 _ _ (e9 _ _ (e8 _ _ hv1)))), hv2.sk (SK.ext ((e8.trans e9).trans e10)), fun r hr => wr r (hsub.subset hr), by omega, fun rs' H9 fr it cn => ⟨rfl, ?_⟩⟩
        have e11 : Ext H8 H9 := fun b u hb => fr b u (e10 _ _ hb) (ne_of_none hb hx)
        have ers : rs' = o.2 := canon_eq cn (hasc.sublist hsub)
        subst ers
        have hDx := e11 _ _ hD8
        refine ⟨ts, hDx, Nat.lt_of_le_of_lt htl (by decide), ts ++ [V.ref x], upd_same, Ext.set (Ext.trans e9 e11) hD9, ?_⟩
        rw [take_snoc (x := o.2) (by rw [List.getElem?_map, ho]; rfl)]
        exact K9.Paired.snoc' (Paired.mapP hts fun _ _ z => (z.sk (SK.ext e11)).sk (SK.lst hDx)) (it.sk (SK.lst hDx))
      · rintro H8 ⟨ts, hD8, e9, hts⟩
        rw [List.length_map, show tk'.length = (tk'.map (·.2)).length by simp, List.take_length] at hts
        have e59 := Ext.trans e58 e9
        refine k D9 ts (tk'.map (·.2)) H8 (k5.trans (Keep.of e59)) ?_ hD8 hts (rep_ok hasc tl pm pwl ?_) (by rw [List.length_map]; exact hlt')
        · exact fun o ho => (k5.trans (Keep.of e58)).free hD9 o ho
        · rw [← hmt2]
          exact pmt.map _
end
end K9

set_option maxHeartbeats 4000000
/-! Walks: Store.__init__, sides, put, rows. -/
namespace K9
open PySem L2
abbrev stF (n dp hd ix ch : V) : List (Str × V) := [("count", n), ("dependencies", dp), ("held", hd), ("indexes", ix), ("changes", ch)]
theorem sne1 : ¬ (("count" : Str) = "dependencies") := by decide +kernel
theorem sne2 : ¬ (("count" : Str) = "held") := by decide +kernel
theorem sne3 : ¬ (("count" : Str) = "indexes") := by decide +kernel
theorem sne4 : ¬ (("count" : Str) = "changes") := by decide +kernel
theorem sne5 : ¬ (("dependencies" : Str) = "held") := by decide +kernel
theorem sne6 : ¬ (("dependencies" : Str) = "indexes") := by decide +kernel
theorem sne7 : ¬ (("dependencies" : Str) = "changes") := by decide +kernel
theorem sne8 : ¬ (("held" : Str) = "indexes") := by decide +kernel
theorem sne9 : ¬ (("held" : Str) = "changes") := by decide +kernel
theorem sne10 : ¬ (("indexes" : Str) = "changes") := by decide +kernel
theorem st_flds (n dp hd ix ch : V) : putF "changes" ch (putF "indexes" ix (putF "held" hd (putF "dependencies" dp (putF "count" n [])))) = stF n dp hd ix ch := by
  simp [putF, sne1, sne2, sne3, sne4, sne5, sne6, sne7, sne8, sne9, sne10]
theorem beq_ne {a b : Str} (h : ¬ a = b) : (b == a) = false := by
  rw [beq_eq_false_iff_ne]
  exact fun z => h z.symm
theorem st_deps (n dp hd ix ch : V) : (stF n dp hd ix ch).lookup ("dependencies" : Str) = some dp := by simp [stF, List.lookup, beq_ne sne1]
theorem st_held (n dp hd ix ch : V) : (stF n dp hd ix ch).lookup ("held" : Str) = some hd := by simp [stF, List.lookup, beq_ne sne2, beq_ne sne5]
theorem st_idx (n dp hd ix ch : V) : (stF n dp hd ix ch).lookup ("indexes" : Str) = some ix := by simp [stF, List.lookup, beq_ne sne3, beq_ne sne6, beq_ne sne8]
theorem st_chg (n dp hd ix ch : V) : (stF n dp hd ix ch).lookup ("changes" : Str) = some ch := by simp [stF, List.lookup, beq_ne sne4, beq_ne sne7, beq_ne sne9, beq_ne sne10]
theorem st_no (n dp hd ix ch : V) {m : Str} (h1 : (m == ("count" : Str)) = false) (h2 : (m == ("dependencies" : Str)) = false) (h3 : (m == ("held" : Str)) = false) (h4 : (m == ("indexes" : Str)) = false) (h5 : (m == ("changes" : Str)) = false) : (stF n dp hd ix ch).lookup m = none := by
  simp [stF, List.lookup, h1, h2, h3, h4, h5]
/-- one index of the store: by the left side, the right side and a number -/
structure SIdx (H : Hp) (g : Fdp) (kvs : List (List L2.Key × V)) (S : List Row) : Prop where
  len : kvs.length ≤ S.length
  get : ∀ k v, valV kvs k = some v → ∃ r ∈ S, ∃ (q a : Addr) (c : Int), k = kI (proj r g.1) ∧ v = .ref q ∧ H q = some (.tup [.ref a, .int c]) ∧ H a = some (.tup ((proj r g.2).map V.int))
  has : ∀ r ∈ S, ∃ v, valV kvs (kI (proj r g.1)) = some v
  ok : ∀ a ∈ S, ∀ b ∈ S, brk g a b = false
theorem SIdx.sk {H H' : Hp} {f : Fdp} {kvs : List (List L2.Key × V)} {S : List Row} (h : SIdx H f kvs S) (k : SK H H') : SIdx H' f kvs S :=
  ⟨h.len, fun a v e => by
    obtain ⟨r, hr, q, b, c, e1, e2, e3, e4⟩ := h.get a v e
    exact ⟨r, hr, q, b, c, e1, e2, k _ _ e3 rfl, k _ _ e4 rfl⟩, h.has, h.ok⟩
theorem SIdx.put {H : Hp} {g : Fdp} {kvs : List (List L2.Key × V)} {S : List Row} {x : Row} {q a : Addr} {c : Int} (h : SIdx H g kvs S) (hx : ∀ b ∈ S, brk g x b = false) (hq : H q = some (.tup [.ref a, .int c])) (ha : H a = some (.tup ((proj x g.2).map V.int))) : SIdx H g (putK kvs (kI (proj x g.1)) (.ref q)) (S ++ [x]) := by
  refine ⟨by have := h.len; have := length_putK kvs (kI (proj x g.1)) (.ref q); rw [List.length_append, List.length_singleton]; omega, fun k v e => ?_, fun b hb => ?_, fun a ha b hb => ?_⟩
  · rw [valV_put] at e
    split at e
    · rename_i hk
      cases e
      exact ⟨x, List.mem_append_right _ (List.mem_singleton.mpr rfl), q, a, c, hk, rfl, hq, ha⟩
    · obtain ⟨r, hr, q⟩ := h.get k v e
      exact ⟨r, List.mem_append_left _ hr, q⟩
  · rw [valV_put]
    split
    · exact ⟨_, rfl⟩
    · rename_i hk
      rcases List.mem_append.mp hb with hb | hb
      · exact h.has b hb
      · exact absurd (by rw [List.mem_singleton.mp hb]) hk
  · rcases List.mem_append.mp ha with ha | ha <;> rcases List.mem_append.mp hb with hb | hb
    · exact h.ok a ha b hb
    · rw [List.mem_singleton.mp hb, brk_comm]
      exact hx a ha
    · rw [List.mem_singleton.mp ha]
      exact hx b hb
    · rw [List.mem_singleton.mp ha, List.mem_singleton.mp hb]
      exact brk_self g x
/-- a store stands at p: its rows S in the order of their coming; its dict at hd, its changes at ch, its indexes at ds -/
structure StoreAt (K : PySem.W.Frag) (H : Hp) (p : Addr) (fs : List Fdp) (S : List Row) (hd ch : Addr) (ds : List Addr) : Prop where
  ob : ∃ (dx : Addr) (n : V) (dp ix : Addr) (dvs : List V), H p = some (.ins (aS K) dx (stF n (.ref dp) (.ref hd) (.ref ix) (.ref ch))) ∧ H dp = some (.tup dvs) ∧ Fds (aF K) H dvs fs ∧ H ix = some (.lst (ds.map V.ref)) ∧ ix ≠ ch
  held : ∃ kvs, H hd = some (.dT kvs) ∧ kvs.map (·.1) = S.map kI
  len : ds.length = fs.length
  idx : ∀ (i : Nat) (d : Addr) (g : Fdp), ds[i]? = some d → fs[i]? = some g → ∃ kvs, H d = some (.dT kvs) ∧ SIdx H g kvs S
  chg : ∃ xs, H ch = some (.lst xs) ∧ xs.length ≤ S.length
  nd : ds.Nodup
  nh : hd ∉ ds
section
variable {w : World} {K : PySem.W.Frag} {mg : Str → Option Value} {base : Heap} {f : Addr} {fd : FuncData}
/-! ### sides -/
def spSides (K : PySem.W.Frag) : Sp := fun vs H Q _ => ∃ (p dx : Addr) (n : V) (dp hd ix ch : Addr) (dvs : List V) (fs : List Fdp) (i m : Nat) (g : Fdp) (vr : V) (row : Row), vs = [.ref p, .int i, vr] ∧ H p = some (.ins (aS K) dx (stF n (.ref dp) (.ref hd) (.ref ix) (.ref ch))) ∧ H dp = some (.tup dvs) ∧ Fds (aF K) H dvs fs ∧
  fs[i]? = some g ∧ WfFd m g ∧ row.length = m ∧ IsRow H vr row ∧ ∀ (t a b : Addr) (H' : Hp), Ext H H' → H' t = some (.tup [.ref a, .ref b]) → H' a = some (.tup ((proj row g.1).map V.int)) → H' b = some (.tup ((proj row g.2).map V.int)) → Q (.ref t) H'
abbrev nSd : List Str := ["self", "index", "row", "dependency", "column"]
theorem scSides : FnScope nSd ["self", "index", "row"] (defScope sSides) := ⟨rfl, rfl, rfl, by decide +kernel, rfl, by decide +kernel, by decide +kernel⟩
theorem side_comp {a : Addr} {pr : Addr} {cs row : Row} {m : Nat} {σ : L2.St} {H : Hp} {D : Addr} {Qd : Hp → Prop} (ha : H a = some (.tup (cs.map V.int))) (hr : H pr = some (.tup (row.map V.int))) (hm : row.length = m) (hc : ∀ c ∈ cs, c ∈ colz m) (hl : cs.length ≤ 60) (hD : H D = none)
    (hw : ∀ x, wipe ((wipe σ [4]).set 4 (some x)) [4] = wipe σ [4]) (h2 : ∀ x, ((wipe σ [4]).set 4 (some x))[2]? = some (some (.ref pr))) (h4 : ∀ x, ((wipe σ [4]).set 4 (some x))[4]? = some (some x)) (hd : Qd (upd H D (.lst ((proj row cs).map V.int)))) :
    ∃ W : Nat → Nat → Hp → Prop, (∃ m, W 0 m (upd H D (.lst []))) ∧ ∀ i m H, W i m H →
      ((Itt K a).stop i H ∧ Qd H) ∨ ((Itt K a).go i H ∧ ∃ Nx : Hp → Prop, (∀ H', Nx H' → ∃ m', m' < m ∧ W (i + 1) m' H') ∧ ∀ x H', (Itt K a).yld i H x H' → gName 4 x (wipe σ [4]) H' fun σ2 H2 => wipe σ2 [4] = wipe σ [4] ∧ tYes σ2 H2 fun b H3 =>
        if b = true then tOp (rIxT K) (tVar 2) (tVar 4) σ2 H3 fun y H4 => ∃ acc, H4 D = some (.lst acc) ∧ acc.length < sizeLine ∧ Nx (upd H4 D (.lst (acc ++ [y]))) else Nx H3) := by
  refine lcT (xs := cs.map V.int) (fs := cs.map fun c => some (V.int (row.getD c.toNat 0))) (SqT.of ha) hD (by simp) (by rw [List.length_map]; exact small1000 (by omega)) hw (fun i x r' hx hr' H2 e2 => ?_) ?_
  · rw [List.getElem?_map] at hx hr'
    cases ea : cs[i]? with
    | none => rw [ea] at hx; cases hx
    | some z =>
      rw [ea] at hx hr'
      cases hx
      cases hr'
      obtain ⟨z0, z1⟩ := mem_colz.mp (hc z (List.mem_of_getElem? ea))
      exact turnY rfl fun Q q => ⟨_, h2 _, _, h4 _, pr, _, _, _, rfl, rfl, SqT.of (e2 _ _ hr), row_at z0 (by omega), q⟩
  · rw [fm_some]
    rw [show (proj row cs).map V.int = cs.map fun c => V.int (row.getD c.toNat 0) by simp [List.map_map, Function.comp_def]] at hd
    exact hd
theorem ok_sides (F : FnP K "sides" "Store.sides" sSides f fd) (Z : E9 K mg) : FnOk prog w K mg base CX0 1 f fd ["self", "index", "row"] (spSides K) := by
  refine F.ok scSides (fun vs H Q E h => ?_) (fun cdv A outer s H vs Q E hr h => ?_)
  · obtain ⟨p, dx, n, dp, hd, ix, ch, dvs, fs, i, m, g, vr, row, rfl, _⟩ := h
    rfl
  · obtain ⟨p, dx, n, dp, hd, ix, ch, dvs, fs, i, m, g, vr, row, rfl, hp, hdp, hfd, hg, wf, hm, ⟨pr, rfl, hr2⟩, k⟩ := h
    refine ⟨_, PSs.nox (pss_cons (ps_set (i := 3) scSides.nd rfl (Or.inl rfl) (pe_ix ix_tup (pe_fld (pv 0) rfl) (pv 1) (fun _ _ => rfl)))
      (pss_one (ps_ret (pe_tup (pa_cons
        (pe_tupleOf (by rfl) Z.tup (pe_lc (own := [("column", 4)]) (g := gName 4) (tt := tYes) (te := tOp (rIxT K) (tVar 2) (tVar 4)) rfl scSides.nd (pi_tup (pe_fld (pv 3) rfl)) (blkOk_by (N := nSd) (sc := defScope sSides) (by decide +kernel)) (fun _ _ _ _ _ => pg_name (i := 4) scSides.nd rfl (Or.inl rfl)) (fun _ _ _ _ _ => pts_nil) (fun _ _ _ _ _ => pe_ix ix_tup (pv 2) (pv 4) (fun _ _ => rfl))))
        (pa_cons (pe_tupleOf (by rfl) Z.tup (pe_lc (own := [("column", 4)]) (g := gName 4) (tt := tYes) (te := tOp (rIxT K) (tVar 2) (tVar 4)) rfl scSides.nd (pi_tup (pe_fld (pv 3) rfl)) (blkOk_by (N := nSd) (sc := defScope sSides) (by decide +kernel)) (fun _ _ _ _ _ => pg_name (i := 4) scSides.nd rfl (Or.inl rfl)) (fun _ _ _ _ _ => pts_nil) (fun _ _ _ _ _ => pe_ix ix_tup (pv 2) (pv 4) (fun _ _ => rfl)))) pa_nil)))))), ?_⟩
    obtain ⟨v, hv, pf, dxf, al, ar, rfl, hpf, hal, har⟩ := K9.Paired.getR hfd hg
    refine ⟨_, rfl, p, aS K, dx, _, _, rfl, hp, Z.cS, Z.sDeps, st_deps _ _ _ _ _, _, rfl, dp, dvs, _, _, rfl, rfl, SqT.of hdp, atI_nat hv, ?_⟩
    refine ⟨_, rfl, pf, aF K, dxf, _, _, rfl, hpf, Z.cF, Z.fL, look_L _ _, al, rfl, ⟨_, SqT.of hal⟩, fun D hD => ?_⟩
    refine side_comp (K := K) hal hr2 hm wf.l wf.ll hD (fun _ => rfl) (fun _ => rfl) (fun _ => rfl) ?_
    refine .inl ⟨D, _, rfl, SqL.of upd_same, fun a ha => ?_⟩
    have e1 := (Ext.upd (o := HO.lst ((proj row g.1).map V.int)) hD).trans (Ext.upd (o := HO.tup ((proj row g.1).map V.int)) ha)
    refine ⟨_, rfl, pf, aF K, dxf, _, _, rfl, e1 _ _ hpf, Z.cF, Z.fR, look_R _ _, ar, rfl, ⟨_, SqT.of (e1 _ _ har)⟩, fun D2 hD2 => ?_⟩
    refine side_comp (K := K) (e1 _ _ har) (e1 _ _ hr2) hm wf.r wf.lr hD2 (fun _ => rfl) (fun _ => rfl) (fun _ => rfl) ?_
    refine .inl ⟨D2, _, rfl, SqL.of upd_same, fun b hb => ?_⟩
    have e2 := (Ext.upd (o := HO.lst ((proj row g.2).map V.int)) hD2).trans (Ext.upd (o := HO.tup ((proj row g.2).map V.int)) hb)
    refine ⟨by show 2 ≤ sizeLine; decide, fun t ht => ?_⟩
    have e3 := Ext.upd (o := HO.tup [V.ref a, V.ref b]) ht
    exact k t a b _ (e1.trans (e2.trans e3)) upd_same (e3 _ _ (e2 _ _ upd_same)) (e3 _ _ upd_same)
end
end K9

set_option maxHeartbeats 4000000
/-! Walks: Store.put, rows, __init__. -/
namespace K9
open PySem L2
theorem nodup_idx {α : Type} {l : List α} {i j : Nat} {x : α} (nd : l.Nodup) (hi : l[i]? = some x) (hj : l[j]? = some x) : i = j := by
  obtain ⟨h1, e1⟩ := List.getElem?_eq_some_iff.mp hi
  obtain ⟨h2, e2⟩ := List.getElem?_eq_some_iff.mp hj
  have p := List.pairwise_iff_getElem.mp nd
  rcases Nat.lt_trichotomy i j with h | h | h
  · exact absurd (e1.trans e2.symm) (p i j h1 h2 h)
  · exact h
  · exact absurd (e2.trans e1.symm) (p j i h2 h1 h)
theorem kI_mem {S : List Row} {r : Row} : kI r ∈ S.map kI ↔ r ∈ S := by
  rw [List.mem_map]
  constructor
  · rintro ⟨s, hs, e⟩
    rw [← kI_inj e]
    exact hs
  · exact fun h => ⟨r, h, rfl⟩
theorem valV_iff {kvs : List (List L2.Key × V)} {S : List Row} {r : Row} (h : kvs.map (·.1) = S.map kI) : (valV kvs (kI r)).isSome = decide (r ∈ S) := by
  cases e : valV kvs (kI r) with
  | some v =>
    have := valV_in e
    rw [h, kI_mem] at this
    simp [this]
  | none =>
    have := valV_not e
    rw [h, kI_mem] at this
    simp [this]
section
variable {w : World} {K : PySem.W.Frag} {mg : Str → Option Value} {base : Heap} {f : Addr} {fd : FuncData}
/-! ### put -/
def spPut (K : PySem.W.Frag) : Sp := fun vs H Q _ => ∃ (p : Addr) (vr : V) (fs : List Fdp) (S : List Row) (hd ch : Addr) (ds : List Addr) (m : Nat) (r : Row), vs = [.ref p, vr] ∧ StoreAt K H p fs S hd ch ds ∧ IsRow H vr r ∧ r.length = m ∧ (∀ g ∈ fs, WfFd m g) ∧ r ∉ S ∧ (∀ g ∈ fs, ∀ b ∈ S, brk g r b = false) ∧ S.length ≤ 60 ∧
  ∀ H', (∀ b o, H b = some o → b ≠ hd → b ∉ ds → H' b = some o) → StoreAt K H' p fs (S ++ [r]) hd ch ds → Q .non H'
abbrev nPt : List Str := ["self", "row", "index", "held", "left", "right"]
theorem scPut : FnScope nPt ["self", "row"] (defScope sPut) := ⟨rfl, rfl, rfl, by decide +kernel, rfl, by decide +kernel, by decide +kernel⟩
theorem ok_put (F : FnP K "put" "Store.put" sPut f fd) (Z : E9 K mg) (cS : C8.Met prog w K mg base 1 (aS K) "sides" (spSides K) []) : FnOk prog w K mg base CX0 2 f fd ["self", "row"] (spPut K) := by
  refine F.ok scPut (fun vs H Q E h => ?_) (fun cdv A outer s H vs Q E hr h => ?_)
  · obtain ⟨p, vr, fs, S, hd, ch, ds, m, r, rfl, _⟩ := h
    rfl
  · obtain ⟨p, vr, fs, S, hd, ch, ds, m, r, rfl, T, ⟨pr, rfl, hpr⟩, hm, wf, hn, hb, hS, k⟩ := h
    have hu := hu_of hr
    obtain ⟨dx, n, dp, ix, dvs, hp, hdp, hfd, hix, nic⟩ := T.ob
    obtain ⟨kvs0, hhd, hkey⟩ := T.held
    refine ⟨_, PSs.nox (pss_cons (ps_dput hu (pe_fld (pv 0) rfl) (pv 1) pe_bl rfl)
      (pss_one (ps_for PassesOwn.never rfl (pi_enum (by rfl) Z.enu (pa_cons (pe_fld (pv 0) rfl) pa_nil)) (pg_tup rfl (pgs_cons (pg_name (i := 2) scPut.nd rfl (Or.inl rfl)) (pgs_cons (pg_name (i := 3) scPut.nd rfl (Or.inl rfl)) pgs_nil)))
        (pss_cons (ps_asg (C8.pe_mt cS hr (by decide) (pv 0) (pa_cons (pv 2) (pa_cons (pv 1) pa_nil))) (pg_tup rfl (pgs_cons (pg_name (i := 4) scPut.nd rfl (Or.inl rfl)) (pgs_cons (pg_name (i := 5) scPut.nd rfl (Or.inl rfl)) pgs_nil))))
        (pss_one (ps_dput hu (pv 3) (pv 4) (pe_tup (pa_cons (pv 5) (pa_cons (pe_op op_add (pe_ix ix_tup (pe_dget2 hu (pv 3) (pv 4) (pe_tup (pa_cons (pv 5) (pa_cons pe_int pa_nil))) ⟨rfl, rfl, rfl, rfl⟩) pe_int (fun _ _ => rfl)) pe_int) pa_nil))) rfl)))))), ?_⟩
    have hkl : kvs0.length ≤ 60 := by
      have := congrArg List.length hkey
      rw [List.length_map, List.length_map] at this
      omega
    refine ⟨_, rfl, p, aS K, dx, _, _, rfl, hp, Z.cS, Z.sHeld, st_held _ _ _ _ _, _, rfl, hd, _, rfl, DPut.t (k := kI r) hhd (by rw [kI_kV]; exact hpr) (small1000 (by omega)), ?_⟩
    have hnone : valV kvs0 (kI r) = none := by
      have := valV_iff (r := r) hkey
      rw [decide_eq_false hn] at this
      simpa using this
    have k1 : SK H (upd H hd (.dT (putK kvs0 (kI r) (.bl true)))) := SK.upd hhd rfl
    have nix : ix ≠ hd := ne_of hix hhd (fun z => nomatch z)
    have fr1 : ∀ b o, H b = some o → b ≠ hd → upd H hd (.dT (putK kvs0 (kI r) (.bl true))) b = some o := fun b o h n => by rw [upd_ne n]; exact h
    have hix1 := fr1 _ _ hix nix
    refine ⟨_, rfl, p, aS K, dx, _, _, rfl, k1 _ _ hp rfl, Z.cS, Z.sIdx, st_idx _ _ _ _ _, ix, _, rfl, SqL.of hix1, ?_⟩
    generalize hH1 : upd H hd (.dT (putK kvs0 (kI r) (.bl true))) = H1 at k1 fr1 hix1 ⊢
    have hd1 : H1 hd = some (.dT (putK kvs0 (kI r) (.bl true))) := by rw [← hH1]; exact upd_same
    refine for_it (walk_enum (xs := ds.map V.ref)) (fun i σ H2 => ∃ (a b c e : Option V), σ = [some (.ref p), some (.ref pr), a, b, c, e] ∧ SK H1 H2 ∧ (∀ b o, H1 b = some o → b ∉ ds → H2 b = some o) ∧ ∀ (j : Nat) (d : Addr) (g : Fdp), ds[j]? = some d → fs[j]? = some g → ∃ kvs, H2 d = some (.dT kvs) ∧ SIdx H2 g kvs (if j < i then S ++ [r] else S))
      ⟨none, none, none, none, rfl, SK.rfl', fun b o h _ => h, fun j d g hj hg => ?_⟩ (fun i σ H2 _ q => ?_) ?_ ?_
    · obtain ⟨kvs, h1, h2⟩ := T.idx j d g hj hg
      have ne : d ≠ hd := fun z => T.nh (by rw [← z]; exact List.mem_of_getElem? hj)
      exact ⟨kvs, fr1 _ _ h1 ne, h2.sk k1⟩
    · obtain ⟨_, _, _, _, _, _, fr, _⟩ := q
      refine SqL.of (fr _ _ hix1 fun z => ?_)
      obtain ⟨j, hj⟩ := List.getElem?_of_mem z
      obtain ⟨g, hg⟩ := getOpt (ys := fs) T.len.symm hj
      obtain ⟨kvs, h1, _⟩ := T.idx j ix g hj hg
      rw [hix] at h1
      cases h1
    · rintro i x σ H2 H2' hi ⟨a, b, c, e, rfl, sk2, fr2, ix2⟩ ⟨t0, x1, y1, rfl, ht0, rfl, hx1, hy1⟩
      cases hx1
      obtain ⟨d, rfl, hdi⟩ : ∃ d, y1 = V.ref d ∧ ds[i]? = some d := by
        have hy1 : (ds.map V.ref)[i]? = some y1 := hy1
        rw [List.getElem?_map] at hy1
        cases q : ds[i]? with
        | none => rw [q] at hy1; cases hy1
        | some d => rw [q] at hy1; exact ⟨d, (Option.some.inj hy1).symm, rfl⟩
      obtain ⟨g, hg⟩ := getOpt (ys := fs) T.len.symm hdi
      have hgm := List.mem_of_getElem? hg
      obtain ⟨kvs, hd2, sx⟩ := ix2 i d g hdi hg
      rw [if_neg (Nat.lt_irrefl i)] at sx
      have e3 : Ext H2 (upd H2 t0 (.tup [V.int i, V.ref d])) := Ext.upd ht0
      have sk3 : SK H (upd H2 t0 (.tup [V.int i, V.ref d])) := (k1.trans sk2).trans (SK.ext e3)
      refine ⟨t0, _, rfl, SqT.of upd_same, rfl, _, _, rfl, _, _, rfl, rfl, ?_⟩
      refine ⟨_, rfl, p, dx, _, rfl, sk3 _ _ hp rfl, st_no _ _ _ _ _ (by decide +kernel) (by decide +kernel) (by decide +kernel) (by decide +kernel) (by decide +kernel), _, rfl, _, rfl, ?_⟩
      refine ⟨p, dx, n, dp, hd, ix, ch, dvs, fs, i, m, g, .ref pr, r, rfl, sk3 _ _ hp rfl, sk3 _ _ hdp rfl, hfd.sk sk3, hg, wf g hgm, hm, ⟨pr, rfl, sk3 _ _ hpr rfl⟩, fun t la lb H4 e4 ht hla hlb => ?_⟩
      refine ⟨t, _, rfl, SqT.of ht, rfl, _, _, rfl, _, _, rfl, rfl, ?_⟩
      have hd4 := e4 _ _ (e3 _ _ hd2)
      have sx4 := sx.sk (SK.ext (Ext.trans e3 e4))
      have hkla : H4 la = some (.tup ((kI (proj r g.1)).map kV)) := by rw [kI_kV]; exact hla
      have hkl4 : kvs.length < sizeLine := small1000 (by have := sx.len; omega)
      have rest : ∀ (H5 : Hp) (z : Addr) (c : Int), Ext H4 H5 → H5 z = some (.tup [.ref lb, .int c]) → ∀ N : L2.St → Hp → Prop, (∀ H6, SK H1 H6 → (∀ b o, H1 b = some o → b ∉ ds → H6 b = some o) → (∀ (j : Nat) (d : Addr) (g : Fdp), ds[j]? = some d → fs[j]? = some g → ∃ kvs, H6 d = some (.dT kvs) ∧ SIdx H6 g kvs (if j < i + 1 then S ++ [r] else S)) → N [some (.ref p), some (.ref pr), some (.int i), some (.ref d), some (.ref la), some (.ref lb)] H6) → N [some (.ref p), some (.ref pr), some (.int i), some (.ref d), some (.ref la), some (.ref lb)] (upd H5 d (.dT (putK kvs (kI (proj r g.1)) (.ref z)))) := by
        intro H5 z c e5 hz N hN
        have hd5 := e5 _ _ hd4
        have sk5 : SK H5 (upd H5 d (.dT (putK kvs (kI (proj r g.1)) (.ref z)))) := SK.upd hd5 rfl
        have e25 : Ext H2 H5 := Ext.trans (Ext.trans e3 e4) e5
        refine hN _ ((sk2.trans (SK.ext e25)).trans sk5) (fun b o hb nb => ?_) fun j d' g' hj hg' => ?_
        · have ne : b ≠ d := fun q => nb (by rw [q]; exact List.mem_of_getElem? hdi)
          rw [upd_ne ne]
          exact e25 _ _ (fr2 b o hb nb)
        · by_cases hji : j = i
          · subst hji
            rw [hdi] at hj
            rw [hg] at hg'
            cases hj
            cases hg'
            rw [if_pos (Nat.lt_succ_self _)]
            exact ⟨_, upd_same, ((sx4.sk (SK.ext e5)).put (hb g hgm) hz (e5 _ _ hlb)).sk sk5⟩
          · have ne : d' ≠ d := fun q => by
              subst q
              exact hji (nodup_idx T.nd hj hdi)
            obtain ⟨kv', h1, h2⟩ := ix2 j d' g' hj hg'
            rw [show (if j < i + 1 then S ++ [r] else S) = (if j < i then S ++ [r] else S) by
              by_cases q : j < i
              · rw [if_pos q, if_pos (by omega)]
              · rw [if_neg q, if_neg (by omega)]]
            exact ⟨kv', by rw [upd_ne ne]; exact e25 _ _ h1, (h2.sk (SK.ext e25)).sk sk5⟩
      refine ⟨_, rfl, _, rfl, d, rfl, .inr ⟨kvs, .inl hd4⟩, _, rfl, _, rfl, by show 2 ≤ sizeLine; decide, fun z hz => ⟨valV kvs (kI (proj r g.1)), DGet.t (Ext.upd hz _ _ hd4) (Ext.upd hz _ _ hkla), ?_⟩⟩
      have e5 : Ext H4 (upd H4 z (.tup [V.ref lb, V.int 0])) := Ext.upd hz
      have fin : ∀ (u : Addr) (ub : Addr) (c : Int), upd H4 z (.tup [V.ref lb, V.int 0]) u = some (.tup [.ref ub, .int c]) → ∀ N : L2.St → Hp → Prop, (∀ H6, SK H1 H6 → (∀ b o, H1 b = some o → b ∉ ds → H6 b = some o) → (∀ (j : Nat) (d : Addr) (g : Fdp), ds[j]? = some d → fs[j]? = some g → ∃ kvs, H6 d = some (.dT kvs) ∧ SIdx H6 g kvs (if j < i + 1 then S ++ [r] else S)) → N [some (.ref p), some (.ref pr), some (.int i), some (.ref d), some (.ref la), some (.ref lb)] H6) → True := fun _ _ _ _ _ _ => True.intro
      have got : ∃ (u ub : Addr) (c : Int), (valV kvs (kI (proj r g.1))).getD (.ref z) = .ref u ∧ upd H4 z (.tup [V.ref lb, V.int 0]) u = some (.tup [.ref ub, .int c]) := by
        cases hv : valV kvs (kI (proj r g.1)) with
        | none => exact ⟨z, lb, 0, rfl, upd_same⟩
        | some v =>
          obtain ⟨_, _, q, a0, c0, _, rfl, hq, _⟩ := sx4.get _ _ hv
          exact ⟨q, a0, c0, rfl, e5 _ _ hq⟩
      obtain ⟨u, ub, c0, eu, hu2⟩ := got
      rw [eu]
      refine ⟨u, _, _, _, rfl, rfl, SqT.of hu2, atI_nat (j := 1) (v := V.int c0) rfl, _, _, rfl, rfl, by show 2 ≤ sizeLine; decide, fun z2 hz2 => ?_⟩
      have e6 := Ext.trans e5 (Ext.upd (o := HO.tup [V.ref lb, V.int (c0 + 1)]) hz2)
      refine ⟨_, rfl, _, rfl, d, _, rfl, DPut.t (e6 _ _ hd4) (e6 _ _ hkla) hkl4, ?_⟩
      exact rest _ z2 (c0 + 1) e6 upd_same _ fun H6 h1 h2 h3 => ⟨_, _, _, _, rfl, h1, h2, h3⟩
    · rintro σ H2 ⟨a, b, c, e, rfl, sk2, fr2, ix2⟩
      have nds : ∀ {b : Addr} {u : HO}, H b = some u → (∀ kv, u ≠ .dT kv) → b ∉ ds := fun {b u} h n z => by
        obtain ⟨j, hj⟩ := List.getElem?_of_mem z
        obtain ⟨g, hg⟩ := getOpt (ys := fs) T.len.symm hj
        obtain ⟨kvs, h1, _⟩ := T.idx j b g hj hg
        rw [h] at h1
        exact n _ (Option.some.inj h1)
      refine k H2 (fun b o hb n1 n2 => fr2 b o (fr1 b o hb n1) n2) ⟨⟨dx, n, dp, ix, dvs, sk2 _ _ (k1 _ _ hp rfl) rfl, sk2 _ _ (k1 _ _ hdp rfl) rfl, (hfd.sk k1).sk sk2, fr2 _ _ hix1 (nds hix fun kv z => nomatch z), nic⟩, ⟨_, fr2 _ _ hd1 T.nh, ?_⟩, T.len, fun j d g hj hg => ?_, ?_, T.nd, T.nh⟩
      · rw [putK_new _ hnone, List.map_append, List.map_append, hkey]
        rfl
      · obtain ⟨kvs, h1, h2⟩ := ix2 j d g hj hg
        rw [if_pos (by rw [List.length_map]; exact (List.getElem?_eq_some_iff.mp hj).1)] at h2
        exact ⟨kvs, h1, h2⟩
      · obtain ⟨xs, h1, h2⟩ := T.chg
        refine ⟨xs, fr2 _ _ (fr1 _ _ h1 (ne_of h1 hhd fun z => nomatch z)) (nds h1 fun kv z => nomatch z), by rw [List.length_append]; omega⟩
/-! ### rows -/
def spRowsM (K : PySem.W.Frag) : Sp := fun vs H Q _ => ∃ (p : Addr) (fs : List Fdp) (S : List Row) (hd ch : Addr) (ds : List Addr), vs = [.ref p] ∧ StoreAt K H p fs S hd ch ds ∧ (∀ r ∈ S, r ≠ []) ∧ S.length ≤ 60 ∧
  ∀ (q : Addr) (xs : List V) (rs : List Row) (H' : Hp), Ext H H' → H q = none → H' q = some (.lst xs) → Rows H' xs rs → rs.Perm S → Q (.ref q) H'
theorem scRowsM : FnScope ["self"] ["self"] (defScope sRows) := ⟨rfl, rfl, rfl, by decide +kernel, rfl, by decide +kernel, by decide +kernel⟩
theorem keys_pairs {H : Hp} : ∀ {kvs : List (List L2.Key × V)} {S : List Row} {bs : List Addr}, kvs.map (·.1) = S.map kI → Paired (fun (p : List L2.Key × V) b => H b = some (.tup (p.1.map kV))) kvs bs → ∃ ks : List (Addr × List Int), bs = ks.map (·.1) ∧ S = ks.map (·.2) ∧ ∀ p ∈ ks, H p.1 = some (.tup (p.2.map V.int))
  | _, [], _, _, .nil => ⟨[], rfl, rfl, fun p h => by cases h⟩
  | _, _ :: _, _, h, .nil => by simp at h
  | _, [], _, h, .cons _ _ => by simp at h
  | kv :: kvs, r :: S, b :: bs, h, .cons q t => by
    rw [List.map_cons, List.map_cons] at h
    injection h with h1 h2
    obtain ⟨ks, rfl, rfl, a⟩ := keys_pairs h2 t
    refine ⟨(b, r) :: ks, rfl, rfl, fun p hp => ?_⟩
    rcases List.mem_cons.mp hp with rfl | hp
    · rw [h1, kI_kV] at q
      exact q
    · exact a p hp
theorem ok_rowsM (F : FnP K "rows" "Store.rows" sRows f fd) (Z : E9 K mg) : FnOk prog w K mg base CX0 1 f fd ["self"] (spRowsM K) := by
  refine F.ok scRowsM (fun vs H Q E h => ?_) (fun cdv A outer s H vs Q E hr h => ?_)
  · obtain ⟨p, fs, S, hd, ch, ds, rfl, _⟩ := h
    rfl
  · obtain ⟨p, fs, S, hd, ch, ds, rfl, T, hne, hS, k⟩ := h
    obtain ⟨dx, n, dp, ix, dvs, hp, hdp, hfd, hix, nic⟩ := T.ob
    obtain ⟨kvs0, hhd, hkey⟩ := T.held
    refine ⟨_, PSs.nox (pss_one (ps_ret (pe_callB (cr_sortD (ref := fun b : Addr × List Int => V.ref b.1) (enc := fun b : Addr × List Int => dRow b.2) hr (fun b b' => alike_row b.2 b'.2)) (by rfl) Z.srt (by decide +kernel) (pa_cons (pe_callTy (call_list_dT rfl) (by rfl) Z.lis (by decide +kernel) (pa_cons (pe_fld (pv 0) rfl) pa_nil)) pa_nil)))), ?_⟩
    refine ⟨_, rfl, p, aS K, dx, _, _, rfl, hp, Z.cS, Z.sHeld, st_held _ _ _ _ _, hd, kvs0, rfl, .inl hhd, fun l bs hl hk => ?_⟩
    obtain ⟨ks, rfl, rfl, hks⟩ := keys_pairs hkey hk
    have e1 : Ext H (upd H l (.lst ((ks.map (·.1)).map V.ref))) := Ext.upd hl
    refine ⟨l, ks, rfl, SqL.of (by rw [upd_same, List.map_map]; rfl), fun b hb => IsRow.dp ⟨b.1, rfl, e1 _ _ (hks b hb)⟩, sortable_rows (fun b : Addr × List Int => b.2) fun b hb => hne _ (List.mem_map_of_mem hb), fun b hb => ?_, fun q hq => ?_⟩
    · have := depth_row b.2
      show (dRow b.2).depth ≤ 8
      omega
    · have pm := List.mergeSort_perm ks (PySem.W.dataLe false fun b : Addr × List Int => dRow b.2)
      have e2 := Ext.trans e1 (Ext.upd (o := HO.lst ((ks.mergeSort (PySem.W.dataLe false fun b : Addr × List Int => dRow b.2)).map fun b => V.ref b.1)) hq)
      exact k q _ ((ks.mergeSort (PySem.W.dataLe false fun b : Addr × List Int => dRow b.2)).map (·.2)) _ e2 (Ext.free e1 hq) upd_same (rows_perm (fun p hp => e2 _ _ (hks p hp)) pm) (pm.map _)
end
end K9

set_option maxHeartbeats 4000000
/-! Walks: Store.__init__, insert. -/
namespace K9
open PySem L2
/-- all but what is at p stays -/
def NP (p : Addr) (H H' : Hp) : Prop := ∀ b o, H b = some o → b ≠ p → H' b = some o
theorem NP.trans {p : Addr} {H H1 H2 : Hp} (a : NP p H H1) (b : NP p H1 H2) : NP p H H2 := fun c o h n => b c o (a c o h n) n
theorem NP.ext {p : Addr} {H H1 : Hp} (a : Ext H H1) : NP p H H1 := fun c o h _ => a c o h
theorem NP.at {p : Addr} {H : Hp} {o : HO} : NP p H (upd H p o) := fun c u h n => by rw [upd_ne n]; exact h
theorem seqL_upd {K : PySem.W.Frag} {H : Hp} {p r C dx : Addr} {fs : List (Str × V)} {o : HO} {xs : List V} (hp : H p = some (.ins C dx fs)) (hq : SqL K H r xs) : SqL K (upd H p o) r xs := by
  have ne : ∀ {u : HO}, H r = some u → (∀ C dx fs, u ≠ .ins C dx fs) → upd H p o r = some u := fun {u} h n => by
    rw [upd_ne fun z => ?_]
    · exact h
    · rw [z, hp] at h
      exact n _ _ _ (Option.some.inj h).symm
  rcases hq with (h | ⟨o', h⟩) | h
  · exact .inl (.inl (ne h fun _ _ _ z => by cases z))
  · exact .inl (.inr ⟨o', ne h fun _ _ _ z => by cases z⟩)
  · exact .inr h
section
variable {w : World} {K : PySem.W.Frag} {mg : Str → Option Value} {base : Heap} {f : Addr} {fd : FuncData}
def spStoreI (K : PySem.W.Frag) : Sp := fun vs H Q _ => ∃ (p dx ld : Addr) (vc : V) (fvs : List V) (fs : List Fdp), vs = [.ref p, vc, .ref ld] ∧ H p = some (.ins (aS K) dx []) ∧ SqL K H ld fvs ∧ Fds (aF K) H fvs fs ∧ fs.length ≤ 60 ∧
  ∀ (H' : Hp) (hd ch : Addr) (ds : List Addr), NP p H H' → StoreAt K H' p fs [] hd ch ds → H hd = none → H ch = none → (∀ d ∈ ds, H d = none) → Q .non H'
abbrev nSi : List Str := ["self", "count", "dependencies", "_"]
theorem scStoreI : FnScope nSi ["self", "count", "dependencies"] (defScope sStoreI) := ⟨rfl, rfl, rfl, by decide +kernel, rfl, by decide +kernel, by decide +kernel⟩
theorem ok_storeI (F : FnP K "__init__" "Store.__init__" sStoreI f fd) (Z : E9 K mg) : FnOk prog w K mg base CX0 1 f fd ["self", "count", "dependencies"] (spStoreI K) := by
  refine F.ok scStoreI (fun vs H Q E h => ?_) (fun cdv A outer s H vs Q E hr h => ?_)
  · obtain ⟨p, dx, ld, vc, fvs, fs, rfl, _⟩ := h
    rfl
  · obtain ⟨p, dx, ld, vc, fvs, fs, rfl, hp, hld, hfd, hfl, k⟩ := h
    have hfv : fvs.length = fs.length := Paired.length hfd
    refine ⟨_, PSs.nox (pss_cons (ps_fld (pv 0) (pv 1) rfl)
      (pss_cons (ps_fld (pv 0) (pe_tupleOf (by rfl) Z.tup (pv 2)) rfl)
      (pss_cons (ps_fld (pv 0) pe_dnewT rfl)
      (pss_cons (ps_fld (pv 0) (pe_lc (own := [("_", 3)]) (g := gName 3) (tt := tYes) (te := tDNewT) rfl scStoreI.nd (pi_tup (pe_fld (pv 0) rfl)) (blkOk_by (N := nSi) (sc := defScope sStoreI) (by decide +kernel)) (fun _ _ _ _ _ => pg_name (i := 3) scStoreI.nd rfl (Or.inl rfl)) (fun _ _ _ _ _ => pts_nil) (fun _ _ _ _ _ => pe_dnewT)) rfl)
      (pss_one (ps_fld (pv 0) (pe_lst pa_nil) rfl)))))), ?_⟩
    refine ⟨_, rfl, _, rfl, p, aS K, dx, _, rfl, hp, Z.cS, Z.sCount, by decide, ?_⟩
    have hld1 := seqL_upd (K := K) (o := HO.ins (aS K) dx (putF "count" vc [])) hp hld
    have n1 : NP p H (upd H p (.ins (aS K) dx (putF "count" vc []))) := NP.at
    -- dependencies
    refine ⟨_, rfl, .inl ⟨ld, fvs, rfl, hld1, fun dp hdp => ?_⟩⟩
    have n2 := n1.trans (NP.ext (p := p) (Ext.upd (o := HO.tup fvs) hdp))
    have hdpp : dp ≠ p := (ne_of_none (upd_same (a := p)) hdp).symm
    refine ⟨_, rfl, p, aS K, dx, _, rfl, by rw [upd_ne hdpp.symm, upd_same], Z.cS, Z.sDeps, by show 1 < 1000; decide, ?_⟩
    generalize hH3 : upd (upd (upd H p (.ins (aS K) dx (putF "count" vc []))) dp (.tup fvs)) p (.ins (aS K) dx (putF "dependencies" (V.ref dp) (putF "count" vc []))) = H3
    have n3 : NP p H H3 := by rw [← hH3]; exact n2.trans NP.at
    have hp3 : H3 p = some (.ins (aS K) dx (putF "dependencies" (V.ref dp) (putF "count" vc []))) := by rw [← hH3]; exact upd_same
    have hdp3 : H3 dp = some (.tup fvs) := by rw [← hH3, upd_ne hdpp]; exact upd_same
    -- held
    intro hd hhd
    have n4 := n3.trans (NP.ext (p := p) (Ext.upd (o := HO.dT []) hhd))
    have hhdp : hd ≠ p := (ne_of_none hp3 hhd).symm
    refine ⟨_, rfl, p, aS K, dx, _, rfl, by rw [upd_ne hhdp.symm]; exact hp3, Z.cS, Z.sHeld, by show 2 < 1000; decide, ?_⟩
    generalize hH5 : upd (upd H3 hd (.dT [])) p (.ins (aS K) dx (putF "held" (V.ref hd) (putF "dependencies" (V.ref dp) (putF "count" vc [])))) = H5
    have n35 : NP p H3 H5 := by rw [← hH5]; exact (NP.ext (Ext.upd hhd)).trans NP.at
    have n5 : NP p H H5 := n3.trans n35
    have hp5 : H5 p = some (.ins (aS K) dx (putF "held" (V.ref hd) (putF "dependencies" (V.ref dp) (putF "count" vc [])))) := by rw [← hH5]; exact upd_same
    have hhd5 : H5 hd = some (.dT []) := by rw [← hH5, upd_ne hhdp]; exact upd_same
    have hdp5 := n35 _ _ hdp3 hdpp
    -- indexes
    have e5 : putF "held" (V.ref hd) (putF "dependencies" (V.ref dp) (putF "count" vc [])) = ([("count", vc), ("dependencies", V.ref dp), ("held", V.ref hd)] : List (Str × V)) := by simp [putF, sne1, sne2, sne5]
    have lk5 : (putF "held" (V.ref hd) (putF "dependencies" (V.ref dp) (putF "count" vc []))).lookup ("dependencies" : Str) = some (V.ref dp) := by
      rw [e5]
      simp [List.lookup, beq_ne sne1]
    have cl5 : (putF "held" (V.ref hd) (putF "dependencies" (V.ref dp) (putF "count" vc []))).length < 1000 := by
      rw [e5]
      show 3 < 1000
      decide
    refine ⟨_, rfl, p, aS K, dx, _, _, rfl, hp5, Z.cS, Z.sDeps, lk5, dp, rfl, ⟨_, SqT.of hdp5⟩, fun D hD => ?_⟩
    refine lc_tup (K := K) (a := dp) (xs := fvs) (fun j H6 => ∃ ds : List Addr, H6 D = some (.lst (ds.map V.ref)) ∧ Ext H5 H6 ∧ ds.length = j ∧ ds.Nodup ∧ ∀ d ∈ ds, H6 d = some (.dT []) ∧ H5 d = none)
      ⟨[], upd_same, Ext.upd hD, rfl, List.nodup_nil, fun d hd => by cases hd⟩ (fun j H6 _ q => ?_) ?_ ?_
    · obtain ⟨ds, _, e6, _⟩ := q
      exact SqT.of (e6 _ _ hdp5)
    · rintro j x H6 hj ⟨ds, hD6, e6, hl6, nd6, h6⟩
      have hjl := (List.getElem?_eq_some_iff.mp hj).1
      refine ⟨rfl, fun d hd0 => ?_⟩
      have ed : Ext H6 (upd H6 d (.dT [])) := Ext.upd hd0
      refine ⟨_, ed _ _ hD6, by rw [List.length_map]; exact small1000 (by omega), ds ++ [d], by rw [upd_same, List.map_append]; rfl, Ext.set (Ext.trans e6 ed) hD, by rw [List.length_append, hl6]; rfl, ?_, fun d' hd' => ?_⟩
      · rw [List.nodup_append]
        refine ⟨nd6, by simp, fun a ha b hb z => ?_⟩
        rw [List.mem_singleton.mp hb] at z
        rw [z] at ha
        rw [(h6 d ha).1] at hd0
        cases hd0
      · have hne : ∀ {d' : Addr}, H6 d' = some (.dT []) ∨ d' = d → d' ≠ D := fun {d'} h z => by
          rcases h with h | h
          · rw [z, hD6] at h
            cases h
          · rw [← h, z, hD6] at hd0
            cases hd0
        rcases List.mem_append.mp hd' with hd' | hd'
        · obtain ⟨a1, a2⟩ := h6 d' hd'
          exact ⟨by rw [upd_ne (hne (.inl a1))]; exact ed _ _ a1, a2⟩
        · rw [List.mem_singleton.mp hd']
          exact ⟨by rw [upd_ne (hne (.inr rfl)), upd_same], Ext.free e6 hd0⟩
    rintro H6 ⟨ds, hD6, e6, hl6, nd6, h6⟩
    refine ⟨_, rfl, p, aS K, dx, _, rfl, e6 _ _ hp5, Z.cS, Z.sIdx, cl5, ?_⟩
    have e7 : putF "indexes" (V.ref D) (putF "held" (V.ref hd) (putF "dependencies" (V.ref dp) (putF "count" vc []))) = ([("count", vc), ("dependencies", V.ref dp), ("held", V.ref hd), ("indexes", V.ref D)] : List (Str × V)) := by simp [putF, sne1, sne2, sne3, sne5, sne6, sne8]
    generalize hH7 : upd H6 p (.ins (aS K) dx (putF "indexes" (V.ref D) (putF "held" (V.ref hd) (putF "dependencies" (V.ref dp) (putF "count" vc []))))) = H7
    have n67 : NP p H6 H7 := by rw [← hH7]; exact NP.at
    have hp7 : H7 p = some (.ins (aS K) dx (putF "indexes" (V.ref D) (putF "held" (V.ref hd) (putF "dependencies" (V.ref dp) (putF "count" vc []))))) := by rw [← hH7]; exact upd_same
    refine ⟨by decide, fun ch hch => ?_⟩
    have hchp : ch ≠ p := (ne_of_none hp7 hch).symm
    refine ⟨_, rfl, p, aS K, dx, _, rfl, by rw [upd_ne hchp.symm]; exact hp7, Z.cS, Z.sChg, by rw [e7]; show 4 < 1000; decide, ?_⟩
    have n79 : NP p H7 (upd (upd H7 ch (.lst [])) p (.ins (aS K) dx (putF "changes" (V.ref ch) (putF "indexes" (V.ref D) (putF "held" (V.ref hd) (putF "dependencies" (V.ref dp) (putF "count" vc []))))))) := (NP.ext (Ext.upd hch)).trans NP.at
    have n57 : NP p H5 _ := ((NP.ext (p := p) e6).trans n67).trans n79
    have hDp : D ≠ p := (ne_of_none hp5 hD).symm
    have hdx : ∀ d ∈ ds, d ≠ p := fun d hd z => by
      have := (h6 d hd).2
      rw [z, hp5] at this
      cases this
    have free5 : ∀ {b : Addr}, H5 b = none → H b = none := fun {b} hb => by
      cases q : H b with
      | none => rfl
      | some o =>
        by_cases hbp : b = p
        · rw [hbp, hp5] at hb
          cases hb
        · rw [n5 b o q hbp] at hb
          cases hb
    have free3 : H hd = none := by
      cases q : H hd with
      | none => rfl
      | some o =>
        rw [n3 hd o q hhdp] at hhd
        cases hhd
    have freeC : H ch = none := by
      cases q : H ch with
      | none => rfl
      | some o =>
        rw [n67 _ _ (e6 _ _ (n5 ch o q hchp)) hchp] at hch
        cases hch
    have n09 := n5.trans n57
    refine k _ hd ch ds n09 ⟨⟨dx, vc, dp, D, fvs, ?_, n57 _ _ hdp5 hdpp, ?_, ?_, ?_⟩, ⟨[], n57 _ _ hhd5 hhdp, rfl⟩, by rw [hl6, hfv], fun j d g hj hg => ?_, ⟨[], by rw [upd_ne hchp]; exact upd_same, Nat.le_refl _⟩, nd6, fun z => ?_⟩ free3 freeC fun d hd => free5 (h6 d hd).2
    · rw [upd_same, st_flds]
    · refine Paired.mapP hfd fun v g z => ?_
      obtain ⟨q, dq, al, ar, e, q1, q2, q3⟩ := z
      have np : ∀ {b : Addr} {u : HO}, H b = some u → u ≠ .ins (aS K) dx [] → b ≠ p := fun {b u} h n z => by
        rw [z, hp] at h
        exact n (Option.some.inj h).symm
      refine ⟨q, dq, al, ar, e, n09 _ _ q1 (np q1 fun z => ?_), n09 _ _ q2 (np q2 fun z => by cases z), n09 _ _ q3 (np q3 fun z => by cases z)⟩
      injection z with _ _ z3
      cases z3
    · exact n79 _ _ (n67 _ _ hD6 hDp) hDp
    · exact ne_of_none (n67 _ _ hD6 hDp) hch
    · have hdm := List.mem_of_getElem? hj
      refine ⟨[], n79 _ _ (n67 _ _ (h6 d hdm).1 (hdx d hdm)) (hdx d hdm), Nat.le_refl _, (fun k v e => by cases e), (fun r hr => by cases hr), fun a ha => by cases ha⟩
    · have := (h6 hd z).2
      rw [hhd5] at this
      cases this
end
end K9

set_option maxHeartbeats 4000000
/-! Walks: Store.insert, which may raise Broken. -/
namespace K9
open PySem L2
structure BrkU (w : World) (K : PySem.W.Frag) (mg : Str → Option Value) (base : Heap) (CB : Addr) : Prop where
  T : OexC K CB
  ex : ∃ (fI : Addr) (fd : FuncData), PySem.W.findIn K (.ref CB) "__init__" = some (some (.ref fI)) ∧ PySem.W.typeIn K (.ref fI) = some (.type "function") ∧ FnOk prog w K mg base C8.CX0 1 fI fd ["self", "index"] (spBrk CB) ∧ Binds K fd ["self", "index"] []
  g : mg "Broken" = some (.ref CB)
/-- a row that conflicts with one of them -/
def hits (fs : List Fdp) (S : List Row) (r : Row) : Bool := S.any fun b => cfl fs r b
theorem hits_false {fs : List Fdp} {S : List Row} {r : Row} : hits fs S r = false ↔ ∀ g ∈ fs, ∀ b ∈ S, brk g r b = false := by
  unfold hits cfl
  rw [← Bool.not_eq_true, List.any_eq_true]
  constructor
  · intro h g hg b hb
    cases e : brk g r b with
    | false => rfl
    | true => exact absurd ⟨b, hb, List.any_eq_true.mpr ⟨g, hg, e⟩⟩ h
  · rintro h ⟨b, hb, e⟩
    obtain ⟨g, hg, e2⟩ := List.any_eq_true.mp e
    rw [h g hg b hb] at e2
    cases e2
section
variable {w : World} {K : PySem.W.Frag} {mg : Str → Option Value} {base : Heap} {f : Addr} {fd : FuncData}
def spInsert (K : PySem.W.Frag) (CB : Addr) : Sp := fun vs H Q E => ∃ (p : Addr) (vr : V) (fs : List Fdp) (S : List Row) (hd ch : Addr) (ds : List Addr) (m : Nat) (r : Row), vs = [.ref p, vr] ∧ StoreAt K H p fs S hd ch ds ∧ IsRow H vr r ∧ r.length = m ∧ (∀ g ∈ fs, WfFd m g) ∧ S.length ≤ 60 ∧
  (r ∈ S → Q (.bl false) H) ∧ (r ∉ S → hits fs S r = false → ∀ H', (∀ b o, H b = some o → b ≠ hd → b ≠ ch → b ∉ ds → H' b = some o) → StoreAt K H' p fs (S ++ [r]) hd ch ds → Q (.bl true) H') ∧
  (r ∉ S → hits fs S r = true → ∀ (d : Addr) (H' : Hp), Ext H H' → E (.ref CB) (some d) H')
abbrev nIn : List Str := ["self", "row", "cells", "index", "held", "left", "right"]
theorem scInsert : FnScope nIn ["self", "row"] (defScope sInsert) := ⟨rfl, rfl, rfl, by decide +kernel, rfl, by decide +kernel, by decide +kernel⟩
theorem StoreAt.ext {H H' : Hp} {p : Addr} {fs : List Fdp} {S : List Row} {hd ch : Addr} {ds : List Addr} (T : StoreAt K H p fs S hd ch ds) (e : Ext H H') : StoreAt K H' p fs S hd ch ds := by
  obtain ⟨dx, n, dp, ix, dvs, h1, h2, h3, h4, h5⟩ := T.ob
  obtain ⟨kvs, h6, h7⟩ := T.held
  obtain ⟨xs, h8, h9⟩ := T.chg
  exact ⟨⟨dx, n, dp, ix, dvs, e _ _ h1, e _ _ h2, h3.sk (SK.ext e), e _ _ h4, h5⟩, ⟨kvs, e _ _ h6, h7⟩, T.len, fun i d g hi hg => let ⟨kv, a, b⟩ := T.idx i d g hi hg; ⟨kv, e _ _ a, b.sk (SK.ext e)⟩, ⟨xs, e _ _ h8, h9⟩, T.nd, T.nh⟩
theorem ok_insert {CB : Addr} (F : FnP K "insert" "Store.insert" sInsert f fd) (Z : E9 K mg) (B : BrkU w K mg base CB) (cS : C8.Met prog w K mg base 1 (aS K) "sides" (spSides K) []) (cP : C8.Met prog w K mg base 2 (aS K) "put" (spPut K) []) : FnOk prog w K mg base (L2.CX prog w) 3 f fd ["self", "row"] (spInsert K CB) := by
  refine F.ok scInsert (fun vs H Q E h => ?_) (fun cdv A outer s H vs Q E hr h => ?_)
  · obtain ⟨p, vr, fs, S, hd, ch, ds, m, r, rfl, _⟩ := h
    rfl
  · obtain ⟨p, vr, fs, S, hd, ch, ds, m, r, rfl, T, ⟨pr, rfl, hpr⟩, hm, wf, hS, k1, k2, k3⟩ := h
    have hu := hu_of hr
    obtain ⟨dx, n, dp, ix, dvs, hp, hdp, hfd, hix, nic⟩ := id T.ob
    obtain ⟨kvs0, hhd, hkey⟩ := id T.held
    obtain ⟨fI, fdI, b1, b2, b3, b4⟩ := B.ex
    refine ⟨_, (pss_cons (ps_set (i := 2) scInsert.nd rfl (Or.inl rfl) (pe_tupleOf (by rfl) Z.tup (pv 1)))
      (pss_cons (ps_if (pt_cmp (pc_din hu (pv 2) (pe_fld (pv 0) rfl))) (pss_one (ps_ret pe_bl)) pss_nil)
      (pss_cons (ps_for (passes_of rfl) rfl (pi_enum (by rfl) Z.enu (pa_cons (pe_fld (pv 0) rfl) pa_nil)) (pg_tup rfl (pgs_cons (pg_name (i := 3) scInsert.nd rfl (Or.inl rfl)) (pgs_cons (pg_name (i := 4) scInsert.nd rfl (Or.inl rfl)) pgs_nil)))
        (pss_cons (ps_asg (C8.pe_mt cS hr (by decide) (pv 0) (pa_cons (pv 3) (pa_cons (pv 2) pa_nil))) (pg_tup rfl (pgs_cons (pg_name (i := 5) scInsert.nd rfl (Or.inl rfl)) (pgs_cons (pg_name (i := 6) scInsert.nd rfl (Or.inl rfl)) pgs_nil))))
        (pss_one (ps_if (PW.pt (pw_and (pt_cmp (pc_din hu (pv 5) (pv 4))) (pw_and1 (pt_cmpR (op_neD hr.units) (pe_ix ix_tup (pe_dget hu (pv 4) (pv 5) (fun _ _ => rfl)) pe_int (fun _ _ => rfl)) (pv 6) (nomark _)))))
          (pss_one (ps_raise rfl (takes_of rfl rfl rfl rfl) (pmk_oex B.T b1 b2 b3 hr b4 .nil C8.pass0 (by rfl) B.g (pa_cons (pv 3) pa_nil)))) pss_nil))))
      (pss_cons (ps_expr (C8.pe_mt cP hr (by decide) (pv 0) (pa_cons (pv 2) pa_nil)))
      (pss_cons (ps_expr (pe_bm PySem.F.plainAttrs_list PySem.F.slot_list_append PySem.F.type_list_append mt_append (pe_fld (pv 0) rfl) (pa_cons (pe_tup (pa_cons pe_bl (pa_cons (pv 2) pa_nil))) pa_nil)))
      (pss_one (ps_ret pe_bl))))))), ?_⟩
    refine ⟨_, rfl, .inr ⟨pr, _, rfl, SqT.of hpr, ?_⟩⟩
    have hprk : H pr = some (.tup ((kI r).map kV)) := by rw [kI_kV]; exact hpr
    refine ⟨_, rfl, _, rfl, p, aS K, dx, _, _, rfl, hp, Z.cS, Z.sHeld, st_held _ _ _ _ _, hd, _, rfl, DGet.t hhd hprk, _, rfl, ?_⟩
    rw [valV_iff hkey]
    by_cases hin : r ∈ S
    · rw [decide_eq_true hin]
      exact iteT (k1 hin)
    · rw [decide_eq_false hin]
      refine iteF ?_
      refine ⟨_, rfl, p, aS K, dx, _, _, rfl, hp, Z.cS, Z.sIdx, st_idx _ _ _ _ _, ix, _, rfl, SqL.of hix, ?_⟩
      refine for_it (walk_enum (xs := ds.map V.ref)) (fun i σ H2 => ∃ (a b c e : Option V), σ = [some (.ref p), some (.ref pr), some (.ref pr), a, b, c, e] ∧ Ext H H2 ∧ ∀ (j : Nat) (g : Fdp), j < i → fs[j]? = some g → ∀ b ∈ S, brk g r b = false)
        ⟨none, none, none, none, rfl, Ext.rfl', fun j g hj => absurd hj (Nat.not_lt_zero _)⟩ (fun i σ H2 _ q => ?_) ?_ ?_
      · obtain ⟨_, _, _, _, _, e2, _⟩ := q
        exact SqL.of (e2 _ _ hix)
      · rintro i x σ H2 H2' hi ⟨a, b, c, e, rfl, e2, hno⟩ ⟨t0, x1, y1, rfl, ht0, rfl, hx1, hy1⟩
        cases hx1
        obtain ⟨d, rfl, hdi⟩ : ∃ d, y1 = V.ref d ∧ ds[i]? = some d := by
          have hy1 : (ds.map V.ref)[i]? = some y1 := hy1
          rw [List.getElem?_map] at hy1
          cases q : ds[i]? with
          | none => rw [q] at hy1; cases hy1
          | some d => rw [q] at hy1; exact ⟨d, (Option.some.inj hy1).symm, rfl⟩
        obtain ⟨g, hg⟩ := getOpt (ys := fs) T.len.symm hdi
        have hgm := List.mem_of_getElem? hg
        obtain ⟨kvs, hd2, sx⟩ := T.idx i d g hdi hg
        have e3 : Ext H (upd H2 t0 (.tup [V.int i, V.ref d])) := Ext.trans e2 (Ext.upd ht0)
        refine ⟨t0, _, rfl, SqT.of upd_same, rfl, _, _, rfl, _, _, rfl, rfl, ?_⟩
        refine ⟨_, rfl, p, dx, _, rfl, e3 _ _ hp, st_no _ _ _ _ _ (by decide +kernel) (by decide +kernel) (by decide +kernel) (by decide +kernel) (by decide +kernel), _, rfl, _, rfl, ?_⟩
        refine ⟨p, dx, n, dp, hd, ix, ch, dvs, fs, i, m, g, .ref pr, r, rfl, e3 _ _ hp, e3 _ _ hdp, hfd.sk (SK.ext e3), hg, wf g hgm, hm, ⟨pr, rfl, e3 _ _ hpr⟩, fun t la lb H4 e4 ht hla hlb => ?_⟩
        have e04 := Ext.trans e3 e4
        have hd4 := e04 _ _ hd2
        have sx4 := sx.sk (SK.ext e04)
        have hkla : H4 la = some (.tup ((kI (proj r g.1)).map kV)) := by rw [kI_kV]; exact hla
        refine ⟨t, _, rfl, SqT.of ht, rfl, _, _, rfl, _, _, rfl, rfl, ?_⟩
        refine ⟨_, rfl, _, rfl, d, _, rfl, DGet.t hd4 hkla, _, rfl, ?_⟩
        have more : (∀ b ∈ S, brk g r b = false) → ∀ (j : Nat) (g : Fdp), j < i + 1 → fs[j]? = some g → ∀ b ∈ S, brk g r b = false := fun h j g' hj hg' => by
          by_cases q : j = i
          · subst q
            rw [hg] at hg'
            cases hg'
            exact h
          · exact hno j g' (by omega) hg'
        cases hv : valV kvs (kI (proj r g.1)) with
        | none =>
          refine iteF ?_
          refine iteF ?_
          refine ⟨_, _, _, _, rfl, e04, more fun b hb => brk_false.mpr fun e => ?_⟩
          obtain ⟨v, hv2⟩ := sx.has b hb
          rw [← e, hv] at hv2
          cases hv2
        | some v =>
          refine iteT ?_
          obtain ⟨s0, hs0, q, a0, c0, ek, rfl, hq, ha0⟩ := sx4.get _ _ hv
          have el := kI_inj ek
          refine ⟨_, rfl, _, rfl, d, _, rfl, (by rw [← hv]; exact DGet.t hd4 hkla), q, _, _, _, rfl, rfl, SqT.of hq, atI_nat (j := 0) (v := V.ref a0) rfl, _, rfl, ?_⟩
          refine ⟨dRow (proj s0 g.2), dRow (proj r g.2), IsRow.dp ⟨a0, rfl, ha0⟩, IsRow.dp ⟨lb, rfl, hlb⟩, shaped_row _, shaped_row _, ?_⟩
          rw [eqv_row]
          refine ⟨_, rfl, ?_⟩
          by_cases he : proj s0 g.2 = proj r g.2
          · rw [decide_eq_true he]
            refine iteF ?_
            refine ⟨_, _, _, _, rfl, e04, more fun b hb => brk_false.mpr fun e => ?_⟩
            rw [← he]
            exact brk_false.mp (sx.ok s0 hs0 b hb) (el.symm.trans e)
          · rw [decide_eq_false he]
            refine iteT ?_
            have hh : hits fs S r = true := by
              unfold hits cfl
              rw [List.any_eq_true]
              refine ⟨s0, hs0, ?_⟩
              rw [List.any_eq_true]
              exact ⟨g, hgm, brk_true.mpr ⟨el, fun z => he z.symm⟩⟩
            refine ⟨_, rfl, by show 1 ≤ 1000; decide, fun a ha => ?_⟩
            refine ⟨a, _, rfl, upd_same, fun dx' hdx hne => ⟨rfl, dx', _, upd_same, by rw [upd_ne hne]; exact upd_same, ?_, ?_⟩⟩
            · rw [upd_ne hne] at hdx
              exact hdx
            · have hdx4 : H4 dx' = none := by
                rw [upd_ne hne] at hdx
                exact hdx
              refine k3 hin hh dx' _ fun b o hb => ?_
              have h4 := e04 _ _ hb
              have nb1 : b ≠ dx' := ne_of_none h4 hdx4
              have nb2 : b ≠ a := ne_of_none h4 ha
              rw [upd_ne nb1, del_ne nb2, upd_ne nb2, upd_ne nb1, upd_ne nb2]
              exact h4
      · rintro σ H2 ⟨a, b, c, e, rfl, e2, hno⟩
        have hhit : ∀ g ∈ fs, ∀ b ∈ S, brk g r b = false := fun g hg => by
          obtain ⟨j, hj⟩ := List.getElem?_of_mem hg
          exact hno j g (by rw [List.length_map, T.len]; exact (List.getElem?_eq_some_iff.mp hj).1) hj
        refine ⟨_, rfl, p, dx, _, rfl, e2 _ _ hp, st_no _ _ _ _ _ (by decide +kernel) (by decide +kernel) (by decide +kernel) (by decide +kernel) (by decide +kernel), _, rfl, ?_⟩
        refine ⟨p, .ref pr, fs, S, hd, ch, ds, m, r, rfl, T.ext e2, ⟨pr, rfl, e2 _ _ hpr⟩, hm, wf, hin, hhit, hS, fun H3 fr T3 => ?_⟩
        obtain ⟨dx3, n3, dp3, ix3, dvs3, hp3, hdp3, hfd3, hix3, nic3⟩ := id T3.ob
        obtain ⟨xs, hch, hxs⟩ := id T.chg
        obtain ⟨kvs3, hhd3, hkey3⟩ := id T3.held
        have nchh : ch ≠ hd := ne_of hch hhd (fun z => nomatch z)
        have nchd : ch ∉ ds := fun z => by
          obtain ⟨j, hj⟩ := List.getElem?_of_mem z
          obtain ⟨g, hg⟩ := getOpt (ys := fs) T.len.symm hj
          obtain ⟨kvs, h1, _⟩ := T.idx j ch g hj hg
          rw [hch] at h1
          cases h1
        have hch3 : H3 ch = some (.lst xs) := fr _ _ (e2 _ _ hch) nchh nchd
        refine ⟨_, rfl, p, aS K, dx3, _, _, rfl, hp3, Z.cS, Z.sChg, st_chg _ _ _ _ _, .inl ⟨rfl, xs, SqL.of hch3⟩, _, rfl, by show 2 ≤ sizeLine; decide, fun t ht => ?_⟩
        have et : Ext H3 (upd H3 t (.tup [V.bl true, V.ref pr])) := Ext.upd ht
        refine ⟨ch, xs, _, rfl, rfl, et _ _ hch3, small1000 (by omega), ?_⟩
        have hcht := et _ _ hch3
        have skc : SK H3 (upd (upd H3 t (.tup [V.bl true, V.ref pr])) ch (.lst (xs ++ [V.ref t]))) := (SK.ext et).trans (SK.lst hcht)
        have oth : ∀ {b : Addr} {o : HO}, H3 b = some o → b ≠ ch → upd (upd H3 t (.tup [V.bl true, V.ref pr])) ch (.lst (xs ++ [V.ref t])) b = some o := fun {b o} h n => by
          rw [upd_ne n]
          exact et _ _ h
        refine k2 hin (hits_false.mpr hhit) _ (fun b o hb n1 n2 n3 => oth (fr b o (e2 _ _ hb) n1 n3) n2) ⟨⟨dx3, n3, dp3, ix3, dvs3, skc _ _ hp3 rfl, skc _ _ hdp3 rfl, hfd3.sk skc, oth hix3 nic3, nic3⟩, ⟨kvs3, oth hhd3 nchh.symm, hkey3⟩, T3.len, fun j d g hj hg => ?_, ⟨_, upd_same, by rw [List.length_append, List.length_append]; exact Nat.add_le_add_right hxs 1⟩, T3.nd, T3.nh⟩
        obtain ⟨kv, a1, a2⟩ := T3.idx j d g hj hg
        exact ⟨kv, oth a1 (fun z => nchd (by rw [← z]; exact List.mem_of_getElem? hj)), a2.sk skc⟩
end
end K9

set_option maxHeartbeats 4000000
/-! Walks: first_rows, StateChase.__init__. -/
namespace K9
open PySem L2
/-- the cells of a state's row: pairs (0, x) -/
def PairVals (H : Hp) (vs : List V) (r : Row) : Prop := Paired (fun v x => IsRow H v [0, x]) vs r
theorem PairVals.sk {H H' : Hp} {vs : List V} {r : Row} (h : PairVals H vs r) (k : SK H H') : PairVals H' vs r := Paired.mapP h fun _ _ z => z.sk k
theorem colz_take {n i : Nat} (h : (colz n)[i]? = some c) : c = i ∧ i < n := by
  have hl := (List.getElem?_eq_some_iff.mp h).1
  rw [colz_len] at hl
  rw [colz_get n i hl] at h
  exact ⟨(Option.some.inj h).symm, hl⟩
section
variable {w : World} {K : PySem.W.Frag} {mg : Str → Option Value} {base : Heap} {f : Addr} {fd : FuncData}
def spFirst (K : PySem.W.Frag) : Sp := fun vs H Q _ => ∃ (lt n : Nat) (vt : V) (rs : List Row), vs = [.int n, .ref lt] ∧ SqL K H lt [vt] ∧ IsTab (aT K) H vt n rs ∧ WfRows n rs ∧ rs.length ≤ 60 ∧ n ≤ 60 ∧
  ∀ (q : Addr) (qs : List Addr) (H' : Hp), Ext H H' → H q = none → H' q = some (.lst (qs.map V.ref)) → Paired (PairRow H') qs rs → Q (.ref q) H'
abbrev nFr : List Str := ["count", "tables", "rows", "number", "table", "row", "cells", "column"]
theorem scFirst : FnScope nFr ["count", "tables"] (defScope sFirst) := ⟨rfl, rfl, rfl, by decide +kernel, rfl, by decide +kernel, by decide +kernel⟩
theorem ok_first (F : FnP K "first_rows" "first_rows" sFirst f fd) (Z : E9 K mg) (cW : C8.Cal prog w K mg base 1 "whole" spWhole []) : FnOk prog w K mg base CX0 2 f fd ["count", "tables"] (spFirst K) := by
  refine F.ok scFirst (fun vs H Q E h => ?_) (fun cdv A outer s H vs Q E hr h => ?_)
  · obtain ⟨lt, n, vt, rs, rfl, _⟩ := h
    rfl
  · obtain ⟨lt, n, vt, rs, rfl, hlt, ⟨p, dx, c, ra, rfl, hp, hc, _, xs, hra, ht1, ht2⟩, wr, hl1, hn, k⟩ := h
    cases hra
    have hxs : xs.length = rs.length := Paired.length ht2
    refine ⟨_, PSs.nox (pss_cons (ps_set (i := 2) scFirst.nd rfl (Or.inl rfl) (pe_lst pa_nil))
      (pss_cons (ps_set (i := 3) scFirst.nd rfl (Or.inl rfl) pe_int)
      (pss_cons (ps_for PassesOwn.never rfl (pi_list (pv 1)) (pg_name (i := 4) scFirst.nd rfl (Or.inl rfl))
        (pss_one (ps_for PassesOwn.never rfl (pi_tup (pe_fld (pv 4) rfl)) (pg_name (i := 5) scFirst.nd rfl (Or.inl rfl))
          (pss_cons (ps_set (i := 6) scFirst.nd rfl (Or.inl rfl) (pe_lst pa_nil))
          (pss_cons (ps_for PassesOwn.never rfl (pi_tup (C8.pe_c cW hr (by decide) (by rfl) (pa_cons (pv 0) pa_nil))) (pg_name (i := 7) scFirst.nd rfl (Or.inl rfl))
            (pss_one (ps_if (pt_cmpR op_in_seq (pv 7) (pe_fld (pv 4) rfl) (by rfl))
              (pss_one (ps_expr (pe_bm PySem.F.plainAttrs_list PySem.F.slot_list_append PySem.F.type_list_append mt_append (pv 6) (pa_cons (pe_tup (pa_cons pe_int (pa_cons (pe_ix ix_tup (pv 5) (pe_tupIx (pe_fld (pv 4) rfl) (pv 7) ⟨rfl, rfl, rfl, rfl⟩) (fun _ _ => rfl)) pa_nil))) pa_nil))))
              (pss_cons ps_never (pss_one ps_never)))))
          (pss_one (ps_expr (pe_bm PySem.F.plainAttrs_list PySem.F.slot_list_append PySem.F.type_list_append mt_append (pv 2) (pa_cons (pe_tupleOf (by rfl) Z.tup (pv 6)) pa_nil))))))))) 
      (pss_one (ps_ret (pv 2)))))), ?_⟩
    refine ⟨by decide, fun R0 hR => ?_⟩
    have s0 : Ext H (upd H R0 (.lst [])) := Ext.upd hR
    refine ⟨_, rfl, lt, rfl, ⟨_, hlt.ext s0⟩, ?_⟩
    refine for_list (K := K) (a := lt) (xs := [V.ref p]) (fun i σ H2 => ∃ (a b c d : Option V) (qs : List Addr), σ = [some (.int n), some (.ref lt), some (.ref R0), some (.int 0), a, b, c, d] ∧ Ext H H2 ∧ H2 R0 = some (.lst (qs.map V.ref)) ∧ Paired (PairRow H2) qs (if i = 0 then [] else rs))
      ⟨none, none, none, none, [], rfl, s0, upd_same, .nil⟩ (fun i σ H2 _ q => ?_) ?_ ?_
    · obtain ⟨_, _, _, _, _, _, e2, _⟩ := q
      exact hlt.ext e2
    · rintro i y σ H2 hi ⟨a0, b0, c0, d0, qs, rfl, e2, hR2, hqs⟩
      obtain rfl : i = 0 := by
        have := (List.getElem?_eq_some_iff.mp hi).1
        simp at this
        exact this
      obtain rfl : V.ref p = y := by simpa using hi
      obtain rfl : qs = [] := by cases hqs; rfl
      refine ⟨_, rfl, p, aT K, dx, _, _, rfl, e2 _ _ hp, Z.cT, Z.tR, look2b _ _, ra, rfl, ⟨_, SqT.of (e2 _ _ ht1)⟩, ?_⟩
      refine for_tup (K := K) (a := ra) (xs := xs) (fun j σ H3 => ∃ (b c d : Option V) (qs : List Addr), σ = [some (.int n), some (.ref lt), some (.ref R0), some (.int 0), some (.ref p), b, c, d] ∧ Ext H H3 ∧ H3 R0 = some (.lst (qs.map V.ref)) ∧ Paired (PairRow H3) qs (rs.take j))
        ⟨_, _, _, [], rfl, e2, hR2, .nil⟩ (fun j σ H3 _ q => ?_) ?_ ?_
      · obtain ⟨_, _, _, _, _, e3, _⟩ := q
        exact SqT.of (e3 _ _ ht1)
      · rintro j y σ H3 hj ⟨b1, c1, d1, qs, rfl, e3, hR3, hqs⟩
        obtain ⟨x, hx, px, rfl, hpx⟩ := K9.Paired.getP ht2 hj
        have hxl := wr x (List.mem_of_getElem? hx)
        refine ⟨by decide, fun C0 hC => ?_⟩
        have eC : Ext H3 (upd H3 C0 (.lst [])) := Ext.upd hC
        refine ⟨_, rfl, n, rfl, by omega, fun q1 hq1 => ?_⟩
        have e1 := Ext.trans eC (Ext.upd (o := HO.tup ((colz n).map V.int)) hq1)
        have hC1 := (Ext.upd (o := HO.tup ((colz n).map V.int)) hq1) _ _ (upd_same (H := H3) (a := C0) (o := HO.lst []))
        refine ⟨q1, rfl, ⟨_, SqT.of upd_same⟩, ?_⟩
        refine for_tup (K := K) (a := q1) (xs := (colz n).map V.int) (fun t σ H4 => ∃ (d : Option V) (vs : List V), σ = [some (.int n), some (.ref lt), some (.ref R0), some (.int 0), some (.ref p), some (.ref px), some (.ref C0), d] ∧ Ext H3 H4 ∧ H4 C0 = some (.lst vs) ∧ PairVals H4 vs (x.take t) ∧ H4 q1 = some (.tup ((colz n).map V.int)))
          ⟨_, [], rfl, e1, hC1, .nil, upd_same⟩ (fun t σ H4 _ q => ?_) ?_ ?_
        · obtain ⟨_, _, _, _, _, _, h5⟩ := q
          exact SqT.of h5
        · rintro t y σ H4 ht ⟨d2, vs, rfl, e4, hC4, hvs, hq4⟩
          obtain ⟨cc, rfl, hcc⟩ : ∃ cc, y = V.int cc ∧ (colz n)[t]? = some cc := by
            rw [List.getElem?_map] at ht
            cases e : (colz n)[t]? with
            | none => rw [e] at ht; cases ht
            | some z => rw [e] at ht; exact ⟨z, (Option.some.inj ht).symm, rfl⟩
          obtain ⟨rfl, htn⟩ := colz_take hcc
          have hcm := List.mem_of_getElem? hcc
          have e34 := Ext.trans e3 e4
          have hc4 : ColT H4 c n := hc.sk (SK.ext e34)
          refine ⟨_, rfl, _, rfl, p, aT K, dx, _, _, rfl, e34 _ _ hp, Z.cT, Z.tC, look2a _ _, c, _, rfl, .inr hc4.sq, rfl, flat_ints _, _, rfl, ?_⟩
          show if inV (.int (t : Int)) ((colz n).map V.int) = true then _ else _
          rw [inV_ints, decide_eq_true hcm]
          refine iteT ?_
          obtain ⟨xt, hxt⟩ : ∃ xt, x[t]? = some xt := ⟨_, List.getElem?_eq_getElem (by omega)⟩
          have hvl : vs.length = t := by
            have := Paired.length hvs
            rw [List.length_take] at this
            omega
          refine ⟨_, rfl, .inl ⟨rfl, _, SqL.of hC4⟩, _, rfl, _, rfl, p, aT K, dx, _, _, rfl, e34 _ _ hp, Z.cT, Z.tC, look2a _ _, c, n, rfl, hc4, _, rfl, (t : Int), rfl, hc4, hcm, ?_⟩
          rw [colz_idx hcm]
          refine ⟨px, _, _, V.int xt, rfl, rfl, SqT.of (e34 _ _ hpx), ?_, by show 2 ≤ sizeLine; decide, fun T hT => ?_⟩
          · rw [show (((t : Int).toNat : Nat) : Int) = (t : Int) by omega]
            refine atI_nat ?_
            rw [List.getElem?_map, hxt]
            rfl
          · have eT : Ext H4 (upd H4 T (.tup [V.int 0, V.int xt])) := Ext.upd hT
            refine ⟨C0, vs, _, rfl, rfl, eT _ _ hC4, small1000 (by omega), ?_⟩
            refine ⟨_, _, rfl, Ext.set (Ext.trans e4 eT) hC, upd_same, ?_, ?_⟩
            · rw [take_snoc hxt]
              refine K9.Paired.snoc' ((hvs.sk (SK.ext eT)).sk (SK.lst (eT _ _ hC4))) ⟨T, rfl, SK.lst (eT _ _ hC4) _ _ upd_same rfl⟩
            · exact SK.lst (eT _ _ hC4) _ _ (eT _ _ hq4) rfl
        · rintro σ H4 ⟨d2, vs, rfl, e4, hC4, hvs, hq4⟩
          rw [List.length_map, colz_len, ← hxl, List.take_length] at hvs
          have hR4 := e4 _ _ hR3
          refine ⟨_, rfl, .inl ⟨rfl, _, SqL.of hR4⟩, _, rfl, .inl ⟨C0, vs, rfl, SqL.of hC4, fun T hT => ?_⟩⟩
          have eT : Ext H4 (upd H4 T (.tup vs)) := Ext.upd hT
          have hql : qs.length ≤ 60 := by
            have := Paired.length hqs
            rw [List.length_take] at this
            omega
          refine ⟨R0, _, _, rfl, rfl, eT _ _ hR4, by rw [List.length_map]; exact small1000 (by omega), ?_⟩
          refine ⟨_, _, _, qs ++ [T], rfl, Ext.set (Ext.trans e3 (Ext.trans e4 eT)) hR, by rw [upd_same, List.map_append]; rfl, ?_⟩
          rw [take_snoc hx]
          have k5 : SK H4 (upd (upd H4 T (.tup vs)) R0 (.lst (qs.map V.ref ++ [V.ref T]))) := (SK.ext eT).trans (SK.lst (eT _ _ hR4))
          exact K9.Paired.snoc' (Paired.mapP hqs fun _ _ z => (z.sk (SK.ext e4)).sk k5) ⟨vs, SK.lst (eT _ _ hR4) _ _ upd_same rfl, Paired.mapP hvs fun _ _ z => z.sk k5⟩
      · rintro σ H3 ⟨b1, c1, d1, qs, rfl, e3, hR3, hqs⟩
        rw [hxs, List.take_length] at hqs
        exact ⟨_, _, _, _, qs, rfl, e3, hR3, hqs⟩
    · rintro σ H2 ⟨a0, b0, c0, d0, qs, rfl, e2, hR2, hqs⟩
      exact ⟨_, rfl, k R0 qs H2 e2 hR hR2 hqs⟩
end
end K9

set_option maxHeartbeats 4000000
/-! Walks: StateChase.__init__, next_step, run. -/
namespace K9
open PySem L2
theorem rows_np {p C dx : Addr} {fl : List (Str × V)} {H H' : Hp} (hp : H p = some (.ins C dx fl)) (n : NP p H H') {vs : List V} {rs : List Row} (h : Rows H vs rs) : Rows H' vs rs := Paired.mapP h fun v r z => by
  obtain ⟨q, e, h1⟩ := z
  exact ⟨q, e, n _ _ h1 fun z => by rw [z, hp] at h1; cases h1⟩
theorem tab_np {C C' p dx : Addr} {H H' : Hp} {v : V} {n : Nat} {rs : List Row} (t : IsTab C H v n rs) (hp : H p = some (.ins C' dx [])) (np : NP p H H') : IsTab C H' v n rs := by
  obtain ⟨q, dq, c, r, e, h1, ⟨o, ho, h2⟩, r', xs, er, h3, h4⟩ := t
  cases er
  refine ⟨q, dq, c, r, e, np _ _ h1 fun z => ?_, ⟨o, ho, np _ _ h2 fun z => ?_⟩, r, xs, rfl, np _ _ h3 fun z => ?_, rows_np hp np h4⟩
  · rw [z, hp] at h1
    injection h1 with h1
    injection h1 with _ _ h1
    cases h1
  · rw [z, hp] at h2
    cases h2
  · rw [z, hp] at h3
    cases h3
abbrev chF (d r s c : V) : List (Str × V) := [("dependencies", d), ("rows", r), ("steps", s), ("has_clash", c)]
theorem cne1 : ¬ (("dependencies" : Str) = "rows") := by decide +kernel
theorem cne2 : ¬ (("dependencies" : Str) = "steps") := by decide +kernel
theorem cne3 : ¬ (("dependencies" : Str) = "has_clash") := by decide +kernel
theorem cne4 : ¬ (("rows" : Str) = "steps") := by decide +kernel
theorem cne5 : ¬ (("rows" : Str) = "has_clash") := by decide +kernel
theorem cne6 : ¬ (("steps" : Str) = "has_clash") := by decide +kernel
theorem ch_flds (d r s c : V) : putF "has_clash" c (putF "steps" s (putF "rows" r (putF "dependencies" d []))) = chF d r s c := by simp [putF, cne1, cne2, cne3, cne4, cne5, cne6]
theorem ch_deps (d r s c : V) : (chF d r s c).lookup ("dependencies" : Str) = some d := by simp [chF, List.lookup]
theorem ch_rows (d r s c : V) : (chF d r s c).lookup ("rows" : Str) = some r := by simp [chF, List.lookup, beq_ne cne1]
theorem ch_clash (d r s c : V) : (chF d r s c).lookup ("has_clash" : Str) = some c := by simp [chF, List.lookup, beq_ne cne3, beq_ne cne5, beq_ne cne6]
theorem ch_no (d r s c : V) {m : Str} (h2 : (m == ("dependencies" : Str)) = false) (h3 : (m == ("rows" : Str)) = false) (h4 : (m == ("steps" : Str)) = false) (h5 : (m == ("has_clash" : Str)) = false) : (chF d r s c).lookup m = none := by
  simp [chF, List.lookup, h2, h3, h4, h5]
section
variable {w : World} {K : PySem.W.Frag} {mg : Str → Option Value} {base : Heap} {f : Addr} {fd : FuncData}
def spChaseI (K : PySem.W.Frag) : Sp := fun vs H Q _ => ∃ (p dx lt n : Nat) (vd vt : V) (rs : List Row), vs = [.ref p, .int n, vd, .ref lt] ∧ H p = some (.ins (aC K) dx []) ∧ SqL K H lt [vt] ∧ IsTab (aT K) H vt n rs ∧ WfRows n rs ∧ rs.length ≤ 60 ∧ n ≤ 60 ∧
  ∀ (H' : Hp) (lr ls : Addr) (qs : List Addr), NP p H H' → H' p = some (.ins (aC K) dx (chF vd (.ref lr) (.ref ls) (.bl false))) → H' lr = some (.lst (qs.map V.ref)) → Paired (PairRow H') qs rs → Q .non H'
abbrev nCi : List Str := ["self", "count", "dependencies", "tables"]
theorem scChaseI : FnScope nCi ["self", "count", "dependencies", "tables"] (defScope sChaseI) := ⟨rfl, rfl, rfl, by decide +kernel, rfl, by decide +kernel, by decide +kernel⟩
theorem ok_chaseI (F : FnP K "__init__" "StateChase.__init__" sChaseI f fd) (Z : E9 K mg) (cF : C8.Cal prog w K mg base 2 "first_rows" (spFirst K) []) : FnOk prog w K mg base CX0 3 f fd ["self", "count", "dependencies", "tables"] (spChaseI K) := by
  refine F.ok scChaseI (fun vs H Q E h => ?_) (fun cdv A outer s H vs Q E hr h => ?_)
  · obtain ⟨p, dx, lt, n, vd, vt, rs, rfl, _⟩ := h
    rfl
  · obtain ⟨p, dx, lt, n, vd, vt, rs, rfl, hp, hlt, ht, wr, hl, hn, k⟩ := h
    refine ⟨_, PSs.nox (pss_cons (ps_fld (pv 0) (pv 2) rfl)
      (pss_cons (ps_fld (pv 0) (C8.pe_c cF hr (by decide) (by rfl) (pa_cons (pv 1) (pa_cons (pv 3) pa_nil))) rfl)
      (pss_cons (ps_fld (pv 0) (pe_lst pa_nil) rfl)
      (pss_one (ps_fld (pv 0) pe_bl rfl))))), ?_⟩
    refine ⟨_, rfl, _, rfl, p, aC K, dx, _, rfl, hp, Z.cC, Z.cDeps, by decide, ?_⟩
    have hlt1 := seqL_upd (K := K) (o := HO.ins (aC K) dx (putF "dependencies" vd [])) hp hlt
    have n1 : NP p H (upd H p (.ins (aC K) dx (putF "dependencies" vd []))) := NP.at
    refine ⟨_, rfl, _, rfl, lt, n, vt, rs, rfl, hlt1, tab_np ht hp n1, wr, hl, hn, fun q qs H2 e2 hq0 hq hqs => ?_⟩
    have hp2 := e2 _ _ (upd_same (H := H) (a := p))
    have hqp : q ≠ p := (ne_of_none (upd_same (H := H) (a := p)) hq0).symm
    refine ⟨_, rfl, p, aC K, dx, _, rfl, hp2, Z.cC, Z.cRows, by show 1 < 1000; decide, ?_⟩
    generalize hH3 : upd H2 p (.ins (aC K) dx (putF "rows" (V.ref q) (putF "dependencies" vd []))) = H3
    have n23 : NP p H2 H3 := by rw [← hH3]; exact NP.at
    have hp3 : H3 p = some (.ins (aC K) dx (putF "rows" (V.ref q) (putF "dependencies" vd []))) := by rw [← hH3]; exact upd_same
    refine ⟨by decide, fun ls hls => ?_⟩
    have hlsp : ls ≠ p := (ne_of_none hp3 hls).symm
    refine ⟨_, rfl, p, aC K, dx, _, rfl, by rw [upd_ne hlsp.symm]; exact hp3, Z.cC, Z.cSteps, by show 2 < 1000; decide, ?_⟩
    have n34 : NP p H3 (upd (upd H3 ls (.lst [])) p (.ins (aC K) dx (putF "steps" (V.ref ls) (putF "rows" (V.ref q) (putF "dependencies" vd []))))) := (NP.ext (Ext.upd hls)).trans NP.at
    refine ⟨_, rfl, p, aC K, dx, _, rfl, upd_same, Z.cC, Z.cClash, by show 3 < 1000; decide, ?_⟩
    have n25 := (n23.trans n34).trans (NP.at (p := p) (o := HO.ins (aC K) dx (putF "has_clash" (V.bl false) (putF "steps" (V.ref ls) (putF "rows" (V.ref q) (putF "dependencies" vd []))))))
    refine k _ q ls qs ((n1.trans (NP.ext e2)).trans n25) (by rw [upd_same, ch_flds]) (n25 _ _ hq hqp) (Paired.mapP hqs fun a r z => ?_)
    obtain ⟨vs, h1, h2⟩ := z
    refine ⟨vs, n25 _ _ h1 (fun z => by rw [z, hp2] at h1; cases h1), Paired.mapP h2 fun v x z => ?_⟩
    obtain ⟨b, e, h3⟩ := z
    exact ⟨b, e, n25 _ _ h3 fun z => by rw [z, hp2] at h3; cases h3⟩
/-! ### next_step -/
/-- a chase whose rows keep its dependencies -/
def ChAt (K : PySem.W.Frag) (H : Hp) (p : Addr) (n : Nat) (rs : List Row) (fs : List Fdp) (lr : Addr) (qs : List Addr) : Prop := ∃ (dx ld ls : Addr) (fvs : List V), H p = some (.ins (aC K) dx (chF (.ref ld) (.ref lr) (.ref ls) (.bl false))) ∧ SqL K H ld fvs ∧ Fds (aF K) H fvs fs ∧ H lr = some (.lst (qs.map V.ref)) ∧ Paired (PairRow H) qs rs
theorem ChAt.ext {H H' : Hp} {p : Addr} {n : Nat} {rs : List Row} {fs : List Fdp} {lr : Addr} {qs : List Addr} (h : ChAt K H p n rs fs lr qs) (e : Ext H H') : ChAt K H' p n rs fs lr qs := by
  obtain ⟨dx, ld, ls, fvs, h1, h2, h3, h4, h5⟩ := h
  exact ⟨dx, ld, ls, fvs, e _ _ h1, h2.ext e, h3.sk (SK.ext e), e _ _ h4, Paired.mapP h5 fun _ _ z => z.sk (SK.ext e)⟩
theorem pair_at {H : Hp} {q : Addr} {r : Row} {n : Nat} {c : Int} (h : PairRow H q r) (hn : r.length = n) (hc : c ∈ colz n) : ∃ (vs : List V) (v : V), H q = some (.tup vs) ∧ atI vs c = some v ∧ vs[c.toNat]? = some v ∧ IsRow H v [0, r.getD c.toNat 0] := by
  obtain ⟨vs, h1, h2⟩ := h
  obtain ⟨c0, c1⟩ := mem_colz.mp hc
  have hl : c.toNat < r.length := by omega
  have hg : r[c.toNat]? = some (r.getD c.toNat 0) := by simp [hl]
  obtain ⟨v, hv, hr⟩ := K9.Paired.getR h2 hg
  refine ⟨vs, v, h1, ?_, hv, hr⟩
  have := atI_nat (xs := vs) (j := c.toNat) (v := v) hv
  rwa [show ((c.toNat : Nat) : Int) = c by omega] at this
theorem proj_eq {a b : Row} {cs : List Int} (h : proj a cs = proj b cs) {c : Int} (hc : c ∈ cs) : a.getD c.toNat 0 = b.getD c.toNat 0 := by
  have := List.map_inj_left.mp h c hc
  exact this
def spNext (K : PySem.W.Frag) : Sp := fun vs H Q _ => ∃ (p lr n : Nat) (rs : List Row) (fs : List Fdp) (qs : List Addr), vs = [.ref p] ∧ ChAt K H p n rs fs lr qs ∧ WfRows n rs ∧ (∀ g ∈ fs, WfFd n g) ∧ (∀ g ∈ fs, ∀ a ∈ rs, ∀ b ∈ rs, brk g a b = false) ∧ rs.length ≤ 60 ∧ fs.length ≤ 60 ∧ ∀ H', Ext H H' → Q .non H'
abbrev nNx : List Str := ["self", "index", "dependency", "found", "place", "row", "column", "first"]
theorem scNext : FnScope nNx ["self"] (defScope sNext) := ⟨rfl, rfl, rfl, by decide +kernel, rfl, by decide +kernel, by decide +kernel⟩
theorem ok_next (F : FnP K "next_step" "StateChase.next_step" sNext f fd) (Z : E9 K mg) : FnOk prog w K mg base CX0 1 f fd ["self"] (spNext K) := by
  refine F.ok scNext (fun vs H Q E h => ?_) (fun cdv A outer s H vs Q E hr h => ?_)
  · obtain ⟨p, lr, n, rs, fs, qs, rfl, _⟩ := h
    rfl
  · obtain ⟨p, lr, n, rs, fs, qs, rfl, C, wr, wf, hb, hl1, hl2, k⟩ := h
    obtain ⟨dx, ld, ls, fvs, hp, hld, hfd, hlr, hqs⟩ := id C
    have hql : qs.length = rs.length := Paired.length hqs
    refine ⟨_, PSs.nox (pss_cons (ps_for PassesOwn.never rfl (pi_enum (by rfl) Z.enu (pa_cons (pe_fld (pv 0) rfl) pa_nil)) (pg_tup rfl (pgs_cons (pg_name (i := 1) scNext.nd rfl (Or.inl rfl)) (pgs_cons (pg_name (i := 2) scNext.nd rfl (Or.inl rfl)) pgs_nil)))
        (pss_cons (ps_set (i := 3) scNext.nd rfl (Or.inl rfl) pe_newN)
        (pss_one (ps_for PassesOwn.never rfl (pi_enum (by rfl) Z.enu (pa_cons (pe_fld (pv 0) rfl) pa_nil)) (pg_tup rfl (pgs_cons (pg_name (i := 4) scNext.nd rfl (Or.inl rfl)) (pgs_cons (pg_name (i := 5) scNext.nd rfl (Or.inr rfl)) pgs_nil)))
          (pss_cons (ps_set (i := 7) scNext.nd rfl (Or.inl rfl) (pe_setdN hr (pv 3) (pe_tupleOf (by rfl) Z.tup (pe_lc (own := [("column", 6)]) (g := gName 6) (tt := tYes) (te := tOp (rIxT K) (tVar 5) (tVar 6)) rfl scNext.nd (pi_tup (pe_fld (pv 2) rfl)) (blkOk_by (N := nNx) (sc := defScope sNext) (by decide +kernel)) (fun _ _ _ _ _ => pg_name (i := 6) scNext.nd rfl (Or.inl rfl)) (fun _ _ _ _ _ => pts_nil) (fun _ _ _ _ _ => pe_ix ix_tup (pv 5) (pv 6) (fun _ _ => rfl)))) (pv 4) ⟨rfl, rfl, rfl, rfl⟩))
          (pss_one (ps_for PassesOwn.never rfl (pi_tup (pe_fld (pv 2) rfl)) (pg_name (i := 6) scNext.nd rfl (Or.inl rfl))
            (pss_one (ps_if (pt_cmpR (op_neD hr.units) (pe_ix ix_tup (pe_ix ix_list (pe_fld (pv 0) rfl) (pv 7) (fun _ _ => rfl)) (pv 6) (fun _ _ => rfl)) (pe_ix ix_tup (pv 5) (pv 6) (fun _ _ => rfl)) (nomark _)) (pss_one ps_never) pss_nil))))))))) 
      (pss_one (ps_ret pe_non))), ?_⟩
    refine ⟨_, rfl, p, aC K, dx, _, _, rfl, hp, Z.cC, Z.cDeps, ch_deps _ _ _ _, ld, fvs, rfl, hld, ?_⟩
    refine for_it (walk_enum (xs := fvs)) (fun i σ H2 => ∃ (a b c d e f g : Option V), σ = [some (.ref p), a, b, c, d, e, f, g] ∧ Ext H H2)
      ⟨_, _, _, _, _, _, _, rfl, Ext.rfl'⟩ (fun i σ H2 _ q => ?_) ?_ ?_
    · obtain ⟨_, _, _, _, _, _, _, _, e2⟩ := q
      exact hld.ext e2
    · rintro i x σ H2 H2' hi ⟨a1, a2, a3, a4, a5, a6, a7, rfl, e2⟩ ⟨t0, x1, y1, rfl, ht0, rfl, hx1, hy1⟩
      cases hx1
      obtain ⟨g, hg, pf, dxf, al, ar, rfl, hpf, hal, har⟩ := K9.Paired.getP hfd (show fvs[i]? = some y1 from hy1)
      have hgm := List.mem_of_getElem? hg
      have wg := wf g hgm
      refine ⟨t0, _, rfl, SqT.of upd_same, rfl, _, _, rfl, _, _, rfl, rfl, fun F0 hF0 => ?_⟩
      have e3 : Ext H (upd (upd H2 t0 (.tup [V.int i, V.ref pf])) F0 (NDict prog w F0 [])) := Ext.trans e2 (Ext.trans (Ext.upd ht0) (Ext.upd hF0))
      have hF0H : H F0 = none := Ext.free (Ext.trans e2 (Ext.upd ht0)) hF0
      refine ⟨_, rfl, p, aC K, dx, _, _, rfl, e3 _ _ hp, Z.cC, Z.cRows, ch_rows _ _ _ _, lr, _, rfl, SqL.of (e3 _ _ hlr), ?_⟩
      refine for_it (walk_enum (xs := qs.map V.ref)) (fun j σ H3 => ∃ (a b c d : Option V) (xs : List NEnt), σ = [some (.ref p), some (.int i), some (.ref pf), some (.ref F0), a, b, c, d] ∧ Ext H H3 ∧ H3 F0 = some (NDict prog w F0 xs) ∧ (∀ e ∈ xs, PairRow H3 e.2.1 e.1) ∧ (∀ e ∈ xs, ∃ (i0 : Nat) (r0 : Row), rs[i0]? = some r0 ∧ e.1 = proj r0 g.1 ∧ e.2.2 = i0) ∧ xs.length ≤ j)
        ⟨_, _, _, _, [], rfl, e3, upd_same, (fun e he => by cases he), (fun e he => by cases he), Nat.le_refl _⟩ (fun j σ H3 _ q => ?_) ?_ ?_
      · obtain ⟨_, _, _, _, _, _, e3, _⟩ := q
        exact SqL.of (e3 _ _ hlr)
      · rintro j x σ H3 H3' hj ⟨b1, b2, b3, b4, xs, rfl, e3, hF3, hk3, hx3, hxl⟩ ⟨t1, x2, y2, rfl, ht1, rfl, hx2, hy2⟩
        cases hx2
        obtain ⟨qj, rfl, hqj⟩ : ∃ qj, y2 = V.ref qj ∧ qs[j]? = some qj := by
          have hy2 : (qs.map V.ref)[j]? = some y2 := hy2
          rw [List.getElem?_map] at hy2
          cases q : qs[j]? with
          | none => rw [q] at hy2; cases hy2
          | some d => rw [q] at hy2; exact ⟨d, (Option.some.inj hy2).symm, rfl⟩
        obtain ⟨rj, hrj, prj⟩ := K9.Paired.getP hqs hqj
        have hrm := List.mem_of_getElem? hrj
        have hrl := wr rj hrm
        have hjl := (List.getElem?_eq_some_iff.mp hrj).1
        have et : Ext H3 (upd H3 t1 (.tup [V.int j, V.ref qj])) := Ext.upd ht1
        have e4 := Ext.trans e3 et
        refine ⟨t1, _, rfl, SqT.of upd_same, rfl, _, _, rfl, _, _, rfl, rfl, ?_⟩
        obtain ⟨vj, hvj, hpj⟩ := id prj
        -- found.setdefault
        refine ⟨_, rfl, F0, xs, rfl, et _ _ hF3, _, rfl, pf, aF K, dxf, _, _, rfl, e4 _ _ hpf, Z.cF, Z.fL, look_L _ _, al, rfl, ⟨_, SqT.of (e4 _ _ hal)⟩, fun D hD => ?_⟩
        refine lcT (K := K) (a := al) (xs := g.1.map V.int) (fs := g.1.map fun c => some (vj.getD c.toNat .non)) (SqT.of (e4 _ _ hal)) hD (by simp) (by rw [List.length_map]; exact small1000 (Nat.le_trans wg.ll (by decide))) (fun x => rfl) (fun t y r hy hr' H5 e5 => ?_) ?_
        · rw [List.getElem?_map] at hy hr'
          cases ea : g.1[t]? with
          | none => rw [ea] at hy; cases hy
          | some z =>
            rw [ea] at hy hr'
            cases hy
            cases hr'
            obtain ⟨vs, v, a1, a2, a3, a4⟩ := pair_at prj hrl (wg.l z (List.mem_of_getElem? ea))
            rw [hvj] at a1
            cases a1
            refine turnY rfl fun Q q => ?_
            refine ⟨_, rfl, _, rfl, qj, _, _, _, rfl, rfl, SqT.of (e5 _ _ (e4 _ _ hvj)), a2, ?_⟩
            have : vj.getD z.toNat .non = v := by simp [a3]
            rw [this] at q
            exact q
        · have eD : Ext (upd H3 t1 (.tup [V.int j, V.ref qj])) (upd (upd H3 t1 (.tup [V.int j, V.ref qj])) D (.lst ((g.1.map fun c => some (vj.getD c.toNat .non)).filterMap id))) := Ext.upd hD
          refine .inl ⟨D, _, rfl, SqL.of upd_same, fun b hbn => ?_⟩
          have eb := Ext.trans eD (Ext.upd (o := HO.tup ((g.1.map fun c => some (vj.getD c.toNat .non)).filterMap id)) hbn)
          have e5 := Ext.trans e4 eb
          have eb3 := Ext.trans et eb
          have hpr : PairRow (upd (upd (upd H3 t1 (.tup [V.int j, V.ref qj])) D (.lst ((g.1.map fun c => some (vj.getD c.toNat .non)).filterMap id))) b (.tup ((g.1.map fun c => some (vj.getD c.toNat .non)).filterMap id))) b (proj rj g.1) := by
            refine ⟨_, upd_same, ?_⟩
            have go : ∀ cs : List Int, (∀ c ∈ cs, c ∈ colz n) → Paired (fun v x => IsRow H v [0, x]) (cs.map fun c => vj.getD c.toNat .non) (proj rj cs) := by
              intro cs
              induction cs with
              | nil => intro _; exact .nil
              | cons c cs ih =>
                intro hc
                refine .cons ?_ (ih fun c hc' => hc c (List.mem_cons_of_mem _ hc'))
                obtain ⟨vs, v, a1, a2, a3, a4⟩ := pair_at prj hrl (hc c List.mem_cons_self)
                rw [hvj] at a1
                cases a1
                show IsRow H (vj.getD c.toNat .non) [0, rj.getD c.toNat 0]
                have : vj.getD c.toNat .non = v := by simp [a3]
                rw [this]
                exact a4
            have hR : Paired (fun v x => IsRow H v [0, x]) ((g.1.map fun c => some (vj.getD c.toNat .non)).filterMap id) (proj rj g.1) := by
              rw [fm_some]
              exact go g.1 wg.l
            exact Paired.mapP hR fun _ _ z => z.sk (SK.ext e5)
          have hF5 := eb _ _ (et _ _ hF3)
          have sk35 := SK.ext eb3
          generalize upd (upd (upd H3 t1 (.tup [V.int j, V.ref qj])) D (.lst ((g.1.map fun c => some (vj.getD c.toNat .non)).filterMap id))) b (.tup ((g.1.map fun c => some (vj.getD c.toNat .non)).filterMap id)) = H5 at e5 hpr hF5 sk35 ⊢
          refine ⟨_, rfl, xs, proj rj g.1, b, j, hF5, rfl, rfl, hpr, fun e he => (hk3 e he).sk sk35, small1000 (by omega), fun e he ee => ?_, fun hno => ?_⟩
          · obtain ⟨i0, r0, hr0, ep0, ei0⟩ := hx3 e he
            have hp0 : proj r0 g.1 = proj rj g.1 := ep0.symm.trans ee
            rw [ei0]
            have e6 := e5
            have inv6 : ∃ xs6 : List NEnt, H5 F0 = some (NDict prog w F0 xs6) ∧ (∀ e ∈ xs6, PairRow H5 e.2.1 e.1) ∧ (∀ e ∈ xs6, ∃ (i0 : Nat) (r0 : Row), rs[i0]? = some r0 ∧ e.1 = proj r0 g.1 ∧ e.2.2 = i0) ∧ xs6.length ≤ j + 1 := ⟨xs, hF5, fun e he => (hk3 e he).sk sk35, hx3, by omega⟩
            refine ⟨_, rfl, pf, aF K, dxf, _, _, rfl, e6 _ _ hpf, Z.cF, Z.fR, look_R _ _, ar, rfl, ⟨_, SqT.of (e6 _ _ har)⟩, ?_⟩
            refine for_tup (K := K) (a := ar) (xs := g.2.map V.int) (fun t σ H7 => ∃ z, σ = [some (.ref p), some (.int i), some (.ref pf), some (.ref F0), some (.int j), some (.ref qj), z, some (.int i0)] ∧ H7 = H5) ⟨_, rfl, rfl⟩ (fun t σ H7 _ q => by
                obtain ⟨_, _, e7⟩ := q
                rw [e7]
                exact SqT.of (e6 _ _ har)) ?_ ?_
            · rintro t y σ H7 hy ⟨z, rfl, rfl⟩
              obtain ⟨cc, rfl, hcc⟩ : ∃ cc, y = V.int cc ∧ g.2[t]? = some cc := by
                rw [List.getElem?_map] at hy
                cases e : g.2[t]? with
                | none => rw [e] at hy; cases hy
                | some z => rw [e] at hy; exact ⟨z, (Option.some.inj hy).symm, rfl⟩
              have hcm := List.mem_of_getElem? hcc
              obtain ⟨q0, hq0, pq0⟩ := K9.Paired.getR hqs hr0
              obtain ⟨vs1, v1, a1, a2, _, a4⟩ := pair_at pq0 (wr _ (List.mem_of_getElem? hr0)) (wg.r cc hcm)
              obtain ⟨vs2, v2, b1, b2, _, b4⟩ := pair_at prj hrl (wg.r cc hcm)
              refine ⟨_, rfl, p, aC K, dx, _, _, rfl, e6 _ _ hp, Z.cC, Z.cRows, ch_rows _ _ _ _, _, rfl, lr, _, _, _, rfl, rfl, SqL.of (e6 _ _ hlr), atI_nat (by rw [List.getElem?_map, hq0]; rfl), _, rfl, q0, _, _, _, rfl, rfl, SqT.of (e6 _ _ a1), a2, _, rfl, _, rfl, qj, _, _, _, rfl, rfl, SqT.of (e6 _ _ b1), b2, ?_⟩
              refine ⟨dRow _, dRow _, (a4.sk (SK.ext e6)).dp, (b4.sk (SK.ext e6)).dp, shaped_row _, shaped_row _, ?_⟩
              have hpr2 : proj r0 g.2 = proj rj g.2 := brk_false.mp (hb g hgm r0 (List.mem_of_getElem? hr0) rj hrm) hp0
              rw [eqv_row, proj_eq hpr2 hcm, decide_eq_true rfl]
              refine ⟨_, rfl, ?_⟩
              refine iteF ?_
              exact ⟨_, rfl, rfl⟩
            · rintro σ H7 ⟨z, rfl, rfl⟩
              obtain ⟨xs6, i1, i2, i3, i4⟩ := inv6
              exact ⟨_, _, _, _, xs6, rfl, e6, i1, i2, i3, i4⟩
          · have hr0 := hrj
            have hp0 : proj rj g.1 = proj rj g.1 := rfl
            have e6 : Ext H (upd H5 F0 (NDict prog w F0 (xs ++ [(proj rj g.1, b, (j : Int))]))) := Ext.set e5 hF0H
            have k6 : SK H5 (upd H5 F0 (NDict prog w F0 (xs ++ [(proj rj g.1, b, (j : Int))]))) := SK.upd hF5 rfl
            have inv6 : ∃ xs6 : List NEnt, upd H5 F0 (NDict prog w F0 (xs ++ [(proj rj g.1, b, (j : Int))])) F0 = some (NDict prog w F0 xs6) ∧ (∀ e ∈ xs6, PairRow (upd H5 F0 (NDict prog w F0 (xs ++ [(proj rj g.1, b, (j : Int))]))) e.2.1 e.1) ∧ (∀ e ∈ xs6, ∃ (i0 : Nat) (r0 : Row), rs[i0]? = some r0 ∧ e.1 = proj r0 g.1 ∧ e.2.2 = i0) ∧ xs6.length ≤ j + 1 := by
              refine ⟨_, upd_same, fun e he => ?_, fun e he => ?_, by rw [List.length_append, List.length_singleton]; omega⟩
              · rcases List.mem_append.mp he with he | he
                · exact ((hk3 e he).sk sk35).sk k6
                · rw [List.mem_singleton.mp he]
                  exact hpr.sk k6
              · rcases List.mem_append.mp he with he | he
                · exact hx3 e he
                · rw [List.mem_singleton.mp he]
                  exact ⟨j, rj, hrj, rfl, rfl⟩
            refine ⟨_, rfl, pf, aF K, dxf, _, _, rfl, e6 _ _ hpf, Z.cF, Z.fR, look_R _ _, ar, rfl, ⟨_, SqT.of (e6 _ _ har)⟩, ?_⟩
            refine for_tup (K := K) (a := ar) (xs := g.2.map V.int) (fun t σ H7 => ∃ z, σ = [some (.ref p), some (.int i), some (.ref pf), some (.ref F0), some (.int j), some (.ref qj), z, some (.int j)] ∧ H7 = upd H5 F0 (NDict prog w F0 (xs ++ [(proj rj g.1, b, (j : Int))]))) ⟨_, rfl, rfl⟩ (fun t σ H7 _ q => by
                obtain ⟨_, _, e7⟩ := q
                rw [e7]
                exact SqT.of (e6 _ _ har)) ?_ ?_
            · rintro t y σ H7 hy ⟨z, rfl, rfl⟩
              obtain ⟨cc, rfl, hcc⟩ : ∃ cc, y = V.int cc ∧ g.2[t]? = some cc := by
                rw [List.getElem?_map] at hy
                cases e : g.2[t]? with
                | none => rw [e] at hy; cases hy
                | some z => rw [e] at hy; exact ⟨z, (Option.some.inj hy).symm, rfl⟩
              have hcm := List.mem_of_getElem? hcc
              obtain ⟨q0, hq0, pq0⟩ := K9.Paired.getR hqs hr0
              obtain ⟨vs1, v1, a1, a2, _, a4⟩ := pair_at pq0 (wr _ (List.mem_of_getElem? hr0)) (wg.r cc hcm)
              obtain ⟨vs2, v2, b1, b2, _, b4⟩ := pair_at prj hrl (wg.r cc hcm)
              refine ⟨_, rfl, p, aC K, dx, _, _, rfl, e6 _ _ hp, Z.cC, Z.cRows, ch_rows _ _ _ _, _, rfl, lr, _, _, _, rfl, rfl, SqL.of (e6 _ _ hlr), atI_nat (by rw [List.getElem?_map, hq0]; rfl), _, rfl, q0, _, _, _, rfl, rfl, SqT.of (e6 _ _ a1), a2, _, rfl, _, rfl, qj, _, _, _, rfl, rfl, SqT.of (e6 _ _ b1), b2, ?_⟩
              refine ⟨dRow _, dRow _, (a4.sk (SK.ext e6)).dp, (b4.sk (SK.ext e6)).dp, shaped_row _, shaped_row _, ?_⟩
              have hpr2 : proj rj g.2 = proj rj g.2 := brk_false.mp (hb g hgm rj (List.mem_of_getElem? hr0) rj hrm) hp0
              rw [eqv_row, proj_eq hpr2 hcm, decide_eq_true rfl]
              refine ⟨_, rfl, ?_⟩
              refine iteF ?_
              exact ⟨_, rfl, rfl⟩
            · rintro σ H7 ⟨z, rfl, rfl⟩
              obtain ⟨xs6, i1, i2, i3, i4⟩ := inv6
              exact ⟨_, _, _, _, xs6, rfl, e6, i1, i2, i3, i4⟩
      · rintro σ H3 ⟨b1, b2, b3, b4, xs, rfl, e3, _⟩
        exact ⟨_, _, _, _, _, _, _, rfl, e3⟩
    · rintro σ H2 ⟨a1, a2, a3, a4, a5, a6, a7, rfl, e2⟩
      exact k H2 e2
end
end K9

set_option maxHeartbeats 4000000
/-! Walks: StateChase.run, window. -/
namespace K9
open PySem L2
theorem proj_colz (r : Row) : proj r (colz r.length) = r := by
  apply List.ext_getElem?
  intro i
  unfold proj colz
  rw [List.map_map, List.getElem?_map]
  by_cases h : i < r.length
  · rw [List.getElem?_range h]
    simp [h]
  · rw [List.getElem?_eq_none (by simp; omega), List.getElem?_eq_none (by omega)]
    rfl
section
variable {w : World} {K : PySem.W.Frag} {mg : Str → Option Value} {base : Heap} {f : Addr} {fd : FuncData}
abbrev nRn : List Str := ["self", "step", "index", "first", "second", "column"]
theorem scRun : FnScope nRn ["self"] (defScope sRun) := ⟨rfl, rfl, rfl, by decide +kernel, rfl, by decide +kernel, by decide +kernel⟩
theorem ok_run (F : FnP K "run" "StateChase.run" sRun f fd) (Z : E9 K mg) (cN : C8.Met prog w K mg base 1 (aC K) "next_step" (spNext K) []) : FnOk prog w K mg base CX0 2 f fd ["self"] (spNext K) := by
  refine F.ok scRun (fun vs H Q E h => ?_) (fun cdv A outer s H vs Q E hr h => ?_)
  · obtain ⟨p, lr, n, rs, fs, qs, rfl, _⟩ := h
    rfl
  · obtain ⟨p, lr, n, rs, fs, qs, rfl, C, wr, wf, hb, hl1, hl2, k⟩ := h
    obtain ⟨dx, ld, ls, fvs, hp, hld, hfd, hlr, hqs⟩ := id C
    refine ⟨_, PSs.nox (pss_cons (ps_set (i := 1) scRun.nd rfl (Or.inl rfl) (C8.pe_mt0 cN hr (by decide) (pv 0)))
      (pss_one (ps_while PassesOwn.never (PW.pt (pw_and (pt_cmpR op_notN (pv 1) pe_non (nomark _)) (pw_and1 (pt_not (pt_val (pe_fld (pv 0) rfl)))))) (pss_cons ps_never (pss_cons ps_never (pss_one ps_never)))))), ?_⟩
    refine ⟨_, rfl, p, dx, _, rfl, hp, ch_no _ _ _ _ (by decide +kernel) (by decide +kernel) (by decide +kernel) (by decide +kernel), ?_⟩
    refine ⟨p, lr, n, rs, fs, qs, rfl, C, wr, wf, hb, hl1, hl2, fun H2 e2 => ?_⟩
    refine ⟨fun m σ' H' => σ' = [some (.ref p), some .non, none, none, none, none] ∧ H' = H2, ⟨0, rfl, rfl⟩, ?_⟩
    rintro m σ' H' ⟨rfl, rfl⟩
    refine ⟨_, rfl, rfl, _, rfl, ?_⟩
    refine iteF ?_
    refine iteF ?_
    exact k _ e2
/-! ### window -/
def spWindow (K : PySem.W.Frag) : Sp := fun vs H Q _ => ∃ (ld lt c n : Nat) (fvs : List V) (vt : V) (rs : List Row) (fs : List Fdp), vs = [.int n, .ref ld, .ref lt, .ref c] ∧ SqL K H ld fvs ∧ Fds (aF K) H fvs fs ∧ SqL K H lt [vt] ∧ IsTab (aT K) H vt n rs ∧ ColT H c n ∧ WfRows n rs ∧ (∀ g ∈ fs, WfFd n g) ∧ (∀ g ∈ fs, ∀ a ∈ rs, ∀ b ∈ rs, brk g a b = false) ∧ rs.Pairwise (· < ·) ∧ rs.length ≤ 60 ∧ fs.length ≤ 60 ∧ 1 ≤ n ∧ n ≤ 60 ∧
  ∀ (v : V) (H' : Hp), Ext H H' → IsTab (aT K) H' v n rs → Q v H'
abbrev nWi : List Str := ["count", "dependencies", "tables", "columns", "chase", "rows", "row", "column"]
theorem scWindow : FnScope nWi ["count", "dependencies", "tables", "columns"] (defScope sWindow) := ⟨rfl, rfl, rfl, by decide +kernel, rfl, by decide +kernel, by decide +kernel⟩
theorem ok_window (F : FnP K "window" "window" sWindow f fd) (Z : E9 K mg) (mC : C8.Mak prog w K mg base 3 "StateChase" (aC K) (spChaseI K) []) (cR : C8.Met prog w K mg base 2 (aC K) "run" (spNext K) []) (mT : C8.Mak prog w K mg base 1 "Table" (aT K) (spTabI K) []) : FnOk prog w K mg base CX0 5 f fd ["count", "dependencies", "tables", "columns"] (spWindow K) := by
  refine F.ok scWindow (fun vs H Q E h => ?_) (fun cdv A outer s H vs Q E hr h => ?_)
  · obtain ⟨ld, lt, c, n, fvs, vt, rs, fs, rfl, _⟩ := h
    rfl
  · obtain ⟨ld, lt, c, n, fvs, vt, rs, fs, rfl, hld, hfd, hlt, ht, hc, wr, wf, hb, hasc, hl1, hl2, hn1, hn2, k⟩ := h
    refine ⟨_, PSs.nox (pss_cons (ps_set (i := 4) scWindow.nd rfl (Or.inl rfl) (C8.pe_mk mC hr (by decide) (by rfl) (pa_cons (pv 0) (pa_cons (pv 1) (pa_cons (pv 2) pa_nil)))))
      (pss_cons (ps_expr (C8.pe_mt0 cR hr (by decide) (pv 4)))
      (pss_cons (ps_if (pt_val (pe_fld (pv 4) rfl)) (pss_one (ps_ret pe_non)) pss_nil)
      (pss_cons (ps_set (i := 5) scWindow.nd rfl (Or.inl rfl) (pe_lst pa_nil))
      (pss_cons (ps_for PassesOwn.never rfl (pi_list (pe_fld (pv 4) rfl)) (pg_name (i := 6) scWindow.nd rfl (Or.inr rfl))
        (pss_one (ps_if (pt_val (pe_callB (cr_all rfl) (by rfl) Z.all (by decide +kernel) (pa_cons (pe_lc (own := [("column", 7)]) (g := gName 7) (tt := tYes) (te := tOp rEq (tOp (rIxT K) (tOp (rIxT K) (tVar 6) (tVar 7)) (tC (.int 0))) (tC (.int 0))) rfl scWindow.nd (pi_tup (pv 3)) (blkOk_by (N := nWi) (sc := defScope sWindow) (by decide +kernel)) (fun _ _ _ _ _ => pg_name (i := 7) scWindow.nd rfl (Or.inl rfl)) (fun _ _ _ _ _ => pts_nil)
            (fun _ _ _ _ _ => pe_cmpR op_eq (pe_ix ix_tup (pe_ix ix_tup (pv 6) (pv 7) (fun _ _ => rfl)) pe_int (fun _ _ => rfl)) pe_int (nomark _))) pa_nil)))
          (pss_one (ps_expr (pe_bm PySem.F.plainAttrs_list PySem.F.slot_list_append PySem.F.type_list_append mt_append (pv 5) (pa_cons (pe_tupleOf (by rfl) Z.tup (pe_lc (own := [("column", 7)]) (g := gName 7) (tt := tYes) (te := tOp (rIxT K) (tOp (rIxT K) (tVar 6) (tVar 7)) (tC (.int 1))) rfl scWindow.nd (pi_tup (pv 3)) (blkOk_by (N := nWi) (sc := defScope sWindow) (by decide +kernel)) (fun _ _ _ _ _ => pg_name (i := 7) scWindow.nd rfl (Or.inl rfl)) (fun _ _ _ _ _ => pts_nil)
            (fun _ _ _ _ _ => pe_ix ix_tup (pe_ix ix_tup (pv 6) (pv 7) (fun _ _ => rfl)) pe_int (fun _ _ => rfl)))) pa_nil)))) pss_nil)))
      (pss_one (ps_ret (C8.pe_mk mT hr (by decide) (by rfl) (pa_cons (pv 3) (pa_cons (pv 5) pa_nil)))))))))), ?_⟩
    refine ⟨_, rfl, _, rfl, _, rfl, fun x dx hx hdx hne => ?_⟩
    have hxH : upd H dx (.own x) x = none := by rw [upd_ne hne.symm]; exact hx
    have e1 : Ext H (upd (upd H dx (.own x)) x (.ins (aC K) dx [])) := (Ext.upd hdx).trans (Ext.upd hxH)
    refine ⟨x, dx, lt, n, .ref ld, vt, rs, rfl, upd_same, hlt.ext e1, ht.sk (SK.ext e1), wr, hl1, hn2, fun H2 lr ls qs np hp2 hlr2 hqs2 => ⟨rfl, ?_⟩⟩
    have e2 : Ext H H2 := fun b o hbo => np b o (e1 _ _ hbo) (ne_of_none hbo hx)
    have C2 : ChAt K H2 x n rs fs lr qs := ⟨dx, ld, ls, fvs, hp2, hld.ext e2, hfd.sk (SK.ext e2), hlr2, hqs2⟩
    refine ⟨_, rfl, x, dx, _, rfl, hp2, ch_no _ _ _ _ (by decide +kernel) (by decide +kernel) (by decide +kernel) (by decide +kernel), ?_⟩
    refine ⟨x, lr, n, rs, fs, qs, rfl, C2, wr, wf, hb, hl1, hl2, fun H3 e3 => ?_⟩
    have C3 := C2.ext e3
    have e03 := e2.trans e3
    refine ⟨_, rfl, x, aC K, dx, _, _, rfl, e3 _ _ hp2, Z.cC, Z.cClash, ch_clash _ _ _ _, _, rfl, ?_⟩
    refine iteF ?_
    refine ⟨by decide, fun R0 hR => ?_⟩
    have eR : Ext H3 (upd H3 R0 (.lst [])) := Ext.upd hR
    have hRH : H R0 = none := Ext.free e03 hR
    have hqs3 := Paired.mapP hqs2 fun (a : Addr) (r : Row) (z : PairRow H2 a r) => z.sk (SK.ext e3)
    have hlr3 := e3 _ _ hlr2
    refine ⟨_, rfl, x, aC K, dx, _, _, rfl, eR _ _ (e3 _ _ hp2), Z.cC, Z.cRows, ch_rows _ _ _ _, lr, rfl, ⟨_, SqL.of (eR _ _ hlr3)⟩, ?_⟩
    have hql : qs.length = rs.length := Paired.length hqs2
    refine for_list (K := K) (a := lr) (xs := qs.map V.ref) (fun j σ H4 => ∃ (a b : Option V) (xs : List V), σ = [some (.int n), some (.ref ld), some (.ref lt), some (.ref c), some (.ref x), some (.ref R0), a, b] ∧ Ext H3 H4 ∧ H4 R0 = some (.lst xs) ∧ Rows H4 xs (rs.take j))
      ⟨_, _, [], rfl, eR, upd_same, .nil⟩ (fun j σ H4 _ q => ?_) ?_ ?_
    · obtain ⟨_, _, _, _, e4, _⟩ := q
      exact SqL.of (e4 _ _ hlr3)
    · rintro j y σ H4 hj ⟨a1, a2, xs, rfl, e4, hR4, hxs⟩
      obtain ⟨qj, rfl, hqj⟩ : ∃ qj, y = V.ref qj ∧ qs[j]? = some qj := by
        rw [List.getElem?_map] at hj
        cases e : qs[j]? with
        | none => rw [e] at hj; cases hj
        | some z => rw [e] at hj; exact ⟨z, (Option.some.inj hj).symm, rfl⟩
      obtain ⟨rj, hrj, prj⟩ := K9.Paired.getP hqs3 hqj
      have hrl := wr rj (List.mem_of_getElem? hrj)
      have hjl := (List.getElem?_eq_some_iff.mp hrj).1
      have hcol : (colz n).length = n := colz_len n
      have hc4 : ColT H4 c n := hc.sk (SK.ext (e03.trans e4))
      have at2 : ∀ (z : Int), z ∈ colz n → ∃ (vs : List V) (pz : Addr), H3 qj = some (.tup vs) ∧ atI vs z = some (.ref pz) ∧ H3 pz = some (.tup [V.int 0, V.int (rj.getD z.toNat 0)]) := fun z hz => by
        obtain ⟨vs, v, b1, b2, _, pz, rfl, b5⟩ := pair_at prj hrl hz
        exact ⟨vs, pz, b1, b2, b5⟩
      refine ⟨_, rfl, c, rfl, ⟨_, hc4.sq⟩, fun D hD => ?_⟩
      refine lcT (K := K) (a := c) (xs := (colz n).map V.int) (fs := (colz n).map fun _ => some (V.bl true)) hc4.sq hD (by simp) (by rw [List.length_map, hcol]; exact small1000 (by omega)) (fun x => rfl) (fun t y r hy hr' H5 e5 => ?_) ?_
      · rw [List.getElem?_map] at hy hr'
        cases ea : (colz n)[t]? with
        | none => rw [ea] at hy; cases hy
        | some z =>
          rw [ea] at hy hr'
          cases hy
          cases hr'
          obtain ⟨vs, pz, b1, b2, b3⟩ := at2 z (List.mem_of_getElem? ea)
          refine turnY rfl fun Q q => ?_
          refine ⟨_, rfl, _, rfl, qj, _, _, _, rfl, rfl, SqT.of (e5 _ _ (e4 _ _ b1)), b2, pz, _, _, _, rfl, rfl, SqT.of (e5 _ _ (e4 _ _ b3)), atI_nat (j := 0) (v := V.int 0) rfl, rfl, ?_⟩
          rw [decide_eq_true rfl]
          exact q
      · have eD : Ext H4 (upd H4 D (.lst (((colz n).map fun _ => some (V.bl true)).filterMap id))) := Ext.upd hD
        refine ⟨D, (colz n).map fun _ => true, rfl, SqL.of (by rw [upd_same, fm_some, List.map_map]; rfl), _, rfl, ?_⟩
        rw [show ((colz n).map fun _ => true).all id = true by simp]
        refine iteT ?_
        have hR5 := eD _ _ hR4
        have hc5 := hc4.sk (SK.ext eD)
        refine ⟨_, rfl, .inl ⟨rfl, _, SqL.of hR5⟩, _, rfl, c, rfl, ⟨_, hc5.sq⟩, fun D2 hD2 => ?_⟩
        refine lcT (K := K) (a := c) (xs := (colz n).map V.int) (fs := (colz n).map fun z => some (V.int (rj.getD z.toNat 0))) hc5.sq hD2 (by simp) (by rw [List.length_map, hcol]; exact small1000 (by omega)) (fun x => rfl) (fun t y r hy hr' H5 e5 => ?_) ?_
        · rw [List.getElem?_map] at hy hr'
          cases ea : (colz n)[t]? with
          | none => rw [ea] at hy; cases hy
          | some z =>
            rw [ea] at hy hr'
            cases hy
            cases hr'
            obtain ⟨vs, pz, b1, b2, b3⟩ := at2 z (List.mem_of_getElem? ea)
            refine turnY rfl fun Q q => ?_
            exact ⟨_, rfl, _, rfl, qj, _, _, _, rfl, rfl, SqT.of (e5 _ _ (eD _ _ (e4 _ _ b1))), b2, pz, _, _, _, rfl, rfl, SqT.of (e5 _ _ (eD _ _ (e4 _ _ b3))), atI_nat (j := 1) (v := V.int (rj.getD z.toNat 0)) rfl, q⟩
        · have eD2 := Ext.trans eD (Ext.upd (o := HO.lst (((colz n).map fun z => some (V.int (rj.getD z.toNat 0))).filterMap id)) hD2)
          refine .inl ⟨D2, _, rfl, SqL.of upd_same, fun T hT => ?_⟩
          have eT := Ext.trans eD2 (Ext.upd (o := HO.tup (((colz n).map fun z => some (V.int (rj.getD z.toNat 0))).filterMap id)) hT)
          have hxl : xs.length ≤ 60 := by
            have := Paired.length hxs
            rw [List.length_take] at this
            omega
          refine ⟨R0, xs, _, rfl, rfl, eT _ _ hR4, small1000 (by omega), ?_⟩
          have hrow : (((colz n).map fun z => some (V.int (rj.getD z.toNat 0))).filterMap id) = rj.map V.int := by
            rw [fm_some]
            have := proj_colz rj
            rw [hrl] at this
            conv => rhs; rw [← this]
            unfold proj
            rw [List.map_map]
            rfl
          have kk : SK H4 _ := (SK.ext eT).trans (SK.lst (o := HO.lst (xs ++ [V.ref T])) (eT _ _ hR4))
          refine ⟨_, _, _, rfl, Ext.set (Ext.trans e4 eT) hR, upd_same, ?_⟩
          rw [take_snoc hrj]
          refine K9.Paired.snoc' (hxs.sk kk) ⟨T, rfl, SK.lst (eT _ _ hR4) _ _ ?_ rfl⟩
          rw [upd_same, hrow]
    · rintro σ H4 ⟨a1, a2, xs, rfl, e4, hR4, hxs⟩
      rw [List.length_map, hql, List.take_length] at hxs
      have e04 := e03.trans e4
      refine ⟨_, rfl, _, rfl, fun x2 dx2 hx2 hdx2 hne2 => ?_⟩
      have hxH2 : upd H4 dx2 (.own x2) x2 = none := by rw [upd_ne hne2.symm]; exact hx2
      have e5 : Ext H4 (upd (upd H4 dx2 (.own x2)) x2 (.ins (aT K) dx2 [])) := (Ext.upd hdx2).trans (Ext.upd hxH2)
      refine ⟨x2, dx2, c, R0, n, xs, rs, rfl, upd_same, (hc.sk (SK.ext e04)).sk (SK.ext e5), hn1, hn2, .inl (SqL.of (e5 _ _ hR4)), hxs.sk (SK.ext e5), wr, by omega, fun rs' H6 fr it cn => ⟨rfl, ?_⟩⟩
      have ers := canon_eq cn hasc
      subst ers
      exact k _ H6 (fun b o hbo => fr b o (e5 _ _ (e04 _ _ hbo)) (ne_of_none (e04 _ _ hbo) hx2)) it
end
end K9

set_option maxHeartbeats 4000000
/-! Walks: the law's own defs: numbers, sparse, fds. -/
namespace K9
open PySem L2
section
variable {w : World} {K : PySem.W.Frag} {mg : Str → Option Value} {base : Heap} {f : Addr} {fd : FuncData}
def spNumbers (K : PySem.W.Frag) : Sp := fun vs H Q _ => ∃ (a : Addr) (ns : List Int), vs = [.ref a, .int 20] ∧ SqL K H a (ns.map V.int) ∧ ns.length ≤ 63 ∧
  ∀ (q : Addr) (xs : List Int) (H' : Hp), Ext H H' → H q = none → H' q = some (.lst (xs.map V.int)) → xs.length = 20 → (∀ x ∈ xs, 0 ≤ x ∧ x < 1000000) → Q (.ref q) H'
abbrev nNu : List Str := ["_law_script", "_law_count", "_law_rest", "_law_by_digits", "_law_numbers_here", "_law_k", "_law_cell"]
theorem scNumbers : FnScope nNu ["_law_script", "_law_count"] (defScope sNumbers) := ⟨rfl, rfl, rfl, by decide +kernel, rfl, by decide +kernel, by decide +kernel⟩
theorem ok_numbers (F : FnP K "_law_numbers" "_law_numbers" sNumbers f fd) (Z : E9 K mg) : FnOk prog w K mg base CX0 1 f fd ["_law_script", "_law_count"] (spNumbers K) := by
  refine F.ok scNumbers (fun vs H Q E h => ?_) (fun cdv A outer s H vs Q E hr h => ?_)
  · obtain ⟨a, ns, rfl, _⟩ := h
    rfl
  · obtain ⟨a, ns, rfl, hS, hl, k⟩ := h
    refine ⟨_, PSs.nox (pss_cons (ps_set (i := 2) scNumbers.nd rfl (Or.inl rfl) pe_int)
      (pss_cons (ps_if (pt_cmpR op_gt (pe_callB call_len (by rfl) Z.len PySem.boot_len (pa_cons (pv 0) pa_nil)) pe_int (nomark _)) (pss_one (ps_set (i := 2) scNumbers.nd rfl (Or.inl rfl) (pe_ix ix_list (pv 0) pe_int (fun _ _ => rfl)))) pss_nil)
      (pss_cons (ps_set (i := 3) scNumbers.nd rfl (Or.inl rfl) (pe_cmpR op_ge (pv 2) (pe_op op_pow pe_int pe_int) (nomark _)))
      (pss_cons (ps_set (i := 4) scNumbers.nd rfl (Or.inl rfl) (pe_lst pa_nil))
      (pss_cons (ps_for PassesOwn.never rfl (pi_range1 (by rfl) Z.rng (pa_cons (pv 1) pa_nil)) (pg_name (i := 5) scNumbers.nd rfl (Or.inl rfl))
        (pss_one (ps_if (PW.pt (pw_and (pt_val (pv 3)) (pw_and1 (pt_cmpR op_gt (pv 2) pe_int (nomark _)))))
          (pss_cons (ps_expr (pe_bm PySem.F.plainAttrs_list PySem.F.slot_list_append PySem.F.type_list_append mt_append (pv 4) (pa_cons (pe_op op_mod (pv 2) pe_int) pa_nil)))
          (pss_one (ps_set (i := 2) scNumbers.nd rfl (Or.inl rfl) (pe_op op_fdiv (pv 2) pe_int))))
          (pss_cons (ps_set (i := 6) scNumbers.nd rfl (Or.inl rfl) pe_int)
          (pss_cons (ps_if (pt_cmpR op_gt (pe_callB call_len (by rfl) Z.len PySem.boot_len (pa_cons (pv 0) pa_nil)) pe_int (nomark _)) (pss_one (ps_set (i := 6) scNumbers.nd rfl (Or.inl rfl) (pe_op op_add (pe_ix ix_list (pv 0) (pe_op op_mod (pv 5) (pe_callB call_len (by rfl) Z.len PySem.boot_len (pa_cons (pv 0) pa_nil))) (fun _ _ => rfl)) (pe_op op_mul pe_int (pv 5))))) pss_nil)
          (pss_one (ps_expr (pe_bm PySem.F.plainAttrs_list PySem.F.slot_list_append PySem.F.type_list_append mt_append (pv 4) (pa_cons (pe_op op_mod (pe_op op_mod (pe_op op_mul (pe_op op_mod (pe_op op_mul (pv 6) pe_int) pe_int) pe_int) pe_int) pe_int) pa_nil)))))))))
      (pss_one (ps_ret (pv 4)))))))), ?_⟩
    refine ⟨_, rfl, _, _, rfl, .inl ⟨_, hS, rfl⟩, _, _, rfl, rfl, _, rfl, ?_⟩
    rw [List.length_map]
    have hat : ∀ j : Nat, j < ns.length → atI (ns.map V.int) (j : Int) = some (.int (ns.getD j 0)) := fun j hj => atI_nat (by simp [hj])
    refine ite2 (fun h0 => ?_) (fun h0 => ?_)
    rotate_left
    all_goals
      first
      | (refine ⟨_, rfl, a, _, (0 : Nat), _, rfl, rfl, hS, hat 0 (by have := of_decide_eq_true h0; omega), ?_⟩)
      | skip
      refine ⟨_, rfl, _, _, rfl, rfl, ⟨by decide, by decide, by decide⟩, _, _, rfl, rfl, ?_⟩
      refine ⟨by decide, fun q hq => ?_⟩
      have e1 : Ext H (upd H q (.lst [])) := Ext.upd hq
      refine ⟨_, rfl, 20, rfl, by decide, by decide, ?_⟩
      refine for_range (lo := 0) (n := 20) (fun i σ H2 => ∃ (r0 : Int) (b : Bool) (z1 z2 : Option V) (xs : List Int), σ = [some (.ref a), some (.int 20), some (.int r0), some (.bl b), some (.ref q), z1, z2] ∧ Ext H H2 ∧ H2 q = some (.lst (xs.map V.int)) ∧ xs.length = i ∧ (∀ x ∈ xs, 0 ≤ x ∧ x < 1000000))
        ⟨_, _, _, _, [], rfl, e1, upd_same, rfl, fun x hx => by cases hx⟩ ?_ ?_
      · rintro i σ H2 hi ⟨r0, b, z1, z2, xs, rfl, e2, hq2, hxl, hxb⟩
        have hS2 := hS.ext e2
        refine ⟨_, rfl, b, rfl, ?_⟩
        have fin : ∀ (x : Int) (H3 : Hp), H3 = H2 → 0 ≤ x → x < 1000000 → Ext H (upd H3 q (.lst (xs.map V.int ++ [V.int x]))) ∧ upd H3 q (.lst (xs.map V.int ++ [V.int x])) q = some (.lst ((xs ++ [x]).map V.int)) ∧ (xs ++ [x]).length = i + 1 ∧ ∀ y ∈ xs ++ [x], 0 ≤ y ∧ y < 1000000 := fun x H3 e h1 h2 => by
          subst e
          refine ⟨Ext.set e2 hq, by rw [upd_same, List.map_append]; rfl, by rw [List.length_append, List.length_singleton, hxl], fun y hy => ?_⟩
          rcases List.mem_append.mp hy with hy | hy
          · exact hxb y hy
          · rw [List.mem_singleton.mp hy]
            exact ⟨h1, h2⟩
        by_cases hb : b = true ∧ 0 < r0
        · obtain ⟨rfl, hr0⟩ := hb
          refine iteT ⟨_, rfl, _, _, rfl, rfl, _, rfl, ?_⟩
          rw [decide_eq_true hr0]
          refine iteT ?_
          refine ⟨_, rfl, .inl ⟨rfl, _, SqL.of hq2⟩, _, rfl, _, _, rfl, rfl, (by show (0 : Int) < 1000000; decide), q, _, _, rfl, rfl, hq2, by rw [List.length_map]; exact small1000 (by omega), ?_⟩
          obtain ⟨f1, f2, f3, f4⟩ := fin _ H2 rfl (Int.emod_nonneg r0 (show (1000000 : Int) ≠ 0 by decide)) (Int.emod_lt_of_pos r0 (by decide))
          exact ⟨_, rfl, _, _, rfl, rfl, ⟨by decide, by decide⟩, _, _, _, _, xs ++ [_], rfl, f1, f2, f3, f4⟩
        · cases b with
          | true =>
            have hr0 : ¬ 0 < r0 := fun z => hb ⟨rfl, z⟩
            refine iteT ⟨_, rfl, _, _, rfl, rfl, _, rfl, ?_⟩
            rw [decide_eq_false hr0]
            refine iteF ?_
            refine ⟨_, rfl, _, _, rfl, .inl ⟨_, hS2, rfl⟩, _, _, rfl, rfl, _, rfl, ?_⟩
            rw [List.length_map]
            refine ite2 (fun h1 => ?_) (fun h1 => ?_)
            · have hp : 0 < ns.length := by have := of_decide_eq_true h1; omega
              refine ⟨_, rfl, _, rfl, _, rfl, _, _, rfl, .inl ⟨_, hS2, rfl⟩, _, _, rfl, rfl, (by rw [List.length_map]; omega), a, _, _, _, rfl, rfl, hS2, (by
                  rw [List.length_map, show (0 + (i : Int)) % (ns.length : Int) = ((i % ns.length : Nat) : Int) by simp]
                  exact hat _ (Nat.mod_lt _ hp)), _, rfl, _, _, rfl, rfl, .inl ⟨by decide, by decide⟩, _, _, rfl, rfl, ?_⟩
              refine ⟨_, rfl, .inl ⟨rfl, _, SqL.of hq2⟩, _, rfl, _, _, rfl, rfl, .inr ⟨by decide, by decide⟩, _, _, rfl, rfl, (by show (0 : Int) < 2147483647; decide), _, _, rfl, rfl, .inr ⟨by decide, by decide⟩, _, _, rfl, rfl, (by show (0 : Int) < 2147483629; decide), _, _, rfl, rfl, (by show (0 : Int) < 1000000; decide), q, _, _, rfl, rfl, hq2, by rw [List.length_map]; exact small1000 (by omega), ?_⟩
              obtain ⟨f1, f2, f3, f4⟩ := fin _ H2 rfl (Int.emod_nonneg _ (by decide)) (Int.emod_lt_of_pos _ (by decide))
              exact ⟨_, _, _, _, xs ++ [_], rfl, f1, f2, f3, f4⟩
            · refine ⟨_, rfl, .inl ⟨rfl, _, SqL.of hq2⟩, _, rfl, _, _, rfl, rfl, .inr ⟨by decide, by decide⟩, _, _, rfl, rfl, (by show (0 : Int) < 2147483647; decide), _, _, rfl, rfl, .inr ⟨by decide, by decide⟩, _, _, rfl, rfl, (by show (0 : Int) < 2147483629; decide), _, _, rfl, rfl, (by show (0 : Int) < 1000000; decide), q, _, _, rfl, rfl, hq2, by rw [List.length_map]; exact small1000 (by omega), ?_⟩
              obtain ⟨f1, f2, f3, f4⟩ := fin _ H2 rfl (Int.emod_nonneg _ (by decide)) (Int.emod_lt_of_pos _ (by decide))
              exact ⟨_, _, _, _, xs ++ [_], rfl, f1, f2, f3, f4⟩
          | false =>
            refine iteF ?_
            refine iteF ?_
            refine ⟨_, rfl, _, _, rfl, .inl ⟨_, hS2, rfl⟩, _, _, rfl, rfl, _, rfl, ?_⟩
            rw [List.length_map]
            refine ite2 (fun h1 => ?_) (fun h1 => ?_)
            · have hp : 0 < ns.length := by have := of_decide_eq_true h1; omega
              refine ⟨_, rfl, _, rfl, _, rfl, _, _, rfl, .inl ⟨_, hS2, rfl⟩, _, _, rfl, rfl, (by rw [List.length_map]; omega), a, _, _, _, rfl, rfl, hS2, (by
                  rw [List.length_map, show (0 + (i : Int)) % (ns.length : Int) = ((i % ns.length : Nat) : Int) by simp]
                  exact hat _ (Nat.mod_lt _ hp)), _, rfl, _, _, rfl, rfl, .inl ⟨by decide, by decide⟩, _, _, rfl, rfl, ?_⟩
              refine ⟨_, rfl, .inl ⟨rfl, _, SqL.of hq2⟩, _, rfl, _, _, rfl, rfl, .inr ⟨by decide, by decide⟩, _, _, rfl, rfl, (by show (0 : Int) < 2147483647; decide), _, _, rfl, rfl, .inr ⟨by decide, by decide⟩, _, _, rfl, rfl, (by show (0 : Int) < 2147483629; decide), _, _, rfl, rfl, (by show (0 : Int) < 1000000; decide), q, _, _, rfl, rfl, hq2, by rw [List.length_map]; exact small1000 (by omega), ?_⟩
              obtain ⟨f1, f2, f3, f4⟩ := fin _ H2 rfl (Int.emod_nonneg _ (by decide)) (Int.emod_lt_of_pos _ (by decide))
              exact ⟨_, _, _, _, xs ++ [_], rfl, f1, f2, f3, f4⟩
            · refine ⟨_, rfl, .inl ⟨rfl, _, SqL.of hq2⟩, _, rfl, _, _, rfl, rfl, .inr ⟨by decide, by decide⟩, _, _, rfl, rfl, (by show (0 : Int) < 2147483647; decide), _, _, rfl, rfl, .inr ⟨by decide, by decide⟩, _, _, rfl, rfl, (by show (0 : Int) < 2147483629; decide), _, _, rfl, rfl, (by show (0 : Int) < 1000000; decide), q, _, _, rfl, rfl, hq2, by rw [List.length_map]; exact small1000 (by omega), ?_⟩
              obtain ⟨f1, f2, f3, f4⟩ := fin _ H2 rfl (Int.emod_nonneg _ (by decide)) (Int.emod_lt_of_pos _ (by decide))
              exact ⟨_, _, _, _, xs ++ [_], rfl, f1, f2, f3, f4⟩
      · rintro σ H2 ⟨r0, b, z1, z2, xs, rfl, e2, hq2, hxl, hxb⟩
        exact ⟨_, rfl, k q xs H2 e2 hq hq2 hxl hxb⟩
end
end K9

set_option maxHeartbeats 4000000
/-! Walks: the law's own defs: sparse, fds. -/
namespace K9
open PySem L2
section
variable {w : World} {K : PySem.W.Frag} {mg : Str → Option Value} {base : Heap} {f : Addr} {fd : FuncData}
def spSparse : Sp := fun vs H Q _ => ∃ (z : Int) (n : Nat), vs = [.int z, .int n] ∧ n ≤ 4 ∧ ∀ (q : Addr) (r : Row) (H' : Hp), Ext H H' → H' q = some (.tup (r.map V.int)) → r.Sublist (colz n) → Q (.ref q) H'
abbrev nSp : List Str := ["_law_number", "_law_count", "_law_k"]
theorem scSparse : FnScope nSp ["_law_number", "_law_count"] (defScope sSparse) := ⟨rfl, rfl, rfl, by decide +kernel, rfl, by decide +kernel, by decide +kernel⟩
abbrev thr : List Int := [1, 3, 9, 27, 81, 243, 729]
abbrev tThr : TA := tCons (tC (.int 1)) (tCons (tC (.int 3)) (tCons (tC (.int 9)) (tCons (tC (.int 27)) (tCons (tC (.int 81)) (tCons (tC (.int 243)) (tCons (tC (.int 729)) tNil))))))
theorem ok_sparse (F : FnP K "_law_sparse" "_law_sparse" sSparse f fd) (Z : E9 K mg) : FnOk prog w K mg base CX0 1 f fd ["_law_number", "_law_count"] spSparse := by
  refine F.ok scSparse (fun vs H Q E h => ?_) (fun cdv A outer s H vs Q E hr h => ?_)
  · obtain ⟨z, n, rfl, _⟩ := h
    rfl
  · obtain ⟨z, n, rfl, hn, k⟩ := h
    refine ⟨_, PSs.nox (pss_one (ps_ret (pe_tupleOf (by rfl) Z.tup
      (pe_lc (own := [("_law_k", 2)]) (g := gName 2) (tt := tTest (tOp rEq (tOp (rI (fun _ j => 0 < j) fun i j => .int (i % j)) (tOp (rI CDiv fun i j => .int (i / j)) (tVar 0) (tOp (rIxL K) (tLst tThr) (tVar 2))) (tC (.int 3))) (tC (.int 1)))) (te := tVar 2) rfl scSparse.nd
        (pi_range1 (by rfl) Z.rng (pa_cons (pv 1) pa_nil)) (blkOk_by (N := nSp) (sc := defScope sSparse) (by decide +kernel)) (fun _ _ _ _ _ => pg_name (i := 2) scSparse.nd rfl (Or.inl rfl))
        (fun _ _ _ _ _ => pts_one (pt_cmpR op_eq (pe_op op_mod (pe_op op_fdiv (pv 0) (pe_ix ix_list (pe_lst (pa_cons pe_int (pa_cons pe_int (pa_cons pe_int (pa_cons pe_int (pa_cons pe_int (pa_cons pe_int (pa_cons pe_int pa_nil)))))))) (pv 2) (fun _ _ => rfl))) pe_int) pe_int (nomark _)))
        (fun _ _ _ _ _ => pv 2))))), ?_⟩
    refine ⟨_, rfl, n, rfl, by omega, by omega, fun D hD => ?_⟩
    rw [Int.toNat_natCast]
    refine lc_range (lo := 0) (n := n) (fun i H2 => ∃ r : Row, H2 D = some (.lst (r.map V.int)) ∧ Ext H H2 ∧ r.Sublist ((colz n).take i))
      ⟨[], upd_same, Ext.upd hD, List.nil_sublist _⟩ ?_ ?_
    · rintro i H2 hi ⟨r, hD2, e2, hs⟩
      have hrl : r.length ≤ 4 := by
        have := hs.length_le
        rw [List.length_take, colz_len] at this
        omega
      refine ⟨rfl, _, rfl, by show 7 ≤ sizeLine; decide, fun t ht => ?_⟩
      have et : Ext H2 (upd H2 t (.lst [V.int 1, V.int 3, V.int 9, V.int 27, V.int 81, V.int 243, V.int 729])) := Ext.upd ht
      obtain ⟨c, hc, hc0, hc1⟩ : ∃ c, atI [V.int 1, V.int 3, V.int 9, V.int 27, V.int 81, V.int 243, V.int 729] (0 + (i : Int)) = some (.int c) ∧ 0 < c ∧ c < 1073741824 := by
        rw [Int.zero_add]
        have h4 : i = 0 ∨ i = 1 ∨ i = 2 ∨ i = 3 := by omega
        rcases h4 with rfl | rfl | rfl | rfl
        · exact ⟨1, rfl, by decide, by decide⟩
        · exact ⟨3, rfl, by decide, by decide⟩
        · exact ⟨9, rfl, by decide, by decide⟩
        · exact ⟨27, rfl, by decide, by decide⟩
      have hcol : (colz n)[i]? = some (i : Int) := colz_get n i hi
      refine ⟨_, rfl, t, _, _, _, rfl, rfl, SqL.of upd_same, hc, _, _, rfl, rfl, ⟨hc0, hc1⟩, _, _, rfl, rfl, (by show (0 : Int) < 3; decide), rfl, _, rfl, ?_⟩
      refine ite2 (fun hy => ?_) (fun hno => ?_)
      · refine ⟨_, rfl, _, et _ _ hD2, by rw [List.length_map]; exact small1000 (by omega), r ++ [(i : Int)], by rw [upd_same, List.map_append]; simp, Ext.set (Ext.trans e2 et) hD, ?_⟩
        rw [take_snoc hcol]
        exact hs.append (List.Sublist.refl _)
      · refine ⟨r, et _ _ hD2, Ext.trans e2 et, ?_⟩
        rw [take_snoc hcol]
        exact hs.trans (List.sublist_append_left _ _)
    · rintro H2 ⟨r, hD2, e2, hs⟩
      rw [List.take_of_length_le (by rw [colz_len]; exact Nat.le_refl _)] at hs
      refine .inl ⟨D, _, rfl, SqL.of hD2, fun q hq => ?_⟩
      exact k q r _ (Ext.trans e2 (Ext.upd hq)) upd_same hs
/-! ### fds -/
def IsSides (H : Hp) (v : V) (g : Fdp) : Prop := ∃ t l r, v = .ref t ∧ H t = some (.tup [V.ref l, V.ref r]) ∧ H l = some (.tup (g.1.map V.int)) ∧ H r = some (.tup (g.2.map V.int))
theorem IsSides.sk {H H' : Hp} {v : V} {g : Fdp} (h : IsSides H v g) (k : SK H H') : IsSides H' v g := by
  obtain ⟨t, l, r, e, h1, h2, h3⟩ := h
  exact ⟨t, l, r, e, k _ _ h1 rfl, k _ _ h2 rfl, k _ _ h3 rfl⟩
def spFds (K : PySem.W.Frag) : Sp := fun vs H Q _ => ∃ (a : Addr) (xs : List Int) (n : Nat), vs = [.ref a, .int 1, .int n] ∧ SqL K H a (xs.map V.int) ∧ xs.length = 20 ∧ n ≤ 4 ∧
  ∀ (q : Addr) (items : List V) (fs : List Fdp) (H' : Hp), Ext H H' → H q = none → H' q = some (.lst items) → Paired (IsSides H') items fs → fs.length ≤ 6 → (∀ g ∈ fs, g.1.Sublist (colz n) ∧ g.2.Sublist (colz n)) → Q (.ref q) H'
abbrev nFd : List Str := ["_law_numbers_here", "_law_place", "_law_count", "_law_rows", "_law_k", "_law_number"]
theorem scFds : FnScope nFd ["_law_numbers_here", "_law_place", "_law_count"] (defScope sFds) := ⟨rfl, rfl, rfl, by decide +kernel, rfl, by decide +kernel, by decide +kernel⟩
theorem ok_fds (F : FnP K "_law_fds" "_law_fds" sFds f fd) (Z : E9 K mg) (cS : C8.Cal prog w K mg base 1 "_law_sparse" spSparse []) : FnOk prog w K mg base CX0 2 f fd ["_law_numbers_here", "_law_place", "_law_count"] (spFds K) := by
  refine F.ok scFds (fun vs H Q E h => ?_) (fun cdv A outer s H vs Q E hr h => ?_)
  · obtain ⟨a, xs, n, rfl, _⟩ := h
    rfl
  · obtain ⟨a, xs, n, rfl, hS, hx, hn, k⟩ := h
    have hat : ∀ j : Nat, j < 20 → atI (xs.map V.int) (j : Int) = some (.int (xs.getD j 0)) := fun j hj => atI_nat (by
      have : j < xs.length := by omega
      simp [this])
    refine ⟨_, PSs.nox (pss_cons (ps_set (i := 3) scFds.nd rfl (Or.inl rfl) (pe_lst pa_nil))
      (pss_cons (ps_for PassesOwn.never rfl (pi_range1 (by rfl) Z.rng (pa_cons (pe_op op_mod (pe_ix ix_list (pv 0) (pv 1) (fun _ _ => rfl)) pe_int) pa_nil)) (pg_name (i := 4) scFds.nd rfl (Or.inl rfl))
        (pss_cons (ps_set (i := 5) scFds.nd rfl (Or.inl rfl) (pe_ix ix_list (pv 0) (pe_op op_add (pe_op op_add (pv 1) pe_int) (pv 4)) (fun _ _ => rfl)))
        (pss_one (ps_expr (pe_bm PySem.F.plainAttrs_list PySem.F.slot_list_append PySem.F.type_list_append mt_append (pv 3) (pa_cons (pe_tup (pa_cons (C8.pe_c cS hr (by decide) (by rfl) (pa_cons (pv 5) (pa_cons (pv 2) pa_nil))) (pa_cons (C8.pe_c cS hr (by decide) (by rfl) (pa_cons (pe_op op_fdiv (pv 5) pe_int) (pa_cons (pv 2) pa_nil))) pa_nil))) pa_nil))))))
      (pss_one (ps_ret (pv 3))))), ?_⟩
    refine ⟨by decide, fun q hq => ?_⟩
    have e1 : Ext H (upd H q (.lst [])) := Ext.upd hq
    refine ⟨_, rfl, _, rfl, a, _, (1 : Nat), _, rfl, rfl, hS.ext e1, hat 1 (by decide), _, _, rfl, rfl, (by show (0 : Int) < 7; decide), _, rfl, ?_⟩
    have b0 := Int.emod_nonneg (xs.getD 1 0) (show (7 : Int) ≠ 0 by decide)
    have b1 := Int.emod_lt_of_pos (xs.getD 1 0) (show (0 : Int) < 7 by decide)
    refine ⟨by omega, by omega, ?_⟩
    refine for_range (lo := 0) (n := (xs.getD 1 0 % 7).toNat) (fun i σ H2 => ∃ (z1 z2 : Option V) (items : List V) (fs : List Fdp), σ = [some (.ref a), some (.int 1), some (.int n), some (.ref q), z1, z2] ∧ Ext H H2 ∧ H2 q = some (.lst items) ∧ Paired (IsSides H2) items fs ∧ fs.length = i ∧ (∀ g ∈ fs, g.1.Sublist (colz n) ∧ g.2.Sublist (colz n)))
      ⟨_, _, [], [], rfl, e1, upd_same, .nil, rfl, fun g hg => by cases hg⟩ ?_ ?_
    · rintro i σ H2 hi ⟨z1, z2, items, fs, rfl, e2, hq2, hit, hfl, hsub⟩
      have hix : atI (xs.map V.int) ((1 : Int) + 1 + (0 + (i : Int))) = some (.int (xs.getD (2 + i) 0)) := by
        rw [show (1 : Int) + 1 + (0 + (i : Int)) = ((2 + i : Nat) : Int) by omega]
        exact hat _ (by omega)
      refine ⟨_, rfl, _, rfl, _, _, rfl, rfl, _, rfl, _, _, rfl, rfl, a, _, _, _, rfl, rfl, hS.ext e2, hix, ?_⟩
      refine ⟨_, rfl, .inl ⟨rfl, _, SqL.of hq2⟩, _, rfl, _, rfl, _, n, rfl, hn, fun l lr H3 e3 hl hls => ?_⟩
      refine ⟨_, rfl, _, _, rfl, rfl, ⟨by decide, by decide⟩, _, rfl, _, n, rfl, hn, fun r rr H4 e4 hr4 hrs => ?_⟩
      refine ⟨by show 2 ≤ sizeLine; decide, fun t ht => ?_⟩
      have e24 := Ext.trans e3 (Ext.trans e4 (Ext.upd (o := HO.tup [V.ref l, V.ref r]) ht))
      have hil := Paired.length hit
      refine ⟨q, items, _, rfl, rfl, e24 _ _ hq2, small1000 (by omega), ?_⟩
      have kk : SK H2 (upd (upd H4 t (.tup [V.ref l, V.ref r])) q (.lst (items ++ [V.ref t]))) := (SK.ext e24).trans (SK.lst (e24 _ _ hq2))
      have kl : SK (upd H4 t (.tup [V.ref l, V.ref r])) (upd (upd H4 t (.tup [V.ref l, V.ref r])) q (.lst (items ++ [V.ref t]))) := SK.lst (e24 _ _ hq2)
      have et : Ext H4 (upd H4 t (.tup [V.ref l, V.ref r])) := Ext.upd ht
      refine ⟨_, _, _, fs ++ [(lr, rr)], rfl, Ext.set (Ext.trans e2 e24) hq, upd_same, K9.Paired.snoc' (Paired.mapP hit fun _ _ z => z.sk kk) ⟨t, l, r, rfl, kl _ _ upd_same rfl, kl _ _ (et _ _ (e4 _ _ hl)) rfl, kl _ _ (et _ _ hr4) rfl⟩, by rw [List.length_append, List.length_singleton, hfl], fun g hg => ?_⟩
      rcases List.mem_append.mp hg with hg | hg
      · exact hsub g hg
      · rw [List.mem_singleton.mp hg]
        exact ⟨hls, hrs⟩
    · rintro σ H2 ⟨z1, z2, items, fs, rfl, e2, hq2, hit, hfl, hsub⟩
      exact ⟨_, rfl, k q items fs H2 e2 hq hq2 hit (by omega) hsub⟩
end
end K9

set_option maxHeartbeats 4000000
/-! Walks: the law's own defs: cells, rows_of. -/
namespace K9
open PySem L2
section
variable {w : World} {K : PySem.W.Frag} {mg : Str → Option Value} {base : Heap} {f : Addr} {fd : FuncData}
def spLCells (K : PySem.W.Frag) : Sp := fun vs H Q _ => ∃ (a : Addr) (xs : List Int) (n : Nat), vs = [.ref a, .int 8, .int n, .int 10, .int 2] ∧ SqL K H a (xs.map V.int) ∧ xs.length = 20 ∧ n ≤ 4 ∧
  ∀ (q : Addr) (items : List V) (rs : List Row) (H' : Hp), Ext H H' → H q = none → H' q = some (.lst items) → Rows H' items rs → rs.length ≤ 10 → WfRows n rs → Q (.ref q) H'
abbrev nLc : List Str := ["_law_numbers_here", "_law_place", "_law_count", "_law_most", "_law_values", "_law_worths", "_law_rows", "_law_k", "_law_number", "_law_row", "_law_j"]
theorem scLCells : FnScope nLc ["_law_numbers_here", "_law_place", "_law_count", "_law_most", "_law_values"] (defScope sLCells) := ⟨rfl, rfl, rfl, by decide +kernel, rfl, by decide +kernel, by decide +kernel⟩
theorem ok_lcells (F : FnP K "_law_cells" "_law_cells" sLCells f fd) (Z : E9 K mg) : FnOk prog w K mg base CX0 1 f fd ["_law_numbers_here", "_law_place", "_law_count", "_law_most", "_law_values"] (spLCells K) := by
  refine F.ok scLCells (fun vs H Q E h => ?_) (fun cdv A outer s H vs Q E hr h => ?_)
  · obtain ⟨a, xs, n, rfl, _⟩ := h
    rfl
  · obtain ⟨a, xs, n, rfl, hS, hx, hn, k⟩ := h
    have hat : ∀ j : Nat, j < 20 → atI (xs.map V.int) (j : Int) = some (.int (xs.getD j 0)) := fun j hj => atI_nat (by
      have : j < xs.length := by omega
      simp [this])
    refine ⟨_, PSs.nox (pss_cons (ps_set (i := 5) scLCells.nd rfl (Or.inl rfl) (pe_ix ix_list (pe_lst (pa_cons (pe_lst (pa_cons pe_int (pa_cons pe_int (pa_cons pe_int pa_nil)))) (pa_cons (pe_lst (pa_cons (pe_un un_neg pe_int) (pa_cons pe_int (pa_cons (pe_op op_pow pe_int pe_int) pa_nil)))) (pa_cons (pe_lst (pa_cons (pe_op op_mod (pe_op op_fdiv (pe_ix ix_list (pv 0) pe_int (fun _ _ => rfl)) pe_int) pe_int) (pa_cons (pe_un un_neg pe_int) (pa_cons pe_int pa_nil)))) pa_nil)))) (pe_op op_mod (pe_op op_fdiv (pe_ix ix_list (pv 0) pe_int (fun _ _ => rfl)) pe_int) pe_int) (fun _ _ => rfl)))
      (pss_cons (ps_set (i := 6) scLCells.nd rfl (Or.inl rfl) (pe_lst pa_nil))
      (pss_cons (ps_for PassesOwn.never rfl (pi_range1 (by rfl) Z.rng (pa_cons (pe_op op_mod (pe_ix ix_list (pv 0) (pv 1) (fun _ _ => rfl)) (pe_op op_add (pv 3) pe_int)) pa_nil)) (pg_name (i := 7) scLCells.nd rfl (Or.inl rfl))
        (pss_cons (ps_set (i := 8) scLCells.nd rfl (Or.inl rfl) (pe_ix ix_list (pv 0) (pe_op op_add (pe_op op_add (pv 1) pe_int) (pv 7)) (fun _ _ => rfl)))
        (pss_cons (ps_set (i := 9) scLCells.nd rfl (Or.inl rfl) (pe_lst pa_nil))
        (pss_cons (ps_for PassesOwn.never rfl (pi_range1 (by rfl) Z.rng (pa_cons (pv 2) pa_nil)) (pg_name (i := 10) scLCells.nd rfl (Or.inl rfl))
          (pss_cons (ps_expr (pe_bm PySem.F.plainAttrs_list PySem.F.slot_list_append PySem.F.type_list_append mt_append (pv 9) (pa_cons (pe_ix ix_list (pv 5) (pe_op op_mod (pv 8) (pv 4)) (fun _ _ => rfl)) pa_nil)))
          (pss_one (ps_set (i := 8) scLCells.nd rfl (Or.inl rfl) (pe_op op_fdiv (pv 8) (pv 4))))))
        (pss_one (ps_expr (pe_bm PySem.F.plainAttrs_list PySem.F.slot_list_append PySem.F.type_list_append mt_append (pv 6) (pa_cons (pe_tupleOf (by rfl) Z.tup (pv 9)) pa_nil))))))))
      (pss_one (ps_ret (pv 6)))))), ?_⟩
    -- the worths
    refine ⟨by decide, fun l1 h1 => ⟨_, rfl, _, _, rfl, rfl, ⟨by decide, by decide, by decide⟩, by show 3 ≤ sizeLine; decide, fun l2 h2 => ?_⟩⟩
    have e2 := (Ext.upd (o := HO.lst [V.int 0, V.int 1, V.int 2]) h1).trans (Ext.upd (o := HO.lst [V.int (-1), V.int 0, V.int (10 ^ (30 : Int).toNat)]) h2)
    refine ⟨_, rfl, a, _, (0 : Nat), _, rfl, rfl, hS.ext e2, hat 0 (by decide), _, _, rfl, rfl, ⟨by decide, by decide⟩, _, _, rfl, rfl, (by show (0 : Int) < 1200; decide), _, rfl, by show 3 ≤ sizeLine; decide, fun l3 h3 => ?_⟩
    refine ⟨by show 3 ≤ sizeLine; decide, fun l4 h4 => ?_⟩
    have e3 := e2.trans (Ext.upd (o := HO.lst [V.int (xs.getD 0 0 / 256 % 1200), V.int (-3), V.int 100]) h3)
    have e4 := e3.trans (Ext.upd (o := HO.lst [V.ref l1, V.ref l2, V.ref l3]) h4)
    have b0 := Int.emod_nonneg (xs.getD 0 0 / 64) (show (3 : Int) ≠ 0 by decide)
    have b1 := Int.emod_lt_of_pos (xs.getD 0 0 / 64) (show (0 : Int) < 3 by decide)
    have hw : ∃ (lw : Addr) (w0 w1 w2 : Int), atI [V.ref l1, V.ref l2, V.ref l3] (xs.getD 0 0 / 64 % 3) = some (.ref lw) ∧ upd (upd (upd (upd H l1 (.lst [V.int 0, V.int 1, V.int 2])) l2 (.lst [V.int (-1), V.int 0, V.int (10 ^ (30 : Int).toNat)])) l3 (.lst [V.int (xs.getD 0 0 / 256 % 1200), V.int (-3), V.int 100])) l4 (.lst [V.ref l1, V.ref l2, V.ref l3]) lw = some (.lst [V.int w0, V.int w1, V.int w2]) := by
      have f3 := Ext.upd (o := HO.lst [V.ref l1, V.ref l2, V.ref l3]) h4
      have f2 := Ext.trans (Ext.upd (o := HO.lst [V.int (xs.getD 0 0 / 256 % 1200), V.int (-3), V.int 100]) h3) f3
      have f1 := Ext.trans (Ext.upd (o := HO.lst [V.int (-1), V.int 0, V.int (10 ^ (30 : Int).toNat)]) h2) f2
      have hc : xs.getD 0 0 / 64 % 3 = 0 ∨ xs.getD 0 0 / 64 % 3 = 1 ∨ xs.getD 0 0 / 64 % 3 = 2 := by omega
      rcases hc with e | e | e <;> rw [e]
      · exact ⟨l1, _, _, _, rfl, f1 _ _ upd_same⟩
      · exact ⟨l2, _, _, _, rfl, f2 _ _ upd_same⟩
      · exact ⟨l3, _, _, _, rfl, f3 _ _ upd_same⟩
    obtain ⟨lw, w0, w1, w2, hwi, hwl⟩ := hw
    refine ⟨_, rfl, a, _, (0 : Nat), _, rfl, rfl, hS.ext e4, hat 0 (by decide), _, _, rfl, rfl, ⟨by decide, by decide⟩, _, _, rfl, rfl, (by show (0 : Int) < 3; decide), l4, _, _, _, rfl, rfl, SqL.of upd_same, hwi, ?_⟩
    generalize upd (upd (upd (upd H l1 (.lst [V.int 0, V.int 1, V.int 2])) l2 (.lst [V.int (-1), V.int 0, V.int (10 ^ (30 : Int).toNat)])) l3 (.lst [V.int (xs.getD 0 0 / 256 % 1200), V.int (-3), V.int 100])) l4 (.lst [V.ref l1, V.ref l2, V.ref l3]) = H4 at e4 hwl ⊢
    refine ⟨by decide, fun q hq => ?_⟩
    have e5 : Ext H4 (upd H4 q (.lst [])) := Ext.upd hq
    have hqH : H q = none := Ext.free e4 hq
    refine ⟨_, rfl, _, rfl, a, _, (8 : Nat), _, rfl, rfl, (hS.ext e4).ext e5, hat 8 (by decide), _, rfl, _, _, rfl, rfl, _, _, rfl, rfl, (by show (0 : Int) < 11; decide), _, rfl, ?_⟩
    have b2 := Int.emod_nonneg (xs.getD 8 0) (show (11 : Int) ≠ 0 by decide)
    have b3 := Int.emod_lt_of_pos (xs.getD 8 0) (show (0 : Int) < 11 by decide)
    show _ ∧ _ ∧ _
    have e11 : (10 : Int) + 1 = 11 := by decide
    rw [e11]
    refine ⟨by omega, by omega, ?_⟩
    refine for_range (lo := 0) (n := (xs.getD 8 0 % 11).toNat) (fun i σ H5 => ∃ (z1 z2 z3 z4 : Option V) (items : List V) (rs : List Row), σ = [some (.ref a), some (.int 8), some (.int n), some (.int 10), some (.int 2), some (.ref lw), some (.ref q), z1, z2, z3, z4] ∧ Ext H4 H5 ∧ H5 q = some (.lst items) ∧ Rows H5 items rs ∧ rs.length = i ∧ WfRows n rs)
      ⟨_, _, _, _, [], [], rfl, e5, upd_same, .nil, rfl, fun g hg => by cases hg⟩ ?_ ?_
    · rintro i σ H5 hi ⟨z1, z2, z3, z4, items, rs, rfl, e6, hq5, hit, hrl, hwf⟩
      have hix : atI (xs.map V.int) ((8 : Int) + 1 + (0 + (i : Int))) = some (.int (xs.getD (9 + i) 0)) := by
        rw [show (8 : Int) + 1 + (0 + (i : Int)) = ((9 + i : Nat) : Int) by omega]
        exact hat _ (by omega)
      refine ⟨_, rfl, _, rfl, _, _, rfl, rfl, _, rfl, _, _, rfl, rfl, a, _, _, _, rfl, rfl, (hS.ext e4).ext e6, hix, ?_⟩
      refine ⟨by decide, fun R hR => ?_⟩
      have eR : Ext H5 (upd H5 R (.lst [])) := Ext.upd hR
      have nqR : q ≠ R := ne_of_none hq5 hR
      refine ⟨_, rfl, n, rfl, by omega, by omega, ?_⟩
      rw [Int.toNat_natCast]
      refine for_range (lo := 0) (n := n) (fun j σ H6 => ∃ (z : Int) (z4 : Option V) (row : Row), σ = [some (.ref a), some (.int 8), some (.int n), some (.int 10), some (.int 2), some (.ref lw), some (.ref q), some (.int (0 + i)), some (.int z), some (.ref R), z4] ∧ Ext H5 H6 ∧ H6 R = some (.lst (row.map V.int)) ∧ row.length = j)
        ⟨_, _, [], rfl, eR, upd_same, rfl⟩ ?_ ?_
      · rintro j σ H6 hj ⟨z, z4, row, rfl, e7, hR6, hrow⟩
        have c0 := Int.emod_nonneg z (show (2 : Int) ≠ 0 by decide)
        have c1 := Int.emod_lt_of_pos z (show (0 : Int) < 2 by decide)
        obtain ⟨v, hv⟩ : ∃ v : Int, atI [V.int w0, V.int w1, V.int w2] (z % 2) = some (.int v) := by
          have hc : z % 2 = 0 ∨ z % 2 = 1 := by omega
          rcases hc with e | e <;> rw [e]
          · exact ⟨w0, rfl⟩
          · exact ⟨w1, rfl⟩
        refine ⟨_, rfl, .inl ⟨rfl, _, SqL.of hR6⟩, _, rfl, _, rfl, _, rfl, _, _, rfl, rfl, (by show (0 : Int) < 2; decide), lw, _, _, _, rfl, rfl, SqL.of (e7 _ _ (e6 _ _ hwl)), hv, R, _, _, rfl, rfl, hR6, by rw [List.length_map]; exact small1000 (by omega), ?_⟩
        exact ⟨_, rfl, _, rfl, _, _, rfl, rfl, ⟨by decide, by decide⟩, _, _, row ++ [v], rfl, Ext.set e7 hR, by rw [upd_same, List.map_append]; rfl, by rw [List.length_append, List.length_singleton, hrow]⟩
      · rintro σ H6 ⟨z, z4, row, rfl, e7, hR6, hrow⟩
        have hq6 := e7 _ _ hq5
        refine ⟨_, rfl, .inl ⟨rfl, _, SqL.of hq6⟩, _, rfl, .inl ⟨R, _, rfl, SqL.of hR6, fun t ht => ?_⟩⟩
        have et : Ext H6 (upd H6 t (.tup (row.map V.int))) := Ext.upd ht
        have hil := Paired.length hit
        refine ⟨q, items, _, rfl, rfl, et _ _ hq6, small1000 (by omega), ?_⟩
        have kk : SK H5 (upd (upd H6 t (.tup (row.map V.int))) q (.lst (items ++ [V.ref t]))) := (SK.ext (Ext.trans e7 et)).trans (SK.lst (et _ _ hq6))
        refine ⟨_, _, _, _, _, rs ++ [row], rfl, Ext.set (Ext.trans e6 (Ext.trans e7 et)) hq, upd_same, K9.Paired.snoc' (hit.sk kk) ⟨t, rfl, SK.lst (et _ _ hq6) _ _ upd_same rfl⟩, by rw [List.length_append, List.length_singleton, hrl], fun r hr => ?_⟩
        rcases List.mem_append.mp hr with hr | hr
        · exact hwf r hr
        · rw [List.mem_singleton.mp hr]
          exact hrow
    · rintro σ H5 ⟨z1, z2, z3, z4, items, rs, rfl, e6, hq5, hit, hrl, hwf⟩
      exact ⟨_, rfl, k q items rs H5 (e4.trans e6) hqH hq5 hit (by omega) hwf⟩
/-! ### rows_of -/
def spRowsOf (K : PySem.W.Frag) : Sp := fun vs H Q _ => ∃ (a : Addr) (items : List V) (rs : List Row), vs = [.ref a] ∧ SqL K H a items ∧ Rows H items rs ∧ (∀ r ∈ rs, r ≠ []) ∧ rs.length ≤ 60 ∧
  ∀ (t : Addr) (xs : List V) (ss : List Row) (H' : Hp), Ext H H' → H' t = some (.tup xs) → Rows H' xs ss → (∀ r, r ∈ ss ↔ r ∈ rs) → ss.length ≤ rs.length → Q (.ref t) H'
abbrev nRo : List Str := ["_law_cells_here", "_law_found", "_law_row"]
theorem scRowsOf : FnScope nRo ["_law_cells_here"] (defScope sRowsOf) := ⟨rfl, rfl, rfl, by decide +kernel, rfl, by decide +kernel, by decide +kernel⟩
theorem ok_rowsOf (F : FnP K "_law_rows_of" "_law_rows_of" sRowsOf f fd) (Z : E9 K mg) : FnOk prog w K mg base CX0 1 f fd ["_law_cells_here"] (spRowsOf K) := by
  refine F.ok scRowsOf (fun vs H Q E h => ?_) (fun cdv A outer s H vs Q E hr h => ?_)
  · obtain ⟨a, items, rs, rfl, _⟩ := h
    rfl
  · obtain ⟨a, items, rs, rfl, hS, hit, hne, hl, k⟩ := h
    obtain ⟨ks, rfl, rfl, hks⟩ := pairs_of hit
    refine ⟨_, PSs.nox (pss_cons (ps_set (i := 1) scRowsOf.nd rfl (Or.inl rfl) (pe_lst pa_nil))
      (pss_cons (ps_for PassesOwn.never rfl (pi_list (pe_callB (cr_sortD (ref := fun b : Addr × List Int => V.ref b.1) (enc := fun b : Addr × List Int => dRow b.2) hr (fun b b' => alike_row b.2 b'.2)) (by rfl) Z.srt (by decide +kernel) (pa_cons (pv 0) pa_nil))) (pg_name (i := 2) scRowsOf.nd rfl (Or.inl rfl))
        (pss_one (ps_if (PW.pt (pw_or (pt_cmpR op_eq (pe_callB call_len (by rfl) Z.len PySem.boot_len (pa_cons (pv 1) pa_nil)) pe_int (nomark _)) (pw_or1 (pt_cmpR (op_neD hr.units) (pe_ix ix_list (pv 1) (pe_un un_neg pe_int) (fun _ _ => rfl)) (pv 2) (nomark _)))))
          (pss_one (ps_expr (pe_bm PySem.F.plainAttrs_list PySem.F.slot_list_append PySem.F.type_list_append mt_append (pv 1) (pa_cons (pv 2) pa_nil)))) pss_nil)))
      (pss_one (ps_ret (pe_tupleOf (by rfl) Z.tup (pv 1)))))), ?_⟩
    refine ⟨by decide, fun F0 hF => ?_⟩
    have e1 : Ext H (upd H F0 (.lst [])) := Ext.upd hF
    refine ⟨_, rfl, a, ks, rfl, hS.ext e1, fun b hb => IsRow.dp ⟨b.1, rfl, e1 _ _ (hks b hb)⟩, sortable_rows (fun b : Addr × List Int => b.2) fun b hb => hne _ (List.mem_map_of_mem hb), fun b hb => ?_, fun q hq => ?_⟩
    · have := depth_row b.2
      show (dRow b.2).depth ≤ 8
      omega
    have pm := List.mergeSort_perm ks (PySem.W.dataLe false fun b : Addr × List Int => dRow b.2)
    generalize ks.mergeSort (PySem.W.dataLe false fun b : Addr × List Int => dRow b.2) = ks2 at pm ⊢
    have hlk : ks2.length ≤ 60 := by rw [pm.length_eq]; simpa using hl
    have eq2 : Ext (upd H F0 (.lst [])) (upd (upd H F0 (.lst [])) q (.lst (ks2.map fun b => V.ref b.1))) := Ext.upd hq
    have e2 := Ext.trans e1 eq2
    have nqF : q ≠ F0 := (ne_of_none (upd_same (H := H) (a := F0)) hq).symm
    refine ⟨q, rfl, ⟨_, SqL.of upd_same⟩, ?_⟩
    refine for_list (K := K) (a := q) (xs := ks2.map fun b : Addr × List Int => V.ref b.1) (fun i σ H3 => ∃ (z : Option V) (fk : List (Addr × List Int)), σ = [some (.ref a), some (.ref F0), z] ∧ SK H H3 ∧ Ext H H3 ∧ H3 q = some (.lst (ks2.map fun b => V.ref b.1)) ∧ H3 F0 = some (.lst (fk.map fun b => V.ref b.1)) ∧ (∀ p ∈ fk, p ∈ ks2) ∧ (∀ r, r ∈ fk.map (·.2) ↔ r ∈ (ks2.take i).map (·.2)) ∧ fk.length ≤ i)
      ⟨_, [], rfl, SK.ext e2, e2, upd_same, eq2 _ _ upd_same, (fun p hp => by cases hp), fun r => Iff.rfl, Nat.le_refl _⟩ (fun i σ H3 _ q => ?_) ?_ ?_
    · obtain ⟨_, _, _, _, _, h, _⟩ := q
      exact SqL.of h
    · rintro i y σ H3 hy ⟨z, fk, rfl, sk3, e3, hq3, hF3, hsub, hmem, hfl⟩
      obtain ⟨b, rfl, hb⟩ : ∃ b, y = V.ref b.1 ∧ ks2[i]? = some b := by
        rw [List.getElem?_map] at hy
        cases e : ks2[i]? with
        | none => rw [e] at hy; cases hy
        | some z => rw [e] at hy; exact ⟨z, (Option.some.inj hy).symm, rfl⟩
      have hbm := List.mem_of_getElem? hb
      have hbt : H3 b.1 = some (.tup (b.2.map V.int)) := e3 _ _ (hks b (pm.mem_iff.mp hbm))
      have hil := (List.getElem?_eq_some_iff.mp hb).1
      have app : ∃ (fk' : List (Addr × List Int)), upd H3 F0 (.lst (fk.map (fun b => V.ref b.1) ++ [V.ref b.1])) F0 = some (.lst (fk'.map fun b => V.ref b.1)) ∧ (∀ p ∈ fk', p ∈ ks2) ∧ (∀ r, r ∈ fk'.map (·.2) ↔ r ∈ (ks2.take (i + 1)).map (·.2)) ∧ fk'.length ≤ i + 1 := by
        refine ⟨fk ++ [b], by rw [upd_same, List.map_append]; rfl, fun p hp => ?_, fun r => ?_, by rw [List.length_append, List.length_singleton]; omega⟩
        · rcases List.mem_append.mp hp with hp | hp
          · exact hsub p hp
          · rw [List.mem_singleton.mp hp]
            exact hbm
        · rw [take_snoc hb, List.map_append, List.map_append, List.mem_append, List.mem_append, hmem]
      obtain ⟨fk', a1, a2, a3, a4⟩ := app
      refine ⟨_, rfl, _, _, rfl, .inl ⟨_, SqL.of hF3, rfl⟩, rfl, _, rfl, ?_⟩
      rw [List.length_map]
      cases hfk : fk with
      | nil =>
        rw [hfk] at hF3 a1
        refine iteT ?_
        refine iteT ?_
        refine ⟨_, rfl, .inl ⟨rfl, _, SqL.of hF3⟩, _, rfl, F0, _, _, rfl, rfl, hF3, by decide, ?_⟩
        exact ⟨_, fk', rfl, sk3.trans (SK.lst hF3), Ext.set e3 hF, by rw [upd_ne nqF]; exact hq3, a1, a2, a3, a4⟩
      | cons c0 fk0 =>
        rw [← hfk]
        have hpos : 0 < fk.length := by rw [hfk]; simp
        rw [decide_eq_false (show ¬ V.int (fk.length : Nat) = V.int 0 from fun z => by injection z with z; omega)]
        refine iteF ?_
        obtain ⟨fi, la, hla⟩ : ∃ fi la, fk = fi ++ [la] := ⟨fk.dropLast, fk.getLast (by rw [hfk]; simp), (List.dropLast_concat_getLast (by rw [hfk]; simp)).symm⟩
        have hlam : la ∈ ks2 := hsub la (by rw [hla]; simp)
        have hlat : H3 la.1 = some (.tup (la.2.map V.int)) := e3 _ _ (hks la (pm.mem_iff.mp hlam))
        have hil1 : atI (fk.map fun b => V.ref b.1) (-1) = some (V.ref la.1) := by
          rw [hla, List.map_append]
          exact atI_last _ _
        refine ⟨_, rfl, _, rfl, F0, _, _, _, rfl, rfl, SqL.of hF3, hil1, _, rfl, dRow la.2, dRow b.2, IsRow.dp ⟨la.1, rfl, hlat⟩, IsRow.dp ⟨b.1, rfl, hbt⟩, shaped_row _, shaped_row _, ?_⟩
        rw [eqv_row]
        refine ⟨_, rfl, ?_⟩
        by_cases he : la.2 = b.2
        · rw [decide_eq_true he]
          refine iteF ?_
          refine ⟨_, fk, rfl, sk3, e3, hq3, hF3, hsub, fun r => ?_, by omega⟩
          rw [hmem, take_snoc hb, List.map_append, List.mem_append]
          constructor
          · exact .inl
          · rintro (h | h)
            · exact h
            · have : r = b.2 := by simpa using h
              rw [this, ← he, ← hmem]
              exact List.mem_map_of_mem (by rw [hla]; simp)
        · rw [decide_eq_false he]
          refine iteT ?_
          refine ⟨_, rfl, .inl ⟨rfl, _, SqL.of hF3⟩, _, rfl, F0, _, _, rfl, rfl, hF3, by rw [List.length_map]; exact small1000 (by omega), ?_⟩
          exact ⟨_, fk', rfl, sk3.trans (SK.lst hF3), Ext.set e3 hF, by rw [upd_ne nqF]; exact hq3, a1, a2, a3, a4⟩
    · rintro σ H3 ⟨z, fk, rfl, sk3, e3, hq3, hF3, hsub, hmem, hfl⟩
      rw [List.length_map, List.take_length] at hmem
      refine ⟨_, rfl, .inl ⟨F0, _, rfl, SqL.of hF3, fun t ht => ?_⟩⟩
      have et : Ext H3 (upd H3 t (.tup (fk.map fun b => V.ref b.1))) := Ext.upd ht
      refine k t _ (fk.map (·.2)) _ (Ext.trans e3 et) upd_same (of_pairs fun p hp => et _ _ (e3 _ _ (hks p (pm.mem_iff.mp (hsub p hp))))) (fun r => ?_) ?_
      · rw [hmem]
        exact (pm.map _).mem_iff
      · rw [List.length_map] at hfl ⊢
        rw [List.length_map, ← pm.length_eq]
        exact hfl
end
end K9

set_option maxHeartbeats 4000000
/-! Rules: != of two lists of one own object each, in a list of own objects. -/
namespace K9
open PySem PySem.SeqAt
open AutoSeq1 (wpAny_loadPart')
open MeetsSeq MeetsSeq2 MeetsSeq3 SeqRoads2
section
variable {P : Program} {w : World} {A : Around} {R : Result → Shared → Prop}
/-- the walk over two lists, told to say !=, past the one item -/
theorem ne_end {a b : Addr} {x y : Value} {n m : Nat} {s : Shared} (ha : s.heap.get? a = some { cls := .type "list", data := .seq #[x] n }) (hb : s.heap.get? b = some { cls := .type "list", data := .seq #[y] m }) (q : R (.ok (.ret (.bool false))) s) :
    wpAny (model P w) A.in1 (Builtin.«list.__eq__.loop» ⟨[.ref a, .ref b, rawInt 1, rawInt 3], []⟩) (GQ.FinOf P w A R) (fun e s' => R (.error e) s') s := by
  obtain ⟨h, g, d, t, os⟩ := s
  wp_walk using wpAny_loadPart' ha, wpAny_loadPart' hb
  exact q
theorem ne_begin {a b : Addr} {x y : Value} {xs ys : Array Value} {n m : Nat} {s : Shared} (I : Shared → Prop) (ex : xs = #[x]) (ey : ys = #[y]) (ha : s.heap.get? a = some { cls := .type "list", data := .seq xs n }) (hb : s.heap.get? b = some { cls := .type "list", data := .seq ys m })
    (turn : wpAny (model P w) A.in1 (eqBool x y) (fun r s' => r = true ∧ I s') (fun e s' => R (.error e) s') s)
    (stay : ∀ s', I s' → ∃ n m, s'.heap.get? a = some { cls := .type "list", data := .seq #[x] n } ∧ s'.heap.get? b = some { cls := .type "list", data := .seq #[y] m }) (q : ∀ s', I s' → R (.ok (.ret (.bool false))) s') :
    wpAny (model P w) A.in1 (Builtin.«list.__eq__.loop» ⟨[.ref a, .ref b, rawInt 0, rawInt 3], []⟩) (GQ.FinOf P w A R) (fun e s' => R (.error e) s') s := by
  obtain ⟨h, g, d, t, os⟩ := s
  have i1 : xs[(0 : Int).toNat]? = some x := by rw [ex]; rfl
  have i2 : ys[(0 : Int).toNat]? = some y := by rw [ey]; rfl
  wp_walk using wpAny_loadPart' ha, wpAny_loadPart' hb
  rw [i1, i2]
  refine wpAny_bind (wpAny_mono turn (fun r s2 z => ?_) fun _ _ z => z)
  obtain ⟨rfl, z⟩ := z
  obtain ⟨n2, m2, ha2, hb2⟩ := stay s2 z
  have z2 := q s2 z
  obtain ⟨h2, g2, d2, t2, os2⟩ := s2
  wp_walk
  exact ⟨plainId_quiet plain_eq_loop _, codeAny_builtin entry_eq_loop (by
    rw [Around.under_plainId plain_eq_loop _]
    exact ne_end ha2 hb2 z2)⟩
theorem ne_one {a b : Addr} {x y : Value} {xs ys : Array Value} {n m : Nat} {s : Shared} (I : Shared → Prop) (ex : xs = #[x]) (ey : ys = #[y]) (ha : s.heap.get? a = some { cls := .type "list", data := .seq xs n }) (hb : s.heap.get? b = some { cls := .type "list", data := .seq ys m })
    (turn : wpAny (model P w) A.in1 (eqBool x y) (fun r s' => r = true ∧ I s') (fun e s' => R (.error e) s') s)
    (stay : ∀ s', I s' → ∃ n m, s'.heap.get? a = some { cls := .type "list", data := .seq #[x] n } ∧ s'.heap.get? b = some { cls := .type "list", data := .seq #[y] m }) (q : ∀ s', I s' → R (.ok (.ret (.bool false))) s') :
    wpAny (model P w) A.in1 (Builtin.«list.__ne__» ⟨[.ref a, .ref b], []⟩) (GQ.FinOf P w A R) (fun e s' => R (.error e) s') s := by
  have rec1 := ne_begin (R := R) (A := A) (P := P) (w := w) I ex ey ha hb turn stay q
  obtain ⟨h, g, d, t, os⟩ := s
  have f3 := AutoSeq1.sub_list_list
  have same : ¬ (xs.size != ys.size) = true := by rw [ex, ey]; simp
  wp_walk using wpAny_loadPart' ha, wpAny_loadPart' hb
  exact ⟨plainId_quiet plain_eq_loop _, codeAny_builtin entry_eq_loop (by
    rw [Around.under_plainId plain_eq_loop _]
    exact rec1)⟩
/-- a list's own in: at each place the answer of one == -/
theorem in_loop {a : Addr} {v : Value} {xs : Array Value} (I : Shared → Prop) (e : Nat → Bool) (stay : ∀ s', I s' → ∃ n, s'.heap.get? a = some { cls := .type "list", data := .seq xs n })
    (turn : ∀ (j : Nat) (hj : j < xs.size) s', I s' → wpAny (model P w) A.in1 (eqBool xs[j] v) (fun r s2 => r = e j ∧ I s2) (fun e s' => R (.error e) s') s') (k : Nat) :
    ∀ (i : Nat) (s : Shared), xs.size - i = k → I s → (∀ s' b, I s' → (b = true ↔ ∃ j, i ≤ j ∧ j < xs.size ∧ e j = true) → R (.ok (.ret (.bool b))) s') →
      wpAny (model P w) A.in1 (Builtin.«list.__contains__.loop» ⟨[.ref a, v, rawInt i], []⟩) (GQ.FinOf P w A R) (fun e s' => R (.error e) s') s := by
  induction k with
  | zero =>
    intro i s hk hI q
    obtain ⟨n, ha⟩ := stay s hI
    have q2 := q s false hI ⟨(fun z => nomatch z), fun z => by obtain ⟨j, h1, h2, _⟩ := z; omega⟩
    have no : xs[((i : Nat) : Int).toNat]? = none := by simp; omega
    obtain ⟨h, g, d, t, os⟩ := s
    wp_walk using wpAny_loadPart' ha
    rw [no]
    wp_walk
    exact q2
  | succ k ih =>
    intro i s hk hI q
    obtain ⟨n, ha⟩ := stay s hI
    have hi : i < xs.size := by omega
    have yes : xs[((i : Nat) : Int).toNat]? = some xs[i] := by simp [hi]
    have tu := turn i hi s hI
    obtain ⟨h, g, d, t, os⟩ := s
    wp_walk using wpAny_loadPart' ha
    rw [yes]
    refine wpAny_bind (wpAny_mono tu (fun r s2 z => ?_) fun _ _ z => z)
    obtain ⟨rfl, z⟩ := z
    cases hb : e i with
    | true =>
      have q2 := q s2 true z ⟨fun _ => ⟨i, Nat.le_refl _, hi, hb⟩, fun _ => rfl⟩
      obtain ⟨h2, g2, d2, t2, os2⟩ := s2
      wp_walk
      exact q2
    | false =>
      have nx := ih (i + 1) s2 (by omega) z fun s' b hs hb2 => q s' b hs (hb2.trans ⟨fun w => by
          obtain ⟨j, h1, h2, h3⟩ := w
          exact ⟨j, by omega, h2, h3⟩, fun w => by
          obtain ⟨j, h1, h2, h3⟩ := w
          have ne : i ≠ j := fun z => by
            subst z
            rw [hb] at h3
            cases h3
          exact ⟨j, by omega, h2, h3⟩⟩)
      have ec : ((i : Nat) : Int) + 1 = ((i + 1 : Nat) : Int) := by omega
      obtain ⟨h2, g2, d2, t2, os2⟩ := s2
      wp_walk
      rw [ec]
      exact ⟨plainId_quiet plain_contains_loop _, codeAny_builtin entry_contains_loop (by
        rw [Around.under_plainId plain_contains_loop _]
        exact nx)⟩
end
end K9
namespace K9
open PySem PySem.Spec PyProof.Rows L2
/-- == answers b -/
def EqB (X : Cx) (n : Nat) (B : Bool → V → V → Hp → Prop) : Prop :=
  ∀ (A : Around) (pins : List (Addr × Obj)) (s : Shared) (σ : L2.St) (H : Hp) (x y : V) (u v : Value) (b : Bool), Sub X n A → Inv X pins σ H s → RelV x u → RelV y v → B b x y H →
    wpAny (model X.prog X.w) A (eqBool u v) (fun r s' => r = b ∧ ∃ H', Inv X pins σ H' s' ∧ Ext H H') X.xe s
/-- two tables, b whether they are equal -/
def TabB2 (C : Addr) (b : Bool) (x y : V) (H : Hp) : Prop := ∃ (n : Nat) (p q : List Row), IsTab C H x n p ∧ IsTab C H y n q ∧ b = decide (p = q)
section
variable {X : Cx}
theorem tups_inj {H : Hp} : ∀ {vs : List V} {p q : List Row}, Rows H vs p → Rows H vs q → p = q
  | _, _, _, .nil, .nil => rfl
  | _, _, _, .cons h t, .cons h' t' => by
    obtain ⟨a, e, h1⟩ := h
    obtain ⟨a', e', h2⟩ := h'
    rw [e] at e'
    cases e'
    rw [h1] at h2
    injection h2 with h2
    injection h2 with h2
    rw [List.map_inj_right (fun _ _ z => by injection z)] at h2
    rw [h2, tups_inj t t']
theorem rcB_tab {f : Addr} {fd : FuncData} {ps : List Str} {n : Nat} (F : FnOk X.prog X.w X.K X.mg X.base C8.CX0 n f fd ps (spTabE X.K)) (hs : PySem.W.findIn X.K (.ref (aT X.K)) "__eq__" = some (some (.ref f))) (hf : PySem.W.isFn X.K (.ref f) = true) (hb : Binds X.K fd ps [])
    {A : Around} {pins : List (Addr × Obj)} {s : Shared} {σ : L2.St} {H : Hp} {a c : Addr} {m : Nat} {p q : List Row} (sb : Sub X n A) (I : Inv X pins σ H s) (tx : IsTab (aT X.K) H (.ref a) m p) (ty : IsTab (aT X.K) H (.ref c) m q) :
    wpAny (model X.prog X.w) A (richCompare .Eq (.ref a) (.ref c)) (fun r s' => r = .bool (decide (p = q)) ∧ ∃ H', Inv X pins σ H' s' ∧ Ext H H') X.xe s := by
  obtain ⟨_, dxa, _, _, ea, ha, _⟩ := id tx
  obtain ⟨_, dxc, _, _, ec, hc, _⟩ := id ty
  cases ea
  cases ec
  obtain ⟨mA, J1, _⟩ := ins_get I.hok ha
  obtain ⟨mB, J2, _⟩ := ins_get I.hok hc
  obtain ⟨o1, J1, _⟩ := J1.look
  obtain ⟨o2, J2, _⟩ := J2.look
  obtain ⟨fm, hfr⟩ := I.fr
  refine PySem.W.cmp_K (op := .Eq) (tb := .ref (aT X.K)) sb.room.units0 hfr I.ok.mod.kin J1 J2.type (by simp [PySem.W.notFirst]) hs hf ?_
  have asked : spTabE X.K [.ref a, .ref c] H (fun z H' => z = .bl (decide (p = q)) ∧ Ext H H') C8.E0 := ⟨_, _, m, p, q, rfl, tx, ty, rfl, Ext.rfl'⟩
  have env : Env0 X.prog X.w X.K X.mg X.base A X.stack s H := by
    have e := I.env0
    refine ⟨?_, e.mod, e.bs, e.bsz, e.funs, e.frf, e.hok, e.bare⟩
    rw [sb.fr]
    exact e.frames
  have both : Vals [V.ref a, V.ref c] [Value.ref a, Value.ref c] := .cons rfl (.cons rfl .nil)
  have cnt := F.len _ _ _ _ asked
  have bind0 := hb s [.ref a, .ref c] I.kIn (by simpa using cnt)
  rw [List.append_nil] at bind0
  refine wpAny_call (codeAny_mono (F.run A X.stack s H ⟨[.ref a, .ref c], []⟩ [.ref a, .ref c] [.ref a, .ref c] _ C8.E0 sb.room env bind0 both asked) fun r s' hq => ?_)
  cases r with
  | error e => exact (C8.pass0 (X := X) (E := C8.E0)) pins σ H s e s' I hq
  | ok fl =>
    cases fl with
    | ret w =>
      obtain ⟨z, H', I', rz, ez, ex⟩ := I.after hq
      subst ez
      obtain rfl : w = Value.bool (decide (p = q)) := rz
      exact ⟨rfl, H', I', ex⟩
    | next => exact False.elim hq
    | brk => exact False.elim hq
    | cont => exact False.elim hq
theorem eqB_tab {f : Addr} {fd : FuncData} {ps : List Str} {n : Nat} (F : FnOk X.prog X.w X.K X.mg X.base C8.CX0 n f fd ps (spTabE X.K)) (hs : PySem.W.findIn X.K (.ref (aT X.K)) "__eq__" = some (some (.ref f))) (hf : PySem.W.isFn X.K (.ref f) = true) (hb : Binds X.K fd ps []) : EqB X n (TabB2 (aT X.K)) := by
  intro A pins s σ H x y u v b sb I rx ry d
  obtain ⟨m, p, q, tx, ty, rfl⟩ := d
  obtain ⟨a, dxa, ca, ra, rfl, ha, hca, hra⟩ := id tx
  obtain ⟨c, dxc, cc, rc, rfl, hc, hcc, hrc⟩ := id ty
  obtain rfl : u = Value.ref a := rx
  obtain rfl : v = Value.ref c := ry
  by_cases hac : a = c
  · subst hac
    have epq : p = q := by
      rw [ha] at hc
      injection hc with hc
      injection hc with _ _ hc
      injection hc with _ hc
      injection hc with hc _
      injection hc with _ hc
      injection hc with hc
      subst hc
      obtain ⟨r1, xs1, e1, g1, w1⟩ := hra
      obtain ⟨r2, xs2, e2, g2, w2⟩ := hrc
      cases e1
      cases e2
      rw [g1] at g2
      cases g2
      exact tups_inj w1 w2
    rw [decide_eq_true epq]
    exact SeqAt.EqAt.same (A := A) (s := s) (.ref a) X.prog X.w X.xe _ ⟨rfl, H, I, Ext.rfl'⟩
  · refine GQ.eqBool_refG hac (wpAny_mono (rcB_tab F hs hf hb sb I tx ty) (fun r s' z => ?_) fun _ _ z => z)
    obtain ⟨hz, rest⟩ := z
    exact ⟨_, hz, rfl, rest⟩
/-- x == y, two tables -/
def rEqTab (C : Addr) : R2 := fun x y H Q => ∃ b, TabB2 C b x y H ∧ ∀ H', Ext H H' → Q (.bl b) H'
theorem op_eqTab {f : Addr} {fd : FuncData} {ps : List Str} {n : Nat} (F : FnOk X.prog X.w X.K X.mg X.base C8.CX0 n f fd ps (spTabE X.K)) (hs : PySem.W.findIn X.K (.ref (aT X.K)) "__eq__" = some (some (.ref f))) (hf : PySem.W.isFn X.K (.ref f) = true) (hb : Binds X.K fd ps []) (hr : Room n X.A) : OpR X (compareOp .Eq) (rEqTab (aT X.K)) := by
  intro pins s σ H x y v u Q I rx ry h
  obtain ⟨b, ⟨m, p, q, tx, ty, rfl⟩, k⟩ := h
  obtain ⟨a, _, _, _, rfl, _⟩ := id tx
  obtain ⟨c, _, _, _, rfl, _⟩ := id ty
  obtain rfl : v = Value.ref a := rx
  obtain rfl : u = Value.ref c := ry
  show wpAny (model X.prog X.w) X.A (richCompare .Eq (.ref a) (.ref c)) (EP X pins σ Q) X.xe s
  refine wpAny_mono (rcB_tab F hs hf hb ⟨hr, rfl⟩ I tx ty) (fun r s' z => ?_) fun _ _ z => z
  obtain ⟨rfl, H', I', e⟩ := z
  exact ⟨.bl _, H', I', rfl, k H' e⟩
/-- x != y, two lists of one table each, the two equal -/
def rNeTab (C : Addr) : R2 := fun x y H Q => ∃ (l b : Addr) (v u : V), x = .ref l ∧ y = .ref b ∧ H l = some (.lst [v]) ∧ H b = some (.lst [u]) ∧ TabB2 C true v u H ∧ ∀ H', Ext H H' → Q (.bl false) H'
theorem op_neTab {f : Addr} {fd : FuncData} {ps : List Str} {n : Nat} (F : FnOk X.prog X.w X.K X.mg X.base C8.CX0 n f fd ps (spTabE X.K)) (hs : PySem.W.findIn X.K (.ref (aT X.K)) "__eq__" = some (some (.ref f))) (hf : PySem.W.isFn X.K (.ref f) = true) (hb : Binds X.K fd ps []) (hr : Room (n + 1) X.A) : OpR X (compareOp .NotEq) (rNeTab (aT X.K)) := by
  intro pins s σ H x y v u Q I rx ry h
  obtain ⟨l, b, vl, vb, rfl, rfl, hl, hbb, d, k⟩ := h
  obtain rfl : v = Value.ref l := rx
  obtain rfl : u = Value.ref b := ry
  have sb : Sub X (n + 1) X.A := ⟨hr, rfl⟩
  have at_ : ∀ {s' : Shared}, (∃ H', Inv X pins σ H' s' ∧ Ext H H') → ∀ {c : Addr} {z : V}, H c = some (.lst [z]) → ∃ (u : Value) (m : Nat), RelV z u ∧ s'.heap.get? c = some { cls := .type "list", data := .seq #[u] m } := fun {s'} w {c z} hc => by
    obtain ⟨H', I', e⟩ := w
    obtain ⟨_, its, m, r, g⟩ := (show ObjOk X.prog X.w H' s'.heap c (.lst [z]) from I'.hok c _ (e _ _ hc))
    obtain ⟨u, rfl, ru⟩ := vals1 r
    exact ⟨u, m, ru, g⟩
  have I0 : ∃ H', Inv X pins σ H' s ∧ Ext H H' := ⟨H, I, Ext.rfl'⟩
  obtain ⟨x1, n1, r1, g1⟩ := at_ I0 hl
  obtain ⟨y1, m1, r2, g2⟩ := at_ I0 hbb
  have uniq : ∀ {z : V} {u1 u2 : Value}, (∃ a, z = .ref a) → RelV z u1 → RelV z u2 → u1 = u2 := fun {z u1 u2} h a1 a2 => by
    obtain ⟨a, rfl⟩ := h
    obtain rfl : u1 = Value.ref a := a1
    obtain rfl : u2 = Value.ref a := a2
    rfl
  have isr : (∃ a, vl = V.ref a) ∧ ∃ a, vb = V.ref a := by
    obtain ⟨_, _, _, ⟨a, _, _, _, ea, _⟩, ⟨c, _, _, _, ec, _⟩, _⟩ := d
    exact ⟨⟨a, ea⟩, ⟨c, ec⟩⟩
  show wpAny (model X.prog X.w) X.A (richCompare .NotEq (.ref l) (.ref b)) (EP X pins σ Q) X.xe s
  refine wpAny_richCompare_same_room (op := .NotEq) ⟨_, g1, rfl⟩ ⟨_, g2, rfl⟩ PySem.F.slot_list_ne (GQ.call_here PySem.F.slot_list_ne ⟨_, g1, rfl⟩ PySem.F.entry_list_ne (PySem.F.args_list_ne_2 _ _) ?_) sb.room.units0
  refine ne_one (R := wants (fun v s' => v ≠ .notImplemented ∧ EP X pins σ Q v s') X.xe) (fun s' => ∃ H', Inv X pins σ H' s' ∧ Ext H H') rfl rfl g1 g2 (eqB_tab F hs hf hb X.A.in1 pins s σ H vl vb x1 y1 true sb.in1 I r1 r2 d) (fun s' w => ?_) fun s' w => ?_
  · obtain ⟨x2, n2, r3, g3⟩ := at_ w hl
    obtain ⟨y2, m2, r4, g4⟩ := at_ w hbb
    rw [uniq isr.1 r1 r3, uniq isr.2 r2 r4]
    exact ⟨n2, m2, g3, g4⟩
  · obtain ⟨H', I', e⟩ := w
    exact ⟨(fun z => nomatch z), .bl false, H', I', rfl, k H' e⟩
theorem same_refs : ∀ {zs : List V} {us us2 : List Value}, (∀ z ∈ zs, ∃ a, z = V.ref a) → Vals zs us → Vals zs us2 → us = us2
  | _, _, _, _, .nil, .nil => rfl
  | _, _, _, h, .cons r1 t1, .cons r2 t2 => by
    obtain ⟨b, rfl⟩ := h _ List.mem_cons_self
    cases r1
    cases r2
    rw [same_refs (fun z hz => h z (List.mem_cons_of_mem _ hz)) t1 t2]
/-- x in ys, a list of tables; e j: whether the j-th equals x -/
def rInTab (C : Addr) : R2 := fun x y H Q => ∃ (l : Addr) (xs : List V) (e : Nat → Bool), y = .ref l ∧ H l = some (.lst xs) ∧ (∀ (j : Nat) (v : V), xs[j]? = some v → TabB2 C (e j) v x H) ∧ (∃ a, x = .ref a) ∧ ∀ H' b, Ext H H' → (b = true ↔ ∃ j, j < xs.length ∧ e j = true) → Q (.bl b) H'
theorem TabB2.ext {C : Addr} {b : Bool} {x y : V} {H H' : Hp} (h : TabB2 C b x y H) (e : Ext H H') : TabB2 C b x y H' := by
  obtain ⟨n, p, q, h1, h2, h3⟩ := h
  exact ⟨n, p, q, h1.sk (SK.ext e), h2.sk (SK.ext e), h3⟩
theorem op_inTab {f : Addr} {fd : FuncData} {ps : List Str} {n : Nat} (F : FnOk X.prog X.w X.K X.mg X.base C8.CX0 n f fd ps (spTabE X.K)) (hs : PySem.W.findIn X.K (.ref (aT X.K)) "__eq__" = some (some (.ref f))) (hf : PySem.W.isFn X.K (.ref f) = true) (hb : Binds X.K fd ps []) (hr : Room (n + 1) X.A) : OpR X (compareOp .In) (rInTab (aT X.K)) := by
  intro pins s σ H x y v u Q I rx ry h
  obtain ⟨l, xs, e, rfl, hl, hd, ⟨a, rfl⟩, k⟩ := h
  obtain rfl : v = Value.ref a := rx
  obtain rfl : u = Value.ref l := ry
  have sb : Sub X (n + 1) X.A := ⟨hr, rfl⟩
  have refs : ∀ z ∈ xs, ∃ a, z = V.ref a := fun z hz => by
    obtain ⟨j, hj⟩ := List.getElem?_of_mem hz
    obtain ⟨_, _, _, ⟨a, _, _, _, ea, _⟩, _⟩ := hd j z hj
    exact ⟨a, ea⟩
  obtain ⟨hz, its, m0, rv, g0⟩ := (show ObjOk X.prog X.w H s.heap l (.lst xs) from I.hok l _ hl)
  have same := @same_refs
  have hlen := rv.length
  show wpAny (model X.prog X.w) X.A (do return .bool (← contains (.ref l) (.ref a))) (EP X pins σ Q) X.xe s
  refine wpAny_bind (wpAny_contains_slot ⟨_, g0, rfl⟩ PySem.F.slot_list_contains (wpAny_mono (GQ.call_here (Q := fun v s' => ∃ b H', v = .bool b ∧ Inv X pins σ H' s' ∧ Ext H H' ∧ (b = true ↔ ∃ j, j < xs.length ∧ e j = true)) PySem.F.slot_list_contains ⟨_, g0, rfl⟩ PySem.F.entry_list_contains (PySem.F.args_list_contains_2 _ _) ?_) (fun v s' hv => ?_) fun _ _ e => e))
  · have lp := in_loop (R := wants (fun v s' => ∃ b H', v = .bool b ∧ Inv X pins σ H' s' ∧ Ext H H' ∧ (b = true ↔ ∃ j, j < xs.length ∧ e j = true)) X.xe) (P := X.prog) (w := X.w) (A := X.A) (a := l) (v := .ref a) (xs := its.toArray) (fun s' => ∃ H', Inv X pins σ H' s' ∧ Ext H H') e (fun s' w => ?_) (fun j hj s' w => ?_) _ 0 s rfl ⟨H, I, Ext.rfl'⟩ (fun s' b w hb2 => ?_)
    · obtain ⟨hp, g, d, tk, os⟩ := s
      wp_walk using AutoSeq1.wpAny_loadPart' g0
      exact ⟨plainId_quiet MeetsSeq.plain_contains_loop _, codeAny_builtin MeetsSeq.entry_contains_loop (by
        rw [Around.under_plainId MeetsSeq.plain_contains_loop _]
        exact lp)⟩
    · obtain ⟨H', I', ex⟩ := w
      obtain ⟨_, its2, m2, rv2, g2⟩ := (show ObjOk X.prog X.w H' s'.heap l (.lst xs) from I'.hok l _ (ex _ _ hl))
      rw [same refs rv rv2]
      exact ⟨m2, g2⟩
    · obtain ⟨H', I', ex⟩ := w
      have hj1 : j < its.length := by simpa using hj
      have hj2 : j < xs.length := by omega
      obtain ⟨u, hu, ru⟩ := rv.get (List.getElem?_eq_getElem hj2)
      have eu : its.toArray[j] = u := by
        rw [List.getElem?_eq_getElem hj1] at hu
        simpa using hu
      rw [eu]
      refine wpAny_mono (eqB_tab F hs hf hb X.A.in1 pins s' σ H' xs[j] (.ref a) u (.ref a) (e j) sb.in1 I' ru rfl ((hd j _ (List.getElem?_eq_getElem hj2)).ext ex)) (fun r s2 z => ?_) fun _ _ z => z
      obtain ⟨z1, H2, I2, ex2⟩ := z
      exact ⟨z1, H2, I2, Ext.trans ex ex2⟩
    · obtain ⟨H', I', ex⟩ := w
      refine ⟨b, H', rfl, I', ex, hb2.trans ⟨fun z => ?_, fun z => ?_⟩⟩
      · obtain ⟨j, _, h2, h3⟩ := z
        exact ⟨j, by simpa [hlen] using h2, h3⟩
      · obtain ⟨j, h2, h3⟩ := z
        exact ⟨j, Nat.zero_le _, by simpa [← hlen] using h2, h3⟩
  · obtain ⟨b, H', rfl, I', ex, hb2⟩ := hv
    exact wpAny_truthy_bool (wpAny_pure ⟨.bl b, H', I', rfl, k H' b ex hb2⟩)
end
end K9

set_option maxHeartbeats 4000000
/-! Plain: what the law asks of the rows of a store. A rule: a method call within a try. -/
namespace K9
open PySem L2
theorem nodup_len : ∀ {a b : List Row}, a.Nodup → (∀ x ∈ a, x ∈ b) → a.length ≤ b.length
  | [], _, _, _ => Nat.zero_le _
  | x :: a, b, nd, h => by
    rw [List.nodup_cons] at nd
    obtain ⟨b1, b2, rfl⟩ := List.append_of_mem (h x List.mem_cons_self)
    have := nodup_len (a := a) (b := b1 ++ b2) nd.2 fun y hy => by
      have hm := h y (List.mem_cons_of_mem _ hy)
      rcases List.mem_append.mp hm with hm | hm
      · exact List.mem_append_left _ hm
      · rcases List.mem_cons.mp hm with hm | hm
        · rw [hm] at hy
          exact absurd hy nd.1
        · exact List.mem_append_right _ hm
    rw [List.length_append] at this
    rw [List.length_cons, List.length_append, List.length_cons]
    omega
theorem asc_nodup {a : List Row} (h : a.Pairwise (· < ·)) : a.Nodup := h.imp fun z e => by
  rw [e] at z
  exact List.lt_irrefl _ z
theorem canon_len {a b : List Row} (h : Canon a b) : a.length ≤ b.length := nodup_len (asc_nodup h.1) fun x hx => (h.2 x).mp hx
theorem asc_sub : ∀ {b a : List Row}, a.Pairwise (· < ·) → b.Pairwise (· < ·) → (∀ x ∈ a, x ∈ b) → a.Sublist b
  | [], a, _, _, h => by
    cases a with
    | nil => exact List.Sublist.refl _
    | cons x a => cases h x List.mem_cons_self
  | y :: b, [], _, _, _ => List.nil_sublist _
  | y :: b, x :: a, ha, hb, h => by
    rw [List.pairwise_cons] at ha hb
    by_cases e : x = y
    · subst e
      refine (asc_sub ha.2 hb.2 fun z hz => ?_).cons_cons x
      rcases List.mem_cons.mp (h z (List.mem_cons_of_mem _ hz)) with q | q
      · rw [q] at hz
        exact absurd (ha.1 x hz) (List.lt_irrefl _)
      · exact q
    · refine (asc_sub (a := x :: a) (List.pairwise_cons.mpr ha) hb.2 fun z hz => ?_).cons y
      have hx : x ∈ b := by
        rcases List.mem_cons.mp (h x List.mem_cons_self) with q | q
        · exact absurd q e
        · exact q
      rcases List.mem_cons.mp (h z hz) with q | q
      · rw [q] at hz
        rcases List.mem_cons.mp hz with q2 | q2
        · exact absurd q2.symm e
        · exact absurd (ha.1 y q2) (List.lt_asymm (hb.1 x hx))
      · exact q
theorem hits_mono {fs : List Fdp} {S : List Row} {r x : Row} (h : hits fs S r = true) : hits fs (S ++ [x]) r = true := by
  unfold hits at h ⊢
  rw [List.any_append, h]
  rfl
theorem hits_iff {fs : List Fdp} {S : List Row} {r : Row} : hits fs S r = true ↔ ∃ s ∈ S, cfl fs r s = true := by
  unfold hits
  exact List.any_eq_true
theorem cfl_iff {fs : List Fdp} {a b : Row} : cfl fs a b = true ↔ ∃ g ∈ fs, brk g a b = true := by
  unfold cfl
  exact List.any_eq_true
theorem cfl_none {fs : List Fdp} {S : List Row} (h : ∀ g ∈ fs, ∀ a ∈ S, ∀ b ∈ S, brk g a b = false) : ∀ a ∈ S, ∀ b ∈ S, cfl fs a b = false := fun a ha b hb => by
  cases e : cfl fs a b with
  | false => rfl
  | true =>
    obtain ⟨g, hg, z⟩ := cfl_iff.mp e
    rw [h g hg a ha b hb] at z
    cases z
/-- how many of the dependencies the rows do not keep -/
def lost (fs : List Fdp) (rs : List Row) : Nat := (fs.filter fun g => !keepsR g rs).length
theorem lost_zero {fs : List Fdp} {rs : List Row} (h : ∀ g ∈ fs, ∀ a ∈ rs, ∀ b ∈ rs, brk g a b = false) : lost fs rs = 0 := by
  unfold lost
  rw [List.length_eq_zero_iff, List.filter_eq_nil_iff]
  intro g hg
  rw [keepsR_iff.mpr (h g hg)]
  simp
theorem lost_pos {fs : List Fdp} {rs S : List Row} {r : Row} (hc : Canon rs (S ++ [r])) (h : hits fs S r = true) : 0 < lost fs rs := by
  obtain ⟨s, hs, hc2⟩ := hits_iff.mp h
  obtain ⟨g, hg, hb⟩ := cfl_iff.mp hc2
  unfold lost
  refine List.length_pos_of_mem (a := g) (List.mem_filter.mpr ⟨hg, ?_⟩)
  rw [keepsR_false ((hc.2 r).mpr (List.mem_append_right _ (List.mem_singleton.mpr rfl))) ((hc.2 s).mpr (List.mem_append_left _ hs)) hb]
  rfl
theorem lost_snoc {fs : List Fdp} {rs : List Row} {g : Fdp} {i : Nat} (h : fs[i]? = some g) : lost (fs.take (i + 1)) rs = lost (fs.take i) rs + (if keepsR g rs = true then 0 else 1) := by
  unfold lost
  rw [take_snoc h, List.filter_append, List.length_append]
  cases e : keepsR g rs <;> simp [e]
/-- o.m(e, ..) where the method may raise, in a try -/
def tMethX (C : Addr) (m : Str) (sp : Sp) (E : L2.St → XK) (ta : TE) (t : TA) : TE := fun σ H Q => ta σ H fun x H1 => ∃ a dx fs, x = .ref a ∧ H1 a = some (.ins C dx fs) ∧ fs.lookup m = none ∧ t σ H1 fun vs H2 => sp (x :: vs) H2 Q (E σ)
theorem pe_methX {X : Cx} {CX : CXT} {k : Nat} {f C : Addr} {fd : FuncData} {ps : List Str} {sp : Sp} {E : L2.St → XK} {m : Str} {pos apos : Pos} {e o : Expr} {es : List Expr} {ta : TE} {t : TA} {pl : Sem Bool} (ho : PE X o ta) (c : Cls X.K C) (hm : Meth X.K C m f) (F : FnOk X.prog X.w X.K X.mg X.base CX k f fd ps sp) (hr : Room k X.A) (hb : Binds X.K fd ps [])
    (hx : ∀ σ, PassesAt CX X σ (E σ)) (ha : PA X (e :: es) t) (h1 : starEach (e :: es) X.env = (false, eval e X.env) :: starEach es X.env := by rfl) (h2 : (backTo pos (starEach es X.env)).any (·.1) = false := by rfl)
    (h3 : eval (.Call (.Attribute o m apos) (e :: es) [] pos) X.env = (do
      let rv ← eval o X.env
      standAt apos.atName
      let (fx, fr) ← holding [rv] (getMethod rv m pl)
      callWith pos fx fr (backTo pos (starEach (e :: es) X.env)) (backToKw pos (keywordEach [] X.env))) := by rfl) : PE X (.Call (.Attribute o m apos) (e :: es) [] pos) (tMethX C m sp E ta t) := by
  refine ⟨fun pins s σ H Q I h => PySem.W.methodCall_KW (pl := pl) (thn (ho.run pins s σ H _ I h) fun u s1 hh => ?_) h3⟩
  obtain ⟨x, H1, I1, rx, a, dx, fs, rfl, hat, hno, q⟩ := hh
  obtain rfl : u = Value.ref a := rx
  refine getmeth_ok I1 hat c hm hno (PySem.W.callWith_K (first := [.ref a]) (h₀ := X.base) I.ok.mod.kin hm.kp (thn (ha.run pos pins s1 σ H1 _ I1 q) fun us s2 gg => ?_) h1 h2)
  obtain ⟨vs, H2, I2, rs, q2⟩ := gg
  exact ⟨I2.kIn, run_fnS (us := .ref a :: us) (vs := .ref a :: vs) F hr hb (hx σ) I2 (.cons rfl rs) q2⟩
theorem pt_never {X : Cx} {e : Expr} : PT X e (fun _ _ _ => False) := ⟨fun _ _ _ _ _ _ h => h.elim⟩
theorem StoreAt.keep {K : PySem.W.Frag} {P : Addr} {H H' : Hp} {p : Addr} {fs : List Fdp} {S : List Row} {hd ch : Addr} {ds : List Addr} (T : StoreAt K H p fs S hd ch ds) (k : Keep P H H') : StoreAt K H' p fs S hd ch ds := by
  obtain ⟨dx, n, dp, ix, dvs, h1, h2, h3, h4, h5⟩ := T.ob
  obtain ⟨kvs, h6, h7⟩ := T.held
  obtain ⟨xs, h8, h9⟩ := T.chg
  have dt : ∀ {b : Addr} {kv : List (List L2.Key × V)}, H b = some (.dT kv) → H' b = some (.dT kv) := fun h => k.ext _ _ h fun ps z => by cases z
  exact ⟨⟨dx, n, dp, ix, dvs, k.sk _ _ h1 rfl, k.sk _ _ h2 rfl, h3.sk k.sk, k.lst h4, h5⟩, ⟨kvs, dt h6, h7⟩, T.len, fun i d g hi hg => let ⟨kv, a, b⟩ := T.idx i d g hi hg; ⟨kv, dt a, b.sk k.sk⟩, ⟨xs, k.lst h8, h9⟩, T.nd, T.nh⟩
/-- all but the objects at F stays -/
def FrF (F : List Addr) (H H' : Hp) : Prop := ∀ b o, H b = some o → b ∉ F → H' b = some o
theorem FrF.trans {F : List Addr} {H H1 H2 : Hp} (a : FrF F H H1) (b : FrF F H1 H2) : FrF F H H2 := fun c o h n => b c o (a c o h n) n
theorem FrF.ext {F : List Addr} {H H1 : Hp} (a : Ext H H1) : FrF F H H1 := fun c o h _ => a c o h
end K9

set_option maxHeartbeats 8000000
/-! The law. -/
namespace K9
open PySem L2
/-- what the law calls -/
structure Calls9 (w : World) (K : PySem.W.Frag) (mg : Str → Option Value) (base : Heap) (CB : Addr) : Prop where
  B : BrkU w K mg base CB
  bb : PySem.W.exmOne K (.ref CB) (.ref CB) = some true
  num : C8.Cal prog w K mg base 1 "_law_numbers" (spNumbers K) []
  fds : C8.Cal prog w K mg base 2 "_law_fds" (spFds K) []
  cells : C8.Cal prog w K mg base 1 "_law_cells" (spLCells K) []
  rowsOf : C8.Cal prog w K mg base 1 "_law_rows_of" (spRowsOf K) []
  mkF : C8.Mak prog w K mg base 2 "Fd" (aF K) (spFdI K) []
  mkS : C8.Mak prog w K mg base 1 "Store" (aS K) (spStoreI K) []
  mkT : C8.Mak prog w K mg base 1 "Table" (aT K) (spTabI K) []
  rowsM : C8.Met prog w K mg base 1 (aS K) "rows" (spRowsM K) []
  ins : ∃ (f : Addr) (fd : FuncData), Meth K (aS K) "insert" f ∧ FnOk prog w K mg base (L2.CX prog w) 3 f fd ["self", "row"] (spInsert K CB) ∧ Binds K fd ["self", "row"] []
  eq : ∃ (f : Addr) (fd : FuncData), FnOk prog w K mg base C8.CX0 1 f fd ["self", "other"] (spTabE K) ∧ PySem.W.findIn K (.ref (aT K)) "__eq__" = some (some (.ref f)) ∧ PySem.W.isFn K (.ref f) = true ∧ Binds K fd ["self", "other"] []
  keeps : C8.Cal prog w K mg base 3 "keeps" (spKeepsFd K) []
  confl : C8.Cal prog w K mg base 3 "conflicts" (spConfl K) []
  reps : C8.Cal prog w K mg base 4 "repairs" (spRepairs K) []
  wind : C8.Cal prog w K mg base 5 "window" (spWindow K) []
/-- try: body / except c: suite, by a name of its own -/
def tTryN (K : PySem.W.Frag) (c : Value) (ts : Addr → Value → Option Addr → TS) (Wout : WX) (tb : WX → TS) : TS := fun D σ H => tb (wOnly K c ts Wout D) D σ H
theorem ps_tryN {X : Cx} {x : Str} {c : Value} {body suite : List Stmt} {st0 : Stmt} {np pos pos' : Pos} {tb : WX → TS} {ts : Addr → Value → Option Addr → TS} {Wout : WX} (hs : X.stack = X.env :: X.outer) (hf : X.env.frame = some X.env.locals) (hc : Names X x c) (tk : Takes X Wout)
    (hb : ∀ (W : WX) (pn : List (Addr × Obj)) (xe : Value → Shared → Prop), Takes (X.tr pn xe) W → PassesOwn (model X.prog X.w) X.A X.env xe → PSs (X.tr pn xe) body (tb W))
    (hsu : ∀ (a : Addr) (oe : Obj) (cls : Value) (d : Option Addr) (pn : List (Addr × Obj)), Zc cls d oe → (∃ vs, oe.data = .fields vs) → PSs (X.suite a ((a, oe) :: pn)) (st0 :: suite) (ts a cls d)) :
    PS X (.Try body [.ExceptHandler (some (.Name x np)) none (st0 :: suite) pos'] [] [] pos) (tTryN X.K c ts Wout tb) := ps_try_only hs hf hc tk hb hsu
section
variable {w : World} {K : PySem.W.Frag} {mg : Str → Option Value} {base : Heap} {f : Addr} {fd : FuncData}
def spLaw (K : PySem.W.Frag) : Sp := fun vs H Q _ => ∃ (a : Addr) (ns : List Int), vs = [.ref a] ∧ SqL K H a (ns.map V.int) ∧ ns.length ≤ 63 ∧ LamX.TabS H (aP K) lamName ∧ ∀ H', Q (.bl true) H'
abbrev nLw : List Str := ["_law_script", "_law_numbers_here", "_law_count", "_law_rows", "_law_row", "_law_told", "_law_cells_here", "_law_store", "_law_refused", "_law_columns", "_law_table", "_law_wider", "_law_one"]
theorem scLaw : FnScope nLw ["_law_script"] (defScope sLaw) := ⟨rfl, rfl, rfl, by decide +kernel, rfl, by decide +kernel, by decide +kernel⟩
abbrev ttKeep (K : PySem.W.Frag) (i : Nat) : TT := tNot (tB (tCall (spKeepsFd K) [] C8.E0 (tCons (tVar i) (tCons (tVar 12) tNil))))
/-- [one for one in told if not keeps(t, one)]: as many as are lost -/
theorem lc_keeps {σ : L2.St} {H1 : Hp} {lt D : Addr} {vt : V} {n i : Nat} {tvs : List V} {fs : List Fdp} {rs : List Row} {Qd : Hp → Prop} (hlt : H1 lt = some (.lst tvs)) (hfd : Fds (aF K) H1 tvs fs) (wf : ∀ g ∈ fs, WfFd n g) (wr : WfRows n rs) (hl : rs.length ≤ 60) (hf : fs.length ≤ 60) (ht : IsTab (aT K) H1 vt n rs) (hD : H1 D = none)
    (hw : ∀ x, wipe ((wipe σ [12]).set 12 (some x)) [12] = wipe σ [12]) (hi : ∀ x, ((wipe σ [12]).set 12 (some x))[i]? = some (some vt)) (h12 : ∀ x, ((wipe σ [12]).set 12 (some x))[12]? = some (some x))
    (hd : ∀ (H2 : Hp) (acc : List V), Ext H1 H2 → H2 D = some (.lst acc) → acc.length = lost fs rs → Qd H2) :
    ∃ W : Nat → Nat → Hp → Prop, (∃ m, W 0 m (upd H1 D (.lst []))) ∧ ∀ i' m H, W i' m H →
      ((Itl K lt).stop i' H ∧ Qd H) ∨ ((Itl K lt).go i' H ∧ ∃ Nx : Hp → Prop, (∀ H', Nx H' → ∃ m', m' < m ∧ W (i' + 1) m' H') ∧ ∀ x H', (Itl K lt).yld i' H x H' → gName 12 x (wipe σ [12]) H' fun σ2 H2 => wipe σ2 [12] = wipe σ [12] ∧ ttKeep K i σ2 H2 fun b H3 =>
        if b = true then tVar 12 σ2 H3 fun y H4 => ∃ acc, H4 D = some (.lst acc) ∧ acc.length < sizeLine ∧ Nx (upd H4 D (.lst (acc ++ [y]))) else Nx H3) := by
  have hfl : tvs.length = fs.length := Paired.length hfd
  refine lc_list (K := K) (a := lt) (xs := tvs) (fun j H => ∃ acc : List V, H D = some (.lst acc) ∧ Ext H1 H ∧ acc.length = lost (fs.take j) rs) ⟨[], upd_same, Ext.upd hD, rfl⟩ (fun j H _ q => ?_) (fun j x H hj q => ?_) (fun H q => ?_)
  · obtain ⟨_, _, e, _⟩ := q
    exact SqL.of (e _ _ hlt)
  · obtain ⟨acc, hDa, e, hlen⟩ := q
    obtain ⟨g, hg, hgf⟩ := K9.Paired.getP hfd hj
    have hgm := List.mem_of_getElem? hg
    have hal : acc.length ≤ 60 := by
      have h1 : lost (fs.take j) rs ≤ (fs.take j).length := List.length_filter_le _ _
      rw [List.length_take] at h1
      omega
    refine ⟨hw x, _, hi x, _, h12 x, vt, x, n, rs, g, rfl, ht.sk (SK.ext e), hgf.sk (SK.ext e), wf g hgm, wr, hl, fun H2 e2 => ⟨_, rfl, ?_⟩⟩
    cases hk : keepsR g rs with
    | true =>
      refine iteF ?_
      refine ⟨acc, e2 _ _ hDa, Ext.trans e e2, ?_⟩
      rw [lost_snoc hg, hk, hlen]
      rfl
    | false =>
      refine iteT ?_
      refine ⟨_, h12 x, acc, e2 _ _ hDa, small1000 (by omega), acc ++ [x], upd_same, Ext.set (Ext.trans e e2) hD, ?_⟩
      rw [lost_snoc hg, hk, List.length_append, hlen]
      rfl
  · obtain ⟨acc, hDa, e, hlen⟩ := q
    rw [hfl, List.take_length] at hlen
    exact hd H acc e hDa hlen
theorem ok_law (F : FnP K "law" "law" sLaw f fd) (Z : E9 K mg) {CB : Addr} (L : Calls9 w K mg base CB) : FnOk prog w K mg base CX0 6 f fd ["_law_script"] (spLaw K) := by
  refine F.ok scLaw (fun vs H Q E h => ?_) (fun cdv A outer s H vs Q E hr h => ?_)
  · obtain ⟨a, ns, rfl, _⟩ := h
    rfl
  · obtain ⟨a, ns, rfl, hS, hns, hT, k⟩ := h
    obtain ⟨fi, fdi, mI, FI, bI⟩ := L.ins
    obtain ⟨fe, fde, FE, e1, e2, bE⟩ := L.eq
    refine ⟨_, PSs.nox (pss_cons (ps_set (i := 1) scLaw.nd rfl (Or.inl rfl) (C8.pe_c L.num hr (by decide) (by rfl) (pa_cons (pv 0) (pa_cons pe_int pa_nil))))
      (pss_cons (ps_set (i := 2) scLaw.nd rfl (Or.inl rfl) (pe_op op_add (pe_op op_mod (pe_ix ix_list (pv 1) pe_int (fun _ _ => rfl)) pe_int) pe_int))
      (pss_cons (ps_set (i := 3) scLaw.nd rfl (Or.inl rfl) (C8.pe_c L.fds hr (by decide) (by rfl) (pa_cons (pv 1) (pa_cons pe_int (pa_cons (pv 2) pa_nil)))))
      (pss_cons (ps_setLc (i := 5) (own := [("_law_row", 4)]) (g := gName 4) (tt := tYes) (te := tMake (aF K) (spFdI K) [] C8.E0 (tCons (tOp (rIxT K) (tVar 4) (tC (.int 0))) (tCons (tOp (rIxT K) (tVar 4) (tC (.int 1))) tNil))) rfl scLaw.nd rfl rfl (sw_true rfl rfl rfl (by decide +kernel)) (pi_list (pv 3)) (blkOk_by (N := nLw) (sc := defScope sLaw) (by decide +kernel))
          (fun _ _ _ _ _ => pg_name (i := 4) scLaw.nd rfl (Or.inl rfl)) (fun _ _ _ _ _ => pts_nil) (fun _ _ _ _ _ => C8.pe_mk L.mkF hr (by decide) (by rfl) (pa_cons (pe_ix ix_tup (pv 4) pe_int (fun _ _ => rfl)) (pa_cons (pe_ix ix_tup (pv 4) pe_int (fun _ _ => rfl)) pa_nil))))
      (pss_cons (ps_set (i := 6) scLaw.nd rfl (Or.inl rfl) (C8.pe_c L.cells hr (by decide) (by rfl) (pa_cons (pv 1) (pa_cons pe_int (pa_cons (pv 2) (pa_cons pe_int (pa_cons pe_int pa_nil)))))))
      (pss_cons (ps_set (i := 7) scLaw.nd rfl (Or.inl rfl) (C8.pe_mk L.mkS hr (by decide) (by rfl) (pa_cons (pv 2) (pa_cons (pv 5) pa_nil))))
      (pss_cons (ps_set (i := 8) scLaw.nd rfl (Or.inl rfl) (pe_lst pa_nil))
      (pss_cons (ps_for PassesOwn.never rfl (pi_list (pv 6)) (pg_name (i := 4) scLaw.nd rfl (Or.inl rfl))
        (pss_one (ps_tryN (ts := fun _ _ _ => tDrop (tBM K "list" rAppend (tVar 8) (tCons (tVar 4) tNil))) rfl rfl ⟨rfl, by decide, .inl L.B.g⟩ LamX.takes0
          (fun W pn xe tk _ => pss_one (ps_expr (pe_methX (E := fun σ => L2.WE W σ) (pv 7) Z.cS mI FI (hr.mono (by decide)) bI (fun σ => L2.passAt tk σ) (pa_cons (pv 4) pa_nil))))
          (fun a oe cls d pn _ _ => pss_one (ps_expr (pe_bm PySem.F.plainAttrs_list PySem.F.slot_list_append PySem.F.type_list_append mt_append (pv 8) (pa_cons (pv 4) pa_nil)))))))
      (pss_cons (ps_set (i := 9) scLaw.nd rfl (Or.inl rfl) (pe_tupRgF rfl (by rfl) Z.tup (prg_1 (by rfl) Z.rng (pv 2))))
      (pss_cons (ps_set (i := 10) scLaw.nd rfl (Or.inr rfl) (C8.pe_mk L.mkT hr (by decide) (by rfl) (pa_cons (pv 9) (pa_cons (C8.pe_mt0 L.rowsM hr (by decide) (pv 7)) pa_nil))))
      (pss_cons (ps_if (PW.pt (pw_or (pt_cmpR op_gt (pe_callB call_len (by rfl) Z.len PySem.boot_len (pa_cons (pe_lc (own := [("_law_one", 12)]) (g := gName 12) (tt := ttKeep K 10) (te := tVar 12) rfl scLaw.nd (pi_list (pv 5)) (blkOk_by (N := nLw) (sc := defScope sLaw) (by decide +kernel)) (fun _ _ _ _ _ => pg_name (i := 12) scLaw.nd rfl (Or.inl rfl)) (fun _ _ _ _ _ => pts_one (pt_not (pt_val (C8.pe_c L.keeps hr (by decide) (by rfl) (pa_cons (pv 10) (pa_cons (pv 12) pa_nil)))))) (fun _ _ _ _ _ => pv 12)) pa_nil)) pe_int (nomark _))
          (pw_or1 (pt_cmpR (op_neD hr.units) (C8.pe_c L.confl hr (by decide) (by rfl) (pa_cons (pv 10) (pa_cons (pv 5) pa_nil))) (pe_lst pa_nil) (nomark _))))) (pss_one (ps_ret pe_bl)) pss_nil)
      (pss_cons (ps_if (PW.pt (pw_or (pt_cmpR (op_neTab FE e1 e2 bE (hr.mono (by decide))) (C8.pe_c L.reps hr (by decide) (by rfl) (pa_cons (pv 10) (pa_cons (pv 5) pa_nil))) (pe_lst (pa_cons (pv 10) pa_nil)) (nomark _))
          (pw_or1 (pt_not (pt_cmpR (op_eqTab FE e1 e2 bE (hr.mono (by decide))) (C8.pe_c L.wind hr (by decide) (by rfl) (pa_cons (pv 2) (pa_cons (pv 5) (pa_cons (pe_lst (pa_cons (pv 10) pa_nil)) (pa_cons (pv 9) pa_nil))))) (pv 10) (nomark _)))))) (pss_one (ps_ret pe_bl)) pss_nil)
      (pss_cons (ps_for PassesOwn.never rfl (pi_list (pv 8)) (pg_name (i := 4) scLaw.nd rfl (Or.inl rfl))
        (pss_cons (ps_set (i := 11) scLaw.nd rfl (Or.inr rfl) (C8.pe_mk L.mkT hr (by decide) (by rfl) (pa_cons (pv 9) (pa_cons (pe_op op_cat (C8.pe_mt0 L.rowsM hr (by decide) (pv 7)) (pe_lst (pa_cons (pv 4) pa_nil))) pa_nil))))
        (pss_one (ps_if (PW.pt (pw_and (pt_cmpR op_eq (pe_callB call_len (by rfl) Z.len PySem.boot_len (pa_cons (pe_lc (own := [("_law_one", 12)]) (g := gName 12) (tt := ttKeep K 11) (te := tVar 12) rfl scLaw.nd (pi_list (pv 5)) (blkOk_by (N := nLw) (sc := defScope sLaw) (by decide +kernel)) (fun _ _ _ _ _ => pg_name (i := 12) scLaw.nd rfl (Or.inl rfl)) (fun _ _ _ _ _ => pts_one (pt_not (pt_val (C8.pe_c L.keeps hr (by decide) (by rfl) (pa_cons (pv 11) (pa_cons (pv 12) pa_nil)))))) (fun _ _ _ _ _ => pv 12)) pa_nil)) pe_int (nomark _)) (pw_and1 pt_never))) (pss_one (ps_ret pe_bl)) pss_nil))))
      (pss_one (ps_ret (pe_cmpR (op_inTab FE e1 e2 bE (hr.mono (by decide))) (pv 10) (C8.pe_c L.reps hr (by decide) (by rfl) (pa_cons (C8.pe_mk L.mkT hr (by decide) (by rfl) (pa_cons (pv 9) (pa_cons (C8.pe_c L.rowsOf hr (by decide) (by rfl) (pa_cons (pv 6) pa_nil)) pa_nil))) (pa_cons (pv 5) pa_nil))) (by rfl))))))))))))))))), ?_⟩
    -- the numbers
    refine ⟨_, rfl, a, ns, rfl, hS, hns, fun q1 xs H1 e1' _ hq1 hxl hxb => ?_⟩
    obtain ⟨x0, hx0⟩ : ∃ x0, xs[0]? = some x0 := ⟨_, List.getElem?_eq_getElem (by omega)⟩
    have hat0 : atI (xs.map V.int) ((0 : Nat) : Int) = some (.int x0) := atI_nat (by rw [List.getElem?_map, hx0]; rfl)
    refine ⟨_, rfl, q1, _, _, _, rfl, rfl, SqL.of hq1, hat0, _, _, rfl, rfl, (by show (0 : Int) < 4; decide), _, _, rfl, rfl, ?_⟩
    have m0 := Int.emod_nonneg x0 (show (4 : Int) ≠ 0 by decide)
    have m1 := Int.emod_lt_of_pos x0 (show (0 : Int) < 4 by decide)
    obtain ⟨n, hn⟩ : ∃ n : Nat, x0 % 4 + 1 = (n : Int) := ⟨(x0 % 4 + 1).toNat, by omega⟩
    have hn1 : 1 ≤ n := by omega
    have hn4 : n ≤ 4 := by omega
    rw [show (fun i j : Int => V.int (i + j)) (x0 % 4) 1 = V.int (n : Int) from congrArg V.int hn]
    -- the dependencies
    refine ⟨_, rfl, _, rfl, q1, xs, n, rfl, SqL.of hq1, hxl, hn4, fun q2 items fs H2 e2' _ hq2 hit hfl hsub => ?_⟩
    have hlen4 : ∀ {r : Row}, r.Sublist (colz n) → r.length ≤ 60 := fun {r} h => by
      have := h.length_le
      rw [colz_len] at this
      omega
    have wf : ∀ g ∈ fs, WfFd n g := fun g hg => ⟨fun c hc => (hsub g hg).1.subset hc, fun c hc => (hsub g hg).2.subset hc, hlen4 (hsub g hg).1, hlen4 (hsub g hg).2⟩
    refine ⟨_, rfl, q2, rfl, ⟨_, SqL.of hq2⟩, fun lt hlt => ?_⟩
    refine lc_list (K := K) (a := q2) (xs := items) (fun j H3 => ∃ ts : List V, H3 lt = some (.lst ts) ∧ Ext H2 H3 ∧ Fds (aF K) H3 ts (fs.take j))
      ⟨[], upd_same, Ext.upd hlt, .nil⟩ (fun j H3 _ q => ?_) ?_ ?_
    · obtain ⟨_, _, e3, _⟩ := q
      exact SqL.of (e3 _ _ hq2)
    · rintro j y H3 hj ⟨ts, hlt3, e3, hts⟩
      obtain ⟨g, hg, t, l, r, rfl, ht, hl, hr'⟩ := K9.Paired.getP hit hj
      have hgm := List.mem_of_getElem? hg
      have htl : ts.length ≤ 60 := by
        rw [Paired.length hts, List.length_take]
        omega
      refine ⟨rfl, _, rfl, t, _, _, _, rfl, rfl, SqT.of (e3 _ _ ht), atI_nat (j := 0) (v := V.ref l) rfl, _, rfl, t, _, _, _, rfl, rfl, SqT.of (e3 _ _ ht), atI_nat (j := 1) (v := V.ref r) rfl, fun x dx hx hdx hne => ?_⟩
      have hxH : upd H3 dx (.own x) x = none := by rw [upd_ne hne.symm]; exact hx
      have e4 : Ext H3 (upd (upd H3 dx (.own x)) x (.ins (aF K) dx [])) := (Ext.upd hdx).trans (Ext.upd hxH)
      refine ⟨x, dx, .ref l, .ref r, g.1, g.2, rfl, upd_same, ⟨l, rfl, e4 _ _ (e3 _ _ hl)⟩, ⟨r, rfl, e4 _ _ (e3 _ _ hr')⟩, hlen4 (hsub g hgm).1, hlen4 (hsub g hgm).2, fun l' r' al ar H4 fr hp4 ha4 hb4 s1 s2 s3 s4 => ⟨rfl, ?_⟩⟩
      obtain rfl : l' = g.1 := asc_unique s1 (colz_sub_asc (hsub g hgm).1) s2
      obtain rfl : r' = g.2 := asc_unique s3 (colz_sub_asc (hsub g hgm).2) s4
      have e34 : Ext H3 H4 := fun b o hb => fr b o (e4 _ _ hb) (ne_of_none hb hx)
      have kk := SK.lst (o := HO.lst (ts ++ [V.ref x])) (e34 _ _ hlt3)
      refine ⟨ts, e34 _ _ hlt3, small1000 (by omega), ts ++ [V.ref x], upd_same, Ext.set (Ext.trans e3 e34) hlt, ?_⟩
      rw [take_snoc hg]
      exact K9.Paired.snoc' ((hts.sk (SK.ext e34)).sk kk) ⟨x, dx, al, ar, rfl, kk _ _ hp4 rfl, kk _ _ ha4 rfl, kk _ _ hb4 rfl⟩
    rintro H3 ⟨tvs, hlt3, e3', hfd3⟩
    have hil : items.length = fs.length := Paired.length hit
    rw [hil, List.take_length] at hfd3
    have e03 : Ext H H3 := (e1'.trans e2').trans e3'
    -- the cells
    refine ⟨_, rfl, _, rfl, q1, xs, n, rfl, SqL.of (e3' _ _ (e2' _ _ hq1)), hxl, hn4, fun lc citems C H4 e4' _ hlc hcit hCl hCw => ?_⟩
    have hfd4 := hfd3.sk (SK.ext e4')
    have hlt4 := e4' _ _ hlt3
    -- the store
    refine ⟨_, rfl, _, rfl, fun x dx hx hdx hne => ?_⟩
    have hxH : upd H4 dx (.own x) x = none := by rw [upd_ne hne.symm]; exact hx
    have em : Ext H4 (upd (upd H4 dx (.own x)) x (.ins (aS K) dx [])) := (Ext.upd hdx).trans (Ext.upd hxH)
    refine ⟨x, dx, lt, .int n, tvs, fs, rfl, upd_same, SqL.of (em _ _ hlt4), hfd4.sk (SK.ext em), by omega, fun H5 hd ch ds np T nhd nch nds => ⟨rfl, ?_⟩⟩
    have e45 : Ext H4 H5 := fun b o hb => np b o (em _ _ hb) (ne_of_none hb hx)
    have fhd : H4 hd = none := Ext.free em nhd
    have fch : H4 ch = none := Ext.free em nch
    have fds : ∀ d ∈ ds, H4 d = none := fun d hd' => Ext.free em (nds d hd')
    refine ⟨by decide, fun lr hlr => ?_⟩
    have e56 : Ext H5 (upd H5 lr (.lst [])) := Ext.upd hlr
    have flr : H4 lr = none := Ext.free e45 hlr
    have nlc : lr ≠ ch := by
      obtain ⟨_, hch5, _⟩ := T.chg
      exact (ne_of_none hch5 hlr).symm
    obtain ⟨dx5, n5, dp5, ix5, dvs5, hx5, _, _, hix5, _⟩ := id T.ob
    have nixl : ix5 ≠ lr := ne_of_none hix5 hlr
    -- the asked rows
    refine ⟨_, rfl, lc, rfl, ⟨_, SqL.of (e56 _ _ (e45 _ _ hlc))⟩, ?_⟩
    have hcl : citems.length = C.length := Paired.length hcit
    refine for_list (K := K) (a := lc) (xs := citems) (fun i σ H7 => ∃ (z : Option V) (S R : List Row) (ritems : List V), σ = [some (.ref a), some (.ref q1), some (.int n), some (.ref q2), z, some (.ref lt), some (.ref lc), some (.ref x), some (.ref lr), none, none, none, none] ∧ Ext H4 H7 ∧ H7 x = some (.ins (aS K) dx5 (stF n5 (.ref dp5) (.ref hd) (.ref ix5) (.ref ch))) ∧ StoreAt K H7 x fs S hd ch ds ∧ H7 lr = some (.lst ritems) ∧ Rows H7 ritems R ∧ (∀ s ∈ S, s ∈ C) ∧ (∀ r ∈ C.take i, r ∈ S ∨ hits fs S r = true) ∧ (∀ r ∈ R, r ∈ C ∧ hits fs S r = true) ∧ S.length ≤ i ∧ R.length ≤ i)
      ⟨_, [], [], [], rfl, e45.trans e56, e56 _ _ hx5, T.ext e56, upd_same, .nil, (fun s hs => by cases hs), (fun r hr => by cases hr), (fun r hr => by cases hr), Nat.le_refl _, Nat.le_refl _⟩ (fun i σ H7 _ q => ?_) ?_ ?_
    · obtain ⟨_, _, _, _, _, e7, _⟩ := q
      exact SqL.of (e7 _ _ hlc)
    · rintro i y σ H7 hy ⟨z, S, R, ritems, rfl, e7, hx7, T7, hr7, hR7, hSC, hall, hRC, hSl, hRl⟩
      obtain ⟨r, hr', pr, rfl, hpr⟩ := K9.Paired.getP hcit hy
      have hrC := List.mem_of_getElem? hr'
      have hil7 := (List.getElem?_eq_some_iff.mp hr').1
      have htake := take_snoc hr'
      obtain ⟨dx7, n7, dp7, ix7, dvs7, hp7, _⟩ := id T7.ob
      refine ⟨_, rfl, x, dx7, _, rfl, hp7, st_no _ _ _ _ _ (by decide +kernel) (by decide +kernel) (by decide +kernel) (by decide +kernel) (by decide +kernel), _, rfl, ?_⟩
      refine ⟨x, .ref pr, fs, S, hd, ch, ds, n, r, rfl, T7, ⟨pr, rfl, e7 _ _ hpr⟩, hCw r hrC, wf, by omega, fun hin => ?_, fun hnin hno H8 fr T8 => ?_, fun hnin hyes d H8 e8 => ?_⟩
      · refine ⟨_, S, R, ritems, rfl, e7, hx7, T7, hr7, hR7, hSC, fun r2 hr2 => ?_, hRC, by omega, by omega⟩
        rw [htake] at hr2
        rcases List.mem_append.mp hr2 with q | q
        · exact hall r2 q
        · rw [List.mem_singleton.mp q]
          exact .inl hin
      · have nf : ∀ {b : Addr} {o : HO}, H4 b = some o → H8 b = some o := fun {b o} hb => fr b o (e7 _ _ hb) (ne_of_none hb fhd) (ne_of_none hb fch) fun hm => by
          rw [fds b hm] at hb
          cases hb
        have ndt : ∀ {b : Addr} {o : HO}, H7 b = some o → (∀ kv, o ≠ .dT kv) → b ≠ ch → H8 b = some o := fun {b o} hb nk nc => by
          obtain ⟨kvs, hh, _⟩ := T7.held
          refine fr b o hb (fun q => ?_) nc fun hm => ?_
          · rw [q, hh] at hb
            exact nk _ (Option.some.inj hb).symm
          · obtain ⟨j, hj⟩ := List.getElem?_of_mem hm
            obtain ⟨g, hg⟩ := getOpt (ys := fs) T7.len.symm hj
            obtain ⟨kv, hh, _⟩ := T7.idx j b g hj hg
            rw [hh] at hb
            exact nk _ (Option.some.inj hb).symm
        obtain ⟨xs7, hch7, _⟩ := id T7.chg
        have hR8 : Rows H8 ritems R := Paired.mapP hR7 fun v r0 z => by
          obtain ⟨b, e, h⟩ := z
          exact ⟨b, e, ndt h (fun kv z => by cases z) (ne_of h hch7 fun z => by cases z)⟩
        refine ⟨_, S ++ [r], R, ritems, rfl, fun b o hb => nf hb, ndt hx7 (fun kv z => by cases z) (ne_of hx7 hch7 fun z => by cases z), T8, ndt hr7 (fun kv z => by cases z) nlc, hR8, fun s hs => ?_, fun r2 hr2 => ?_, fun r2 hr2 => ⟨(hRC r2 hr2).1, hits_mono (hRC r2 hr2).2⟩, by rw [List.length_append, List.length_singleton]; omega, by omega⟩
        · rcases List.mem_append.mp hs with q | q
          · exact hSC s q
          · rw [List.mem_singleton.mp q]
            exact hrC
        · rw [htake] at hr2
          rcases List.mem_append.mp hr2 with q | q
          · rcases hall r2 q with w | w
            · exact .inl (List.mem_append_left _ w)
            · exact .inr (hits_mono w)
          · rw [List.mem_singleton.mp q]
            exact .inl (List.mem_append_right _ (List.mem_singleton.mpr rfl))
      · refine ⟨true, L.bb, fun _ ae hae => ?_, fun q => nomatch q⟩
        have hr8 := e8 _ _ hr7
        refine ⟨_, rfl, .inl ⟨rfl, _, SqL.of hr8⟩, _, rfl, lr, ritems, _, rfl, rfl, hr8, small1000 (by have := Paired.length hR7; omega), ?_⟩
        have oth : ∀ {b : Addr} {o : HO}, H8 b = some o → b ≠ lr → upd H8 lr (.lst (ritems ++ [V.ref pr])) b = some o := fun {b o} h n => by rw [upd_ne n]; exact h
        have kk : SK H7 (upd H8 lr (.lst (ritems ++ [V.ref pr]))) := (SK.ext e8).trans (SK.lst hr8)
        have T8 := T7.ext e8
        obtain ⟨kvs8, hh8, hk8⟩ := id T8.held
        obtain ⟨xs8, hc8, hx8⟩ := id T8.chg
        obtain ⟨dx8, n8, dp8, ix8, dvs8, o1, o2, o3, o4, o5⟩ := id T8.ob
        have nix : ix8 ≠ lr := by
          rw [e8 _ _ hx7] at o1
          injection o1 with o1
          injection o1 with _ _ o1
          simp only [stF, List.cons.injEq, Prod.mk.injEq, true_and] at o1
          obtain ⟨_, _, q, _⟩ := o1
          injection q with q
          rw [← q]
          exact nixl
        refine ⟨_, S, R ++ [r], ritems ++ [.ref pr], rfl, fun b o hb => oth (e8 _ _ (e7 _ _ hb)) (ne_of_none hb flr), kk _ _ hx7 rfl, ⟨⟨dx8, n8, dp8, ix8, dvs8, (SK.lst hr8) _ _ o1 rfl, (SK.lst hr8) _ _ o2 rfl, o3.sk (SK.lst hr8), oth o4 nix, o5⟩, ⟨kvs8, oth hh8 (ne_of hh8 hr8 fun z => by cases z), hk8⟩, T8.len, fun j d' g hj hg => ?_, ⟨xs8, oth hc8 nlc.symm, hx8⟩, T8.nd, T8.nh⟩, upd_same, K9.Paired.snoc' (hR7.sk kk) ⟨pr, rfl, kk _ _ (e7 _ _ hpr) rfl⟩, hSC, fun r2 hr2 => ?_, fun r2 hr2 => ?_, by omega, by rw [List.length_append, List.length_singleton]; omega⟩
        · obtain ⟨kv, w1, w2⟩ := T8.idx j d' g hj hg
          exact ⟨kv, oth w1 (ne_of w1 hr8 fun z => by cases z), w2.sk (SK.lst hr8)⟩
        · rw [htake] at hr2
          rcases List.mem_append.mp hr2 with q | q
          · exact hall r2 q
          · rw [List.mem_singleton.mp q]
            exact .inr hyes
        · rcases List.mem_append.mp hr2 with q | q
          · exact hRC r2 q
          · rw [List.mem_singleton.mp q]
            exact ⟨hrC, hyes⟩
    · rintro σ H7 ⟨z, S, R, ritems, rfl, e7, hx7, T7, hr7, hR7, hSC, hall, hRC, hSl, hRl⟩
      rw [hcl, List.take_length] at hall
      have eH7 : Ext H H7 := (e03.trans e4').trans e7
      have hSl10 : S.length ≤ 60 := by omega
      have hSw : WfRows n S := fun s hs => hCw s (hSC s hs)
      have hSne : ∀ r ∈ S, r ≠ [] := fun r hr z => by
        have := hSw r hr
        rw [z, List.length_nil] at this
        omega
      have hcons : ∀ g ∈ fs, ∀ p ∈ S, ∀ q ∈ S, brk g p q = false := fun g hg => by
        obtain ⟨j, hj⟩ := List.getElem?_of_mem hg
        obtain ⟨d, hd'⟩ := getOpt (ys := ds) T7.len hj
        obtain ⟨kv, _, sx⟩ := T7.idx j d g hd' hj
        exact sx.ok
      -- the columns, the table
      refine ⟨_, rfl, (n : Int), rfl, ⟨by omega, by omega, by omega, by omega, by omega⟩, fun qc o ho hqc => ?_⟩
      rw [rgV_colz]
      have e8 : Ext H7 (upd H7 qc (.frz o (.tup ((colz n).map V.int)))) := Ext.upd hqc
      have hc8 : ColT (upd H7 qc (.frz o (.tup ((colz n).map V.int)))) qc n := ⟨o, ho, upd_same⟩
      refine ⟨_, rfl, _, rfl, x, dx5, _, rfl, e8 _ _ hx7, st_no _ _ _ _ _ (by decide +kernel) (by decide +kernel) (by decide +kernel) (by decide +kernel) (by decide +kernel), ?_⟩
      refine ⟨x, fs, S, hd, ch, ds, rfl, T7.ext e8, hSne, hSl10, fun q9 xs9 rs9 H9 e9 _ hq9 hrows9 pm9 => fun xt dxt hxt hdxt hnet => ?_⟩
      have hxtH : upd H9 dxt (.own xt) xt = none := by rw [upd_ne hnet.symm]; exact hxt
      have e10 : Ext H9 (upd (upd H9 dxt (.own xt)) xt (.ins (aT K) dxt [])) := (Ext.upd hdxt).trans (Ext.upd hxtH)
      refine ⟨xt, dxt, qc, q9, n, xs9, rs9, rfl, upd_same, (hc8.sk (SK.ext e9)).sk (SK.ext e10), hn1, by omega, .inl (SqL.of (e10 _ _ hq9)), hrows9.sk (SK.ext e10), fun r hr => hSw r (pm9.mem_iff.mp hr), by rw [pm9.length_eq]; omega, fun rs0 H11 fr it cn9 => ⟨rfl, ?_⟩⟩
      have e911 : Ext H9 H11 := fun b u hb => fr b u (e10 _ _ hb) (ne_of_none hb hxt)
      have e711 : Ext H7 H11 := (e8.trans e9).trans e911
      have cn : Canon rs0 S := ⟨cn9.1, fun r => (cn9.2 r).trans pm9.mem_iff⟩
      have hl0 : rs0.length ≤ 10 := Nat.le_trans (canon_len cn) (by omega)
      have wr0 : WfRows n rs0 := fun r hr => hSw r ((cn.2 r).mp hr)
      have hcons0 : ∀ g ∈ fs, ∀ p ∈ rs0, ∀ q ∈ rs0, brk g p q = false := fun g hg p hp q hq => hcons g hg p ((cn.2 p).mp hp) q ((cn.2 q).mp hq)
      have hcfl : ∀ u v, ¬ CflAt fs rs0 u v := fun u v z => by
        obtain ⟨_, p, q, hp, hq, hc⟩ := z
        rw [cfl_none hcons0 p (List.mem_of_getElem? hp) q (List.mem_of_getElem? hq)] at hc
        cases hc
      have hlt11 : H11 lt = some (.lst tvs) := e711 _ _ (e7 _ _ hlt4)
      have hfd11 : Fds (aF K) H11 tvs fs := hfd4.sk (SK.ext (e7.trans e711))
      have hc11 : ColT H11 qc n := (hc8.sk (SK.ext e9)).sk (SK.ext e911)
      -- it keeps them; no conflicts
      refine ⟨_, rfl, lt, rfl, ⟨_, SqL.of hlt11⟩, fun D12 hD12 => ?_⟩
      refine lc_keeps hlt11 hfd11 wf wr0 (by omega) (by omega) it hD12 (fun _ => rfl) (fun _ => rfl) (fun _ => rfl) fun H12 acc e12 hacc hlen => ?_
      refine ⟨_, _, rfl, .inl ⟨_, SqL.of hacc, rfl⟩, _, _, rfl, rfl, _, rfl, ?_⟩
      rw [hlen, lost_zero hcons0, show decide ((0 : Int) < ((0 : Nat) : Int)) = false by decide]
      refine iteF ?_
      refine ⟨_, rfl, _, rfl, .ref xt, lt, n, tvs, rs0, fs, rfl, it.sk (SK.ext e12), SqL.of (e12 _ _ hlt11), hfd11.sk (SK.ext e12), wf, wr0, by omega, by omega, fun q13 items13 cs13 H13 e13 _ hq13 hit13 _ tl => ?_⟩
      have ecs : cs13 = [] := by
        cases cs13 with
        | nil => rfl
        | cons r cs13 =>
          obtain ⟨u, v, _, _, z⟩ := tl.is r List.mem_cons_self
          exact absurd z (hcfl u v)
      subst ecs
      obtain rfl : items13 = [] := by cases hit13; rfl
      refine ⟨by decide, fun l14 hl14 => ?_⟩
      have e14 : Ext H13 (upd H13 l14 (.lst [])) := Ext.upd hl14
      refine ⟨.list [], .list [], .lst (SqL.of (e14 _ _ hq13)) .nil, .lst (SqL.of upd_same) .nil, shaped_ints [], shaped_ints [], ?_⟩
      rw [show (!PyData.eqv (.list []) (.list [])) = false by simp [PyData.eqv, PyData.eqvAll]]
      refine ⟨_, rfl, ?_⟩
      refine iteF ?_
      have e1114 : Ext H11 (upd H13 l14 (.lst [])) := (e12.trans e13).trans e14
      generalize upd H13 l14 (.lst []) = H14 at e1114 ⊢
      have eH14 : Ext H H14 := (eH7.trans e711).trans e1114
      -- its only repair
      refine ⟨_, rfl, _, rfl, .ref xt, lt, n, tvs, rs0, fs, rfl, it.sk (SK.ext e1114), SqL.of (e1114 _ _ hlt11), hfd11.sk (SK.ext e1114), wf, wr0, cn.1, hl0, by omega, hn1, by omega, hT.ext eH14, fun q15 ts15 Ls15 H15 k15 _ hq15 hts15 rok15 _ => ?_⟩
      have eLs := rok15.one hcfl
      subst eLs
      obtain ⟨t15, rfl, it15⟩ : ∃ t, ts15 = [t] ∧ IsTab (aT K) H15 t n rs0 := by
        cases hts15 with
        | cons h t => cases t; exact ⟨_, rfl, h⟩
      refine ⟨_, rfl, by show 1 ≤ sizeLine; decide, fun l16 hl16 => ?_⟩
      have e16 : Ext H15 (upd H15 l16 (.lst [V.ref xt])) := Ext.upd hl16
      have it15' : IsTab (aT K) H15 (.ref xt) n rs0 := (it.sk (SK.ext e1114)).sk k15.sk
      refine ⟨q15, l16, t15, .ref xt, rfl, rfl, e16 _ _ hq15, upd_same, ⟨n, rs0, rs0, it15.sk (SK.ext e16), it15'.sk (SK.ext e16), (decide_eq_true rfl).symm⟩, fun H17 e17 => ?_⟩
      refine ⟨_, rfl, ?_⟩
      refine iteF ?_
      have k17 : Keep (aP K) H14 H17 := (k15.trans (Keep.of e16)).trans (Keep.of e17)
      have it17 : IsTab (aT K) H17 (.ref xt) n rs0 := (it.sk (SK.ext e1114)).sk k17.sk
      have hlt17 : H17 lt = some (.lst tvs) := k17.lst (e1114 _ _ hlt11)
      have hfd17 : Fds (aF K) H17 tvs fs := (hfd11.sk (SK.ext e1114)).sk k17.sk
      have hc17 : ColT H17 qc n := (hc11.sk (SK.ext e1114)).sk k17.sk
      -- the window
      refine ⟨_, rfl, _, rfl, _, rfl, by show 1 ≤ sizeLine; decide, fun l18 hl18 => ?_⟩
      have e18 : Ext H17 (upd H17 l18 (.lst [V.ref xt])) := Ext.upd hl18
      refine ⟨_, rfl, lt, l18, qc, n, tvs, .ref xt, rs0, fs, rfl, SqL.of (e18 _ _ hlt17), hfd17.sk (SK.ext e18), SqL.of upd_same, it17.sk (SK.ext e18), hc17.sk (SK.ext e18), wr0, wf, hcons0, cn.1, by omega, by omega, hn1, by omega, fun v19 H19 e19 it19 => ?_⟩
      refine ⟨_, rfl, true, ⟨n, rs0, rs0, it19, (it17.sk (SK.ext e18)).sk (SK.ext e19), (decide_eq_true rfl).symm⟩, fun H20 e20 => ?_⟩
      refine ⟨_, rfl, ?_⟩
      refine iteF ?_
      have k20 : Keep (aP K) H14 H20 := k17.trans (Keep.of ((e18.trans e19).trans e20))
      have k720 : Keep (aP K) H7 H20 := (Keep.of (e711.trans e1114)).trans k20
      -- the refused rows
      have hr20 : H20 lr = some (.lst ritems) := k720.lst hr7
      have hrl : ritems.length = R.length := Paired.length hR7
      refine ⟨_, rfl, lr, rfl, ⟨_, SqL.of hr20⟩, ?_⟩
      refine for_list (K := K) (a := lr) (xs := ritems) (fun i σ H21 => ∃ (z z2 : Option V), σ = [some (.ref a), some (.ref q1), some (.int n), some (.ref q2), z, some (.ref lt), some (.ref lc), some (.ref x), some (.ref lr), some (.ref qc), some (.ref xt), z2, none] ∧ Keep (aP K) H20 H21)
        ⟨_, _, rfl, Keep.rfl'⟩ (fun i σ H21 _ q => ?_) ?_ ?_
      · obtain ⟨_, _, _, k21⟩ := q
        exact SqL.of (k21.lst hr20)
      · rintro i y σ H21 hy ⟨z, z2, rfl, k21⟩
        have k721 : Keep (aP K) H7 H21 := k720.trans k21
        obtain ⟨r, hri, pr, rfl, hpr⟩ := K9.Paired.getP hR7 hy
        obtain ⟨hrC, hrh⟩ := hRC r (List.mem_of_getElem? hri)
        have T21 := T7.keep k721
        have hx21 := k721.sk _ _ hx7 rfl
        have hc21 : ColT H21 qc n := hc17.sk ((Keep.of ((e18.trans e19).trans e20)).trans k21).sk
        refine ⟨_, rfl, _, rfl, x, dx5, _, rfl, hx21, st_no _ _ _ _ _ (by decide +kernel) (by decide +kernel) (by decide +kernel) (by decide +kernel) (by decide +kernel), ?_⟩
        refine ⟨x, fs, S, hd, ch, ds, rfl, T21, hSne, hSl10, fun q22 xs22 rs22 H22 e22 _ hq22 hrows22 pm22 => ?_⟩
        refine ⟨_, rfl, by show 1 ≤ sizeLine; decide, fun l23 hl23 => ?_⟩
        have e23 : Ext H22 (upd H22 l23 (.lst [V.ref pr])) := Ext.upd hl23
        have hxl22 : xs22.length ≤ 60 := by rw [Paired.length hrows22, pm22.length_eq]; exact hSl10
        refine ⟨q22, l23, xs22, _, rfl, rfl, e23 _ _ hq22, upd_same, Nat.le_trans (show xs22.length + 1 ≤ 61 by omega) (by decide), fun q24 hq24 => fun xw dxw hxw hdxw hnew => ?_⟩
        have e24 := Ext.trans e23 (Ext.upd (o := HO.lst (xs22 ++ [V.ref pr])) hq24)
        have hxwH : upd (upd (upd H22 l23 (.lst [V.ref pr])) q24 (.lst (xs22 ++ [V.ref pr]))) dxw (.own xw) xw = none := by rw [upd_ne hnew.symm]; exact hxw
        have e25 := Ext.trans (Ext.upd (o := HO.own xw) hdxw) (Ext.upd (o := HO.ins (aT K) dxw []) hxwH)
        have hpr22 : H22 pr = some (.tup (r.map V.int)) := e22 _ _ (k721.sk _ _ hpr rfl)
        refine ⟨xw, dxw, qc, q24, n, xs22 ++ [.ref pr], rs22 ++ [r], rfl, upd_same, ((hc21.sk (SK.ext e22)).sk (SK.ext e24)).sk (SK.ext e25), hn1, by omega, .inl (SqL.of (e25 _ _ upd_same)), Rows.sk (K9.Paired.snoc' hrows22 ⟨pr, rfl, hpr22⟩) (SK.ext (Ext.trans e24 e25)), fun r2 hr2 => ?_, by rw [List.length_append, List.length_singleton, pm22.length_eq]; omega, fun rsw H26 frw itw cnw => ⟨rfl, ?_⟩⟩
        · rcases List.mem_append.mp hr2 with q | q
          · exact hSw r2 (pm22.mem_iff.mp q)
          · rw [List.mem_singleton.mp q]
            exact hCw r hrC
        have e2226 : Ext H22 H26 := fun b u hb => frw b u (Ext.trans e24 e25 _ _ hb) (ne_of_none (e24 _ _ hb) hxw)
        have cnw2 : Canon rsw (S ++ [r]) := ⟨cnw.1, fun r2 => (cnw.2 r2).trans (by
          rw [List.mem_append, List.mem_append, pm22.mem_iff])⟩
        have hlw : rsw.length ≤ 60 := Nat.le_trans (canon_len cnw2) (by rw [List.length_append, List.length_singleton]; omega)
        have wrw : WfRows n rsw := fun r2 hr2 => by
          rcases List.mem_append.mp ((cnw2.2 r2).mp hr2) with q | q
          · exact hSw r2 q
          · rw [List.mem_singleton.mp q]
            exact hCw r hrC
        have e2126 : Ext H21 H26 := e22.trans e2226
        have hlt26 : H26 lt = some (.lst tvs) := e2126 _ _ ((Keep.of ((e18.trans e19).trans e20)).trans k21 |>.lst hlt17)
        have hfd26 : Fds (aF K) H26 tvs fs := (hfd17.sk ((Keep.of ((e18.trans e19).trans e20)).trans k21).sk).sk (SK.ext e2126)
        refine ⟨_, rfl, lt, rfl, ⟨_, SqL.of hlt26⟩, fun D27 hD27 => ?_⟩
        refine lc_keeps hlt26 hfd26 wf wrw hlw (by omega) itw hD27 (fun _ => rfl) (fun _ => rfl) (fun _ => rfl) fun H27 acc e27 hacc hlen => ?_
        have hpos := lost_pos cnw2 hrh
        refine ⟨_, _, rfl, .inl ⟨_, SqL.of hacc, rfl⟩, rfl, _, rfl, ?_⟩
        rw [hlen, decide_eq_false (show ¬ V.int (lost fs rsw : Nat) = V.int 0 from fun z => by injection z with z; omega)]
        refine iteF ?_
        refine iteF ?_
        exact ⟨_, _, rfl, k21.trans (Keep.of (e2126.trans e27))⟩
      · rintro σ H21 ⟨z, z2, rfl, k21⟩
        have k721 : Keep (aP K) H7 H21 := k720.trans k21
        have k1721 : Keep (aP K) H17 H21 := (Keep.of ((e18.trans e19).trans e20)).trans k21
        have hc21 : ColT H21 qc n := hc17.sk k1721.sk
        have hlc21 : H21 lc = some (.lst citems) := k721.lst (e7 _ _ hlc)
        have hcit21 : Rows H21 citems C := (hcit.sk (SK.ext e7)).sk k721.sk
        have hCne : ∀ r ∈ C, r ≠ [] := fun r hr z => by
          have := hCw r hr
          rw [z, List.length_nil] at this
          omega
        refine ⟨_, rfl, _, rfl, _, rfl, lc, citems, C, rfl, SqL.of hlc21, hcit21, hCne, by omega, fun t22 xs22 ss H22 e22 ht22 hrows22 hmem22 hlen22 => fun xb dxb hxb hdxb hneb => ?_⟩
        have hxbH : upd H22 dxb (.own xb) xb = none := by rw [upd_ne hneb.symm]; exact hxb
        have e23 : Ext H22 (upd (upd H22 dxb (.own xb)) xb (.ins (aT K) dxb [])) := (Ext.upd hdxb).trans (Ext.upd hxbH)
        refine ⟨xb, dxb, qc, t22, n, xs22, ss, rfl, upd_same, (hc21.sk (SK.ext e22)).sk (SK.ext e23), hn1, by omega, .inr (SqT.of (e23 _ _ ht22)), hrows22.sk (SK.ext e23), fun r hr => hCw r ((hmem22 r).mp hr), by omega, fun big H24 frb itb cnb => ⟨rfl, ?_⟩⟩
        have e2224 : Ext H22 H24 := fun b u hb => frb b u (e23 _ _ hb) (ne_of_none hb hxb)
        have e2124 : Ext H21 H24 := e22.trans e2224
        have cnC : Canon big C := ⟨cnb.1, fun r => (cnb.2 r).trans (hmem22 r)⟩
        have hlb : big.length ≤ 10 := Nat.le_trans (canon_len cnC) hCl
        have wrb : WfRows n big := fun r hr => hCw r ((cnC.2 r).mp hr)
        refine ⟨_, rfl, .ref xb, lt, n, tvs, big, fs, rfl, itb, SqL.of (e2124 _ _ (k1721.lst hlt17)), (hfd17.sk k1721.sk).sk (SK.ext e2124), wf, wrb, cnC.1, hlb, by omega, hn1, by omega, ((hT.ext eH14) |> k17.tab |> k1721.tab).ext e2124, fun q25 ts25 Ls25 H25 k25 _ hq25 hts25 rok25 _ => ?_⟩
        have hsubl : rs0.Sublist big := asc_sub cn.1 cnC.1 fun r hr => (cnC.2 r).mpr (hSC r ((cn.2 r).mp hr))
        have hin : rs0 ∈ Ls25 := rok25.mem rs0 hsubl (cfl_none hcons0) fun r hr hn => by
          rcases hall r ((cnC.2 r).mp hr) with q | q
          · exact absurd ((cn.2 r).mpr q) hn
          · obtain ⟨s, hs, hc⟩ := hits_iff.mp q
            exact ⟨s, (cn.2 s).mpr hs, hc⟩
        obtain ⟨j, hj⟩ := List.getElem?_of_mem hin
        have hjl : j < Ls25.length := (List.getElem?_eq_some_iff.mp hj).1
        have it25 : IsTab (aT K) H25 (.ref xt) n rs0 := ((it17.sk k1721.sk).sk (SK.ext e2124)).sk k25.sk
        refine ⟨q25, ts25, fun j => decide (Ls25.getD j [] = rs0), rfl, hq25, fun i v hv => ?_, ⟨_, rfl⟩, fun H26 b _ hb => ?_⟩
        · obtain ⟨l, hl, hit⟩ := K9.Paired.getP hts25 hv
          have el : Ls25.getD i [] = l := by simp [hl]
          exact ⟨n, l, rs0, hit, it25, congrArg (fun z => decide (z = rs0)) el⟩
        · have htrue : b = true := hb.mpr ⟨j, by rw [Paired.length hts25]; exact hjl, decide_eq_true (by simp [hj])⟩
          rw [htrue]
          exact k H26
end
end K9

set_option maxHeartbeats 4000000
/-! What the head tells, put together. -/
namespace K9
open PySem L2
abbrev aB (K : PySem.W.Frag) : Addr := He.ga K "Broken"
theorem cls_of {K : PySem.W.Frag} {C : Addr} (h : brkCls K C = true) : ∃ nm q N bs bm sn sub ab col dd k0 k1 k2 k3 k5, K.lookup C = some (PySem.excClassObj nm q C N bs bm true sn sub ab col dd k0 k1 k2 k3 k5 "ValueError.__new__") ∧ PySem.HandSPX.refsVE bm = true := by
  unfold brkCls at h
  split at h
  · rename_i dd cd sl hl
    split at h
    · rename_i C' bm k0 k1 k2 k3 n k5 hm hs
      simp only [Bool.and_eq_true, beq_iff_eq, Bool.not_eq_true'] at h
      obtain ⟨rfl, rfl, h1, h2, h3⟩ := h
      obtain ⟨nm, bs, mro, ns, qn, hdct, sn, sub, ab, col, hdel⟩ := cd
      simp only at hm h1 h2
      subst hm
      subst h1
      subst h2
      have es : sl = #[k0, k1, k2, k3, some (.builtin "ValueError.__new__"), k5] := by
        rw [← hs]
      subst es
      exact ⟨nm, qn, ns, bs, bm, sn, sub, ab, col, dd, k0, k1, k2, k3, k5, hl, h3⟩
    · cases h
  · cases h
theorem clo_of {K : PySem.W.Frag} {C : Addr} (h : brkClo K C = true) (hb : bkObs K = bkVal) : ∃ (fd : FuncData) (oc : Value) (od : Option Addr) (osl : Array (Option Value)) (kV doc pm ct : Value) (an : Option Addr) (cda cc : Addr),
    fd = PySem.W.fnX "__init__" "Broken.__init__" (defArgs sBrokenI) (defBody sBrokenI) (defScope sBrokenI) [("__class__", cc)] .none kV doc pm an (.ref cda) ct ∧
    K.lookup (He.fAd K brkAt) = some ⟨oc, od, .func fd, osl⟩ ∧ PySem.W.codeIn K (.ref cda) "Broken.__init__" = true ∧ (∃ cl cld csl, K.lookup cc = some ⟨cl, cld, .cell (some (.ref C)), csl⟩) ∧
    ∃ (ccl : Value) (cdd : Option Addr) (vs : Array Value) (ccs : Array (Option Value)) (file : Str) (tf : Tok), K.lookup cda = some ⟨ccl, cdd, .fields vs, ccs⟩ ∧ vs[2]? = some (.str file tf) ∧ ((prog.main.file : Str) == file) = true := by
  unfold brkClo at h
  split at h
  · rename_i oc od fd osl hl
    unfold bkObs at hb
    rw [hl] at hb
    obtain ⟨nm, qn, pr, bd, sc, gl, cl, df, kV, doc, pm, an, cd, ct, bt⟩ := fd
    simp only [bkVal, Option.some.injEq, Prod.mk.injEq] at hb
    obtain ⟨rfl, rfl, rfl, rfl, rfl, rfl, rfl⟩ := hb
    simp only at h
    obtain ⟨h1, h⟩ := He.ba h
    obtain ⟨h2, h⟩ := He.ba h
    obtain ⟨h3, h4⟩ := He.ba h
    obtain ⟨c0, ec0⟩ := He.codeIn_ref h3
    subst ec0
    simp only at h4
    split at h1
    · rename_i xn cc
      obtain ⟨hx, hc⟩ := He.ba h1
      have ex := of_decide_eq_true hx
      subst ex
      split at hc
      · rename_i cl cld D csl hlc
        have eD := beq_iff_eq.mp hc
        subst eD
        split at h2
        · split at h4
          · rename_i ccl cdd vs ccs hlk
            split at h4
            · rename_i file tf hv
              exact ⟨_, oc, od, osl, kV, doc, pm, ct, an, c0, cc, rfl, hl, h3, ⟨cl, cld, csl, hlc⟩, ccl, cdd, vs, ccs, file, tf, hlk, hv, h4⟩
            · cases h4
          · cases h4
        · cases h2
      · cases hc
    · cases h1
  · cases h
theorem ins_of {K : PySem.W.Frag} {C : Addr} (c : Cls K C) (h : insOk K C = true) : C8.InsC K C := by
  unfold insOk at h
  obtain ⟨h1, h⟩ := He.ba h
  obtain ⟨h2, h⟩ := He.ba h
  obtain ⟨h3, h⟩ := He.ba h
  obtain ⟨h4, h5⟩ := He.ba h
  exact ⟨c, He.eqO_ok h1, He.eqO_ok h2, of_decide_eq_true h3, of_decide_eq_true h4, of_decide_eq_true h5⟩
section
variable {w : World} {K : PySem.W.Frag} {h : Heap} {mg : Str → Option Value}

theorem e9_of (X : K.In h) (G : h.Ns mainGlobals mg) (c : He.SaysD fa fn K) (iT : insOk K (aT K) = true) (iF : insOk K (aF K) = true) : E9 K mg where
  cS := He.cls_ok (c.fact 1 (f := .cls "Store") rfl)
  cT := He.cls_ok (c.fact 5 (f := .cls "Table") rfl)
  cF := He.cls_ok (c.fact 9 (f := .cls "Fd") rfl)
  cC := He.cls_ok (c.fact 13 (f := .cls "StateChase") rfl)
  iT := ins_of (He.cls_ok (c.fact 5 (f := .cls "Table") rfl)) iT
  iF := ins_of (He.cls_ok (c.fact 9 (f := .cls "Fd") rfl)) iF
  gS := He.glo_ok X G (c.fact 0 (f := .glo "Store") rfl)
  gT := He.glo_ok X G (c.fact 4 (f := .glo "Table") rfl)
  gF := He.glo_ok X G (c.fact 8 (f := .glo "Fd") rfl)
  gC := He.glo_ok X G (c.fact 12 (f := .glo "StateChase") rfl)
  sCount := He.noat_ok (c.fact 18 (f := .noat "Store" "count") rfl)
  sDeps := He.noat_ok (c.fact 19 (f := .noat "Store" "dependencies") rfl)
  sHeld := He.noat_ok (c.fact 20 (f := .noat "Store" "held") rfl)
  sIdx := He.noat_ok (c.fact 21 (f := .noat "Store" "indexes") rfl)
  sChg := He.noat_ok (c.fact 22 (f := .noat "Store" "changes") rfl)
  fL := He.noat_ok (c.fact 23 (f := .noat "Fd" "left") rfl)
  fR := He.noat_ok (c.fact 24 (f := .noat "Fd" "right") rfl)
  tC := He.noat_ok (c.fact 25 (f := .noat "Table" "columns") rfl)
  tR := He.noat_ok (c.fact 26 (f := .noat "Table" "rows") rfl)
  cDeps := He.noat_ok (c.fact 27 (f := .noat "StateChase" "dependencies") rfl)
  cRows := He.noat_ok (c.fact 28 (f := .noat "StateChase" "rows") rfl)
  cSteps := He.noat_ok (c.fact 29 (f := .noat "StateChase" "steps") rfl)
  cClash := He.noat_ok (c.fact 30 (f := .noat "StateChase" "has_clash") rfl)
  tup := He.free_ok X G (c.fact 57 (f := .free "tuple") rfl)
  enu := He.free_ok X G (c.fact 58 (f := .free "enumerate") rfl)
  srt := He.free_ok X G (c.fact 59 (f := .free "sorted") rfl)
  lis := He.free_ok X G (c.fact 60 (f := .free "list") rfl)
  len := He.free_ok X G (c.fact 61 (f := .free "len") rfl)
  set := He.free_ok X G (c.fact 62 (f := .free "set") rfl)
  rng := He.free_ok X G (c.fact 63 (f := .free "range") rfl)
  all := He.free_ok X G (c.fact 64 (f := .free "all") rfl)
  any := He.free_ok X G (c.fact 65 (f := .free "any") rfl)
  isi := He.free_ok X G (c.fact 66 (f := .free "isinstance") rfl)
  rev := He.free_ok X G (c.fact 67 (f := .free "reversed") rfl)

theorem calls9 {base : Heap} (X0 : K.In base) (G0 : base.Ns mainGlobals mg) (c : He.SaysD fa fn K) (Z : E9 K mg) (B : BrkU w K mg base (aB K)) (TB : LamX.TabB base mg (He.cT K tf9).1 (He.cT K tf9).2) : Calls9 w K mg base (aB K) := by
  obtain ⟨fdAsSet, FAsSet⟩ := c.def_ 5 (d := dAsSet) rfl
  have cAsSet : C8.Cal prog w K mg base _ "as_set" _ [] := ⟨_, _, _, _, ok_asSet FAsSet Z, He.glo_ok X0 G0 (c.fact 40 (f := .glo "as_set") rfl), FAsSet.kp, (FunD.bindsN (ps := ["columns"]) FAsSet fun _ _ _ _ _ _ us hl => match us, hl with | [_], _ => rfl), .nil⟩
  obtain ⟨fdWhole, FWhole⟩ := c.def_ 7 (d := dWhole) rfl
  have cWhole : C8.Cal prog w K mg base _ "whole" _ [] := ⟨_, _, _, _, ok_whole FWhole Z, He.glo_ok X0 G0 (c.fact 42 (f := .glo "whole") rfl), FWhole.kp, (FunD.bindsN (ps := ["count"]) FWhole fun _ _ _ _ _ _ us hl => match us, hl with | [_], _ => rfl), .nil⟩
  obtain ⟨fdWithin, FWithin⟩ := c.def_ 6 (d := dWithin) rfl
  have cWithin : C8.Cal prog w K mg base _ "is_within" _ [] := ⟨_, _, _, _, ok_within FWithin Z, He.glo_ok X0 G0 (c.fact 41 (f := .glo "is_within") rfl), FWithin.kp, (FunD.bindsN (ps := ["a", "b"]) FWithin fun _ _ _ _ _ _ us hl => match us, hl with | [_, _], _ => rfl), .nil⟩
  obtain ⟨fdAllSets, FAllSets⟩ := c.def_ 8 (d := dAllSets) rfl
  have cAllSets : C8.Cal prog w K mg base _ "all_sets" _ [] := ⟨_, _, _, _, ok_allSets FAllSets Z TB, He.glo_ok X0 G0 (c.fact 43 (f := .glo "all_sets") rfl), FAllSets.kp, (FunD.bindsN (ps := ["columns"]) FAllSets fun _ _ _ _ _ _ us hl => match us, hl with | [_], _ => rfl), .nil⟩
  obtain ⟨fdCells, FCells⟩ := c.def_ 12 (d := dCells) rfl
  have mCells : C8.Met prog w K mg base _ (He.ga K "Table") "cells" _ [] := ⟨_, _, _, _, He.cls_ok (c.fact 5 (f := .cls "Table") rfl), He.meth_ok (c.fact 37 (f := .meth "Table" "cells") rfl), ok_cells FCells Z, (FunD.bindsN (ps := ["self", "row", "columns"]) FCells fun _ _ _ _ _ _ us hl => match us, hl with | [_, _, _], _ => rfl), .nil⟩
  obtain ⟨fdTableI, FTableI⟩ := c.def_ 10 (d := dTableI) rfl
  have kTableI : C8.Mak prog w K mg base _ "Table" (He.ga K "Table") _ [] := ⟨_, _, _, _, He.mkr_ok (c.fact 6 (f := .mkr "Table") rfl), ok_tabI FTableI Z, He.glo_ok X0 G0 (c.fact 4 (f := .glo "Table") rfl), (FunD.bindsN (ps := ["self", "columns", "rows"]) FTableI fun _ _ _ _ _ _ us hl => match us, hl with | [_, _, _], _ => rfl), .nil⟩
  obtain ⟨fdFdI, FFdI⟩ := c.def_ 9 (d := dFdI) rfl
  have kFdI : C8.Mak prog w K mg base _ "Fd" (He.ga K "Fd") _ [] := ⟨_, _, _, _, He.mkr_ok (c.fact 10 (f := .mkr "Fd") rfl), ok_fdI FFdI Z cAsSet, He.glo_ok X0 G0 (c.fact 8 (f := .glo "Fd") rfl), (FunD.bindsN (ps := ["self", "left", "right"]) FFdI fun _ _ _ _ _ _ us hl => match us, hl with | [_, _, _], _ => rfl), .nil⟩
  obtain ⟨fdStoreI, FStoreI⟩ := c.def_ 0 (d := dStoreI) rfl
  have kStoreI : C8.Mak prog w K mg base _ "Store" (He.ga K "Store") _ [] := ⟨_, _, _, _, He.mkr_ok (c.fact 2 (f := .mkr "Store") rfl), ok_storeI FStoreI Z, He.glo_ok X0 G0 (c.fact 0 (f := .glo "Store") rfl), (FunD.bindsN (ps := ["self", "count", "dependencies"]) FStoreI fun _ _ _ _ _ _ us hl => match us, hl with | [_, _, _], _ => rfl), .nil⟩
  obtain ⟨fdSides, FSides⟩ := c.def_ 1 (d := dSides) rfl
  have mSides : C8.Met prog w K mg base _ (He.ga K "Store") "sides" _ [] := ⟨_, _, _, _, He.cls_ok (c.fact 1 (f := .cls "Store") rfl), He.meth_ok (c.fact 32 (f := .meth "Store" "sides") rfl), ok_sides FSides Z, (FunD.bindsN (ps := ["self", "index", "row"]) FSides fun _ _ _ _ _ _ us hl => match us, hl with | [_, _, _], _ => rfl), .nil⟩
  obtain ⟨fdPut, FPut⟩ := c.def_ 2 (d := dPut) rfl
  have mPut : C8.Met prog w K mg base _ (He.ga K "Store") "put" _ [] := ⟨_, _, _, _, He.cls_ok (c.fact 1 (f := .cls "Store") rfl), He.meth_ok (c.fact 33 (f := .meth "Store" "put") rfl), ok_put FPut Z mSides, (FunD.bindsN (ps := ["self", "row"]) FPut fun _ _ _ _ _ _ us hl => match us, hl with | [_, _], _ => rfl), .nil⟩
  obtain ⟨fdRows, FRows⟩ := c.def_ 4 (d := dRows) rfl
  have mRows : C8.Met prog w K mg base _ (He.ga K "Store") "rows" _ [] := ⟨_, _, _, _, He.cls_ok (c.fact 1 (f := .cls "Store") rfl), He.meth_ok (c.fact 35 (f := .meth "Store" "rows") rfl), ok_rowsM FRows Z, (FunD.bindsN (ps := ["self"]) FRows fun _ _ _ _ _ _ us hl => match us, hl with | [_], _ => rfl), .nil⟩
  obtain ⟨fdKeepsFd, FKeepsFd⟩ := c.def_ 13 (d := dKeepsFd) rfl
  have cKeepsFd : C8.Cal prog w K mg base _ "keeps_fd" _ [] := ⟨_, _, _, _, ok_keepsFd FKeepsFd Z mCells, He.glo_ok X0 G0 (c.fact 44 (f := .glo "keeps_fd") rfl), FKeepsFd.kp, (FunD.bindsN (ps := ["table", "dependency"]) FKeepsFd fun _ _ _ _ _ _ us hl => match us, hl with | [_, _], _ => rfl), .nil⟩
  obtain ⟨fdKeeps, FKeeps⟩ := c.def_ 14 (d := dKeeps) rfl
  have cKeeps : C8.Cal prog w K mg base _ "keeps" _ [] := ⟨_, _, _, _, ok_keeps FKeeps Z cKeepsFd, He.glo_ok X0 G0 (c.fact 45 (f := .glo "keeps") rfl), FKeeps.kp, (FunD.bindsN (ps := ["table", "dependency"]) FKeeps fun _ _ _ _ _ _ us hl => match us, hl with | [_, _], _ => rfl), .nil⟩
  obtain ⟨fdBreaks, FBreaks⟩ := c.def_ 15 (d := dBreaks) rfl
  have cBreaks : C8.Cal prog w K mg base _ "breaks" _ [] := ⟨_, _, _, _, ok_breaks FBreaks Z mCells, He.glo_ok X0 G0 (c.fact 46 (f := .glo "breaks") rfl), FBreaks.kp, (FunD.bindsN (ps := ["table", "dependency", "first", "second"]) FBreaks fun _ _ _ _ _ _ us hl => match us, hl with | [_, _, _, _], _ => rfl), .nil⟩
  obtain ⟨fdConfl, FConfl⟩ := c.def_ 16 (d := dConfl) rfl
  have cConfl : C8.Cal prog w K mg base _ "conflicts" _ [] := ⟨_, _, _, _, ok_confl FConfl Z cBreaks, He.glo_ok X0 G0 (c.fact 47 (f := .glo "conflicts") rfl), FConfl.kp, (FunD.bindsN (ps := ["table", "dependencies"]) FConfl fun _ _ _ _ _ _ us hl => match us, hl with | [_, _], _ => rfl), .nil⟩
  obtain ⟨fdRepairs, FRepairs⟩ := c.def_ 17 (d := dRepairs) rfl
  have cRepairs : C8.Cal prog w K mg base _ "repairs" _ [] := ⟨_, _, _, _, ok_repairs FRepairs Z cConfl cAllSets cWhole cWithin kTableI, He.glo_ok X0 G0 (c.fact 48 (f := .glo "repairs") rfl), FRepairs.kp, (FunD.bindsN (ps := ["table", "dependencies"]) FRepairs fun _ _ _ _ _ _ us hl => match us, hl with | [_, _], _ => rfl), .nil⟩
  obtain ⟨fdFirst, FFirst⟩ := c.def_ 18 (d := dFirst) rfl
  have cFirst : C8.Cal prog w K mg base _ "first_rows" _ [] := ⟨_, _, _, _, ok_first FFirst Z cWhole, He.glo_ok X0 G0 (c.fact 49 (f := .glo "first_rows") rfl), FFirst.kp, (FunD.bindsN (ps := ["count", "tables"]) FFirst fun _ _ _ _ _ _ us hl => match us, hl with | [_, _], _ => rfl), .nil⟩
  obtain ⟨fdChaseI, FChaseI⟩ := c.def_ 19 (d := dChaseI) rfl
  have kChaseI : C8.Mak prog w K mg base _ "StateChase" (He.ga K "StateChase") _ [] := ⟨_, _, _, _, He.mkr_ok (c.fact 14 (f := .mkr "StateChase") rfl), ok_chaseI FChaseI Z cFirst, He.glo_ok X0 G0 (c.fact 12 (f := .glo "StateChase") rfl), (FunD.bindsN (ps := ["self", "count", "dependencies", "tables"]) FChaseI fun _ _ _ _ _ _ us hl => match us, hl with | [_, _, _, _], _ => rfl), .nil⟩
  obtain ⟨fdNext, FNext⟩ := c.def_ 20 (d := dNext) rfl
  have mNext : C8.Met prog w K mg base _ (He.ga K "StateChase") "next_step" _ [] := ⟨_, _, _, _, He.cls_ok (c.fact 13 (f := .cls "StateChase") rfl), He.meth_ok (c.fact 38 (f := .meth "StateChase" "next_step") rfl), ok_next FNext Z, (FunD.bindsN (ps := ["self"]) FNext fun _ _ _ _ _ _ us hl => match us, hl with | [_], _ => rfl), .nil⟩
  obtain ⟨fdRun, FRun⟩ := c.def_ 21 (d := dRun) rfl
  have mRun : C8.Met prog w K mg base _ (He.ga K "StateChase") "run" _ [] := ⟨_, _, _, _, He.cls_ok (c.fact 13 (f := .cls "StateChase") rfl), He.meth_ok (c.fact 39 (f := .meth "StateChase" "run") rfl), ok_run FRun Z mNext, (FunD.bindsN (ps := ["self"]) FRun fun _ _ _ _ _ _ us hl => match us, hl with | [_], _ => rfl), .nil⟩
  obtain ⟨fdWindow, FWindow⟩ := c.def_ 22 (d := dWindow) rfl
  have cWindow : C8.Cal prog w K mg base _ "window" _ [] := ⟨_, _, _, _, ok_window FWindow Z kChaseI mRun kTableI, He.glo_ok X0 G0 (c.fact 50 (f := .glo "window") rfl), FWindow.kp, (FunD.bindsN (ps := ["count", "dependencies", "tables", "columns"]) FWindow fun _ _ _ _ _ _ us hl => match us, hl with | [_, _, _, _], _ => rfl), .nil⟩
  obtain ⟨fdNumbers, FNumbers⟩ := c.def_ 23 (d := dNumbers) rfl
  have cNumbers : C8.Cal prog w K mg base _ "_law_numbers" _ [] := ⟨_, _, _, _, ok_numbers FNumbers Z, He.glo_ok X0 G0 (c.fact 51 (f := .glo "_law_numbers") rfl), FNumbers.kp, (FunD.bindsN (ps := ["_law_script", "_law_count"]) FNumbers fun _ _ _ _ _ _ us hl => match us, hl with | [_, _], _ => rfl), .nil⟩
  obtain ⟨fdSparse, FSparse⟩ := c.def_ 24 (d := dSparse) rfl
  have cSparse : C8.Cal prog w K mg base _ "_law_sparse" _ [] := ⟨_, _, _, _, ok_sparse FSparse Z, He.glo_ok X0 G0 (c.fact 52 (f := .glo "_law_sparse") rfl), FSparse.kp, (FunD.bindsN (ps := ["_law_number", "_law_count"]) FSparse fun _ _ _ _ _ _ us hl => match us, hl with | [_, _], _ => rfl), .nil⟩
  obtain ⟨fdFds, FFds⟩ := c.def_ 25 (d := dFds) rfl
  have cFds : C8.Cal prog w K mg base _ "_law_fds" _ [] := ⟨_, _, _, _, ok_fds FFds Z cSparse, He.glo_ok X0 G0 (c.fact 53 (f := .glo "_law_fds") rfl), FFds.kp, (FunD.bindsN (ps := ["_law_numbers_here", "_law_place", "_law_count"]) FFds fun _ _ _ _ _ _ us hl => match us, hl with | [_, _, _], _ => rfl), .nil⟩
  obtain ⟨fdLCells, FLCells⟩ := c.def_ 26 (d := dLCells) rfl
  have cLCells : C8.Cal prog w K mg base _ "_law_cells" _ [] := ⟨_, _, _, _, ok_lcells FLCells Z, He.glo_ok X0 G0 (c.fact 54 (f := .glo "_law_cells") rfl), FLCells.kp, (FunD.bindsN (ps := ["_law_numbers_here", "_law_place", "_law_count", "_law_most", "_law_values"]) FLCells fun _ _ _ _ _ _ us hl => match us, hl with | [_, _, _, _, _], _ => rfl), .nil⟩
  obtain ⟨fdRowsOf, FRowsOf⟩ := c.def_ 27 (d := dRowsOf) rfl
  have cRowsOf : C8.Cal prog w K mg base _ "_law_rows_of" _ [] := ⟨_, _, _, _, ok_rowsOf FRowsOf Z, He.glo_ok X0 G0 (c.fact 55 (f := .glo "_law_rows_of") rfl), FRowsOf.kp, (FunD.bindsN (ps := ["_law_cells_here"]) FRowsOf fun _ _ _ _ _ _ us hl => match us, hl with | [_], _ => rfl), .nil⟩
  obtain ⟨fdTableE, FTableE⟩ := c.def_ 11 (d := dTableE) rfl
  obtain ⟨fdInsert, FInsert⟩ := c.def_ 3 (d := dInsert) rfl
  exact ⟨B, He.exm_ok (c.fact 17 (f := .exm "Broken" "Broken" true) rfl), cNumbers, cFds, cLCells, cRowsOf, kFdI, kStoreI, kTableI, mRows, ⟨_, _, He.meth_ok (c.fact 34 (f := .meth "Store" "insert") rfl), ok_insert FInsert Z B mSides mPut, (FunD.bindsN (ps := ["self", "row"]) FInsert fun _ _ _ _ _ _ us hl => match us, hl with | [_, _], _ => rfl)⟩,
    ⟨_, _, ok_tabE FTableE Z, (He.meth_ok (c.fact 36 (f := .meth "Table" "__eq__") rfl)).at_, (He.meth_ok (c.fact 36 (f := .meth "Table" "__eq__") rfl)).fn, (FunD.bindsN (ps := ["self", "other"]) FTableE fun _ _ _ _ _ _ us hl => match us, hl with | [_, _], _ => rfl)⟩, cKeeps, cConfl, cRepairs, cWindow⟩

theorem brk_of {base : Heap} (X0 : K.In base) (G0 : base.Ns mainGlobals mg) (c : He.SaysD fa fn K) (ex : ex9a K = true) (hb : bkObs K = bkVal) : BrkU w K mg base (aB K) := by
  unfold ex9a at ex
  obtain ⟨h1, ex⟩ := He.ba ex
  obtain ⟨h2, ex⟩ := He.ba ex
  obtain ⟨h3, ex⟩ := He.ba ex
  obtain ⟨h4, ex⟩ := He.ba ex
  obtain ⟨h5, ex⟩ := He.ba ex
  obtain ⟨h6, ex⟩ := He.ba ex
  obtain ⟨h7, ex⟩ := He.ba ex
  obtain ⟨h8, ex⟩ := He.ba ex
  obtain ⟨h9, ex⟩ := He.ba ex
  obtain ⟨h10, ex⟩ := He.ba ex
  obtain ⟨h11, ex⟩ := He.ba ex
  obtain ⟨h12, h13⟩ := He.ba ex
  have T : OexC K (aB K) := ⟨cls_of h1, He.eqO_ok h3, of_decide_eq_true h4, of_decide_eq_true h5, h6⟩
  obtain ⟨fd, oc, od, osl, kV, doc, pm, ct, an, cda, cc, efd, rest⟩ := clo_of h2 hb
  have BF : BrkF K mg (aB K) (He.fAd K brkAt) fd := ⟨T, ⟨oc, od, osl, kV, doc, pm, ct, an, cda, cc, efd, rest⟩, He.eqO_ok h10, of_decide_eq_true h11, of_decide_eq_true h13, He.eqO_ok h12, He.noat_ok (c.fact 31 (f := .noat "Broken" "index") rfl), He.free_ok X0 G0 (c.fact 68 (f := .free "super") rfl)⟩
  refine ⟨T, ⟨_, fd, He.eqO_ok h7, of_decide_eq_true h8, ok_brk BF, ?_⟩, He.glo_ok X0 G0 (c.fact 16 (f := .glo "Broken") rfl)⟩
  subst efd
  exact .all fun us hl => match us, hl with | [_, _], _ => rfl
end
end K9

set_option maxHeartbeats 0
/-! The join: head, facts, walk. -/
namespace K9
open PySem L2
theorem facts9 {w : World} {K : PySem.W.Frag} {h : Heap} {mg : Str → Option Value} {f : Addr} (X : K.In h) (G : h.Ns mainGlobals mg) (hfa : mg ("law" : Str) = some (.ref f)) (c : Says9 w h K) :
    LamX.LawAtS PySem.Challenge.rw_followsortable_k94_whole_inserts_are_sta w K CX0 6 63 "_law_script" mg f h := by
  obtain ⟨ex, iTF⟩ := He.ba c.ex
  obtain ⟨iT, iF⟩ := He.ba iTF
  obtain ⟨fd, F⟩ := c.t.d.def_ 28 (d := dLaw) rfl
  have e := hfa.symm.trans (He.glo_ok X G (c.t.d.fact 56 (f := .glo "law") rfl))
  cases e
  have b := FunD.bindsA (ps := ["_law_script"]) F fun _ _ _ _ _ _ us hl => match us, hl with | [_], _ => rfl
  refine ⟨fd, [He.cT K tf9], spLaw K, ?_, ?_, ?_, fun s v => b s [v] rfl, ?_, ?_⟩
  · intro p hp
    rw [List.mem_singleton.mp hp]
    exact c.empty
  · intro p hp
    rw [List.mem_singleton.mp hp]
    exact c.out
  · intro p hp
    rw [List.mem_singleton.mp hp]
    exact PySem.W.codeHd_of_K X c.hd
  · intro H a ns hl _ hT hS
    exact ⟨a, ns, rfl, hS, hl, LamX.TabS.nil (hT _ (List.mem_singleton.mpr rfl)), fun _ => rfl⟩
  · intro base X0 G0 TBs
    have Z := e9_of X0 G0 c.t.d iT iF
    exact ok_law F Z (calls9 X0 G0 c.t.d Z (brk_of X0 G0 c.t.d ex c.bk) (TBs _ (List.mem_singleton.mpr rfl)))
end K9
open PySem PySem.W PySem.Calls PyProof.Rows
theorem PySem.Challenge.cw_followsortable_k94_whole_inserts_are_sta_holds : PySem.Challenge.rw_followsortable_k94_whole_inserts_are_sta.Holds := by
  w_on; o_law
  refine HandSHeadRun.head_any (r := OpenLaw.row PySem.Challenge.rw_followsortable_k94_whole_inserts_are_sta) (q := view (OpenLaw.row PySem.Challenge.rw_followsortable_k94_whole_inserts_are_sta).prog [49]) (H := K9.hook9) (ob := K9.ob9) (M := 20000) (loose := K9.looseA ++ K9.looseB) (d := HandSHeadRun.topDef (OpenLaw.row PySem.Challenge.rw_followsortable_k94_whole_inserts_are_sta).prog 49) (kwd := []) K9.ob9_eq
    (by kernel_rfl) (fun s => by kernel_rfl) K9.run9 (by kernel_rfl) (by kernel_rfl) (by kernel_rfl) (by rfl) (by first | assumption | decide +kernel) (by decide +kernel) ⟨rfl, rfl, rfl, rfl, rfl, by decide +kernel⟩ ?hw ?hc
  case hw => w_witness2
  case hc =>
    refine LamX.walk_ofTsE (l := PySem.Challenge.rw_followsortable_k94_whole_inserts_are_sta) (n := 63) (k := 6) (x := "_law_script") (CX := fun _ => L2.CX0) rfl (by decide) (by kernel_rfl) ⟨rfl, by decide, by decide⟩ ?F (fun _ _ _ _ _ z => z)
    intro w mg fa h Y G hmg0
    obtain ⟨K, KX, c⟩ := Y
    have hmg : mg ("law" : PySem.Str) = some (.ref fa) := by
      have e : (HandSHeadRun.topDef (OpenLaw.row PySem.Challenge.rw_followsortable_k94_whole_inserts_are_sta).prog 49).name = ("law" : PySem.Str) := by kernel_rfl
      rw [← e]
      exact hmg0
    exact ⟨K, KX, K9.facts9 KX G hmg c⟩
