import PyProof.Rows.All
import HandS.ForMost
import HandS.IsInst
import HandS.HeadHook2
import HandS.Property
import Wide.All
import OpenK.AllK
import Wide.FinOn
import KE.KStateDown
import HandS.Exc
import HandS.WordsExc
import HandS.Defaults
import HandS.Head0
import HandS.Head1
import HandS.Head2
import HandS.HeadEnd
import HandS.HeadHook1
import HandS.Deep
import HandS.Dict
import HandS.ExcOwn
import HandS.TryOnly
import HandS.Star
import HandS.Flow
import HandS.Wide
import HandS.SortInts
import HandS.TupAny
import HandS.Conv
import HandS.Style
import KE.KSortedM
import HandS.CallSlots
import HandS.Zip
import HandS.SlotsOwn
import HandS.DictComp
import KE.KUnpackStar
import PyProof.RulesMatch
import PyProof.RulesMatchSeq
import PyProof.Rows.MatchSeqLen
import PyProof.AutoSeq1
import KE.KDictDisplayH
import PyProof.Rows.TupTab
import HandS.MakeKwOnly
import KE.GoesEnum
import HandS.IterVal
import HandS.OwnIter
import HandS.DictSub
import HandS.More
import PySem.Challenge.RW_plainask_k42_round_silences
set_option Elab.async false
set_option linter.all false
set_option maxRecDepth 100000
set_option maxHeartbeats 0
namespace Dl
open PySem L2
def ownB (K : PySem.W.Frag) (C : Addr) : Bool := He.eqO (PySem.W.findIn K (.ref C) "__class__") (some (some (.builtin "object.__class__"))) && (He.eqO (PySem.W.specialIn K (.builtin "object.__class__") "__get__") (some (some (.builtin "getset_descriptor.__get__"))) &&
 (decide (PySem.W.takesIn K (.builtin "object.__class__") = some true) && (decide (PySem.W.mroIn K C (.type "object") = some true) && (PySem.W.selfFirst K C && (He.eqO (PySem.W.findIn K (.ref C) "__len__") (some none) && He.eqO (PySem.W.findIn K (.ref C) "__length_hint__") (some none))))))
def obsE (cs : List Str) (fa : List He.Fa) (fn : List He.DefD) (K : PySem.W.Frag) : He.AlD × Bool := (He.obsD fa fn K, cs.all fun n => ownB K (He.ga K n))
def SaysE (cs : List Str) (fa : List He.Fa) (fn : List He.DefD) (K : PySem.W.Frag) : Prop := obsE cs fa fn K = (He.valD fn, true)
theorem SaysE.d {cs : List Str} {fa : List He.Fa} {fn : List He.DefD} {K : PySem.W.Frag} (h : SaysE cs fa fn K) : He.SaysD fa fn K := congrArg Prod.fst h
theorem SaysE.own {cs : List Str} {fa : List He.Fa} {fn : List He.DefD} {K : PySem.W.Frag} (h : SaysE cs fa fn K) {n : Str} (hn : n ∈ cs) : ownB K (He.ga K n) = true := List.all_eq_true.mp (show (cs.all fun n => ownB K (He.ga K n)) = true from congrArg Prod.snd h) n hn
end Dl
namespace Dl
open PySem L2
def gAt (K : PySem.W.Frag) (p : Addr) : Addr := match PySem.W.recIn K p "property" with
 | some (.ref g :: _) => g
 | _ => 0
def fnP (K : PySem.W.Frag) (d : He.DefD) : He.FnW := match K.lookup (gAt K (He.fAd K d.at_)) with
 | some ⟨_, _, .func fd, _⟩ => some (fd.name, fd.qualname, fd.params, fd.body, fd.scope, fd.globals, fd.closure, fd.builtins)
 | _ => none
def prB (K : PySem.W.Frag) (d : He.DefD) : Bool := He.eqO (PySem.W.findIn K (.ref (He.ga K d.at_.1)) (d.at_.2.getD "")) (some (some (.ref (He.fAd K d.at_)))) && (He.eqO (PySem.W.specialIn K (.ref (He.fAd K d.at_)) "__get__") (some (some (.builtin "property.__get__"))) &&
 (decide (PySem.W.takesIn K (.ref (He.fAd K d.at_)) = some true) && ((match PySem.W.recIn K (He.fAd K d.at_) "property" with
  | some (.ref _ :: _) => true
  | _ => false) && (PySem.W.keepIn K (.ref (gAt K (He.fAd K d.at_))) && (match K.lookup (gAt K (He.fAd K d.at_)) with
  | some ⟨_, _, .func fd, _⟩ => PySem.W.codeIn K fd.code d.qual && (He.dflB K fd.defaults (d.dvs K) && He.kwdB K fd.kwdefaults (d.kws K))
  | _ => false)))))
theorem pr_ok {K : PySem.W.Frag} {d : He.DefD} {m : Str} (hm : d.at_.2 = some m) (e : fnP K d = d.val) (c : prB K d = true) : ∃ (g : Addr) (fd : FuncData), L2.PropOf K (He.ga K d.at_.1) m (He.fAd K d.at_) g ∧ FunD K d.name d.qual d.params d.body d.scope (d.dvs K) (d.kws K) g fd := by
 obtain ⟨c1, c⟩ := He.ba c
 obtain ⟨c2, c⟩ := He.ba c
 obtain ⟨c3, c⟩ := He.ba c
 obtain ⟨c4, c⟩ := He.ba c
 obtain ⟨kp, c5⟩ := He.ba c
 rw [hm] at c1
 have q1 := He.eqO_ok c1
 have q2 := He.eqO_ok c2
 have q3 := of_decide_eq_true c3
 unfold fnP at e
 generalize He.fAd K d.at_ = p at *
 have q4 : ∃ rest, PySem.W.recIn K p "property" = some (.ref (gAt K p) :: rest) := by
  unfold gAt
  split at c4
  · rename_i g rest hr
    rw [hr]
    exact ⟨rest, rfl⟩
  · cases c4
 refine ⟨gAt K p, ?_⟩
 generalize gAt K p = g at *
 cases q : K.lookup g with
 | none =>
  rw [q] at c5
  cases c5
 | some o =>
  obtain ⟨oc, od, dt, osl⟩ := o
  rw [q] at c5 e
  cases dt with
  | func fd =>
   obtain ⟨n1, n2, n3, n4, n5, n6, n7, n8, n9, n10, n11, n12, n13, n14, n15⟩ := fd
   have e2 : (some (n1, n2, n3, n4, n5, n6, n7, n15) : He.FnW) = some (d.name, d.qual, d.params, .stmts d.body, d.scope, mainGlobals, [], builtinsNs) := e
   simp only [Option.some.injEq, Prod.mk.injEq] at e2
   obtain ⟨h1, h2, h3, h4, h5, h6, h7, h8⟩ := e2
   subst h1 h2 h3 h4 h5 h6 h7 h8
   have c6 : (PySem.W.codeIn K n13 d.qual && (He.dflB K n8 (d.dvs K) && He.kwdB K n9 (d.kws K))) = true := c5
   obtain ⟨k1, k2⟩ := He.ba c6
   obtain ⟨k3, k4⟩ := He.ba k2
   exact ⟨_, ⟨q1, q2, q3, q4⟩, ⟨oc, od, n8, n9, n10, n11, n12, n13, n14, osl, rfl, q, k1, He.dflB_ok k3, He.kwdB_ok k4⟩, kp⟩
  | _ => cases c5
abbrev AlP : Type := (He.AlD × Bool) × List He.FnW
def obsP (cs : List Str) (pr fn : List He.DefD) (fa : List He.Fa) (K : PySem.W.Frag) : AlP := ((He.obsD fa fn K, (cs.all fun n => ownB K (He.ga K n)) && pr.all fun d => prB K d), pr.map fun d => fnP K d)
def valP (pr fn : List He.DefD) : AlP := ((He.valD fn, true), pr.map He.DefD.val)
def SaysP (cs : List Str) (pr fn : List He.DefD) (fa : List He.Fa) (K : PySem.W.Frag) : Prop := obsP cs pr fn fa K = valP pr fn
def obsPG (n : Nat) (cs : List Str) (pr fn : List He.DefD) (fa : List He.Fa) (g : Addr → Option Obj) : AlP := obsP cs pr fn fa (He.frG g (He.asD g n))
def hookP (n : Nat) (cs : List Str) (pr fn : List He.DefD) (fa : List He.Fa) : PySem.W.Hook where
 α := AlP
 obs := fun s => obsPG n cs pr fn fa s.heap.get?
 val := fun _ => valP pr fn
 says := fun _ h => ∃ K : PySem.W.Frag, K.In h ∧ SaysP cs pr fn fa K
 of := fun _ _ e => ⟨_, He.frG_in, e⟩
 keeps := fun _ _ _ ⟨K, hK, c⟩ k => ⟨K, PySem.W.Frag.In.keeps hK k, c⟩
theorem obsPG_eq {n : Nat} {cs : List Str} {pr fn : List He.DefD} {fa : List He.Fa} {g : Addr → Option Obj} {s : Shared} (h : ∀ a, g a = s.heap.get? a) : obsPG n cs pr fn fa g = (hookP n cs pr fn fa).obs s := by
 have e : g = s.heap.get? := funext h
 rw [e] <;> rfl
section
variable {cs : List Str} {pr fn : List He.DefD} {fa : List He.Fa} {K : PySem.W.Frag}
theorem SaysP.d (h : SaysP cs pr fn fa K) : He.SaysD fa fn K := congrArg (fun z : AlP => z.1.1) h
theorem SaysP.more (h : SaysP cs pr fn fa K) : ((cs.all fun n => ownB K (He.ga K n)) && pr.all fun d => prB K d) = true := congrArg (fun z : AlP => z.1.2) h
theorem SaysP.own (h : SaysP cs pr fn fa K) {n : Str} (hn : n ∈ cs) : ownB K (He.ga K n) = true := List.all_eq_true.mp (He.ba h.more).1 n hn
theorem SaysP.prop (h : SaysP cs pr fn fa K) (i : Nat) {d : He.DefD} {m : Str} (hd : pr[i]? = some d := by rfl) (hm : d.at_.2 = some m := by rfl) : ∃ (g : Addr) (fd : FuncData), L2.PropOf K (He.ga K d.at_.1) m (He.fAd K d.at_) g ∧ FunD K d.name d.qual d.params d.body d.scope (d.dvs K) (d.kws K) g fd := by
 have e : pr.map (fun d => fnP K d) = pr.map He.DefD.val := congrArg (fun z : AlP => z.2) h
 have e2 : (pr.map fun d => fnP K d)[i]? = (pr.map He.DefD.val)[i]? := by rw [e]
 rw [List.getElem?_map, List.getElem?_map, hd] at e2
 exact pr_ok hm (Option.some.inj e2) (List.all_eq_true.mp (He.ba h.more).2 d (List.mem_of_getElem? hd))
end
end Dl
namespace My
open PySem PySem.Spec PyProof.Rows L2
def top (i : Nat) : Stmt := PySem.Challenge.pw_plainask_k42_round_silences.main.body.getD i (.Pass ⟨0, 0, 0, 0⟩)
abbrev s__wall : Stmt := top 0
def d__wall : He.DefD := ⟨("_wall", none), "_wall", "_wall", defArgs s__wall, defBody s__wall, defScope s__wall, [], []⟩
abbrev s_is_integer : Stmt := top 2
def d_is_integer : He.DefD := ⟨("is_integer", none), "is_integer", "is_integer", defArgs s_is_integer, defBody s_is_integer, defScope s_is_integer, [], []⟩
abbrev s_is_number : Stmt := top 3
def d_is_number : He.DefD := ⟨("is_number", none), "is_number", "is_number", defArgs s_is_number, defBody s_is_number, defScope s_is_number, [], []⟩
abbrev s_ascending : Stmt := top 4
def d_ascending : He.DefD := ⟨("ascending", none), "ascending", "ascending", defArgs s_ascending, defBody s_ascending, defScope s_ascending, [], []⟩
abbrev s_checked : Stmt := top 10
def d_checked : He.DefD := ⟨("checked", none), "checked", "checked", defArgs s_checked, defBody s_checked, defScope s_checked, [], []⟩
abbrev s_checked_cells : Stmt := top 11
def d_checked_cells : He.DefD := ⟨("checked_cells", none), "checked_cells", "checked_cells", defArgs s_checked_cells, defBody s_checked_cells, defScope s_checked_cells, [], []⟩
abbrev s_length_of : Stmt := top 12
def d_length_of : He.DefD := ⟨("length_of", none), "length_of", "length_of", defArgs s_length_of, defBody s_length_of, defScope s_length_of, [], []⟩
abbrev s_branch_of : Stmt := top 13
def d_branch_of : He.DefD := ⟨("branch_of", none), "branch_of", "branch_of", defArgs s_branch_of, defBody s_branch_of, defScope s_branch_of, [], []⟩
abbrev s_rows_at : Stmt := top 14
def d_rows_at : He.DefD := ⟨("rows_at", none), "rows_at", "rows_at", defArgs s_rows_at, defBody s_rows_at, defScope s_rows_at, [], []⟩
abbrev sZcell : Stmt := top 21
def dZcell : He.DefD := ⟨("_law_cell", none), "_law_cell", "_law_cell", defArgs sZcell, defBody sZcell, defScope sZcell, [], []⟩
abbrev sZsource : Stmt := top 22
def dZsource : He.DefD := ⟨("_law_source", none), "_law_source", "_law_source", defArgs sZsource, defBody sZsource, defScope sZsource, [], []⟩
abbrev sZdraw : Stmt := top 23
def dZdraw : He.DefD := ⟨("_law_draw", none), "_law_draw", "_law_draw", defArgs sZdraw, defBody sZdraw, defScope sZdraw, [], []⟩
abbrev sZfull : Stmt := top 24
def dZfull : He.DefD := ⟨("_law_full", none), "_law_full", "_law_full", defArgs sZfull, defBody sZfull, defScope sZfull, [], []⟩
abbrev sZsizes : Stmt := top 25
def dZsizes : He.DefD := ⟨("_law_sizes", none), "_law_sizes", "_law_sizes", defArgs sZsizes, defBody sZsizes, defScope sZsizes, [], []⟩
abbrev sZsplit : Stmt := top 26
def dZsplit : He.DefD := ⟨("_law_split", none), "_law_split", "_law_split", defArgs sZsplit, defBody sZsplit, defScope sZsplit, [], []⟩
abbrev sZtree : Stmt := top 27
def dZtree : He.DefD := ⟨("_law_tree", none), "_law_tree", "_law_tree", defArgs sZtree, defBody sZtree, defScope sZtree, [], []⟩
abbrev sZany_tree : Stmt := top 28
def dZany_tree : He.DefD := ⟨("_law_any_tree", none), "_law_any_tree", "_law_any_tree", defArgs sZany_tree, defBody sZany_tree, defScope sZany_tree, [], []⟩
abbrev sZsame : Stmt := top 29
def dZsame : He.DefD := ⟨("_law_same", none), "_law_same", "_law_same", defArgs sZsame, defBody sZsame, defScope sZsame, [], []⟩
abbrev sZat : Stmt := top 30
def dZat : He.DefD := ⟨("_law_at", none), "_law_at", "_law_at", defArgs sZat, defBody sZat, defScope sZat, [], []⟩
abbrev sZshows : Stmt := top 31
def dZshows : He.DefD := ⟨("_law_shows", none), "_law_shows", "_law_shows", defArgs sZshows, defBody sZshows, defScope sZshows, [], []⟩
abbrev sZstarted : Stmt := top 32
def dZstarted : He.DefD := ⟨("_law_started", none), "_law_started", "_law_started", defArgs sZstarted, defBody sZstarted, defScope sZstarted, [], []⟩
abbrev sZmoved : Stmt := top 33
def dZmoved : He.DefD := ⟨("_law_moved", none), "_law_moved", "_law_moved", defArgs sZmoved, defBody sZmoved, defScope sZmoved, [], []⟩
abbrev s_law : Stmt := top 34
def d_law : He.DefD := ⟨("law", none), "law", "law", defArgs s_law, defBody s_law, defScope s_law, [], []⟩
abbrev s_Tree_DinitD : Stmt := inClass (top 15) 0
def d_Tree_DinitD : He.DefD := ⟨("Tree", some "__init__"), "__init__", "Tree.__init__", defArgs s_Tree_DinitD, defBody s_Tree_DinitD, defScope s_Tree_DinitD, [], []⟩
abbrev s_Tree_DcallD : Stmt := inClass (top 15) 1
def d_Tree_DcallD : He.DefD := ⟨("Tree", some "__call__"), "__call__", "Tree.__call__", defArgs s_Tree_DcallD, defBody s_Tree_DcallD, defScope s_Tree_DcallD, [], []⟩
abbrev s_Tree_ends : Stmt := inClass (top 15) 2
def d_Tree_ends : He.DefD := ⟨("Tree", some "ends"), "ends", "Tree.ends", defArgs s_Tree_ends, defBody s_Tree_ends, defScope s_Tree_ends, [], []⟩
abbrev s_Tree_cut : Stmt := inClass (top 15) 3
def d_Tree_cut : He.DefD := ⟨("Tree", some "cut"), "cut", "Tree.cut", defArgs s_Tree_cut, defBody s_Tree_cut, defScope s_Tree_cut, [], []⟩
abbrev s_Round_DinitD : Stmt := inClass (top 19) 0
def d_Round_DinitD : He.DefD := ⟨("Round", some "__init__"), "__init__", "Round.__init__", defArgs s_Round_DinitD, defBody s_Round_DinitD, defScope s_Round_DinitD, [], [("patience", .int 3), ("default", .int 0)]⟩
abbrev s_Round_party : Stmt := inClass (top 19) 1
def d_Round_party : He.DefD := ⟨("Round", some "party"), "party", "Round.party", defArgs s_Round_party, defBody s_Round_party, defScope s_Round_party, [], []⟩
abbrev s_Round_cells : Stmt := inClass (top 19) 2
def d_Round_cells : He.DefD := ⟨("Round", some "cells"), "cells", "Round.cells", defArgs s_Round_cells, defBody s_Round_cells, defScope s_Round_cells, [], []⟩
abbrev s_Round_outcome : Stmt := inClass (top 19) 3
def d_Round_outcome : He.DefD := ⟨("Round", some "outcome"), "outcome", "Round.outcome", defArgs s_Round_outcome, defBody s_Round_outcome, defScope s_Round_outcome, [], []⟩
abbrev s_Round_go_on : Stmt := inClass (top 19) 4
def d_Round_go_on : He.DefD := ⟨("Round", some "go_on"), "go_on", "Round.go_on", defArgs s_Round_go_on, defBody s_Round_go_on, defScope s_Round_go_on, [], []⟩
abbrev s_Round_say : Stmt := inClass (top 19) 5
def d_Round_say : He.DefD := ⟨("Round", some "say"), "say", "Round.say", defArgs s_Round_say, defBody s_Round_say, defScope s_Round_say, [], []⟩
abbrev s_Round_wait : Stmt := inClass (top 19) 6
def d_Round_wait : He.DefD := ⟨("Round", some "wait"), "wait", "Round.wait", defArgs s_Round_wait, defBody s_Round_wait, defScope s_Round_wait, [], []⟩
abbrev s_Round_take : Stmt := inClass (top 19) 7
def d_Round_take : He.DefD := ⟨("Round", some "take"), "take", "Round.take", defArgs s_Round_take, defBody s_Round_take, defScope s_Round_take, [], []⟩
abbrev s_Round_honest : Stmt := inClass (top 19) 8
def d_Round_honest : He.DefD := ⟨("Round", some "honest"), "honest", "Round.honest", defArgs s_Round_honest, defBody s_Round_honest, defScope s_Round_honest, [], []⟩
def fn : List He.DefD := [d__wall, d_is_integer, d_is_number, d_ascending, d_checked, d_checked_cells, d_length_of, d_branch_of, d_rows_at, dZcell, dZsource, dZdraw, dZfull, dZsizes, dZsplit, dZtree, dZany_tree, dZsame, dZat, dZshows, dZstarted, dZmoved, d_law, d_Tree_DinitD, d_Tree_DcallD, d_Tree_ends, d_Tree_cut, d_Round_DinitD, d_Round_go_on, d_Round_say, d_Round_wait, d_Round_take, d_Round_honest]
def fa : List He.Fa := [.glo "_wall", .glo "is_integer", .glo "is_number", .glo "ascending", .glo "checked", .glo "checked_cells", .glo "length_of", .glo "branch_of", .glo "rows_at", .glo "_law_cell", .glo "_law_source", .glo "_law_draw", .glo "_law_full", .glo "_law_sizes", .glo "_law_split", .glo "_law_tree", .glo "_law_any_tree", .glo "_law_same", .glo "_law_at", .glo "_law_shows", .glo "_law_started", .glo "_law_moved", .glo "law", .glo "AskError", .exc "AskError", .glo "BadTree", .glo "BadAnswer", .glo "Tree", .cls "Tree", .meth "Tree" "__init__", .mkr "Tree", .meth "Tree" "__call__", .meth "Tree" "ends", .meth "Tree" "cut", .noat "Tree" "length", .noat "Tree" "rows", .glo "Round", .cls "Round", .meth "Round" "__init__", .mkr "Round", .meth "Round" "go_on", .meth "Round" "say", .meth "Round" "wait", .meth "Round" "take", .meth "Round" "honest", .noat "Round" "default", .noat "Round" "history", .noat "Round" "path", .noat "Round" "patience", .noat "Round" "rows", .noat "Round" "silences", .free "ValueError", .free "bool", .free "enumerate", .free "int", .free "isinstance", .free "len", .free "list", .free "max", .free "min", .free "property", .free "range", .free "sorted", .free "str", .free "super", .free "tuple", .int "PATIENCE" 3, .int "FIRST" 0]
abbrev R : PySem.W.OpenRow := PySem.W.OpenLaw.row PySem.Challenge.rw_plainask_k42_round_silences
def ocs : List Str := ["Tree", "Round"]
def prs : List He.DefD := [d_Round_party, d_Round_cells, d_Round_outcome]
abbrev hk : PySem.W.Hook := Dl.hookP 6 ocs prs fn fa
def ob (s : PySem.W.SharedT) : Dl.AlP := Dl.obsPG 6 ocs prs fn fa (HandSHeadRun.getT s)
theorem ob_eq (s : PySem.W.SharedT) : ob s = hk.obs s.abs := Dl.obsPG_eq (HandSHeadRun.getT_eq s)
def loose : List Str := (["_wall", "is_integer", "is_number", "ascending", "AskError", "BadTree", "BadAnswer", "checked", "checked_cells", "length_of", "branch_of", "rows_at", "Tree", "PATIENCE", "FIRST", "Round", "_law_cell", "_law_source", "_law_draw", "_law_full", "_law_sizes", "_law_split", "_law_tree", "_law_any_tree", "_law_same", "_law_at", "_law_shows", "_law_started", "_law_moved"] : List Str)
theorem run (w : World) : HandSHeadRun.RunEq R (PySem.W.view R.prog [34]) hk ob 8000 loose w := by
 intro os
 kernel_rfl
end My
namespace Dn
open PySem
open Sem (wp)
section
variable {prog : Program} {w : World} {K : Type} [DecidableEq K] (knd : KeyKind prog w K)
inductive TuplesAre (h : Heap) : List (List K) → List Value → Prop
 | nil : TuplesAre h [] []
 | cons {k : List K} {b : Addr} {ks : List (List K)} {vs : List Value} : IsTupleKey knd h k b → TuplesAre h ks vs → TuplesAre h (k :: ks) (.ref b :: vs)
def IsTup2 (h : Heap) (ks : List (List K)) (a : Addr) : Prop := ∃ o items n, h.get? a = some o ∧ o.cls = .type "tuple" ∧ o.data = .seq items n ∧ TuplesAre knd h ks items.toList
variable {knd}
theorem TuplesAre.inj {h : Heap} {x y : List (List K)} {vs : List Value} (hx : TuplesAre knd h x vs) (hy : TuplesAre knd h y vs) : x = y := by
 induction hx generalizing y with
 | nil => cases hy; rfl
 | cons h1 _ ih =>
  cases hy with
  | cons h2 t2 => rw [h1.inj h2, ih t2]
theorem IsTup2.typeIs {s : Shared} {ks : List (List K)} {a : Addr} (x : IsTup2 knd s.heap ks a) : s.TypeIs (.ref a) "tuple" := let ⟨o, _, _, ho, hc, _⟩ := x; ⟨o, ho, hc⟩
theorem IsTup2.inj {h : Heap} {a : Addr} {x y : List (List K)} (hx : IsTup2 knd h x a) (hy : IsTup2 knd h y a) : x = y := by
 obtain ⟨o, items, n, ho, _, hd, hi⟩ := hx
 obtain ⟨o', items', n', ho', _, hd', hi'⟩ := hy
 obtain rfl : o = o' := Option.some.inj (ho.symm.trans ho')
 rw [hd] at hd'
 injection hd' with h1 _
 subst h1
 exact hi.inj hi'
theorem TuplesAre.keeps {h h' : Heap} {ks : List (List K)} {vs : List Value} {d : Addr} {o : Obj} {es ep} (x : TuplesAre knd h ks vs) (ho : h.get? d = some o) (hd : o.data = .dict es ep) (hs : Heap.SameBut d h h') : TuplesAre knd h' ks vs := by
 induction x with
 | nil => exact .nil
 | cons h1 _ ih => exact .cons (h1.keeps ho hd hs) ih
theorem IsTup2.keeps {h h' : Heap} {ks : List (List K)} {a d : Addr} {o : Obj} {es ep} (x : IsTup2 knd h ks a) (ho : h.get? d = some o) (hd : o.data = .dict es ep) (hs : Heap.SameBut d h h') : IsTup2 knd h' ks a := by
 obtain ⟨o', items, n, ho', hc, hd', hi⟩ := x
 have hne : a ≠ d := by
  rintro rfl
  obtain rfl : o' = o := Option.some.inj (ho'.symm.trans ho)
  rw [hd] at hd'; exact nomatch hd'
 exact ⟨o', items, n, (hs.2 a hne).trans ho', hc, hd', hi.keeps ho hd hs⟩
variable {A : Around} {E : Value → Shared → Prop} {s : Shared}
end
end Dn
namespace Dn
open PySem L2 PySem.Spec
abbrev K2 := List (List Int)
def hash2 (k : K2) : Int := reduceHash (Builtin.Tuple.tupleHashOf (k.map fun r => reduceHash (Builtin.Tuple.tupleHashOf (r.map hashInt))))
abbrev NT : List (K2 × Addr × V) → List (K2 × Addr × Value) → Prop := Paired fun p q => p.1 = q.1 ∧ p.2.1 = q.2.1 ∧ RelV p.2.2 q.2.2
def ent (x : K2 × Addr × Value) : DictEntry := ⟨hash2 x.1, .ref x.2.1, x.2.2⟩
def ndφ (a : Addr) (kvs : List (K2 × Addr × V)) (h : Heap) : Prop :=
 kvs.length ≤ sizeLine ∧ (a == sysModules) = false ∧ ∃ xs, NT kvs xs ∧ ∃ o es ep, h.get? a = some o ∧ o.ExactDict ∧ o.data = .dict es ep ∧ es.toList = xs.map ent ∧ (xs.map (·.1)).Nodup
def NDo (a : Addr) (kvs : List (K2 × Addr × V)) : HO := .ext (ndφ a kvs)
def ndGet (kvs : List (K2 × Addr × V)) (k : K2) : Option V := (kvs.find? fun p => decide (p.1 = k)).map (·.2.2)
def ndPut (kvs : List (K2 × Addr × V)) (k : K2) (b : Addr) (v : V) : List (K2 × Addr × V) :=
 if (ndGet kvs k).isSome = true then kvs.map (fun p => if p.1 = k then (p.1, p.2.1, v) else p) else kvs ++ [(k, b, v)]
theorem NT.val {kvs : List (K2 × Addr × V)} {xs : List (K2 × Addr × Value)} (r : NT kvs xs) (k : K2) : RelO (ndGet kvs k) ((atKey xs k).map (·.2)) := by
 induction r with
 | nil => exact True.intro
 | @cons p q ps qs h t ih =>
  obtain ⟨h1, _, h2⟩ := h
  by_cases e : p.1 = k
  · have e' : q.1 = k := h1.symm.trans e
    have b : atKey (q :: qs) k = some q.2 := by simp [atKey, List.find?_cons, e']
    have b' : ndGet (p :: ps) k = some p.2.2 := by simp [ndGet, List.find?_cons, e]
    rw [b', b]; exact h2
  · have e' : ¬ q.1 = k := fun z => e (h1.trans z)
    have b : atKey (q :: qs) k = atKey qs k := by simp [atKey, List.find?_cons, e']
    have b' : ndGet (p :: ps) k = ndGet ps k := by simp [ndGet, List.find?_cons, e]
    rw [b', b]; exact ih
theorem NT.repl {kvs : List (K2 × Addr × V)} {xs : List (K2 × Addr × Value)} (r : NT kvs xs) (k : K2) {y : V} {u : Value} (ry : RelV y u) :
  NT (kvs.map fun p => if p.1 = k then (p.1, p.2.1, y) else p) (xs.map (putAt k u)) := by
 induction r with
 | nil => exact .nil
 | @cons p q ps qs h t ih =>
  rw [List.map_cons, List.map_cons]
  refine .cons ?_ ih
  obtain ⟨h1, h2, h3⟩ := h
  unfold putAt
  by_cases e : p.1 = k
  · rw [if_pos e, if_pos (h1.symm.trans e)]; exact ⟨h1, h2, ry⟩
  · rw [if_neg e, if_neg (fun z => e (h1.trans z))]; exact ⟨h1, h2, h3⟩
theorem NT.put {kvs : List (K2 × Addr × V)} {xs : List (K2 × Addr × Value)} (r : NT kvs xs) (k : K2) {b : Addr} {y : V} {u : Value} (ry : RelV y u) : NT (ndPut kvs k b y) (storedH xs k b u) := by
 have e : (ndGet kvs k).isSome = (atKey xs k).isSome := by
  rw [(r.val k).isSome_eq, Option.isSome_map]
 unfold ndPut storedH
 rw [e]
 by_cases q : (atKey xs k).isSome = true
 · rw [if_pos q, if_pos q]; exact r.repl k ry
 · rw [if_neg q, if_neg q]; exact Paired.snoc r ⟨rfl, rfl, ry⟩
section
variable {P : Program} {w : World} {H : Hp} {h : Heap} {a : Addr} {kvs : List (K2 × Addr × V)}
theorem ndφ.ext {h' : Heap} (x : ndφ a kvs h) (st : ∀ o, h.get? a = some o → h'.get? a = some o) : ndφ a kvs h' := by
 obtain ⟨z1, z2, xs, r, o, es, ep, h1, h2⟩ := x
 exact ⟨z1, z2, xs, r, o, es, ep, st o h1, h2⟩
def Keys (P : Program) (w : World) (h : Heap) (kvs : List (K2 × Addr × V)) : Prop := ∀ p ∈ kvs, IsTup2 (PySem.intKind P w) h p.1 p.2.1
end
section
variable {X : Cx} {pins : List (Addr × Obj)} {σ : St} {H : Hp} {s : Shared} {a b : Addr} {k : K2} {kvs : List (K2 × Addr × V)} {v : V} {r : Value} {A : Around} {E : Value → Shared → Prop}
end
end Dn
namespace Dl
open PySem L2
inductive D where
 | non | bl (b : Bool) | int (i : Int) | str (x : Str)
 | lst (xs : List D) | tup (xs : List D)
 | obj (c : Str) (ns : List Str) (ds : List D)
 | dic (ks vs : List D)
 | scr (ns : List Int)
 | ty (n : String) | cls (c : Str)
 | loc (a : Addr)
 | ndi (ks vs : List D)
 deriving Inhabited
def keyD (k : Dn.K2) : D := .tup (k.map fun r => .tup (r.map .int))
section
variable (K : PySem.W.Frag) (G : Hp)
mutual
def Rp : D → V → Prop
 | .non, v => v = .non
 | .bl b, v => v = .bl b
 | .int i, v => v = .int i
 | .str x, v => v = .str x
 | .lst ds, v => ∃ a xs, v = .ref a ∧ G a = some (.lst xs) ∧ RpL ds xs
 | .tup ds, v => ∃ a xs, v = .ref a ∧ SqT K G a xs ∧ RpL ds xs
 | .obj c ns ds, v => ∃ a dx xs, v = .ref a ∧ G a = some (.ins (He.ga K c) dx (ns.zip xs)) ∧ G dx = some (.own a) ∧ ns.length = ds.length ∧ RpL ds xs
 | .dic ks vs, v => ∃ a kvs, v = .ref a ∧ G a = some (.dK kvs) ∧ RpL ks (kvs.map fun p => kV p.1) ∧ RpL vs (kvs.map fun p => p.2)
 | .scr ns, v => ∃ a, v = .ref a ∧ SqL K G a (ns.map V.int)
 | .ty n, v => v = .ty n
 | .cls c, v => v = .ref (He.ga K c)
 | .loc a, v => v = .ref a
 | .ndi ks vs, v => ∃ a kvs, v = .ref a ∧ G a = some (Dn.NDo a kvs) ∧ ks = kvs.map (fun p => keyD p.1) ∧ RpL ks (kvs.map fun p => V.ref p.2.1) ∧ RpL vs (kvs.map fun p => p.2.2)
def RpL : List D → List V → Prop
 | [], xs => xs = []
 | d :: ds, xs => ∃ x r, xs = x :: r ∧ Rp d x ∧ RpL ds r
end
end
theorem Same.seqt {K : PySem.W.Frag} {H H' : Hp} {a : Addr} {xs : List V} (e : Same H H') (h : SqT K H a xs) : SqT K H' a xs := by
 rcases h with (h | ⟨o, h⟩) | h
 · exact .inl (.inl (e _ _ h))
 · exact .inl (.inr ⟨o, e _ _ h⟩)
 · exact .inr h
section
variable {K : PySem.W.Frag} {G G' : Hp}
mutual
theorem Rp.mono (e : Same G G') : ∀ (d : D) (v : V), Rp K G d v → Rp K G' d v
 | .non, _, h => h
 | .bl _, _, h => h
 | .int _, _, h => h
 | .str _, _, h => h
 | .lst ds, _, ⟨a, xs, h1, h2, h3⟩ => ⟨a, xs, h1, e _ _ h2, RpL.mono e ds xs h3⟩
 | .tup ds, _, ⟨a, xs, h1, h2, h3⟩ => ⟨a, xs, h1, Same.seqt e h2, RpL.mono e ds xs h3⟩
 | .obj c ns ds, _, ⟨a, dx, xs, h1, h2, h3, hl, h4⟩ => ⟨a, dx, xs, h1, e _ _ h2, e _ _ h3, hl, RpL.mono e ds xs h4⟩
 | .dic ks vs, _, ⟨a, kvs, h1, h2, h3, h4⟩ => ⟨a, kvs, h1, e _ _ h2, RpL.mono e ks _ h3, RpL.mono e vs _ h4⟩
 | .scr ns, _, ⟨a, h1, h2⟩ => ⟨a, h1, e.seq h2⟩
 | .ty _, _, h => h
 | .cls _, _, h => h
 | .loc _, _, h => h
 | .ndi ks vs, _, ⟨a, kvs, h1, h2, h0, h3, h4⟩ => ⟨a, kvs, h1, e _ _ h2, h0, RpL.mono e ks _ h3, RpL.mono e vs _ h4⟩
theorem RpL.mono (e : Same G G') : ∀ (ds : List D) (xs : List V), RpL K G ds xs → RpL K G' ds xs
 | [], _, h => h
 | d :: ds, _, ⟨x, r, h1, h2, h3⟩ => ⟨x, r, h1, Rp.mono e d x h2, RpL.mono e ds r h3⟩
end
theorem RpL.length : ∀ {ds : List D} {xs : List V}, RpL K G ds xs → xs.length = ds.length
 | [], _, h => by cases h; rfl
 | d :: ds, _, ⟨x, r, h1, h2, h3⟩ => by rw [h1, List.length_cons, List.length_cons, h3.length]
theorem RpL.get : ∀ {ds : List D} {xs : List V} {i : Nat} {d : D}, RpL K G ds xs → ds[i]? = some d → ∃ x, xs[i]? = some x ∧ Rp K G d x
 | [], _, _, _, _, e => by cases e
 | d :: ds, _, 0, _, ⟨x, r, h1, h2, h3⟩, e => by
  rw [List.getElem?_cons_zero] at e; cases e
  exact ⟨x, by rw [h1]; rfl, h2⟩
 | d :: ds, _, i + 1, _, ⟨x, r, h1, h2, h3⟩, e => by
  rw [List.getElem?_cons_succ] at e
  obtain ⟨y, q1, q2⟩ := h3.get e
  exact ⟨y, by rw [h1, List.getElem?_cons_succ]; exact q1, q2⟩
theorem RpL.get' : ∀ {ds : List D} {xs : List V} {i : Nat} {x : V}, RpL K G ds xs → xs[i]? = some x → ∃ d, ds[i]? = some d ∧ Rp K G d x
 | [], _, _, _, h, e => by cases h; cases e
 | d :: ds, _, 0, _, ⟨x, r, h1, h2, h3⟩, e => by
  rw [h1, List.getElem?_cons_zero] at e; cases e
  exact ⟨d, rfl, h2⟩
 | d :: ds, _, i + 1, _, ⟨x, r, h1, h2, h3⟩, e => by
  rw [h1, List.getElem?_cons_succ] at e
  obtain ⟨y, q1, q2⟩ := h3.get' e
  exact ⟨y, by rw [List.getElem?_cons_succ]; exact q1, q2⟩
theorem RpL.append : ∀ {ds es : List D} {xs ys : List V}, RpL K G ds xs → RpL K G es ys → RpL K G (ds ++ es) (xs ++ ys)
 | [], _, _, _, h, k => by cases h; exact k
 | d :: ds, _, _, _, ⟨x, r, h1, h2, h3⟩, k => ⟨x, r ++ _, by rw [h1]; rfl, h2, h3.append k⟩
theorem RpL.one {d : D} {v : V} (h : Rp K G d v) : RpL K G [d] [v] := ⟨v, [], rfl, h, rfl⟩
theorem RpL.set : ∀ {ds : List D} {xs : List V} {d : D} {v : V} (i : Nat), RpL K G ds xs → Rp K G d v → RpL K G (ds.set i d) (xs.set i v)
 | [], _, _, _, _, h, _ => by cases h; rfl
 | d :: ds, _, _, _, 0, ⟨x, r, h1, h2, h3⟩, k => by subst h1; exact ⟨_, r, rfl, k, h3⟩
 | d :: ds, _, _, _, i + 1, ⟨x, r, h1, h2, h3⟩, k => by subst h1; exact ⟨x, r.set i _, rfl, h2, h3.set i k⟩
theorem RpL.drop : ∀ {ds : List D} {xs : List V} (i : Nat), RpL K G ds xs → RpL K G (ds.drop i) (xs.drop i)
 | [], _, i, h => by cases h; simp [RpL]
 | d :: ds, _, 0, h => h
 | d :: ds, _, i + 1, ⟨x, r, h1, h2, h3⟩ => by subst h1; exact h3.drop i
theorem RpL.take : ∀ {ds : List D} {xs : List V} (i : Nat), RpL K G ds xs → RpL K G (ds.take i) (xs.take i)
 | [], _, i, h => by cases h; simp [RpL]
 | d :: ds, _, 0, h => by simp [RpL]
 | d :: ds, _, i + 1, ⟨x, r, h1, h2, h3⟩ => by subst h1; exact ⟨x, r.take i, rfl, h2, h3.take i⟩
theorem RpL.ints : ∀ {ns : List Int}, RpL K G (ns.map D.int) (ns.map V.int)
 | [] => rfl
 | n :: ns => ⟨.int n, ns.map V.int, rfl, rfl, RpL.ints⟩
theorem RpL.of_ints : ∀ {ns : List Int} {xs : List V}, RpL K G (ns.map D.int) xs → xs = ns.map V.int
 | [], _, h => h
 | n :: ns, _, ⟨x, r, h1, h2, h3⟩ => by
  have h4 : x = .int n := h2
  rw [h1, h4, h3.of_ints]; rfl
end
inductive S where
 | no | val (d : D) | own (d : D)
 deriving Inhabited
structure Cn where
 F : Hp
 s0 : L2.St
def Ow (K : PySem.W.Frag) (F G H : Hp) (a : Addr) : D → Prop
 | .lst ds => ∃ xs, H a = some (.lst xs) ∧ RpL K G ds xs
 | .obj c ns ds => ∃ dx xs, H a = some (.ins (He.ga K c) dx (ns.zip xs)) ∧ H dx = some (.own a) ∧ G dx = none ∧ F dx = none ∧ dx ≠ a ∧ ns.length = ds.length ∧ RpL K G ds xs
 | .dic ks vs => ∃ kvs, H a = some (.dK kvs) ∧ RpL K G ks (kvs.map fun p => kV p.1) ∧ RpL K G vs (kvs.map fun p => p.2)
 | .ndi ks vs => ∃ kvs, H a = some (Dn.NDo a kvs) ∧ ks = kvs.map (fun p => keyD p.1) ∧ RpL K G ks (kvs.map fun p => V.ref p.2.1) ∧ RpL K G vs (kvs.map fun p => p.2.2)
 | _ => False
structure Rst (K : PySem.W.Frag) (c : Cn) (G H : Hp) (σ : L2.St) (ρ : List S) : Prop where
 fh : Same c.F H
 gh : Same G H
 fg : ∀ a o, c.F a = some o → G a = none
 len : ρ.length = σ.length
 val : ∀ (i : Nat) (d : D), ρ[i]? = some (.val d) → ∃ v, σ[i]? = some (some v) ∧ Rp K G d v
 own : ∀ (i : Nat) (d : D), ρ[i]? = some (.own d) → ∃ a, σ[i]? = some (some (.ref a)) ∧ G a = none ∧ c.F a = none ∧ Ow K c.F G H a d
 ne : ∀ (i j : Nat) (d e : D) (a : Addr), ρ[i]? = some (.own d) → ρ[j]? = some (.own e) → σ[i]? = some (some (.ref a)) → σ[j]? = some (some (.ref a)) → i = j
 par : ∀ (i : Nat) (d : D), ρ[i]? = some (.own d) → i < c.s0.length → σ[i]? = c.s0[i]?
inductive Rv where
 | val (d : D) | own (d : D) | ali (i : Nat)
 deriving Inhabited
def RpR (K : PySem.W.Frag) (c : Cn) (G H : Hp) (σ : L2.St) (ρ : List S) (v : V) : Rv → Prop
 | .val d => Rp K G d v
 | .own d => ∃ a, v = .ref a ∧ G a = none ∧ c.F a = none ∧ Ow K c.F G H a d ∧ ∀ (i : Nat) (e : D), ρ[i]? = some (.own e) → σ[i]? ≠ some (some (.ref a))
 | .ali i => σ[i]? = some (some v)
theorem Ow.gmono {K : PySem.W.Frag} {F G G' H : Hp} {a : Addr} {d : D} (e : Same G G') (hd : ∀ b, H b = some (.own a) → G b = none → G' b = none) (h : Ow K F G H a d) : Ow K F G' H a d := by
 cases d with
 | lst ds => obtain ⟨xs, h1, h2⟩ := h; exact ⟨xs, h1, h2.mono e⟩
 | obj c ns ds => obtain ⟨dx, xs, h1, h2, h3, h4, h5, hl, h6⟩ := h; exact ⟨dx, xs, h1, h2, hd dx h2 h3, h4, h5, hl, h6.mono e⟩
 | dic ks vs => obtain ⟨kvs, h1, h2, h3⟩ := h; exact ⟨kvs, h1, h2.mono e, h3.mono e⟩
 | ndi ks vs => obtain ⟨kvs, h1, h0, h2, h3⟩ := h; exact ⟨kvs, h1, h0, h2.mono e, h3.mono e⟩
 | _ => exact h.elim
theorem Ow.at {K : PySem.W.Frag} {F G H : Hp} {a : Addr} {d : D} (h : Ow K F G H a d) : ∃ o, H a = some o ∧ (∀ b, o ≠ .own b) := by
 cases d with
 | lst ds => obtain ⟨xs, h1, h2⟩ := h; exact ⟨_, h1, fun b z => nomatch z⟩
 | obj c ns ds => obtain ⟨dx, xs, h1, _⟩ := h; exact ⟨_, h1, fun b z => nomatch z⟩
 | dic ks vs => obtain ⟨kvs, h1, _⟩ := h; exact ⟨_, h1, fun b z => nomatch z⟩
 | ndi ks vs => obtain ⟨kvs, h1, _⟩ := h; exact ⟨_, h1, fun b z => nomatch z⟩
 | _ => exact h.elim
theorem frz {K : PySem.W.Frag} {F G H : Hp} {a : Addr} {d : D} (gh : Same G H) (fg : ∀ b o, F b = some o → G b = none) (ga : G a = none) (fa : F a = none) (h : Ow K F G H a d) :
  ∃ G', Same G G' ∧ Same G' H ∧ (∀ b o, F b = some o → G' b = none) ∧ Rp K G' d (.ref a) ∧ ∀ b, G' b ≠ G b → b = a ∨ H b = some (.own a) := by
 cases d with
 | lst ds =>
  obtain ⟨xs, h1, h2⟩ := h
  have s1 : Same G (upd G a (.lst xs)) := fun b o e => by rw [upd_ne (ne_of_none e ga)]; exact e
  refine ⟨upd G a (.lst xs), s1, fun b o e => ?_, fun b o e => ?_, ⟨a, xs, rfl, upd_same, h2.mono s1⟩, fun b hb => ?_⟩
  · by_cases q : b = a
    · subst q; rw [upd_same] at e; cases e; exact h1
    · rw [upd_ne q] at e; exact gh _ _ e
  · rw [upd_ne (ne_of_none e fa)]; exact fg _ _ e
  · by_cases q : b = a
    · exact .inl q
    · exact absurd (upd_ne q) hb
 | dic ks vs =>
  obtain ⟨kvs, h1, h2, h3⟩ := h
  have s1 : Same G (upd G a (.dK kvs)) := fun b o e => by rw [upd_ne (ne_of_none e ga)]; exact e
  refine ⟨upd G a (.dK kvs), s1, fun b o e => ?_, fun b o e => ?_, ⟨a, kvs, rfl, upd_same, h2.mono s1, h3.mono s1⟩, fun b hb => ?_⟩
  · by_cases q : b = a
    · subst q; rw [upd_same] at e; cases e; exact h1
    · rw [upd_ne q] at e; exact gh _ _ e
  · rw [upd_ne (ne_of_none e fa)]; exact fg _ _ e
  · by_cases q : b = a
    · exact .inl q
    · exact absurd (upd_ne q) hb
 | ndi ks vs =>
  obtain ⟨kvs, h1, h0, h2, h3⟩ := h
  have s1 : Same G (upd G a (Dn.NDo a kvs)) := fun b o e => by rw [upd_ne (ne_of_none e ga)]; exact e
  refine ⟨upd G a (Dn.NDo a kvs), s1, fun b o e => ?_, fun b o e => ?_, ⟨a, kvs, rfl, upd_same, h0, h2.mono s1, h3.mono s1⟩, fun b hb => ?_⟩
  · by_cases q : b = a
    · subst q; rw [upd_same] at e; cases e; exact h1
    · rw [upd_ne q] at e; exact gh _ _ e
  · rw [upd_ne (ne_of_none e fa)]; exact fg _ _ e
  · by_cases q : b = a
    · exact .inl q
    · exact absurd (upd_ne q) hb
 | obj c ns ds =>
  obtain ⟨dx, xs, h1, h2, h3, h4, h5, hl, h6⟩ := h
  have s1 : Same G (upd (upd G dx (.own a)) a (.ins (He.ga K c) dx (ns.zip xs))) := fun b o e => by rw [upd_ne (ne_of_none e ga), upd_ne (ne_of_none e h3)]; exact e
  refine ⟨_, s1, fun b o e => ?_, fun b o e => ?_, ⟨a, dx, xs, rfl, upd_same, by rw [upd_ne h5, upd_same], hl, h6.mono s1⟩, fun b hb => ?_⟩
  · by_cases q : b = a
    · subst q; rw [upd_same] at e; cases e; exact h1
    · rw [upd_ne q] at e
      by_cases q2 : b = dx
      · subst q2; rw [upd_same] at e; cases e; exact h2
      · rw [upd_ne q2] at e; exact gh _ _ e
  · rw [upd_ne (ne_of_none e fa), upd_ne (ne_of_none e h4)]; exact fg _ _ e
  · by_cases q : b = a
    · exact .inl q
    · by_cases q2 : b = dx
      · subst q2; exact .inr h2
      · rw [upd_ne q, upd_ne q2] at hb; exact absurd rfl hb
 | _ => exact h.elim
section
variable {K : PySem.W.Frag} {c : Cn} {G G' H H' : Hp} {σ : L2.St} {ρ : List S} {v : V} {d : D} {i : Nat}
theorem Rst.ground (R : Rst K c G H σ ρ) (s1 : Same G G') (s2 : Same G' H) (fg : ∀ b o, c.F b = some o → G' b = none)
  (ok : ∀ (i : Nat) (d : D) (a : Addr), ρ[i]? = some (.own d) → σ[i]? = some (some (.ref a)) → G' a = none ∧ ∀ b, H b = some (.own a) → G b = none → G' b = none) : Rst K c G' H σ ρ where
 fh := R.fh
 gh := s2
 fg := fg
 len := R.len
 val := fun i d e => let ⟨v, h1, h2⟩ := R.val i d e; ⟨v, h1, h2.mono s1⟩
 own := fun i d e => let ⟨a, h1, h2, h3, h4⟩ := R.own i d e; ⟨a, h1, (ok i d a e h1).1, h3, h4.gmono s1 (ok i d a e h1).2⟩
 ne := R.ne
 par := R.par
theorem Rst.set_val (R : Rst K c G H σ ρ) (i : Nat) (h : Rp K G d v) : Rst K c G H (σ.set i (some v)) (ρ.set i (.val d)) where
 fh := R.fh
 gh := R.gh
 fg := R.fg
 len := by rw [List.length_set, List.length_set, R.len]
 val := fun j e q => by
  by_cases hj : j = i
  · subst hj
    have hl : j < ρ.length := by
     by_cases hl : j < ρ.length
     · exact hl
     · rw [List.getElem?_eq_none (by simpa using hl)] at q; cases q
    rw [List.getElem?_set_self hl] at q
    cases q
    exact ⟨v, by rw [List.getElem?_set_self (R.len ▸ hl)], h⟩
  · rw [List.getElem?_set_ne (Ne.symm hj)] at q ⊢
    exact R.val j e q
 own := fun j e q => by
  by_cases hj : j = i
  · subst hj
    by_cases hl : j < ρ.length
    · rw [List.getElem?_set_self hl] at q; cases q
    · rw [List.getElem?_eq_none (by simpa using hl)] at q; cases q
  · rw [List.getElem?_set_ne (Ne.symm hj)] at q ⊢
    exact R.own j e q
 ne := fun j k e f a q1 q2 r1 r2 => by
  have nj : ∀ (j : Nat) (e : D), (ρ.set i (.val d))[j]? = some (.own e) → j ≠ i := fun j e q hj => by
   subst hj
   by_cases hl : j < ρ.length
   · rw [List.getElem?_set_self hl] at q; cases q
   · rw [List.getElem?_eq_none (by simpa using hl)] at q; cases q
  have hj := nj j e q1
  have hk := nj k f q2
  rw [List.getElem?_set_ne (Ne.symm hj)] at q1 r1
  rw [List.getElem?_set_ne (Ne.symm hk)] at q2 r2
  exact R.ne j k e f a q1 q2 r1 r2
 par := fun j e q hl => by
  have hj : j ≠ i := fun hj => by
   subst hj
   by_cases hl : j < ρ.length
   · rw [List.getElem?_set_self hl] at q; cases q
   · rw [List.getElem?_eq_none (by simpa using hl)] at q; cases q
  rw [List.getElem?_set_ne (Ne.symm hj)] at q ⊢
  exact R.par j e q hl
theorem Rst.freeze (R : Rst K c G H σ ρ) (h : ρ[i]? = some (.own d)) : ∃ v G', σ[i]? = some (some v) ∧ Same G G' ∧ Rst K c G' H σ (ρ.set i (.val d)) ∧ Rp K G' d v := by
 obtain ⟨a, h1, h2, h3, h4⟩ := R.own i d h
 obtain ⟨G', s1, s2, fg, r, dif⟩ := frz R.gh R.fg h2 h3 h4
 have hl : i < ρ.length := (List.getElem?_eq_some_iff.mp h).1
 have nj : ∀ (j : Nat) (e : D), (ρ.set i (.val d))[j]? = some (.own e) → j ≠ i ∧ ρ[j]? = some (.own e) := fun j e q => by
  by_cases hj : j = i
  · subst hj; rw [List.getElem?_set_self hl] at q; cases q
  · rw [List.getElem?_set_ne (Ne.symm hj)] at q; exact ⟨hj, q⟩
 have ok : ∀ (j : Nat) (e : D) (b : Addr), j ≠ i → ρ[j]? = some (.own e) → σ[j]? = some (some (.ref b)) → G' b = none ∧ ∀ b', H b' = some (.own b) → G b' = none → G' b' = none := fun j e b hj q r1 => by
  have hb : b ≠ a := fun z => by subst z; exact hj (R.ne j i e d b q h r1 h1)
  obtain ⟨b', k1, k2, k3, k4⟩ := R.own j e q
  rw [r1] at k1; cases k1
  obtain ⟨o, ho, hno⟩ := k4.at
  have same : ∀ x, G x = none → x ≠ a → H x ≠ some (.own a) → G' x = none := fun x gx xa xo => by
   by_cases z : G' x = G x
   · rw [z, gx]
   · rcases dif x z with z | z
     · exact absurd z xa
     · exact absurd z xo
  refine ⟨same b k2 hb (fun z => hno a (by rw [ho] at z; exact Option.some.inj z)), fun x hx gx => same x gx (fun z => ?_) (fun z => ?_)⟩
  · subst z
    obtain ⟨o', ho', hno'⟩ := h4.at
    rw [ho'] at hx; exact hno' b (Option.some.inj hx)
  · rw [z] at hx; cases hx; exact hb rfl
 refine ⟨.ref a, G', h1, s1, ⟨R.fh, s2, fg, by rw [List.length_set, R.len], fun j e q => ?_, fun j e q => ?_, fun j k e f b q1 q2 r1 r2 => ?_, fun j e q hl => ?_⟩, r⟩
 · by_cases hj : j = i
   · subst hj; rw [List.getElem?_set_self hl] at q; cases q; exact ⟨.ref a, h1, r⟩
   · rw [List.getElem?_set_ne (Ne.symm hj)] at q
     obtain ⟨v, k1, k2⟩ := R.val j e q
     exact ⟨v, k1, k2.mono s1⟩
 · obtain ⟨hj, q'⟩ := nj j e q
   obtain ⟨b, k1, k2, k3, k4⟩ := R.own j e q'
   obtain ⟨z1, z2⟩ := ok j e b hj q' k1
   exact ⟨b, k1, z1, k3, k4.gmono s1 z2⟩
 · exact R.ne j k e f b (nj j e q1).2 (nj k f q2).2 r1 r2
 · exact R.par j e (nj j e q).2 hl
theorem Rst.freeze_new (R : Rst K c G H σ ρ) (h : RpR K c G H σ ρ v (.own d)) : ∃ G', Same G G' ∧ Rst K c G' H σ ρ ∧ Rp K G' d v := by
 obtain ⟨a, rfl, h2, h3, h4, h5⟩ := h
 obtain ⟨G', s1, s2, fg, r, dif⟩ := frz R.gh R.fg h2 h3 h4
 refine ⟨G', s1, R.ground s1 s2 fg fun j e b q r1 => ?_, r⟩
 have hb : b ≠ a := fun z => by subst z; exact h5 j e q r1
 obtain ⟨b', k1, k2, k3, k4⟩ := R.own j e q
 rw [r1] at k1; cases k1
 obtain ⟨o, ho, hno⟩ := k4.at
 have same : ∀ x, G x = none → x ≠ a → H x ≠ some (.own a) → G' x = none := fun x gx xa xo => by
  by_cases z : G' x = G x
  · rw [z, gx]
  · rcases dif x z with z | z
    · exact absurd z xa
    · exact absurd z xo
 refine ⟨same b k2 hb (fun z => hno a (by rw [ho] at z; exact Option.some.inj z)), fun x hx gx => same x gx (fun z => ?_) (fun z => ?_)⟩
 · subst z
   obtain ⟨o', ho', hno'⟩ := h4.at
   rw [ho'] at hx; exact hno' b (Option.some.inj hx)
 · rw [z] at hx; cases hx; exact hb rfl
end
end Dl
namespace Dl
open PySem L2
structure Xn where
 c : Str
 ns : List Str := []
 ds : List D := []
inductive Ot (α : Type) where
 | ok (a : α) (ρ : List S) | ex (e : Xn) (ρ : List S)
def M (α : Type) : Type := List S → Option (Ot α)
def M.pure {α : Type} (a : α) : M α := fun ρ => some (.ok a ρ)
def M.bind {α β : Type} (f : M α) (k : α → M β) : M β := fun ρ => match f ρ with
 | some (.ok a ρ') => k a ρ'
 | some (.ex e ρ') => some (.ex e ρ')
 | none => none
instance : Monad M where
 pure := M.pure
 bind := M.bind
def M.fail {α : Type} : M α := fun _ => none
def ofO {α : Type} (o : Option α) : M α := fun ρ => o.map fun a => .ok a ρ
theorem bind_eq {α β : Type} (f : M α) (k : α → M β) (ρ : List S) : (f >>= k) ρ = (match f ρ with
 | some (.ok a ρ') => k a ρ'
 | some (.ex e ρ') => some (.ex e ρ')
 | none => none) := rfl
def wpM {α : Type} (o : Option (Ot α)) (OK : α → List S → Prop) (EX : Xn → List S → Prop) : Prop := match o with
 | some (.ok a ρ) => OK a ρ
 | some (.ex e ρ) => EX e ρ
 | none => False
theorem wpM_bind {α β : Type} {f : M α} {k : α → M β} {ρ : List S} {OK : β → List S → Prop} {EX : Xn → List S → Prop} (h : wpM ((f >>= k) ρ) OK EX) : wpM (f ρ) (fun a ρ' => wpM (k a ρ') OK EX) EX := by
 rw [bind_eq] at h
 revert h
 cases f ρ with
 | none => exact fun h => h
 | some o => cases o <;> exact fun h => h
theorem wpM_mono {α : Type} {o : Option (Ot α)} {OK OK' : α → List S → Prop} {EX EX' : Xn → List S → Prop} (h : wpM o OK EX) (h1 : ∀ a ρ, OK a ρ → OK' a ρ) (h2 : ∀ e ρ, EX e ρ → EX' e ρ) : wpM o OK' EX' := by
 revert h
 cases o with
 | none => exact fun h => h
 | some o => cases o with
  | ok a ρ => exact h1 a ρ
  | ex e ρ => exact h2 e ρ
def XAt (K : PySem.W.Frag) (G H : Hp) (e : Xn) (cls : Value) (d : Option Addr) : Prop :=
 cls = .ref (He.ga K e.c) ∧ match e.ns with
 | [] => True
 | ns => ∃ dx fvs, d = some dx ∧ H dx = some (.xd fvs) ∧ ∃ xs, fvs = ns.zip xs ∧ RpL K G e.ds xs ∧ ns.length = e.ds.length
abbrev WX0 : WX := fun _ _ _ _ => False
def EXk (K : PySem.W.Frag) (c : Cn) (W : WX) (σ : L2.St) (G : Hp) : Xn → List S → Prop := fun e ρ' =>
 ∀ cls d G' H', Rst K c G' H' σ ρ' → Same G G' → XAt K G' H' e cls d → W cls d σ H'
theorem EXk.mono {K : PySem.W.Frag} {c : Cn} {W : WX} {σ : L2.St} {G G1 : Hp} {e : Xn} {ρ : List S} (s : Same G G1) (h : EXk K c W σ G e ρ) : EXk K c W σ G1 e ρ :=
 fun cls d G' H' R s' x => h cls d G' H' R (s.trans s') x
def tg {α β : Type} (K : PySem.W.Frag) (W : WX) (rep : Cn → Hp → Hp → L2.St → List S → β → α → Prop) (f : M α) : L2.St → Hp → (β → Hp → Prop) → Prop := fun σ H Q =>
 ∃ c G ρ, Rst K c G H σ ρ ∧ wpM (f ρ) (fun a ρ' => ∀ b G' H', Rst K c G' H' σ ρ' → Same G G' → rep c G' H' σ ρ' b a → Q b H') (EXk K c W σ G)
abbrev repE (K : PySem.W.Frag) : Cn → Hp → Hp → L2.St → List S → V → Rv → Prop := fun c G H σ ρ v r => RpR K c G H σ ρ v r
abbrev repT : Cn → Hp → Hp → L2.St → List S → Bool → Bool → Prop := fun _ _ _ _ _ b a => b = a
def RpRs (K : PySem.W.Frag) (G : Hp) (σ : L2.St) : List V → List Rv → Prop
 | [], [] => True
 | v :: vs, .val d :: rs => Rp K G d v ∧ RpRs K G σ vs rs
 | v :: vs, .ali i :: rs => σ[i]? = some (some v) ∧ RpRs K G σ vs rs
 | _, _ => False
abbrev repA (K : PySem.W.Frag) : Cn → Hp → Hp → L2.St → List S → List V → List Rv → Prop := fun _ G _ σ _ vs rs => RpRs K G σ vs rs
abbrev tD (K : PySem.W.Frag) (W : WX) (f : M Rv) : TE := tg K W (repE K) f
abbrev tDT (K : PySem.W.Frag) (W : WX) (f : M Bool) : TT := tg K W repT f
abbrev tDA (K : PySem.W.Frag) (W : WX) (f : M (List Rv)) : TA := tg K W (repA K) f
theorem tg_step {α β γ : Type} {K : PySem.W.Frag} {W : WX} {rep : Cn → Hp → Hp → L2.St → List S → β → α → Prop} {c : Cn} {G0 G H : Hp} {σ : L2.St} {ρ : List S} {f : M α} {k : α → M γ} {OK : γ → List S → Prop} {Q : β → Hp → Prop}
  (R : Rst K c G H σ ρ) (s0 : Same G0 G) (h : wpM ((f >>= k) ρ) OK (EXk K c W σ G0))
  (next : ∀ a ρ1 b G1 H1, Rst K c G1 H1 σ ρ1 → Same G0 G1 → Same G G1 → rep c G1 H1 σ ρ1 b a → wpM (k a ρ1) OK (EXk K c W σ G0) → Q b H1) : tg K W rep f σ H Q :=
 ⟨c, G, ρ, R, wpM_mono (wpM_bind h) (fun a ρ1 hk b G1 H1 R1 s1 r => next a ρ1 b G1 H1 R1 (s0.trans s1) s1 r hk) fun _ _ x => x.mono s0⟩
structure DE (X : Cx) (W : WX) (e : Expr) (f : M Rv) : Prop where
 pe : PE X e (tD X.K W f)
structure DT (X : Cx) (W : WX) (e : Expr) (f : M Bool) : Prop where
 pt : PT X e (tDT X.K W f)
structure DW (X : Cx) (W : WX) (e : Expr) (f : M Bool) : Prop where
 pw : PW X e (tDT X.K W f)
structure DA (X : Cx) (W : WX) (es : List Expr) (f : M (List Rv)) : Prop where
 pa : PA X es (tDA X.K W f)
section
variable {X : Cx} {e : Expr} {es : List Expr} {t t' : TE}
theorem _root_.L2.PE.weak (h : PE X e t) (w : ∀ σ H Q, t' σ H Q → t σ H Q) : PE X e t' := ⟨fun pins s σ H Q I q => h.run pins s σ H Q I (w σ H Q q)⟩
theorem _root_.L2.PT.weak {t t' : TT} (h : PT X e t) (w : ∀ σ H Q, t' σ H Q → t σ H Q) : PT X e t' := ⟨fun pins s σ H Q I q => h.run pins s σ H Q I (w σ H Q q)⟩
theorem _root_.L2.PW.weak {t t' : TT} (h : PW X e t) (w : ∀ σ H Q, t' σ H Q → t σ H Q) : PW X e t' := ⟨fun wh pins s σ H Q I q => h.run wh pins s σ H Q I (w σ H Q q)⟩
theorem _root_.L2.PA.weak {t t' : TA} (h : PA X es t) (w : ∀ σ H Q, t' σ H Q → t σ H Q) : PA X es t' := ⟨fun pos pins s σ H Q I q => h.run pos pins s σ H Q I (w σ H Q q)⟩
theorem _root_.L2.PS.weak {st : Stmt} {t t' : TS} (h : PS X st t) (w : ∀ D σ H, t' D σ H → t D σ H) : PS X st t' := ⟨fun pins s σ H D I q => h.run pins s σ H D I (w D σ H q)⟩
theorem _root_.L2.PSs.weak {st : List Stmt} {t t' : TS} (h : PSs X st t) (w : ∀ D σ H, t' D σ H → t D σ H) : PSs X st t' := ⟨fun pins s σ H D I q => h.run pins s σ H D I (w D σ H q)⟩
end
def Rh (K : PySem.W.Frag) (c : Cn) (G H : Hp) (d : D) (v : V) : Prop := Rp K G d v ∨ ∃ a, v = .ref a ∧ G a = none ∧ c.F a = none ∧ Ow K c.F G H a d
def peek (r : Rv) : M D := fun ρ => match r with
 | .val d => some (.ok d ρ)
 | .own d => some (.ok d ρ)
 | .ali i => match ρ[i]? with
  | some (.val d) => some (.ok d ρ)
  | some (.own d) => some (.ok d ρ)
  | _ => none
def toV (r : Rv) : M D := fun ρ => match r with
 | .val d => some (.ok d ρ)
 | .own d => some (.ok d ρ)
 | .ali i => match ρ[i]? with
  | some (.val d) => some (.ok d ρ)
  | some (.own d) => some (.ok d (ρ.set i (.val d)))
  | _ => none
def settle : Rv → Rv
 | .own d => .val d
 | r => r
def peeks : List Rv → M (List D)
 | [] => pure []
 | r :: rs => do
  let d ← peek r
  let ds ← peeks rs
  pure (d :: ds)
def toVs : List Rv → M (List D)
 | [] => pure []
 | r :: rs => do
  let d ← toV r
  let ds ← toVs rs
  pure (d :: ds)
section
variable {K : PySem.W.Frag} {c : Cn} {G G' H H' : Hp} {σ : L2.St} {ρ ρ' : List S} {v : V} {d : D} {r : Rv} {rs : List Rv} {vs : List V}
theorem peek_ok (R : Rst K c G H σ ρ) (h : RpR K c G H σ ρ v r) (p : peek r ρ = some (.ok d ρ')) : ρ' = ρ ∧ Rh K c G H d v := by
 cases r with
 | val e => cases p; exact ⟨rfl, .inl h⟩
 | own e => cases p; obtain ⟨a, h1, h2, h3, h4, _⟩ := h; exact ⟨rfl, .inr ⟨a, h1, h2, h3, h4⟩⟩
 | ali i =>
  have h1 : σ[i]? = some (some v) := h
  unfold peek at p
  dsimp only at p
  cases q : ρ[i]? with
  | none => rw [q] at p; cases p
  | some s =>
   rw [q] at p
   cases s with
   | no => cases p
   | val e =>
    cases p
    obtain ⟨w, k1, k2⟩ := R.val i _ q
    rw [h1] at k1; cases k1
    exact ⟨rfl, .inl k2⟩
   | own e =>
    cases p
    obtain ⟨a, k1, k2, k3, k4⟩ := R.own i _ q
    rw [h1] at k1; cases k1
    exact ⟨rfl, .inr ⟨a, rfl, k2, k3, k4⟩⟩
theorem peek_wp {OK : D → List S → Prop} {EX : Xn → List S → Prop} (R : Rst K c G H σ ρ) (h : RpR K c G H σ ρ v r) (w : wpM (peek r ρ) OK EX) : ∃ d, Rh K c G H d v ∧ OK d ρ := by
 cases p : peek r ρ with
 | none => rw [p] at w; exact w.elim
 | some o =>
  rw [p] at w
  cases o with
  | ok d ρ' => obtain ⟨e, k⟩ := peek_ok R h p; subst e; exact ⟨d, k, w⟩
  | ex e ρ' =>
   exfalso
   cases r with
   | val e => cases p
   | own e => cases p
   | ali i =>
    unfold peek at p
    dsimp only at p
    cases q : ρ[i]? with
    | none => rw [q] at p; cases p
    | some s => rw [q] at p; cases s <;> cases p
theorem settle_ok (R : Rst K c G H σ ρ) (h : RpR K c G H σ ρ v r) : ∃ G', Same G G' ∧ Rst K c G' H σ ρ ∧ RpRs K G' σ [v] [settle r] := by
 cases r with
 | val e => exact ⟨G, Same.refl G, R, h, trivial⟩
 | own e => obtain ⟨G', s, R', q⟩ := R.freeze_new h; exact ⟨G', s, R', q, trivial⟩
 | ali i => exact ⟨G, Same.refl G, R, h, trivial⟩
theorem toV_wp {OK : D → List S → Prop} {EX : Xn → List S → Prop} (R : Rst K c G H σ ρ) (h : RpR K c G H σ ρ v r) (w : wpM (toV r ρ) OK EX) : ∃ d G' ρ', Same G G' ∧ Rst K c G' H σ ρ' ∧ Rp K G' d v ∧ OK d ρ' := by
 cases r with
 | val e => exact ⟨e, G, ρ, Same.refl G, R, h, w⟩
 | own e => obtain ⟨G', s, R', q⟩ := R.freeze_new h; exact ⟨e, G', ρ, s, R', q, w⟩
 | ali i =>
  have h1 : σ[i]? = some (some v) := h
  unfold toV at w
  dsimp only at w
  cases q : ρ[i]? with
  | none => rw [q] at w; exact w.elim
  | some s =>
   rw [q] at w
   cases s with
   | no => exact w.elim
   | val e =>
    obtain ⟨x, k1, k2⟩ := R.val i _ q
    rw [h1] at k1; cases k1
    exact ⟨e, G, ρ, Same.refl G, R, k2, w⟩
   | own e =>
    obtain ⟨x, G', k1, s, R', k2⟩ := R.freeze q
    rw [h1] at k1; cases k1
    exact ⟨e, G', _, s, R', k2, w⟩
theorem RpRs.mono (s : Same G G') : ∀ {vs : List V} {rs : List Rv}, RpRs K G σ vs rs → RpRs K G' σ vs rs
 | [], [], _ => trivial
 | v :: vs, .val d :: rs, ⟨h1, h2⟩ => ⟨h1.mono s, h2.mono s⟩
 | v :: vs, .ali i :: rs, ⟨h1, h2⟩ => ⟨h1, h2.mono s⟩
 | [], _ :: _, h => h.elim
 | _ :: _, [], h => h.elim
 | _ :: _, .own _ :: _, h => h.elim
theorem RpRs.one (h : RpRs K G σ [v] [r]) : ∀ {c : Cn} {H : Hp} {ρ : List S}, RpR K c G H σ ρ v r := by
 intro c H ρ
 cases r with
 | val d => exact h.1
 | own d => exact h.elim
 | ali i => exact h.1
theorem RpRs.cons (h : RpRs K G σ [v] [r]) (k : RpRs K G σ vs rs) : RpRs K G σ (v :: vs) (r :: rs) := by
 cases r with
 | val d => exact ⟨h.1, k⟩
 | own d => exact h.elim
 | ali i => exact ⟨h.1, k⟩
theorem RpRs.head (h : RpRs K G σ (v :: vs) (r :: rs)) : RpRs K G σ [v] [r] ∧ RpRs K G σ vs rs := by
 cases r with
 | val d => exact ⟨⟨h.1, trivial⟩, h.2⟩
 | own d => exact h.elim
 | ali i => exact ⟨⟨h.1, trivial⟩, h.2⟩
theorem RpRs.nil_of : ∀ {vs : List V}, RpRs K G σ vs [] → vs = []
 | [], _ => rfl
 | _ :: _, h => h.elim
theorem RpRs.cons_of : ∀ {vs : List V}, RpRs K G σ vs (r :: rs) → ∃ v vs', vs = v :: vs' ∧ RpRs K G σ [v] [r] ∧ RpRs K G σ vs' rs
 | [], h => h.elim
 | v :: vs, h => ⟨v, vs, rfl, h.head⟩
def RhL (K : PySem.W.Frag) (c : Cn) (G H : Hp) : List D → List V → Prop
 | [], vs => vs = []
 | d :: ds, vs => ∃ v r, vs = v :: r ∧ Rh K c G H d v ∧ RhL K c G H ds r
theorem peeks_wp : ∀ {rs : List Rv} {vs : List V} {OK : List D → List S → Prop} {EX : Xn → List S → Prop}, Rst K c G H σ ρ → RpRs K G σ vs rs → wpM (peeks rs ρ) OK EX → ∃ ds, RhL K c G H ds vs ∧ OK ds ρ
 | [], vs, OK, EX, R, h, w => by
  have e := h.nil_of
  subst e
  exact ⟨[], rfl, w⟩
 | r :: rs, vs, OK, EX, R, h, w => by
  obtain ⟨v, vs', rfl, h1, h2⟩ := h.cons_of
  obtain ⟨d, k1, w1⟩ := peek_wp R h1.one (wpM_bind w)
  obtain ⟨ds, k2, w2⟩ := peeks_wp R h2 (wpM_bind w1)
  exact ⟨d :: ds, ⟨v, vs', rfl, k1, k2⟩, w2⟩
theorem toVs_wp : ∀ {rs : List Rv} {vs : List V} {G : Hp} {ρ : List S} {OK : List D → List S → Prop} {EX : Xn → List S → Prop}, Rst K c G H σ ρ → RpRs K G σ vs rs → wpM (toVs rs ρ) OK EX →
  ∃ ds G' ρ', Same G G' ∧ Rst K c G' H σ ρ' ∧ RpL K G' ds vs ∧ OK ds ρ'
 | [], vs, G, ρ, OK, EX, R, h, w => by
  have e := h.nil_of
  subst e
  exact ⟨[], G, ρ, Same.refl G, R, rfl, w⟩
 | r :: rs, vs, G, ρ, OK, EX, R, h, w => by
  obtain ⟨v, vs', rfl, h1, h2⟩ := h.cons_of
  obtain ⟨d, G1, ρ1, s1, R1, k1, w1⟩ := toV_wp R h1.one (wpM_bind w)
  obtain ⟨ds, G2, ρ2, s2, R2, k2, w2⟩ := toVs_wp R1 (h2.mono s1) (wpM_bind w1)
  exact ⟨d :: ds, G2, ρ2, s1.trans s2, R2, ⟨v, vs', rfl, k1.mono s2, k2⟩, w2⟩
end
def eVar (i : Nat) : M Rv := fun ρ => match ρ[i]? with
 | some (.val d) => some (.ok (.val d) ρ)
 | some (.own _) => some (.ok (.ali i) ρ)
 | _ => none
def eC (d : D) : M Rv := pure (.val d)
section
variable {X : Cx} {W : WX} {a b e : Expr} {es : List Expr} {fa fb : M Rv} {pos : Pos}
theorem de_var (i : Nat) {x : Str} (h : PE X (.Name x pos) (tVar i)) : DE X W (.Name x pos) (eVar i) := ⟨h.weak fun σ H Q ⟨c, G, ρ, R, w⟩ => by
 unfold eVar at w
 cases q : ρ[i]? with
 | none => rw [q] at w; exact w.elim
 | some s =>
  rw [q] at w
  cases s with
  | no => exact w.elim
  | val d =>
   obtain ⟨v, k1, k2⟩ := R.val i d q
   exact ⟨v, k1, w v G H R (Same.refl G) k2⟩
  | own d =>
   obtain ⟨a, k1, k2, k3, k4⟩ := R.own i d q
   exact ⟨.ref a, k1, w (.ref a) G H R (Same.refl G) k1⟩⟩
theorem de_v (i : Nat) {x : Str} (hN : X.N[i]? = some x := by rfl) (hv : Vis X.env.scope x := by first | exact Or.inl rfl | exact Or.inr (Or.inl rfl) | exact Or.inr (Or.inr rfl)) (hd : (x == ("__debug__" : Str)) = false := by decide)
  (hcd : (x == ("__classdict__" : Str)) = false := by decide) : DE X W (.Name x pos) (eVar i) := de_var i (pe_var hN hv hd hcd)
theorem de_cv {d : D} {v : V} (h : PE X e (tC v)) (r : ∀ G, Rp X.K G d v) : DE X W e (eC d) := ⟨h.weak fun σ H Q ⟨c, G, ρ, R, w⟩ => w v G H R (Same.refl G) (r G)⟩
theorem de_int {i : Int} {j} : DE X W (.Constant (.int i) j pos) (eC (.int i)) := de_cv pe_int fun _ => rfl
theorem de_bl {b : Bool} {j} : DE X W (.Constant (.bool b) j pos) (eC (.bl b)) := de_cv pe_bl fun _ => rfl
theorem de_non {j} : DE X W (.Constant .none j pos) (eC .non) := de_cv pe_non fun _ => rfl
theorem de_str {x : Str} {j} : DE X W (.Constant (.str x) j pos) (eC (.str x)) := de_cv pe_str fun _ => rfl
def aNil : M (List Rv) := pure []
def aCons (f : M Rv) (g : M (List Rv)) : M (List Rv) := do
 let r ← f
 let rs ← g
 pure (settle r :: rs)
theorem da_nil : DA X W [] aNil := ⟨pa_nil.weak fun σ H Q ⟨c, G, ρ, R, w⟩ => w [] G H R (Same.refl G) trivial⟩
theorem da_cons {f : M Rv} {g : M (List Rv)} (he : DE X W e f) (hr : DA X W es g) (hs : starEach (e :: es) X.env = (false, eval e X.env) :: starEach es X.env := by rfl) : DA X W (e :: es) (aCons f g) :=
 ⟨(pa_cons he.pe hr.pa hs).weak fun σ H Q ⟨c, G, ρ, R, w⟩ => tg_step R (Same.refl G) w fun r ρ1 v G1 H1 R1 s1 _ k w1 => by
  obtain ⟨G1', s1', R1', k'⟩ := settle_ok R1 k
  exact tg_step R1' (s1.trans s1') w1 fun rs ρ2 vs G2 H2 R2 s2 s12 k2 w2 => w2 (v :: vs) G2 H2 R2 s2 (RpRs.cons (k'.mono s12) k2)⟩
end
end Dl
namespace Dl
open PySem L2
section
variable {K : PySem.W.Frag} {c : Cn} {G G' H H' : Hp} {σ : L2.St} {ρ : List S} {p : Addr} {o : HO}
theorem Rst.laid (R : Rst K c G H σ ρ) (hp : H p = none) : Rst K c G (upd H p o) σ ρ where
 fh := fun b u e => by rw [upd_ne (ne_of_none (R.fh _ _ e) hp)]; exact R.fh _ _ e
 gh := fun b u e => by rw [upd_ne (ne_of_none (R.gh _ _ e) hp)]; exact R.gh _ _ e
 fg := R.fg
 len := R.len
 val := R.val
 own := fun i d e => by
  obtain ⟨a, h1, h2, h3, h4⟩ := R.own i d e
  refine ⟨a, h1, h2, h3, ?_⟩
  have k : ∀ b u, H b = some u → upd H p o b = some u := fun b u q => by rw [upd_ne (ne_of_none q hp)]; exact q
  cases d with
  | lst ds => obtain ⟨xs, q1, q2⟩ := h4; exact ⟨xs, k _ _ q1, q2⟩
  | obj c ns ds => obtain ⟨dx, xs, q1, q2, q3, q4, q5, q6, q7⟩ := h4; exact ⟨dx, xs, k _ _ q1, k _ _ q2, q3, q4, q5, q6, q7⟩
  | dic ks vs => obtain ⟨kvs, q1, q2, q3⟩ := h4; exact ⟨kvs, k _ _ q1, q2, q3⟩
  | ndi ks vs => obtain ⟨kvs, q1, q2⟩ := h4; exact ⟨kvs, k _ _ q1, q2⟩
  | _ => exact h4.elim
 ne := R.ne
 par := R.par
theorem Rst.g_none (R : Rst K c G H σ ρ) (hp : H p = none) : G p = none := R.gh.free hp
theorem Rst.f_none (R : Rst K c G H σ ρ) (hp : H p = none) : c.F p = none := R.fh.free hp
theorem Rst.not_slot (R : Rst K c G H σ ρ) (hp : H p = none) : ∀ (i : Nat) (e : D), ρ[i]? = some (.own e) → σ[i]? ≠ some (some (.ref p)) := fun i e q z => by
 obtain ⟨a, h1, _, _, h4⟩ := R.own i e q
 rw [z] at h1; cases h1
 obtain ⟨o, ho, _⟩ := h4.at
 rw [hp] at ho; cases ho
theorem Rst.laidG (R : Rst K c G H σ ρ) (hp : H p = none) (ho : ∀ b, o ≠ .own b) : Rst K c (upd G p o) (upd H p o) σ ρ ∧ Same G (upd G p o) := by
 have R1 : Rst K c G (upd H p o) σ ρ := R.laid hp
 have s : Same G (upd G p o) := fun b u e => by rw [upd_ne (ne_of_none e (R.g_none hp))]; exact e
 refine ⟨R1.ground s (fun b u e => ?_) (fun b u e => ?_) fun i d a q r => ?_, s⟩
 · by_cases z : b = p
   · subst z; rw [upd_same] at e ⊢; exact e
   · rw [upd_ne z] at e ⊢; exact R.gh _ _ e
 · rw [upd_ne (ne_of_none e (R.f_none hp))]; exact R.fg _ _ e
 · obtain ⟨a', h1, h2, h3, h4⟩ := R.own i d q
   rw [r] at h1; cases h1
   obtain ⟨u, hu, _⟩ := h4.at
   refine ⟨by rw [upd_ne (ne_of_none hu hp)]; exact h2, fun b hb gb => ?_⟩
   by_cases z : b = p
   · subst z
     rw [upd_same] at hb
     exact absurd (Option.some.inj hb) (ho a)
   · rw [upd_ne z]; exact gb
theorem Rst.new_own {xs : List V} {ds : List D} (R : Rst K c G H σ ρ) (hp : H p = none) (r : RpL K G ds xs) : Rst K c G (upd H p (.lst xs)) σ ρ ∧ RpR K c G (upd H p (.lst xs)) σ ρ (.ref p) (.own (.lst ds)) :=
 ⟨R.laid hp, p, rfl, R.g_none hp, R.f_none hp, ⟨xs, upd_same, r⟩, R.not_slot hp⟩
theorem Rst.new_tup {xs : List V} {ds : List D} (R : Rst K c G H σ ρ) (hp : H p = none) (r : RpL K G ds xs) : ∃ G', Same G G' ∧ Rst K c G' (upd H p (.tup xs)) σ ρ ∧ Rp K G' (.tup ds) (.ref p) := by
 obtain ⟨R', s⟩ := R.laidG (o := .tup xs) hp fun b z => nomatch z
 exact ⟨_, s, R', p, xs, rfl, .inl (.inl upd_same), r.mono s⟩
end
section
variable {K : PySem.W.Frag} {c : Cn} {G H : Hp} {v : V}
theorem Rh.int {i : Int} (h : Rh K c G H (.int i) v) : v = .int i := by
 rcases h with h | ⟨a, _, _, _, h⟩
 · exact h
 · exact h.elim
theorem Rh.bl {b : Bool} (h : Rh K c G H (.bl b) v) : v = .bl b := by
 rcases h with h | ⟨a, _, _, _, h⟩
 · exact h
 · exact h.elim
theorem Rh.non (h : Rh K c G H .non v) : v = .non := by
 rcases h with h | ⟨a, _, _, _, h⟩
 · exact h
 · exact h.elim
theorem Rh.str {x : Str} (h : Rh K c G H (.str x) v) : v = .str x := by
 rcases h with h | ⟨a, _, _, _, h⟩
 · exact h
 · exact h.elim
theorem Rh.ty {n : String} (h : Rh K c G H (.ty n) v) : v = .ty n := by
 rcases h with h | ⟨a, _, _, _, h⟩
 · exact h
 · exact h.elim
theorem Rh.cls {n : Str} (h : Rh K c G H (.cls n) v) : v = .ref (He.ga K n) := by
 rcases h with h | ⟨a, _, _, _, h⟩
 · exact h
 · exact h.elim
theorem Rh.tup {ds : List D} (h : Rh K c G H (.tup ds) v) (s : Same G H) : ∃ a xs, v = .ref a ∧ SqT K G a xs ∧ SqT K H a xs ∧ RpL K G ds xs := by
 rcases h with ⟨a, xs, h1, h2, h3⟩ | ⟨a, _, _, _, h⟩
 · exact ⟨a, xs, h1, h2, Same.seqt s h2, h3⟩
 · exact h.elim
theorem Rh.lst {ds : List D} (h : Rh K c G H (.lst ds) v) (s : Same G H) : ∃ a xs, v = .ref a ∧ H a = some (.lst xs) ∧ RpL K G ds xs := by
 rcases h with ⟨a, xs, h1, h2, h3⟩ | ⟨a, h1, _, _, xs, h2, h3⟩
 · exact ⟨a, xs, h1, s _ _ h2, h3⟩
 · exact ⟨a, xs, h1, h2, h3⟩
theorem Rh.dic {ks vs : List D} (h : Rh K c G H (.dic ks vs) v) (s : Same G H) : ∃ a kvs, v = .ref a ∧ H a = some (.dK kvs) ∧ RpL K G ks (kvs.map fun p => kV p.1) ∧ RpL K G vs (kvs.map fun p => p.2) := by
 rcases h with ⟨a, xs, h1, h2, h3, h4⟩ | ⟨a, h1, _, _, xs, h2, h3, h4⟩
 · exact ⟨a, xs, h1, s _ _ h2, h3, h4⟩
 · exact ⟨a, xs, h1, h2, h3, h4⟩
theorem Rh.obj {n : Str} {ns : List Str} {ds : List D} (h : Rh K c G H (.obj n ns ds) v) (s : Same G H) : ∃ a dx xs, v = .ref a ∧ H a = some (.ins (He.ga K n) dx (ns.zip xs)) ∧ ns.length = ds.length ∧ RpL K G ds xs := by
 rcases h with ⟨a, dx, xs, h1, h2, h3, h4, h5⟩ | ⟨a, h1, _, _, dx, xs, h2, h3, h4, h5, h6, h7, h8⟩
 · exact ⟨a, dx, xs, h1, s _ _ h2, h4, h5⟩
 · exact ⟨a, dx, xs, h1, h2, h7, h8⟩
theorem Rh.scr {ns : List Int} (h : Rh K c G H (.scr ns) v) (s : Same G H) : ∃ a, v = .ref a ∧ SqL K H a (ns.map V.int) := by
 rcases h with ⟨a, h1, h2⟩ | ⟨a, _, _, _, h⟩
 · exact ⟨a, h1, s.seq h2⟩
 · exact h.elim
end
def BinR (K : PySem.W.Frag) (r : R2) (g : D → D → Option Rv) : Prop := ∀ {c : Cn} {G H : Hp} {σ : L2.St} {ρ : List S} {v w : V} {d e : D} {q : Rv} {Q : VK}, Rst K c G H σ ρ → Rh K c G H d v → Rh K c G H e w → g d e = some q →
 (∀ z G' H', Rst K c G' H' σ ρ → Same G G' → RpR K c G' H' σ ρ z q → Q z H') → r v w H Q
def mBin (g : D → D → Option Rv) (fa fb : M Rv) : M Rv := do
 let x ← fa
 let y ← fb
 let d ← peek (settle x)
 let e ← peek y
 ofO (g d e)
theorem ofO_wp {α : Type} {o : Option α} {ρ : List S} {OK : α → List S → Prop} {EX : Xn → List S → Prop} (h : wpM (ofO o ρ) OK EX) : ∃ a, o = some a ∧ OK a ρ := by
 unfold ofO at h
 cases o with
 | none => exact h.elim
 | some a => exact ⟨a, rfl, h⟩
theorem tD_bin {K : PySem.W.Frag} {W : WX} {g : D → D → Option Rv} {r : R2} {fa fb : M Rv} (hg : BinR K r g) {σ : L2.St} {H : Hp} {Q : VK} (h : tD K W (mBin g fa fb) σ H Q) : tOp r (tD K W fa) (tD K W fb) σ H Q := by
 obtain ⟨c, G, ρ, R, w⟩ := h
 refine tg_step R (Same.refl G) w fun x ρ1 v G1 H1 R1 s1 _ k1 w1 => ?_
 obtain ⟨G1', s1', R1', k1'⟩ := settle_ok R1 k1
 refine tg_step R1' (s1.trans s1') w1 fun y ρ2 u G2 H2 R2 s2 s12 k2 w2 => ?_
 obtain ⟨d, kd, w3⟩ := peek_wp R2 (RpRs.one (k1'.mono s12)) (wpM_bind w2)
 obtain ⟨e, ke, w4⟩ := peek_wp R2 k2 (wpM_bind w3)
 obtain ⟨q, eq, w5⟩ := ofO_wp w4
 exact hg R2 kd ke eq fun z G' H' R' s' kz => w5 z G' H' R' (s2.trans s') kz
section
variable {X : Cx} {W : WX} {a b e : Expr} {fa fb : M Rv} {pos : Pos} {g : D → D → Option Rv} {r : R2}
theorem de_bin {op : Operator} (ho : OpR X (binaryOp op) r) (hg : BinR X.K r g) (ha : DE X W a fa) (hb : DE X W b fb) : DE X W (.BinOp a op b pos) (mBin g fa fb) :=
 ⟨(pe_op ho ha.pe hb.pe).weak fun _ _ _ h => tD_bin hg h⟩
theorem de_cmp {op : CmpOp} (ho : OpR X (compareOp op) r) (hg : BinR X.K r g) (ha : DE X W a fa) (hb : DE X W b fb) (hm : behindInMarks op b = false := by rfl) : DE X W (.Compare a [op] [b] pos) (mBin g fa fb) :=
 ⟨(pe_cmpR ho ha.pe hb.pe hm).weak fun _ _ _ h => tD_bin hg h⟩
theorem OpR.or {f : Value → Value → Sem Value} {r r' : R2} (h : OpR X f r) (h' : OpR X f r') : OpR X f (fun x y H Q => r x y H Q ∨ r' x y H Q) := fun pins s σ H x y v u Q I rx ry q => by
 rcases q with q | q
 · exact h pins s σ H x y v u Q I rx ry q
 · exact h' pins s σ H x y v u Q I rx ry q
end
theorem BinR.or {K : PySem.W.Frag} {r r' : R2} {g g' : D → D → Option Rv} (h : BinR K r g) (h' : BinR K r' g') : BinR K (fun x y H Q => r x y H Q ∨ r' x y H Q) (fun d e => (g d e).or (g' d e)) := fun {c G H σ ρ v w d e q Q} R kd ke eq k => by
 have eq : (g d e).or (g' d e) = some q := eq
 cases z : g d e with
 | some q' => rw [z, Option.some_or] at eq; cases eq; exact .inl (h R kd ke z k)
 | none => rw [z, Option.none_or] at eq; exact .inr (h' R kd ke eq k)
def gII (g : Int → Int → D) : D → D → Option Rv
 | .int i, .int j => some (.val (g i j))
 | _, _ => none
def gIIc (C : Int → Int → Bool) (g : Int → Int → D) : D → D → Option Rv
 | .int i, .int j => if C i j then some (.val (g i j)) else none
 | _, _ => none
theorem gII_ok {K : PySem.W.Frag} {g : Int → Int → D} {gv : Int → Int → V} (hv : ∀ i j G, Rp K G (g i j) (gv i j)) : BinR K (rI0 gv) (gII g) := fun {c G H σ ρ v w d e q Q} R kd ke eq k => by
 cases d <;> cases e <;> first
  | (rename_i i j; cases eq; exact ⟨i, j, kd.int, ke.int, k _ G H R (Same.refl G) (hv i j G)⟩)
  | cases eq
theorem gIIc_ok {K : PySem.W.Frag} {C : Int → Int → Bool} {Cp : Int → Int → Prop} {g : Int → Int → D} {gv : Int → Int → V} (hc : ∀ i j, C i j = true → Cp i j) (hv : ∀ i j G, Rp K G (g i j) (gv i j)) : BinR K (rI Cp gv) (gIIc C g) := fun {c G H σ ρ v w d e q Q} R kd ke eq k => by
 cases d <;> cases e <;> first
  | (rename_i i j
     have eq' : (if C i j = true then some (Rv.val (g i j)) else none) = some q := eq
     by_cases hC : C i j = true
     · rw [if_pos hC] at eq'; cases eq'
       exact ⟨i, j, kd.int, ke.int, hc i j hC, k _ G H R (Same.refl G) (hv i j G)⟩
     · rw [if_neg hC] at eq'; cases eq')
  | cases eq
def gSS : D → D → Option Rv
 | .str x, .str y => if x.length + y.length ≤ sizeLine then some (.val (.str (x ++ y))) else none
 | _, _ => none
theorem gSS_ok {K : PySem.W.Frag} : BinR K (fun x y H Q => ∃ i j, x = .str i ∧ y = .str j ∧ i.length + j.length ≤ sizeLine ∧ Q (.str (i ++ j)) H) gSS := fun {c G H σ ρ v w d e q Q} R kd ke eq k => by
 cases d <;> cases e <;> first
  | (rename_i i j
     have eq' : (if i.length + j.length ≤ sizeLine then some (Rv.val (.str (i ++ j))) else none) = some q := eq
     by_cases hC : i.length + j.length ≤ sizeLine
     · rw [if_pos hC] at eq'; cases eq'
       exact ⟨i, j, kd.str, ke.str, hC, k _ G H R (Same.refl G) rfl⟩
     · rw [if_neg hC] at eq'; cases eq')
  | cases eq
def gTT : D → D → Option Rv
 | .tup xs, .tup ys => if xs.length + ys.length ≤ sizeLine then some (.val (.tup (xs ++ ys))) else none
 | _, _ => none
theorem gTT_ok {K : PySem.W.Frag} : BinR K (rCatA K) gTT := fun {c G H σ ρ v w d e q Q} R kd ke eq k => by
 cases d <;> cases e <;> first
  | (rename_i xs ys
     have eq' : (if xs.length + ys.length ≤ sizeLine then some (Rv.val (.tup (xs ++ ys))) else none) = some q := eq
     by_cases hC : xs.length + ys.length ≤ sizeLine
     · rw [if_pos hC] at eq'; cases eq'
       obtain ⟨a, vs, rfl, g1, h1, r1⟩ := kd.tup R.gh
       obtain ⟨b, ws, rfl, g2, h2, r2⟩ := ke.tup R.gh
       refine ⟨a, b, vs, ws, rfl, rfl, h1, h2, by rw [r1.length, r2.length]; exact hC, fun z => ?_, fun _ z => ?_, fun _ _ p hp => ?_⟩
       · subst z
         refine k _ G H R (Same.refl G) ⟨b, ws, rfl, g2, ?_⟩
         have r1' := r1.length; cases xs with
          | nil => exact r2
          | cons => cases r1'
       · subst z
         refine k _ G H R (Same.refl G) ⟨a, vs, rfl, g1, ?_⟩
         have r2' := r2.length; cases ys with
          | nil => rw [List.append_nil]; exact r1
          | cons => cases r2'
       · obtain ⟨G', s, R', rr⟩ := R.new_tup hp (r1.append r2)
         exact k _ G' _ R' s rr
     · rw [if_neg hC] at eq'; cases eq')
  | cases eq
def gLL : D → D → Option Rv
 | .lst xs, .lst ys => if xs.length + ys.length ≤ sizeLine then some (.own (.lst (xs ++ ys))) else none
 | _, _ => none
theorem gLL_ok {K : PySem.W.Frag} : BinR K rCat gLL := fun {c G H σ ρ v w d e q Q} R kd ke eq k => by
 cases d <;> cases e <;> first
  | (rename_i xs ys
     have eq' : (if xs.length + ys.length ≤ sizeLine then some (Rv.own (.lst (xs ++ ys))) else none) = some q := eq
     by_cases hC : xs.length + ys.length ≤ sizeLine
     · rw [if_pos hC] at eq'; cases eq'
       obtain ⟨a, vs, rfl, h1, r1⟩ := kd.lst R.gh
       obtain ⟨b, ws, rfl, h2, r2⟩ := ke.lst R.gh
       refine ⟨a, b, vs, ws, rfl, rfl, h1, h2, by rw [r1.length, r2.length]; exact hC, fun p hp => ?_⟩
       obtain ⟨R', rr⟩ := R.new_own hp (r1.append r2)
       exact k _ G _ R' (Same.refl G) rr
     · rw [if_neg hC] at eq'; cases eq')
  | cases eq
def dAdd : D → D → Option Rv := fun d e => ((gII fun i j => .int (i + j)) d e).or ((gTT d e).or ((gLL d e).or (gSS d e)))
theorem add_op {X : Cx} : ∃ r, OpR X (binaryOp .Add) r ∧ BinR X.K r dAdd :=
 ⟨_, op_add.or (op_catA.or (op_cat.or op_add_str)), BinR.or (gII_ok (gv := fun i j => .int (i + j)) fun _ _ _ => by exact rfl) (BinR.or gTT_ok (BinR.or gLL_ok gSS_ok))⟩
def dSub : D → D → Option Rv := gII fun i j => .int (i - j)
theorem sub_op {X : Cx} : ∃ r, OpR X (binaryOp .Sub) r ∧ BinR X.K r dSub := ⟨_, op_sub, gII_ok fun _ _ _ => by exact rfl⟩
def mulOk (i j : Int) : Bool := decide (-(2 ^ 64) < i ∧ i < 2 ^ 64) || decide (-(2 ^ 64) < j ∧ j < 2 ^ 64)
def dMul : D → D → Option Rv := gIIc mulOk fun i j => .int (i * j)
theorem mul_op {X : Cx} : ∃ r, OpR X (binaryOp .Mult) r ∧ BinR X.K r dMul := ⟨_, op_mul, gIIc_ok (fun i j h => by
 unfold mulOk at h
 rcases Bool.or_eq_true_iff.mp h with h | h
 · exact .inl (of_decide_eq_true h)
 · exact .inr (of_decide_eq_true h)) fun _ _ _ => by exact rfl⟩
def divOk (_ j : Int) : Bool := decide (0 < j ∧ j < 2 ^ 64)
def dDiv : D → D → Option Rv := gIIc divOk fun i j => .int (i / j)
theorem div_op {X : Cx} : ∃ r, OpR X (binaryOp .FloorDiv) r ∧ BinR X.K r dDiv := ⟨_, op_fdivW, gIIc_ok (fun i j h => by
 obtain ⟨h1, h2⟩ := of_decide_eq_true (p := 0 < j ∧ j < 2 ^ 64) h
 exact wide_div (b := 64) h1 (by omega) (by decide) (by decide)) fun _ _ _ => by exact rfl⟩
def modOk (_ j : Int) : Bool := decide (0 < j)
def dMod : D → D → Option Rv := gIIc modOk fun i j => .int (i % j)
theorem mod_op {X : Cx} : ∃ r, OpR X (binaryOp .Mod) r ∧ BinR X.K r dMod := ⟨_, op_mod, gIIc_ok (fun i j h => of_decide_eq_true (p := 0 < j) h) fun _ _ _ => by exact rfl⟩
def powOk (i j : Int) : Bool := decide (0 ≤ j ∧ j ≤ 1000 ∧ i.natAbs < 2 ^ 64)
def dPow : D → D → Option Rv := gIIc powOk fun i j => .int (i ^ j.toNat)
theorem pow_op {X : Cx} : ∃ r, OpR X (binaryOp .Pow) r ∧ BinR X.K r dPow := ⟨_, op_pow, gIIc_ok (fun i j h => by
 obtain ⟨h1, h2, h3⟩ := of_decide_eq_true (p := 0 ≤ j ∧ j ≤ 1000 ∧ i.natAbs < 2 ^ 64) h
 exact ⟨h1, by omega, h3⟩) fun _ _ _ => by exact rfl⟩
def dLt : D → D → Option Rv := gII fun i j => .bl (decide (i < j))
def dLe : D → D → Option Rv := gII fun i j => .bl (decide (i ≤ j))
def dGt : D → D → Option Rv := gII fun i j => .bl (decide (j < i))
def dGe : D → D → Option Rv := gII fun i j => .bl (decide (j ≤ i))
theorem lt_op {X : Cx} : ∃ r, OpR X (compareOp .Lt) r ∧ BinR X.K r dLt := ⟨_, op_lt, gII_ok fun _ _ _ => by exact rfl⟩
theorem gt_op {X : Cx} : ∃ r, OpR X (compareOp .Gt) r ∧ BinR X.K r dGt := ⟨_, op_gt, gII_ok fun _ _ _ => by exact rfl⟩
theorem ge_op {X : Cx} : ∃ r, OpR X (compareOp .GtE) r ∧ BinR X.K r dGe := ⟨_, op_ge, gII_ok fun _ _ _ => by exact rfl⟩
section
variable {X : Cx} {W : WX} {a b e : Expr} {fa fb : M Rv} {pos : Pos}
abbrev eAdd := mBin dAdd
abbrev eSub := mBin dSub
abbrev eMul := mBin dMul
abbrev eDiv := mBin dDiv
abbrev eMod := mBin dMod
abbrev ePow := mBin dPow
abbrev eLt := mBin dLt
abbrev eGt := mBin dGt
abbrev eGe := mBin dGe
theorem de_add (ha : DE X W a fa) (hb : DE X W b fb) : DE X W (.BinOp a .Add b pos) (eAdd fa fb) := let ⟨_, h1, h2⟩ := add_op; de_bin h1 h2 ha hb
theorem de_sub (ha : DE X W a fa) (hb : DE X W b fb) : DE X W (.BinOp a .Sub b pos) (eSub fa fb) := let ⟨_, h1, h2⟩ := sub_op; de_bin h1 h2 ha hb
theorem de_mul (ha : DE X W a fa) (hb : DE X W b fb) : DE X W (.BinOp a .Mult b pos) (eMul fa fb) := let ⟨_, h1, h2⟩ := mul_op; de_bin h1 h2 ha hb
theorem de_div (ha : DE X W a fa) (hb : DE X W b fb) : DE X W (.BinOp a .FloorDiv b pos) (eDiv fa fb) := let ⟨_, h1, h2⟩ := div_op; de_bin h1 h2 ha hb
theorem de_mod (ha : DE X W a fa) (hb : DE X W b fb) : DE X W (.BinOp a .Mod b pos) (eMod fa fb) := let ⟨_, h1, h2⟩ := mod_op; de_bin h1 h2 ha hb
theorem de_pow (ha : DE X W a fa) (hb : DE X W b fb) : DE X W (.BinOp a .Pow b pos) (ePow fa fb) := let ⟨_, h1, h2⟩ := pow_op; de_bin h1 h2 ha hb
theorem de_ge (ha : DE X W a fa) (hb : DE X W b fb) : DE X W (.Compare a [.GtE] [b] pos) (eGe fa fb) := let ⟨_, h1, h2⟩ := ge_op; de_cmp h1 h2 ha hb (nomark _)
end
end Dl
namespace Dl
open PySem L2
mutual
def toP : D → Option PyData
 | .non => some .none
 | .bl b => some (.bool b)
 | .int i => some (.int i)
 | .str x => some (.str x)
 | .lst ds => (toPs ds).map .list
 | .tup ds => (toPs ds).map .tuple
 | _ => none
def toPs : List D → Option (List PyData)
 | [] => some []
 | d :: ds => match toP d, toPs ds with
  | some p, some ps => some (p :: ps)
  | _, _ => none
end
section
variable {K : PySem.W.Frag} {c : Cn} {G H : Hp}
mutual
theorem dp_of (s : Same G H) : ∀ (d : D) (v : V) (p : PyData), Rp K G d v → toP d = some p → Dp K H v p
 | .non, _, _, h, e => by cases h; cases e; exact .non
 | .bl b, _, _, h, e => by cases h; cases e; exact .bl b
 | .int b, _, _, h, e => by cases h; cases e; exact .int b
 | .str b, _, _, h, e => by cases h; cases e; exact .str b
 | .lst ds, _, _, ⟨a, xs, h1, h2, h3⟩, e => by
  have e : (toPs ds).map PyData.list = some _ := e
  obtain ⟨ps, e1, e2⟩ := Option.map_eq_some_iff.mp e
  subst h1 e2
  exact .lst (.inl (.inl (s _ _ h2))) (dps_of s ds xs ps h3 e1)
 | .tup ds, _, _, ⟨a, xs, h1, h2, h3⟩, e => by
  have e : (toPs ds).map PyData.tuple = some _ := e
  obtain ⟨ps, e1, e2⟩ := Option.map_eq_some_iff.mp e
  subst h1 e2
  exact .tup (Same.seqt s h2) (dps_of s ds xs ps h3 e1)
 | .obj _ _ _, _, _, _, e => by cases e
 | .dic _ _, _, _, _, e => by cases e
 | .ndi _ _, _, _, _, e => by cases e
 | .scr _, _, _, _, e => by cases e
 | .ty _, _, _, _, e => by cases e
 | .cls _, _, _, _, e => by cases e
theorem dps_of (s : Same G H) : ∀ (ds : List D) (xs : List V) (ps : List PyData), RpL K G ds xs → toPs ds = some ps → DpAll K H xs ps
 | [], _, _, h, e => by cases h; cases e; exact .nil
 | d :: ds, _, _, ⟨x, r, h1, h2, h3⟩, e => by
  have e : (match toP d, toPs ds with
   | some p, some ps => some (p :: ps)
   | _, _ => none) = some _ := e
  cases q1 : toP d with
  | none => rw [q1] at e; cases e
  | some p =>
   cases q2 : toPs ds with
   | none => rw [q1, q2] at e; cases e
   | some ps =>
    rw [q1, q2] at e
    cases e
    subst h1
    exact .cons (dp_of s d x p h2 q1) (dps_of s ds r ps h3 q2)
end
theorem Rh.dp {d : D} {v : V} {p : PyData} (h : Rh K c G H d v) (s : Same G H) (e : toP d = some p) : Dp K H v p := by
 rcases h with h | ⟨a, rfl, _, _, h⟩
 · exact dp_of s d v p h e
 · cases d with
   | lst ds =>
    obtain ⟨xs, h1, h2⟩ := h
    have e : (toPs ds).map PyData.list = some _ := e
    obtain ⟨ps, e1, e2⟩ := Option.map_eq_some_iff.mp e
    subst e2
    exact .lst (.inl (.inl h1)) (dps_of s ds xs ps h2 e1)
   | obj => cases e
   | dic => cases e
   | ndi => cases e
   | _ => exact h.elim
end
def dEqB (d e : D) : Option Bool := match toP d, toP e with
 | some p, some q => if (SeqAt.shaped p && SeqAt.shaped q) = true then some (PyData.eqv p q) else none
 | _, _ => none
def dEq (d e : D) : Option Rv := (dEqB d e).map fun b => .val (.bl b)
def dNe (d e : D) : Option Rv := (dEqB d e).map fun b => .val (.bl (!b))
theorem dEqB_some {d e : D} {b : Bool} (h : dEqB d e = some b) : ∃ p q, toP d = some p ∧ toP e = some q ∧ SeqAt.shaped p = true ∧ SeqAt.shaped q = true ∧ b = PyData.eqv p q := by
 unfold dEqB at h
 cases h1 : toP d with
 | none => rw [h1] at h; cases h
 | some p =>
  cases h2 : toP e with
  | none => rw [h1, h2] at h; cases h
  | some q =>
   rw [h1, h2] at h
   dsimp only at h
   by_cases hs : (SeqAt.shaped p && SeqAt.shaped q) = true
   · rw [if_pos hs] at h
     cases h
     obtain ⟨k1, k2⟩ := Bool.and_eq_true_iff.mp hs
     exact ⟨p, q, rfl, rfl, k1, k2, rfl⟩
   · rw [if_neg hs] at h; cases h
theorem eq_ok {K : PySem.W.Frag} : BinR K (rEqD K) dEq := fun {c G H σ ρ v w d e q Q} R kd ke eq k => by
 obtain ⟨b, h1, h2⟩ := Option.map_eq_some_iff.mp eq
 obtain ⟨p1, p2, e1, e2, s1, s2, rfl⟩ := dEqB_some h1
 subst h2
 exact ⟨p1, p2, kd.dp R.gh e1, ke.dp R.gh e2, s1, s2, k _ G H R (Same.refl G) rfl⟩
theorem ne_ok {K : PySem.W.Frag} : BinR K (rNeD K) dNe := fun {c G H σ ρ v w d e q Q} R kd ke eq k => by
 obtain ⟨b, h1, h2⟩ := Option.map_eq_some_iff.mp eq
 obtain ⟨p1, p2, e1, e2, s1, s2, rfl⟩ := dEqB_some h1
 subst h2
 exact ⟨p1, p2, kd.dp R.gh e1, ke.dp R.gh e2, s1, s2, k _ G H R (Same.refl G) rfl⟩
def flD : D → Bool
 | .non => true
 | .bl _ => true
 | .int _ => true
 | .str _ => true
 | _ => false
def feq : D → D → Bool
 | .non, .non => true
 | .bl a, .bl b => a == b
 | .bl a, .int b => (if a then 1 else 0) == b
 | .int a, .bl b => a == (if b then 1 else 0)
 | .int a, .int b => a == b
 | .str a, .str b => a == b
 | _, _ => false
theorem flat_rp {K : PySem.W.Frag} {G : Hp} {d : D} {v : V} (h : Rp K G d v) (f : flD d = true) : flatV v = true := by
 cases d <;> first | (cases h; rfl) | cases f
theorem feq_rp {K : PySem.W.Frag} {G : Hp} {d e : D} {v w : V} (h : Rp K G d v) (h' : Rp K G e w) (f : flD d = true) (f' : flD e = true) : eqV v w = feq d e := by
 cases d <;> first | (cases f; done) | (cases e <;> first | (cases f'; done) | (cases h; cases h'; rfl))
theorem flat_all {K : PySem.W.Frag} {G : Hp} : ∀ {ds : List D} {vs : List V}, RpL K G ds vs → ds.all flD = true → vs.all flatV = true
 | [], _, h, _ => by cases h; rfl
 | d :: ds, _, ⟨x, r, h1, h2, h3⟩, f => by
  obtain ⟨f1, f2⟩ := Bool.and_eq_true_iff.mp (show (flD d && ds.all flD) = true from f)
  subst h1
  show (flatV x && r.all flatV) = true
  rw [flat_rp h2 f1, flat_all h3 f2]; rfl
theorem inV_rp {K : PySem.W.Frag} {G : Hp} {d : D} {v : V} (hd : Rp K G d v) (fd : flD d = true) : ∀ {ds : List D} {vs : List V}, RpL K G ds vs → ds.all flD = true → inV v vs = ds.any fun y => feq y d
 | [], _, h, _ => by cases h; rfl
 | e :: ds, _, ⟨x, r, h1, h2, h3⟩, f => by
  obtain ⟨f1, f2⟩ := Bool.and_eq_true_iff.mp (show (flD e && ds.all flD) = true from f)
  subst h1
  show (eqV x v || inV v r) = (feq e d || ds.any fun y => feq y d)
  rw [feq_rp h2 hd f1 fd, inV_rp hd fd h3 f2]
def items : D → Option (List D)
 | .lst xs => some xs
 | .tup xs => some xs
 | _ => none
def dInB (x y : D) : Option Bool := match items y with
 | some ys => if (flD x && ys.all flD) = true then some (ys.any fun z => feq z x) else none
 | none => none
def dIn (x y : D) : Option Rv := (dInB x y).map fun b => .val (.bl b)
def dNotIn (x y : D) : Option Rv := (dInB x y).map fun b => .val (.bl (!b))
theorem dInB_some {K : PySem.W.Frag} {c : Cn} {G H : Hp} {x y : D} {b : Bool} {v w : V} (s : Same G H) (h : dInB x y = some b) (hx : Rh K c G H x v) (hy : Rh K c G H y w) :
  ∃ p xs, w = .ref p ∧ (SqL K H p xs ∨ SqT K H p xs) ∧ flatV v = true ∧ xs.all flatV = true ∧ inV v xs = b := by
 unfold dInB at h
 cases e : items y with
 | none => rw [e] at h; cases h
 | some ys =>
  rw [e] at h
  dsimp only at h
  by_cases hf : (flD x && ys.all flD) = true
  · rw [if_pos hf] at h
    cases h
    obtain ⟨f1, f2⟩ := Bool.and_eq_true_iff.mp hf
    have rx : Rp K G x v := by
     rcases hx with h | ⟨a, _, _, _, h⟩
     · exact h
     · cases x <;> first | exact h.elim | cases f1
    cases y with
    | lst zs =>
     cases e
     obtain ⟨a, xs, h1, h2, h3⟩ := hy.lst s
     exact ⟨a, xs, h1, .inl (.inl (.inl h2)), flat_rp rx f1, flat_all h3 f2, inV_rp rx f1 h3 f2⟩
    | tup zs =>
     cases e
     obtain ⟨a, xs, h1, _, h2, h3⟩ := hy.tup s
     exact ⟨a, xs, h1, .inr h2, flat_rp rx f1, flat_all h3 f2, inV_rp rx f1 h3 f2⟩
    | _ => cases e
  · rw [if_neg hf] at h; cases h
theorem in_ok {K : PySem.W.Frag} : BinR K (rIn K false) dIn := fun {c G H σ ρ v w d e q Q} R kd ke eq k => by
 obtain ⟨b, h1, h2⟩ := Option.map_eq_some_iff.mp eq
 subst h2
 obtain ⟨p, xs, rfl, hs, f1, f2, hb⟩ := dInB_some R.gh h1 kd ke
 refine ⟨p, xs, rfl, hs, f1, f2, k _ G H R (Same.refl G) ?_⟩
 show V.bl (inV v xs) = V.bl b
 rw [hb]
def dIsN (d e : D) : Option Rv := match d, e with
 | .non, .non => some (.val (.bl true))
 | .obj _ _ _, .non | .int _, .non | .bl _, .non | .str _, .non | .lst _, .non | .tup _, .non | .dic _ _, .non => some (.val (.bl false))
 | .bl a, .bl b => some (.val (.bl (decide (a = b))))
 | _, _ => none
def dNotN (d e : D) : Option Rv := match d, e with
 | .non, .non => some (.val (.bl false))
 | .obj _ _ _, .non | .int _, .non | .bl _, .non | .str _, .non | .lst _, .non | .tup _, .non | .dic _ _, .non => some (.val (.bl true))
 | .bl a, .bl b => some (.val (.bl (!decide (a = b))))
 | _, _ => none
theorem Rh.nn {K : PySem.W.Frag} {c : Cn} {G H : Hp} {d : D} {v : V} (h : Rh K c G H d v) (n : d ≠ .non) : v ≠ .non := by
 intro z
 subst z
 rcases h with h | ⟨a, e, _⟩
 · cases d <;> first | (exact n rfl) | (exact nomatch h) | (obtain ⟨_, _, e, _⟩ := h; cases e) | (obtain ⟨_, e, _⟩ := h; cases e)
 · cases e
theorem is_ok {K : PySem.W.Frag} : BinR K (fun x y H Q => (y = .non ∧ Q (.bl (decide (x = .non))) H) ∨ rIsB x y H Q) dIsN := fun {c G H σ ρ v w d e q Q} R kd ke eq k => by
 have no : ∀ {d : D}, Rh K c G H d v → d ≠ .non → e = .non → q = .val (.bl false) → (w = .non ∧ Q (.bl (decide (v = .non))) H) := fun {d} kd n he hq => by
  subst he hq
  refine ⟨ke.non, k _ G H R (Same.refl G) ?_⟩
  show V.bl _ = V.bl false
  rw [decide_eq_false (kd.nn n)]
 cases d <;> cases e <;> first
  | (cases eq; done)
  | (cases eq; exact .inl (no kd (by intro z; cases z) rfl rfl))
  | (cases eq
     refine .inl ⟨ke.non, k _ G H R (Same.refl G) ?_⟩
     show V.bl _ = V.bl true
     rw [decide_eq_true kd.non])
  | (cases eq
     rename_i a b
     exact .inr ⟨a, b, kd.bl, ke.bl, k _ G H R (Same.refl G) rfl⟩)
theorem notN_ok {K : PySem.W.Frag} : BinR K (fun x y H Q => (y = .non ∧ Q (.bl (!decide (x = .non))) H) ∨ rNotB x y H Q) dNotN := fun {c G H σ ρ v w d e q Q} R kd ke eq k => by
 have no : ∀ {d : D}, Rh K c G H d v → d ≠ .non → e = .non → q = .val (.bl true) → (w = .non ∧ Q (.bl (!decide (v = .non))) H) := fun {d} kd n he hq => by
  subst he hq
  refine ⟨ke.non, k _ G H R (Same.refl G) ?_⟩
  show V.bl _ = V.bl true
  rw [decide_eq_false (kd.nn n)]; rfl
 cases d <;> cases e <;> first
  | (cases eq; done)
  | (cases eq; exact .inl (no kd (by intro z; cases z) rfl rfl))
  | (cases eq
     refine .inl ⟨ke.non, k _ G H R (Same.refl G) ?_⟩
     show V.bl _ = V.bl false
     rw [decide_eq_true kd.non]; rfl)
  | (cases eq
     rename_i a b
     exact .inr ⟨a, b, kd.bl, ke.bl, k _ G H R (Same.refl G) rfl⟩)
section
variable {X : Cx} {W : WX} {a b e : Expr} {fa fb : M Rv} {pos : Pos}
def dInDeep (x y : D) : Option Bool := match y with
 | .lst ys => match toP x, toPs ys with
  | some d, some ds => if (SeqAt.shaped d && SeqAt.shaped (.list ds)) = true then some (ds.any fun z => PyData.eqv z d) else none
  | _, _ => none
 | _ => none
def dInD (x y : D) : Option Rv := (dInDeep x y).map fun b => .val (.bl b)
def dNotInD (x y : D) : Option Rv := (dInDeep x y).map fun b => .val (.bl (!b))
theorem dInDeep_some {x y : D} {b : Bool} (h : dInDeep x y = some b) : ∃ d ds, toP x = some d ∧ toP y = some (.list ds) ∧ SeqAt.shaped d = true ∧ SeqAt.shaped (.list ds) = true ∧ b = (ds.any fun z => PyData.eqv z d) := by
 unfold dInDeep at h
 cases y <;> first
  | (cases h; done)
  | (rename_i ys
     dsimp only at h
     cases h1 : toP x with
     | none => rw [h1] at h; cases h
     | some d =>
      cases h2 : toPs ys with
      | none => rw [h1, h2] at h; cases h
      | some ds =>
       rw [h1, h2] at h
       dsimp only at h
       by_cases hs : (SeqAt.shaped d && SeqAt.shaped (.list ds)) = true
       · rw [if_pos hs] at h
         cases h
         obtain ⟨k1, k2⟩ := Bool.and_eq_true_iff.mp hs
         exact ⟨d, ds, rfl, by unfold toP; rw [h2]; rfl, k1, k2, rfl⟩
       · rw [if_neg hs] at h; cases h)
theorem inD_ok {K : PySem.W.Frag} : BinR K (rInD K) dInD := fun {c G H σ ρ v w d e q Q} R kd ke eq k => by
 obtain ⟨b, h1, h2⟩ := Option.map_eq_some_iff.mp eq
 obtain ⟨p1, p2, e1, e2, s1, s2, rfl⟩ := dInDeep_some h1
 subst h2
 exact ⟨p1, p2, kd.dp R.gh e1, ke.dp R.gh e2, s1, s2, k _ G H R (Same.refl G) rfl⟩
def dIn2 (x y : D) : Option Rv := (dIn x y).or (dInD x y)
def dNotIn2 (x y : D) : Option Rv := (dNotIn x y).or (dNotInD x y)
abbrev eEq := mBin dEq
abbrev eNe := mBin dNe
abbrev eIn := mBin dIn2
abbrev eIs := mBin dIsN
abbrev eIsNot := mBin dNotN
def Rm (X : Cx) : Prop := X.A.units + 65 < cLine
theorem de_eq (hu : Rm X) (ha : DE X W a fa) (hb : DE X W b fb) : DE X W (.Compare a [.Eq] [b] pos) (eEq fa fb) := de_cmp (op_eqD (Nat.lt_of_succ_lt hu)) eq_ok ha hb (nomark _)
theorem de_is (ha : DE X W a fa) (hb : DE X W b fb) : DE X W (.Compare a [.Is] [b] pos) (eIs fa fb) := de_cmp (op_isN.or op_isBl) is_ok ha hb (nomark _)
end
def truD : D → Option Bool
 | .non => some false
 | .bl b => some b
 | .int i => some (i != 0)
 | .lst xs => some (!xs.isEmpty)
 | .tup xs => some (!xs.isEmpty)
 | .dic ks _ => some (!ks.isEmpty)
 | _ => none
theorem truD_ok {K : PySem.W.Frag} {c : Cn} {G H : Hp} {d : D} {v : V} {b : Bool} (s : Same G H) (h : Rh K c G H d v) (e : truD d = some b) : TruV K v H b := by
 cases d with
 | non => cases e; rw [h.non]; rfl
 | bl k => cases e; rw [h.bl]; rfl
 | int i => cases e; rw [h.int]; rfl
 | lst ds =>
  cases e
  obtain ⟨a, xs, rfl, h2, h3⟩ := h.lst s
  have hl := h3.length
  refine .inl ⟨xs, .inl (.inl h2), ?_⟩
  cases ds <;> cases xs <;> first | rfl | cases hl
 | tup ds =>
  cases e
  obtain ⟨a, xs, rfl, _, h2, h3⟩ := h.tup s
  have hl := h3.length
  refine .inr (.inl ⟨xs, h2, ?_⟩)
  cases ds <;> cases xs <;> first | rfl | cases hl
 | dic ks vs =>
  cases e
  obtain ⟨a, xs, rfl, h2, h3, _⟩ := h.dic s
  have hl := h3.length
  refine .inr (.inr ⟨xs, h2, ?_⟩)
  cases ks <;> cases xs <;> first | rfl | cases hl
 | _ => cases e
def tru (r : Rv) : M Bool := do
 let d ← peek r
 ofO (truD d)
theorem tru_wp {K : PySem.W.Frag} {c : Cn} {G H : Hp} {σ : L2.St} {ρ : List S} {v : V} {r : Rv} {OK : Bool → List S → Prop} {EX : Xn → List S → Prop} (R : Rst K c G H σ ρ) (h : RpR K c G H σ ρ v r) (w : wpM (tru r ρ) OK EX) :
  ∃ b, TruV K v H b ∧ OK b ρ := by
 obtain ⟨d, kd, w1⟩ := peek_wp R h (wpM_bind w)
 obtain ⟨b, eb, w2⟩ := ofO_wp w1
 exact ⟨b, truD_ok R.gh kd eb, w2⟩
section
variable {X : Cx} {W : WX} {a b e cc : Expr} {rest : List Expr} {fa fb : M Rv} {ga gb : M Bool} {pos : Pos}
def tVal (fa : M Rv) : M Bool := do
 let r ← fa
 tru r
theorem dt_val (ha : DE X W a fa) (he : ∀ whole, isTrue a X.env whole = (do let v ← whole; standAt a.pos; holding [v] (truthy v)) := by intro _; rfl) : DT X W a (tVal fa) :=
 ⟨(pt_truth ha.pe he).weak fun σ H Q ⟨c, G, ρ, R, w⟩ => tg_step R (Same.refl G) w fun x ρ1 v G1 H1 R1 s1 _ k1 w1 => by
  obtain ⟨b, hb, w2⟩ := tru_wp R1 k1 w1
  exact ⟨b, hb, w2 b G1 H1 R1 s1 rfl⟩⟩
def tNot (ga : M Bool) : M Bool := do
 let b ← ga
 pure (!b)
theorem dt_not (ha : DT X W a ga) : DT X W (.UnaryOp .Not a pos) (tNot ga) :=
 ⟨(pt_not ha.pt).weak fun σ H Q ⟨c, G, ρ, R, w⟩ => tg_step R (Same.refl G) w fun x ρ1 v G1 H1 R1 s1 _ k1 w1 => by
  obtain rfl : v = x := k1
  exact w1 (!v) G1 H1 R1 s1 rfl⟩
def tAnd (ga gb : M Bool) : M Bool := do
 let b ← ga
 if b = true then gb else pure false
def tOr (ga gb : M Bool) : M Bool := do
 let b ← ga
 if b = true then pure true else gb
theorem DW.t (h : DW X W e ga) : DT X W e ga := ⟨h.pw.pt⟩
theorem dw_and1 (ha : DT X W a ga) : DW X W (.BoolOp .And [a] pos) ga := ⟨pw_and1 ha.pt⟩
theorem dw_or1 (ha : DT X W a ga) : DW X W (.BoolOp .Or [a] pos) ga := ⟨pw_or1 ha.pt⟩
theorem dw_and (ha : DT X W a ga) (hb : DW X W (.BoolOp .And (b :: rest) pos) gb) : DW X W (.BoolOp .And (a :: b :: rest) pos) (tAnd ga gb) :=
 ⟨(pw_and ha.pt hb.pw).weak fun σ H Q ⟨c, G, ρ, R, w⟩ => tg_step R (Same.refl G) w fun x ρ1 v G1 H1 R1 s1 _ k1 w1 => by
  obtain rfl : v = x := k1
  cases v with
  | true =>
   rw [if_pos rfl] at w1 ⊢
   exact ⟨c, G1, ρ1, R1, wpM_mono w1 (fun y ρ2 h b' G' H' R' s' k' => h b' G' H' R' (s1.trans s') k') fun _ _ x => x.mono s1⟩
  | false =>
   rw [if_neg Bool.false_ne_true] at w1 ⊢
   exact w1 false G1 H1 R1 s1 rfl⟩
theorem dw_or (ha : DT X W a ga) (hb : DW X W (.BoolOp .Or (b :: rest) pos) gb) : DW X W (.BoolOp .Or (a :: b :: rest) pos) (tOr ga gb) :=
 ⟨(pw_or ha.pt hb.pw).weak fun σ H Q ⟨c, G, ρ, R, w⟩ => tg_step R (Same.refl G) w fun x ρ1 v G1 H1 R1 s1 _ k1 w1 => by
  obtain rfl : v = x := k1
  cases v with
  | true =>
   rw [if_pos rfl] at w1 ⊢
   exact w1 true G1 H1 R1 s1 rfl
  | false =>
   rw [if_neg Bool.false_ne_true] at w1 ⊢
   exact ⟨c, G1, ρ1, R1, wpM_mono w1 (fun y ρ2 h b' G' H' R' s' k' => h b' G' H' R' (s1.trans s') k') fun _ _ x => x.mono s1⟩⟩
def eNot (fa : M Rv) : M Rv := do
 let r ← fa
 let b ← tru r
 pure (.val (.bl (!b)))
theorem de_not (ha : DE X W a fa) : DE X W (.UnaryOp .Not a pos) (eNot fa) :=
 ⟨(pe_notT ha.pe).weak fun σ H Q ⟨c, G, ρ, R, w⟩ => tg_step R (Same.refl G) w fun x ρ1 v G1 H1 R1 s1 _ k1 w1 => by
  obtain ⟨b, hb, w2⟩ := tru_wp R1 k1 (wpM_bind w1)
  exact ⟨b, hb, w2 (.bl (!b)) G1 H1 R1 s1 rfl⟩⟩
def eAnd (fa fb : M Rv) : M Rv := do
 let r ← fa
 let b ← tru (settle r)
 if b = true then fb else pure (settle r)
def eOr (fa fb : M Rv) : M Rv := do
 let r ← fa
 let b ← tru (settle r)
 if b = true then pure (settle r) else fb
theorem de_one {op : BoolOp} (ha : DE X W a fa) : DE X W (.BoolOp op [a] pos) fa := ⟨pe_one ha.pe⟩
theorem de_and (ha : DE X W a fa) (hb : DE X W (.BoolOp .And (b :: rest) pos) fb) : DE X W (.BoolOp .And (a :: b :: rest) pos) (eAnd fa fb) :=
 ⟨(pe_andT ha.pe hb.pe).weak fun σ H Q ⟨c, G, ρ, R, w⟩ => tg_step R (Same.refl G) w fun x ρ1 v G1 H1 R1 s1 _ k1 w1 => by
  obtain ⟨G1', s1', R1', k1'⟩ := settle_ok R1 k1
  obtain ⟨b, hb, w2⟩ := tru_wp R1' k1'.one (wpM_bind w1)
  refine ⟨b, hb, ?_⟩
  cases b with
  | true =>
   rw [if_pos rfl] at w2 ⊢
   exact ⟨c, G1', ρ1, R1', wpM_mono w2 (fun y ρ2 h b' G' H' R' s' k' => h b' G' H' R' ((s1.trans s1').trans s') k') fun _ _ x => x.mono (s1.trans s1')⟩
  | false =>
   rw [if_neg Bool.false_ne_true] at w2 ⊢
   exact w2 v G1' H1 R1' (s1.trans s1') k1'.one⟩
def eIf (g : M Bool) (fa fb : M Rv) : M Rv := do
 let b ← g
 if b = true then fa else fb
def eNeg (fa : M Rv) : M Rv := do
 let r ← fa
 let d ← peek r
 match d with
 | .int i => pure (.val (.int (-i)))
 | _ => M.fail
theorem de_neg (ha : DE X W a fa) : DE X W (.UnaryOp .USub a pos) (eNeg fa) :=
 ⟨(pe_un un_neg ha.pe).weak fun σ H Q ⟨c, G, ρ, R, w⟩ => tg_step R (Same.refl G) w fun x ρ1 v G1 H1 R1 s1 _ k1 w1 => by
  obtain ⟨d, kd, w2⟩ := peek_wp R1 k1 (wpM_bind w1)
  cases d <;> first
   | exact w2.elim
   | (rename_i i; exact ⟨i, kd.int, w2 (.int (-i)) G1 H1 R1 s1 rfl⟩)⟩
end
end Dl
namespace Dl
open PySem L2
section
variable {K : PySem.W.Frag} {c : Cn} {G G' H H' : Hp} {σ : L2.St} {ρ ρ' : List S} {v : V} {d : D} {r : Rv} {rs : List Rv} {vs : List V}
theorem RpRs.vals : ∀ {ds : List D} {vs : List V}, RpL K G ds vs → RpRs K G σ vs (ds.map Rv.val)
 | [], _, h => by cases h; trivial
 | d :: ds, _, ⟨x, r, h1, h2, h3⟩ => by subst h1; exact ⟨h2, RpRs.vals h3⟩
theorem RpRs.append : ∀ {vs ws : List V} {rs qs : List Rv}, RpRs K G σ vs rs → RpRs K G σ ws qs → RpRs K G σ (vs ++ ws) (rs ++ qs)
 | [], ws, [], qs, _, k => k
 | v :: vs, ws, r :: rs, qs, h, k => let ⟨h1, h2⟩ := h.head; RpRs.cons h1 (h2.append k)
 | [], _, _ :: _, _, h, _ => h.elim
 | _ :: _, _, [], _, h, _ => h.elim
end
section
variable {X : Cx} {W : WX} {a b e : Expr} {es : List Expr} {fa fb : M Rv} {ga : M (List Rv)} {pos p : Pos}
def eTup (ga : M (List Rv)) : M Rv := do
 let rs ← ga
 let ds ← toVs rs
 if ds.length ≤ sizeLine then pure (.val (.tup ds)) else M.fail
def eLst (ga : M (List Rv)) : M Rv := do
 let rs ← ga
 let ds ← toVs rs
 if ds.length ≤ sizeLine then pure (.own (.lst ds)) else M.fail
theorem de_tup {k} (ha : DA X W es ga) : DE X W (.Tuple es k pos) (eTup ga) :=
 ⟨(pe_tup ha.pa).weak fun σ H Q ⟨c, G, ρ, R, w⟩ => tg_step R (Same.refl G) w fun rs ρ1 vs G1 H1 R1 s1 _ k1 w1 => by
  obtain ⟨ds, G2, ρ2, s2, R2, k2, w2⟩ := toVs_wp R1 k1 (wpM_bind w1)
  by_cases hl : ds.length ≤ sizeLine
  · rw [if_pos hl] at w2
    refine ⟨by rw [k2.length]; exact hl, fun p hp => ?_⟩
    obtain ⟨G3, s3, R3, k3⟩ := R2.new_tup hp k2
    exact w2 _ G3 _ R3 ((s1.trans s2).trans s3) k3
  · rw [if_neg hl] at w2; exact w2.elim⟩
theorem de_lst (ha : DA X W es ga) : DE X W (.List es pos) (eLst ga) :=
 ⟨(pe_lst ha.pa).weak fun σ H Q ⟨c, G, ρ, R, w⟩ => tg_step R (Same.refl G) w fun rs ρ1 vs G1 H1 R1 s1 _ k1 w1 => by
  obtain ⟨ds, G2, ρ2, s2, R2, k2, w2⟩ := toVs_wp R1 k1 (wpM_bind w1)
  by_cases hl : ds.length ≤ sizeLine
  · rw [if_pos hl] at w2
    refine ⟨by rw [k2.length]; exact hl, fun p hp => ?_⟩
    obtain ⟨R3, k3⟩ := R2.new_own hp k2
    exact w2 _ G2 _ R3 (s1.trans s2) k3
  · rw [if_neg hl] at w2; exact w2.elim⟩
def aStar (f : M Rv) (g : M (List Rv)) : M (List Rv) := do
 let r ← f
 let d ← peek r
 match items d with
 | some ds => do
  let rs ← g
  pure (ds.map Rv.val ++ rs)
 | none => M.fail
theorem da_star {f : M Rv} {g : M (List Rv)} (he : DE X W e f) (hr : DA X W es g) (hs : starEach (.Starred e p :: es) X.env = (true, eval e X.env) :: starEach es X.env := by rfl) : DA X W (.Starred e p :: es) (aStar f g) :=
 ⟨(StX.pa_star he.pe hr.pa hs).weak fun σ H Q ⟨c, G, ρ, R, w⟩ => tg_step R (Same.refl G) w fun r ρ1 v G1 H1 R1 s1 _ k w1 => by
  obtain ⟨d, kd, w2⟩ := peek_wp R1 k (wpM_bind w1)
  have go : ∀ (a : Addr) (xs : List V) (ds : List D), (SqT X.K H1 a xs ∨ SqL X.K H1 a xs) → RpL X.K G1 ds xs → items d = some ds → v = .ref a →
    ∃ p xs, v = V.ref p ∧ (SqT X.K H1 p xs ∨ SqL X.K H1 p xs) ∧ tDA X.K W g σ H1 fun ys H2 => Q (xs ++ ys) H2 := fun a xs ds h1 h2 h3 h4 => by
   rw [h3] at w2
   refine ⟨a, xs, h4, h1, ?_⟩
   exact tg_step R1 s1 w2 fun rs ρ2 vs G2 H2 R2 s2 s12 k2 w3 => w3 (xs ++ vs) G2 H2 R2 s2 (RpRs.append (RpRs.vals (h2.mono s12)) k2)
  cases d with
  | lst ds =>
   obtain ⟨a, xs, h1, h2, h3⟩ := kd.lst R1.gh
   exact go a xs ds (.inr (.inl (.inl h2))) h3 rfl h1
  | tup ds =>
   obtain ⟨a, xs, h1, _, h2, h3⟩ := kd.tup R1.gh
   exact go a xs ds (.inl h2) h3 rfl h1
  | _ => exact w2.elim⟩
end
def CalR (K : PySem.W.Frag) (r : List V → Hp → VK → Prop) (g : List D → Option Rv) : Prop := ∀ {c : Cn} {G H : Hp} {σ : L2.St} {ρ : List S} {vs : List V} {ds : List D} {q : Rv} {Q : VK}, Rst K c G H σ ρ → RhL K c G H ds vs → g ds = some q →
 (∀ z G' H', Rst K c G' H' σ ρ → Same G G' → RpR K c G' H' σ ρ z q → Q z H') → r vs H Q
def eB (g : List D → Option Rv) (ga : M (List Rv)) : M Rv := do
 let rs ← ga
 let ds ← peeks rs
 ofO (g ds)
theorem CalR.or {K : PySem.W.Frag} {r r' : List V → Hp → VK → Prop} {g g' : List D → Option Rv} (h : CalR K r g) (h' : CalR K r' g') : CalR K (fun xs H Q => r xs H Q ∨ r' xs H Q) (fun ds => (g ds).or (g' ds)) := fun {c G H σ ρ vs ds q Q} R kd eq k => by
 have eq : (g ds).or (g' ds) = some q := eq
 cases z : g ds with
 | some q' => rw [z, Option.some_or] at eq; cases eq; exact .inl (h R kd z k)
 | none => rw [z, Option.none_or] at eq; exact .inr (h' R kd eq k)
theorem CallR.or {X : Cx} {f : Value} {r r' : List V → Hp → VK → Prop} (h : CallR X f r) (h' : CallR X f r') : CallR X f (fun xs H Q => r xs H Q ∨ r' xs H Q) := fun pins s σ H xs us Q I rx q => by
 rcases q with q | q
 · exact h pins s σ H xs us Q I rx q
 · exact h' pins s σ H xs us Q I rx q
theorem RhL.one {K : PySem.W.Frag} {c : Cn} {G H : Hp} {d : D} {vs : List V} (h : RhL K c G H [d] vs) : ∃ v, vs = [v] ∧ Rh K c G H d v := by
 obtain ⟨v, r, h1, h2, h3⟩ := h
 cases h3
 exact ⟨v, h1, h2⟩
theorem RhL.two {K : PySem.W.Frag} {c : Cn} {G H : Hp} {d e : D} {vs : List V} (h : RhL K c G H [d, e] vs) : ∃ v w, vs = [v, w] ∧ Rh K c G H d v ∧ Rh K c G H e w := by
 obtain ⟨v, r, h1, h2, h3⟩ := h
 obtain ⟨w, rfl, h4⟩ := h3.one
 exact ⟨v, w, h1, h2, h4⟩
section
variable {X : Cx} {W : WX} {x : Str} {e : Expr} {es : List Expr} {ga : M (List Rv)} {pos p : Pos} {id T : String} {r : List V → Hp → VK → Prop} {g : List D → Option Rv}
theorem tD_call {σ : L2.St} {H : Hp} {Q : VK} (hg : CalR X.K r g) (h : tD X.K W (eB g ga) σ H Q) : tCB r (tDA X.K W ga) σ H Q := by
 obtain ⟨c, G, ρ, R, w⟩ := h
 refine tg_step R (Same.refl G) w fun rs ρ1 vs G1 H1 R1 s1 _ k1 w1 => ?_
 obtain ⟨ds, kd, w2⟩ := peeks_wp R1 k1 (wpM_bind w1)
 obtain ⟨q, eq, w3⟩ := ofO_wp w2
 exact hg R1 kd eq fun z G' H' R' s' kz => w3 z G' H' R' (s1.trans s') kz
theorem de_B (hc : CallR X (.builtin id) r) (hq : CalR X.K r g) (hg : Gl X x) (hm : X.mg x = none) (hv : bootBuiltins x = some (.builtin id)) (ha : DA X W (e :: es) ga) (hn : x ≠ "__name__" := by decide) (hdb : (x == ("__debug__" : Str)) = false := by decide)
  (he : starEach (e :: es) X.env = (false, eval e X.env) :: starEach es X.env := by rfl) (hpl : (backTo pos (starEach es X.env)).any (·.1) = false := by rfl) : DE X W (.Call (.Name x p) (e :: es) [] pos) (eB g ga) :=
 ⟨(pe_callB hc hg hm hv ha.pa hn hdb he hpl).weak fun _ _ _ h => tD_call hq h⟩
theorem de_Ty (hc : CallR X (.type T) r) (hq : CalR X.K r g) (hg : Gl X x) (hm : X.mg x = none) (hv : bootBuiltins x = some (.type T)) (ha : DA X W (e :: es) ga) (hn : x ≠ "__name__" := by decide) (hdb : (x == ("__debug__" : Str)) = false := by decide)
  (he : starEach (e :: es) X.env = (false, eval e X.env) :: starEach es X.env := by rfl) (hpl : (backTo pos (starEach es X.env)).any (·.1) = false := by rfl) : DE X W (.Call (.Name x p) (e :: es) [] pos) (eB g ga) :=
 ⟨(pe_callTy hc hg hm hv ha.pa hn hdb he hpl).weak fun _ _ _ h => tD_call hq h⟩
end
def gLen : List D → Option Rv
 | [.lst xs] => some (.val (.int xs.length))
 | [.tup xs] => some (.val (.int xs.length))
 | [.scr xs] => some (.val (.int xs.length))
 | [.str x] => if x.length ≤ sizeLine then some (.val (.int x.length)) else none
 | _ => none
theorem len_ok {K : PySem.W.Frag} : CalR K (fun xs H Q => ∃ x n, xs = [x] ∧ LenV K x H n ∧ Q (.int n) H) gLen := fun {c G H σ ρ vs ds q Q} R kd eq k => by
 unfold gLen at eq
 split at eq
 · cases eq
   obtain ⟨v, rfl, kv⟩ := kd.one
   obtain ⟨a, xs, rfl, h2, h3⟩ := kv.lst R.gh
   exact ⟨_, xs.length, rfl, .inl ⟨xs, .inl (.inl h2), rfl⟩, k _ G H R (Same.refl G) (by rw [h3.length]; rfl)⟩
 · cases eq
   obtain ⟨v, rfl, kv⟩ := kd.one
   obtain ⟨a, xs, rfl, _, h2, h3⟩ := kv.tup R.gh
   exact ⟨_, xs.length, rfl, .inr ⟨xs, h2, rfl⟩, k _ G H R (Same.refl G) (by rw [h3.length]; rfl)⟩
 · cases eq
   rename_i ns
   obtain ⟨v, rfl, kv⟩ := kd.one
   obtain ⟨a, rfl, h2⟩ := kv.scr R.gh
   exact ⟨_, _, rfl, .inl ⟨_, h2, rfl⟩, k _ G H R (Same.refl G) (by rw [List.length_map]; rfl)⟩
 · split at eq
   · cases eq
     rename_i hl
     obtain ⟨v, rfl, kv⟩ := kd.one
     have e := kv.str
     subst e
     exact ⟨_, _, rfl, ⟨hl, rfl⟩, k _ G H R (Same.refl G) rfl⟩
   · cases eq
 · cases eq
def gInt : List D → Option Rv
 | [.int i] => some (.val (.int i))
 | [.bl b] => some (.val (.int (if b then 1 else 0)))
 | _ => none
theorem int_ok {K : PySem.W.Frag} : CalR K (fun xs H Q => (∃ i, xs = [.int i] ∧ Q (.int i) H) ∨ ∃ k, xs = [.bl k] ∧ Q (.int (if k then 1 else 0)) H) gInt := fun {c G H σ ρ vs ds q Q} R kd eq k => by
 unfold gInt at eq
 split at eq
 · cases eq
   obtain ⟨v, rfl, kv⟩ := kd.one
   have e := kv.int
   subst e
   exact .inl ⟨_, rfl, k _ G H R (Same.refl G) rfl⟩
 · cases eq
   obtain ⟨v, rfl, kv⟩ := kd.one
   have e := kv.bl
   subst e
   exact .inr ⟨_, rfl, k _ G H R (Same.refl G) rfl⟩
 · cases eq
def gMax2 : List D → Option Rv
 | [.int i, .int j] => some (.val (.int (if j > i then j else i)))
 | _ => none
def gMin2 : List D → Option Rv
 | [.int i, .int j] => some (.val (.int (if j < i then j else i)))
 | _ => none
theorem min2_ok {K : PySem.W.Frag} : CalR K (fun xs H Q => ∃ i j, xs = [.int i, .int j] ∧ Q (.int (if j < i then j else i)) H) gMin2 := fun {c G H σ ρ vs ds q Q} R kd eq k => by
 unfold gMin2 at eq
 split at eq
 · cases eq
   obtain ⟨v, w, rfl, kv, kw⟩ := kd.two
   have e := kv.int
   have e2 := kw.int
   subst e e2
   exact ⟨_, _, rfl, k _ G H R (Same.refl G) rfl⟩
 · cases eq
def gList : List D → Option Rv
 | [.lst xs] => some (.own (.lst xs))
 | [.tup xs] => some (.own (.lst xs))
 | _ => none
def gTuple : List D → Option Rv
 | [.lst xs] => some (.val (.tup xs))
 | [.tup xs] => some (.val (.tup xs))
 | _ => none
theorem tuple_ok {K : PySem.W.Frag} : CalR K (fun xs H Q => ∃ p ys, xs = [.ref p] ∧ ((SqL K H p ys ∧ ∀ l, H l = none → Q (.ref l) (upd H l (.tup ys))) ∨ (SqT K H p ys ∧ Q (.ref p) H))) gTuple := fun {c G H σ ρ vs ds q Q} R kd eq k => by
 unfold gTuple at eq
 split at eq
 · cases eq
   obtain ⟨v, rfl, kv⟩ := kd.one
   obtain ⟨a, xs, rfl, h2, h3⟩ := kv.lst R.gh
   refine ⟨a, xs, rfl, .inl ⟨.inl (.inl h2), fun l hl => ?_⟩⟩
   obtain ⟨G', s, R', kk⟩ := R.new_tup hl h3
   exact k _ G' _ R' s kk
 · cases eq
   obtain ⟨v, rfl, kv⟩ := kd.one
   obtain ⟨a, xs, rfl, h1, h2, h3⟩ := kv.tup R.gh
   exact ⟨a, xs, rfl, .inr ⟨h2, k _ G H R (Same.refl G) ⟨a, xs, rfl, h1, h3⟩⟩⟩
 · cases eq
def asInts : List D → Option (List Int)
 | [] => some []
 | .int i :: ds => (asInts ds).map (i :: ·)
 | _ :: _ => none
theorem asInts_map (ns : List Int) : asInts (ns.map D.int) = some ns := by
 induction ns with
 | nil => rfl
 | cons n ns ih => rw [List.map_cons]; show (asInts (ns.map D.int)).map _ = _; rw [ih]; rfl
theorem asInts_eq : ∀ {ds : List D} {ns : List Int}, asInts ds = some ns → ds = ns.map D.int
 | [], _, h => by cases h; rfl
 | d :: ds, ns, h => by
  cases d <;> first
   | (rename_i i
      obtain ⟨ms, h1, h2⟩ := Option.map_eq_some_iff.mp (show (asInts ds).map (i :: ·) = some ns from h)
      subst h2
      rw [asInts_eq h1]; rfl)
   | cases h
def asBools : List D → Option (List Bool)
 | [] => some []
 | .bl i :: ds => (asBools ds).map (i :: ·)
 | _ :: _ => none
theorem asBools_map (ns : List Bool) : asBools (ns.map D.bl) = some ns := by
 induction ns with
 | nil => rfl
 | cons n ns ih => rw [List.map_cons]; show (asBools (ns.map D.bl)).map _ = _; rw [ih]; rfl
def gI1 (f : List Int → Option Rv) : List D → Option Rv
 | [.lst ds] => (asInts ds).bind f
 | _ => none
theorem gI1_ok {K : PySem.W.Frag} {r : List V → Hp → VK → Prop} {f : List Int → Option Rv}
  (h : ∀ {c : Cn} {G H : Hp} {σ : L2.St} {ρ : List S} {a : Addr} {ns : List Int} {q : Rv} {Q : VK}, Rst K c G H σ ρ → SqL K H a (ns.map V.int) → f ns = some q → (∀ z G' H', Rst K c G' H' σ ρ → Same G G' → RpR K c G' H' σ ρ z q → Q z H') → r [.ref a] H Q) : CalR K r (gI1 f) := fun {c G H σ ρ vs ds q Q} R kd eq k => by
 unfold gI1 at eq
 split at eq
 · obtain ⟨ns, e1, e2⟩ := Option.bind_eq_some_iff.mp eq
   have e3 := asInts_eq e1
   subst e3
   obtain ⟨v, rfl, kv⟩ := kd.one
   obtain ⟨a, xs, rfl, h2, h3⟩ := kv.lst R.gh
   have e4 := h3.of_ints
   subst e4
   exact h R (.inl (.inl h2)) e2 k
 · cases eq
def lMax : List Int → Option Int
 | [] => none
 | n :: ns => some (ns.foldl (fun a b => if b > a then b else a) n)
def lMin : List Int → Option Int
 | [] => none
 | n :: ns => some (ns.foldl (fun a b => if b < a then b else a) n)
theorem foldMax (ns : List Int) : ∀ n : Int, (ns.foldl (fun a b => if b > a then b else a) n ∈ n :: ns) ∧ ∀ y ∈ n :: ns, y ≤ ns.foldl (fun a b => if b > a then b else a) n := by
 induction ns with
 | nil => exact fun n => ⟨by simp, fun y hy => by simp at hy; subst hy; exact Int.le_refl _⟩
 | cons m ns ih =>
  intro n
  rw [List.foldl_cons]
  obtain ⟨h1, h2⟩ := ih (if m > n then m else n)
  have ge1 : n ≤ (if m > n then m else n) ∧ m ≤ (if m > n then m else n) := by split <;> omega
  refine ⟨?_, fun y hy => ?_⟩
  · rcases List.mem_cons.mp h1 with e | e
    · rw [e]; split <;> simp
    · exact List.mem_cons_of_mem _ (List.mem_cons_of_mem _ e)
  · have h0 := h2 _ (List.mem_cons_self ..)
    rcases List.mem_cons.mp hy with e | e
    · subst e; omega
    · rcases List.mem_cons.mp e with e | e
      · subst e; omega
      · exact h2 y (List.mem_cons_of_mem _ e)
theorem lMax_spec {ns : List Int} {m : Int} (h : lMax ns = some m) : m ∈ ns ∧ ∀ y ∈ ns, y ≤ m := by
 cases ns with
 | nil => cases h
 | cons n ns => cases h; exact foldMax ns n
def gMaxL : List D → Option Rv := gI1 fun ns => (lMax ns).map fun m => .val (.int m)
def gMinL : List D → Option Rv := gI1 fun ns => (lMin ns).map fun m => .val (.int m)
def gSum : List D → Option Rv := gI1 fun ns => some (.val (.int ns.sum))
theorem maxL_ok {K : PySem.W.Frag} : CalR K (rMax K) gMaxL := gI1_ok fun {c G H σ ρ a ns q Q} R hs eq k => by
 obtain ⟨m, e1, e2⟩ := Option.map_eq_some_iff.mp eq
 subst e2
 obtain ⟨h1, h2⟩ := lMax_spec e1
 refine ⟨a, ns, rfl, hs, List.length_pos_of_mem h1, fun m' hm hle => ?_⟩
 have e : m' = m := Int.le_antisymm (h2 _ hm) (hle _ h1)
 subst e
 exact k _ G H R (Same.refl G) rfl
def sortI (ns : List Int) : List Int := ns.mergeSort (fun a b => decide (a ≤ b))
theorem sortI_perm (ns : List Int) : (sortI ns).Perm ns := List.mergeSort_perm ns _
theorem sortI_sorted (ns : List Int) : (sortI ns).Pairwise (· ≤ ·) := by
 have h := List.pairwise_mergeSort (le := fun a b : Int => decide (a ≤ b)) (fun a b c h1 h2 => by simp at *; omega) (fun a b => by simp; omega) ns
 exact h.imp fun h => by simpa using h
theorem sortI_of {ns ms : List Int} (h : ms.Perm ns) (s : ms.Pairwise (· ≤ ·)) : ms = sortI ns := PySem.W.ksm_same (h.trans (sortI_perm ns).symm) s (sortI_sorted ns)
def gSorted : List D → Option Rv := gI1 fun ns => some (.own (.lst ((sortI ns).map .int)))
theorem sorted_ok {K : PySem.W.Frag} : CalR K (rSortedI K) gSorted := gI1_ok fun {c G H σ ρ a ns q Q} R hs eq k => by
 cases eq
 refine ⟨a, ns, rfl, hs, fun ns' p hp ho hn => ?_⟩
 have e := sortI_of hp ho
 subst e
 obtain ⟨R', kk⟩ := R.new_own hn (RpL.ints (K := K) (G := G) (ns := sortI ns))
 exact k _ G _ R' (Same.refl G) kk
def gB1 (f : List Bool → Option Rv) : List D → Option Rv
 | [.lst ds] => (asBools ds).bind f
 | _ => none
def gAll : List D → Option Rv := gB1 fun ns => some (.val (.bl (ns.all id)))
def gAny : List D → Option Rv := gB1 fun ns => some (.val (.bl (ns.any id)))
def tyNm : D → Option String
 | .non => some "NoneType"
 | .bl _ => some "bool"
 | .int _ => some "int"
 | .str _ => some "str"
 | .lst _ => some "list"
 | .tup _ => some "tuple"
 | .dic _ _ => some "dict"
 | _ => none
def isTab : List (String × String × Bool) :=
 [("int", "int", true), ("bool", "bool", true), ("bool", "int", true), ("list", "list", true), ("tuple", "tuple", true), ("str", "str", true),
  ("int", "bool", false), ("int", "tuple", false), ("int", "list", false), ("int", "str", false),
  ("bool", "tuple", false), ("bool", "list", false), ("bool", "str", false),
  ("NoneType", "int", false), ("NoneType", "bool", false), ("NoneType", "list", false), ("NoneType", "tuple", false), ("NoneType", "str", false),
  ("list", "int", false), ("list", "bool", false), ("list", "tuple", false), ("list", "str", false),
  ("tuple", "int", false), ("tuple", "bool", false), ("tuple", "list", false), ("tuple", "str", false),
  ("str", "int", false), ("str", "bool", false), ("str", "list", false), ("str", "tuple", false)]
def isLook (a t : String) : Option Bool := (isTab.find? fun p => p.1 == a && p.2.1 == t).map fun p => p.2.2
theorem isTab_ok : ∀ p ∈ isTab, kitB p.1 p.2.1 = some p.2.2 := by decide +kernel
theorem isLook_ok {a t : String} {b : Bool} (h : isLook a t = some b) : kitB a t = some b := by
 obtain ⟨p, h1, h2⟩ := Option.map_eq_some_iff.mp h
 have h3 := List.find?_some h1
 have h4 := isTab_ok p (List.mem_of_find?_eq_some h1)
 simp only [Bool.and_eq_true, beq_iff_eq] at h3
 rw [h3.1, h3.2, h2] at h4
 exact h4
def gIsi : List D → Option Rv
 | [d, .ty t] => ((tyNm d).bind fun a => isLook a t).map fun b => .val (.bl b)
 | _ => none
theorem tyX_of {K : PySem.W.Frag} {c : Cn} {G H : Hp} {d : D} {v : V} {n : String} (s : Same G H) (h : Rh K c G H d v) (e : tyNm d = some n) : TyX K H v (.type n) := by
 cases d with
 | non => cases e; rw [h.non]; exact .base .non
 | bl k => cases e; rw [h.bl]; exact .base (.bl k)
 | int i => cases e; rw [h.int]; exact .base (.int i)
 | str i => cases e; rw [h.str]; exact .base (.str i)
 | lst ds => cases e; obtain ⟨a, xs, rfl, h2, _⟩ := h.lst s; exact .base (.lst h2)
 | tup ds =>
  cases e
  obtain ⟨a, xs, rfl, _, h2, _⟩ := h.tup s
  rcases h2 with (h2 | ⟨o, h2⟩) | ⟨o, its, n, h2, h3, _⟩
  · exact .base (.tup h2)
  · exact .fTuple h2
  · exact .kTuple h2 h3
 | dic ks vs => cases e; obtain ⟨a, xs, rfl, h2, _⟩ := h.dic s; exact .base (.dK h2)
 | _ => cases e
theorem isi_ok {K : PySem.W.Frag} : CalR K (rIsi K) gIsi := fun {c G H σ ρ vs ds q Q} R kd eq k => by
 unfold gIsi at eq
 split at eq
 · rename_i d t
   obtain ⟨b, e1, e2⟩ := Option.map_eq_some_iff.mp eq
   obtain ⟨a, e3, e4⟩ := Option.bind_eq_some_iff.mp e1
   subst e2
   obtain ⟨v, w, rfl, kv, kw⟩ := kd.two
   have ew := kw.ty
   subst ew
   exact ⟨v, .ty t, .type a, .type t, b, rfl, .ty t, tyX_of R.gh kv e3, kit_ty (isLook_ok e4), k _ G H R (Same.refl G) rfl⟩
 · cases eq
theorem atI_map {α β : Type} (f : α → β) (xs : List α) (i : Int) : atI (xs.map f) i = (atI xs i).map f := by
 unfold atI
 rw [List.length_map]
 cases ixN xs.length i with
 | none => rfl
 | some j => show (xs.map f)[j]? = (xs[j]?).map f; rw [List.getElem?_map]
theorem RpL.at {K : PySem.W.Frag} {G : Hp} {ds : List D} {xs : List V} {i : Int} {d : D} (h : RpL K G ds xs) (e : atI ds i = some d) : ∃ v, atI xs i = some v ∧ Rp K G d v := by
 unfold atI at e ⊢
 rw [h.length]
 obtain ⟨j, e1, e2⟩ := Option.bind_eq_some_iff.mp e
 obtain ⟨v, h1, h2⟩ := h.get e2
 exact ⟨v, by rw [e1]; exact h1, h2⟩
def dIx : D → D → Option Rv
 | .lst xs, .int i => (atI xs i).map .val
 | .tup xs, .int i => (atI xs i).map .val
 | .scr ns, .int i => (atI ns i).map fun n => .val (.int n)
 | .str z, .int i => if z.length ≤ sizeLine then (atI z.cps.toList i).map fun c => .val (.str ⟨#[c]⟩) else none
 | _, _ => none
theorem ix_ok {K : PySem.W.Frag} : BinR K (rIx K) dIx := fun {c G H σ ρ v w d e q Q} R kd ke eq k => by
 unfold dIx at eq
 split at eq
 · rename_i ds i
   obtain ⟨d, e1, e2⟩ := Option.map_eq_some_iff.mp eq
   obtain ⟨a, xs, rfl, h2, h3⟩ := kd.lst R.gh
   obtain ⟨u, h4, h5⟩ := h3.at e1
   subst e2
   exact .inl ⟨a, xs, i, u, rfl, ke.int, .inl (.inl h2), h4, k _ G H R (Same.refl G) h5⟩
 · rename_i ds i
   obtain ⟨d, e1, e2⟩ := Option.map_eq_some_iff.mp eq
   obtain ⟨a, xs, rfl, _, h2, h3⟩ := kd.tup R.gh
   obtain ⟨u, h4, h5⟩ := h3.at e1
   subst e2
   exact .inr (.inl ⟨a, xs, i, u, rfl, ke.int, h2, h4, k _ G H R (Same.refl G) h5⟩)
 · rename_i ns i
   obtain ⟨n, e1, e2⟩ := Option.map_eq_some_iff.mp eq
   obtain ⟨a, rfl, h2⟩ := kd.scr R.gh
   subst e2
   exact .inl ⟨a, _, i, .int n, rfl, ke.int, h2, by rw [atI_map, e1]; rfl, k _ G H R (Same.refl G) rfl⟩
 · rename_i z i
   split at eq
   · rename_i hl
     obtain ⟨n, e1, e2⟩ := Option.map_eq_some_iff.mp eq
     subst e2
     exact .inr (.inr ⟨z, i, n, kd.str, ke.int, hl, e1, k _ G H R (Same.refl G) rfl⟩)
   · cases eq
 · cases eq
section
variable {X : Cx} {W : WX} {a b e : Expr} {es : List Expr} {fa fb : M Rv} {pos p p2 : Pos}
abbrev eIx := mBin dIx
theorem de_ix (ha : DE X W a fa) (hb : DE X W b fb) (hs : PlainIx b := by exact fun _ _ => rfl) : DE X W (.Subscript a b pos) (eIx fa fb) :=
 ⟨(pe_ix ix_seq ha.pe hb.pe hs).weak fun _ _ _ h => tD_bin ix_ok h⟩
structure DO (X : Cx) (W : WX) (e : Option Expr) (f : M (Option Int)) : Prop where
 po : PO X e (tg X.K W (fun _ _ _ _ _ (b a : Option Int) => b = a) f)
theorem _root_.L2.PO.weak {X : Cx} {e : Option Expr} {t t' : TO} (h : PO X e t) (w : ∀ σ H Q, t' σ H Q → t σ H Q) : PO X e t' := ⟨fun pins s σ H Q I q => h.run pins s σ H Q I (w σ H Q q)⟩
def oNo : M (Option Int) := pure none
def oSome (f : M Rv) : M (Option Int) := do
 let r ← f
 let d ← peek r
 match d with
 | .int i => pure (some i)
 | _ => M.fail
theorem do_no : DO X W none oNo := ⟨po_none.weak fun σ H Q ⟨c, G, ρ, R, w⟩ => w none G H R (Same.refl G) rfl⟩
theorem do_some (ha : DE X W a fa) : DO X W (some a) (oSome fa) := ⟨(po_some ha.pe).weak fun σ H Q ⟨c, G, ρ, R, w⟩ => tg_step R (Same.refl G) w fun x ρ1 v G1 H1 R1 s1 _ k1 w1 => by
  obtain ⟨d, kd, w2⟩ := peek_wp R1 k1 (wpM_bind w1)
  cases d <;> first
   | exact w2.elim
   | (rename_i i; exact ⟨i, kd.int, w2 (some i) G1 H1 R1 s1 rfl⟩)⟩
def cutD {α : Type} (xs : List α) (lo hi : Option Int) : List α := (xs.drop (HT.sIx xs.length 0 lo)).take (HT.sIx xs.length xs.length hi - HT.sIx xs.length 0 lo)
def dSl (d : D) (lo hi : Option Int) : Option Rv := match d with
 | .lst xs => some (.own (.lst (cutD xs lo hi)))
 | .tup xs => some (.val (.tup (cutD xs lo hi)))
 | _ => none
def eSl (fa : M Rv) (fl fh : M (Option Int)) : M Rv := do
 let x ← fa
 let l ← fl
 let h ← fh
 let d ← peek (settle x)
 ofO (dSl d l h)
theorem RpL.cut {K : PySem.W.Frag} {G : Hp} {ds : List D} {xs : List V} (h : RpL K G ds xs) (lo hi : Option Int) : RpL K G (cutD ds lo hi) (cutV xs lo hi) := by
 unfold cutD cutV
 rw [h.length]
 exact (h.drop _).take _
theorem SlR.or {r r' : V → Option Int → Option Int → Hp → VK → Prop} (h : SlR X r) (h' : SlR X r') : SlR X (fun x l u H Q => r x l u H Q ∨ r' x l u H Q) := by
 intro pins s σ H x v vl vu lo hi sl Q I rx hs pl pu q
 rcases q with q | q
 · exact h pins s σ H x v vl vu lo hi sl Q I rx hs pl pu q
 · exact h' pins s σ H x v vl vu lo hi sl Q I rx hs pl pu q
theorem de_sl {lo hi : Option Expr} {fl fh : M (Option Int)} (ha : DE X W a fa) (hl : DO X W lo fl) (hh : DO X W hi fh) : DE X W (.Subscript a (.Slice lo hi none p2) pos) (eSl fa fl fh) :=
 ⟨(pe_slice (SlR.or sl_list sl_tupA) ha.pe hl.po hh.po).weak fun σ H Q ⟨c, G, ρ, R, w⟩ => tg_step R (Same.refl G) w fun x ρ1 v G1 H1 R1 s1 _ k1 w1 => by
  obtain ⟨G1', s1', R1', k1'⟩ := settle_ok R1 k1
  refine tg_step R1' (s1.trans s1') w1 fun l ρ2 l' G2 H2 R2 s2 s12 k2 w2 => ?_
  obtain rfl : l' = l := k2
  refine tg_step R2 s2 w2 fun h ρ3 h' G3 H3 R3 s3 s23 k3 w3 => ?_
  obtain rfl : h' = h := k3
  obtain ⟨d, kd, w4⟩ := peek_wp R3 (RpRs.one ((k1'.mono s12).mono s23)) (wpM_bind w3)
  obtain ⟨q, eq, w5⟩ := ofO_wp w4
  unfold dSl at eq
  split at eq
  · cases eq
    obtain ⟨a, xs, rfl, h2, h3⟩ := kd.lst R3.gh
    refine .inl ⟨a, xs, rfl, .inl (.inl h2), fun p hp => ?_⟩
    obtain ⟨R', kk⟩ := R3.new_own hp (h3.cut l' h')
    exact w5 _ G3 _ R' s3 kk
  · cases eq
    obtain ⟨a, xs, rfl, hg, h2, h3⟩ := kd.tup R3.gh
    refine .inr ⟨a, xs, rfl, h2, fun ⟨z1, z2⟩ => ?_, fun z p hp => ?_⟩
    · refine w5 _ G3 H3 R3 s3 ⟨a, xs, rfl, hg, ?_⟩
      have e := h3.cut l' h'
      unfold cutV at e
      rw [z1, z2, List.drop_zero, Nat.sub_zero, List.take_length] at e
      exact e
    · obtain ⟨G', s', R', kk⟩ := R3.new_tup hp (h3.cut l' h')
      exact w5 _ G' _ R' (s3.trans s') kk
  · cases eq⟩
end
end Dl
namespace Dl
open PySem L2
inductive Os where
 | nx (ρ : List S) | rt (r : Rv) (ρ : List S) | bk (ρ : List S) | ct (ρ : List S) | ex (e : Xn) (ρ : List S)
abbrev MS : Type := List S → Option Os
def Po (K : PySem.W.Frag) (c : Cn) (W : WX) (G : Hp) (Dn : Ends) : Os → Prop
 | .nx ρ' => ∀ σ' G' H', Rst K c G' H' σ' ρ' → Same G G' → Dn.nx σ' H'
 | .bk ρ' => ∀ σ' G' H', Rst K c G' H' σ' ρ' → Same G G' → Dn.bk σ' H'
 | .ct ρ' => ∀ σ' G' H', Rst K c G' H' σ' ρ' → Same G G' → Dn.ct σ' H'
 | .rt r ρ' => ∀ v σ' G' H', Rst K c G' H' σ' ρ' → Same G G' → RpR K c G' H' σ' ρ' v r → Dn.rt v H'
 | .ex e ρ' => ∀ cls d σ' G' H', Rst K c G' H' σ' ρ' → Same G G' → XAt K G' H' e cls d → W cls d σ' H'
theorem Po.mono {K : PySem.W.Frag} {c : Cn} {W : WX} {G G1 : Hp} {Dn : Ends} {o : Os} (s : Same G G1) (h : Po K c W G Dn o) : Po K c W G1 Dn o := by
 cases o with
 | nx ρ => exact fun σ' G' H' R s' => h σ' G' H' R (s.trans s')
 | bk ρ => exact fun σ' G' H' R s' => h σ' G' H' R (s.trans s')
 | ct ρ => exact fun σ' G' H' R s' => h σ' G' H' R (s.trans s')
 | rt r ρ => exact fun v σ' G' H' R s' k => h v σ' G' H' R (s.trans s') k
 | ex e ρ => exact fun cls d σ' G' H' R s' x => h cls d σ' G' H' R (s.trans s') x
def tS (K : PySem.W.Frag) (W : WX) (np : Nat) (f : MS) : TS := fun Dn σ H => ∃ c G ρ o, c.s0.length = np ∧ Rst K c G H σ ρ ∧ f ρ = some o ∧ Po K c W G Dn o
structure DS (X : Cx) (W : WX) (np : Nat) (st : Stmt) (f : MS) : Prop where
 ps : PS X st (tS X.K W np f)
structure DL (X : Cx) (W : WX) (np : Nat) (st : List Stmt) (f : MS) : Prop where
 pss : PSs X st (tS X.K W np f)
def thenS {α : Type} (f : M α) (k : α → MS) : MS := fun ρ => match f ρ with
 | some (.ok a ρ') => k a ρ'
 | some (.ex e ρ') => some (.ex e ρ')
 | none => none
theorem EXk.of_po {K : PySem.W.Frag} {c : Cn} {W : WX} {σ : L2.St} {G : Hp} {Dn : Ends} {e : Xn} {ρ : List S} (h : Po K c W G Dn (.ex e ρ)) : EXk K c W σ G e ρ := fun cls d G' H' R s x => h cls d σ G' H' R s x
theorem tS_step {α β : Type} {K : PySem.W.Frag} {W : WX} {rep : Cn → Hp → Hp → L2.St → List S → β → α → Prop} {c : Cn} {G H : Hp} {σ : L2.St} {ρ : List S} {f : M α} {k : α → MS} {Dn : Ends} {o : Os} {Q : β → Hp → Prop}
  (R : Rst K c G H σ ρ) (h : thenS f k ρ = some o) (po : Po K c W G Dn o)
  (next : ∀ a ρ1 b G1 H1, Rst K c G1 H1 σ ρ1 → Same G G1 → rep c G1 H1 σ ρ1 b a → k a ρ1 = some o → Po K c W G1 Dn o → Q b H1) : tg K W rep f σ H Q := by
 refine ⟨c, G, ρ, R, ?_⟩
 unfold thenS at h
 revert h
 cases f ρ with
 | none => exact fun h => nomatch h
 | some ot => cases ot with
  | ok a ρ1 => exact fun h b G1 H1 R1 s1 r => next a ρ1 b G1 H1 R1 s1 r h (po.mono s1)
  | ex e ρ1 => exact fun h => by cases h; exact EXk.of_po po
section
variable {X : Cx} {W : WX} {np : Nat} {a b e : Expr} {es : List Expr} {fa fb : M Rv} {ga : M Bool} {pos p p2 : Pos} {st : Stmt} {rest sts sts' : List Stmt} {f g : MS}
def sNil : MS := fun ρ => some (.nx ρ)
def sSeq (f g : MS) : MS := fun ρ => match f ρ with
 | some (.nx ρ') => g ρ'
 | o => o
theorem dl_nil : DL X W np [] sNil := ⟨pss_nil.weak fun Dn σ H ⟨c, G, ρ, o, hl, R, h, po⟩ => by cases h; exact po σ G H R (Same.refl G)⟩
theorem dl_one (h : DS X W np st f) : DL X W np [st] f := ⟨pss_one h.ps⟩
theorem dl_cons (h1 : DS X W np st f) (h2 : DL X W np rest g) : DL X W np (st :: rest) (sSeq f g) := ⟨(pss_cons h1.ps h2.pss).weak fun Dn σ H ⟨c, G, ρ, o, hl, R, h, po⟩ => by
 unfold sSeq at h
 show tS X.K W np f { Dn with nx := tS X.K W np g Dn } σ H
 cases e : f ρ with
 | none => rw [e] at h; cases h
 | some o1 =>
  rw [e] at h
  refine ⟨c, G, ρ, o1, hl, R, e, ?_⟩
  cases o1 with
  | nx ρ1 => exact fun σ' G' H' R' s' => ⟨c, G', ρ1, o, hl, R', h, po.mono s'⟩
  | _ => cases h; exact po⟩
def sPass : MS := sNil
def sBreak : MS := fun ρ => some (.bk ρ)
def sCont : MS := fun ρ => some (.ct ρ)
def sNever : MS := fun _ => none
theorem ds_never : DS X W np st sNever := ⟨ps_never.weak fun Dn σ H ⟨c, G, ρ, o, hl, R, h, po⟩ => nomatch h⟩
def sExpr (fa : M Rv) : MS := thenS fa fun _ => sNil
theorem ds_expr (ha : DE X W e fa) (hs : swapsWith e none pos.line X.env = pure false := by rfl) : DS X W np (.Expr e pos) (sExpr fa) :=
 ⟨(ps_expr ha.pe hs).weak fun Dn σ H ⟨c, G, ρ, o, hl, R, h, po⟩ => tS_step R h po fun r ρ1 v G1 H1 R1 s1 _ h1 po1 => by cases h1; exact po1 σ G1 H1 R1 (Same.refl G1)⟩
def retV (r : Rv) : MS := fun ρ => match r with
 | .ali i => match ρ[i]? with
  | some (.val d) => some (.rt (.val d) ρ)
  | some (.own d) => some (.rt (.own d) (ρ.set i .no))
  | _ => none
 | r => some (.rt r ρ)
def sRet (fa : M Rv) : MS := thenS fa retV
def sRetN : MS := fun ρ => some (.rt (.val .non) ρ)
end
section
variable {K : PySem.W.Frag} {c : Cn} {G G' H H' : Hp} {σ : L2.St} {ρ ρ' : List S} {v : V} {d : D} {r : Rv} {rs : List Rv} {vs : List V} {i : Nat}
theorem set_cases {α : Type} {l : List α} {i j : Nat} {x y : α} (h : (l.set i x)[j]? = some y) : (j = i ∧ i < l.length ∧ y = x) ∨ (j ≠ i ∧ l[j]? = some y) := by
 by_cases hj : j = i
 · subst hj
   have hl : j < l.length := by
    have := (List.getElem?_eq_some_iff.mp h).1
    rwa [List.length_set] at this
   rw [List.getElem?_set_self hl] at h
   cases h
   exact .inl ⟨rfl, hl, rfl⟩
 · rw [List.getElem?_set_ne (Ne.symm hj)] at h
   exact .inr ⟨hj, h⟩
theorem Rst.set_no (R : Rst K c G H σ ρ) (i : Nat) : Rst K c G H σ (ρ.set i .no) where
 fh := R.fh
 gh := R.gh
 fg := R.fg
 len := by rw [List.length_set, R.len]
 val := fun j d h => by
  rcases set_cases h with ⟨_, _, e⟩ | ⟨_, h⟩
  · cases e
  · exact R.val j d h
 own := fun j d h => by
  rcases set_cases h with ⟨_, _, e⟩ | ⟨_, h⟩
  · cases e
  · exact R.own j d h
 ne := fun j k d e a h1 h2 => by
  rcases set_cases h1 with ⟨_, _, e⟩ | ⟨_, h1⟩
  · cases e
  · rcases set_cases h2 with ⟨_, _, e⟩ | ⟨_, h2⟩
    · cases e
    · exact R.ne j k d e a h1 h2
 par := fun j d h => by
  rcases set_cases h with ⟨_, _, e⟩ | ⟨_, h⟩
  · cases e
  · exact R.par j d h
theorem Rst.take_own (R : Rst K c G H σ ρ) (h : ρ[i]? = some (.own d)) (hv : σ[i]? = some (some v)) : RpR K c G H σ (ρ.set i .no) v (.own d) := by
 obtain ⟨a, h1, h2, h3, h4⟩ := R.own i d h
 rw [hv] at h1; cases h1
 refine ⟨a, rfl, h2, h3, h4, fun j e q z => ?_⟩
 rcases set_cases q with ⟨_, _, e⟩ | ⟨hj, q⟩
 · cases e
 · exact hj (R.ne j i e d a q h z hv)
theorem Rst.set_own (R : Rst K c G H σ ρ) (hr : RpR K c G H σ ρ v (.own d)) (hi : c.s0.length ≤ i) : Rst K c G H (σ.set i (some v)) (ρ.set i (.own d)) := by
 obtain ⟨a, rfl, h2, h3, h4, h5⟩ := hr
 have sig : ∀ {j : Nat} {x : Option V}, (σ.set i (some (V.ref a)))[j]? = some x → (j = i ∧ x = some (V.ref a)) ∨ (j ≠ i ∧ σ[j]? = some x) := fun {j x} q => by
  rcases set_cases q with ⟨q1, _, q2⟩ | q
  · exact .inl ⟨q1, q2⟩
  · exact .inr q
 refine ⟨R.fh, R.gh, R.fg, by rw [List.length_set, List.length_set, R.len], fun j e h => ?_, fun j e h => ?_, fun j k e f b q1 q2 r1 r2 => ?_, fun j e h hl => ?_⟩
 · rcases set_cases h with ⟨_, _, e⟩ | ⟨hj, h⟩
   · cases e
   · rw [List.getElem?_set_ne (Ne.symm hj)]; exact R.val j e h
 · rcases set_cases h with ⟨hj, hl, e⟩ | ⟨hj, h⟩
   · cases e
     subst hj
     exact ⟨a, by rw [List.getElem?_set_self (R.len ▸ hl)], h2, h3, h4⟩
   · rw [List.getElem?_set_ne (Ne.symm hj)]; exact R.own j e h
 · rcases set_cases q1 with ⟨hj, hl, e1⟩ | ⟨hj, p1⟩
   · rcases set_cases q2 with ⟨hk, hl2, e2⟩ | ⟨hk, p2⟩
     · rw [hj, hk]
     · exfalso
       subst hj
       rw [List.getElem?_set_self (R.len ▸ hl)] at r1; cases r1
       rw [List.getElem?_set_ne (Ne.symm hk)] at r2
       exact h5 k f p2 r2
   · rcases set_cases q2 with ⟨hk, hl2, e2⟩ | ⟨hk, p2⟩
     · exfalso
       subst hk
       rw [List.getElem?_set_self (R.len ▸ hl2)] at r2; cases r2
       rw [List.getElem?_set_ne (Ne.symm hj)] at r1
       exact h5 j e p1 r1
     · rw [List.getElem?_set_ne (Ne.symm hj)] at r1
       rw [List.getElem?_set_ne (Ne.symm hk)] at r2
       exact R.ne j k e f b p1 p2 r1 r2
 · rcases set_cases h with ⟨hj, hl2, e1⟩ | ⟨hj, h⟩
   · omega
   · rw [List.getElem?_set_ne (Ne.symm hj)]; exact R.par j e h hl
end
section
variable {X : Cx} {W : WX} {np : Nat} {a b e : Expr} {es : List Expr} {fa fb : M Rv} {ga : M Bool} {pos p p2 : Pos} {st : Stmt} {rest sts sts' : List Stmt} {f g : MS}
theorem ds_ret (ha : DE X W e fa) : DS X W np (.Return (some e) pos) (sRet fa) :=
 ⟨(ps_ret ha.pe).weak fun Dn σ H ⟨c, G, ρ, o, hl, R, h, po⟩ => tS_step R h po fun r ρ1 v G1 H1 R1 s1 k h1 po1 => by
  unfold retV at h1
  cases r with
  | val d => cases h1; exact po1 v σ G1 H1 R1 (Same.refl G1) k
  | own d => cases h1; exact po1 v σ G1 H1 R1 (Same.refl G1) k
  | ali i =>
   have hv : σ[i]? = some (some v) := k
   dsimp only at h1
   cases q : ρ1[i]? with
   | none => rw [q] at h1; cases h1
   | some s =>
    rw [q] at h1
    cases s with
    | no => cases h1
    | val d =>
     cases h1
     obtain ⟨w, e1, e2⟩ := R1.val i d q
     rw [hv] at e1; cases e1
     exact po1 v σ G1 H1 R1 (Same.refl G1) e2
    | own d =>
     cases h1
     exact po1 v σ G1 H1 (R1.set_no i) (Same.refl G1) (R1.take_own q hv)⟩
def setV (np i : Nat) (r : Rv) : MS := fun ρ => match r with
 | .val d => some (.nx (ρ.set i (.val d)))
 | .own d => if i < np then some (.nx (ρ.set i (.val d))) else some (.nx (ρ.set i (.own d)))
 | .ali j => match ρ[j]? with
  | some (.val d) => some (.nx (ρ.set i (.val d)))
  | some (.own d) => some (.nx ((ρ.set j (.val d)).set i (.val d)))
  | _ => none
def sSet (np i : Nat) (fa : M Rv) : MS := thenS fa (setV np i)
theorem tS_set (i : Nat) {K : PySem.W.Frag} {Dn : Ends} {σ : L2.St} {H : Hp} (h : tS K W np (sSet np i fa) Dn σ H) : tD K W fa σ H (fun v H1 => Dn.nx (σ.set i (some v)) H1) :=
 let ⟨c, G, ρ, o, hl, R, h, po⟩ := h
 tS_step R h po fun r ρ1 v G1 H1 R1 s1 k h1 po1 => by
  show Dn.nx (σ.set i (some v)) H1
  unfold setV at h1
  cases r with
  | val d => cases h1; exact po1 _ G1 H1 (R1.set_val i k) (Same.refl G1)
  | own d =>
   dsimp only at h1
   by_cases hn : i < np
   · rw [if_pos hn] at h1
     cases h1
     obtain ⟨G2, s2, R2, k2⟩ := R1.freeze_new k
     exact po1 _ G2 H1 (R2.set_val i k2) s2
   · rw [if_neg hn] at h1
     cases h1
     exact po1 _ G1 H1 (R1.set_own k (by omega)) (Same.refl G1)
  | ali j =>
   have hv : σ[j]? = some (some v) := k
   dsimp only at h1
   cases q : ρ1[j]? with
   | none => rw [q] at h1; cases h1
   | some s =>
    rw [q] at h1
    cases s with
    | no => cases h1
    | val d =>
     cases h1
     obtain ⟨w, e1, e2⟩ := R1.val j d q
     rw [hv] at e1; cases e1
     exact po1 _ G1 H1 (R1.set_val i e2) (Same.refl G1)
    | own d =>
     cases h1
     obtain ⟨w, G2, e1, s2, R2, e2⟩ := R1.freeze q
     rw [hv] at e1; cases e1
     exact po1 _ G2 H1 (R2.set_val i e2) s2
theorem ds_set (i : Nat) {x : Str} {pos' : Pos} (hN : X.N.Nodup) (ha : DE X W e fa) (hi : X.N[i]? = some x := by rfl) (hx : Loc X.env.scope x := by first | exact Or.inl rfl | exact Or.inr rfl) (hs : swapsWith e (some (.Name x pos')) pos.line X.env = pure false := by rfl)
  (hf : X.fn x = true ∨ X.env.scope.names.lookup x = some .local := by first | exact .inl rfl | exact .inr rfl | assumption) : DS X W np (.Assign [.Name x pos'] e pos) (sSet np i fa) :=
 ⟨(ps_set hN hi hx ha.pe hs hf).weak fun Dn σ H h => tS_set i h⟩
def sIf (ga : M Bool) (f g : MS) : MS := thenS ga fun b => if b = true then f else g
theorem ds_if {cc : Expr} (hc : DT X W cc ga) (h1 : DL X W np sts f) (h2 : DL X W np sts' g) : DS X W np (.If cc sts sts' pos) (sIf ga f g) :=
 ⟨(ps_if hc.pt h1.pss h2.pss).weak fun Dn σ H ⟨c, G, ρ, o, hl, R, h, po⟩ => tS_step R h po fun r ρ1 v G1 H1 R1 s1 k h1 po1 => by
  obtain rfl : v = r := k
  cases v with
  | true => rw [if_pos rfl] at h1 ⊢; exact ⟨c, G1, ρ1, o, hl, R1, h1, po1⟩
  | false => rw [if_neg Bool.false_ne_true] at h1 ⊢; exact ⟨c, G1, ρ1, o, hl, R1, h1, po1⟩⟩
def Out (ts : List Nat) (σ σ' : L2.St) : Prop := σ'.length = σ.length ∧ ∀ j, j ∉ ts → σ'[j]? = σ[j]?
theorem Out.refl {ts : List Nat} (σ : L2.St) : Out ts σ σ := ⟨rfl, fun _ _ => rfl⟩
def tDG (K : PySem.W.Frag) (ts : List Nat) (g : D → List S → Option (List S)) : TG := fun v σ H Q => ∃ c G ρ d ρ', Rst K c G H σ ρ ∧ Rp K G d v ∧ g d ρ = some ρ' ∧ ∀ σ', Rst K c G H σ' ρ' → Out ts σ σ' → Q σ' H
structure DG (X : Cx) (tg : Expr) (ts : List Nat) (g : D → List S → Option (List S)) : Prop where
 pg : PG X tg (tDG X.K ts g)
def tDGs (K : PySem.W.Frag) (ts : List Nat) (g : List D → List S → Option (List S)) : TGs := fun vs σ H Q => ∃ c G ρ ds ρ', Rst K c G H σ ρ ∧ RpL K G ds vs ∧ g ds ρ = some ρ' ∧ ∀ σ', Rst K c G H σ' ρ' → Out ts σ σ' → Q σ' H
structure DGs (X : Cx) (es : List Expr) (ts : List Nat) (g : List D → List S → Option (List S)) : Prop where
 pgs : PGs X es (tDGs X.K ts g)
theorem _root_.L2.PG.weak {tg : Expr} {t t' : TG} (h : PG X tg t) (w : ∀ v σ H Q, t' v σ H Q → t v σ H Q) : PG X tg t' := ⟨fun pins s σ H v u Q I r q => h.run pins s σ H v u Q I r (w v σ H Q q)⟩
theorem _root_.L2.PGs.weak {ts : List Expr} {t t' : TGs} (h : PGs X ts t) (w : ∀ v σ H Q, t' v σ H Q → t v σ H Q) : PGs X ts t' := ⟨fun pins s σ H v u Q I r q => h.run pins s σ H v u Q I r (w v σ H Q q)⟩
def gN (i : Nat) : D → List S → Option (List S) := fun d ρ => some (ρ.set i (.val d))
theorem dg_name (i : Nat) {x : Str} (hN : X.N.Nodup) (hi : X.N[i]? = some x := by rfl) (hx : Loc X.env.scope x := by first | exact Or.inl rfl | exact Or.inr rfl)
  (hf : X.fn x = true ∨ X.env.scope.names.lookup x = some .local := by first | exact .inl rfl | exact .inr rfl | assumption) : DG X (.Name x pos) [i] (gN i) :=
 ⟨(pg_name hN hi hx hf).weak fun v σ H Q ⟨c, G, ρ, d, ρ', R, k, e, h⟩ => by
  cases e
  exact h _ (R.set_val i k) ⟨by rw [List.length_set], fun j hj => by rw [List.getElem?_set_ne (fun z => hj (by simp [z]))]⟩⟩
def gsNil : List D → List S → Option (List S)
 | [], ρ => some ρ
 | _ :: _, _ => none
def gsCons (g : D → List S → Option (List S)) (gs : List D → List S → Option (List S)) : List D → List S → Option (List S)
 | [], _ => none
 | d :: ds, ρ => (g d ρ).bind (gs ds)
theorem dgs_nil : DGs X [] [] gsNil := ⟨pgs_nil.weak fun vs σ H Q ⟨c, G, ρ, ds, ρ', R, k, e, h⟩ => by
 cases ds with
 | nil => cases e; cases k; exact ⟨rfl, h σ R (Out.refl σ)⟩
 | cons => cases e⟩
theorem dgs_cons {t : Expr} {es : List Expr} {t1 t2 : List Nat} {g : D → List S → Option (List S)} {gs : List D → List S → Option (List S)} (h1 : DG X t t1 g) (h2 : DGs X es t2 gs)
  (hs : (assignEach (t :: es) X.env).map (·.2) = assign t X.env :: (assignEach es X.env).map (·.2) := by rfl) : DGs X (t :: es) (t1 ++ t2) (gsCons g gs) :=
 ⟨(pgs_cons h1.pg h2.pgs hs).weak fun vs σ H Q ⟨c, G, ρ, ds, ρ', R, k, e, h⟩ => by
  cases ds with
  | nil => cases e
  | cons d ds =>
   obtain ⟨v, r, rfl, k1, k2⟩ := k
   obtain ⟨ρ1, e1, e2⟩ := Option.bind_eq_some_iff.mp (show (g d ρ).bind (gs ds) = some ρ' from e)
   exact ⟨v, r, rfl, c, G, ρ, d, ρ1, R, k1, e1, fun σ1 R1 o1 => ⟨c, G, ρ1, ds, ρ', R1, k2, e2, fun σ2 R2 o2 => h σ2 R2 ⟨o2.1.trans o1.1, fun j hj => by
    rw [o2.2 j (fun z => hj (List.mem_append_right _ z)), o1.2 j (fun z => hj (List.mem_append_left _ z))]⟩⟩⟩⟩
def gT (n : Nat) (gs : List D → List S → Option (List S)) : D → List S → Option (List S)
 | .tup ds, ρ => if ds.length = n then gs ds ρ else none
 | _, _ => none
theorem dg_tup {es : List Expr} {t : List Nat} {k n : Nat} {gs : List D → List S → Option (List S)} (hc : X.calm = true) (h : DGs X es t gs) (hn : (assignEach es X.env).length = n := by rfl) (hst : (assignEach es X.env).findIdx? (·.1) = none := by rfl) : DG X (.Tuple es k pos) t (gT n gs) :=
 ⟨(pg_tup hc h.pgs hn hst).weak fun v σ H Q ⟨c, G, ρ, d, ρ', R, kd, e, h⟩ => by
  cases d <;> first
   | cases e
   | (rename_i ds
      have e : (if ds.length = n then gs ds ρ else none) = some ρ' := e
      obtain ⟨a, xs, rfl, h2, h3⟩ := kd
      split at e
      · rename_i hl
        exact ⟨a, xs, rfl, Same.seqt R.gh h2, by rw [h3.length, hl], c, G, ρ, ds, ρ', R, h3, e, h⟩
      · cases e)⟩
def asgV (g : D → List S → Option (List S)) (r : Rv) : MS := thenS (toV r) fun d ρ => (g d ρ).map .nx
def sAsg (g : D → List S → Option (List S)) (fa : M Rv) : MS := thenS fa (asgV g)
theorem thenS_wp {α : Type} {f : M α} {k : α → MS} {ρ : List S} {o : Os} (h : thenS f k ρ = some o) : wpM (f ρ) (fun a ρ' => k a ρ' = some o) (fun e ρ' => o = .ex e ρ') := by
 unfold thenS at h
 revert h
 cases f ρ with
 | none => exact fun h => nomatch h
 | some ot => cases ot with
  | ok a ρ1 => exact fun h => h
  | ex e ρ1 => exact fun h => (Option.some.inj h).symm
end
structure Walks (K : PySem.W.Frag) (G0 : Hp) (J : It) (ds : List D) : Prop where
 go : ∀ {c : Cn} {G H : Hp} {σ : L2.St} {ρ : List S} {i : Nat}, Rst K c G H σ ρ → Same G0 G → i < ds.length → J.go i H
 yld : ∀ {c : Cn} {G H H' : Hp} {σ : L2.St} {ρ : List S} {i : Nat} {x : V}, Rst K c G H σ ρ → Same G0 G → J.yld i H x H' → i < ds.length → ∃ d G', ds[i]? = some d ∧ Rst K c G' H' σ ρ ∧ Same G G' ∧ Rp K G' d x
 stop : ∀ {c : Cn} {G H : Hp} {σ : L2.St} {ρ : List S}, Rst K c G H σ ρ → Same G0 G → J.stop ds.length H
 sz : ds.length ≤ sizeLine
def tDI (K : PySem.W.Frag) (W : WX) (f : M (List D)) : TI := fun σ H R => ∃ c G ρ, Rst K c G H σ ρ ∧ wpM (f ρ) (fun ds ρ' => ∀ J G' H', Rst K c G' H' σ ρ' → Same G G' → Walks K G' J ds → R J H') (EXk K c W σ G)
structure DI (X : Cx) (W : WX) (tg iter : Expr) (f : M (List D)) : Prop where
 pi : PI X tg iter (tDI X.K W f)
theorem _root_.L2.PI.weak {X : Cx} {tg iter : Expr} {t t' : TI} (h : PI X tg iter t) (w : ∀ σ H R, t' σ H R → t σ H R) : PI X tg iter t' := ⟨fun pins s σ H R I q => h.run pins s σ H R I (w σ H R q)⟩
theorem walks_list {K : PySem.W.Frag} {G0 : Hp} {a : Addr} {xs : List V} {ds : List D} (h : G0 a = some (.lst xs)) (r : RpL K G0 ds xs) (hz : xs.length ≤ sizeLine) : Walks K G0 (Itl K a) ds where
 sz := by rw [← r.length]; exact hz
 go := fun {c G H σ ρ i} R s hi => by
  have hx : H a = some (.lst xs) := R.gh _ _ (s _ _ h)
  exact ⟨xs, xs[i]'(by rw [r.length]; exact hi), .inl (.inl hx), List.getElem?_eq_getElem _⟩
 yld := fun {c G H H' σ ρ i x} R s ⟨e, q⟩ hi => by
  have e' : H = H' := e.symm
  subst e'
  have hx : H a = some (.lst xs) := R.gh _ _ (s _ _ h)
  obtain ⟨d, q1, q2⟩ := (r.mono s).get' (q xs (.inl (.inl hx)))
  exact ⟨d, G, q1, R, Same.refl G, q2⟩
 stop := fun {c G H σ ρ} R s => ⟨xs, .inl (.inl (R.gh _ _ (s _ _ h))), by rw [r.length]; exact Nat.le_refl _⟩
theorem walks_tup {K : PySem.W.Frag} {G0 : Hp} {a : Addr} {xs : List V} {ds : List D} (h : SqT K G0 a xs) (r : RpL K G0 ds xs) (hz : xs.length ≤ sizeLine) : Walks K G0 (Itt K a) ds where
 sz := by rw [← r.length]; exact hz
 go := fun {c G H σ ρ i} R s hi => ⟨xs, xs[i]'(by rw [r.length]; exact hi), Same.seqt (s.trans R.gh) h, List.getElem?_eq_getElem _⟩
 yld := fun {c G H H' σ ρ i x} R s ⟨e, q⟩ hi => by
  have e' : H = H' := e.symm
  subst e'
  obtain ⟨d, q1, q2⟩ := (r.mono s).get' (q xs (Same.seqt (s.trans R.gh) h))
  exact ⟨d, G, q1, R, Same.refl G, q2⟩
 stop := fun {c G H σ ρ} R s => ⟨xs, Same.seqt (s.trans R.gh) h, by rw [r.length]; exact Nat.le_refl _⟩
def rangeD (lo : Int) (n : Nat) : List D := (List.range n).map fun (k : Nat) => D.int (lo + (k : Int))
theorem walks_range {K : PySem.W.Frag} {G0 : Hp} {lo : Int} {n : Nat} (hz : n ≤ sizeLine) : Walks K G0 (Itr lo n) (rangeD lo n) where
 sz := by simpa [rangeD] using hz
 go := fun {c G H σ ρ i} R s hi => by
  show i < n
  simpa [rangeD] using hi
 yld := fun {c G H H' σ ρ i x} R s ⟨e, q⟩ hi => by
  have e' : H = H' := Eq.symm e
  have q' : x = .int (lo + (i : Int)) := q
  subst e' q'
  have hi' : i < n := by simpa [rangeD] using hi
  exact ⟨.int (lo + (i : Int)), G, by simp [rangeD, hi'], R, Same.refl G, rfl⟩
 stop := fun {c G H σ ρ} R s => by simp [rangeD, Itr]
theorem _root_.L2.PI.or {X : Cx} {tg iter : Expr} {t t' : TI} (h : PI X tg iter t) (h' : PI X tg iter t') : PI X tg iter (fun σ H R => t σ H R ∨ t' σ H R) := ⟨fun pins s σ H R I q => by
 rcases q with q | q
 · exact h.run pins s σ H R I q
 · exact h'.run pins s σ H R I q⟩
section
variable {X : Cx} {pins : List (Addr × Obj)} {σ : L2.St} {H : Hp} {s : Shared} {tg : Expr} {R : It → Hp → Prop} {a : Addr} {xs : List V}
theorem fresh_fp (I : Inv X pins σ H s) {o : Obj} (hf : H s.heap.objs.size = none) : ∀ b ∈ [s.heap.objs.size], FpOk X pins H b := fun b hb => by
 have e : b = s.heap.objs.size := by simpa using hb
 subst e
 exact I.fpOk (Nat.le_refl _) hf
theorem list_it (I : Inv X pins σ H s) (h : SqL X.K H a xs) (q : R (Itl X.K a) H) : wpAny (model X.prog X.w) X.A (pyIter (.ref a)) (PIE X pins σ tg R) X.xe s := by
 obtain ⟨its, rv, p, hz⟩ := I.list h
 exact wpAny_pyIter_list p.isList ⟨s.heap.objs.size, [s.heap.objs.size], _, _, H, rfl, I.kept (t' := s.toks) fun b o e => Heap.get?_push_of_some _ e, turn_list a _, ⟨_, Heap.get?_push_size _ rfl, rfl, rfl⟩,
  fresh_fp I (o := default) (I.hok.fresh (Nat.le_refl _)), q⟩
theorem tup_it (I : Inv X pins σ H s) (h : SqT X.K H a xs) (q : R (Itt X.K a) H) : wpAny (model X.prog X.w) X.A (pyIter (.ref a)) (PIE X pins σ tg R) X.xe s := by
 obtain ⟨its, rv, p, hz⟩ := I.tuple h
 exact wpAny_pyIter_tuple (show s.heap.IsTuple a its.toArray from p) ⟨s.heap.objs.size, [s.heap.objs.size], _, _, H, rfl, I.kept (t' := s.toks) fun b o e => Heap.get?_push_of_some _ e, turn_tuple a _, ⟨_, Heap.get?_push_size _ rfl, rfl, rfl⟩,
  fresh_fp I (o := default) (I.hok.fresh (Nat.le_refl _)), q⟩
end
section
variable {X : Cx} {W : WX} {np : Nat} {a b e tg : Expr} {es : List Expr} {fa fb : M Rv} {ga : M (List Rv)} {pos p p2 : Pos}
def iSeq (fa : M Rv) : M (List D) := do
 let r ← fa
 let d ← toV r
 ofO (items d)
theorem lst_size {pins : List (Addr × Obj)} {σ : L2.St} {H : Hp} {s : Shared} {b : Addr} {xs : List V} (I : Inv X pins σ H s) (h : SqL X.K H b xs) : xs.length ≤ sizeLine := by
 obtain ⟨its, rv, p, hz⟩ := I.list h
 exact hz
theorem tup_size {pins : List (Addr × Obj)} {σ : L2.St} {H : Hp} {s : Shared} {b : Addr} {xs : List V} (I : Inv X pins σ H s) (h : SqT X.K H b xs) : xs.length ≤ sizeLine := by
 obtain ⟨its, rv, p, hz⟩ := I.tuple h
 exact hz
theorem di_seq (ha : DE X W a fa) : DI X W tg a (iSeq fa) := ⟨⟨fun pins s σ H R I ⟨c, G, ρ, Rs, w⟩ => by
 have h0 : tD X.K W fa σ H fun x H1 => ∃ r ρ1 G1, Rst X.K c G1 H1 σ ρ1 ∧ Same G G1 ∧ RpR X.K c G1 H1 σ ρ1 x r ∧ wpM ((do let d ← toV r; ofO (items d)) ρ1) (fun ds ρ' => ∀ J G' H', Rst X.K c G' H' σ ρ' → Same G G' → Walks X.K G' J ds → R J H') (EXk X.K c W σ G) :=
  tg_step Rs (Same.refl G) w fun r ρ1 v G1 H1 R1 s1 _ k w1 => ⟨r, ρ1, G1, R1, s1, k, w1⟩
 refine thn (ha.pe.run pins s σ H _ I h0) fun u s1 ⟨x, H1, I1, ru, r, ρ1, G1, R1, sm1, k, w1⟩ => ?_
 obtain ⟨d, G2, ρ2, s2, R2, k2, w2⟩ := toV_wp R1 k (wpM_bind w1)
 obtain ⟨ds, e1, w3⟩ := ofO_wp w2
 cases d with
 | lst zs =>
  cases e1
  obtain ⟨b, xs, rfl, h2, h3⟩ := k2
  cases ru
  have hs : SqL X.K H1 b xs := .inl (.inl (R2.gh _ _ h2))
  exact list_it I1 hs (w3 _ G2 H1 R2 (sm1.trans s2) (walks_list h2 h3 (lst_size I1 hs)))
 | tup zs =>
  cases e1
  obtain ⟨b, xs, rfl, h2, h3⟩ := k2
  cases ru
  have hs : SqT X.K H1 b xs := Same.seqt R2.gh h2
  exact tup_it I1 hs (w3 _ G2 H1 R2 (sm1.trans s2) (walks_tup h2 h3 (tup_size I1 hs)))
 | _ => cases e1⟩⟩
end
end Dl
namespace Dl
open PySem L2
section
variable {X : Cx} {W : WX} {np : Nat} {a b e tg : Expr} {es : List Expr} {fa fb : M Rv} {ga : M (List Rv)} {pos p p2 : Pos}
def rngOk (i j : Int) : Bool := decide (-(2 ^ 61) ≤ i ∧ i < 2 ^ 61 ∧ -(2 ^ 61) ≤ j ∧ j - i ≤ 16777216)
def dRng1 : List D → Option (List D)
 | [.int j] => if rngOk 0 j = true then some (rangeD 0 j.toNat) else none
 | _ => none
def dRng2 : List D → Option (List D)
 | [.int i, .int j] => if rngOk i j = true then some (rangeD i (j - i).toNat) else none
 | _ => none
def iRng1 (ga : M (List Rv)) : M (List D) := do
 let rs ← ga
 let ds ← peeks rs
 ofO (dRng1 ds)
def iRng2 (ga : M (List Rv)) : M (List D) := do
 let rs ← ga
 let ds ← peeks rs
 ofO (dRng2 ds)
theorem di_rng1 (hg : Gl X "range") (hm : X.mg "range" = none) (ha : DA X W [a] ga) (hs : starEach [a] X.env = [(false, eval a X.env)] := by rfl) : DI X W tg (.Call (.Name "range" p) [a] [] pos) (iRng1 ga) :=
 ⟨(pi_range1 hg hm ha.pa hs).weak fun σ H R ⟨c, G, ρ, Rs, w⟩ => by
  refine tg_step Rs (Same.refl G) w fun rs ρ1 vs G1 H1 R1 s1 _ k1 w1 => ?_
  obtain ⟨ds, kd, w2⟩ := peeks_wp R1 k1 (wpM_bind w1)
  obtain ⟨q, eq, w3⟩ := ofO_wp w2
  unfold dRng1 at eq
  split at eq
  · rename_i j
    by_cases hr : rngOk 0 j = true
    · rw [if_pos hr] at eq
      cases eq
      obtain ⟨v, rfl, kv⟩ := kd.one
      obtain ⟨h1, h2, h3, h4⟩ := of_decide_eq_true (p := -(2 ^ 61) ≤ (0 : Int) ∧ (0 : Int) < 2 ^ 61 ∧ -(2 ^ 61) ≤ j ∧ j - 0 ≤ 16777216) hr
      exact ⟨j, by rw [kv.int], by omega, by omega, w3 _ G1 H1 R1 s1 (walks_range (by rw [PySem.sizeLine_eq]; omega))⟩
    · rw [if_neg hr] at eq; cases eq
  · cases eq⟩
end
def forL (tg : D → List S → Option (List S)) (body : MS) : List D → MS
 | [], ρ => some (.nx ρ)
 | d :: ds, ρ => match tg d ρ with
  | none => none
  | some ρ1 => match body ρ1 with
   | some (.nx ρ') => forL tg body ds ρ'
   | some (.ct ρ') => forL tg body ds ρ'
   | some (.bk ρ') => some (.nx ρ')
   | o => o
def sFor (it : M (List D)) (tg : D → List S → Option (List S)) (body : MS) : MS := thenS it fun ds => forL tg body ds
structure Go (X : Cx) (W : WX) : Prop where
 tk : Takes X W
 po : PassesOwn (model X.prog X.w) X.A X.env X.xe
 calm : X.calm = true
 nd : X.N.Nodup
 rm : Rm X
section
variable {X : Cx} {W : WX} {np : Nat} {a b e tg iter cc : Expr} {es : List Expr} {fa fb : M Rv} {ga : M (List Rv)} {pos p p2 : Pos} {sts : List Stmt} {it : M (List D)} {g : D → List S → Option (List S)} {body : MS}
theorem ds_for {ts : List Nat} (go : Go X W) (hi : DI X W tg iter it) (hg : DG X tg ts g) (hb : DL X W np sts body) (hs : ∀ x, foldedSetIterable iter X.env x = pure x := by intro _; rfl) : DS X W np (.For tg iter sts [] pos) (sFor it g body) :=
 ⟨(ps_for go.po go.calm hi.pi hg.pg hb.pss hs).weak fun Dn σ H ⟨c, G, ρ, o, hl, R, h, po⟩ => by
  refine ⟨c, G, ρ, R, wpM_mono (thenS_wp h) (fun ds ρ1 h1 J G1 H1 R1 s1 wk => ?_) fun e ρ1 he => by subst he; exact EXk.of_po po⟩
  have po1 := po.mono s1
  refine ⟨fun i m σ2 H2 => m = ds.length - i ∧ i ≤ ds.length ∧ ∃ G2 ρ2, Rst X.K c G2 H2 σ2 ρ2 ∧ Same G1 G2 ∧ forL g body (ds.drop i) ρ2 = some o ∧ Po X.K c W G2 Dn o,
   ⟨ds.length, by omega, Nat.zero_le _, G1, ρ1, R1, Same.refl G1, h1, po1⟩, ?_⟩
  rintro i m σ2 H2 ⟨hm, hi, G2, ρ2, R2, s2, h2, po2⟩
  by_cases hlt : i < ds.length
  · refine .inr ⟨wk.go R2 s2 hlt, fun σ' H' => (i + 1 ≤ ds.length ∧ ∃ G' ρ', Rst X.K c G' H' σ' ρ' ∧ Same G1 G' ∧ forL g body (ds.drop (i + 1)) ρ' = some o ∧ Po X.K c W G' Dn o), fun σ' H' hN => ⟨ds.length - (i + 1), by omega, rfl, hN⟩, fun x H' hy => ?_⟩
    obtain ⟨d, G3, e1, R3, s3, k3⟩ := wk.yld R2 s2 hy hlt
    have hd : ds.drop i = d :: ds.drop (i + 1) := by
     rw [List.drop_eq_getElem_cons hlt]
     rw [List.getElem?_eq_getElem hlt] at e1
     rw [Option.some.inj e1]
    rw [hd] at h2
    unfold forL at h2
    cases q : g d ρ2 with
    | none => rw [q] at h2; cases h2
    | some ρ3 =>
     rw [q] at h2
     dsimp only at h2
     refine ⟨c, G3, ρ2, d, ρ3, R3, k3, q, fun σ3 R3' _ => ?_⟩
     cases q2 : body ρ3 with
     | none => rw [q2] at h2; cases h2
     | some o3 =>
      rw [q2] at h2
      refine ⟨c, G3, ρ3, o3, hl, R3', q2, ?_⟩
      cases o3 with
      | nx ρ4 => exact fun σ4 G4 H4 R4 s4 => ⟨by omega, G4, ρ4, R4, (s2.trans s3).trans s4, h2, po2.mono (s3.trans s4)⟩
      | ct ρ4 => exact fun σ4 G4 H4 R4 s4 => ⟨by omega, G4, ρ4, R4, (s2.trans s3).trans s4, h2, po2.mono (s3.trans s4)⟩
      | bk ρ4 => cases h2; exact fun σ4 G4 H4 R4 s4 => po2 σ4 G4 H4 R4 (s3.trans s4)
      | rt r ρ4 => cases h2; exact po2.mono s3
      | ex x ρ4 => cases h2; exact po2.mono s3
  · have e0 : i = ds.length := by omega
    subst e0
    rw [List.drop_length] at h2
    cases h2
    exact .inl ⟨wk.stop R2 s2, po2 σ2 G2 H2 R2 (Same.refl G2)⟩⟩
end
def whN (g : M Bool) (body : MS) : Nat → MS
 | 0, _ => none
 | n + 1, ρ => match g ρ with
  | none => none
  | some (.ex e ρ') => some (.ex e ρ')
  | some (.ok false ρ') => some (.nx ρ')
  | some (.ok true ρ1) => match body ρ1 with
   | some (.nx ρ') => whN g body n ρ'
   | some (.ct ρ') => whN g body n ρ'
   | some (.bk ρ') => some (.nx ρ')
   | o => o
open Classical in
noncomputable def whL (g : M Bool) (body : MS) : MS := fun ρ => if h : ∃ n o, whN g body n ρ = some o then some (Classical.choose (Classical.choose_spec h)) else none
section
variable {X : Cx} {W : WX} {np : Nat} {cc : Expr} {pos : Pos} {sts : List Stmt} {g : M Bool} {body : MS}
end
end Dl
namespace Dl
open PySem L2
def Cn.with (c : Cn) (p : Addr) (o : HO) : Cn := { c with F := upd c.F p o }
section
variable {K : PySem.W.Frag} {c : Cn} {G G' H H' : Hp} {σ : L2.St} {ρ ρ' : List S} {p : Addr} {o o' : HO}
theorem Ow.fmono {K : PySem.W.Frag} {F F' G H : Hp} {a : Addr} {d : D} (hd : ∀ b, H b = some (.own a) → F b = none → F' b = none) (h : Ow K F G H a d) : Ow K F' G H a d := by
 cases d with
 | lst ds => exact h
 | obj c ns ds => obtain ⟨dx, xs, h1, h2, h3, h4, h5, hl, h6⟩ := h; exact ⟨dx, xs, h1, h2, h3, hd dx h2 h4, h5, hl, h6⟩
 | dic ks vs => exact h
 | ndi ks vs => exact h
 | _ => exact h.elim
theorem Rst.keep (R : Rst K c G H σ ρ) (hp : H p = some o) (gp : G p = none) (ho : ∀ b, o ≠ .own b) (ns : ∀ (i : Nat) (e : D), ρ[i]? = some (.own e) → σ[i]? ≠ some (some (.ref p))) : Rst K (c.with p o) G H σ ρ where
 fh := fun b u e => by
  by_cases z : b = p
  · subst z; have e : upd c.F b o b = some u := e; rw [upd_same] at e; cases e; exact hp
  · have e : upd c.F p o b = some u := e; rw [upd_ne z] at e; exact R.fh b u e
 gh := R.gh
 fg := fun b u e => by
  by_cases z : b = p
  · subst z; exact gp
  · have e : upd c.F p o b = some u := e; rw [upd_ne z] at e; exact R.fg b u e
 len := R.len
 val := R.val
 own := fun i d e => by
  obtain ⟨a, h1, h2, h3, h4⟩ := R.own i d e
  refine ⟨a, h1, h2, ?_, h4.fmono fun b hb fb => ?_⟩
  · show upd c.F p o a = none
    rw [upd_ne (fun z => by subst z; exact ns i d e h1)]; exact h3
  · show upd c.F p o b = none
    rw [upd_ne (fun z => by subst z; rw [hp] at hb; exact ho a (Option.some.inj hb))]; exact fb
 ne := R.ne
 par := R.par
theorem Rst.unkeep (R : Rst K (c.with p o) G H σ ρ) (fp : c.F p = none) : Rst K c G H σ ρ where
 fh := fun b u e => R.fh b u (by show upd c.F p o b = some u; rw [upd_ne (ne_of_none e fp)]; exact e)
 gh := R.gh
 fg := fun b u e => R.fg b u (by show upd c.F p o b = some u; rw [upd_ne (ne_of_none e fp)]; exact e)
 len := R.len
 val := R.val
 own := fun i d e => by
  obtain ⟨a, h1, h2, h3, h4⟩ := R.own i d e
  have low : ∀ b, (c.with p o).F b = none → c.F b = none := fun b hb => by
   by_cases z : b = p
   · subst z; exact fp
   · have hb : upd c.F p o b = none := hb
     rw [upd_ne z] at hb; exact hb
  exact ⟨a, h1, h2, low a h3, h4.fmono fun b _ hb => low b hb⟩
 ne := R.ne
 par := R.par
theorem Rst.store (R : Rst K (c.with p o) G H σ ρ) (ho : ∀ b, o ≠ .own b) : Rst K (c.with p o') G (upd H p o') σ ρ := by
 have hF : (c.with p o).F p = some o := upd_same
 have hp : H p = some o := R.fh _ _ hF
 have gp : G p = none := R.fg _ _ hF
 refine ⟨fun b u e => ?_, fun b u e => ?_, fun b u e => ?_, R.len, R.val, fun i d e => ?_, R.ne, R.par⟩
 · have e : upd c.F p o' b = some u := e
   by_cases z : b = p
   · subst z; rw [upd_same] at e ⊢; exact e
   · rw [upd_ne z] at e ⊢; exact R.fh b u (by show upd c.F p o b = some u; rw [upd_ne z]; exact e)
 · rw [upd_ne (ne_of_none e gp)]; exact R.gh _ _ e
 · have e : upd c.F p o' b = some u := e
   by_cases z : b = p
   · subst z; exact gp
   · rw [upd_ne z] at e; exact R.fg b u (by show upd c.F p o b = some u; rw [upd_ne z]; exact e)
 · obtain ⟨a, h1, h2, h3, h4⟩ := R.own i d e
   have na : a ≠ p := fun z => by subst z; rw [hF] at h3; cases h3
   have low : ∀ b, b ≠ p → (c.with p o).F b = none → (c.with p o').F b = none := fun b z hb => by
    have hb : upd c.F p o b = none := hb
    show upd c.F p o' b = none
    rw [upd_ne z] at hb ⊢; exact hb
   refine ⟨a, h1, h2, low a na h3, ?_⟩
   cases d with
   | lst ds => obtain ⟨xs, q1, q2⟩ := h4; exact ⟨xs, by rw [upd_ne na]; exact q1, q2⟩
   | obj cc ns ds =>
    obtain ⟨dx, xs, q1, q2, q3, q4, q5, q6, q7⟩ := h4
    have nd : dx ≠ p := fun z => by subst z; rw [hp] at q2; exact ho a (Option.some.inj q2)
    exact ⟨dx, xs, by rw [upd_ne na]; exact q1, by rw [upd_ne nd]; exact q2, q3, low dx nd q4, q5, q6, q7⟩
   | dic ks vs => obtain ⟨kvs, q1, q2, q3⟩ := h4; exact ⟨kvs, by rw [upd_ne na]; exact q1, q2, q3⟩
   | ndi ks vs => obtain ⟨kvs, q1, q2⟩ := h4; exact ⟨kvs, by rw [upd_ne na]; exact q1, q2⟩
   | _ => exact h4.elim
end
def wipeS (ρ : List S) : List Nat → List S
 | [] => ρ
 | v :: vs => (wipeS ρ vs).set v .no
def backS (ρ0 ρ : List S) : List Nat → List S
 | [] => ρ
 | v :: vs => (backS ρ0 ρ vs).set v (ρ0.getD v .no)
def isOwn : Option S → Bool
 | some (.own _) => true
 | _ => false
def noOwn (ρ : List S) (vs : List Nat) : Bool := vs.all fun v => !isOwn ρ[v]?
section
variable {K : PySem.W.Frag} {c : Cn} {G G' H H' : Hp} {σ σ2 : L2.St} {ρ ρ' ρ2 : List S}
theorem wipe_in {σ : L2.St} : ∀ {vs : List Nat} {j : Nat}, j ∉ vs → (wipe σ vs)[j]? = σ[j]?
 | [], _, _ => rfl
 | v :: vs, j, h => by
  unfold wipe
  have h2 : j ≠ v ∧ j ∉ vs := by simpa using h
  rw [List.getElem?_set_ne (Ne.symm h2.1)]
  exact wipe_in h2.2
theorem wipeS_get {ρ : List S} : ∀ {vs : List Nat} {j : Nat} {s : S}, (wipeS ρ vs)[j]? = some s → s ≠ .no → ρ[j]? = some s ∧ j ∉ vs
 | [], _, _, h, _ => ⟨h, by simp⟩
 | v :: vs, j, s, h, n => by
  unfold wipeS at h
  rcases set_cases h with ⟨_, _, e⟩ | ⟨hj, h⟩
  · exact absurd e n
  · obtain ⟨h1, h2⟩ := wipeS_get h n
    exact ⟨h1, by simp [hj, h2]⟩
theorem wipeS_length (ρ : List S) : ∀ vs : List Nat, (wipeS ρ vs).length = ρ.length
 | [] => rfl
 | v :: vs => by unfold wipeS; rw [List.length_set, wipeS_length ρ vs]
theorem backS_length (ρ0 ρ : List S) : ∀ vs : List Nat, (backS ρ0 ρ vs).length = ρ.length
 | [] => rfl
 | v :: vs => by unfold backS; rw [List.length_set, backS_length ρ0 ρ vs]
theorem backS_get {ρ0 ρ : List S} (hl : ρ0.length = ρ.length) : ∀ {vs : List Nat} {j : Nat} {s : S}, (backS ρ0 ρ vs)[j]? = some s → (j ∈ vs ∧ ρ0[j]? = some s) ∨ (j ∉ vs ∧ ρ[j]? = some s)
 | [], _, _, h => .inr ⟨by simp, h⟩
 | v :: vs, j, s, h => by
  unfold backS at h
  rcases set_cases h with ⟨e1, hv, e⟩ | ⟨hj, h⟩
  · subst e1
    refine .inl ⟨by simp, ?_⟩
    rw [backS_length] at hv
    have h0 : j < ρ0.length := by omega
    rw [e, List.getD_eq_getElem?_getD, List.getElem?_eq_getElem h0]; rfl
  · rcases backS_get hl h with ⟨h1, h2⟩ | ⟨h1, h2⟩
    · exact .inl ⟨by simp [h1], h2⟩
    · exact .inr ⟨by simp [hj, h1], h2⟩
theorem Rst.wiped (R : Rst K c G H σ ρ) (vs : List Nat) : Rst K c G H (wipe σ vs) (wipeS ρ vs) where
 fh := R.fh
 gh := R.gh
 fg := R.fg
 len := by rw [wipeS_length, wipe_length, R.len]
 val := fun i d e => by
  obtain ⟨h1, h2⟩ := wipeS_get e (by intro z; cases z)
  rw [wipe_in h2]; exact R.val i d h1
 own := fun i d e => by
  obtain ⟨h1, h2⟩ := wipeS_get e (by intro z; cases z)
  rw [wipe_in h2]; exact R.own i d h1
 ne := fun i j d e a q1 q2 r1 r2 => by
  obtain ⟨h1, h2⟩ := wipeS_get q1 (by intro z; cases z)
  obtain ⟨h3, h4⟩ := wipeS_get q2 (by intro z; cases z)
  rw [wipe_in h2] at r1
  rw [wipe_in h4] at r2
  exact R.ne i j d e a h1 h3 r1 r2
 par := fun i d e hl => by
  obtain ⟨h1, h2⟩ := wipeS_get e (by intro z; cases z)
  rw [wipe_in h2]; exact R.par i d h1 hl
theorem same_of_wipe {σ σ2 : L2.St} {vs : List Nat} (h : wipe σ2 vs = wipe σ vs) {j : Nat} (hj : j ∉ vs) : σ2[j]? = σ[j]? := by
 have h1 := wipe_in (σ := σ2) hj
 have h2 := wipe_in (σ := σ) hj
 rw [← h1, ← h2, h]
theorem Rst.backed {c0 : Cn} {G0 H0 : Hp} (R0 : Rst K c0 G0 H0 σ ρ) (s : Same G0 G) (R : Rst K c G H σ2 ρ2) {vs : List Nat} (w : wipe σ2 vs = wipe σ vs) (no : noOwn ρ vs = true) : Rst K c G H σ (backS ρ ρ2 vs) := by
 have hlen : ρ.length = ρ2.length := by
  have e := congrArg List.length w
  rw [wipe_length, wipe_length] at e
  rw [R0.len, R.len, e]
 have nown : ∀ {j : Nat} {d : D}, (backS ρ ρ2 vs)[j]? = some (.own d) → j ∉ vs ∧ ρ2[j]? = some (.own d) := fun {j d} e => by
  rcases backS_get hlen e with ⟨h1, h2⟩ | h
  · exfalso
    have := List.all_eq_true.mp no j h1
    rw [h2] at this
    cases this
  · exact h
 refine ⟨R.fh, R.gh, R.fg, ?_, fun j d e => ?_, fun j d e => ?_, fun j k d e a q1 q2 r1 r2 => ?_, fun j d e hl => ?_⟩
 · rw [backS_length, ← hlen]; exact R0.len
 · rcases backS_get hlen e with ⟨h1, h2⟩ | ⟨h1, h2⟩
   · obtain ⟨v, k1, k2⟩ := R0.val j d h2
     exact ⟨v, k1, k2.mono s⟩
   · rw [← same_of_wipe w h1]; exact R.val j d h2
 · obtain ⟨h1, h2⟩ := nown e
   rw [← same_of_wipe w h1]; exact R.own j d h2
 · obtain ⟨h1, h2⟩ := nown q1
   obtain ⟨h3, h4⟩ := nown q2
   rw [← same_of_wipe w h1] at r1
   rw [← same_of_wipe w h3] at r2
   exact R.ne j k d e a h2 h4 r1 r2
 · obtain ⟨h1, h2⟩ := nown e
   rw [← same_of_wipe w h1]; exact R.par j d h2 hl
end
def lcL (tg : D → List S → Option (List S)) (tt : M Bool) (te : M Rv) (vs : List Nat) : List D → List D → M (List D)
 | [], acc, ρ => some (.ok acc ρ)
 | d :: ds, acc, ρ => match tg d (wipeS ρ vs) with
  | none => none
  | some ρ1 => match tt ρ1 with
   | some (.ok false ρ2) => lcL tg tt te vs ds acc (backS ρ ρ2 vs)
   | some (.ok true ρ2) => match (te >>= toV) ρ2 with
    | some (.ok e ρ3) => lcL tg tt te vs ds (acc ++ [e]) (backS ρ ρ3 vs)
    | _ => none
   | _ => none
def eLc (it : M (List D)) (tg : D → List S → Option (List S)) (tt : M Bool) (te : M Rv) (vs : List Nat) : M Rv := do
 let ds ← it
 let acc ← fun ρ => if noOwn ρ vs = true then lcL tg tt te vs ds [] ρ else none
 pure (.own (.lst acc))
def tYes' : M Bool := pure true
structure DTs (X : Cx) (ifs : List Expr) (f : M Bool) : Prop where
 pts : PTs X ifs (tDT X.K WX0 f)
theorem _root_.L2.PTs.weak {X : Cx} {ifs : List Expr} {t t' : TT} (h : PTs X ifs t) (w : ∀ σ H Q, t' σ H Q → t σ H Q) : PTs X ifs t' := ⟨fun pins s σ H Q I q => h.run pins s σ H Q I (w σ H Q q)⟩
theorem dts_nil {X : Cx} : DTs X [] tYes' := ⟨pts_nil.weak fun σ H Q ⟨c, G, ρ, R, w⟩ => w true G H R (Same.refl G) rfl⟩
theorem dts_one {X : Cx} {e : Expr} {f : M Bool} (h : DT X WX0 e f) : DTs X [e] f := ⟨pts_one h.pt⟩
theorem exk0 {K : PySem.W.Frag} {c : Cn} {σ : L2.St} {G : Hp} {α : Type} {o : Option (Ot α)} {OK : α → List S → Prop} (h : ∃ a ρ, o = some (.ok a ρ) ∧ OK a ρ) : wpM o OK (EXk K c WX0 σ G) := by
 obtain ⟨a, ρ, rfl, k⟩ := h
 exact k
theorem wipe_get {σ : L2.St} : ∀ {vs : List Nat} {j : Nat}, j ∈ vs → j < σ.length → (wipe σ vs)[j]? = some none
 | v :: vs, j, h, hl => by
  unfold wipe
  by_cases e : j = v
  · subst e; rw [List.getElem?_set_self (by rw [wipe_length]; exact hl)]
  · rw [List.getElem?_set_ne (Ne.symm e)]
    exact wipe_get (by simpa [e] using h) hl
theorem wipe_ext {σ σ' : L2.St} {vs : List Nat} (hl : σ'.length = σ.length) (h : ∀ j, j ∉ vs → σ'[j]? = σ[j]?) : wipe σ' vs = wipe σ vs := by
 apply List.ext_getElem?
 intro j
 by_cases hj : j ∈ vs
 · by_cases hlt : j < σ.length
   · rw [wipe_get hj hlt, wipe_get hj (by omega)]
   · rw [List.getElem?_eq_none (by rw [wipe_length]; omega), List.getElem?_eq_none (by rw [wipe_length]; omega)]
 · rw [wipe_in hj, wipe_in hj, h j hj]
theorem wipe_out {σ σ3 : L2.St} {vs ts : List Nat} (o : Out ts (wipe σ vs) σ3) (hts : ∀ t ∈ ts, t ∈ vs) : wipe σ3 vs = wipe σ vs :=
 wipe_ext (by rw [o.1, wipe_length]) fun j hj => by rw [o.2 j (fun z => hj (hts j z)), wipe_in hj]
theorem noOwn_back {ρ ρ3 : List S} {vs : List Nat} (hl : ρ.length = ρ3.length) (h : noOwn ρ vs = true) : noOwn (backS ρ ρ3 vs) vs = true := by
 refine List.all_eq_true.mpr fun v hv => ?_
 have h1 := List.all_eq_true.mp h v hv
 cases e : (backS ρ ρ3 vs)[v]? with
 | none => rfl
 | some s =>
  rcases backS_get hl e with ⟨_, h2⟩ | ⟨h2, _⟩
  · rw [h2] at h1; exact h1
  · exact absurd hv h2
theorem lcL_ex {tg : D → List S → Option (List S)} {tt : M Bool} {te : M Rv} {vs : List Nat} : ∀ {ds acc : List D} {ρ : List S} {o : Ot (List D)}, lcL tg tt te vs ds acc ρ = some o → ∃ a ρ', o = .ok a ρ'
 | [], acc, ρ, o, h => by cases h; exact ⟨_, _, rfl⟩
 | d :: ds, acc, ρ, o, h => by
  unfold lcL at h
  split at h
  · cases h
  · split at h
    · exact lcL_ex h
    · split at h
      · exact lcL_ex h
      · cases h
    · cases h
section
variable {X : Cx} {W : WX} {elt tg iter : Expr} {ifs : List Expr} {scope : Scope} {own : List (Str × Nat)} {pos : Pos} {it : M (List D)} {g : D → List S → Option (List S)} {tt : M Bool} {te : M Rv} {ts : List Nat}
theorem tD_lc {own : List (Str × Nat)} (hts : ∀ t ∈ ts, t ∈ own.map (·.2)) {σ : L2.St} {H : Hp} {Q : VK} (h : tD X.K W (eLc it g tt te (own.map (·.2))) σ H Q) : tLc (tDI X.K W it) (tDG X.K ts g) (tDT X.K WX0 tt) (tD X.K WX0 te) (own.map (·.2)) σ H Q := by
 obtain ⟨c, G, ρ, R, w⟩ := h
 refine ⟨c, G, ρ, R, wpM_mono (wpM_bind w) (fun ds ρ1 w1 J G1 H1 R1 s1 wk => ?_) fun _ _ x => x⟩
 have w2 := wpM_bind w1
 by_cases hn : noOwn ρ1 (own.map (·.2)) = true
 · rw [if_pos hn] at w2
   intro p hp
   have fp := R1.f_none hp
   cases e : lcL g tt te (own.map (·.2)) ds [] ρ1 with
   | none => rw [e] at w2; exact w2.elim
   | some o =>
    obtain ⟨out, ρe, rfl⟩ := lcL_ex e
    rw [e] at w2
    have w3 : ∀ (b : V) (G' H' : Hp), Rst X.K c G' H' σ ρe → Same G G' → RpR X.K c G' H' σ ρe b (.own (.lst out)) → Q b H' := w2
    refine ⟨fun i m H2 => m = ds.length - i ∧ i ≤ ds.length ∧ ∃ G2 ρ2 acc accV, Rst X.K (c.with p (.lst accV)) G2 H2 σ ρ2 ∧ Same G1 G2 ∧ RpL X.K G2 acc accV ∧ acc.length ≤ i ∧ noOwn ρ2 (own.map (·.2)) = true ∧ lcL g tt te (own.map (·.2)) (ds.drop i) acc ρ2 = some (.ok out ρe),
     ⟨ds.length, by omega, Nat.zero_le _, G1, ρ1, [], [], (R1.laid hp).keep upd_same (R1.g_none hp) (fun b z => nomatch z) (R1.not_slot hp), Same.refl G1, rfl, Nat.le_refl _, hn, e⟩, ?_⟩
    rintro i m H2 ⟨hm, hi2, G2, ρ2, acc, accV, R2, s2, ka, hla, hn2, e2⟩
    by_cases hlt : i < ds.length
    · refine .inr ⟨wk.go R2 s2 hlt, fun H' => i + 1 ≤ ds.length ∧ ∃ G' ρ' acc' accV', Rst X.K (c.with p (.lst accV')) G' H' σ ρ' ∧ Same G1 G' ∧ RpL X.K G' acc' accV' ∧ acc'.length ≤ i + 1 ∧ noOwn ρ' (own.map (·.2)) = true ∧ lcL g tt te (own.map (·.2)) (ds.drop (i + 1)) acc' ρ' = some (.ok out ρe),
        fun H' hN => ⟨ds.length - (i + 1), by omega, rfl, hN⟩, fun x H' hy => ?_⟩
      obtain ⟨d, G3, e1, R3, s3, k3⟩ := wk.yld R2 s2 hy hlt
      have hd : ds.drop i = d :: ds.drop (i + 1) := by
       rw [List.drop_eq_getElem_cons hlt]
       rw [List.getElem?_eq_getElem hlt] at e1
       rw [Option.some.inj e1]
      rw [hd] at e2
      unfold lcL at e2
      cases q : g d (wipeS ρ2 (own.map (·.2))) with
      | none => rw [q] at e2; cases e2
      | some ρ3 =>
       rw [q] at e2
       dsimp only at e2
       refine ⟨c.with p (.lst accV), G3, wipeS ρ2 (own.map (·.2)), d, ρ3, R3.wiped _, k3, q, fun σ3 R3' o3 => ?_⟩
       have hw := wipe_out o3 hts
       have hlen : ρ2.length = σ3.length := by
        have z := congrArg List.length hw
        rw [wipe_length, wipe_length] at z
        rw [R2.len, z]
       refine ⟨hw, ?_⟩
       refine ⟨c.with p (.lst accV), G3, ρ3, R3', exk0 ?_⟩
       cases q2 : tt ρ3 with
       | none => rw [q2] at e2; cases e2
       | some o4 =>
        cases o4 with
        | ex x ρ4 => rw [q2] at e2; cases e2
        | ok b ρ4 =>
         rw [q2] at e2
         refine ⟨b, ρ4, rfl, fun b' G4 H4 R4 s4 eb => ?_⟩
         obtain rfl : b' = b := eb
         cases b' with
         | false =>
          rw [if_neg Bool.false_ne_true]
          dsimp only at e2
          have hl4 : ρ2.length = ρ4.length := by rw [hlen, R4.len]
          exact ⟨by omega, G4, _, acc, accV, R2.backed (s3.trans s4) R4 hw hn2, (s2.trans s3).trans s4, ka.mono (s3.trans s4), by omega, noOwn_back hl4 hn2, e2⟩
         | true =>
          rw [if_pos rfl]
          dsimp only at e2
          refine ⟨c.with p (.lst accV), G4, ρ4, R4, exk0 ?_⟩
          rw [bind_eq] at e2
          cases q3 : te ρ4 with
          | none => rw [q3] at e2; cases e2
          | some o5 =>
           cases o5 with
           | ex x ρ5 => rw [q3] at e2; cases e2
           | ok r ρ5 =>
            rw [q3] at e2
            refine ⟨r, ρ5, rfl, fun y G5 H5 R5 s5 ky => ?_⟩
            dsimp only at e2
            have tw : wpM (toV r ρ5) (fun z ρ6 => lcL g tt te (own.map (·.2)) (ds.drop (i + 1)) (acc ++ [z]) (backS ρ2 ρ6 (own.map (·.2))) = some (.ok out ρe)) (fun _ _ => False) := by
             cases q5 : toV r ρ5 with
             | none => rw [q5] at e2; cases e2
             | some o6 => cases o6 with
              | ok z ρ6 => rw [q5] at e2; exact e2
              | ex x ρ6 => rw [q5] at e2; cases e2
            obtain ⟨z, G6, ρ6, s6, R6, kz, e6⟩ := toV_wp R5 ky tw
            have hl6 : ρ2.length = ρ6.length := by rw [hlen, R6.len]
            have sall := (s3.trans s4).trans (s5.trans s6)
            have hacc : accV.length < sizeLine := by rw [ka.length]; exact Nat.lt_of_lt_of_le (Nat.lt_of_le_of_lt hla hlt) wk.sz
            refine ⟨accV, R6.fh _ _ upd_same, hacc, by omega, G6, _, acc ++ [z], accV ++ [y], ?_, s2.trans sall, (ka.mono sall).append (RpL.one kz), by rw [List.length_append, List.length_singleton]; omega, noOwn_back hl6 hn2, e6⟩
            exact (R2.backed sall R6 hw hn2).store fun b z => nomatch z
    · have e0 : i = ds.length := by omega
      subst e0
      rw [List.drop_length] at e2
      cases e2
      have F2 : (c.with p (.lst accV)).F p = some (.lst accV) := upd_same
      refine .inl ⟨wk.stop R2 s2, w3 _ G2 H2 (R2.unkeep fp) (s1.trans s2) ⟨p, rfl, R2.fg _ _ F2, fp, ⟨accV, R2.fh _ _ F2, ka⟩, fun j e q z => ?_⟩⟩
      obtain ⟨a, h1, _, h3, _⟩ := R2.own j e q
      rw [z] at h1; cases h1
      rw [F2] at h3; cases h3
 · rw [if_neg hn] at w2; exact w2.elim
theorem de_lc (own : List (Str × Nat)) (go : Go X W) (hi : DI X W tg iter it) (ok : BlkOk X.N X.env.scope scope own)
  (hg : ∀ (s : Shared) (H : Hp) (C : Addr) (cl : List (Str × Addr)) (fp : List Addr), DG (X.blk s H scope (compEnvC scope cl C X.env) fp) tg ts g) (ht : ∀ (s : Shared) (H : Hp) (C : Addr) (cl : List (Str × Addr)) (fp : List Addr), DTs (X.blk s H scope (compEnvC scope cl C X.env) fp) ifs tt)
  (he : ∀ (s : Shared) (H : Hp) (C : Addr) (cl : List (Str × Addr)) (fp : List Addr), DE (X.blk s H scope (compEnvC scope cl C X.env) fp) WX0 elt te) (hts : ∀ t ∈ ts, t ∈ own.map (·.2) := by decide) (hs : ∀ x, foldedSetIterable iter X.env x = pure x := by intro _; rfl) :
  DE X W (.ListComp elt [⟨tg, iter, ifs, 0⟩] scope pos) (eLc it g tt te (own.map (·.2))) :=
 ⟨(pe_lc (g := tDG X.K ts g) (tt := tDT X.K WX0 tt) (te := tD X.K WX0 te) go.calm go.nd hi.pi ok (fun s H C cl fp => (hg s H C cl fp).pg) (fun s H C cl fp => (ht s H C cl fp).pts) (fun s H C cl fp => (he s H C cl fp).pe) hs).weak fun _ _ _ h => tD_lc hts h⟩
theorem ds_setLc {np : Nat} {y : Str} {py spos : Pos} (i : Nat) (own : List (Str × Nat)) (hy : X.N[i]? = some y) (hyl : X.env.scope.names.lookup y = some .local) (hk : X.env.scope.kind = .function) (hln : (py.line == pos.line) = true) (hnn : (scope.names.any fun (n, k) => n == y && (k == .local || k == .cell)) = false) (go : Go X W) (hi : DI X W tg iter it) (ok : BlkOk X.N X.env.scope scope own)
  (hg : ∀ (s : Shared) (H : Hp) (C : Addr) (cl : List (Str × Addr)) (fp : List Addr), DG (X.blk s H scope (compEnvC scope cl C X.env) fp) tg ts g) (ht : ∀ (s : Shared) (H : Hp) (C : Addr) (cl : List (Str × Addr)) (fp : List Addr), DTs (X.blk s H scope (compEnvC scope cl C X.env) fp) ifs tt)
  (he : ∀ (s : Shared) (H : Hp) (C : Addr) (cl : List (Str × Addr)) (fp : List Addr), DE (X.blk s H scope (compEnvC scope cl C X.env) fp) WX0 elt te) (hts : ∀ t ∈ ts, t ∈ own.map (·.2) := by decide) (hs : ∀ x, foldedSetIterable iter X.env x = pure x := by intro _; rfl) :
  DS X W np (.Assign [.Name y py] (.ListComp elt [⟨tg, iter, ifs, 0⟩] scope pos) spos) (sSet np i (eLc it g tt te (own.map (·.2)))) :=
 ⟨(ps_setLc (g := tDG X.K ts g) (tt := tDT X.K WX0 tt) (te := tD X.K WX0 te) go.calm go.nd hy hyl (sw_true hk hyl hln hnn) hi.pi ok (fun s H C cl fp => (hg s H C cl fp).pg) (fun s H C cl fp => (ht s H C cl fp).pts) (fun s H C cl fp => (he s H C cl fp).pe) hs).weak fun Dn σ H h => tD_lc hts (tS_set i h)⟩
end
end Dl
namespace Dl
open PySem L2
def lcI (tg : D → List S → Option (List S)) (tt : M Bool) (te : M Rv) (vs : List Nat) : List D → List D → M (List D)
 | [], acc, ρ => some (.ok acc ρ)
 | d :: ds, acc, ρ => match tg d (wipeS ρ vs) with
  | none => none
  | some ρ1 => match tt ρ1 with
   | some (.ok false ρ2) => lcI tg tt te vs ds acc (backS ρ ρ2 vs)
   | some (.ok true ρ2) => match (te >>= toV) ρ2 with
    | some (.ok e ρ3) => if acc.length < sizeLine then lcI tg tt te vs ds (acc ++ [e]) (backS ρ ρ3 vs) else none
    | _ => none
   | _ => none
def lcO (tg : D → List S → Option (List S)) (tt : M Bool) (it1 : M (List D)) (tg1 : D → List S → Option (List S)) (tt1 : M Bool) (te : M Rv) (vs vs1 : List Nat) : List D → List D → M (List D)
 | [], acc, ρ => some (.ok acc ρ)
 | d :: ds, acc, ρ => match tg d (wipeS ρ vs) with
  | none => none
  | some ρ1 => match tt ρ1 with
   | some (.ok false ρ2) => lcO tg tt it1 tg1 tt1 te vs vs1 ds acc (backS ρ ρ2 vs)
   | some (.ok true ρ2) => match it1 ρ2 with
    | some (.ok ds1 ρ3) => if noOwn ρ3 vs1 = true then (match lcI tg1 tt1 te vs1 ds1 acc ρ3 with
     | some (.ok acc' ρ4) => lcO tg tt it1 tg1 tt1 te vs vs1 ds acc' (backS ρ ρ4 vs)
     | _ => none) else none
    | _ => none
   | _ => none
def eLc2 (it : M (List D)) (tg : D → List S → Option (List S)) (tt : M Bool) (it1 : M (List D)) (tg1 : D → List S → Option (List S)) (tt1 : M Bool) (te : M Rv) (vs vs1 : List Nat) : M Rv := do
 let ds ← it
 let acc ← fun ρ => if noOwn ρ vs = true then lcO tg tt it1 tg1 tt1 te vs vs1 ds [] ρ else none
 pure (.own (.lst acc))
section
variable {X : Cx} {W : WX} {elt tg iter tg1 iter1 : Expr} {ifs ifs1 : List Expr} {scope : Scope} {pos : Pos} {it it1 : M (List D)} {g g1 : D → List S → Option (List S)} {tt tt1 : M Bool} {te : M Rv} {ts ts1 : List Nat}
end
end Dl
namespace Dl
open PySem L2
inductive Of where
 | ret (r : Rv) (ss : List S) | ex (e : Xn) (ss : List S)
abbrev Fn : Type := List S → Option Of
def FPo (K : PySem.W.Frag) (c : Cn) (vs : List V) (G : Hp) (Q : VK) (E : XK) : Of → Prop
 | .ret r ss' => ∀ v G' H', Rst K c G' H' (vs.map some) ss' → Same G G' → RpR K c G' H' (vs.map some) ss' v r → Q v H'
 | .ex e ss' => ∀ cls d G' H', Rst K c G' H' (vs.map some) ss' → Same G G' → XAt K G' H' e cls d → E cls d H'
def spD (K : PySem.W.Frag) (np : Nat) (fn : Fn) : Sp := fun vs H Q E => ∃ c G ss o, vs.length = np ∧ c.s0 = vs.map some ∧ Rst K c G H (vs.map some) ss ∧ fn ss = some o ∧ FPo K c vs G Q E o
def post : List S → List S → List S
 | [], _ => []
 | .own _ :: ss, .own d :: ρ => .own d :: post ss ρ
 | .own _ :: ss, _ :: ρ => .no :: post ss ρ
 | s :: ss, _ :: ρ => s :: post ss ρ
 | _ :: ss, [] => .no :: post ss []
def mkFn (np n : Nat) (f : MS) : Fn := fun ss => if ss.length = np then
  match f (ss ++ List.replicate (n - np) .no) with
  | some (.nx ρ') => some (.ret (.val .non) (post ss ρ'))
  | some (.rt (.ali _) _) => none
  | some (.rt r ρ') => some (.ret r (post ss ρ'))
  | some (.ex e ρ') => some (.ex e (post ss ρ'))
  | _ => none
 else none
theorem post_length : ∀ (ss ρ : List S), (post ss ρ).length = ss.length
 | [], _ => rfl
 | .own _ :: ss, .own d :: ρ => by unfold post; rw [List.length_cons, List.length_cons, post_length ss ρ]
 | .own _ :: ss, .no :: ρ => by unfold post; rw [List.length_cons, List.length_cons, post_length ss ρ]
 | .own _ :: ss, .val _ :: ρ => by unfold post; rw [List.length_cons, List.length_cons, post_length ss ρ]
 | .no :: ss, _ :: ρ => by unfold post; rw [List.length_cons, List.length_cons, post_length ss ρ]
 | .val _ :: ss, _ :: ρ => by unfold post; rw [List.length_cons, List.length_cons, post_length ss ρ]
 | .own _ :: ss, [] => by unfold post; rw [List.length_cons, List.length_cons, post_length ss []]
 | .no :: ss, [] => by unfold post; rw [List.length_cons, List.length_cons, post_length ss []]
 | .val _ :: ss, [] => by unfold post; rw [List.length_cons, List.length_cons, post_length ss []]
theorem post_own : ∀ {ss ρ : List S} {i : Nat} {d : D}, (post ss ρ)[i]? = some (.own d) → ρ[i]? = some (.own d) ∧ i < ss.length
 | [], _, _, _, h => by unfold post at h; cases h
 | .own _ :: ss, .own e :: ρ, 0, d, h => by unfold post at h; exact ⟨h, Nat.succ_pos _⟩
 | .own _ :: ss, .own e :: ρ, i + 1, d, h => by unfold post at h; obtain ⟨h1, h2⟩ := post_own (show (post ss ρ)[i]? = _ from h); exact ⟨h1, Nat.succ_lt_succ h2⟩
 | .own _ :: ss, .no :: ρ, 0, d, h => by unfold post at h; cases h
 | .own _ :: ss, .no :: ρ, i + 1, d, h => by unfold post at h; obtain ⟨h1, h2⟩ := post_own (show (post ss ρ)[i]? = _ from h); exact ⟨h1, Nat.succ_lt_succ h2⟩
 | .own _ :: ss, .val _ :: ρ, 0, d, h => by unfold post at h; cases h
 | .own _ :: ss, .val _ :: ρ, i + 1, d, h => by unfold post at h; obtain ⟨h1, h2⟩ := post_own (show (post ss ρ)[i]? = _ from h); exact ⟨h1, Nat.succ_lt_succ h2⟩
 | .no :: ss, _ :: ρ, 0, d, h => by unfold post at h; cases h
 | .no :: ss, _ :: ρ, i + 1, d, h => by unfold post at h; obtain ⟨h1, h2⟩ := post_own (show (post ss ρ)[i]? = _ from h); exact ⟨h1, Nat.succ_lt_succ h2⟩
 | .val _ :: ss, _ :: ρ, 0, d, h => by unfold post at h; cases h
 | .val _ :: ss, _ :: ρ, i + 1, d, h => by unfold post at h; obtain ⟨h1, h2⟩ := post_own (show (post ss ρ)[i]? = _ from h); exact ⟨h1, Nat.succ_lt_succ h2⟩
 | .own _ :: ss, [], 0, d, h => by unfold post at h; cases h
 | .own _ :: ss, [], i + 1, d, h => by unfold post at h; obtain ⟨h1, h2⟩ := post_own (show (post ss [])[i]? = _ from h); cases h1
 | .no :: ss, [], 0, d, h => by unfold post at h; cases h
 | .no :: ss, [], i + 1, d, h => by unfold post at h; obtain ⟨h1, h2⟩ := post_own (show (post ss [])[i]? = _ from h); cases h1
 | .val _ :: ss, [], 0, d, h => by unfold post at h; cases h
 | .val _ :: ss, [], i + 1, d, h => by unfold post at h; obtain ⟨h1, h2⟩ := post_own (show (post ss [])[i]? = _ from h); cases h1
theorem post_val : ∀ {ss ρ : List S} {i : Nat} {d : D}, (post ss ρ)[i]? = some (.val d) → ss[i]? = some (.val d)
 | [], _, _, _, h => by unfold post at h; cases h
 | .own _ :: ss, .own e :: ρ, 0, d, h => by unfold post at h; cases h
 | .own _ :: ss, .own e :: ρ, i + 1, d, h => by unfold post at h; show ss[i]? = _; exact post_val (show (post ss ρ)[i]? = _ from h)
 | .own _ :: ss, .no :: ρ, 0, d, h => by unfold post at h; cases h
 | .own _ :: ss, .no :: ρ, i + 1, d, h => by unfold post at h; show ss[i]? = _; exact post_val (show (post ss ρ)[i]? = _ from h)
 | .own _ :: ss, .val _ :: ρ, 0, d, h => by unfold post at h; cases h
 | .own _ :: ss, .val _ :: ρ, i + 1, d, h => by unfold post at h; show ss[i]? = _; exact post_val (show (post ss ρ)[i]? = _ from h)
 | .no :: ss, _ :: ρ, 0, d, h => by unfold post at h; cases h
 | .no :: ss, _ :: ρ, i + 1, d, h => by unfold post at h; show ss[i]? = _; exact post_val (show (post ss ρ)[i]? = _ from h)
 | .val _ :: ss, _ :: ρ, 0, d, h => by unfold post at h; exact h
 | .val _ :: ss, _ :: ρ, i + 1, d, h => by unfold post at h; show ss[i]? = _; exact post_val (show (post ss ρ)[i]? = _ from h)
 | .own _ :: ss, [], 0, d, h => by unfold post at h; cases h
 | .own _ :: ss, [], i + 1, d, h => by unfold post at h; show ss[i]? = _; exact post_val (show (post ss [])[i]? = _ from h)
 | .no :: ss, [], 0, d, h => by unfold post at h; cases h
 | .no :: ss, [], i + 1, d, h => by unfold post at h; show ss[i]? = _; exact post_val (show (post ss [])[i]? = _ from h)
 | .val _ :: ss, [], 0, d, h => by unfold post at h; cases h
 | .val _ :: ss, [], i + 1, d, h => by unfold post at h; show ss[i]? = _; exact post_val (show (post ss [])[i]? = _ from h)
section
variable {K : PySem.W.Frag} {c : Cn} {G G' H H' : Hp} {σ σ' : L2.St} {ρ ρ' ss : List S} {vs : List V}
theorem Rst.ext (R : Rst K c G H σ ρ) (k : Nat) : Rst K c G H (σ ++ List.replicate k none) (ρ ++ List.replicate k .no) := by
 have get : ∀ {j : Nat} {s : S}, (ρ ++ List.replicate k .no)[j]? = some s → s ≠ .no → ρ[j]? = some s ∧ (σ ++ List.replicate k none)[j]? = σ[j]? := fun {j s} h n => by
  by_cases hj : j < ρ.length
  · rw [List.getElem?_append_left hj] at h
    exact ⟨h, List.getElem?_append_left (R.len ▸ hj)⟩
  · rw [List.getElem?_append_right (by omega), List.getElem?_replicate] at h
    split at h
    · exact absurd (Option.some.inj h).symm n
    · cases h
 refine ⟨R.fh, R.gh, R.fg, by rw [List.length_append, List.length_append, List.length_replicate, List.length_replicate, R.len], fun j d h => ?_, fun j d h => ?_, fun j i d e a h1 h2 r1 r2 => ?_, fun j d h hl => ?_⟩
 · obtain ⟨h1, h2⟩ := get h (by intro z; cases z)
   rw [h2]; exact R.val j d h1
 · obtain ⟨h1, h2⟩ := get h (by intro z; cases z)
   rw [h2]; exact R.own j d h1
 · obtain ⟨k1, k2⟩ := get h1 (by intro z; cases z)
   obtain ⟨k3, k4⟩ := get h2 (by intro z; cases z)
   rw [k2] at r1
   rw [k4] at r2
   exact R.ne j i d e a k1 k3 r1 r2
 · obtain ⟨h1, h2⟩ := get h (by intro z; cases z)
   rw [h2]; exact R.par j d h1 hl
theorem Rst.posted (R0 : Rst K c G H (vs.map some) ss) (hs : c.s0 = vs.map some) (s : Same G G') (R : Rst K c G' H' σ' ρ') : Rst K c G' H' (vs.map some) (post ss ρ') := by
 have hlen : ss.length = vs.length := by rw [R0.len, List.length_map]
 have sl : c.s0.length = vs.length := by rw [hs, List.length_map]
 have same : ∀ {j : Nat} {d : D}, (post ss ρ')[j]? = some (.own d) → ρ'[j]? = some (.own d) ∧ σ'[j]? = (vs.map some)[j]? := fun {j d} h => by
  obtain ⟨h1, h2⟩ := post_own h
  exact ⟨h1, by rw [R.par j d h1 (by omega), hs]⟩
 refine ⟨R.fh, R.gh, R.fg, by rw [post_length, R0.len], fun j d h => ?_, fun j d h => ?_, fun j i d e a h1 h2 r1 r2 => ?_, fun j d h hl => by rw [hs]⟩
 · obtain ⟨v, h1, h2⟩ := R0.val j d (post_val h)
   exact ⟨v, h1, h2.mono s⟩
 · obtain ⟨h1, h2⟩ := same h
   rw [← h2]; exact R.own j d h1
 · obtain ⟨k1, k2⟩ := same h1
   obtain ⟨k3, k4⟩ := same h2
   rw [← k2] at r1
   rw [← k4] at r2
   exact R.ne j i d e a k1 k3 r1 r2
theorem RpR.posted {v : V} {r : Rv} (R0 : Rst K c G H (vs.map some) ss) (hs : c.s0 = vs.map some) (R : Rst K c G' H' σ' ρ') (na : ∀ i, r ≠ .ali i) (h : RpR K c G' H' σ' ρ' v r) : RpR K c G' H' (vs.map some) (post ss ρ') v r := by
 cases r with
 | val d => exact h
 | ali i => exact absurd rfl (na i)
 | own d =>
  obtain ⟨a, h1, h2, h3, h4, h5⟩ := h
  refine ⟨a, h1, h2, h3, h4, fun j e q z => ?_⟩
  obtain ⟨k1, k2⟩ := post_own q
  have hlen : ss.length = vs.length := by rw [R0.len, List.length_map]
  have sl : c.s0.length = vs.length := by rw [hs, List.length_map]
  refine h5 j e k1 ?_
  rw [R.par j e k1 (by omega), hs]; exact z
end
abbrev WB (E : XK) : WX := fun cls d _ H => E cls d H
section
variable {P : Program} {w : World} {K : PySem.W.Frag} {mg : Str → Option Value} {base : Heap} {x qual : Str} {params : Arguments} {body : List Stmt} {scope : Scope} {dvs : List V} {kws : List (Str × V)} {f : Addr} {fd : FuncData}
theorem fn_data {N ps : List Str} {k : Nat} {fb : MS} (F : FunD K x qual params body scope dvs kws f fd) (S : FnScope N ps scope)
  (hb : ∀ (cdv : Value) (A : Around) (outer : List Env) (s : Shared) (H : Hp) (E : XK), Room k (A.deeper (PyProof.Rows.envOfC qual scope s.heap.objs.size f cdv)) → DL (cxOf (L2.CX P w) P w K mg base N qual scope f cdv A outer s H E) (WB E) ps.length body fb) :
  FnOk P w K mg base (L2.CX P w) (k + 1) f fd ps (spD K ps.length (mkFn ps.length N.length fb)) := by
 refine F.ok S (fun vs H Q E h => ?_) fun cdv A outer s H vs Q E hr h => ⟨_, (hb cdv A outer s H E hr).pss, ?_⟩
 · obtain ⟨c, G, ss, o, hl, _⟩ := h
   exact hl
 · obtain ⟨c, G, ss, o, hl, hs, R, e, po⟩ := h
   unfold mkFn at e
   have hsl : ss.length = ps.length := by rw [R.len, List.length_map, hl]
   rw [if_pos hsl] at e
   have R1 := R.ext (N.length - ps.length)
   have est : L2.start N vs = vs.map some ++ List.replicate (N.length - ps.length) none := by unfold L2.start; rw [hl]
   rw [est]
   cases q : fb (ss ++ List.replicate (N.length - ps.length) .no) with
   | none => rw [q] at e; cases e
   | some os =>
    rw [q] at e
    refine ⟨c, G, _, os, by rw [hs, List.length_map, hl], R1, q, ?_⟩
    cases os with
    | nx ρ' =>
     cases e
     exact fun σ' G' H' R' s' => po .non G' H' (R.posted hs s' R') s' rfl
    | bk ρ' => cases e
    | ct ρ' => cases e
    | rt r ρ' =>
     cases r with
     | ali i => cases e
     | val d => cases e; exact fun v σ' G' H' R' s' k => po v G' H' (R.posted hs s' R') s' (RpR.posted R hs R' (fun i z => nomatch z) k)
     | own d => cases e; exact fun v σ' G' H' R' s' k => po v G' H' (R.posted hs s' R') s' (RpR.posted R hs R' (fun i z => nomatch z) k)
    | ex x ρ' => cases e; exact fun cls d σ' G' H' R' s' xa => po cls d G' H' (R.posted hs s' R') s' xa
theorem go_def {CX : CXT} {N : List Str} {k : Nat} {cdv : Value} {A : Around} {outer : List Env} {s : Shared} {H : Hp} {E : XK} (hN : N.Nodup) (hr : Room k (A.deeper (PyProof.Rows.envOfC qual scope s.heap.objs.size f cdv))) :
  Go (cxOf (L2.CX P w) P w K mg base N qual scope f cdv A outer s H E) (WB E) :=
 ⟨takes_of rfl rfl rfl rfl, passes_of rfl, rfl, hN, by have h := hr.un; show (A.deeper (PyProof.Rows.envOfC qual scope s.heap.objs.size f cdv)).units + 65 < cLine; omega⟩
end
theorem Go.blk {X : Cx} {W : WX} (go : Go X W) {s : Shared} {H : Hp} {scope : Scope} {C : Addr} {cl : List (Str × Addr)} {fp : List Addr} : Go (X.blk s H scope (compEnvC scope cl C X.env) fp) WX0 :=
 ⟨takes0, PassesOwn.never, go.calm, go.nd, go.rm⟩
end Dl
namespace Dl
open PySem L2
def prep : List Bool → List Rv → M (List Rv)
 | _, [] => pure []
 | true :: ms, r :: rs => do
  let rs' ← prep ms rs
  pure (r :: rs')
 | ms, r :: rs => do
  let d ← toV r
  let rs' ← prep ms.tail rs
  pure (.val d :: rs')
def ssOf (ρ : List S) : Rv → Option S
 | .val d => some (.val d)
 | .ali i => match ρ[i]? with
  | some (.val d) => some (.val d)
  | some (.own d) => some (.own d)
  | _ => none
 | .own _ => none
def ssOfs (ρ : List S) : List Rv → Option (List S)
 | [] => some []
 | r :: rs => match ssOf ρ r, ssOfs ρ rs with
  | some s, some ss => some (s :: ss)
  | _, _ => none
def isAli (i : Nat) : Rv → Bool
 | .ali j => i == j
 | _ => false
def dist : List Rv → Bool
 | [] => true
 | .ali i :: rs => !rs.any (isAli i) && dist rs
 | _ :: rs => dist rs
def noAli : List Rv → Bool
 | [] => true
 | .ali _ :: _ => false
 | _ :: rs => noAli rs
def ownOr (s : S) : S := match s with
 | .own d => .own d
 | _ => .no
def back1 (i : Nat) (s : S) (ρ : List S) : List S := if isOwn ρ[i]? = true then ρ.set i (ownOr s) else ρ
def back : List Rv → List S → List S → List S
 | .ali i :: rs, s :: ss, ρ => back rs ss (back1 i s ρ)
 | .val _ :: rs, _ :: ss, ρ => back rs ss ρ
 | .own _ :: rs, _ :: ss, ρ => back rs ss ρ
 | _, _, ρ => ρ
def scaD : D → Bool
 | .non => true
 | .bl _ => true
 | .int _ => true
 | .str _ => true
 | _ => false
def scaR : Rv → Bool
 | .val d => scaD d
 | _ => false
def callM (mu : List Bool) (fn : Fn) (rs : List Rv) : M Rv := fun ρ => match prep mu rs ρ with
 | some (.ok rs' ρ1) => if dist rs' = true then (match ssOfs ρ1 rs' with
  | some ss => (match fn ss with
   | some (.ret q ss') => if (noAli rs' && scaR q) = true then some (.ok q ρ) else (match q with
    | .ali _ => none
    | q => some (.ok q (back rs' ss' ρ1)))
   | some (.ex e ss') => some (.ex e (back rs' ss' ρ1))
   | none => none)
  | none => none) else none
 | _ => none
section
variable {K : PySem.W.Frag} {c : Cn} {G G' H H' : Hp} {σ : L2.St} {ρ ρ' ss ss' : List S} {vs : List V} {rs : List Rv}
theorem prep_wp : ∀ {ms : List Bool} {rs : List Rv} {vs : List V} {G : Hp} {ρ : List S} {OK : List Rv → List S → Prop} {EX : Xn → List S → Prop}, Rst K c G H σ ρ → RpRs K G σ vs rs → wpM (prep ms rs ρ) OK EX →
  ∃ rs' G' ρ', Same G G' ∧ Rst K c G' H σ ρ' ∧ RpRs K G' σ vs rs' ∧ OK rs' ρ'
 | ms, [], vs, G, ρ, OK, EX, R, h, w => by
  have w : wpM ((pure [] : M (List Rv)) ρ) OK EX := by cases ms <;> first | exact w | (rename_i b _; cases b <;> exact w)
  exact ⟨[], G, ρ, Same.refl G, R, h, w⟩
 | true :: ms, r :: rs, vs, G, ρ, OK, EX, R, h, w => by
  obtain ⟨v, vs', rfl, h1, h2⟩ := h.cons_of
  obtain ⟨rs', G', ρ', s, R', k, w2⟩ := prep_wp R h2 (wpM_bind w)
  exact ⟨r :: rs', G', ρ', s, R', RpRs.cons (h1.mono s) k, w2⟩
 | false :: ms, r :: rs, vs, G, ρ, OK, EX, R, h, w => by
  obtain ⟨v, vs', rfl, h1, h2⟩ := h.cons_of
  obtain ⟨d, G1, ρ1, s1, R1, k1, w1⟩ := toV_wp R h1.one (wpM_bind w)
  obtain ⟨rs', G', ρ', s, R', k, w2⟩ := prep_wp R1 (h2.mono s1) (wpM_bind w1)
  exact ⟨.val d :: rs', G', ρ', s1.trans s, R', ⟨k1.mono s, k⟩, w2⟩
 | [], r :: rs, vs, G, ρ, OK, EX, R, h, w => by
  obtain ⟨v, vs', rfl, h1, h2⟩ := h.cons_of
  obtain ⟨d, G1, ρ1, s1, R1, k1, w1⟩ := toV_wp R h1.one (wpM_bind w)
  obtain ⟨rs', G', ρ', s, R', k, w2⟩ := prep_wp (ms := []) R1 (h2.mono s1) (wpM_bind w1)
  exact ⟨.val d :: rs', G', ρ', s1.trans s, R', ⟨k1.mono s, k⟩, w2⟩
theorem dargs_get : ∀ {rs : List Rv} {vs : List V} {ss : List S}, RpRs K G σ vs rs → ssOfs ρ rs = some ss → ss.length = vs.length ∧ rs.length = vs.length ∧ ∀ (j : Nat) (v : V), vs[j]? = some v →
  ∃ r s, rs[j]? = some r ∧ ss[j]? = some s ∧ ssOf ρ r = some s ∧ RpRs K G σ [v] [r]
 | [], vs, ss, h, e => by
  have e1 := h.nil_of
  subst e1
  cases e
  exact ⟨rfl, rfl, fun j v z => by cases z⟩
 | r :: rs, vs, ss, h, e => by
  obtain ⟨v, vs', rfl, h1, h2⟩ := h.cons_of
  unfold ssOfs at e
  cases e1 : ssOf ρ r with
  | none => rw [e1] at e; cases e
  | some s =>
   cases e2 : ssOfs ρ rs with
   | none => rw [e1, e2] at e; cases e
   | some ss2 =>
    rw [e1, e2] at e
    cases e
    obtain ⟨l1, l2, k⟩ := dargs_get h2 e2
    refine ⟨by rw [List.length_cons, List.length_cons, l1], by rw [List.length_cons, List.length_cons, l2], fun j u z => ?_⟩
    cases j with
    | zero => cases z; exact ⟨r, s, rfl, rfl, e1, h1⟩
    | succ j => exact k j u z
theorem dist_ne : ∀ {rs : List Rv} {i j k : Nat}, dist rs = true → rs[j]? = some (.ali i) → rs[k]? = some (.ali i) → j = k
 | [], _, _, _, _, h, _ => by cases h
 | r :: rs, i, 0, 0, _, _, _ => rfl
 | r :: rs, i, 0, k + 1, d, h, h' => by
  cases h
  obtain ⟨d1, _⟩ := Bool.and_eq_true_iff.mp (show (!rs.any (isAli i) && dist rs) = true from d)
  exfalso
  have hm : Rv.ali i ∈ rs := List.mem_of_getElem? (show rs[k]? = _ from h')
  have : rs.any (isAli i) = true := List.any_eq_true.mpr ⟨_, hm, by simp [isAli]⟩
  rw [this] at d1; cases d1
 | r :: rs, i, j + 1, 0, d, h, h' => by
  cases h'
  obtain ⟨d1, _⟩ := Bool.and_eq_true_iff.mp (show (!rs.any (isAli i) && dist rs) = true from d)
  exfalso
  have hm : Rv.ali i ∈ rs := List.mem_of_getElem? (show rs[j]? = _ from h)
  have : rs.any (isAli i) = true := List.any_eq_true.mpr ⟨_, hm, by simp [isAli]⟩
  rw [this] at d1; cases d1
 | r :: rs, i, j + 1, k + 1, d, h, h' => by
  have d2 : dist rs = true := by
   cases r with
   | ali n => exact (Bool.and_eq_true_iff.mp (show (!rs.any (isAli n) && dist rs) = true from d)).2
   | val n => exact d
   | own n => exact d
  rw [dist_ne d2 (show rs[j]? = _ from h) (show rs[k]? = _ from h')]
theorem noAli_not : ∀ {rs : List Rv} {i j : Nat}, noAli rs = true → rs[j]? ≠ some (.ali i)
 | [], _, _, _, h => by cases h
 | .ali n :: rs, _, _, d, _ => by cases d
 | .val n :: rs, i, 0, d, h => by cases h
 | .val n :: rs, i, j + 1, d, h => noAli_not (show noAli rs = true from d) (show rs[j]? = _ from h)
 | .own n :: rs, i, 0, d, h => by cases h
 | .own n :: rs, i, j + 1, d, h => noAli_not (show noAli rs = true from d) (show rs[j]? = _ from h)
theorem back1_get {i : Nat} {s : S} {k : Nat} {t : S} (h : (back1 i s ρ)[k]? = some t) : (k ≠ i ∧ ρ[k]? = some t) ∨ (k = i ∧ isOwn ρ[i]? = true ∧ (t = .no ∨ ∃ d : D, t = .own d ∧ s = .own d)) ∨ (k = i ∧ isOwn ρ[i]? = false ∧ ρ[k]? = some t) := by
 unfold back1 at h
 split at h
 · rename_i ho
   rcases set_cases h with ⟨e1, _, e2⟩ | ⟨e1, e2⟩
   · refine .inr (.inl ⟨e1, ho, ?_⟩)
     cases s with
     | own d => exact .inr ⟨d, e2, rfl⟩
     | no => exact .inl e2
     | val d => exact .inl e2
   · exact .inl ⟨e1, e2⟩
 · rename_i ho
   by_cases hk : k = i
   · exact .inr (.inr ⟨hk, by simpa using ho, h⟩)
   · exact .inl ⟨hk, h⟩
theorem back1_length {i : Nat} {s : S} : (back1 i s ρ).length = ρ.length := by
 unfold back1
 split
 · rw [List.length_set]
 · rfl
theorem back_length : ∀ {rs : List Rv} {ss ρ : List S}, (back rs ss ρ).length = ρ.length
 | .ali i :: rs, s :: ss, ρ => by unfold back; rw [back_length, back1_length]
 | .val _ :: rs, _ :: ss, ρ => by unfold back; exact back_length
 | .own _ :: rs, _ :: ss, ρ => by unfold back; exact back_length
 | [], _, ρ => rfl
 | .ali i :: rs, [], ρ => rfl
 | .val _ :: rs, [], ρ => rfl
 | .own _ :: rs, [], ρ => rfl
theorem back_get : ∀ {rs : List Rv} {ss ρ : List S} {k : Nat} {t : S}, (back rs ss ρ)[k]? = some t → t ≠ .no →
  (ρ[k]? = some t ∧ ((∃ d, t = .val d) ∨ ∀ j : Nat, j < ss.length → rs[j]? ≠ some (.ali k))) ∨ ∃ (j : Nat) (d : D), t = .own d ∧ rs[j]? = some (.ali k) ∧ ss[j]? = some (.own d) ∧ ∃ e, ρ[k]? = some (.own e)
 | .ali i :: rs, s :: ss, ρ, k, t, h, n => by
  unfold back at h
  rcases back_get h n with ⟨h1, h2⟩ | ⟨j, d, h1, h2, h3, e, h4⟩
  · rcases back1_get h1 with ⟨hk, h3⟩ | ⟨hk, ho, h3⟩ | ⟨hk, ho, h3⟩
    · refine .inl ⟨h3, ?_⟩
      rcases h2 with h2 | h2
      · exact .inl h2
      · refine .inr fun j hj z => ?_
        cases j with
        | zero => cases z; exact hk rfl
        | succ j => exact h2 j (Nat.lt_of_succ_lt_succ hj) z
    · rcases h3 with h3 | ⟨d, h3, h4⟩
      · exact absurd h3 n
      · subst hk
        refine .inr ⟨0, d, h3, rfl, by rw [h4]; rfl, ?_⟩
        cases q : ρ[k]? with
        | none => rw [q] at ho; cases ho
        | some x => rw [q] at ho; cases x with
         | own e => exact ⟨e, rfl⟩
         | no => cases ho
         | val e => cases ho
    · refine .inl ⟨h3, .inl ?_⟩
      subst hk
      cases t with
      | val d => exact ⟨d, rfl⟩
      | no => exact absurd rfl n
      | own d => rw [h3] at ho; cases ho
  · refine .inr ⟨j + 1, d, h1, h2, h3, ?_⟩
    rcases back1_get h4 with ⟨hk, h5⟩ | ⟨hk, ho, h5⟩ | ⟨hk, ho, h5⟩
    · exact ⟨e, h5⟩
    · subst hk
      cases q : ρ[k]? with
      | none => rw [q] at ho; cases ho
      | some x => rw [q] at ho; cases x with
       | own e => exact ⟨e, rfl⟩
       | no => cases ho
       | val e => cases ho
    · exact ⟨e, h5⟩
 | .val _ :: rs, _ :: ss, ρ, k, t, h, n => by
  unfold back at h
  rcases back_get h n with ⟨h1, h2⟩ | ⟨j, d, h1, h2, h3, h4⟩
  · refine .inl ⟨h1, ?_⟩
    rcases h2 with h2 | h2
    · exact .inl h2
    · refine .inr fun j hj z => ?_
      cases j with
      | zero => cases z
      | succ j => exact h2 j (Nat.lt_of_succ_lt_succ hj) z
  · exact .inr ⟨j + 1, d, h1, h2, h3, h4⟩
 | .own _ :: rs, _ :: ss, ρ, k, t, h, n => by
  unfold back at h
  rcases back_get h n with ⟨h1, h2⟩ | ⟨j, d, h1, h2, h3, h4⟩
  · refine .inl ⟨h1, ?_⟩
    rcases h2 with h2 | h2
    · exact .inl h2
    · refine .inr fun j hj z => ?_
      cases j with
      | zero => cases z
      | succ j => exact h2 j (Nat.lt_of_succ_lt_succ hj) z
  · exact .inr ⟨j + 1, d, h1, h2, h3, h4⟩
 | [], ss, ρ, k, t, h, n => .inl ⟨h, .inr fun j _ z => by cases z⟩
 | .ali i :: rs, [], ρ, k, t, h, n => .inl ⟨h, .inr fun j hj => absurd hj (Nat.not_lt_zero _)⟩
 | .val i :: rs, [], ρ, k, t, h, n => .inl ⟨h, .inr fun j hj => absurd hj (Nat.not_lt_zero _)⟩
 | .own i :: rs, [], ρ, k, t, h, n => .inl ⟨h, .inr fun j hj => absurd hj (Nat.not_lt_zero _)⟩
def Handed (σ : L2.St) (ρ : List S) (H : Hp) (rs : List Rv) (x : Addr) : Prop := ∃ (j i : Nat) (d : D) (a : Addr), rs[j]? = some (.ali i) ∧ ρ[i]? = some (.own d) ∧ σ[i]? = some (some (.ref a)) ∧ (x = a ∨ ∃ C fs, H a = some (.ins C x fs))
open Classical in
noncomputable def calleeF (σ : L2.St) (ρ : List S) (G H : Hp) (rs : List Rv) : Hp := fun x => if (∃ o, G x = some o) ∨ Handed σ ρ H rs x then none else H x
theorem calleeF_some {x : Addr} {o : HO} (h : calleeF σ ρ G H rs x = some o) : G x = none ∧ ¬ Handed σ ρ H rs x ∧ H x = some o := by
 unfold calleeF at h
 split at h
 · cases h
 · rename_i hn
   refine ⟨?_, fun z => hn (.inr z), h⟩
   cases q : G x with
   | none => rfl
   | some u => exact absurd (.inl ⟨u, q⟩) hn
theorem calleeF_of {x : Addr} {o : HO} (h1 : G x = none) (h2 : ¬ Handed σ ρ H rs x) (h3 : H x = some o) : calleeF σ ρ G H rs x = some o := by
 unfold calleeF
 rw [if_neg (fun z => by
  rcases z with ⟨u, z⟩ | z
  · rw [h1] at z; cases z
  · exact h2 z)]
 exact h3
theorem handed_f (R : Rst K c G H σ ρ) {x : Addr} (h : Handed σ ρ H rs x) : c.F x = none := by
 obtain ⟨j, i, d, a, h1, h2, h3, h4⟩ := h
 obtain ⟨a', k1, k2, k3, k4⟩ := R.own i d h2
 rw [h3] at k1; cases k1
 rcases h4 with rfl | ⟨C, fs, h4⟩
 · exact k3
 · cases d with
   | lst ds => obtain ⟨xs, q, _⟩ := k4; rw [h4] at q; cases q
   | dic ks vs => obtain ⟨xs, q, _⟩ := k4; rw [h4] at q; cases q
   | ndi ks vs => obtain ⟨xs, q, _⟩ := k4; rw [h4] at q; cases q
   | obj cc ns ds => obtain ⟨dx, xs, q1, q2, q3, q4, _⟩ := k4; rw [h4] at q1; cases q1; exact q4
   | _ => exact k4.elim
theorem frame_in (R : Rst K c G H σ ρ) {x : Addr} {o : HO} (h : c.F x = some o) : calleeF σ ρ G H rs x = some o :=
 calleeF_of (R.fg _ _ h) (fun z => by rw [handed_f R z] at h; cases h) (R.fh _ _ h)
theorem own_in (R : Rst K c G H σ ρ) {k : Nat} {d : D} {a : Addr} (h : ρ[k]? = some (.own d)) (hs : σ[k]? = some (some (.ref a))) (n : ∀ j : Nat, rs[j]? ≠ some (.ali k)) : ∃ o, calleeF σ ρ G H rs a = some o ∧ ∀ b, H b = some (.own a) → G b = none → calleeF σ ρ G H rs b = some (.own a) := by
 obtain ⟨a', k1, k2, k3, k4⟩ := R.own k d h
 rw [hs] at k1; cases k1
 obtain ⟨o, ho, hno⟩ := k4.at
 refine ⟨o, calleeF_of k2 (fun ⟨j, i, e, b, h1, h2, h3, h4⟩ => ?_) ho, fun b hb gb => calleeF_of gb (fun ⟨j, i, e, b', h1, h2, h3, h4⟩ => ?_) hb⟩
 · rcases h4 with rfl | ⟨C, fs, h4⟩
   · exact n j (by rw [h1, R.ne i k e d a h2 h h3 hs])
   · obtain ⟨b', q1, q2, q3, q4⟩ := R.own i e h2
     rw [h3] at q1; cases q1
     cases e with
     | lst ds => obtain ⟨xs, z, _⟩ := q4; rw [h4] at z; cases z
     | dic ks vs => obtain ⟨xs, z, _⟩ := q4; rw [h4] at z; cases z
     | ndi ks vs => obtain ⟨xs, z, _⟩ := q4; rw [h4] at z; cases z
     | obj cc ns ds =>
      obtain ⟨dx, xs, z1, z2, _⟩ := q4
      rw [h4] at z1; cases z1
      rw [ho] at z2; exact hno b (Option.some.inj z2)
     | _ => exact q4.elim
 · obtain ⟨b2, q1, q2, q3, q4⟩ := R.own i e h2
   rw [h3] at q1; cases q1
   rcases h4 with rfl | ⟨C, fs, h4⟩
   · obtain ⟨o2, ho2, hno2⟩ := q4.at
     rw [hb] at ho2; exact hno2 a (Option.some.inj ho2).symm
   · cases e with
     | lst ds => obtain ⟨xs, z, _⟩ := q4; rw [h4] at z; cases z
     | dic ks vs => obtain ⟨xs, z, _⟩ := q4; rw [h4] at z; cases z
     | ndi ks vs => obtain ⟨xs, z, _⟩ := q4; rw [h4] at z; cases z
     | obj cc ns ds =>
      obtain ⟨dx, xs, z1, z2, _⟩ := q4
      rw [h4] at z1; cases z1
      rw [hb] at z2; cases z2
      exact n j (by rw [h1, R.ne i k (.obj cc ns ds) d a h2 h h3 hs])
     | _ => exact q4.elim
theorem ow_frame {F F' : Hp} {a : Addr} {d : D} (h : Ow K F G H a d) (le : ∀ x o, F' x = some o → F x = some o) : Ow K F' G H a d := h.fmono fun b _ fb => by
 cases q : F' b with
 | none => rfl
 | some o => rw [le b o q] at fb; cases fb
theorem Rst.callee (R : Rst K c G H σ ρ) (hv : RpRs K G σ vs rs) (hd : dist rs = true) (hs : ssOfs ρ rs = some ss) : Rst K ⟨calleeF σ ρ G H rs, vs.map some⟩ G H (vs.map some) ss := by
 obtain ⟨l1, l2, get⟩ := dargs_get hv hs
 have gets : ∀ {j : Nat} {s : S}, ss[j]? = some s → ∃ v r, vs[j]? = some v ∧ rs[j]? = some r ∧ ssOf ρ r = some s ∧ RpRs K G σ [v] [r] := fun {j s} h => by
  have hj : j < vs.length := by
   have := (List.getElem?_eq_some_iff.mp h).1
   omega
  obtain ⟨r, s', k1, k2, k3, k4⟩ := get j vs[j] (List.getElem?_eq_getElem hj)
  rw [h] at k2; cases k2
  exact ⟨vs[j], r, List.getElem?_eq_getElem hj, k1, k3, k4⟩
 have own : ∀ {j : Nat} {d : D}, ss[j]? = some (.own d) → ∃ (i : Nat) (a : Addr), rs[j]? = some (.ali i) ∧ ρ[i]? = some (.own d) ∧ σ[i]? = some (some (.ref a)) ∧ vs[j]? = some (.ref a) := fun {j d} h => by
  obtain ⟨v, r, k1, k2, k3, k4⟩ := gets h
  cases r with
  | val e => cases k3
  | own e => cases k3
  | ali i =>
   unfold ssOf at k3
   dsimp only at k3
   cases q : ρ[i]? with
   | none => rw [q] at k3; cases k3
   | some x =>
    rw [q] at k3
    cases x with
    | no => cases k3
    | val e => cases k3
    | own e =>
     cases k3
     obtain ⟨a, m1, _⟩ := R.own i _ q
     have m2 : σ[i]? = some (some v) := k4.1
     rw [m1] at m2; cases m2
     exact ⟨i, a, k2, q, m1, k1⟩
 refine ⟨fun x o h => (calleeF_some h).2.2, R.gh, fun x o h => (calleeF_some h).1, by rw [List.length_map, l1], fun j d h => ?_, fun j d h => ?_, fun j k d e a h1 h2 r1 r2 => ?_, fun j d h hl => rfl⟩
 · obtain ⟨v, r, k1, k2, k3, k4⟩ := gets h
   refine ⟨v, by rw [List.getElem?_map, k1]; rfl, ?_⟩
   cases r with
   | val e => cases k3; exact k4.1
   | own e => cases k3
   | ali i =>
    unfold ssOf at k3
    dsimp only at k3
    cases q : ρ[i]? with
    | none => rw [q] at k3; cases k3
    | some x =>
     rw [q] at k3
     cases x with
     | no => cases k3
     | own e => cases k3
     | val e =>
      cases k3
      obtain ⟨u, m1, m3⟩ := R.val i _ q
      have m2 : σ[i]? = some (some v) := k4.1
      rw [m1] at m2; cases m2
      exact m3
 · obtain ⟨i, a, k1, k2, k3, k4⟩ := own h
   obtain ⟨a', m1, m2, m3, m4⟩ := R.own i d k2
   rw [k3] at m1; cases m1
   have hh : ∀ x, (x = a ∨ ∃ C fs, H a = some (.ins C x fs)) → calleeF σ ρ G H rs x = none := fun x hx => by
    unfold calleeF
    rw [if_pos (.inr ⟨j, i, d, a, k1, k2, k3, hx⟩)]
   refine ⟨a, by rw [List.getElem?_map, k4]; rfl, m2, hh a (.inl rfl), ?_⟩
   cases d with
   | lst ds => exact m4
   | dic ks vs => exact m4
   | ndi ks vs => exact m4
   | obj cc ns ds =>
    obtain ⟨dx, xs, z1, z2, z3, z4, z5⟩ := m4
    exact ⟨dx, xs, z1, z2, z3, hh dx (.inr ⟨_, _, z1⟩), z5⟩
   | _ => exact m4.elim
 · obtain ⟨i, b, k1, k2, k3, k4⟩ := own h1
   obtain ⟨i', b', m1, m2, m3, m4⟩ := own h2
   rw [List.getElem?_map, k4] at r1
   rw [List.getElem?_map, m4] at r2
   have e1 : b = a := by simpa using r1
   have e2 : b' = a := by simpa using r2
   subst e1
   subst e2
   have hi := R.ne i i' d e b' k2 m2 k3 m3
   subst hi
   exact dist_ne hd k1 m1
theorem Rst.called (R : Rst K c G H σ ρ) (hv : RpRs K G σ vs rs) (hs : ssOfs ρ rs = some ss) (s : Same G G') (R' : Rst K ⟨calleeF σ ρ G H rs, vs.map some⟩ G' H' (vs.map some) ss') : Rst K c G' H' σ (back rs ss' ρ) := by
 obtain ⟨l1, l2, get⟩ := dargs_get hv hs
 have l3 : ss'.length = vs.length := by rw [R'.len, List.length_map]
 have le : ∀ x o, c.F x = some o → calleeF σ ρ G H rs x = some o := fun x o h => frame_in R h
 have arg : ∀ {j i : Nat}, rs[j]? = some (.ali i) → ∃ v, vs[j]? = some v ∧ σ[i]? = some (some v) := fun {j i} h => by
  have hj : j < vs.length := by
   have := (List.getElem?_eq_some_iff.mp h).1
   omega
  obtain ⟨r, s', k1, k2, k3, k4⟩ := get j vs[j] (List.getElem?_eq_getElem hj)
  rw [h] at k1; cases k1
  exact ⟨vs[j], List.getElem?_eq_getElem hj, k4.1⟩
 have own : ∀ {k : Nat} {d : D}, (back rs ss' ρ)[k]? = some (.own d) → (ρ[k]? = some (.own d) ∧ ∀ j : Nat, rs[j]? ≠ some (.ali k)) ∨ ∃ (j : Nat) (e : D), rs[j]? = some (.ali k) ∧ ss'[j]? = some (.own d) ∧ ρ[k]? = some (.own e) := fun {k d} h => by
  rcases back_get h (by intro z; cases z) with ⟨h1, h2⟩ | ⟨j, d', h1, h2, h3, e, h4⟩
  · rcases h2 with ⟨d', h2⟩ | h2
    · cases h2
    · refine .inl ⟨h1, fun j z => ?_⟩
      have hj : j < ss'.length := by
       have := (List.getElem?_eq_some_iff.mp z).1
       omega
      exact h2 j hj z
  · cases h1
    exact .inr ⟨j, e, h2, h3, h4⟩
 refine ⟨fun x o h => R'.fh x o (le x o h), R'.gh, fun x o h => R'.fg x o (le x o h), by rw [back_length, R.len], fun k d h => ?_, fun k d h => ?_, fun k k' d d' a h1 h2 r1 r2 => ?_, fun k d h hl => ?_⟩
 · rcases back_get h (by intro z; cases z) with ⟨h1, _⟩ | ⟨j, d', h1, _⟩
   · obtain ⟨v, q1, q2⟩ := R.val k d h1
     exact ⟨v, q1, q2.mono s⟩
   · cases h1
 · rcases own h with ⟨h1, h2⟩ | ⟨j, e, h1, h2, h3⟩
   · obtain ⟨a, q1, q2, q3, q4⟩ := R.own k d h1
     obtain ⟨o, z1, z2⟩ := own_in R h1 q1 h2
     refine ⟨a, q1, R'.fg _ _ z1, q3, ?_⟩
     have ha : H' a = H a := by rw [R'.fh _ _ z1, (calleeF_some z1).2.2]
     cases d with
     | lst ds => obtain ⟨xs, y1, y2⟩ := q4; exact ⟨xs, by rw [ha]; exact y1, y2.mono s⟩
     | dic ks vs => obtain ⟨xs, y1, y2, y3⟩ := q4; exact ⟨xs, by rw [ha]; exact y1, y2.mono s, y3.mono s⟩
     | ndi ks vs => obtain ⟨xs, y1, y0, y2, y3⟩ := q4; exact ⟨xs, by rw [ha]; exact y1, y0, y2.mono s, y3.mono s⟩
     | obj cc ns ds =>
      obtain ⟨dx, xs, y1, y2, y3, y4, y5, y6, y7⟩ := q4
      have zd := z2 dx y2 y3
      exact ⟨dx, xs, by rw [ha]; exact y1, R'.fh _ _ zd, R'.fg _ _ zd, y4, y5, y6, y7.mono s⟩
     | _ => exact q4.elim
   · obtain ⟨v, m1, m2⟩ := arg h1
     obtain ⟨a, q1, q2, q3, q4⟩ := R'.own j d h2
     rw [List.getElem?_map, m1] at q1
     have e1 : v = .ref a := by simpa using q1
     subst e1
     refine ⟨a, m2, q2, ?_, ow_frame q4 le⟩
     cases q : c.F a with
     | none => rfl
     | some o => exact nomatch (show (none : Option HO) = some o from q3.symm.trans (le a o q))
 ·
   have hid : ∀ {k j : Nat} {d : D}, rs[j]? = some (.ali k) → ss'[j]? = some (.own d) → σ[k]? = some (some (.ref a)) → (vs.map some)[j]? = some (some (.ref a)) := fun {k j d} h1 h2 h3 => by
    obtain ⟨v, m1, m2⟩ := arg h1
    rw [h3] at m2; cases m2
    rw [List.getElem?_map, m1]; rfl
   rcases own h1 with ⟨p1, p2⟩ | ⟨j, e, p1, p2, p3⟩
   · rcases own h2 with ⟨q1, q2⟩ | ⟨j', e', q1, q2, q3⟩
     · exact R.ne k k' d d' a p1 q1 r1 r2
     · exact R.ne k k' d e' a p1 q3 r1 r2
   · rcases own h2 with ⟨q1, q2⟩ | ⟨j', e', q1, q2, q3⟩
     · exact R.ne k k' e d' a p3 q1 r1 r2
     · exact R.ne k k' e e' a p3 q3 r1 r2
 · rcases own h with ⟨h1, _⟩ | ⟨j, e, _, _, h3⟩
   · exact R.par k d h1 hl
   · exact R.par k e h3 hl
theorem RpR.called {v : V} {r : Rv} (R : Rst K c G H σ ρ) (hv : RpRs K G σ vs rs) (hs : ssOfs ρ rs = some ss) (R' : Rst K ⟨calleeF σ ρ G H rs, vs.map some⟩ G' H' (vs.map some) ss') (na : ∀ i, r ≠ .ali i) (h : RpR K ⟨calleeF σ ρ G H rs, vs.map some⟩ G' H' (vs.map some) ss' v r) : RpR K c G' H' σ (back rs ss' ρ) v r := by
 cases r with
 | val d => exact h
 | ali i => exact absurd rfl (na i)
 | own d =>
  obtain ⟨a, h1, h2, h3, h4, h5⟩ := h
  have le : ∀ x o, c.F x = some o → calleeF σ ρ G H rs x = some o := fun x o h => frame_in R h
  refine ⟨a, h1, h2, ?_, ow_frame h4 le, fun k e q z => ?_⟩
  · cases q : c.F a with
    | none => rfl
    | some o => exact nomatch (show (none : Option HO) = some o from h3.symm.trans (le a o q))
  · obtain ⟨l1, l2, get⟩ := dargs_get hv hs
    have l3 : ss'.length = vs.length := by rw [R'.len, List.length_map]
    rcases back_get q (by intro z; cases z) with ⟨p1, p2⟩ | ⟨j, d', p1, p2, p3, e', p4⟩
    · rcases p2 with ⟨d', p2⟩ | p2
      · cases p2
      · obtain ⟨o, z1, z2⟩ := own_in (rs := rs) R p1 z (fun j zz => p2 j (by
          have := (List.getElem?_eq_some_iff.mp zz).1
          omega) zz)
        exact nomatch (show (none : Option HO) = some o from h3.symm.trans z1)
    · cases p1
      have hj : j < vs.length := by
       have := (List.getElem?_eq_some_iff.mp p2).1
       omega
      obtain ⟨r, s', k1, k2, k3, k4⟩ := get j vs[j] (List.getElem?_eq_getElem hj)
      rw [p2] at k1; cases k1
      have k5 : σ[k]? = some (some vs[j]) := k4.1
      rw [z] at k5
      have e5 : vs[j] = .ref a := by simpa using k5.symm
      exact h5 j e p3 (by rw [List.getElem?_map, List.getElem?_eq_getElem hj, e5]; rfl)
theorem Rst.grown (R : Rst K c G H σ ρ) (s : Same H H') : Rst K c G H' σ ρ where
 fh := R.fh.trans s
 gh := R.gh.trans s
 fg := R.fg
 len := R.len
 val := R.val
 own := fun i d e => by
  obtain ⟨a, h1, h2, h3, h4⟩ := R.own i d e
  refine ⟨a, h1, h2, h3, ?_⟩
  cases d with
  | lst ds => obtain ⟨xs, q1, q2⟩ := h4; exact ⟨xs, s _ _ q1, q2⟩
  | obj c ns ds => obtain ⟨dx, xs, q1, q2, q3, q4, q5, q6, q7⟩ := h4; exact ⟨dx, xs, s _ _ q1, s _ _ q2, q3, q4, q5, q6, q7⟩
  | dic ks vs => obtain ⟨kvs, q1, q2, q3⟩ := h4; exact ⟨kvs, s _ _ q1, q2, q3⟩
  | ndi ks vs => obtain ⟨kvs, q1, q2⟩ := h4; exact ⟨kvs, s _ _ q1, q2⟩
  | _ => exact h4.elim
 ne := R.ne
 par := R.par
theorem sca_rp {d : D} {v : V} (h : scaD d = true) (k : Rp K G d v) : Rp K G' d v := by
 cases d <;> first | exact k | cases h
end
structure DF (P : Program) (w : World) (K : PySem.W.Frag) (mg : Str → Option Value) (base : Heap) (x : Str) (k np : Nat) (fn : Fn) : Prop where
 len : ∀ ss o, fn ss = some o → ss.length = np
 ex : ∃ (f : Addr) (fd : FuncData) (ps : List Str), mg x = some (.ref f) ∧ PySem.W.keepIn K (.ref f) = true ∧ Binds K fd ps [] ∧ FnOk P w K mg base (L2.CX P w) k f fd ps (spD K np fn)
theorem wish_of {X : Cx} {W : WX} (tk : Takes X W) (σ : L2.St) : PassesAt (L2.CX X.prog X.w) X σ (WE W σ) := passAt tk σ
theorem call_sp {X : Cx} {W : WX} {np : Nat} {fn : Fn} {mu : List Bool} {c : Cn} {G0 G H : Hp} {σ : L2.St} {ρ : List S} {rs : List Rv} {vs : List V} {Q : VK} (R : Rst X.K c G H σ ρ) (s0 : Same G0 G) (hv : RpRs X.K G σ vs rs) (hl : ∀ ss o, fn ss = some o → ss.length = np)
  (w : wpM (callM mu fn rs ρ) (fun r ρ' => ∀ v G' H', Rst X.K c G' H' σ ρ' → Same G0 G' → RpR X.K c G' H' σ ρ' v r → Q v H') (EXk X.K c W σ G0)) : spD X.K np fn vs H Q (WE W σ) := by
 unfold callM at w
 have wp : wpM (prep mu rs ρ) (fun rs' ρ1 => wpM (if dist rs' = true then (match ssOfs ρ1 rs' with
  | some ss => (match fn ss with
   | some (.ret q ss') => if (noAli rs' && scaR q) = true then some (.ok q ρ) else (match q with
    | .ali _ => none
    | q => some (.ok q (back rs' ss' ρ1)))
   | some (.ex e ss') => some (.ex e (back rs' ss' ρ1))
   | none => none)
  | none => none) else none) (fun r ρ' => ∀ v G' H', Rst X.K c G' H' σ ρ' → Same G0 G' → RpR X.K c G' H' σ ρ' v r → Q v H') (EXk X.K c W σ G0)) (fun _ _ => False) := by
  cases q : prep mu rs ρ with
  | none => rw [q] at w; exact w
  | some o => cases o with
   | ok a ρ1 => rw [q] at w; exact w
   | ex e ρ1 => rw [q] at w; exact w.elim
 obtain ⟨rs', G1, ρ1, s1, R1, k1, w1⟩ := prep_wp R hv wp
 by_cases hd : dist rs' = true
 · rw [if_pos hd] at w1
   cases hs : ssOfs ρ1 rs' with
   | none => rw [hs] at w1; exact w1.elim
   | some ss =>
    rw [hs] at w1
    dsimp only at w1
    cases hf : fn ss with
    | none => rw [hf] at w1; exact w1.elim
    | some o =>
     rw [hf] at w1
     refine ⟨⟨calleeF σ ρ1 G1 H rs', vs.map some⟩, G1, ss, o, by rw [← hl ss o hf]; exact (dargs_get k1 hs).1.symm, rfl, R1.callee k1 hd hs, hf, ?_⟩
     cases o with
     | ret q ss' =>
      intro v G' H' R' s' kq
      dsimp only at w1
      by_cases hc : (noAli rs' && scaR q) = true
      · rw [if_pos hc] at w1
        obtain ⟨h1, h2⟩ := Bool.and_eq_true_iff.mp hc
        have same : Same H H' := fun x o hx => by
         cases g : G1 x with
         | some u =>
          have e1 := R1.gh _ _ g
          rw [hx] at e1; cases e1
          exact R'.gh _ _ (s' _ _ g)
         | none => exact R'.fh _ _ (calleeF_of g (fun ⟨j, i, d, a, z, _⟩ => noAli_not h1 z) hx)
        have Rq : Rst X.K c G H' σ ρ := R.grown same
        cases q with
        | val d => exact w1 v G H' Rq s0 (sca_rp h2 kq)
        | own d => cases h2
        | ali i => cases h2
      · rw [if_neg hc] at w1
        cases q with
        | ali i => exact w1.elim
        | val d => exact w1 v G' H' (R1.called k1 hs s' R') ((s0.trans s1).trans s') (RpR.called R1 k1 hs R' (fun i z => nomatch z) kq)
        | own d => exact w1 v G' H' (R1.called k1 hs s' R') ((s0.trans s1).trans s') (RpR.called R1 k1 hs R' (fun i z => nomatch z) kq)
     | ex e ss' =>
      intro cls d G' H' R' s' xa
      exact w1 cls d G' H' (R1.called k1 hs s' R') ((s0.trans s1).trans s') xa
 · rw [if_neg hd] at w1; exact w1.elim
def eCall (mu : List Bool) (fn : Fn) (ga : M (List Rv)) : M Rv := do
 let rs ← ga
 callM mu fn rs
section
variable {X : Cx} {W : WX} {x : Str} {k np : Nat} {fn : Fn} {mu : List Bool} {e : Expr} {es : List Expr} {ga : M (List Rv)} {p pos : Pos}
theorem de_call (mu : List Bool) (go : Go X W) (F : DF X.prog X.w X.K X.mg X.base x k np fn) (hr : Room k X.A) (hg : Gl X x) (ha : DA X W (e :: es) ga)
  (hdb : (x == ("__debug__" : Str)) = false := by decide) (he : starEach (e :: es) X.env = (false, eval e X.env) :: starEach es X.env := by rfl) (hpl : (backTo pos (starEach es X.env)).any (·.1) = false := by rfl) :
  DE X W (.Call (.Name x p) (e :: es) [] pos) (eCall mu fn ga) := by
 obtain ⟨f, fd, ps, hm, hk, hb, FO⟩ := F.ex
 refine ⟨(pe_callSD (E := WE W) FO hr hg hm hk hb .nil (wish_of go.tk) ha.pa hdb he hpl).weak fun σ H Q ⟨c, G, ρ, R, w⟩ => ?_⟩
 refine tg_step R (Same.refl G) w fun rs ρ1 vs G1 H1 R1 s1 _ k1 w1 => ?_
 rw [List.append_nil]
 exact call_sp R1 s1 k1 F.len w1
end
end Dl
namespace Dl
open PySem L2
section
variable {K : PySem.W.Frag} {c : Cn} {G G' H H' : Hp} {σ : L2.St} {ρ : List S} {a p : Addr} {d d' : D} {o' : HO} {i : Nat} {v : V}
theorem Rst.own_store (R : Rst K c G H σ ρ) (h : ρ[i]? = some (.own d)) (hs : σ[i]? = some (some (.ref a))) (hw : Ow K c.F G (upd H a o') a d') : Rst K c G (upd H a o') σ (ρ.set i (.own d')) := by
 obtain ⟨a', k1, k2, k3, k4⟩ := R.own i d h
 rw [hs] at k1; cases k1
 obtain ⟨oa, hoa, hno⟩ := k4.at
 have hl : i < ρ.length := (List.getElem?_eq_some_iff.mp h).1
 have oth : ∀ {j : Nat} {e : D}, (ρ.set i (.own d'))[j]? = some (.own e) → (j = i ∧ e = d') ∨ (j ≠ i ∧ ρ[j]? = some (.own e)) := fun {j e} q => by
  rcases set_cases q with ⟨q1, _, q2⟩ | q
  · cases q2; exact .inl ⟨q1, rfl⟩
  · exact .inr q
 refine ⟨fun b u e => by rw [upd_ne (ne_of_none e k3)]; exact R.fh _ _ e, fun b u e => by rw [upd_ne (ne_of_none e k2)]; exact R.gh _ _ e, R.fg, by rw [List.length_set, R.len], fun j e q => ?_, fun j e q => ?_, fun j k e f b q1 q2 r1 r2 => ?_, fun j e q hlt => ?_⟩
 · rcases set_cases q with ⟨_, _, q2⟩ | ⟨_, q⟩
   · cases q2
   · exact R.val j e q
 · rcases oth q with ⟨rfl, rfl⟩ | ⟨hj, q⟩
   · exact ⟨a, hs, k2, k3, hw⟩
   · obtain ⟨b, m1, m2, m3, m4⟩ := R.own j e q
     have nb : b ≠ a := fun z => by subst z; exact hj (R.ne j i e d b q h m1 hs)
     refine ⟨b, m1, m2, m3, ?_⟩
     cases e with
     | lst ds => obtain ⟨xs, z1, z2⟩ := m4; exact ⟨xs, by rw [upd_ne nb]; exact z1, z2⟩
     | dic ks vs => obtain ⟨xs, z1, z2⟩ := m4; exact ⟨xs, by rw [upd_ne nb]; exact z1, z2⟩
     | ndi ks vs => obtain ⟨xs, z1, z2⟩ := m4; exact ⟨xs, by rw [upd_ne nb]; exact z1, z2⟩
     | obj cc ns ds =>
      obtain ⟨dx, xs, z1, z2, z3⟩ := m4
      have nd : dx ≠ a := fun z => by subst z; rw [hoa] at z2; exact hno b (Option.some.inj z2)
      exact ⟨dx, xs, by rw [upd_ne nb]; exact z1, by rw [upd_ne nd]; exact z2, z3⟩
     | _ => exact m4.elim
 · have back : ∀ {j : Nat} {e : D}, (ρ.set i (.own d'))[j]? = some (.own e) → ∃ e', ρ[j]? = some (.own e') := fun {j e} q => by
     rcases oth q with ⟨rfl, rfl⟩ | ⟨hj, q⟩
     · exact ⟨d, h⟩
     · exact ⟨e, q⟩
   obtain ⟨e', q1'⟩ := back q1
   obtain ⟨f', q2'⟩ := back q2
   exact R.ne j k e' f' b q1' q2' r1 r2
 · rcases oth q with ⟨rfl, rfl⟩ | ⟨hj, q⟩
   · exact R.par j d h hlt
   · exact R.par j e q hlt
end
def ownLst (r : Rv) (ρ : List S) : Option (Nat × List D) := match r with
 | .ali i => match ρ[i]? with
  | some (.own (.lst ds)) => some (i, ds)
  | _ => none
 | _ => none
theorem ownLst_ok {K : PySem.W.Frag} {c : Cn} {G H : Hp} {σ : L2.St} {ρ : List S} {v : V} {r : Rv} {i : Nat} {ds : List D} (R : Rst K c G H σ ρ) (k : RpRs K G σ [v] [r]) (e : ownLst r ρ = some (i, ds)) :
  ∃ a xs, v = .ref a ∧ σ[i]? = some (some (.ref a)) ∧ ρ[i]? = some (.own (.lst ds)) ∧ H a = some (.lst xs) ∧ RpL K G ds xs := by
 cases r with
 | val d => cases e
 | own d => cases e
 | ali j =>
  unfold ownLst at e
  dsimp only at e
  cases q : ρ[j]? with
  | none => rw [q] at e; cases e
  | some s =>
   rw [q] at e
   cases s with
   | no => cases e
   | val d => cases e
   | own d =>
    cases d <;> first
     | (cases e; done)
     | (cases e
        obtain ⟨a, h1, h2, h3, xs, h4, h5⟩ := R.own _ _ q
        have h6 : σ[_]? = some (some v) := k.1
        rw [h1] at h6
        have h7 : v = .ref a := by simpa using h6.symm
        exact ⟨a, xs, h7, h1, q, h4, h5⟩)
theorem Rst.lst_store {K : PySem.W.Frag} {c : Cn} {G H : Hp} {σ : L2.St} {ρ : List S} {i : Nat} {ds ds' : List D} {a : Addr} {xs' : List V} (R : Rst K c G H σ ρ) (hs : σ[i]? = some (some (.ref a))) (h : ρ[i]? = some (.own (.lst ds))) (r : RpL K G ds' xs') :
  Rst K c G (upd H a (.lst xs')) σ (ρ.set i (.own (.lst ds'))) := R.own_store h hs ⟨xs', upd_same, r⟩
def ckL (r : Rv) : M Unit := fun ρ => match ownLst r ρ with
 | some _ => some (.ok () ρ)
 | none => none
def mAppend (fo fa : M Rv) : M Rv := do
 let r ← fo
 ckL (settle r)
 let x ← fa
 let d ← toV (settle x)
 fun ρ => match ownLst (settle r) ρ with
  | some (i, ds) => if ds.length < sizeLine then some (.ok (.val .non) (ρ.set i (.own (.lst (ds ++ [d]))))) else none
  | none => none
def mExtend (fo fa : M Rv) : M Rv := do
 let r ← fo
 ckL (settle r)
 let x ← fa
 let d ← peek (settle x)
 fun ρ => match ownLst (settle r) ρ, d with
  | some (i, ds), .lst es => if ds.length + es.length ≤ sizeLine then some (.ok (.val .non) (ρ.set i (.own (.lst (ds ++ es))))) else none
  | _, _ => none
def mClear (fo : M Rv) : M Rv := do
 let r ← fo
 ckL (settle r)
 fun ρ => match ownLst (settle r) ρ with
  | some (i, ds) => some (.ok (.val .non) (ρ.set i (.own (.lst []))))
  | none => none
theorem ckL_wp {K : PySem.W.Frag} {c : Cn} {G H : Hp} {σ : L2.St} {ρ : List S} {v : V} {r : Rv} {OK : Unit → List S → Prop} {EX : Xn → List S → Prop} (R : Rst K c G H σ ρ) (k : RpRs K G σ [v] [r]) (w : wpM (ckL r ρ) OK EX) : tyV K "list" v H ∧ OK () ρ := by
 unfold ckL at w
 cases e : ownLst r ρ with
 | none => rw [e] at w; exact w.elim
 | some q =>
  rw [e] at w
  obtain ⟨a, xs, rfl, _, _, h, _⟩ := ownLst_ok (i := q.1) (ds := q.2) R k e
  exact ⟨.inl ⟨rfl, xs, .inl (.inl h)⟩, w⟩
section
variable {X : Cx} {W : WX} {np : Nat} {o e a b : Expr} {es : List Expr} {fo fa fb : M Rv} {ga : M (List Rv)} {pos apos cpos p : Pos}
theorem de_append (ho : DE X W o fo) (ha : DE X W e fa) (hbase : attributeBase o "append" X.env (eval o X.env) = eval o X.env := by rfl)
  (hfew : ((backTo cpos (starEach [e] X.env)).all (fun x => !x.1) && (backToKw cpos (keywordEach [] X.env)).all (fun x => x.1.isSome) && decide ([e].length + ([] : List Keyword).length + (if ([] : List Keyword).isEmpty then 0 else 1) < 30)) = true := by rfl)
  (hline : (apos.endLine == cpos.line) = true := by rfl) (hs : starEach [e] X.env = (false, eval e X.env) :: starEach [] X.env := by rfl) (hplain : (backTo cpos (starEach [] X.env)).any (·.1) = false := by rfl) : DE X W (.Call (.Attribute o "append" apos) [e] [] cpos) (mAppend fo fa) :=
 ⟨(pe_bm PySem.F.plainAttrs_list PySem.F.slot_list_append PySem.F.type_list_append mt_append ho.pe (pa_cons ha.pe pa_nil hs) hbase hfew hline hs hplain).weak fun σ H Q ⟨c, G, ρ, R, w⟩ => by
  refine tg_step R (Same.refl G) w fun r ρ1 v G1 H1 R1 s1 _ k1 w1 => ?_
  obtain ⟨G1', s1', R1', k1'⟩ := settle_ok R1 k1
  obtain ⟨ty, w1⟩ := ckL_wp R1' k1' (wpM_bind w1)
  refine ⟨ty, ?_⟩
  refine tg_step R1' (s1.trans s1') w1 fun x ρ2 u G2 H2 R2 s2 s12 k2 w2 => ?_
  obtain ⟨G2', s2', R2', k2'⟩ := settle_ok R2 k2
  obtain ⟨d, G3, ρ3, s3, R3, k3, w3⟩ := toV_wp R2' k2'.one (wpM_bind w2)
  cases e1 : ownLst (settle r) ρ3 with
  | none => rw [e1] at w3; exact w3.elim
  | some q =>
   obtain ⟨i, ds⟩ := q
   rw [e1] at w3
   dsimp only at w3
   obtain ⟨a, xs, rfl, hs, hr, ha, hx⟩ := ownLst_ok R3 (((k1'.mono s12).mono s2').mono s3) e1
   by_cases hz : ds.length < sizeLine
   · rw [if_pos hz] at w3
     refine ⟨a, xs, u, rfl, rfl, ha, by rw [hx.length]; exact hz, ?_⟩
     exact w3 _ G3 _ (R3.lst_store hs hr (hx.append (RpL.one k3))) ((s2.trans s2').trans s3) rfl
   · rw [if_neg hz] at w3; exact w3.elim⟩
def sSetIx (fa fo fi : M Rv) : MS := thenS fa fun x => thenS (toV x) fun d => thenS fo fun r => thenS fi fun j => thenS (peek (settle j)) fun e ρ =>
 match ownLst (settle r) ρ, e with
  | some (i, ds), .int k => (ixN ds.length k).map fun n => .nx (ρ.set i (.own (.lst (ds.set n d))))
  | _, _ => none
theorem ds_setIx (ha : DE X W e fa) (ho : DE X W o fo) (hi : DE X W a fb) (hset : ∀ v, assign (.Subscript o a pos) X.env v = (do
      let ov ← holding [v] (eval o X.env)
      let iv ← holding [v, ov] (eval a X.env)
      standAt pos
      holding [v, ov, iv] (setItem ov iv v)
      release [v, ov, iv] []) := by intro _; rfl) (hs : swapsWithSole [.Subscript o a pos] e p.line X.env = pure false := by rfl) (hw : swappedStores [.Subscript o a pos] e X.env = pure none := by rfl)
  (h1 : (assignEach [.Subscript o a pos] X.env).map (·.2) = [assign (.Subscript o a pos) X.env] := by rfl) : DS X W np (.Assign [.Subscript o a pos] e p) (sSetIx fa fo fb) :=
 ⟨(ps_asg ha.pe (pg_sub ho.pe hi.pe set_list hset) hs hw h1).weak fun Dn σ H ⟨c, G, ρ, os, hl, R, h, po⟩ => by
  refine tS_step R h po fun x ρ1 v G1 H1 R1 s1 k1 h1 po1 => ?_
  obtain ⟨d, G2, ρ2, s2, R2, k2, h2⟩ := toV_wp R1 k1 (thenS_wp h1)
  refine tS_step R2 h2 (po1.mono s2) fun r ρ3 u G3 H3 R3 s3 k3 h3 po3 => ?_
  obtain ⟨G3', s3', R3', k3'⟩ := settle_ok R3 k3
  refine tS_step R3' h3 (po3.mono s3') fun j ρ4 t G4 H4 R4 s4 k4 h4 po4 => ?_
  obtain ⟨G4', s4', R4', k4'⟩ := settle_ok R4 k4
  obtain ⟨e', ke, h5⟩ := peek_wp R4' k4'.one (thenS_wp h4)
  cases e1 : ownLst (settle r) ρ4 with
  | none => rw [e1] at h5; cases h5
  | some q =>
   obtain ⟨i, ds⟩ := q
   rw [e1] at h5
   cases e' <;> first
    | (cases h5; done)
    | (rename_i n
       dsimp only at h5
       obtain ⟨b, xs, rfl, hs, hr, hb, hx⟩ := ownLst_ok R4' ((k3'.mono s4).mono s4') e1
       cases e2 : ixN ds.length n with
       | none => rw [e2] at h5; cases h5
       | some m =>
        rw [e2] at h5
        cases h5
        refine ⟨b, xs, n, m, rfl, ke.int, hb, by rw [hx.length]; exact e2, ?_⟩
        exact po4 σ G4' _ (R4'.lst_store hs hr (hx.set m (k2.mono (((s3.trans s3').trans s4).trans s4')))) s4')⟩
end
end Dl
namespace Dl
open PySem L2
def lkF (f : Str) : List Str → List D → Option D
 | n :: ns, d :: ds => if n = f then some d else lkF f ns ds
 | _, _ => none
def putF2 (f : Str) (d : D) : List Str → List D → List Str × List D
 | n :: ns, e :: ds => if n = f then (n :: ns, d :: ds) else (n :: (putF2 f d ns ds).1, e :: (putF2 f d ns ds).2)
 | _, _ => ([f], [d])
section
variable {K : PySem.W.Frag} {G : Hp}
theorem lkF_ok {f : Str} {d : D} : ∀ {ns : List Str} {ds : List D} {xs : List V}, RpL K G ds xs → lkF f ns ds = some d → ∃ v, (ns.zip xs).lookup f = some v ∧ Rp K G d v
 | [], _, _, _, e => by cases e
 | _ :: _, [], _, _, e => by cases e
 | n :: ns, e :: ds, _, ⟨x, r, h1, h2, h3⟩, q => by
  subst h1
  unfold lkF at q
  by_cases hn : n = f
  · rw [if_pos hn] at q
    cases q
    subst hn
    exact ⟨x, by simp [List.zip_cons_cons, List.lookup], h2⟩
  · rw [if_neg hn] at q
    obtain ⟨v, k1, k2⟩ := lkF_ok h3 q
    refine ⟨v, ?_, k2⟩
    rw [List.zip_cons_cons]
    have hb : (f == n) = false := beq_eq_false_iff_ne.mpr (Ne.symm hn)
    simp only [List.lookup, hb]
    exact k1
theorem putF2_ok {f : Str} {d : D} {v : V} (hd : Rp K G d v) : ∀ {ns : List Str} {ds : List D} {xs : List V}, ns.length = ds.length → RpL K G ds xs →
  ∃ ys, putF f v (ns.zip xs) = (putF2 f d ns ds).1.zip ys ∧ (putF2 f d ns ds).1.length = (putF2 f d ns ds).2.length ∧ RpL K G (putF2 f d ns ds).2 ys
 | [], [], _, _, h => by cases h; exact ⟨[v], rfl, rfl, v, [], rfl, hd, rfl⟩
 | [], _ :: _, _, hl, _ => by cases hl
 | _ :: _, [], _, hl, _ => by cases hl
 | n :: ns, e :: ds, _, hl, ⟨x, r, h1, h2, h3⟩ => by
  subst h1
  rw [List.zip_cons_cons]
  unfold putF putF2
  by_cases hn : n = f
  · rw [if_pos hn, if_pos hn]
    exact ⟨v :: r, by rw [List.zip_cons_cons], by simpa using hl, v, r, rfl, hd, h3⟩
  · rw [if_neg hn, if_neg hn]
    obtain ⟨ys, k1, k2, k3⟩ := putF2_ok hd (ns := ns) (ds := ds) (xs := r) (by simpa using hl) h3
    exact ⟨x :: ys, by rw [List.zip_cons_cons, k1], by simpa using k2, x, ys, rfl, h2, k3⟩
theorem no_lookup {f : Str} : ∀ {ns : List Str} {xs : List V}, f ∉ ns → (ns.zip xs).lookup f = none
 | [], _, _ => rfl
 | _ :: _, [], _ => rfl
 | n :: ns, x :: xs, h => by
  have h2 : f ≠ n ∧ f ∉ ns := by simpa using h
  rw [List.zip_cons_cons]
  have hb : (f == n) = false := beq_eq_false_iff_ne.mpr h2.1
  simp only [List.lookup, hb]
  exact no_lookup h2.2
end
abbrev Flds : Type := List Str
structure FldOk (K : PySem.W.Frag) (cs : Flds) (f : Str) : Prop where
 ok : ∀ n ∈ cs, Cls K (He.ga K n) ∧ NoAttr K (He.ga K n) f
def eFld (cs : Flds) (f : Str) (fa : M Rv) : M Rv := do
 let r ← fa
 let d ← peek r
 match d with
 | .obj n ns ds => if n ∈ cs then ofO ((lkF f ns ds).map .val) else M.fail
 | _ => M.fail
section
variable {X : Cx} {W : WX} {np : Nat} {o e a b : Expr} {es : List Expr} {fo fa fb : M Rv} {ga : M (List Rv)} {pos apos cpos p : Pos} {cs : Flds} {f m : Str}
theorem de_fld (hc : FldOk X.K cs f) (ha : DE X W e fa) (hb : attributeBase e f X.env (eval e X.env) = eval e X.env := by rfl) : DE X W (.Attribute e f pos) (eFld cs f fa) :=
 ⟨(pe_fld ha.pe hb).weak fun σ H Q ⟨c, G, ρ, R, w⟩ => by
  refine tg_step R (Same.refl G) w fun r ρ1 v G1 H1 R1 s1 _ k1 w1 => ?_
  obtain ⟨d, kd, w2⟩ := peek_wp R1 k1 (wpM_bind w1)
  cases d <;> first
   | exact w2.elim
   | (rename_i n ns ds
      dsimp only at w2
      by_cases hn : n ∈ cs
      · rw [if_pos hn] at w2
        obtain ⟨q, e1, w3⟩ := ofO_wp w2
        obtain ⟨d, e2, e3⟩ := Option.map_eq_some_iff.mp e1
        subst e3
        have go : ∀ {a : Addr} {dx : Addr} {xs : List V}, H1 a = some (.ins (He.ga X.K n) dx (ns.zip xs)) → RpL X.K G1 ds xs → v = .ref a → ∃ a C dx fs u, v = V.ref a ∧ H1 a = some (.ins C dx fs) ∧ Cls X.K C ∧ NoAttr X.K C f ∧ fs.lookup f = some u ∧ Q u H1 := fun {a dx xs} h1 h2 h3 => by
         obtain ⟨u, k2, k3⟩ := lkF_ok h2 e2
         exact ⟨a, _, dx, _, u, h3, h1, (hc.ok n hn).1, (hc.ok n hn).2, k2, w3 u G1 H1 R1 s1 k3⟩
        obtain ⟨a, dx, xs, h1, h2, _, h4⟩ := kd.obj R1.gh
        exact go h2 h4 h1
      · rw [if_neg hn] at w2; exact w2.elim)⟩
def ownObj (r : Rv) (ρ : List S) : Option (Nat × Str × List Str × List D) := match r with
 | .ali i => match ρ[i]? with
  | some (.own (.obj n ns ds)) => some (i, n, ns, ds)
  | _ => none
 | _ => none
def sSetF (cs : Flds) (f : Str) (fo fa : M Rv) : MS := thenS fa fun x => thenS (toV x) fun d => thenS fo fun r ρ =>
 match ownObj (settle r) ρ with
  | some (i, n, ns, ds) => if n ∈ cs ∧ ns.length < 1000 then some (.nx (ρ.set i (.own (.obj n (putF2 f d ns ds).1 (putF2 f d ns ds).2)))) else none
  | none => none
theorem ownObj_ok {K : PySem.W.Frag} {c : Cn} {G H : Hp} {σ : L2.St} {ρ : List S} {v : V} {r : Rv} {i : Nat} {n : Str} {ns : List Str} {ds : List D} (R : Rst K c G H σ ρ) (k : RpRs K G σ [v] [r]) (e : ownObj r ρ = some (i, n, ns, ds)) :
  ∃ a dx xs, v = .ref a ∧ σ[i]? = some (some (.ref a)) ∧ ρ[i]? = some (.own (.obj n ns ds)) ∧ H a = some (.ins (He.ga K n) dx (ns.zip xs)) ∧ H dx = some (.own a) ∧ G dx = none ∧ c.F dx = none ∧ dx ≠ a ∧ ns.length = ds.length ∧ RpL K G ds xs := by
 cases r with
 | val d => cases e
 | own d => cases e
 | ali j =>
  unfold ownObj at e
  dsimp only at e
  cases q : ρ[j]? with
  | none => rw [q] at e; cases e
  | some s =>
   rw [q] at e
   cases s with
   | no => cases e
   | val d => cases e
   | own d =>
    cases d <;> first
     | (cases e; done)
     | (cases e
        obtain ⟨a, h1, h2, h3, dx, xs, h4⟩ := R.own _ _ q
        have h6 : σ[_]? = some (some v) := k.1
        rw [h1] at h6
        have h7 : v = .ref a := by simpa using h6.symm
        exact ⟨a, dx, xs, h7, h1, q, h4⟩)
theorem ds_setF (hc : FldOk X.K cs f) (ho : DE X W o fo) (ha : DE X W e fa) (hs : swapsWith e (some (.Attribute o f p)) pos.line X.env = pure false := by rfl) : DS X W np (.Assign [.Attribute o f p] e pos) (sSetF cs f fo fa) :=
 ⟨(ps_fld ho.pe ha.pe hs).weak fun Dn σ H ⟨c, G, ρ, os, hl, R, h, po⟩ => by
  refine tS_step R h po fun x ρ1 v G1 H1 R1 s1 k1 h1 po1 => ?_
  obtain ⟨d, G2, ρ2, s2, R2, k2, h2⟩ := toV_wp R1 k1 (thenS_wp h1)
  refine tS_step R2 h2 (po1.mono s2) fun r ρ3 u G3 H3 R3 s3 k3 h3 po3 => ?_
  obtain ⟨G3', s3', R3', k3'⟩ := settle_ok R3 k3
  have po3' := po3.mono s3'
  cases e1 : ownObj (settle r) ρ3 with
  | none => rw [e1] at h3; cases h3
  | some q =>
   obtain ⟨i, n, ns, ds⟩ := q
   rw [e1] at h3
   dsimp only at h3
   by_cases hn : n ∈ cs ∧ ns.length < 1000
   · rw [if_pos hn] at h3
     cases h3
     obtain ⟨a, dx, xs, rfl, m1, m2, m3, m4, m5, m6, m7, m8, m9⟩ := ownObj_ok R3' k3' e1
     obtain ⟨ys, y1, y2, y3⟩ := putF2_ok (f := f) (k2.mono (s3.trans s3')) m8 m9
     refine ⟨a, _, dx, _, rfl, m3, (hc.ok n hn.1).1, (hc.ok n hn.1).2, ?_, ?_⟩
     · rw [List.length_zip]
       exact Nat.lt_of_le_of_lt (Nat.min_le_left _ _) hn.2
     · refine po3' σ G3' _ (R3'.own_store m2 m1 ⟨dx, ys, by rw [upd_same, y1], by rw [upd_ne m7]; exact m4, m5, m6, m7, y2, y3⟩) (Same.refl G3')
   · rw [if_neg hn] at h3; cases h3⟩
end
section
variable {K : PySem.W.Frag} {c : Cn} {G G' H H' : Hp} {σ : L2.St} {ρ : List S} {x dx : Addr}
theorem snoc_get {α : Type} {l : List α} {a : α} {i : Nat} {b : α} (h : (l ++ [a])[i]? = some b) : (i < l.length ∧ l[i]? = some b) ∨ (i = l.length ∧ b = a) := by
 by_cases hi : i < l.length
 · rw [List.getElem?_append_left hi] at h; exact .inl ⟨hi, h⟩
 · rw [List.getElem?_append_right (by omega)] at h
   have : i - l.length = 0 := by
    cases q : i - l.length with
    | zero => rfl
    | succ n => rw [q] at h; cases h
   rw [this] at h
   cases h
   exact .inr ⟨by omega, rfl⟩
theorem Rst.snoc {v : V} {d : D} (R : Rst K c G H σ ρ) (hp : c.s0.length ≤ σ.length) (h : RpR K c G H σ ρ v (.own d)) : Rst K c G H (σ ++ [some v]) (ρ ++ [.own d]) := by
 obtain ⟨a, rfl, h2, h3, h4, h5⟩ := h
 have hlen : (ρ ++ [S.own d]).length = (σ ++ [some (V.ref a)]).length := by rw [List.length_append, List.length_append, R.len]; rfl
 have sg : ∀ {j : Nat}, j < ρ.length → (σ ++ [some (V.ref a)])[j]? = σ[j]? := fun {j} hj => List.getElem?_append_left (R.len ▸ hj)
 have sl : (σ ++ [some (V.ref a)])[ρ.length]? = some (some (V.ref a)) := by rw [R.len, List.getElem?_append_right (Nat.le_refl _), Nat.sub_self]; rfl
 refine ⟨R.fh, R.gh, R.fg, hlen, fun j e q => ?_, fun j e q => ?_, fun j k e f b q1 q2 r1 r2 => ?_, fun j e q hl => ?_⟩
 · rcases snoc_get q with ⟨hj, q⟩ | ⟨_, q⟩
   · rw [sg hj]; exact R.val j e q
   · cases q
 · rcases snoc_get q with ⟨hj, q⟩ | ⟨hj, q⟩
   · rw [sg hj]; exact R.own j e q
   · cases q; subst hj; exact ⟨a, sl, h2, h3, h4⟩
 · rcases snoc_get q1 with ⟨hj, q1⟩ | ⟨hj, q1⟩
   · rw [sg hj] at r1
     rcases snoc_get q2 with ⟨hk, q2⟩ | ⟨hk, q2⟩
     · rw [sg hk] at r2; exact R.ne j k e f b q1 q2 r1 r2
     · subst hk; rw [sl] at r2; cases r2; exact absurd r1 (h5 j e q1)
   · rcases snoc_get q2 with ⟨hk, q2⟩ | ⟨hk, q2⟩
     · rw [sg hk] at r2; subst hj; rw [sl] at r1; cases r1; exact absurd r2 (h5 k f q2)
     · rw [hj, hk]
 · rcases snoc_get q with ⟨hj, q⟩ | ⟨hj, _⟩
   · rw [sg hj]; exact R.par j e q hl
   · have := R.len
     omega
theorem Rst.unsnoc {s : S} {v : Option V} (R : Rst K c G H (σ ++ [v]) (ρ ++ [s])) : Rst K c G H σ ρ := by
 have hl : ρ.length = σ.length := by
  have := R.len
  rw [List.length_append, List.length_append] at this
  simpa using this
 have up : ∀ {j : Nat} {t : S}, ρ[j]? = some t → (ρ ++ [s])[j]? = some t ∧ (σ ++ [v])[j]? = σ[j]? := fun {j t} h => by
  have hj := (List.getElem?_eq_some_iff.mp h).1
  exact ⟨by rw [List.getElem?_append_left hj]; exact h, List.getElem?_append_left (hl ▸ hj)⟩
 refine ⟨R.fh, R.gh, R.fg, hl, fun j e q => ?_, fun j e q => ?_, fun j k e f b q1 q2 r1 r2 => ?_, fun j e q hlt => ?_⟩
 · obtain ⟨h1, h2⟩ := up q
   rw [← h2]; exact R.val j e h1
 · obtain ⟨h1, h2⟩ := up q
   rw [← h2]; exact R.own j e h1
 · obtain ⟨h1, h2⟩ := up q1
   obtain ⟨h3, h4⟩ := up q2
   rw [← h2] at r1
   rw [← h4] at r2
   exact R.ne j k e f b h1 h3 r1 r2
 · obtain ⟨h1, h2⟩ := up q
   rw [← h2]; exact R.par j e h1 hlt
theorem Rst.last {d : D} {v : V} (R : Rst K c G H (σ ++ [some v]) (ρ ++ [.own d])) : RpR K c G H σ ρ v (.own d) := by
 have hl : ρ.length = σ.length := by
  have := R.len
  rw [List.length_append, List.length_append] at this
  simpa using this
 have l1 : (ρ ++ [S.own d])[ρ.length]? = some (.own d) := by rw [List.getElem?_append_right (Nat.le_refl _), Nat.sub_self]; rfl
 have l2 : (σ ++ [some v])[ρ.length]? = some (some v) := by rw [hl, List.getElem?_append_right (Nat.le_refl _), Nat.sub_self]; rfl
 obtain ⟨a, h1, h2, h3, h4⟩ := R.own _ _ l1
 rw [l2] at h1
 have e : v = .ref a := by simpa using h1
 subst e
 refine ⟨a, rfl, h2, h3, h4, fun j e q z => ?_⟩
 have hj := (List.getElem?_eq_some_iff.mp q).1
 have := R.ne j ρ.length e d a (by rw [List.getElem?_append_left hj]; exact q) l1 (by rw [List.getElem?_append_left (hl ▸ hj)]; exact z) l2
 omega
theorem Rst.made (R : Rst K c G H σ ρ) (hx : H x = none) (hdx : H dx = none) (ne : dx ≠ x) {n : Str} : Rst K c G (upd (upd H dx (.own x)) x (.ins (He.ga K n) dx [])) σ ρ ∧ RpR K c G (upd (upd H dx (.own x)) x (.ins (He.ga K n) dx [])) σ ρ (.ref x) (.own (.obj n [] [])) := by
 have hx1 : upd H dx (.own x) x = none := by rw [upd_ne (Ne.symm ne)]; exact hx
 have R1 := (R.laid (o := .own x) hdx).laid (o := .ins (He.ga K n) dx []) hx1
 refine ⟨R1, x, rfl, R.g_none hx, R.f_none hx, ⟨dx, [], upd_same, by rw [upd_ne ne, upd_same], R.g_none hdx, R.f_none hdx, ne, rfl, rfl⟩, R.not_slot hx⟩
theorem back1_snoc {i : Nat} {s t : S} (hi : i < ρ.length) : back1 i s (ρ ++ [t]) = back1 i s ρ ++ [t] := by
 unfold back1
 rw [List.getElem?_append_left hi]
 split
 · rw [List.set_append_left _ _ hi]
 · rfl
theorem back_snoc : ∀ {rs : List Rv} {ss : List S} {ρ : List S} {t : S}, (∀ i, Rv.ali i ∈ rs → i < ρ.length) → back rs ss (ρ ++ [t]) = back rs ss ρ ++ [t]
 | .ali i :: rs, s :: ss, ρ, t, h => by
  unfold back
  rw [back1_snoc (h i (by simp))]
  exact back_snoc fun j hj => by rw [back1_length]; exact h j (by simp [hj])
 | .val _ :: rs, _ :: ss, ρ, t, h => by unfold back; exact back_snoc fun j hj => h j (by simp [hj])
 | .own _ :: rs, _ :: ss, ρ, t, h => by unfold back; exact back_snoc fun j hj => h j (by simp [hj])
 | [], _, ρ, t, h => rfl
 | .ali i :: rs, [], ρ, t, h => rfl
 | .val _ :: rs, [], ρ, t, h => rfl
 | .own _ :: rs, [], ρ, t, h => rfl
end
def makeM (n : Str) (mu : List Bool) (fn : Fn) (rs : List Rv) : M Rv := fun ρ => match prep mu rs ρ with
 | some (.ok rs' ρ1) => if dist rs' = true then (match ssOfs ρ1 rs' with
  | some ss => (match fn (.own (.obj n [] []) :: ss) with
   | some (.ret (.val .non) (.own d :: ss')) => some (.ok (.own d) (back rs' ss' ρ1))
   | some (.ex e (_ :: ss')) => some (.ex e (back rs' ss' ρ1))
   | _ => none)
  | none => none) else none
 | _ => none
theorem ssOf_lt {ρ : List S} {i : Nat} {s : S} (h : ssOf ρ (.ali i) = some s) : i < ρ.length := by
 unfold ssOf at h
 dsimp only at h
 cases q : ρ[i]? with
 | none => rw [q] at h; cases h
 | some t => exact (List.getElem?_eq_some_iff.mp q).1
theorem ssOfs_lt {ρ : List S} : ∀ {rs : List Rv} {ss : List S}, ssOfs ρ rs = some ss → ∀ i, Rv.ali i ∈ rs → i < ρ.length
 | [], _, _, i, hi => by cases hi
 | r :: rs, ss, h, i, hi => by
  unfold ssOfs at h
  cases e1 : ssOf ρ r with
  | none => rw [e1] at h; cases h
  | some s =>
   cases e2 : ssOfs ρ rs with
   | none => rw [e1, e2] at h; cases h
   | some ss2 =>
    rcases List.mem_cons.mp hi with e | hi
    · subst e; exact ssOf_lt e1
    · exact ssOfs_lt e2 i hi
theorem ssOf_snoc {ρ : List S} {t : S} {r : Rv} {s : S} (h : ssOf ρ r = some s) : ssOf (ρ ++ [t]) r = some s := by
 cases r with
 | val d => exact h
 | own d => exact h
 | ali i =>
  have hi := ssOf_lt h
  unfold ssOf at h ⊢
  dsimp only at h ⊢
  rw [List.getElem?_append_left hi]; exact h
theorem ssOfs_snoc {ρ : List S} {t : S} : ∀ {rs : List Rv} {ss : List S}, ssOfs ρ rs = some ss → ssOfs (ρ ++ [t]) rs = some ss
 | [], _, h => h
 | r :: rs, ss, h => by
  unfold ssOfs at h ⊢
  cases e1 : ssOf ρ r with
  | none => rw [e1] at h; cases h
  | some s =>
   cases e2 : ssOfs ρ rs with
   | none => rw [e1, e2] at h; cases h
   | some ss2 =>
    rw [e1, e2] at h
    rw [ssOf_snoc e1, ssOfs_snoc e2]; exact h
theorem RpRs.snoc {K : PySem.W.Frag} {G : Hp} {σ : L2.St} {v : Option V} : ∀ {vs : List V} {rs : List Rv}, RpRs K G σ vs rs → RpRs K G (σ ++ [v]) vs rs
 | [], [], _ => trivial
 | u :: vs, .val d :: rs, ⟨h1, h2⟩ => ⟨h1, h2.snoc⟩
 | u :: vs, .ali i :: rs, ⟨h1, h2⟩ => ⟨by rw [List.getElem?_append_left (List.getElem?_eq_some_iff.mp h1).1]; exact h1, h2.snoc⟩
 | [], _ :: _, h => h.elim
 | _ :: _, [], h => h.elim
 | _ :: _, .own _ :: _, h => h.elim
section
variable {X : Cx} {W : WX} {x : Str} {k np : Nat} {fn : Fn} {mu : List Bool} {e o : Expr} {es : List Expr} {ga : M (List Rv)} {p pos : Pos}
structure DM (P : Program) (w : World) (K : PySem.W.Frag) (mg : Str → Option Value) (base : Heap) (x : Str) (k np : Nat) (fn : Fn) : Prop where
 len : ∀ ss o, fn ss = some o → ss.length = np
 ex : ∃ (f : Addr) (fd : FuncData) (ps : List Str), mg x = some (.ref (He.ga K x)) ∧ Mk K (He.ga K x) f ∧ Binds K fd ps [] ∧ FnOk P w K mg base (L2.CX P w) k f fd ps (spD K np fn)
def tMakeS (C : Addr) (sp : Sp) (E : L2.St → XK) (t : TA) : TE := fun σ H Q => t σ H fun vs H1 => ∀ x dx, H1 x = none → H1 dx = none → dx ≠ x →
 sp (.ref x :: vs) (upd (upd H1 dx (.own x)) x (.ins C dx [])) (fun v H2 => v = .non ∧ Q (.ref x) H2) (E σ)
theorem run_makeS {C f : Addr} {fd : FuncData} {ps : List Str} {sp : Sp} {E : L2.St → XK} {CXx : CXT} {pins : List (Addr × Obj)} {σ : L2.St} {H : Hp} {s : Shared} {Q : VK} {us : List Value} {vs : List V} (Mx : Mk X.K C f) (F : FnOk X.prog X.w X.K X.mg X.base CXx k f fd ps sp) (hr : Room (k + 1) X.A) (hb : Binds X.K fd ps [])
  (hx : PassesAt CXx X σ (E σ)) (I : Inv X pins σ H s) (r : Vals vs us)
  (h : ∀ x dx, H x = none → H dx = none → dx ≠ x → sp (.ref x :: vs) (upd (upd H dx (.own x)) x (.ins C dx [])) (fun v H2 => v = .non ∧ Q (.ref x) H2) (E σ)) :
  wpAny (model X.prog X.w) X.A (call (.ref C) us) (EP X pins σ Q) X.xe s := by
 have hq := h (s.heap.objs.size + 1) s.heap.objs.size (I.hok.fresh (Nat.le_succ _)) (I.hok.fresh (Nat.le_refl _)) (Nat.ne_of_lt (Nat.lt_succ_self _))
 have I2 := Inv.made (C := C) I
 have r2 : Vals (V.ref (s.heap.objs.size + 1) :: vs) (Value.ref (s.heap.objs.size + 1) :: us) := .cons rfl r
 have hl : (Value.ref (s.heap.objs.size + 1) :: us).length = ps.length := by
  have e := r2.length
  rw [F.len _ _ _ _ hq] at e
  exact e.symm
 refine wpAny_call (make_map (f := f) I.kIn Mx.makes Mx.init (beq_iff_eq.mp Mx.fn) (codeAny_mono (F.run _ X.stack _ _ ⟨Value.ref (s.heap.objs.size + 1) :: us, []⟩ (Value.ref (s.heap.objs.size + 1) :: us) _ _ (E σ) (hr.make C us [])
  (I2.env0.make C us []) (by
   have := hb _ (Value.ref (s.heap.objs.size + 1) :: us) I2.kIn (by rw [List.append_nil]; exact hl)
   rw [List.append_nil] at this; exact this) r2 hq) fun r s' hq' => ?_))
 cases r with
 | error e => exact hx pins _ _ e s' I2 hq'
 | ok fl =>
  cases fl with
  | ret u =>
   obtain ⟨v, H', I3, rv, ev, q3⟩ := I2.after hq'
   subst ev
   exact ⟨rv, ⟨V.ref (s.heap.objs.size + 1), H', I3, rfl, q3⟩⟩
  | next => exact False.elim hq'
  | brk => exact False.elim hq'
  | cont => exact False.elim hq'
theorem pe_makeS {C f : Addr} {fd : FuncData} {ps : List Str} {sp : Sp} {E : L2.St → XK} {CXx : CXT} {t : TA} (Mx : Mk X.K C f) (F : FnOk X.prog X.w X.K X.mg X.base CXx k f fd ps sp) (hr : Room (k + 1) X.A) (hg : Gl X x) (hm : X.mg x = some (.ref C)) (hb : Binds X.K fd ps []) (hx : ∀ σ, PassesAt CXx X σ (E σ))
  (ha : PA X (e :: es) t) (hdb : (x == ("__debug__" : Str)) = false := by decide) (he : starEach (e :: es) X.env = (false, eval e X.env) :: starEach es X.env := by rfl) (hpl : (backTo pos (starEach es X.env)).any (·.1) = false := by rfl) :
  PE X (.Call (.Name x p) (e :: es) [] pos) (tMakeS C sp E t) := by
 refine ⟨fun pins s σ H Q I h => ?_⟩
 refine wpAny_Call_Name_kw (ld_glob I hg hm ?_ hdb)
 refine PySem.W.callWith_K (h₀ := X.base) I.ok.mod.kin Mx.kp (thn (ha.run pos pins s σ H _ I h) fun us s1 ⟨vs, H1, I1, r, q⟩ => ⟨I1.kIn, ?_⟩) he hpl
 exact run_makeS Mx F hr hb (hx σ) I1 r q
def eMake (n : Str) (mu : List Bool) (fn : Fn) (ga : M (List Rv)) : M Rv := do
 let rs ← ga
 makeM n mu fn rs
def Cn.cut (c : Cn) (n : Nat) : Cn := { c with s0 := c.s0.take n }
theorem Rst.cut {K : PySem.W.Frag} {c : Cn} {G H : Hp} {σ : L2.St} {ρ : List S} (R : Rst K c G H σ ρ) : Rst K (c.cut σ.length) G H σ ρ :=
 ⟨R.fh, R.gh, R.fg, R.len, R.val, R.own, R.ne, fun i d e hl => by
  have h1 : i < (c.s0.take σ.length).length := hl
  rw [List.length_take] at h1
  show σ[i]? = (c.s0.take σ.length)[i]?
  rw [List.getElem?_take_of_lt (by omega)]
  exact R.par i d e (by omega)⟩
theorem Rst.uncut {K : PySem.W.Frag} {c : Cn} {G H : Hp} {σ : L2.St} {ρ : List S} (R : Rst K (c.cut σ.length) G H σ ρ) : Rst K c G H σ ρ :=
 ⟨R.fh, R.gh, R.fg, R.len, R.val, R.own, R.ne, fun i d e hl => by
  have hi : i < σ.length := by
   rw [← R.len]; exact (List.getElem?_eq_some_iff.mp e).1
  have h2 : i < (c.cut σ.length).s0.length := by
   show i < (c.s0.take σ.length).length
   rw [List.length_take]; omega
  have h3 : σ[i]? = (c.s0.take σ.length)[i]? := R.par i d e h2
  rw [h3, List.getElem?_take_of_lt hi]⟩
theorem make_sp {c : Cn} {G0 G H : Hp} {σ : L2.St} {ρ : List S} {rs : List Rv} {vs : List V} {Q : VK} {n : Str} {a dx : Addr} (R : Rst X.K c G H σ ρ) (s0 : Same G0 G) (hv : RpRs X.K G σ vs rs) (hl : ∀ ss o, fn ss = some o → ss.length = np)
  (w : wpM (makeM n mu fn rs ρ) (fun r ρ' => ∀ v G' H', Rst X.K c G' H' σ ρ' → Same G0 G' → RpR X.K c G' H' σ ρ' v r → Q v H') (EXk X.K c W σ G0)) (hx : H a = none) (hdx : H dx = none) (ne : dx ≠ a) :
  spD X.K np fn (.ref a :: vs) (upd (upd H dx (.own a)) a (.ins (He.ga X.K n) dx [])) (fun v H2 => v = .non ∧ Q (.ref a) H2) (WE W σ) := by
 unfold makeM at w
 have wp : wpM (prep mu rs ρ) (fun rs' ρ1 => wpM (if dist rs' = true then (match ssOfs ρ1 rs' with
  | some ss => (match fn (.own (.obj n [] []) :: ss) with
   | some (.ret (.val .non) (.own d :: ss')) => some (.ok (.own d) (back rs' ss' ρ1))
   | some (.ex e (_ :: ss')) => some (.ex e (back rs' ss' ρ1))
   | _ => none)
  | none => none) else none) (fun r ρ' => ∀ v G' H', Rst X.K c G' H' σ ρ' → Same G0 G' → RpR X.K c G' H' σ ρ' v r → Q v H') (EXk X.K c W σ G0)) (fun _ _ => False) := by
  cases q : prep mu rs ρ with
  | none => rw [q] at w; exact w
  | some o => cases o with
   | ok a ρ1 => rw [q] at w; exact w
   | ex e ρ1 => rw [q] at w; exact w.elim
 obtain ⟨rs', G1, ρ1, s1, R1, k1, w1⟩ := prep_wp R hv wp
 by_cases hd : dist rs' = true
 · rw [if_pos hd] at w1
   cases hs : ssOfs ρ1 rs' with
   | none => rw [hs] at w1; exact w1.elim
   | some ss =>
    rw [hs] at w1
    dsimp only at w1
    obtain ⟨R2, k2⟩ := R1.cut.made (n := n) hx hdx ne
    have R3 := R2.snoc (by show (c.s0.take σ.length).length ≤ σ.length; rw [List.length_take]; omega) k2
    have hlen : ρ1.length = σ.length := R1.len
    have get0 : (ρ1 ++ [S.own (.obj n [] [])])[ρ1.length]? = some (.own (.obj n [] [])) := by rw [List.getElem?_append_right (Nat.le_refl _), Nat.sub_self]; rfl
    have gets : (σ ++ [some (V.ref a)])[ρ1.length]? = some (some (V.ref a)) := by rw [hlen, List.getElem?_append_right (Nat.le_refl _), Nat.sub_self]; rfl
    have lt := ssOfs_lt hs
    have hd3 : dist (.ali ρ1.length :: rs') = true := by
     show (!rs'.any (isAli ρ1.length) && dist rs') = true
     rw [hd, Bool.and_true]
     have : rs'.any (isAli ρ1.length) = false := by
      rw [List.any_eq_false]
      intro r hr z
      cases r with
      | ali j =>
       have : ρ1.length = j := by simpa [isAli] using z
       have h2 := lt j hr
       omega
      | val d => cases z
      | own d => cases z
     rw [this]; rfl
    have hs3 : ssOfs (ρ1 ++ [S.own (.obj n [] [])]) (.ali ρ1.length :: rs') = some (.own (.obj n [] []) :: ss) := by
     unfold ssOfs
     rw [ssOfs_snoc hs]
     have : ssOf (ρ1 ++ [S.own (.obj n [] [])]) (.ali ρ1.length) = some (.own (.obj n [] [])) := by
      unfold ssOf
      dsimp only
      rw [get0]
     rw [this]
    have hv3 : RpRs X.K G1 (σ ++ [some (V.ref a)]) (V.ref a :: vs) (.ali ρ1.length :: rs') := ⟨gets, k1.snoc⟩
    cases hf : fn (.own (.obj n [] []) :: ss) with
    | none => rw [hf] at w1; exact w1.elim
    | some o =>
     rw [hf] at w1
     refine ⟨⟨calleeF (σ ++ [some (V.ref a)]) (ρ1 ++ [S.own (.obj n [] [])]) G1 _ (.ali ρ1.length :: rs'), (V.ref a :: vs).map some⟩, G1, _, o, by rw [← hl _ o hf]; exact (dargs_get hv3 hs3).1.symm, rfl, R3.callee hv3 hd3 hs3, hf, ?_⟩
     have fin : ∀ {s0' : S} {ss' : List S} {G' H' : Hp}, Same G1 G' → Rst X.K ⟨calleeF (σ ++ [some (V.ref a)]) (ρ1 ++ [S.own (.obj n [] [])]) G1 _ (.ali ρ1.length :: rs'), (V.ref a :: vs).map some⟩ G' H' ((V.ref a :: vs).map some) (s0' :: ss') →
       ∃ t, Rst X.K (c.cut σ.length) G' H' (σ ++ [some (V.ref a)]) (back rs' ss' ρ1 ++ [t]) ∧ ∀ d, s0' = .own d → t = .own d := fun {s0' ss' G' H'} sm R' => by
      have R4 := R3.called hv3 hs3 sm R'
      have e : back (.ali ρ1.length :: rs') (s0' :: ss') (ρ1 ++ [S.own (.obj n [] [])]) = back rs' ss' ρ1 ++ [ownOr s0'] := by
       conv => lhs; unfold back
       have e1 : back1 ρ1.length s0' (ρ1 ++ [S.own (.obj n [] [])]) = ρ1 ++ [ownOr s0'] := by
        unfold back1
        rw [get0]
        show (if true = true then _ else _) = _
        rw [if_pos rfl, List.set_append_right _ _ (Nat.le_refl _), Nat.sub_self]
        rfl
       rw [e1]
       exact back_snoc lt
      rw [e] at R4
      exact ⟨_, R4, fun d hd => by rw [hd]; rfl⟩
     cases o with
     | ret q ss' =>
      intro v G' H' R' s' kq
      cases q with
      | val d =>
       cases d <;> first
        | exact w1.elim
        | (cases ss' with
         | nil => exact w1.elim
         | cons s0' ss' =>
          cases s0' with
          | no => exact w1.elim
          | val _ => exact w1.elim
          | own d =>
           obtain ⟨t, R5, ht⟩ := fin s' R'
           rw [ht d rfl] at R5
           exact ⟨kq, w1 (.ref a) G' H' R5.unsnoc.uncut ((s0.trans s1).trans s') R5.last⟩)
      | own d => exact w1.elim
      | ali i => exact w1.elim
     | ex e ss' =>
      intro cls d G' H' R' s' xa
      cases ss' with
      | nil => exact w1.elim
      | cons s0' ss' =>
       obtain ⟨t, R5, _⟩ := fin s' R'
       exact w1 cls d G' H' R5.unsnoc.uncut ((s0.trans s1).trans s') xa
 · rw [if_neg hd] at w1; exact w1.elim
theorem de_make (mu : List Bool) (go : Go X W) (F : DM X.prog X.w X.K X.mg X.base x k np fn) (hr : Room (k + 1) X.A) (hg : Gl X x) (ha : DA X W (e :: es) ga)
  (hdb : (x == ("__debug__" : Str)) = false := by decide) (he : starEach (e :: es) X.env = (false, eval e X.env) :: starEach es X.env := by rfl) (hpl : (backTo pos (starEach es X.env)).any (·.1) = false := by rfl) :
  DE X W (.Call (.Name x p) (e :: es) [] pos) (eMake x mu fn ga) := by
 obtain ⟨f, fd, ps, hm, hk, hb, FO⟩ := F.ex
 refine ⟨(pe_makeS (E := WE W) hk FO hr hg hm hb (wish_of go.tk) ha.pa hdb he hpl).weak fun σ H Q ⟨c, G, ρ, R, w⟩ => ?_⟩
 refine tg_step R (Same.refl G) w fun rs ρ1 vs G1 H1 R1 s1 _ k1 w1 => ?_
 exact fun x dx hx hdx ne => make_sp R1 s1 k1 F.len w1 hx hdx ne
structure DMeth (P : Program) (w : World) (K : PySem.W.Frag) (mg : Str → Option Value) (base : Heap) (n m : Str) (k np : Nat) (fn : Fn) : Prop where
 len : ∀ ss o, fn ss = some o → ss.length = np
 cl : Cls K (He.ga K n)
 ex : ∃ (f : Addr) (fd : FuncData) (ps : List Str), Meth K (He.ga K n) m f ∧ Binds K fd ps [] ∧ FnOk P w K mg base (L2.CX P w) k f fd ps (spD K np fn)
def tMethS (C : Addr) (m : Str) (sp : Sp) (E : L2.St → XK) (ta : TE) (t : TA) : TE := fun σ H Q => ta σ H fun x H1 => ∃ a dx fs, x = .ref a ∧ H1 a = some (.ins C dx fs) ∧ fs.lookup m = none ∧
 t σ H1 fun vs H2 => sp (x :: vs) H2 Q (E σ)
theorem pe_methS {C f : Addr} {m : Str} {fd : FuncData} {ps : List Str} {sp : Sp} {E : L2.St → XK} {CXx : CXT} {t : TA} {ta : TE} {apos : Pos} {pl : Sem Bool} (he : PE X o ta) (c : Cls X.K C) (hm : Meth X.K C m f) (F : FnOk X.prog X.w X.K X.mg X.base CXx k f fd ps sp) (hr : Room k X.A) (hb : Binds X.K fd ps []) (hx : ∀ σ, PassesAt CXx X σ (E σ)) (ha : PA X (e :: es) t)
  (hst : starEach (e :: es) X.env = (false, eval e X.env) :: starEach es X.env := by rfl) (hpl : (backTo pos (starEach es X.env)).any (·.1) = false := by rfl)
  (ht : eval (.Call (.Attribute o m apos) (e :: es) [] pos) X.env = (do
   let ov ← eval o X.env
   standAt apos.atName
   let (f, first) ← holding [ov] (getMethod ov m pl)
   callWith pos f first (backTo pos (starEach (e :: es) X.env)) (backToKw pos (keywordEach [] X.env))) := by rfl) :
  PE X (.Call (.Attribute o m apos) (e :: es) [] pos) (tMethS C m sp E ta t) := by
 refine ⟨fun pins s σ H Q I h => ?_⟩
 refine PySem.W.methodCall_KW (pl := pl) (thn (he.run pins s σ H _ I h) fun u s1 ⟨x, H1, I1, rx, a, dx, fs, ex, ea, l, q⟩ => ?_) ht
 subst ex
 obtain rfl : u = Value.ref a := rx
 refine getmeth_ok I1 ea c hm l ?_
 refine PySem.W.callWith_K (first := [.ref a]) (h₀ := X.base) I.ok.mod.kin hm.kp (thn (ha.run pos pins s1 σ H1 _ I1 q) fun us s2 ⟨vs, H2, I2, r, q2⟩ => ⟨I2.kIn, ?_⟩) hst hpl
 have z := run_fnSD (us := .ref a :: us) (vs := .ref a :: vs) (dvs := []) (ds := []) (E := E) F hr hb .nil (hx σ) I2 (.cons rfl r) (by rw [List.append_nil]; exact q2)
 exact z
theorem pe_methS0 {C f : Addr} {m : Str} {fd : FuncData} {ps : List Str} {sp : Sp} {E : L2.St → XK} {CXx : CXT} {ta : TE} {apos : Pos} {pl : Sem Bool} (he : PE X o ta) (c : Cls X.K C) (hm : Meth X.K C m f) (F : FnOk X.prog X.w X.K X.mg X.base CXx k f fd ps sp) (hr : Room k X.A) (hb : Binds X.K fd ps []) (hx : ∀ σ, PassesAt CXx X σ (E σ))
  (ht : eval (.Call (.Attribute o m apos) [] [] pos) X.env = (do
   let ov ← eval o X.env
   standAt apos.atName
   let (f, first) ← holding [ov] (getMethod ov m pl)
   callWith pos f first (backTo pos (starEach [] X.env)) (backToKw pos (keywordEach [] X.env))) := by rfl) :
  PE X (.Call (.Attribute o m apos) [] [] pos) (tMethS C m sp E ta tNil) := by
 refine ⟨fun pins s σ H Q I h => ?_⟩
 refine PySem.W.methodCall_KW (pl := pl) (thn (he.run pins s σ H _ I h) fun u s1 ⟨x, H1, I1, rx, a, dx, fs, ex, ea, l, q⟩ => ?_) ht
 subst ex
 obtain rfl : u = Value.ref a := rx
 refine getmeth_ok I1 ea c hm l ?_
 exact PySem.W.callWith_K0 (first := [.ref a]) I1.kIn hm.kp (run_fnSD (us := [.ref a]) (vs := [.ref a]) (dvs := []) (ds := []) (E := E) F hr hb .nil (hx σ) I1 (.cons rfl .nil) (by rw [List.append_nil]; exact q))
def ckO (n m : Str) (r : Rv) : M Unit := do
 let d ← peek r
 match d with
 | .obj n' ns _ => if n' = n ∧ m ∉ ns then pure () else M.fail
 | _ => M.fail
def eMeth (n m : Str) (mu : List Bool) (fn : Fn) (fo : M Rv) (ga : M (List Rv)) : M Rv := do
 let r ← fo
 ckO n m (settle r)
 let rs ← ga
 callM mu fn (settle r :: rs)
theorem ckO_wp {K : PySem.W.Frag} {c : Cn} {G H : Hp} {σ : L2.St} {ρ : List S} {v : V} {r : Rv} {n m : Str} {OK : Unit → List S → Prop} {EX : Xn → List S → Prop} (R : Rst K c G H σ ρ) (k : RpR K c G H σ ρ v r) (w : wpM (ckO n m r ρ) OK EX) :
  (∃ a dx fs, v = V.ref a ∧ H a = some (.ins (He.ga K n) dx fs) ∧ fs.lookup m = none) ∧ OK () ρ := by
 obtain ⟨d, kd, w2⟩ := peek_wp R k (wpM_bind w)
 cases d <;> first
  | exact w2.elim
  | (rename_i n' ns ds
     dsimp only at w2
     by_cases hn : n' = n ∧ m ∉ ns
     · rw [if_pos hn] at w2
       obtain ⟨a, dx, xs, h1, h2, _, _⟩ := kd.obj R.gh
       rw [hn.1] at h2
       exact ⟨⟨a, dx, _, h1, h2, no_lookup hn.2⟩, w2⟩
     · rw [if_neg hn] at w2; exact w2.elim)
theorem de_meth {n m : Str} {fo : M Rv} {apos : Pos} {pl : Sem Bool} (mu : List Bool) (go : Go X W) (F : DMeth X.prog X.w X.K X.mg X.base n m k np fn) (hr : Room k X.A) (ho : DE X W o fo) (ha : DA X W (e :: es) ga)
  (hst : starEach (e :: es) X.env = (false, eval e X.env) :: starEach es X.env := by rfl) (hpl : (backTo pos (starEach es X.env)).any (·.1) = false := by rfl)
  (ht : eval (.Call (.Attribute o m apos) (e :: es) [] pos) X.env = (do
   let ov ← eval o X.env
   standAt apos.atName
   let (f, first) ← holding [ov] (getMethod ov m pl)
   callWith pos f first (backTo pos (starEach (e :: es) X.env)) (backToKw pos (keywordEach [] X.env))) := by rfl) :
  DE X W (.Call (.Attribute o m apos) (e :: es) [] pos) (eMeth n m mu fn fo ga) := by
 obtain ⟨f, fd, ps, hm, hb, FO⟩ := F.ex
 refine ⟨(pe_methS (E := WE W) (pl := pl) ho.pe F.cl hm FO hr hb (wish_of go.tk) ha.pa hst hpl ht).weak fun σ H Q ⟨c, G, ρ, R, w⟩ => ?_⟩
 refine tg_step R (Same.refl G) w fun r ρ1 v G1 H1 R1 s1 _ k1 w1 => ?_
 obtain ⟨G1', s1', R1', k1'⟩ := settle_ok R1 k1
 obtain ⟨⟨a, dx, fs, ev, hH, hno⟩, w2⟩ := ckO_wp R1' k1'.one (wpM_bind w1)
 refine ⟨a, dx, fs, ev, hH, hno, ?_⟩
 refine tg_step R1' (s1.trans s1') w2 fun rs ρ2 vs G2 H2 R2 s2 s12 k2 w3 => ?_
 exact call_sp R2 s2 (RpRs.cons (k1'.mono s12) k2) F.len w3
theorem de_meth0 {n m : Str} {fo : M Rv} {apos : Pos} {pl : Sem Bool} (mu : List Bool) (go : Go X W) (F : DMeth X.prog X.w X.K X.mg X.base n m k np fn) (hr : Room k X.A) (ho : DE X W o fo)
  (ht : eval (.Call (.Attribute o m apos) [] [] pos) X.env = (do
   let ov ← eval o X.env
   standAt apos.atName
   let (f, first) ← holding [ov] (getMethod ov m pl)
   callWith pos f first (backTo pos (starEach [] X.env)) (backToKw pos (keywordEach [] X.env))) := by rfl) :
  DE X W (.Call (.Attribute o m apos) [] [] pos) (eMeth n m mu fn fo aNil) := by
 obtain ⟨f, fd, ps, hm, hb, FO⟩ := F.ex
 refine ⟨(pe_methS0 (E := WE W) (pl := pl) ho.pe F.cl hm FO hr hb (wish_of go.tk) ht).weak fun σ H Q ⟨c, G, ρ, R, w⟩ => ?_⟩
 refine tg_step R (Same.refl G) w fun r ρ1 v G1 H1 R1 s1 _ k1 w1 => ?_
 obtain ⟨G1', s1', R1', k1'⟩ := settle_ok R1 k1
 obtain ⟨⟨a, dx, fs, ev, hH, hno⟩, w2⟩ := ckO_wp R1' k1'.one (wpM_bind w1)
 refine ⟨a, dx, fs, ev, hH, hno, ?_⟩
 have w3 : wpM (callM mu fn [settle r] ρ1) _ _ := w2
 exact call_sp R1' (s1.trans s1') (RpRs.cons (vs := []) (rs := []) k1' trivial) F.len w3
end
end Dl
namespace Dl
open PySem L2
def zipD (as bs : List D) : List D := List.zipWith (fun a b => D.tup [a, b]) as bs
def dZip : List D → Option (List D)
 | [.lst as, .lst bs] => if (zipD as bs).length ≤ 16777216 then some (zipD as bs) else none
 | [.tup as, .tup bs] => if (zipD as bs).length ≤ 16777216 then some (zipD as bs) else none
 | _ => none
def iZip (ga : M (List Rv)) : M (List D) := do
 let rs ← ga
 let ds ← toVs rs
 ofO (dZip ds)
section
variable {X : Cx} {W : WX} {np : Nat} {a b e tg : Expr} {es : List Expr} {fa fb : M Rv} {ga : M (List Rv)} {p p2 pos tpos : Pos}
end
section
variable {X : Cx} {W : WX} {a b e o : Expr} {fa fb : M Rv} {p p2 pos : Pos} {k np : Nat} {fn : Fn}
def ckC (n : Str) (r : Rv) : M Unit := do
 let d ← peek r
 match d with
 | .obj n' _ _ => if n' = n then pure () else M.fail
 | _ => M.fail
def eOwn2 (n : Str) (mu : List Bool) (fn : Fn) (fo fb : M Rv) : M Rv := do
 let r ← fo
 let q ← fb
 ckC n (settle r)
 ckC n (settle q)
 callM mu fn [settle r, settle q]
theorem ckC_wp {K : PySem.W.Frag} {c : Cn} {G H : Hp} {σ : L2.St} {ρ : List S} {v : V} {r : Rv} {n : Str} {OK : Unit → List S → Prop} {EX : Xn → List S → Prop} (R : Rst K c G H σ ρ) (k : RpR K c G H σ ρ v r) (w : wpM (ckC n r ρ) OK EX) :
  (∃ a dx fs, v = V.ref a ∧ H a = some (.ins (He.ga K n) dx fs)) ∧ OK () ρ := by
 obtain ⟨d, kd, w2⟩ := peek_wp R k (wpM_bind w)
 cases d <;> first
  | exact w2.elim
  | (rename_i n' ns ds
     dsimp only at w2
     by_cases hn : n' = n
     · rw [if_pos hn] at w2
       obtain ⟨a, dx, xs, h1, h2, _, _⟩ := kd.obj R.gh
       rw [hn] at h2
       exact ⟨⟨a, dx, _, h1, h2⟩, w2⟩
     · rw [if_neg hn] at w2; exact w2.elim)
end
end Dl
namespace Dl
open PySem L2
def tCmp (f : M Rv) : M Bool := do
 let r ← f
 match r with
 | .val (.bl b) => pure b
 | _ => M.fail
section
variable {X : Cx} {W : WX} {a b : Expr} {fa fb : M Rv} {pos : Pos} {r : R2} {g : D → D → Option Rv}
theorem tD_cmp {K : PySem.W.Frag} {f : M Rv} {σ : L2.St} {H : Hp} {Q : Bool → Hp → Prop} (h : tDT K W (tCmp f) σ H Q) : tD K W f σ H (fun x H' => ∃ k, x = V.bl k ∧ Q k H') := by
 obtain ⟨c, G, ρ, R, w⟩ := h
 refine tg_step R (Same.refl G) w fun x ρ1 v G1 H1 R1 s1 _ k1 w1 => ?_
 cases x with
 | val d => cases d with
  | bl b => exact ⟨b, k1, w1 b G1 H1 R1 s1 rfl⟩
  | _ => exact w1.elim
 | _ => exact w1.elim
theorem dt_cmp {op : CmpOp} (ho : OpR X (compareOp op) r) (hg : BinR X.K r g) (ha : DE X W a fa) (hb : DE X W b fb) (hm : behindInMarks op b = false := by rfl) : DT X W (.Compare a [op] [b] pos) (tCmp (mBin g fa fb)) :=
 ⟨(pt_cmpR ho ha.pe hb.pe hm).weak fun _ _ _ h => tD_bin hg (tD_cmp h)⟩
theorem dt_lt (ha : DE X W a fa) (hb : DE X W b fb) : DT X W (.Compare a [.Lt] [b] pos) (tCmp (eLt fa fb)) := let ⟨_, h1, h2⟩ := lt_op; dt_cmp h1 h2 ha hb (nomark _)
theorem dt_gt (ha : DE X W a fa) (hb : DE X W b fb) : DT X W (.Compare a [.Gt] [b] pos) (tCmp (eGt fa fb)) := let ⟨_, h1, h2⟩ := gt_op; dt_cmp h1 h2 ha hb (nomark _)
theorem dt_ge (ha : DE X W a fa) (hb : DE X W b fb) : DT X W (.Compare a [.GtE] [b] pos) (tCmp (eGe fa fb)) := let ⟨_, h1, h2⟩ := ge_op; dt_cmp h1 h2 ha hb (nomark _)
theorem dt_eq (hu : Rm X) (ha : DE X W a fa) (hb : DE X W b fb) : DT X W (.Compare a [.Eq] [b] pos) (tCmp (eEq fa fb)) := dt_cmp (op_eqD (Nat.lt_of_succ_lt hu)) eq_ok ha hb (nomark _)
theorem dt_ne (hu : Rm X) (ha : DE X W a fa) (hb : DE X W b fb) : DT X W (.Compare a [.NotEq] [b] pos) (tCmp (eNe fa fb)) := dt_cmp (op_neD (Nat.lt_of_succ_lt hu)) ne_ok ha hb (nomark _)
theorem dt_in (hu : Rm X) (ha : DE X W a fa) (hb : DE X W b fb) (hm : behindInMarks .In b = false := by rfl) : DT X W (.Compare a [.In] [b] pos) (tCmp (eIn fa fb)) := dt_cmp (op_in_seq.or (op_inD hu)) (BinR.or in_ok inD_ok) ha hb hm
theorem dt_is (ha : DE X W a fa) (hb : DE X W b fb) : DT X W (.Compare a [.Is] [b] pos) (tCmp (eIs fa fb)) := dt_cmp (op_isN.or op_isBl) is_ok ha hb (nomark _)
theorem dt_isNot (ha : DE X W a fa) (hb : DE X W b fb) : DT X W (.Compare a [.IsNot] [b] pos) (tCmp (eIsNot fa fb)) := dt_cmp (op_notN.or op_notBl) notN_ok ha hb (nomark _)
theorem de_tyN {x : Str} {n : String} (hm : X.mg x = none) (hv : bootBuiltins x = some (.type n)) (hg : Gl X x := by exact rfl) (hn : x ≠ "__name__" := by decide) (hd : (x == ("__debug__" : Str)) = false := by decide) : DE X W (.Name x pos) (eC (.ty n)) :=
 de_cv (v := .ty n) (pe_bltn hg hm hv rfl hn hd) fun _ => rfl
theorem de_len {x : Expr} {ga : M (List Rv)} {p : Pos} (hm : X.mg "len" = none) (ha : DA X W [x] ga) (hg : Gl X "len" := by exact rfl) (he : starEach [x] X.env = (false, eval x X.env) :: starEach [] X.env := by rfl) (hpl : (backTo pos (starEach [] X.env)).any (·.1) = false := by rfl) :
  DE X W (.Call (.Name "len" p) [x] [] pos) (eB gLen ga) := de_B call_len len_ok hg hm boot_len ha (by decide) (by decide) he hpl
theorem de_int1 {x : Expr} {ga : M (List Rv)} {p : Pos} (hm : X.mg "int" = none) (ha : DA X W [x] ga) (hg : Gl X "int" := by exact rfl) (he : starEach [x] X.env = (false, eval x X.env) :: starEach [] X.env := by rfl) (hpl : (backTo pos (starEach [] X.env)).any (·.1) = false := by rfl) :
  DE X W (.Call (.Name "int" p) [x] [] pos) (eB gInt ga) := de_Ty call_int1 int_ok hg hm PyProof.Rows.boot_int ha (by decide) (by decide) he hpl
theorem de_tuple {x : Expr} {ga : M (List Rv)} {p : Pos} (hm : X.mg "tuple" = none) (ha : DA X W [x] ga) (hg : Gl X "tuple" := by exact rfl) (he : starEach [x] X.env = (false, eval x X.env) :: starEach [] X.env := by rfl) (hpl : (backTo pos (starEach [] X.env)).any (·.1) = false := by rfl) :
  DE X W (.Call (.Name "tuple" p) [x] [] pos) (eB gTuple ga) := de_Ty call_tuple_of tuple_ok hg hm PyProof.Rows.boot_tuple ha (by decide) (by decide) he hpl
theorem de_min2 {x y : Expr} {ga : M (List Rv)} {p : Pos} (go : Go X W) (hm : X.mg "min" = none) (ha : DA X W [x, y] ga) (hg : Gl X "min" := by exact rfl) (he : starEach [x, y] X.env = (false, eval x X.env) :: starEach [y] X.env := by rfl) (hpl : (backTo pos (starEach [y] X.env)).any (·.1) = false := by rfl) :
  DE X W (.Call (.Name "min" p) [x, y] [] pos) (eB gMin2 ga) := de_B (call_min2 go.calm) min2_ok hg hm PyProof.Rows.boot_min ha (by decide) (by decide) he hpl
theorem de_max1 {x : Expr} {ga : M (List Rv)} {p : Pos} (go : Go X W) (hm : X.mg "max" = none) (ha : DA X W [x] ga) (hg : Gl X "max" := by exact rfl) (he : starEach [x] X.env = (false, eval x X.env) :: starEach [] X.env := by rfl) (hpl : (backTo pos (starEach [] X.env)).any (·.1) = false := by rfl) :
  DE X W (.Call (.Name "max" p) [x] [] pos) (eB gMaxL ga) := de_B (cr_max go.calm) maxL_ok hg hm PyProof.Rows.boot_max ha (by decide) (by decide) he hpl
theorem de_sorted {x : Expr} {ga : M (List Rv)} {p : Pos} (hm : X.mg "sorted" = none) (ha : DA X W [x] ga) (hg : Gl X "sorted" := by exact rfl) (he : starEach [x] X.env = (false, eval x X.env) :: starEach [] X.env := by rfl) (hpl : (backTo pos (starEach [] X.env)).any (·.1) = false := by rfl) :
  DE X W (.Call (.Name "sorted" p) [x] [] pos) (eB gSorted ga) := de_B cr_sortedI sorted_ok hg hm PyProof.Rows.boot_sorted ha (by decide) (by decide) he hpl
theorem de_isi {x y : Expr} {ga : M (List Rv)} {p : Pos} (hm : X.mg "isinstance" = none) (ha : DA X W [x, y] ga) (hg : Gl X "isinstance" := by exact rfl) (he : starEach [x, y] X.env = (false, eval x X.env) :: starEach [y] X.env := by rfl) (hpl : (backTo pos (starEach [y] X.env)).any (·.1) = false := by rfl) :
  DE X W (.Call (.Name "isinstance" p) [x, y] [] pos) (eB gIsi ga) := de_B call_isi isi_ok hg hm PyProof.Rows.boot_isinstance ha (by decide) (by decide) he hpl
end
section
variable {P : Program} {w : World} {K : PySem.W.Frag} {mg : Str → Option Value} {base : Heap} {x m : Str} {j k np : Nat} {fn fn' : Fn}
theorem DF.up (F : DF P w K mg base x j np fn) (h : j ≤ k) : DF P w K mg base x k np fn := let ⟨f, fd, ps, h1, h2, h3, h4⟩ := F.ex; ⟨F.len, f, fd, ps, h1, h2, h3, h4.mono h⟩
theorem DM.up (F : DM P w K mg base x j np fn) (h : j ≤ k) : DM P w K mg base x k np fn := let ⟨f, fd, ps, h1, h2, h3, h4⟩ := F.ex; ⟨F.len, f, fd, ps, h1, h2, h3, h4.mono h⟩
theorem DMeth.up (F : DMeth P w K mg base x m j np fn) (h : j ≤ k) : DMeth P w K mg base x m k np fn := let ⟨f, fd, ps, h1, h2, h3⟩ := F.ex; ⟨F.len, F.cl, f, fd, ps, h1, h2, h3.mono h⟩
def Fn.le (fn' fn : Fn) : Prop := ∀ ss o, fn' ss = some o → fn ss = some o
theorem spD_imp {vs : List V} {H : Hp} {Q : VK} {E : XK} (h : Fn.le fn' fn) (q : spD K np fn' vs H Q E) : spD K np fn vs H Q E := let ⟨c, G, ss, o, h1, h2, h3, h4, h5⟩ := q; ⟨c, G, ss, o, h1, h2, h3, h _ _ h4, h5⟩
theorem DF.imp (F : DF P w K mg base x k np fn) (h : Fn.le fn' fn) : DF P w K mg base x k np fn' := let ⟨f, fd, ps, h1, h2, h3, h4⟩ := F.ex; ⟨fun ss o e => F.len ss o (h _ _ e), f, fd, ps, h1, h2, h3, h4.imp fun _ _ _ _ q => spD_imp h q⟩
theorem DM.imp (F : DM P w K mg base x k np fn) (h : Fn.le fn' fn) : DM P w K mg base x k np fn' := let ⟨f, fd, ps, h1, h2, h3, h4⟩ := F.ex; ⟨fun ss o e => F.len ss o (h _ _ e), f, fd, ps, h1, h2, h3, h4.imp fun _ _ _ _ q => spD_imp h q⟩
theorem DMeth.imp (F : DMeth P w K mg base x m k np fn) (h : Fn.le fn' fn) : DMeth P w K mg base x m k np fn' := let ⟨f, fd, ps, h1, h2, h3⟩ := F.ex; ⟨fun ss o e => F.len ss o (h _ _ e), F.cl, f, fd, ps, h1, h2, h3.imp fun _ _ _ _ q => spD_imp h q⟩
theorem mkFn_len {np n : Nat} {f : MS} : ∀ ss o, mkFn np n f ss = some o → ss.length = np := fun ss o e => by
 unfold mkFn at e
 by_cases h : ss.length = np
 · exact h
 · rw [if_neg h] at e; cases e
def Body (P : Program) (w : World) (K : PySem.W.Frag) (mg : Str → Option Value) (base : Heap) (N : List Str) (qual : Str) (scope : Scope) (f : Addr) (body : List Stmt) (np k : Nat) (fb : MS) : Prop :=
 ∀ (cdv : Value) (A : Around) (outer : List Env) (s : Shared) (H : Hp) (E : XK), Room k (A.deeper (PyProof.Rows.envOfC qual scope s.heap.objs.size f cdv)) → DL (cxOf (L2.CX P w) P w K mg base N qual scope f cdv A outer s H E) (WB E) np body fb
theorem df_of {ps N : List Str} {f : Addr} {fd : FuncData} {qual : Str} {params : Arguments} {body : List Stmt} {scope : Scope} {fb : MS} (F : FunD K x qual params body scope [] [] f fd) (S : FnScope N ps scope) (hm : mg x = some (.ref f)) (hb : Binds K fd ps [])
  (h : Body P w K mg base N qual scope f body ps.length k fb) : DF P w K mg base x (k + 1) ps.length (mkFn ps.length N.length fb) :=
 ⟨mkFn_len, f, fd, ps, hm, F.kp, hb, fn_data F S h⟩
theorem dm_of {ps N : List Str} {f : Addr} {fd : FuncData} {qual y : Str} {params : Arguments} {body : List Stmt} {scope : Scope} {fb : MS} (F : FunD K y qual params body scope [] [] f fd) (S : FnScope N ps scope) (hm : mg x = some (.ref (He.ga K x))) (hk : Mk K (He.ga K x) f) (hb : Binds K fd ps [])
  (h : Body P w K mg base N qual scope f body ps.length k fb) : DM P w K mg base x (k + 1) ps.length (mkFn ps.length N.length fb) :=
 ⟨mkFn_len, f, fd, ps, hm, hk, hb, fn_data F S h⟩
theorem dmeth_of {ps N : List Str} {f : Addr} {fd : FuncData} {qual y : Str} {params : Arguments} {body : List Stmt} {scope : Scope} {fb : MS} (F : FunD K y qual params body scope [] [] f fd) (S : FnScope N ps scope) (c : Cls K (He.ga K x)) (hk : Meth K (He.ga K x) m f) (hb : Binds K fd ps [])
  (h : Body P w K mg base N qual scope f body ps.length k fb) : DMeth P w K mg base x m (k + 1) ps.length (mkFn ps.length N.length fb) :=
 ⟨mkFn_len, c, f, fd, ps, hk, hb, fn_data F S h⟩
end
end Dl
namespace Dl
open PySem L2
abbrev Ar : Type := List (Addr × List D)
abbrev keys (A : Ar) : List Addr := A.map (·.1)
structure RepA (K : PySem.W.Frag) (G FA : Hp) (A : Ar) : Prop where
 nd : (keys A).Nodup
 at_ : ∀ a ds, (a, ds) ∈ A → ∃ xs, FA a = some (.lst xs) ∧ RpL K G ds xs
 dom : ∀ a o, FA a = some o → a ∈ keys A
theorem RepA.mono {K : PySem.W.Frag} {G G' FA : Hp} {A : Ar} (h : RepA K G FA A) (s : Same G G') : RepA K G' FA A :=
 ⟨h.nd, fun a ds m => let ⟨xs, h1, h2⟩ := h.at_ a ds m; ⟨xs, h1, h2.mono s⟩, h.dom⟩
def plus (F FA : Hp) : Hp := fun a => match FA a with
 | some o => some o
 | none => F a
abbrev Cn.pl (c : Cn) (FA : Hp) : Cn := { c with F := plus c.F FA }
structure RstA (K : PySem.W.Frag) (c : Cn) (FA G H : Hp) (σ : L2.St) (ρ : List S) (A : Ar) : Prop where
 rst : Rst K (c.pl FA) G H σ ρ
 rep : RepA K G FA A
 dis : ∀ a o, c.F a = some o → FA a = none
inductive OA where
 | nx (ρ : List S) (A : Ar) | rt (r : Rv) (ρ : List S) (A : Ar) | bk (ρ : List S) (A : Ar) | ct (ρ : List S) (A : Ar) | ex (e : Xn) (ρ : List S) (A : Ar)
abbrev MA : Type := List S → Ar → (OA → Prop) → Prop
def PoA (K : PySem.W.Frag) (c : Cn) (W : WX) (G : Hp) (Dn : Ends) : OA → Prop
 | .nx ρ' A' => ∀ σ' FA' G' H', RstA K c FA' G' H' σ' ρ' A' → Same G G' → Dn.nx σ' H'
 | .bk ρ' A' => ∀ σ' FA' G' H', RstA K c FA' G' H' σ' ρ' A' → Same G G' → Dn.bk σ' H'
 | .ct ρ' A' => ∀ σ' FA' G' H', RstA K c FA' G' H' σ' ρ' A' → Same G G' → Dn.ct σ' H'
 | .rt r ρ' A' => ∀ v σ' FA' G' H', RstA K c FA' G' H' σ' ρ' A' → Same G G' → RpR K (c.pl FA') G' H' σ' ρ' v r → Dn.rt v H'
 | .ex e ρ' A' => ∀ cls d σ' FA' G' H', RstA K c FA' G' H' σ' ρ' A' → Same G G' → XAt K G' H' e cls d → W cls d σ' H'
theorem PoA.mono {K : PySem.W.Frag} {c : Cn} {W : WX} {G G1 : Hp} {Dn : Ends} {o : OA} (s : Same G G1) (h : PoA K c W G Dn o) : PoA K c W G1 Dn o := by
 cases o with
 | nx ρ A => exact fun σ' FA' G' H' R s' => h σ' FA' G' H' R (s.trans s')
 | bk ρ A => exact fun σ' FA' G' H' R s' => h σ' FA' G' H' R (s.trans s')
 | ct ρ A => exact fun σ' FA' G' H' R s' => h σ' FA' G' H' R (s.trans s')
 | rt r ρ A => exact fun v σ' FA' G' H' R s' k => h v σ' FA' G' H' R (s.trans s') k
 | ex e ρ A => exact fun cls d σ' FA' G' H' R s' x => h cls d σ' FA' G' H' R (s.trans s') x
def tA (K : PySem.W.Frag) (W : WX) (np : Nat) (w : MA) : TS := fun Dn σ H => ∃ c FA G ρ A Φ, c.s0.length = np ∧ RstA K c FA G H σ ρ A ∧ w ρ A Φ ∧ ∀ o, Φ o → PoA K c W G Dn o
structure DSA (X : Cx) (W : WX) (np : Nat) (st : Stmt) (w : MA) : Prop where
 ps : PS X st (tA X.K W np w)
structure DLA (X : Cx) (W : WX) (np : Nat) (st : List Stmt) (w : MA) : Prop where
 pss : PSs X st (tA X.K W np w)
section
variable {X : Cx} {W : WX} {np : Nat} {a b e tg iter : Expr} {pos p : Pos} {st : Stmt} {rest sts sts' : List Stmt} {f : MS} {w w' w1 w2 : MA} {ga : M Bool} {it : M (List D)} {g : D → List S → Option (List S)}
end
end Dl
namespace Dl
open PySem L2
abbrev MEA (α : Type) : Type := List S → Ar → (α → List S → Ar → Prop) → Prop
def tgA {α β : Type} (K : PySem.W.Frag) (rep : Cn → Hp → Hp → L2.St → List S → β → α → Prop) (w : MEA α) : L2.St → Hp → (β → Hp → Prop) → Prop := fun σ H Q =>
 ∃ c FA G ρ A Φ, RstA K c FA G H σ ρ A ∧ w ρ A Φ ∧ ∀ a ρ' A', Φ a ρ' A' → ∀ b FA' G' H', RstA K c FA' G' H' σ ρ' A' → Same G G' → rep (c.pl FA') G' H' σ ρ' b a → Q b H'
structure DEA (X : Cx) (e : Expr) (w : MEA Rv) : Prop where
 pe : PE X e (tgA X.K (repE X.K) w)
def Ar.put (A : Ar) (a : Addr) (ds : List D) : Ar := A.map fun p => if p.1 = a then (a, ds) else p
theorem Ar.put_keys (a : Addr) (ds : List D) : ∀ A : Ar, keys (Ar.put A a ds) = keys A
 | [] => rfl
 | p :: A => by
  show (if p.1 = a then (a, ds) else p).1 :: keys (Ar.put A a ds) = p.1 :: keys A
  rw [Ar.put_keys a ds A]
  split
  · rename_i h; rw [h]
  · rfl
theorem Ar.mem_put {A : Ar} {a b : Addr} {ds es : List D} (h : (b, es) ∈ Ar.put A a ds) : (b = a ∧ es = ds) ∨ (b ≠ a ∧ (b, es) ∈ A) := by
 obtain ⟨p, hp, e⟩ := List.mem_map.mp h
 split at e
 · cases e; exact .inl ⟨rfl, rfl⟩
 · rename_i hn; subst e; exact .inr ⟨hn, hp⟩
section
variable {K : PySem.W.Frag} {c : Cn} {FA G H : Hp} {σ : L2.St} {ρ : List S} {A : Ar} {a : Addr} {ds ds' : List D} {xs' : List V}
theorem RstA.node (R : RstA K c FA G H σ ρ A) (h : (a, ds) ∈ A) : ∃ xs, FA a = some (.lst xs) ∧ H a = some (.lst xs) ∧ RpL K G ds xs := by
 obtain ⟨xs, h1, h2⟩ := R.rep.at_ a ds h
 exact ⟨xs, h1, R.rst.fh a _ (by show plus c.F FA a = _; unfold plus; rw [h1]), h2⟩
theorem RstA.store (R : RstA K c FA G H σ ρ A) (h : (a, ds) ∈ A) (r : RpL K G ds' xs') : RstA K c (upd FA a (.lst xs')) G (upd H a (.lst xs')) σ ρ (Ar.put A a ds') := by
 obtain ⟨xs, h1, h2, h3⟩ := R.node h
 have hF : plus c.F FA a = some (.lst xs) := by unfold plus; rw [h1]
 have hG : G a = none := R.rst.fg a _ hF
 have hP : ∀ b, b ≠ a → plus c.F (upd FA a (.lst xs')) b = plus c.F FA b := fun b hb => by unfold plus; rw [upd_ne hb]
 have hPa : plus c.F (upd FA a (.lst xs')) a = some (.lst xs') := by unfold plus; rw [upd_same]
 refine ⟨⟨fun b o e => ?_, fun b o e => ?_, fun b o e => ?_, R.rst.len, R.rst.val, fun i d e => ?_, R.rst.ne, R.rst.par⟩, ⟨by rw [Ar.put_keys]; exact R.rep.nd, fun b es hm => ?_, fun b o e => ?_⟩, fun b o e => ?_⟩
 · have e : plus c.F (upd FA a (.lst xs')) b = some o := e
   by_cases hb : b = a
   · subst hb; rw [hPa] at e; cases e; exact upd_same
   · rw [hP b hb] at e; rw [upd_ne hb]; exact R.rst.fh b o e
 · by_cases hb : b = a
   · subst hb; rw [hG] at e; cases e
   · rw [upd_ne hb]; exact R.rst.gh b o e
 · have e : plus c.F (upd FA a (.lst xs')) b = some o := e
   by_cases hb : b = a
   · subst hb; exact hG
   · rw [hP b hb] at e; exact R.rst.fg b o e
 · obtain ⟨b, e1, e2, e3, e4⟩ := R.rst.own i d e
   have e3' : plus c.F FA b = none := e3
   have hb : b ≠ a := fun z => by rw [z, hF] at e3'; cases e3'
   refine ⟨b, e1, e2, (hP b hb).trans e3', ?_⟩
   cases d with
   | lst es => obtain ⟨ys, q1, q2⟩ := e4; exact ⟨ys, by rw [upd_ne hb]; exact q1, q2⟩
   | obj n ns es =>
    obtain ⟨dx, ys, q1, q2, q3, q4, q5, q6, q7⟩ := e4
    have q4' : plus c.F FA dx = none := q4
    have hx : dx ≠ a := fun z => by rw [z, hF] at q4'; cases q4'
    exact ⟨dx, ys, by rw [upd_ne hb]; exact q1, by rw [upd_ne hx]; exact q2, q3, (hP dx hx).trans q4', q5, q6, q7⟩
   | dic ks vs => obtain ⟨kvs, q1, q2, q3⟩ := e4; exact ⟨kvs, by rw [upd_ne hb]; exact q1, q2, q3⟩
   | ndi ks vs => obtain ⟨kvs, q1, q2⟩ := e4; exact ⟨kvs, by rw [upd_ne hb]; exact q1, q2⟩
   | _ => exact e4.elim
 · rcases Ar.mem_put hm with ⟨rfl, rfl⟩ | ⟨hb, hm⟩
   · exact ⟨xs', upd_same, r⟩
   · obtain ⟨ys, q1, q2⟩ := R.rep.at_ b es hm
     exact ⟨ys, by rw [upd_ne hb]; exact q1, q2⟩
 · rw [Ar.put_keys]
   by_cases hb : b = a
   · subst hb; exact R.rep.dom _ _ h1
   · rw [upd_ne hb] at e; exact R.rep.dom b o e
 · have hb : b ≠ a := fun z => by rw [z] at e; have := R.dis a o e; rw [h1] at this; cases this
   rw [upd_ne hb]; exact R.dis b o e
end
section
variable {X : Cx} {W : WX} {np : Nat} {a b o e : Expr} {es : List Expr} {fa fb fe : M Rv} {wa wo we : MEA Rv} {pos apos cpos p : Pos}
end
end Dl
namespace Dl
open PySem L2
section
variable {K : PySem.W.Frag} {c : Cn} {G G' H H' : Hp} {σ σ' : L2.St} {ρ ρ' ss ss' : List S} {vs : List V} {rs : List Rv}
end
abbrev FnA : Type := List S → (D → List S → Ar → Prop) → Prop
def spA (K : PySem.W.Frag) (np : Nat) (fn : FnA) : Sp := fun vs H Q E => ∃ c G ss Φ, vs.length = np ∧ c.s0 = vs.map some ∧ Rst K c G H (vs.map some) ss ∧ fn ss Φ ∧
 ∀ d ss' A', Φ d ss' A' → ∀ v FA' G' H', RstA K c FA' G' H' (vs.map some) ss' A' → Same G G' → Rp K G' d v → Q v H'
section
variable {P : Program} {w : World} {K : PySem.W.Frag} {mg : Str → Option Value} {base : Heap} {x qual : Str} {params : Arguments} {body : List Stmt} {scope : Scope} {dvs : List V} {kws : List (Str × V)} {f : Addr} {fd : FuncData}
end
structure DFA (P : Program) (w : World) (K : PySem.W.Frag) (mg : Str → Option Value) (base : Heap) (x : Str) (k np : Nat) (fn : FnA) : Prop where
 len : ∀ ss Φ, fn ss Φ → ss.length = np
 ex : ∃ (f : Addr) (fd : FuncData) (ps : List Str), mg x = some (.ref f) ∧ PySem.W.keepIn K (.ref f) = true ∧ Binds K fd ps [] ∧ FnOk P w K mg base (L2.CX P w) k f fd ps (spA K np fn)
theorem DFA.up {P : Program} {w : World} {K : PySem.W.Frag} {mg : Str → Option Value} {base : Heap} {x : Str} {j k np : Nat} {fn : FnA} (F : DFA P w K mg base x j np fn) (h : j ≤ k) : DFA P w K mg base x k np fn :=
 let ⟨f, fd, ps, h1, h2, h3, h4⟩ := F.ex; ⟨F.len, f, fd, ps, h1, h2, h3, h4.mono h⟩
section
variable {X : Cx} {W : WX} {x : Str} {k np : Nat} {fn : FnA} {e : Expr} {es : List Expr} {la : M (List Rv)} {p pos : Pos}
end
end Dl
namespace Dl
open PySem L2
structure DTA (X : Cx) (e : Expr) (w : MEA Bool) : Prop where
 pt : PT X e (tgA X.K repT w)
section
variable {X : Cx} {W : WX} {np : Nat} {a b e : Expr} {pos : Pos} {sts sts' : List Stmt} {fe : M Rv} {wo : MEA Rv} {wc : MEA Bool} {w1 w2 : MA}
theorem RstA.lst {K : PySem.W.Frag} {c : Cn} {FA G H : Hp} {σ : L2.St} {ρ : List S} {A : Ar} {p : Addr} {ds : List D} (R : RstA K c FA G H σ ρ A) (hm : (p, ds) ∈ A) : Same G (plus G FA) ∧ Same (plus G FA) H ∧ Rp K (plus G FA) (.lst ds) (.ref p) := by
 have fa : ∀ a o, FA a = some o → plus c.F FA a = some o := fun a o e => by unfold plus; rw [e]
 have s : Same G (plus G FA) := fun a o e => by
  unfold plus
  cases q : FA a with
  | none => exact e
  | some o' => rw [R.rst.fg a _ (fa a o' q)] at e; cases e
 refine ⟨s, fun a o e => ?_, ?_⟩
 · unfold plus at e
   cases q : FA a with
   | none => rw [q] at e; exact R.rst.gh a o e
   | some o' => rw [q] at e; cases e; exact R.rst.fh a _ (fa a _ q)
 · obtain ⟨xs, h1, _, h3⟩ := R.node hm
   exact ⟨p, xs, rfl, by unfold plus; rw [h1], h3.mono s⟩
end
end Dl
namespace Dl
open PySem L2
section
variable {K : PySem.W.Frag} {c : Cn} {G H : Hp} {σ : L2.St} {ρ : List S} {v : V} {ds : List D}
theorem Rst.hide (R : Rst K c G H σ ρ) (k : RpR K c G H σ ρ v (.own (.lst ds))) : ∃ a xs, v = .ref a ∧ H a = some (.lst xs) ∧ RpL K G ds xs ∧ c.F a = none ∧ Rst K { c with F := upd c.F a (.lst xs) } G H σ ρ := by
 obtain ⟨a, h1, h2, h3, ⟨xs, h4, h5⟩, h6⟩ := k
 refine ⟨a, xs, h1, h4, h5, h3, fun b o e => ?_, R.gh, fun b o e => ?_, R.len, R.val, fun i d e => ?_, R.ne, R.par⟩
 · have e : upd c.F a (.lst xs) b = some o := e
   by_cases hb : b = a
   · subst hb; rw [upd_same] at e; cases e; exact h4
   · rw [upd_ne hb] at e; exact R.fh b o e
 · have e : upd c.F a (.lst xs) b = some o := e
   by_cases hb : b = a
   · subst hb; exact h2
   · rw [upd_ne hb] at e; exact R.fg b o e
 · obtain ⟨b, g1, g2, g3, g4⟩ := R.own i d e
   have hb : b ≠ a := fun z => h6 i d e (by rw [g1, z])
   refine ⟨b, g1, g2, (upd_ne hb).trans g3, ?_⟩
   cases d with
   | lst es => exact g4
   | dic ks vs => exact g4
   | ndi ks vs => exact g4
   | obj n ns es =>
    obtain ⟨dx, ys, q1, q2, q3, q4, q5⟩ := g4
    have hx : dx ≠ a := fun z => by rw [z, h4] at q2; cases q2
    exact ⟨dx, ys, q1, q2, q3, (upd_ne hx).trans q4, q5⟩
   | _ => exact g4.elim
theorem hid_none {F : Hp} {a b : Addr} {o : HO} (hF : F a = none) (h : upd F a o b = none) : F b = none := by
 by_cases hb : b = a
 · subst hb; exact hF
 · rw [upd_ne hb] at h; exact h
theorem hid_some {F : Hp} {a b : Addr} {o o' : HO} (hF : F a = none) (h : F b = some o') : upd F a o b = some o' := by
 have hb : b ≠ a := fun z => by rw [z, hF] at h; cases h
 rw [upd_ne hb]; exact h
theorem Rst.unhide {a : Addr} {o : HO} (hF : c.F a = none) (R : Rst K { c with F := upd c.F a o } G H σ ρ) : Rst K c G H σ ρ :=
 ⟨fun b u e => R.fh b u (hid_some hF e), R.gh, fun b u e => R.fg b u (hid_some hF e), R.len, R.val, fun i d e => by
  obtain ⟨b, g1, g2, g3, g4⟩ := R.own i d e
  exact ⟨b, g1, g2, hid_none hF g3, ow_frame g4 fun x u q => hid_some hF q⟩, R.ne, R.par⟩
theorem ap_get {α : Type} {l : List α} {x y : α} {i : Nat} (h : (l ++ [x])[i]? = some y) : l[i]? = some y ∨ (i = l.length ∧ y = x) := by
 by_cases hi : i < l.length
 · rw [List.getElem?_append_left hi] at h; exact .inl h
 · rw [List.getElem?_append_right (Nat.le_of_not_lt hi)] at h
   cases q : i - l.length with
   | zero => rw [q] at h; cases h; exact .inr ⟨by omega, rfl⟩
   | succ n => rw [q] at h; cases h
theorem ap_old {α : Type} {l : List α} {x y : α} {i : Nat} (h : l[i]? = some y) : (l ++ [x])[i]? = some y := by
 rw [List.getElem?_append_left (List.getElem?_eq_some_iff.mp h).1]; exact h
theorem ap_new {α : Type} {l : List α} {x : α} : (l ++ [x])[l.length]? = some x := by
 rw [List.getElem?_append_right (Nat.le_refl _), Nat.sub_self]; rfl
theorem Rst.slot {a : Addr} {xs : List V} (hF : c.F a = none) (R : Rst K { c with F := upd c.F a (.lst xs) } G H σ ρ) (r : RpL K G ds xs) : Rst K ⟨c.F, []⟩ G H (σ ++ [some (.ref a)]) (ρ ++ [.own (.lst ds)]) := by
 have hU : upd c.F a (.lst xs) a = some (.lst xs) := upd_same
 have U := R.unhide hF
 have nota : ∀ (i : Nat) (d : D), ρ[i]? = some (.own d) → σ[i]? ≠ some (some (.ref a)) := fun i d e z => by
  obtain ⟨b, g1, g2, g3, g4⟩ := R.own i d e
  rw [z] at g1; cases g1
  rw [show upd c.F a (.lst xs) a = none from g3] at hU; cases hU
 refine ⟨U.fh, U.gh, U.fg, by rw [List.length_append, List.length_append, U.len]; rfl, fun i d e => ?_, fun i d e => ?_, fun i j d e b h1 h2 r1 r2 => ?_, fun i d e hl => absurd hl (Nat.not_lt_zero _)⟩
 · rcases ap_get e with e | ⟨_, e⟩
   · obtain ⟨v, q1, q2⟩ := U.val i d e
     exact ⟨v, ap_old q1, q2⟩
   · cases e
 · rcases ap_get e with e | ⟨hi, e⟩
   · obtain ⟨b, g1, g2, g3, g4⟩ := U.own i d e
     exact ⟨b, ap_old g1, g2, g3, g4⟩
   · cases e; subst hi
     exact ⟨a, by rw [U.len]; exact ap_new, R.fg a _ hU, hF, xs, R.fh a _ hU, r⟩
 · have old : ∀ {i : Nat} {d : D} {b : Addr}, ρ[i]? = some (.own d) → (σ ++ [some (V.ref a)])[i]? = some (some (.ref b)) → σ[i]? = some (some (.ref b)) := fun {i d b} e q => by
     obtain ⟨b', g1, _⟩ := U.own i d e
     rw [ap_old g1] at q; rw [g1]; exact q
   rcases ap_get h1 with e1 | ⟨hi, e1⟩
   · have k1 := old e1 r1
     rcases ap_get h2 with e2 | ⟨hj, e2⟩
     · exact U.ne i j d e b e1 e2 k1 (old e2 r2)
     · subst hj
       rw [U.len, ap_new] at r2; cases r2
       exact absurd k1 (nota i d e1)
   · rcases ap_get h2 with e2 | ⟨hj, e2⟩
     · subst hi
       rw [U.len, ap_new] at r1; cases r1
       exact absurd (old e2 r2) (nota j e e2)
     · rw [hi, hj]
theorem tk_get {l : List S} {n i : Nat} {s : S} (h : (l.take n)[i]? = some s) : l[i]? = some s ∧ i < n := by
 rw [List.getElem?_take] at h
 split at h
 · rename_i hn; exact ⟨h, hn⟩
 · cases h
theorem Rst.drop {x : Option V} {ρ2 : List S} (hl : ρ.length = σ.length) (par : ∀ (i : Nat) (d : D), ρ2[i]? = some (.own d) → i < ρ.length → i < c.s0.length → σ[i]? = c.s0[i]?) (R : Rst K ⟨c.F, []⟩ G H (σ ++ [x]) ρ2) : Rst K c G H σ (ρ2.take ρ.length) := by
 have old : ∀ {i : Nat} {y : Option V}, i < ρ.length → (σ ++ [x])[i]? = some y → σ[i]? = some y := fun {i y} hi q => by
  rw [List.getElem?_append_left (by omega)] at q; exact q
 have l2 := R.len
 rw [List.length_append] at l2
 refine ⟨R.fh, R.gh, R.fg, by rw [List.length_take, l2, ← hl]; simp, fun i d e => ?_, fun i d e => ?_, fun i j d e b h1 h2 r1 r2 => R.ne i j d e b (tk_get h1).1 (tk_get h2).1 (ap_old r1) (ap_old r2), fun i d e h => par i d (tk_get e).1 (tk_get e).2 h⟩
 · obtain ⟨e, hi⟩ := tk_get e
   obtain ⟨v, q1, q2⟩ := R.val i d e
   exact ⟨v, old hi q1, q2⟩
 · obtain ⟨e, hi⟩ := tk_get e
   obtain ⟨b, g1, g2⟩ := R.own i d e
   exact ⟨b, old hi g1, g2⟩
theorem RpR.drop {x : Option V} {ρ2 : List S} {c' : Cn} {r : Rv} {n : Nat} (hc : c'.F = c.F) (na : ∀ i, r ≠ .ali i) (h : RpR K c' G H (σ ++ [x]) ρ2 v r) : RpR K c G H σ (ρ2.take n) v r := by
 cases r with
 | val d => exact h
 | ali i => exact absurd rfl (na i)
 | own d =>
  obtain ⟨a, h1, h2, h3, h4, h5⟩ := h
  rw [hc] at h3 h4
  exact ⟨a, h1, h2, h3, h4, fun i e q z => h5 i e (tk_get q).1 (ap_old z)⟩
end
abbrev repAT (K : PySem.W.Frag) : Cn → Hp → Hp → L2.St → List S → List V → List Rv × List D → Prop := fun c G H σ ρ vs p => ∃ a, Rst K ⟨c.F, []⟩ G H (σ ++ [some (.ref a)]) (ρ ++ [.own (.lst p.2)]) ∧ RpRs K G (σ ++ [some (.ref a)]) vs p.1
structure DAT (X : Cx) (W : WX) (es : List Expr) (f : M (List Rv × List D)) : Prop where
 pa : PA X es (tg X.K W (repAT X.K) f)
def lstOf1 : Rv → Option (List D)
 | .own (.lst ds) => some ds
 | _ => none
def aTmpR (rs : List Rv) (ds : List D) : M (List Rv × List D) := fun ρ => some (.ok (.ali ρ.length :: rs, ds) ρ)
def aTmp (fa : M Rv) (ga : M (List Rv)) : M (List Rv × List D) := do
 let r ← fa
 let ds ← ofO (lstOf1 r)
 let rs ← ga
 aTmpR rs ds
def aConsT (fa : M Rv) (ga : M (List Rv × List D)) : M (List Rv × List D) := do
 let r ← fa
 let p ← ga
 pure (settle r :: p.1, p.2)
theorem RpRs.wide {K : PySem.W.Frag} {G : Hp} {σ : L2.St} {x : Option V} : ∀ {vs : List V} {rs : List Rv}, RpRs K G σ vs rs → RpRs K G (σ ++ [x]) vs rs
 | [], [], _ => trivial
 | v :: vs, .val d :: rs, ⟨h1, h2⟩ => ⟨h1, h2.wide⟩
 | v :: vs, .ali i :: rs, ⟨h1, h2⟩ => ⟨ap_old h1, h2.wide⟩
 | [], _ :: _, h => h.elim
 | _ :: _, [], h => h.elim
 | _ :: _, .own _ :: _, h => h.elim
section
variable {X : Cx} {W : WX} {e : Expr} {es : List Expr} {fa : M Rv}
theorem dat_tmp {ga : M (List Rv)} (he : DE X W e fa) (hr : DA X W es ga) (hs : starEach (e :: es) X.env = (false, eval e X.env) :: starEach es X.env := by rfl) : DAT X W (e :: es) (aTmp fa ga) :=
 ⟨(pa_cons he.pe hr.pa hs).weak fun σ H Q ⟨c, G, ρ, R, w⟩ => tg_step R (Same.refl G) w fun r ρ1 v G1 H1 R1 s1 _ k w1 => by
  obtain ⟨ds, eq, w2⟩ := ofO_wp (wpM_bind w1)
  have er : r = .own (.lst ds) := by
   cases r with
   | own d => cases d with
    | lst es => cases eq; rfl
    | _ => cases eq
   | _ => cases eq
  subst er
  obtain ⟨a, xs, hv, ha, hx, hF, Rh⟩ := R1.hide k
  subst hv
  refine ⟨{ c with F := upd c.F a (.lst xs) }, G1, ρ1, Rh, ?_⟩
  refine wpM_mono (wpM_bind w2) (fun rs ρ2 hk vs G2 H2 R2 s2 k2 => ?_) fun x ρ2 hx cls d G2 H2 R2 s2 xa => ?_
  · refine hk (.ref a :: vs) G2 H2 (R2.unhide hF) (s1.trans s2) ⟨a, R2.slot hF (hx.mono s2), ?_, k2.wide⟩
    rw [R2.len]; exact ap_new
  · exact hx cls d G2 H2 (R2.unhide hF) (s1.trans s2) xa⟩
end
def callT (mu : List Bool) (fn : Fn) (p : List Rv × List D) : M Rv := fun ρ => match callM mu fn p.1 (ρ ++ [.own (.lst p.2)]) with
 | some (.ok (.ali _) _) => none
 | some (.ok r ρ') => some (.ok r (ρ'.take ρ.length))
 | some (.ex e ρ') => some (.ex e (ρ'.take ρ.length))
 | none => none
theorem prep_own : ∀ {ms : List Bool} {rs : List Rv} {ρ : List S} {rs' : List Rv} {ρ' : List S}, prep ms rs ρ = some (.ok rs' ρ') → ∀ (i : Nat) (d : D), ρ'[i]? = some (.own d) → ρ[i]? = some (.own d) := by
 have tv : ∀ {r : Rv} {ρ ρ' : List S} {x : D}, toV r ρ = some (.ok x ρ') → ∀ (i : Nat) (d : D), ρ'[i]? = some (.own d) → ρ[i]? = some (.own d) := fun {r ρ ρ' x} h i d q => by
  cases r with
  | val e => cases h; exact q
  | own e => cases h; exact q
  | ali j =>
   unfold toV at h
   dsimp only at h
   cases z : ρ[j]? with
   | none => rw [z] at h; cases h
   | some s =>
    rw [z] at h
    cases s with
    | no => cases h
    | val e => cases h; exact q
    | own e =>
     cases h
     rcases set_cases q with ⟨_, _, e⟩ | ⟨_, q⟩
     · cases e
     · exact q
 intro ms rs
 induction rs generalizing ms with
 | nil => intro ρ rs' ρ' h i d q; have h : (pure [] : M (List Rv)) ρ = some (.ok rs' ρ') := by cases ms <;> first | exact h | (rename_i b _; cases b <;> exact h)
          cases h; exact q
 | cons r rs ih =>
  intro ρ rs' ρ' h i d q
  have go : ∀ ms', (do let d ← toV r; let rs' ← prep ms' rs; pure (Rv.val d :: rs') : M (List Rv)) ρ = some (.ok rs' ρ') → ρ[i]? = some (.own d) := fun ms' h => by
   rw [bind_eq] at h
   cases z : toV r ρ with
   | none => rw [z] at h; cases h
   | some o =>
    rw [z] at h
    cases o with
    | ex e ρ1 => cases h
    | ok x ρ1 =>
     have h : (prep ms' rs >>= fun rs' => pure (Rv.val x :: rs')) ρ1 = _ := h
     rw [bind_eq] at h
     cases z2 : prep ms' rs ρ1 with
     | none => rw [z2] at h; cases h
     | some o2 =>
      rw [z2] at h
      cases o2 with
      | ex e ρ2 => cases h
      | ok y ρ2 => cases h; exact tv z i d (ih z2 i d q)
  cases ms with
  | nil => exact go [] h
  | cons b ms =>
   cases b with
   | false => exact go ms h
   | true =>
    have h : (prep ms rs >>= fun rs' => pure (r :: rs')) ρ = _ := h
    rw [bind_eq] at h
    cases z2 : prep ms rs ρ with
    | none => rw [z2] at h; cases h
    | some o2 =>
     rw [z2] at h
     cases o2 with
     | ex e ρ2 => cases h
     | ok y ρ2 => cases h; exact ih z2 i d q
theorem callM_own {mu : List Bool} {fn : Fn} {rs : List Rv} {ρ : List S} {o : Ot Rv} (h : callM mu fn rs ρ = some o) : ∀ (i : Nat) (d : D), (match o with
 | .ok _ ρ' => ρ'[i]?
 | .ex _ ρ' => ρ'[i]?) = some (.own d) → ∃ e, ρ[i]? = some (.own e) := by
 intro i d q
 unfold callM at h
 cases z : prep mu rs ρ with
 | none => rw [z] at h; cases h
 | some o1 =>
  rw [z] at h
  cases o1 with
  | ex e ρ1 => cases h
  | ok rs' ρ1 =>
   dsimp only at h
   have bk : ∀ {ss' : List S}, (back rs' ss' ρ1)[i]? = some (.own d) → ∃ e, ρ[i]? = some (.own e) := fun {ss'} q => by
    rcases back_get q (by intro z; cases z) with ⟨h1, _⟩ | ⟨j, d', _, _, _, e, h4⟩
    · exact ⟨d, prep_own z i d h1⟩
    · exact ⟨e, prep_own z i e h4⟩
   split at h
   · cases z2 : ssOfs ρ1 rs' with
     | none => rw [z2] at h; cases h
     | some ss =>
      rw [z2] at h
      dsimp only at h
      cases z3 : fn ss with
      | none => rw [z3] at h; cases h
      | some o3 =>
       rw [z3] at h
       cases o3 with
       | ex e ss' => cases h; exact bk q
       | ret r ss' =>
        dsimp only at h
        split at h
        · cases h; exact ⟨d, q⟩
        · cases r with
          | ali i => cases h
          | val x => cases h; exact bk q
          | own x => cases h; exact bk q
   · cases h
def eCallT (mu : List Bool) (fn : Fn) (ga : M (List Rv × List D)) : M Rv := do
 let p ← ga
 callT mu fn p
section
variable {X : Cx} {W : WX} {x : Str} {k np : Nat} {fn : Fn} {mu : List Bool} {e : Expr} {es : List Expr} {ga : M (List Rv × List D)} {p pos : Pos}
end
end Dl
namespace Dl
open PySem L2
open PyProof.Rows hiding St
section
variable {X : Cx} {CX : CXT} {k n : Nat} {f : Addr} {fd : FuncData} {ps ks : List Str} {sp : Sp} {E : St → XK} {x : Str} {p pos : Pos} {e : Expr} {es : List Expr} {kws : List Keyword} {t tk : TA} {g : List Value → List Value → List Value} {gV : List V → List V → List V}
theorem _root_.L2.PK.weak {t t' : TA} (h : PK X kws t) (w : ∀ σ H Q, t' σ H Q → t σ H Q) : PK X kws t' := ⟨fun pos pins s σ H Q I q => h.run pos pins s σ H Q I (w σ H Q q)⟩
end
structure DK (X : Cx) (W : WX) (kws : List Keyword) (f : M (List Rv)) : Prop where
 pk : PK X kws (tDA X.K W f)
section
variable {X : Cx} {W : WX} {e : Expr} {kws : List Keyword} {nm : Option Str} {kpos : Pos} {f : M Rv} {g : M (List Rv)}
theorem dk_nil : DK X W [] aNil := ⟨pk_nil.weak fun σ H Q ⟨c, G, ρ, R, w⟩ => w [] G H R (Same.refl G) trivial⟩
theorem dk_cons (he : DE X W e f) (hr : DK X W kws g) : DK X W (⟨nm, e, kpos⟩ :: kws) (aCons f g) :=
 ⟨(pk_cons he.pe hr.pk).weak fun σ H Q ⟨c, G, ρ, R, w⟩ => tg_step R (Same.refl G) w fun r ρ1 v G1 H1 R1 s1 _ k w1 => by
  obtain ⟨G1', s1', R1', k'⟩ := settle_ok R1 k
  exact tg_step R1' (s1.trans s1') w1 fun rs ρ2 vs G2 H2 R2 s2 s12 k2 w2 => w2 (v :: vs) G2 H2 R2 s2 (RpRs.cons (k'.mono s12) k2)⟩
end
structure DFK (P : Program) (w : World) (K : PySem.W.Frag) (mg : Str → Option Value) (base : Heap) (x : Str) (k np n : Nat) (ks : List Str) (fn : Fn) : Prop where
 len : ∀ ss o, fn ss = some o → ss.length = np
 ex : ∃ (f : Addr) (fd : FuncData) (ps : List Str), mg x = some (.ref f) ∧ PySem.W.keepIn K (.ref f) = true ∧ KBn K fd ps n ks (fun us ws => us ++ ws) (fun vs zs => vs ++ zs) ∧ FnOk P w K mg base (L2.CX P w) k f fd ps (spD K np fn)
theorem DFK.up {P : Program} {w : World} {K : PySem.W.Frag} {mg : Str → Option Value} {base : Heap} {x : Str} {j k np n : Nat} {ks : List Str} {fn : Fn} (F : DFK P w K mg base x j np n ks fn) (h : j ≤ k) : DFK P w K mg base x k np n ks fn :=
 let ⟨f, fd, ps, h1, h2, h3, h4⟩ := F.ex; ⟨F.len, f, fd, ps, h1, h2, h3, h4.mono h⟩
def eCallK (n m : Nat) (mu : List Bool) (fn : Fn) (ga gk : M (List Rv)) : M Rv := do
 let rs ← ga
 let zs ← gk
 if rs.length = n ∧ zs.length = m then callM mu fn (rs ++ zs) else M.fail
theorem RpRs.len {K : PySem.W.Frag} {G : Hp} {σ : L2.St} : ∀ {vs : List V} {rs : List Rv}, RpRs K G σ vs rs → vs.length = rs.length
 | [], [], _ => rfl
 | v :: vs, .val d :: rs, ⟨_, h2⟩ => by rw [List.length_cons, List.length_cons, h2.len]
 | v :: vs, .ali i :: rs, ⟨_, h2⟩ => by rw [List.length_cons, List.length_cons, h2.len]
 | [], _ :: _, h => h.elim
 | _ :: _, [], h => h.elim
 | _ :: _, .own _ :: _, h => h.elim
section
variable {X : Cx} {W : WX} {x : Str} {k np n : Nat} {ks : List Str} {fn : Fn} {mu : List Bool} {e : Expr} {es : List Expr} {kws : List Keyword} {ga gk : M (List Rv)} {p pos : Pos}
end
end Dl
namespace Dl
open PySem L2
section
variable {K : PySem.W.Frag} {c : Cn} {FA G H : Hp} {σ : L2.St} {ρ : List S} {A : Ar} {D0 b : Addr} {o : HO}
structure RstD (K : PySem.W.Frag) (c : Cn) (FA G H : Hp) (σ : L2.St) (ρ : List S) (A : Ar) (D0 : Addr) (o : HO) : Prop where
 rst : Rst K ((c.pl FA).with D0 o) G H σ ρ
 rep : RepA K G FA A
 dis : ∀ a o, c.F a = some o → FA a = none
 no : plus c.F FA D0 = none
theorem RstD.init (R : RstA K c FA G H σ ρ A) (hp : H D0 = none) (ho : ∀ b, o ≠ .own b) : RstD K c FA G (upd H D0 o) σ ρ A D0 o :=
 ⟨(R.rst.laid hp).keep upd_same (R.rst.g_none hp) ho (R.rst.not_slot hp), R.rep, R.dis, R.rst.f_none hp⟩
theorem RstD.store {o' : HO} (R : RstD K c FA G H σ ρ A D0 o) (ho : ∀ b, o ≠ .own b) : RstD K c FA G (upd H D0 o') σ ρ A D0 o' := ⟨R.rst.store ho, R.rep, R.dis, R.no⟩
theorem RstD.ground {G' : Hp} (R : RstD K c FA G H σ ρ A D0 o) {H' : Hp} (R' : Rst K ((c.pl FA).with D0 o) G' H' σ ρ) (s : Same G G') : RstD K c FA G' H' σ ρ A D0 o := ⟨R', R.rep.mono s, R.dis, R.no⟩
theorem RstD.node (R : RstD K c FA G H σ ρ A D0 o) (hb : H b = none) : b ∉ keys A ∧ RstD K c (upd FA b (.lst [])) G (upd H b (.lst [])) σ ρ ((b, []) :: A) D0 o := by
 have hFb : ((c.pl FA).with D0 o).F b = none := R.rst.f_none hb
 have hbD : b ≠ D0 := fun z => by
  have : upd (plus c.F FA) D0 o b = none := hFb
  rw [z, upd_same] at this; cases this
 have hpl : plus c.F FA b = none := by
  have : upd (plus c.F FA) D0 o b = none := hFb
  rw [upd_ne hbD] at this; exact this
 have hFA : FA b = none := by
  cases q : FA b with
  | none => rfl
  | some u => unfold plus at hpl; rw [q] at hpl; cases hpl
 have hcF : c.F b = none := by unfold plus at hpl; rw [hFA] at hpl; exact hpl
 have hk : b ∉ keys A := fun hm => by
  obtain ⟨p, hp, rfl⟩ := List.mem_map.mp hm
  obtain ⟨ys, h1, _⟩ := R.rep.at_ p.1 p.2 hp
  rw [hFA] at h1; cases h1
 have R2 : Rst K (((c.pl FA).with D0 o).with b (.lst [])) G (upd H b (.lst [])) σ ρ := (R.rst.laid hb).keep upd_same (R.rst.g_none hb) (fun b z => nomatch z) (R.rst.not_slot hb)
 have eF : ((c.pl FA).with D0 o).with b (.lst []) = (c.pl (upd FA b (.lst []))).with D0 o := by
  have : upd (upd (plus c.F FA) D0 o) b (.lst []) = upd (plus c.F (upd FA b (.lst []))) D0 o := funext fun x => by
   by_cases xb : x = b
   · subst xb
     rw [upd_same, upd_ne hbD]; unfold plus; rw [upd_same]
   · rw [upd_ne xb]
     by_cases xD : x = D0
     · subst xD; rw [upd_same, upd_same]
     · rw [upd_ne xD, upd_ne xD]; unfold plus; rw [upd_ne xb]
  show ({ c with F := upd (upd (plus c.F FA) D0 o) b (.lst []) } : Cn) = { c with F := upd (plus c.F (upd FA b (.lst []))) D0 o }
  rw [this]
 rw [eF] at R2
 refine ⟨hk, R2, ⟨List.nodup_cons.mpr ⟨hk, R.rep.nd⟩, fun a ds hm => ?_, fun a u e => ?_⟩, fun a u e => ?_, ?_⟩
 · rcases List.mem_cons.mp hm with e | hm
   · cases e; exact ⟨[], upd_same, rfl⟩
   · obtain ⟨xs, h1, h2⟩ := R.rep.at_ a ds hm
     have ha : a ≠ b := fun z => by rw [z, hFA] at h1; cases h1
     exact ⟨xs, by rw [upd_ne ha]; exact h1, h2⟩
 · by_cases ha : a = b
   · subst ha; exact List.mem_cons_self
   · rw [upd_ne ha] at e; exact List.mem_cons_of_mem _ (R.rep.dom a u e)
 · have ha : a ≠ b := fun z => by rw [z, hcF] at e; cases e
   rw [upd_ne ha]; exact R.dis a u e
 · show plus c.F (upd FA b (.lst [])) D0 = none
   have := R.no
   unfold plus at this ⊢
   rw [upd_ne (Ne.symm hbD)]; exact this
end
section
variable {X : Cx} {W : WX} {kx tg iter : Expr} {scope : Scope} {own : List (Str × Nat)} {pos lpos : Pos} {it : M (List D)} {v : Nat}
end
def lkD : List D → List D → Int → Option D
 | .int k :: ks, v :: vs, i => if k = i then some v else lkD ks vs i
 | _, _, _ => none
def dGetI (d e : D) : Option D := match d, e with
 | .dic ks vs, .int i => lkD ks vs i
 | _, _ => none
def eDIx (fa fb : M Rv) : M Rv := do
 let x ← fa
 let y ← fb
 let d ← peek (settle x)
 let e ← peek y
 let z ← ofO (dGetI d e)
 pure (.val z)
section
variable {X : Cx} {W : WX} {a b : Expr} {fa fb : M Rv} {pos : Pos}
end
section
variable {K : PySem.W.Frag} {c : Cn} {FA G H : Hp} {σ : L2.St} {ρ : List S} {A : Ar}
end
section
variable {X : Cx} {W : WX} {np : Nat} {sts : List Stmt} {w : MA} {e : Expr} {we : MEA Rv} {pos : Pos}
end
end Dl
namespace Dl
open PySem L2
section
variable {K : PySem.W.Frag} {c : Cn} {FA G H : Hp} {σ : L2.St} {ρ : List S} {A : Ar}
theorem RstA.drop (R : RstA K c FA G H σ ρ A) : RstA K c (fun _ => none) G H σ ρ [] := by
 have low : ∀ b, (c.pl FA).F b = none → c.F b = none := fun b hb => by
  have hb : plus c.F FA b = none := hb
  unfold plus at hb
  cases q : FA b with
  | none => rw [q] at hb; exact hb
  | some u => rw [q] at hb; cases hb
 have up : ∀ b u, c.F b = some u → (c.pl FA).F b = some u := fun b u e => by
  show plus c.F FA b = some u
  unfold plus
  rw [R.dis b u e]; exact e
 refine ⟨⟨fun b u e => R.rst.fh b u (up b u e), R.rst.gh, fun b u e => R.rst.fg b u (up b u e), R.rst.len, R.rst.val, fun i d e => ?_, R.rst.ne, R.rst.par⟩, ⟨List.nodup_nil, fun a ds hm => absurd hm List.not_mem_nil, fun a u e => nomatch e⟩, fun a u _ => rfl⟩
 obtain ⟨a, h1, h2, h3, h4⟩ := R.rst.own i d e
 exact ⟨a, h1, h2, low a h3, h4.fmono fun b _ hb => low b hb⟩
variable {X : Cx} {W : WX} {np : Nat} {e : Expr} {we : MEA Rv} {pos : Pos}
end
end Dl
namespace Dl
open PySem L2 PySem.Spec PyProof.Rows
abbrev PF : Type := D → Option (Option (List D))
abbrev PFs : Type := List D → Option (Option (List D))
def MatchR (K : PySem.W.Frag) (G : Hp) (ns : List Str) : Option (List D) → Option (List (Str × Value)) → Prop
 | none, none => True
 | some ds, some bs => bs.map (·.1) = ns ∧ ∃ vs, RpL K G ds vs ∧ Vals vs (bs.map (·.2))
 | _, _ => False
structure DPat (X : Cx) (p : Pattern) (ns : List Str) (f : PF) : Prop where
 star : p.isStar = false
 run : ∀ {pins : List (Addr × Obj)} {s : Shared} {σ : L2.St} {H : Hp} {c : Cn} {G : Hp} {ρ : List S} {d : D} {v : V} {u : Value} {r : Option (List D)}, Inv X pins σ H s → Rst X.K c G H σ ρ → Rp X.K G d v → RelV v u → f d = some r →
  ∀ {Q : Option (List (Str × Value)) → Shared → Prop}, (∀ s' G' H' bs, Inv X pins σ H' s' → Rst X.K c G' H' σ ρ → Same G G' → MatchR X.K G' ns r bs → Q bs s') → wpAny (model X.prog X.w) X.A (matchPattern p X.env u) Q X.xe s
structure DPats (X : Cx) (ps : List Pattern) (ns : List Str) (f : PFs) : Prop where
 run : ∀ {pins : List (Addr × Obj)} {s : Shared} {σ : L2.St} {H : Hp} {c : Cn} {G : Hp} {ρ : List S} {ds : List D} {vs : List V} {us : List Value} {r : Option (List D)}, Inv X pins σ H s → Rst X.K c G H σ ρ → RpL X.K G ds vs → Vals vs us → f ds = some r →
  ∀ {Q : Option (List (Str × Value)) → Shared → Prop}, (∀ s' G' H' bs, Inv X pins σ H' s' → Rst X.K c G' H' σ ρ → Same G G' → MatchR X.K G' ns r bs → Q bs s') → wpAny (model X.prog X.w) X.A (matchEach ps X.env us) Q X.xe s
def pCap : PF := fun d => some (some [d])
def pStr (x : Str) : PF := fun d => (dEqB d (.str x)).map fun b => if b = true then some [] else none
def pSeq (n : Nat) (f : PFs) : PF
 | .lst ds => if ds.length = n then f ds else some none
 | .tup ds => if ds.length = n then f ds else some none
 | .int _ => some none
 | .bl _ => some none
 | .str _ => some none
 | .non => some none
 | _ => none
def starD (n i : Nat) (ds : List D) : List D := ds.take i ++ [.lst ((ds.drop i).take (ds.length + 1 - n))] ++ (ds.drop i).drop (ds.length + 1 - n)
def pStar (n i : Nat) (f : PFs) : PF
 | .lst ds => if 16384 < ds.length then none else if ds.length + 1 < n then some none else f (starD n i ds)
 | .tup ds => if 16384 < ds.length then none else if ds.length + 1 < n then some none else f (starD n i ds)
 | .int _ => some none
 | .bl _ => some none
 | .str _ => some none
 | .non => some none
 | _ => none
def plNil : PFs := fun _ => some (some [])
def plCons (f : PF) (g : PFs) : PFs
 | [] => none
 | d :: ds => match f d with
  | none => none
  | some none => some none
  | some (some a) => match g ds with
   | none => none
   | some none => some none
   | some (some b) => some (some (a ++ b))
def plStar (g : PFs) : PFs
 | [] => none
 | d :: ds => match g ds with
  | none => none
  | some none => some none
  | some (some b) => some (some (d :: b))
section
variable {X : Cx} {W : WX} {np : Nat} {pos : Pos}
theorem dpat_cap {x : Str} : DPat X (.MatchAs none (some x) pos) [x] pCap := ⟨rfl, fun {pins s σ H c G ρ d v u r} I R k rv e {Q} hQ => by
 cases e
 exact wpAny_matchPattern_Capture (hQ s G H _ I R (Same.refl G) ⟨rfl, [v], RpL.one k, .cons rv .nil⟩)⟩
theorem dpat_str (hu : X.A.units + 64 < cLine) {x : Str} {j p2} : DPat X (.MatchValue (.Constant (.str x) j p2) pos) [] (pStr x) := ⟨rfl, fun {pins s σ H c G ρ d v u r} I R k rv e {Q} hQ => by
 unfold pStr at e
 obtain ⟨b, e1, e2⟩ := Option.map_eq_some_iff.mp e
 obtain ⟨p1, p2', q1, q2, s1, s2, eb⟩ := dEqB_some e1
 refine wpAny_matchPattern_Value ?_
 refine thn ((pe_str (X := X)).run pins s σ H (fun y H1 => y = .str x ∧ H1 = H) I ⟨rfl, rfl⟩) fun y s1' ⟨y', H1, I1, r1, ey, eH⟩ => ?_
 subst ey; subst eH
 have ky : Rp X.K G (.str x) (.str x) := rfl
 refine thn (op_eqD hu pins s1' σ H1 v (.str x) u y (fun q H2 => q = .bl b ∧ H2 = H1) I1 rv r1 ⟨p1, p2', Rh.dp (c := c) (.inl k) R.gh q1, Rh.dp (c := c) (.inl ky) R.gh q2, s1, s2, by rw [eb], rfl⟩) fun q s2' ⟨q', H2, I2, r2, eq, eH⟩ => ?_
 subst eq; subst eH
 have e3 : q = .bool b := r2
 subst e3
 refine wpAny_truthy_bool ?_
 subst e2
 cases b with
 | true => exact hQ s2' G H2 _ I2 R (Same.refl G) ⟨rfl, [], rfl, .nil⟩
 | false => exact hQ s2' G H2 _ I2 R (Same.refl G) trivial⟩
theorem dpats_nil : DPats X [] [] plNil := ⟨fun {pins s σ H c G ρ ds vs us r} I R k rv e {Q} hQ => by
 cases e
 exact wpAny_matchEach_nil (hQ s G H _ I R (Same.refl G) ⟨rfl, [], rfl, .nil⟩)⟩
theorem vals_app : ∀ {vs ws : List V} {us xs : List Value}, Vals vs us → Vals ws xs → Vals (vs ++ ws) (us ++ xs)
 | _, _, _, _, .nil, h => h
 | _, _, _, _, .cons a r, h => .cons a (vals_app r h)
theorem dpats_cons {p : Pattern} {ps : List Pattern} {ns ms : List Str} {f : PF} {g : PFs} (h : DPat X p ns f) (hs : DPats X ps ms g) : DPats X (p :: ps) (ns ++ ms) (plCons f g) := ⟨fun {pins s σ H c G ρ ds vs us r} I R k rv e {Q} hQ => by
 cases ds with
 | nil => cases e
 | cons d ds =>
  obtain ⟨v, vr, ev, k1, k2⟩ := k
  subst ev
  cases rv with
  | cons ru rs =>
  refine wpAny_matchEach_cons ?_ h.star
  unfold plCons at e
  dsimp only at e
  cases e1 : f d with
  | none => rw [e1] at e; cases e
  | some r1 =>
   rw [e1] at e
   refine h.run I R k1 ru e1 fun s1 G1 H1 bs I1 R1 s01 m1 => ?_
   cases r1 with
   | none =>
    cases e
    cases bs with
    | some _ => exact m1.elim
    | none => exact hQ s1 G1 H1 _ I1 R1 s01 trivial
   | some a =>
    cases bs with
    | none => exact m1.elim
    | some bs =>
    obtain ⟨n1, vs1, q1, q2⟩ := m1
    dsimp only at e ⊢
    cases e2 : g ds with
    | none => rw [e2] at e; cases e
    | some r2 =>
     rw [e2] at e
     refine hs.run I1 R1 (k2.mono s01) rs e2 fun s2 G2 H2 bs2 I2 R2 s12 m2 => ?_
     cases r2 with
     | none =>
      cases e
      cases bs2 with
      | some _ => exact m2.elim
      | none => exact hQ s2 G2 H2 _ I2 R2 (s01.trans s12) trivial
     | some b =>
      cases e
      cases bs2 with
      | none => exact m2.elim
      | some bs2 =>
       obtain ⟨n2, vs2, q3, q4⟩ := m2
       exact hQ s2 G2 H2 _ I2 R2 (s01.trans s12) ⟨by rw [List.map_append, n1, n2], vs1 ++ vs2, (q1.mono s12).append q3, by rw [List.map_append]; exact vals_app q2 q4⟩⟩
theorem dpats_star {x : Str} {ps : List Pattern} {ms : List Str} {g : PFs} (hs : DPats X ps ms g) : DPats X (.MatchStar (some x) pos :: ps) (x :: ms) (plStar g) := ⟨fun {pins s σ H c G ρ ds vs us r} I R k rv e {Q} hQ => by
 cases ds with
 | nil => cases e
 | cons d ds =>
  obtain ⟨v, vr, ev, k1, k2⟩ := k
  subst ev
  cases rv with
  | cons ru rs =>
  refine PySem.W.kun_each ?_
  unfold plStar at e
  dsimp only at e
  cases e2 : g ds with
  | none => rw [e2] at e; cases e
  | some r2 =>
   rw [e2] at e
   refine hs.run I R k2 rs e2 fun s2 G2 H2 bs2 I2 R2 s12 m2 => ?_
   cases r2 with
   | none =>
    cases e
    cases bs2 with
    | some _ => exact m2.elim
    | none => exact hQ s2 G2 H2 _ I2 R2 s12 trivial
   | some b =>
    cases e
    cases bs2 with
    | none => exact m2.elim
    | some bs2 =>
     obtain ⟨n2, vs2, q3, q4⟩ := m2
     exact hQ s2 G2 H2 _ I2 R2 s12 ⟨by show x :: bs2.map (·.1) = _; rw [n2], v :: vs2, ⟨v, vs2, rfl, k1.mono s12, q3⟩, .cons ru q4⟩⟩
theorem pat_none {ps : List Pattern} {pins : List (Addr × Obj)} {s : Shared} {σ : L2.St} {H : Hp} {u : Value} {Q : Option (List (Str × Value)) → Shared → Prop} {T : String} (hT : s.TypeIs u T) (hf : flagOfType true (.type T) = pure false) (h : Q none s) :
  wpAny (model X.prog X.w) X.A (matchPattern (.MatchSequence ps pos) X.env u) Q X.xe s := by
 rw [arm_matchPattern_MatchSequence]
 refine wpAny_bind (wpAny_standAt ?_)
 refine wpAny_bind (wpAny_collectionFlag hT hf ?_)
 exact wpAny_pure h
theorem plainL_list {s : Shared} {a : Addr} {its : Array Value} (pl : PlainL s.heap a its) : s.heap.IsList a its := by
 obtain ⟨o, m, e, c, d, q⟩ := pl
 exact ⟨o, e, c, m, q⟩
theorem szl {n : Nat} (h : n ≤ sizeLine) : (n : Int) < 2 ^ 63 := by
 rw [sizeLine_eq] at h
 omega
theorem dpat_seq (hc : X.calm = true) {ps : List Pattern} {ns : List Str} {g : PFs} (hs : DPats X ps ns g) (hstar : ps.findIdx? (·.isStar) = none := by rfl)
  (hwild : (ps.all fun p => p.isWildcard || (p.isStar && p.names.isEmpty)) = false := by rfl) : DPat X (.MatchSequence ps pos) ns (pSeq ps.length g) := ⟨rfl, fun {pins s σ H c G ρ d v u r} I R k rv e {Q} hQ => by
 have no : ∀ {T : String}, s.TypeIs u T → flagOfType true (.type T) = pure false → r = none → wpAny (model X.prog X.w) X.A (matchPattern (.MatchSequence ps pos) X.env u) Q X.xe s := fun {T} hT hf er => pat_none (pins := pins) (σ := σ) (H := H) hT hf (hQ s G H _ I R (Same.refl G) (by subst er; trivial))
 cases d with
 | int i => cases e; cases k; obtain ⟨t, rfl⟩ := rv; exact no (T := "int") rfl flag_seq_int rfl
 | bl b => cases e; cases k; cases rv; exact no (T := "bool") rfl flag_seq_bool rfl
 | str x => cases e; cases k; obtain ⟨t, rfl⟩ := rv; exact no (T := "str") rfl flag_seq_str rfl
 | non => cases e; cases k; cases rv; exact no (T := "NoneType") rfl flag_seq_None rfl
 | lst ds =>
  obtain ⟨a, xs, rfl, h1, h2⟩ := k
  cases rv
  obtain ⟨its, rvs, pl, hz⟩ := I.list (.inl (.inl (R.gh _ _ h1)))
  have hl := plainL_list pl
  have el : its.toArray.size = ds.length := by rw [List.size_toArray, ← rvs.length, h2.length]
  have hfit : (its.toArray.size : Int) < 2 ^ 63 := szl (by rw [el, ← h2.length]; exact hz)
  have e : (if ds.length = ps.length then g ds else some none) = some r := e
  by_cases hn : ds.length = ps.length
  · rw [if_pos hn] at e
    refine matchSeq_list_hit hl hfit (by rw [el, hn]) ?_ hstar hwild
    rw [← hn, ← el]
    refine PySem.W.kun_itemsOf (I.ok.hd hc) hl fun h' hx => ?_
    have I1 : Inv X pins σ H { s with heap := h', toks := s.toks + 1 + 1 } := I.kept fun b o e => hx b o (Nat.ne_of_lt (Heap.lt_size e)) e
    exact hs.run I1 R h2 (by simpa using rvs) e hQ
  · rw [if_neg hn] at e
    cases e
    exact matchSeq_list_miss hl hfit (by rw [el]; exact hn) (hQ _ G H _ (I.tok _) R (Same.refl G) trivial) hstar hwild
 | tup ds =>
  obtain ⟨a, xs, rfl, h1, h2⟩ := k
  cases rv
  obtain ⟨its, rvs, pl, hz⟩ := I.tuple (Same.seqt R.gh h1)
  have el : its.toArray.size = ds.length := by rw [List.size_toArray, ← rvs.length, h2.length]
  have hfit : (its.toArray.size : Int) < 2 ^ 63 := szl (by rw [el, ← h2.length]; exact hz)
  have e : (if ds.length = ps.length then g ds else some none) = some r := e
  by_cases hn : ds.length = ps.length
  · rw [if_pos hn] at e
    refine matchSeq_tuple_hit pl hfit (by rw [el, hn]) ?_ hstar hwild
    rw [← hn, ← el]
    refine unpackItems_tuple (I.ok.hd hc) pl fun h' hx => ?_
    have I1 : Inv X pins σ H { s with heap := h', toks := s.toks + 1 + 1 } := I.kept fun b o e => hx b o (Nat.ne_of_lt (Heap.lt_size e)) e
    exact hs.run I1 R h2 (by simpa using rvs) e hQ
  · rw [if_neg hn] at e
    cases e
    exact matchSeq_tuple_miss pl hfit (by rw [el]; exact hn) (hQ _ G H _ (I.tok _) R (Same.refl G) trivial) hstar hwild
 | _ => cases e⟩
end
end Dl
namespace Dl
open PySem L2 PySem.Spec PyProof.Rows
section
variable {prog : Program} {w : World} {A : Around} {E : Value → Shared → Prop} {s : Shared}
theorem unstarL {l : Addr} {items : Array Value} {n i : Nat} {Q : List Value → Shared → Prop} (hl : s.heap.IsList l items) (hh : A.handled = none) (hi : i < n) (hn : n ≤ items.size + 1) (hz : items.size ≤ 16384)
  (h : ∀ (h₂ : Heap) (tk : Nat), (∀ b o, s.heap.get? b = some o → h₂.get? b = some o) → Q (items.toList.take i ++ [.ref h₂.objs.size] ++ (items.toList.drop i).drop (items.size + 1 - n)) { s with heap := h₂.push { cls := .type "list", data := .seq ((items.toList.drop i).take (items.size + 1 - n)).toArray }, toks := tk }) : wpAny (model prog w) A (unpackItems (.ref l) n (some i)) Q E s := by
 have hlt : l ≠ s.heap.objs.size := by obtain ⟨o, ho, _⟩ := hl; exact Nat.ne_of_lt (Heap.lt_size ho)
 unfold unpackItems
 refine wpAny_bind ?_
 unfold notIterableAtAll
 refine wpAny_bind (wpAny_specialOf hl.typeIs slot_list_iter.lookup ?_)
 refine wpAny_pure ?_
 simp only [Bool.false_eq_true, if_false]
 refine wpAny_bind (wpAny_holding (wpAny_pyIter_list hl ?_))
 refine wpAny_bind (wpAny_holding (PySem.W.kun_draw hlt i 0 _ _ ⟨_, Heap.get?_push_size _ rfl, rfl, rfl⟩ (hl.push _) (by omega) fun h₁ hit₁ hs₁ => ?_))
 have hl₁ : h₁.IsList l items := (hl.push _).extBut hs₁.extBut hlt
 rw [Nat.zero_add] at hit₁
 have hit₁' := hit₁
 obtain ⟨oi, hoi, _⟩ := hit₁'
 have hl₁' := hl₁
 obtain ⟨ol, hol, _⟩ := hl₁'
 rw [List.drop_zero]
 have hfl : (items.toList.take i).length = i := by rw [List.length_take, Array.length_toList]; omega
 rw [if_neg (show ¬ ((items.toList.take i).length < i) by rw [hfl]; omega)]
 refine wpAny_bind (wpAny_holding (PySem.W.kun_collect (s := { s with heap := h₁ }) (T := "list_iterator") (.inr (.inr (.inl rfl))) (Walks.list (A := A.in1) hh s.heap.objs.size l hlt items) (fun j u st => st.1.typeIs) (k := i) (by omega) ⟨hit₁, hl₁⟩ (Heap.lt_size hoi) (Heap.lt_size hol) (fun h₂ tk hk => ?_) (by rw [sizeLine_eq]; omega)))
 have hrl : (items.toList.drop i).length = items.size - i := by rw [List.length_drop, Array.length_toList]
 have hmid : (items.toList.drop i).length - (n - 1 - i) = items.size + 1 - n := by rw [hrl]; omega
 show wpAny _ _ (if (items.toList.drop i).length < n - 1 - i then _ else _) _ _ _
 rw [if_neg (by rw [hrl]; omega)]
 show wpAny _ _ (newList ((items.toList.drop i).take ((items.toList.drop i).length - (n - 1 - i))) >>= fun d => pure (items.toList.take i ++ [d] ++ (items.toList.drop i).drop ((items.toList.drop i).length - (n - 1 - i)))) _ _ _
 rw [hmid]
 refine wpAny_bind (wpAny_newList (s := { s with heap := h₂, toks := tk }) (wpAny_pure ?_) (by rw [List.length_take, hrl, sizeLine_eq]; omega))
 exact h h₂ tk fun b o e => hk b o (Nat.ne_of_lt (Heap.lt_size e)) (hs₁.extBut b o (Nat.ne_of_lt (Heap.lt_size e)) (Heap.get?_push_of_some _ e))
theorem unstarT {l : Addr} {items : Array Value} {n i : Nat} {Q : List Value → Shared → Prop} (hl : IsTup s.heap l items) (hh : A.handled = none) (hi : i < n) (hn : n ≤ items.size + 1) (hz : items.size ≤ 16384)
  (h : ∀ (h₂ : Heap) (tk : Nat), (∀ b o, s.heap.get? b = some o → h₂.get? b = some o) → Q (items.toList.take i ++ [.ref h₂.objs.size] ++ (items.toList.drop i).drop (items.size + 1 - n)) { s with heap := h₂.push { cls := .type "list", data := .seq ((items.toList.drop i).take (items.size + 1 - n)).toArray }, toks := tk }) : wpAny (model prog w) A (unpackItems (.ref l) n (some i)) Q E s := by
 have hlt : l ≠ s.heap.objs.size := by obtain ⟨o, ho, _⟩ := hl; exact Nat.ne_of_lt (Heap.lt_size ho)
 unfold unpackItems
 refine wpAny_bind ?_
 unfold notIterableAtAll
 refine wpAny_bind (wpAny_specialOf hl.typeIs slot_tuple_iter.lookup ?_)
 refine wpAny_pure ?_
 simp only [Bool.false_eq_true, if_false]
 refine wpAny_bind (wpAny_holding (iter_tuple hl ?_))
 refine wpAny_bind (wpAny_holding (draw_tuple hlt i 0 _ _ ⟨_, Heap.get?_push_size _ rfl, rfl, rfl⟩ (hl.push _) (by omega) fun h₁ hit₁ hs₁ => ?_))
 have hl₁ : IsTup h₁ l items := (hl.push _).extBut hs₁.extBut hlt
 rw [Nat.zero_add] at hit₁
 have hit₁' := hit₁
 obtain ⟨oi, hoi, _⟩ := hit₁'
 have hl₁' := hl₁
 obtain ⟨ol, hol, _⟩ := hl₁'
 rw [List.drop_zero]
 have hfl : (items.toList.take i).length = i := by rw [List.length_take, Array.length_toList]; omega
 rw [if_neg (show ¬ ((items.toList.take i).length < i) by rw [hfl]; omega)]
 refine wpAny_bind (wpAny_holding (PySem.W.kun_collect (s := { s with heap := h₁ }) (T := "tuple_iterator") (.inr (.inr (.inr rfl))) (Walks.tuple (A := A.in1) hh s.heap.objs.size l hlt items) (fun j u st => st.1.typeIs) (k := i) (by omega) ⟨hit₁, hl₁⟩ (Heap.lt_size hoi) (Heap.lt_size hol) (fun h₂ tk hk => ?_) (by rw [sizeLine_eq]; omega)))
 have hrl : (items.toList.drop i).length = items.size - i := by rw [List.length_drop, Array.length_toList]
 have hmid : (items.toList.drop i).length - (n - 1 - i) = items.size + 1 - n := by rw [hrl]; omega
 show wpAny _ _ (if (items.toList.drop i).length < n - 1 - i then _ else _) _ _ _
 rw [if_neg (by rw [hrl]; omega)]
 show wpAny _ _ (newList ((items.toList.drop i).take ((items.toList.drop i).length - (n - 1 - i))) >>= fun d => pure (items.toList.take i ++ [d] ++ (items.toList.drop i).drop ((items.toList.drop i).length - (n - 1 - i)))) _ _ _
 rw [hmid]
 refine wpAny_bind (wpAny_newList (s := { s with heap := h₂, toks := tk }) (wpAny_pure ?_) (by rw [List.length_take, hrl, sizeLine_eq]; omega))
 exact h h₂ tk fun b o e => hk b o (Nat.ne_of_lt (Heap.lt_size e)) (hs₁.extBut b o (Nat.ne_of_lt (Heap.lt_size e)) (Heap.get?_push_of_some _ e))
end
end Dl
namespace Dl
open PySem L2 PySem.Spec PyProof.Rows
theorem vals_take : ∀ {vs : List V} {us : List Value} (i : Nat), Vals vs us → Vals (vs.take i) (us.take i)
 | _, _, 0, _ => by simp only [List.take_zero]; exact .nil
 | _, _, i + 1, .nil => .nil
 | _, _, i + 1, .cons a r => .cons a (vals_take i r)
theorem vals_drop : ∀ {vs : List V} {us : List Value} (i : Nat), Vals vs us → Vals (vs.drop i) (us.drop i)
 | _, _, 0, h => h
 | _, _, i + 1, .nil => .nil
 | _, _, i + 1, .cons a r => vals_drop i r
section
variable {X : Cx} {W : WX} {np : Nat} {pos : Pos}
theorem star_run {ps : List Pattern} {ns : List Str} {g : PFs} {pins : List (Addr × Obj)} {s : Shared} {σ : L2.St} {H : Hp} {c : Cn} {G : Hp} {ρ : List S} {ds : List D} {xs : List V} {its : List Value} {r : Option (List D)} {n i tk : Nat} {h₂ : Heap}
  (hs : DPats X ps ns g) (I : Inv X pins σ H s) (R : Rst X.K c G H σ ρ) (h2 : RpL X.K G ds xs) (rvs : Vals xs its) (hz : ds.length ≤ 16384) (e : g (starD n i ds) = some r) {Q : Option (List (Str × Value)) → Shared → Prop}
  (hQ : ∀ s' G' H' bs, Inv X pins σ H' s' → Rst X.K c G' H' σ ρ → Same G G' → MatchR X.K G' ns r bs → Q bs s') (keep : ∀ b o, s.heap.get? b = some o → h₂.get? b = some o) :
  wpAny (model X.prog X.w) X.A (matchEach ps X.env (its.toArray.toList.take i ++ [.ref h₂.objs.size] ++ (its.toArray.toList.drop i).drop (its.toArray.size + 1 - n))) Q X.xe
   { s with heap := h₂.push { cls := .type "list", data := .seq ((its.toArray.toList.drop i).take (its.toArray.size + 1 - n)).toArray }, toks := tk } := by
 have I1 : Inv X pins σ H { s with heap := h₂, toks := tk } := I.kept keep
 have hf : H h₂.objs.size = none := I1.hok.fresh (Nat.le_refl _)
 have el : its.toArray.size = ds.length := by rw [List.size_toArray, ← rvs.length, h2.length]
 have et : its.toArray.toList = its := rfl
 rw [el, et]
 have rm : Vals ((xs.drop i).take (ds.length + 1 - n)) ((its.drop i).take (ds.length + 1 - n)) := vals_take _ (vals_drop _ rvs)
 have km : RpL X.K G ((ds.drop i).take (ds.length + 1 - n)) ((xs.drop i).take (ds.length + 1 - n)) := (h2.drop i).take _
 have ml : ((xs.drop i).take (ds.length + 1 - n)).length ≤ sizeLine := by
  have := h2.length
  rw [List.length_take, List.length_drop, sizeLine_eq]
  omega
 have I2 : Inv X pins σ (upd H h₂.objs.size (.lst ((xs.drop i).take (ds.length + 1 - n)))) { s with heap := h₂.push { cls := .type "list", data := .seq ((its.drop i).take (ds.length + 1 - n)).toArray }, toks := tk } :=
  I1.laid (t' := tk) (fun b u e => Heap.get?_push_of_some _ e) (Nat.le_refl _) ⟨ml, _, 0, rm, Heap.get?_push_size _ rfl⟩
 obtain ⟨R2, k2⟩ := R.new_own hf km
 obtain ⟨G', s', R3, k3⟩ := R2.freeze_new k2
 refine hs.run I2 R3 (ds := starD n i ds) (vs := xs.take i ++ [V.ref h₂.objs.size] ++ (xs.drop i).drop (ds.length + 1 - n)) ?_ ?_ e fun s3 G3 H3 bs I3 R4 s4 m => hQ s3 G3 H3 bs I3 R4 (s'.trans s4) m
 · exact (((h2.mono s').take i).append (RpL.one k3)).append (((h2.mono s').drop i).drop _)
 · exact vals_app (vals_app (vals_take i rvs) (.cons rfl .nil)) (vals_drop _ (vals_drop _ rvs))
theorem dpat_starseq (hc : X.calm = true) {ps : List Pattern} {ns : List Str} {g : PFs} {i : Nat} (hs : DPats X ps ns g) (hstar : ps.findIdx? (·.isStar) = some i := by rfl)
  (hwild : (ps.all fun p => p.isWildcard || (p.isStar && p.names.isEmpty)) = false := by rfl) (hname : (ps[i]?.elim [] (·.names)).isEmpty = false := by rfl) (h1 : ps.length > 1 := by decide) : DPat X (.MatchSequence ps pos) ns (pStar ps.length i g) := ⟨rfl, fun {pins s σ H c G ρ d v u r} I R k rv e {Q} hQ => by
 have no : ∀ {T : String}, s.TypeIs u T → flagOfType true (.type T) = pure false → r = none → wpAny (model X.prog X.w) X.A (matchPattern (.MatchSequence ps pos) X.env u) Q X.xe s := fun {T} hT hf er => pat_none (pins := pins) (σ := σ) (H := H) hT hf (hQ s G H _ I R (Same.refl G) (by subst er; trivial))
 have hin : i < ps.length := (List.findIdx?_eq_some_iff_getElem.mp hstar).1
 cases d with
 | int i => cases e; cases k; obtain ⟨t, rfl⟩ := rv; exact no (T := "int") rfl flag_seq_int rfl
 | bl b => cases e; cases k; cases rv; exact no (T := "bool") rfl flag_seq_bool rfl
 | str x => cases e; cases k; obtain ⟨t, rfl⟩ := rv; exact no (T := "str") rfl flag_seq_str rfl
 | non => cases e; cases k; cases rv; exact no (T := "NoneType") rfl flag_seq_None rfl
 | lst ds =>
  obtain ⟨a, xs, rfl, q1, h2⟩ := k
  cases rv
  obtain ⟨its, rvs, pl, hz⟩ := I.list (.inl (.inl (R.gh _ _ q1)))
  have hl := plainL_list pl
  have el : its.toArray.size = ds.length := by rw [List.size_toArray, ← rvs.length, h2.length]
  have hfit : (its.toArray.size : Int) < 2 ^ 63 := szl (by rw [el, ← h2.length]; exact hz)
  have e : (if 16384 < ds.length then none else if ds.length + 1 < ps.length then some none else g (starD ps.length i ds)) = some r := e
  by_cases hb : 16384 < ds.length
  · rw [if_pos hb] at e; cases e
  · rw [if_neg hb] at e
    by_cases hn : ds.length + 1 < ps.length
    · rw [if_pos hn] at e
      cases e
      exact PySem.W.kun_fewL hl hfit hstar h1 (by rw [el]; exact hn) (hQ _ G H _ (I.tok _) R (Same.refl G) trivial)
    · rw [if_neg hn] at e
      refine PySem.W.kun_seqL hl hfit hstar hwild hname h1 (by rw [el]; omega) ?_
      refine unstarL (s := { s with toks := s.toks + 1 + 1 }) hl (I.ok.hd hc) hin (by rw [el]; omega) (by rw [el]; omega) fun h₂ tk keep => ?_
      exact star_run hs (I.tok _) R h2 rvs (by omega) e hQ keep
 | tup ds =>
  obtain ⟨a, xs, rfl, q1, h2⟩ := k
  cases rv
  obtain ⟨its, rvs, pl, hz⟩ := I.tuple (Same.seqt R.gh q1)
  have el : its.toArray.size = ds.length := by rw [List.size_toArray, ← rvs.length, h2.length]
  have hfit : (its.toArray.size : Int) < 2 ^ 63 := szl (by rw [el, ← h2.length]; exact hz)
  have e : (if 16384 < ds.length then none else if ds.length + 1 < ps.length then some none else g (starD ps.length i ds)) = some r := e
  by_cases hb : 16384 < ds.length
  · rw [if_pos hb] at e; cases e
  · rw [if_neg hb] at e
    by_cases hn : ds.length + 1 < ps.length
    · rw [if_pos hn] at e
      cases e
      exact PySem.W.kun_fewT pl hfit hstar h1 (by rw [el]; exact hn) (hQ _ G H _ (I.tok _) R (Same.refl G) trivial)
    · rw [if_neg hn] at e
      refine PySem.W.kun_seqT pl hfit hstar hwild hname h1 (by rw [el]; omega) ?_
      refine unstarT (s := { s with toks := s.toks + 1 + 1 }) pl (I.ok.hd hc) hin (by rw [el]; omega) (by rw [el]; omega) fun h₂ tk keep => ?_
      exact star_run hs (I.tok _) R h2 rvs (by omega) e hQ keep
 | _ => cases e⟩
def setD : List Nat → List D → List S → List S
 | i :: is, d :: ds, ρ => setD is ds (ρ.set i (.val d))
 | _, _, ρ => ρ
abbrev CF : Type := D → MS
def kNil : CF := fun _ ρ => some (.nx ρ)
def kCase (f : PF) (is : List Nat) (b : MS) (r : CF) : CF := fun d ρ => match f d with
 | none => none
 | some none => r d ρ
 | some (some ds) => b (setD is ds ρ)
def kCaseG (f : PF) (is : List Nat) (t : M Bool) (b : MS) (r : CF) : CF := fun d ρ => match f d with
 | none => none
 | some none => r d ρ
 | some (some ds) => thenS t (fun ok => if ok = true then b else r d) (setD is ds ρ)
def sMatch (fe : M Rv) (r : CF) : MS := thenS (do let x ← fe; toV x) r
structure DCs (X : Cx) (W : WX) (np : Nat) (cs : List MatchCase) (f : CF) : Prop where
 run : ∀ {pins : List (Addr × Obj)} {s : Shared} {σ : L2.St} {H : Hp} {c : Cn} {G : Hp} {ρ : List S} {d : D} {v : V} {u : Value} {o : Os} {Dn : Ends} {first : Bool}, c.s0.length = np → Inv X pins σ H s → Rst X.K c G H σ ρ → Rp X.K G d v → RelV v u → f d ρ = some o → Po X.K c W G Dn o →
  wpAny (model X.prog X.w) X.A (matchCases cs X.env u first) (SP X pins Dn) X.xe s
inductive Nms (X : Cx) : List Str → List Nat → Prop
 | nil : Nms X [] []
 | cons {x : Str} {i : Nat} {ns : List Str} {is : List Nat} (hi : X.N[i]? = some x) (hx : Loc X.env.scope x) (hf : X.fn x = true ∨ X.env.scope.names.lookup x = some .local) (h : Nms X ns is) : Nms X (x :: ns) (i :: is)
theorem bind_names (hN : X.N.Nodup) {ns : List Str} {is : List Nat} (nm : Nms X ns is) : ∀ (bs : List (Str × Value)) (ds : List D) (vs : List V) (pins : List (Addr × Obj)) (s : Shared) (σ : L2.St) (H : Hp) (c : Cn) (G : Hp) (ρ : List S) (Q : Unit → Shared → Prop), bs.map (·.1) = ns → RpL X.K G ds vs → Vals vs (bs.map (·.2)) → Inv X pins σ H s → Rst X.K c G H σ ρ →
  (∀ s' σ', Inv X pins σ' H s' → Rst X.K c G H σ' (setD is ds ρ) → Q () s') → wpAny (model X.prog X.w) X.A (assignInOrder (bs.map fun (n, _) => bindName X.env n) (bs.map (·.2))) Q X.xe s := by
 induction nm with
 | nil =>
  intro bs ds vs pins s σ H c G ρ Q e k r I R h
  cases bs with
  | cons b bs => cases e
  | nil =>
   refine wpAny_assignInOrder_none (h s σ I ?_)
   unfold setD; exact R
 | cons hi hx hf nm ih =>
  intro bs ds vs pins s σ H c G ρ Q e k r I R h
  cases bs with
  | nil => cases e
  | cons b bs =>
  obtain ⟨n, u⟩ := b
  obtain ⟨e1, e2⟩ := List.cons.inj e
  have e1 : n = _ := e1
  subst e1
  cases r with
  | @cons v _ vr _ ru rr =>
  cases ds with
  | nil => cases k
  | cons d ds =>
  obtain ⟨v', vr', ev, k1, k2⟩ := k
  cases ev
  refine wpAny_assignInOrder_more (wpAny_bindName ?_)
  refine store_ok I hN hi hx ru (fun s1 I1 => ?_) hf
  exact ih bs ds vr pins s1 _ H c G _ Q e2 k2 rr I1 (R.set_val _ k1) h
theorem dcs_nil : DCs X W np [] kNil := ⟨fun {pins s σ H c G ρ d v u o Dn first} hl I R k rv e po => by
 cases e
 exact wpAny_matchCases_nil ⟨σ, H, I, po σ G H R (Same.refl G)⟩⟩
theorem dcs_cons (hN : X.N.Nodup) {p : Pattern} {ns : List Str} {is : List Nat} {f : PF} {sts : List Stmt} {b : MS} {cs : List MatchCase} {r : CF} (hp : DPat X p ns f) (nm : Nms X ns is) (hb : DL X W np sts b) (hr : DCs X W np cs r) : DCs X W np (⟨p, none, sts⟩ :: cs) (kCase f is b r) := ⟨fun {pins s σ H c G ρ d v u o Dn first} hl I R k rv e po => by
 refine wpAny_matchCases_cons ?_
 unfold kCase at e
 cases e1 : f d with
 | none => rw [e1] at e; cases e
 | some q =>
  rw [e1] at e
  refine hp.run I R k rv e1 fun s1 G1 H1 bs I1 R1 s01 m1 => ?_
  cases q with
  | none =>
   cases bs with
   | some _ => exact m1.elim
   | none => exact hr.run hl I1 R1 (Rp.mono s01 d v k) rv e (po.mono s01)
  | some ds =>
   cases bs with
   | none => exact m1.elim
   | some bs =>
    obtain ⟨n1, vs1, q1, q2⟩ := m1
    refine bind_names hN nm _ _ _ _ _ _ _ _ _ _ _ n1 q1 q2 I1 R1 fun s2 σ2 I2 R2 => ?_
    exact hb.pss.run pins s2 σ2 H1 Dn I2 ⟨c, G1, _, o, hl, R2, e, po.mono s01⟩⟩
theorem dcs_guard (hN : X.N.Nodup) {p : Pattern} {ns : List Str} {is : List Nat} {f : PF} {ge : Expr} {t : M Bool} {sts : List Stmt} {b : MS} {cs : List MatchCase} {r : CF} (hp : DPat X p ns f) (nm : Nms X ns is) (hg : DT X W ge t) (hb : DL X W np sts b) (hr : DCs X W np cs r) : DCs X W np (⟨p, some ge, sts⟩ :: cs) (kCaseG f is t b r) := ⟨fun {pins s σ H c G ρ d v u o Dn first} hl I R k rv e po => by
 refine wpAny_matchCases_cons ?_
 unfold kCaseG at e
 cases e1 : f d with
 | none => rw [e1] at e; cases e
 | some q =>
  rw [e1] at e
  refine hp.run I R k rv e1 fun s1 G1 H1 bs I1 R1 s01 m1 => ?_
  cases q with
  | none =>
   cases bs with
   | some _ => exact m1.elim
   | none => exact hr.run hl I1 R1 (Rp.mono s01 d v k) rv e (po.mono s01)
  | some ds =>
   cases bs with
   | none => exact m1.elim
   | some bs =>
    obtain ⟨n1, vs1, q1, q2⟩ := m1
    refine bind_names hN nm _ _ _ _ _ _ _ _ _ _ _ n1 q1 q2 I1 R1 fun s2 σ2 I2 R2 => ?_
    have po1 := po.mono s01
    refine thn (hg.pt.run pins s2 σ2 H1 (fun ok H2 => ∃ G2 ρ2, Rst X.K c G2 H2 σ2 ρ2 ∧ Same G1 G2 ∧ (if ok = true then b else r d) ρ2 = some o) I2 ⟨c, G1, _, R2, wpM_mono (thenS_wp e) (fun ok ρ1 h1 ok' G2 H2 R3 s3 eb => ?_) fun e ρ1 he => by subst he; exact EXk.of_po po1⟩) fun ok s3 ⟨H2, I3, G2, ρ2, R3, s3', h3⟩ => ?_
    · subst eb; exact ⟨G2, ρ1, R3, s3, h1⟩
    · cases ok with
      | true => exact hb.pss.run pins s3 σ2 H2 Dn I3 ⟨c, G2, _, o, hl, R3, h3, po1.mono s3'⟩
      | false => exact hr.run hl I3 R3 (Rp.mono (s01.trans s3') d v k) rv h3 (po1.mono s3')⟩
theorem ds_match {e : Expr} {fe : M Rv} {cs : List MatchCase} {r : CF} (he : DE X W e fe) (hc : DCs X W np cs r) : DS X W np (.Match e cs pos) (sMatch fe r) := ⟨⟨fun pins s σ H Dn I ⟨c, G, ρ, o, hl, R, h, po⟩ => by
 refine wpAny_Match ?_
 have hw := thenS_wp h
 refine thn (he.pe.run pins s σ H (fun v H1 => ∃ G1 ρ1 d, Rst X.K c G1 H1 σ ρ1 ∧ Same G G1 ∧ Rp X.K G1 d v ∧ r d ρ1 = some o) I (tg_step R (Same.refl G) (wpM_mono hw (fun _ _ h => h) (fun e ρ1 he => by subst he; exact EXk.of_po po)) fun x ρ1 v G1 H1 R1 s1 _ k1 w1 => ?_)) fun u s1 ⟨v, H1, I1, rv, G1, ρ1, d, R1, s01, k1, h1⟩ => ?_
 · obtain ⟨d, G2, ρ2, s2, R2, k2, hq⟩ := toV_wp R1 k1 w1
   exact ⟨G2, ρ2, d, R2, s1.trans s2, k2, hq⟩
 · exact hc.run hl I1 R1 k1 rv h1 (po.mono s01)⟩⟩
end
end Dl
namespace Dl
open PySem L2
abbrev P2 : Type := List Rv × List D × List D
abbrev repAT2 (K : PySem.W.Frag) : Cn → Hp → Hp → L2.St → List S → List V → P2 → Prop := fun c G H σ ρ vs p => ∃ a b, Rst K ⟨c.F, []⟩ G H (σ ++ [some (.ref b)] ++ [some (.ref a)]) (ρ ++ [.own (.lst p.2.2)] ++ [.own (.lst p.2.1)]) ∧ RpRs K G (σ ++ [some (.ref b)] ++ [some (.ref a)]) vs p.1
structure DAT2 (X : Cx) (W : WX) (es : List Expr) (f : M P2) : Prop where
 pa : PA X es (tg X.K W (repAT2 X.K) f)
def aTmp2R (p : List Rv × List D) (ds : List D) : M P2 := fun ρ => some (.ok (.ali (ρ.length + 1) :: p.1, ds, p.2) ρ)
def aTmp2 (fa : M Rv) (ga : M (List Rv × List D)) : M P2 := do
 let r ← fa
 let ds ← ofO (lstOf1 r)
 let p ← ga
 aTmp2R p ds
def aConsT2 (fa : M Rv) (ga : M P2) : M P2 := do
 let r ← fa
 let p ← ga
 pure (settle r :: p.1, p.2)
section
variable {X : Cx} {W : WX} {e : Expr} {es : List Expr} {fa : M Rv}
theorem dat_tmp2 {ga : M (List Rv × List D)} (he : DE X W e fa) (hr : DAT X W es ga) (hs : starEach (e :: es) X.env = (false, eval e X.env) :: starEach es X.env := by rfl) : DAT2 X W (e :: es) (aTmp2 fa ga) :=
 ⟨(pa_cons he.pe hr.pa hs).weak fun σ H Q ⟨c, G, ρ, R, w⟩ => tg_step R (Same.refl G) w fun r ρ1 v G1 H1 R1 s1 _ k w1 => by
  obtain ⟨ds, eq, w2⟩ := ofO_wp (wpM_bind w1)
  have er : r = .own (.lst ds) := by
   cases r with
   | own d => cases d with
    | lst es => cases eq; rfl
    | _ => cases eq
   | _ => cases eq
  subst er
  obtain ⟨a, xs, hv, ha, hx, hF, Rh⟩ := R1.hide k
  subst hv
  refine ⟨{ c with F := upd c.F a (.lst xs) }, G1, ρ1, Rh, ?_⟩
  refine wpM_mono (wpM_bind w2) (fun p ρ2 hk vs G2 H2 R2 s2 ⟨b, k2, k3⟩ => ?_) fun x ρ2 hx cls d G2 H2 R2 s2 xa => ?_
  · have k2' : Rst X.K { (⟨c.F, []⟩ : Cn) with F := upd c.F a (.lst xs) } G2 H2 (σ ++ [some (.ref b)]) (ρ2 ++ [.own (.lst p.2)]) := k2
    refine hk (.ref a :: vs) G2 H2 (R2.unhide hF) (s1.trans s2) ⟨a, b, Rst.slot (c := ⟨c.F, []⟩) hF k2' (hx.mono s2), ?_, k3.wide⟩
    have hl : (σ ++ [some (V.ref b)]).length = ρ2.length + 1 := by rw [List.length_append, R2.len]; rfl
    show (σ ++ [some (V.ref b)] ++ [some (V.ref a)])[ρ2.length + 1]? = _
    rw [← hl]; exact ap_new
  · exact hx cls d G2 H2 (R2.unhide hF) (s1.trans s2) xa⟩
theorem dat_cons2 {ga : M P2} (he : DE X W e fa) (hr : DAT2 X W es ga) (hs : starEach (e :: es) X.env = (false, eval e X.env) :: starEach es X.env := by rfl) : DAT2 X W (e :: es) (aConsT2 fa ga) :=
 ⟨(pa_cons he.pe hr.pa hs).weak fun σ H Q ⟨c, G, ρ, R, w⟩ => tg_step R (Same.refl G) w fun r ρ1 v G1 H1 R1 s1 _ k w1 => by
  obtain ⟨G1', s1', R1', k'⟩ := settle_ok R1 k
  exact tg_step R1' (s1.trans s1') w1 fun p ρ2 vs G2 H2 R2 s2 s12 ⟨a, b, k2, k3⟩ w2 => w2 (v :: vs) G2 H2 R2 s2 ⟨a, b, k2, RpRs.cons (k'.mono s12).wide.wide k3⟩⟩
end
def callT2 (mu : List Bool) (fn : Fn) (p : P2) : M Rv := fun ρ => match callM mu fn p.1 (ρ ++ [.own (.lst p.2.2)] ++ [.own (.lst p.2.1)]) with
 | some (.ok (.ali _) _) => none
 | some (.ok r ρ') => some (.ok r (ρ'.take ρ.length))
 | some (.ex e ρ') => some (.ex e (ρ'.take ρ.length))
 | none => none
theorem Rst.drop2 {K : PySem.W.Frag} {c : Cn} {G H : Hp} {σ : L2.St} {ρ ρ2 : List S} {x y : Option V} (hl : ρ.length = σ.length) (par : ∀ (i : Nat) (d : D), ρ2[i]? = some (.own d) → i < ρ.length → i < c.s0.length → σ[i]? = c.s0[i]?) (R : Rst K ⟨c.F, []⟩ G H (σ ++ [x] ++ [y]) ρ2) : Rst K c G H σ (ρ2.take ρ.length) := by
 have h1 := Rst.drop (c := ⟨c.F, []⟩) (ρ := ρ ++ [S.no]) (by rw [List.length_append, List.length_append, hl]; rfl) (fun i d e h1 h2 => absurd h2 (Nat.not_lt_zero _)) R
 have h2 := Rst.drop (c := c) (ρ := ρ) hl (fun i d e h1 h2 => par i d (tk_get e).1 h1 h2) h1
 rw [List.take_take, List.length_append] at h2
 rw [Nat.min_eq_left (Nat.le_add_right _ _)] at h2
 exact h2
theorem RpR.drop2 {K : PySem.W.Frag} {c : Cn} {G H : Hp} {σ : L2.St} {v : V} {x y : Option V} {ρ2 : List S} {r : Rv} {n : Nat} (na : ∀ i, r ≠ .ali i) (h : RpR K ⟨c.F, []⟩ G H (σ ++ [x] ++ [y]) ρ2 v r) : RpR K c G H σ (ρ2.take n) v r := by
 have h1 := RpR.drop (c := ⟨c.F, []⟩) (c' := ⟨c.F, []⟩) (n := ρ2.length) rfl na h
 have h2 := RpR.drop (c := c) (c' := ⟨c.F, []⟩) (n := n) rfl na h1
 rw [List.take_length] at h2
 exact h2
theorem call_spT2 {X : Cx} {W : WX} {np : Nat} {fn : Fn} {mu : List Bool} {c : Cn} {G0 G H : Hp} {σ : L2.St} {ρ : List S} {p : P2} {vs : List V} {Q : VK} (R : Rst X.K c G H σ ρ) (s0 : Same G0 G) (hv : repAT2 X.K c G H σ ρ vs p) (hl : ∀ ss o, fn ss = some o → ss.length = np)
  (w : wpM (callT2 mu fn p ρ) (fun r ρ' => ∀ v G' H', Rst X.K c G' H' σ ρ' → Same G0 G' → RpR X.K c G' H' σ ρ' v r → Q v H') (EXk X.K c W σ G0)) : spD X.K np fn vs H Q (WE W σ) := by
 obtain ⟨a, b, R2, k⟩ := hv
 have par : ∀ {o : Ot Rv}, callM mu fn p.1 (ρ ++ [.own (.lst p.2.2)] ++ [.own (.lst p.2.1)]) = some o → ∀ (i : Nat) (d : D), (match o with
  | .ok _ ρ' => ρ'[i]?
  | .ex _ ρ' => ρ'[i]?) = some (.own d) → i < ρ.length → i < c.s0.length → σ[i]? = c.s0[i]? := fun {o} h i d q h1 h2 => by
  obtain ⟨e, he⟩ := callM_own h i d q
  rcases ap_get he with he | ⟨h3, _⟩
  · rcases ap_get he with he | ⟨h3, _⟩
    · exact R.par i e he h2
    · omega
  · rw [List.length_append] at h3
    have h3 : i = ρ.length + 1 := h3
    omega
 refine call_sp (W := fun cls d _ H => W cls d σ H) (c := ⟨c.F, []⟩) (mu := mu) R2 s0 k hl ?_
 unfold callT2 at w
 cases q : callM mu fn p.1 (ρ ++ [.own (.lst p.2.2)] ++ [.own (.lst p.2.1)]) with
 | none => rw [q] at w; exact w.elim
 | some o =>
  rw [q] at w
  cases o with
  | ex e ρ' => exact fun cls d G' H' R' s' xa => w cls d G' H' (R'.drop2 R.len (par q)) s' xa
  | ok r ρ' =>
   cases r with
   | ali i => exact w.elim
   | val d => exact fun v G' H' R' s' kr => w v G' H' (R'.drop2 R.len (par q)) s' (RpR.drop2 (fun i z => nomatch z) kr)
   | own d => exact fun v G' H' R' s' kr => w v G' H' (R'.drop2 R.len (par q)) s' (RpR.drop2 (fun i z => nomatch z) kr)
def eCallT2 (mu : List Bool) (fn : Fn) (ga : M P2) : M Rv := do
 let p ← ga
 callT2 mu fn p
section
variable {X : Cx} {W : WX} {x : Str} {k np : Nat} {fn : Fn} {mu : List Bool} {e : Expr} {es : List Expr} {ga : M P2} {p pos : Pos}
theorem de_callT2 (mu : List Bool) (go : Go X W) (F : DF X.prog X.w X.K X.mg X.base x k np fn) (hr : Room k X.A) (hg : Gl X x) (ha : DAT2 X W (e :: es) ga)
  (hdb : (x == ("__debug__" : Str)) = false := by decide) (he : starEach (e :: es) X.env = (false, eval e X.env) :: starEach es X.env := by rfl) (hpl : (backTo pos (starEach es X.env)).any (·.1) = false := by rfl) :
  DE X W (.Call (.Name x p) (e :: es) [] pos) (eCallT2 mu fn ga) := by
 obtain ⟨f, fd, ps, hm, hk, hb, FO⟩ := F.ex
 refine ⟨(pe_callSD (E := WE W) FO hr hg hm hk hb .nil (wish_of go.tk) ha.pa hdb he hpl).weak fun σ H Q ⟨c, G, ρ, R, w⟩ => ?_⟩
 refine tg_step R (Same.refl G) w fun rs ρ1 vs G1 H1 R1 s1 _ k1 w1 => ?_
 rw [List.append_nil]
 exact call_spT2 R1 s1 k1 F.len w1
end
end Dl
namespace Dl
open PySem L2 PySem.Spec PyProof.Rows
open PySem.AutoSeq1 in
theorem list_extend_tup (l : Addr) (items : Array Value) (n : Nat) (b : Addr) (items2 : Array Value) (n2 : Nat) (dv : Option Addr) (sl : Array (Option Value)) (hs0 : ¬(!items.isEmpty && Builtin.List.listTooLong (items.size + items2.size)) = true) (hs1 : items.size ≤ sizeLine) (hs2 : items.size + items2.size ≤ sizeLine + 1) :
  Meets (Builtin.«list.extend» ⟨[.ref l, .ref b], []⟩) (fun _ R s => s.heap.get? l = some { cls := .type "list", dict := none, data := .seq items n, slots := #[] } ∧ s.heap.get? b = some { cls := .type "tuple", dict := dv, data := .seq items2 n2, slots := sl } ∧ R (.ok (.ret Value.none)) { s with heap := s.heap.update l (Obj.mapSeq fun x => x ++ items2), toks := s.toks }) :=
 .of_wp fun prog w A R s h => by
  obtain ⟨hp, g, d, tk, os⟩ := s; obtain ⟨hl, hb, h⟩ := h; have f1 := idx_int; have f2 := AutoSeq1.sub_tuple_tuple; have f3 := AutoSeq1.sub_list_list; have f4 := AutoSeq1.sub_tuple_list; have f5 := AutoSeq1.sub_list_tuple;
  have hz' : (items ++ items2).size ≤ sizeLine + 1 := by rw [Array.size_append]; exact hs2
  wp_walk using (wpAny_updateSeq hl rfl (hz := hs1) (_hz' := hz')), wpAny_loadPart' hl, wpAny_loadPart' hb; exact ⟨_, rfl, h⟩
section
variable {X : Cx}
end
def mExtendT (fo fa : M Rv) : M Rv := do
 let r ← fo
 ckL (settle r)
 let x ← fa
 let d ← peek (settle x)
 fun ρ => match ownLst (settle r) ρ, d with
  | some (i, ds), .tup es => if ds.length + es.length ≤ sizeLine then some (.ok (.val .non) (ρ.set i (.own (.lst (ds ++ es))))) else none
  | _, _ => none
section
variable {X : Cx} {W : WX} {o e : Expr} {fo fa : M Rv} {apos cpos : Pos}
end
end Dl
namespace Dl
open PySem L2 Dn
def intO : D → Option Int
 | .int i => some i
 | _ => none
def intsO : List D → Option (List Int)
 | [] => some []
 | d :: ds => (intO d).bind fun i => (intsO ds).map (i :: ·)
def rowO : D → Option (List Int)
 | .tup ds => intsO ds
 | _ => none
def rowsO : List D → Option K2
 | [] => some []
 | d :: ds => (rowO d).bind fun r => (rowsO ds).map (r :: ·)
def keyO : D → Option K2
 | .tup ds => rowsO ds
 | _ => none
theorem intO_is {d : D} {i : Int} (h : intO d = some i) : d = .int i := by cases d <;> cases h; rfl
theorem intsO_is : ∀ {ds : List D} {l : List Int}, intsO ds = some l → ds = l.map .int
 | [], l, h => by cases h; rfl
 | d :: ds, l, h => by
  obtain ⟨i, h1, h2⟩ := Option.bind_eq_some_iff.mp h
  obtain ⟨r, h3, rfl⟩ := Option.map_eq_some_iff.mp h2
  rw [intO_is h1, intsO_is h3]; rfl
theorem rowO_is {d : D} {r : List Int} (h : rowO d = some r) : d = .tup (r.map .int) := by
 cases d <;> try (cases h; done)
 rw [intsO_is h]
theorem rowsO_is : ∀ {ds : List D} {l : K2}, rowsO ds = some l → ds = l.map fun r => .tup (r.map .int)
 | [], l, h => by cases h; rfl
 | d :: ds, l, h => by
  obtain ⟨i, h1, h2⟩ := Option.bind_eq_some_iff.mp h
  obtain ⟨r, h3, rfl⟩ := Option.map_eq_some_iff.mp h2
  rw [rowO_is h1, rowsO_is h3]; rfl
theorem keyO_is {d : D} {k : K2} (h : keyO d = some k) : d = keyD k := by
 cases d <;> try (cases h; done)
 rw [rowsO_is h]; rfl
theorem intsO_map : ∀ l : List Int, intsO (l.map .int) = some l
 | [] => rfl
 | i :: l => by show (some i).bind _ = _; rw [Option.bind_some, intsO_map l]; rfl
theorem rowsO_map : ∀ l : K2, rowsO (l.map fun r => .tup (r.map .int)) = some l
 | [] => rfl
 | r :: l => by
  show (intsO (r.map .int)).bind _ = _
  rw [intsO_map r, Option.bind_some, rowsO_map l]; rfl
theorem keyO_keyD (k : K2) : keyO (keyD k) = some k := rowsO_map k
def KeyAt (K : PySem.W.Frag) (H : Hp) (k : K2) (b : Addr) : Prop := ∃ bs : List Addr, SqT K H b (bs.map V.ref) ∧ Paired (fun (r : List Int) c => SqT K H c (r.map V.int)) k bs
section
variable {K : PySem.W.Frag} {G H : Hp}
theorem KeyAt.mono {k : K2} {b : Addr} (s : Same G H) (h : KeyAt K G k b) : KeyAt K H k b := by
 obtain ⟨bs, h1, h2⟩ := h
 exact ⟨bs, Same.seqt s h1, Paired.mapP h2 fun _ _ z => Same.seqt s z⟩
def KeysAt (K : PySem.W.Frag) (H : Hp) (kvs : List (K2 × Addr × V)) : Prop := ∀ p ∈ kvs, KeyAt K H p.1 p.2.1
end
section
variable {X : Cx} {pins : List (Addr × Obj)} {σ : L2.St} {H : Hp} {s : Shared}
theorem items_int : ∀ {r : List Int} {us : List Value}, Vals (r.map V.int) us → ItemsAre (PySem.intKind X.prog X.w) r us
 | [], us, h => by cases h; exact .nil
 | i :: r, us, h => by
  cases h with
  | cons h1 h2 =>
   obtain ⟨t, rfl⟩ := h1
   exact .cons (by show Value.isInt i (.int i t) = true; simp [Value.isInt]) (items_int h2)
theorem KeyAt.is (I : Inv X pins σ H s) {k : K2} {b : Addr} (h : KeyAt X.K H k b) : IsTup2 (PySem.intKind X.prog X.w) s.heap k b := by
 obtain ⟨bs, h1, h2⟩ := h
 obtain ⟨its, r, ⟨o, e1, e2, n, e3⟩, hsz⟩ := I.tuple h1
 clear hsz
 refine ⟨o, its.toArray, n, e1, e2, e3, ?_⟩
 show TuplesAre _ _ k its
 clear e1 e2 e3 h1
 induction h2 generalizing its with
 | nil => cases r; exact .nil
 | @cons x c k bs hc _ ih =>
  cases r with
  | cons r1 r2 =>
   cases r1
   obtain ⟨its', r', ⟨o', d1, d2, n', d3⟩, _⟩ := I.tuple hc
   exact .cons ⟨o', its'.toArray, n', d1, d2, d3, items_int r'⟩ (ih _ r2)
theorem KeysAt.is (I : Inv X pins σ H s) {kvs : List (K2 × Addr × V)} (h : KeysAt X.K H kvs) : Keys X.prog X.w s.heap kvs := fun p hp => (h p hp).is I
end
def lkN : List D → List D → K2 → Option D
 | k' :: ks, v :: vs, k => if keyO k' = some k then some v else lkN ks vs k
 | _, _, _ => none
theorem Rh.ndi {K : PySem.W.Frag} {c : Cn} {G H : Hp} {ks vs : List D} {v : V} (h : Rh K c G H (.ndi ks vs) v) (s : Same G H) : ∃ a kvs, v = .ref a ∧ H a = some (NDo a kvs) ∧ ks = kvs.map (fun p => keyD p.1) ∧ RpL K G ks (kvs.map fun p => V.ref p.2.1) ∧ RpL K G vs (kvs.map fun p => p.2.2) := by
 rcases h with ⟨a, xs, h1, h2, h0, h3, h4⟩ | ⟨a, h1, _, _, xs, h2, h0, h3, h4⟩
 · exact ⟨a, xs, h1, s _ _ h2, h0, h3, h4⟩
 · exact ⟨a, xs, h1, h2, h0, h3, h4⟩
theorem Rh.key {K : PySem.W.Frag} {c : Cn} {G H : Hp} {d : D} {k : K2} {v : V} (h : Rh K c G H d v) (e : keyO d = some k) : Rp K G (keyD k) v := by
 have e := keyO_is e
 subst e
 rcases h with h | ⟨a, _, _, _, h⟩
 · exact h
 · exact h.elim
def dInN (d e : D) : Option Rv := match keyO d, e with
 | some k, .ndi ks vs => some (.val (.bl (lkN ks vs k).isSome))
 | _, _ => none
section
variable {X : Cx} {W : WX} {a b e o : Expr} {fa fb fo : M Rv} {pos p : Pos} {np : Nat}
def eInN (fa fb : M Rv) : M Rv := mBin dInN fa fb
def dGetN (d e : D) : Option D := match keyO e, d with
 | some k, .ndi ks vs => lkN ks vs k
 | _, _ => none
def eGetN (fa fb : M Rv) : M Rv := do
 let x ← fa
 let y ← fb
 let d ← peek (settle x)
 let e ← peek y
 let z ← ofO (dGetN d e)
 pure (.val z)
end
end Dl
namespace Dl
open PySem L2 Dn
section
variable {X : Cx} {W : WX} {pos : Pos}
def eDicN : M Rv := pure (.own (.ndi [] []))
end
def replV : List D → List D → K2 → D → List D
 | k' :: ks, v :: vs, k, d => (if keyO k' = some k then d else v) :: replV ks vs k d
 | _, _, _, _ => []
def putVs (ks vs : List D) (k : K2) (d : D) : List D := if (lkN ks vs k).isSome = true then replV ks vs k d else vs ++ [d]
def putKs (ks vs : List D) (k : K2) : List D := if (lkN ks vs k).isSome = true then ks else ks ++ [keyD k]
section
variable {K : PySem.W.Frag} {G : Hp}
end
def ownNdi (r : Rv) (ρ : List S) : Option (Nat × List D × List D) := match r with
 | .ali i => match ρ[i]? with
  | some (.own (.ndi ks vs)) => some (i, ks, vs)
  | _ => none
 | _ => none
def sSetN (fa fo fi : M Rv) : MS := thenS fa fun x => thenS (toV x) fun d => thenS fo fun r => thenS fi fun j => thenS (peek (settle j)) fun e ρ =>
 match ownNdi (settle r) ρ, keyO e with
  | some (i, ks, vs), some k => if vs.length < sizeLine then some (.nx (ρ.set i (.own (.ndi (putKs ks vs k) (putVs ks vs k d))))) else none
  | _, _ => none
section
variable {X : Cx} {W : WX} {a e o : Expr} {fa fb fo : M Rv} {pos p : Pos} {np : Nat}
end
end Dl
namespace Dl
open PySem L2
section
variable {K : PySem.W.Frag} {c : Cn} {G H : Hp} {σ : L2.St} {ρ : List S} {v : V} {ks vs : List D}
end
abbrev repATN (K : PySem.W.Frag) : Cn → Hp → Hp → L2.St → List S → List V → List Rv × List D × List D → Prop := fun c G H σ ρ vs p => ∃ a, Rst K ⟨c.F, []⟩ G H (σ ++ [some (.ref a)]) (ρ ++ [.own (.ndi p.2.1 p.2.2)]) ∧ RpRs K G (σ ++ [some (.ref a)]) vs p.1
structure DATN (X : Cx) (W : WX) (es : List Expr) (f : M (List Rv × List D × List D)) : Prop where
 pa : PA X es (tg X.K W (repATN X.K) f)
def lstOf1N : Rv → Option (List D × List D)
 | .own (.ndi ks vs) => some (ks, vs)
 | _ => none
def aTmpRN (rs : List Rv) (ds : List D × List D) : M (List Rv × List D × List D) := fun ρ => some (.ok (.ali ρ.length :: rs, ds) ρ)
def aTmpN (fa : M Rv) (ga : M (List Rv)) : M (List Rv × List D × List D) := do
 let r ← fa
 let ds ← ofO (lstOf1N r)
 let rs ← ga
 aTmpRN rs ds
def aConsTN (fa : M Rv) (ga : M (List Rv × List D × List D)) : M (List Rv × List D × List D) := do
 let r ← fa
 let p ← ga
 pure (settle r :: p.1, p.2)
section
variable {X : Cx} {W : WX} {e : Expr} {es : List Expr} {fa : M Rv}
end
def callTN (mu : List Bool) (fn : Fn) (p : List Rv × List D × List D) : M Rv := fun ρ => match callM mu fn p.1 (ρ ++ [.own (.ndi p.2.1 p.2.2)]) with
 | some (.ok (.ali _) _) => none
 | some (.ok r ρ') => some (.ok r (ρ'.take ρ.length))
 | some (.ex e ρ') => some (.ex e (ρ'.take ρ.length))
 | none => none
def eCallTN (mu : List Bool) (fn : Fn) (ga : M (List Rv × List D × List D)) : M Rv := do
 let p ← ga
 callTN mu fn p
section
variable {X : Cx} {W : WX} {x : Str} {k np : Nat} {fn : Fn} {mu : List Bool} {e : Expr} {es : List Expr} {ga : M (List Rv × List D × List D)} {p pos : Pos}
end
end Dl
namespace Dn
open PySem L2 Dl
section
variable {X : Cx} {ke ve : Expr} {pos : Pos} {tk tv : TE}
end
end Dn
namespace Dl
open PySem L2 Dn
def eDic1 (fa fb : M Rv) : M Rv := do
 let r ← fa
 let q ← fb
 let e ← peek (settle r)
 let d ← toV q
 match keyO e with
 | some k => pure (.own (.ndi [keyD k] [d]))
 | none => M.fail
section
variable {X : Cx} {W : WX} {ke ve : Expr} {fa fb : M Rv} {pos : Pos}
end
end Dl
namespace Dn
open PySem L2 Dl
section
variable {X : Cx} {pins : List (Addr × Obj)} {σ : St} {H : Hp} {s : Shared} {a b : Addr} {k : K2} {kvs : List (K2 × Addr × V)} {A : Around} {E : Value → Shared → Prop}
end
end Dn
namespace Dl
open PySem L2 Dn
def dNotInN (d e : D) : Option Rv := match keyO d, e with
 | some k, .ndi ks vs => some (.val (.bl (!(lkN ks vs k).isSome)))
 | _, _ => none
section
variable {X : Cx} {W : WX} {a b e o : Expr} {fa fb fo : M Rv} {pos p : Pos} {np : Nat}
def eNotInN (fa fb : M Rv) : M Rv := mBin dNotInN fa fb
end
end Dl
namespace Dn
open PySem L2 Dl PyProof.Rows
section
variable {X : Cx} {kx vx tg iter : Expr} {scope : Scope} {own : List (Str × Nat)} {pos spos : Pos} {wi : TI} {g : TG} {tk tv : TE}
end
end Dn
namespace Dl
open PySem L2 Dn
def kvM (fk fv : M Rv) : M (D × D) := do
 let r ← fk
 let q ← fv
 let e ← peek (settle r)
 let z ← toV q
 pure (e, z)
def dcL (tg : D → List S → Option (List S)) (fk fv : M Rv) (vs : List Nat) : List D → List D × List D → M (List D × List D)
 | [], acc, ρ => some (.ok acc ρ)
 | d :: ds, acc, ρ => match tg d (wipeS ρ vs) with
  | none => none
  | some ρ1 => match kvM fk fv ρ1 with
   | some (.ok a ρ2) => match keyO a.1 with
    | some k => if acc.2.length < sizeLine then dcL tg fk fv vs ds (putKs acc.1 acc.2 k, putVs acc.1 acc.2 k a.2) (backS ρ ρ2 vs) else none
    | none => none
   | _ => none
def eDcN (it : M (List D)) (tg : D → List S → Option (List S)) (fk fv : M Rv) (vs : List Nat) : M Rv := do
 let ds ← it
 let acc ← fun ρ => if noOwn ρ vs = true then dcL tg fk fv vs ds ([], []) ρ else none
 pure (.own (.ndi acc.1 acc.2))
section
variable {X : Cx} {W : WX} {kx vx tg iter : Expr} {scope : Scope} {own : List (Str × Nat)} {pos : Pos} {it : M (List D)} {g : D → List S → Option (List S)} {fk fv : M Rv} {ts : List Nat}
end
end Dl
namespace Dl
open PySem L2
open PyProof.Rows hiding St
structure DFD (P : Program) (w : World) (K : PySem.W.Frag) (mg : Str → Option Value) (base : Heap) (x : Str) (k np : Nat) (ns : List Int) (fn : Fn) : Prop where
 len : ∀ ss o, fn ss = some o → ss.length = np
 ex : ∃ (f : Addr) (fd : FuncData) (ps : List Str) (ds : List Value), mg x = some (.ref f) ∧ PySem.W.keepIn K (.ref f) = true ∧ Vals (ns.map fun n => V.int n) ds ∧ Binds K fd ps ds ∧ FnOk P w K mg base (L2.CX P w) k f fd ps (spD K np fn)
theorem DFD.up {P : Program} {w : World} {K : PySem.W.Frag} {mg : Str → Option Value} {base : Heap} {x : Str} {j k np : Nat} {ns : List Int} {fn : Fn} (F : DFD P w K mg base x j np ns fn) (h : j ≤ k) : DFD P w K mg base x k np ns fn :=
 let ⟨f, fd, ps, ds, h1, h2, h3, h4, h5⟩ := F.ex; ⟨F.len, f, fd, ps, ds, h1, h2, h3, h4, h5.mono h⟩
def eCallD (mu : List Bool) (fn : Fn) (ns : List Int) (ga : M (List Rv)) : M Rv := do
 let rs ← ga
 callM mu fn (rs ++ ns.map fun n => Rv.val (.int n))
section
variable {X : Cx} {W : WX} {x : Str} {k np : Nat} {ns : List Int} {fn : Fn} {mu : List Bool} {e : Expr} {es : List Expr} {ga : M (List Rv)} {p pos : Pos}
end
end Dl
namespace Dl
open PySem L2
open PyProof.Rows hiding St
theorem kbn_ofD {K : PySem.W.Frag} {x qual : Str} {params : Arguments} {body : List Stmt} {scope : Scope} {f : Addr} {fd : FuncData} {ps ks : List Str} {kws : List (Str × V)} {n : Nat} (F : FunD K x qual params body scope [] kws f fd)
  (h : ∀ (kV doc pm : Value) (an : Option Addr) (cdv ct : Value) (us ws : List Value), us.length = n → ws.length = ks.length → bindArgs (PySem.W.fnOf x qual params body scope .none kV doc pm an cdv ct) ⟨us, ks.zip ws⟩ = pure (ps.zip (us ++ ws))) : KBn K fd ps n ks (fun us ws => us ++ ws) (fun vs zs => vs ++ zs) := by
 obtain ⟨oc, od, dV, kV, doc, pm, an, cdv, ct, osl, rfl, lk, hcd, hD, hK⟩ := F.ex
 refine ⟨fun s us ws _ l1 l2 => ?_, fun r rz => r.append rz⟩
 rcases hD with ⟨_, rfl⟩ | ⟨e, _⟩
 · exact .of_eq (h kV doc pm an cdv ct us ws l1 l2)
 · exact absurd rfl e
end Dl
namespace Dl
open PySem L2
open PyProof.Rows hiding St
section
variable {X : Cx} {W : WX} {pos : Pos}
theorem de_gI {x : Str} {i : Int} (hm : ∃ t, X.mg x = some (.int i t)) (hg : Gl X x) (hd : (x == ("__debug__" : Str)) = false := by decide) : DE X W (.Name x pos) (eC (.int i)) := by
 obtain ⟨t, hm⟩ := hm
 exact de_cv (v := .int i) (pe_glob hg hm (show ∃ t', Value.int i t = Value.int i t' from ⟨t, rfl⟩) hd) fun _ => rfl
end
end Dl
namespace Dl
open PySem L2
section
variable {X : Cx} {W : WX} {a b e o : Expr} {fa fb : M Rv} {p p2 pos : Pos} {k np : Nat} {fn : Fn}
def eOwnIn (n : Str) (mu : List Bool) (fn : Fn) (fa fb : M Rv) : M Rv := do
 let r ← fa
 let q ← fb
 ckC n (settle q)
 let z ← callM mu fn [settle q, settle r]
 match z with
 | .val (.bl k) => pure (.val (.bl k))
 | _ => M.fail
end
end Dl
namespace Dl
open PySem L2
open PyProof.Rows hiding St
structure DProp (P : Program) (w : World) (K : PySem.W.Frag) (mg : Str → Option Value) (base : Heap) (n m : Str) (k np : Nat) (fn : Fn) : Prop where
 len : ∀ ss o, fn ss = some o → ss.length = np
 cl : Cls K (He.ga K n)
 ex : ∃ (p g : Addr) (fd : FuncData) (ps : List Str), L2.PropOf K (He.ga K n) m p g ∧ Binds K fd ps [] ∧ FnOk P w K mg base (L2.CX P w) k g fd ps (spD K np fn)
theorem DProp.up {P : Program} {w : World} {K : PySem.W.Frag} {mg : Str → Option Value} {base : Heap} {n m : Str} {j k np : Nat} {fn : Fn} (F : DProp P w K mg base n m j np fn) (h : j ≤ k) : DProp P w K mg base n m k np fn :=
 let ⟨p, g, fd, ps, h1, h2, h3⟩ := F.ex; ⟨F.len, F.cl, p, g, fd, ps, h1, h2, h3.mono h⟩
theorem DProp.imp {P : Program} {w : World} {K : PySem.W.Frag} {mg : Str → Option Value} {base : Heap} {n m : Str} {k np : Nat} {fn fn' : Fn} (F : DProp P w K mg base n m k np fn) (h : Fn.le fn' fn) : DProp P w K mg base n m k np fn' :=
 let ⟨p, g, fd, ps, h1, h2, h3⟩ := F.ex; ⟨fun ss o e => F.len ss o (h _ _ e), F.cl, p, g, fd, ps, h1, h2, h3.imp fun _ _ _ _ q => spD_imp h q⟩
theorem dprop_of {P : Program} {w : World} {K : PySem.W.Frag} {mg : Str → Option Value} {base : Heap} {x m y : Str} {k : Nat} {ps N : List Str} {p f : Addr} {fd : FuncData} {qual : Str} {params : Arguments} {body : List Stmt} {scope : Scope} {fb : MS} (F : FunD K y qual params body scope [] [] f fd) (S : FnScope N ps scope) (c : Cls K (He.ga K x)) (hk : L2.PropOf K (He.ga K x) m p f) (hb : Binds K fd ps [])
  (h : Body P w K mg base N qual scope f body ps.length k fb) : DProp P w K mg base x m (k + 1) ps.length (mkFn ps.length N.length fb) :=
 ⟨mkFn_len, c, p, f, fd, ps, hk, hb, fn_data F S h⟩
def nxO : Of → Option Of
 | .ret r s => some (.ret r s)
 | .ex _ _ => none
def nx (fn : Fn) : Fn := fun ss => (fn ss).bind nxO
theorem nx_le {fn : Fn} : Fn.le (nx fn) fn := fun ss o h => by
 obtain ⟨q, e, h⟩ := Option.bind_eq_some_iff.mp h
 cases q with
 | ret r s => cases h; exact e
 | ex _ _ => cases h
theorem nx_ne {fn : Fn} {ss : List S} {e : Xn} {ss' : List S} (h : nx fn ss = some (.ex e ss')) : False := by
 obtain ⟨q, _, h⟩ := Option.bind_eq_some_iff.mp h
 cases q <;> cases h
theorem callM_nx {mu : List Bool} {fn : Fn} {rs : List Rv} {ρ ρ' : List S} {e : Xn} (h : callM mu (nx fn) rs ρ = some (.ex e ρ')) : False := by
 unfold callM at h
 split at h
 · rename_i rs' ρ1 _
   by_cases hd : dist rs' = true
   · rw [if_pos hd] at h
     cases hs : ssOfs ρ1 rs' with
     | none => rw [hs] at h; cases h
     | some ss =>
      rw [hs] at h
      dsimp only at h
      cases hf : nx fn ss with
      | none => rw [hf] at h; cases h
      | some o =>
       rw [hf] at h
       cases o with
       | ex e s => exact nx_ne hf
       | ret q s =>
        dsimp only at h
        by_cases hc : (noAli rs' && scaR q) = true
        · rw [if_pos hc] at h; cases h
        · rw [if_neg hc] at h
          cases q <;> cases h
   · rw [if_neg hd] at h; cases h
 · cases h
theorem callM_nox {K : PySem.W.Frag} {c : Cn} {W : WX} {σ : L2.St} {G : Hp} {mu : List Bool} {fn : Fn} {rs : List Rv} {ρ : List S} {OK : Rv → List S → Prop} (w : wpM (callM mu (nx fn) rs ρ) OK (EXk K c W σ G)) : wpM (callM mu (nx fn) rs ρ) OK (EXk K c WX0 σ G) := by
 cases q : callM mu (nx fn) rs ρ with
 | none => rw [q] at w; exact w
 | some o => cases o with
  | ok a ρ1 => rw [q] at w; exact w
  | ex e ρ1 => exact (callM_nx q).elim
def eProp (n : Str) (mu : List Bool) (fn : Fn) (fo : M Rv) : M Rv := do
 let r ← fo
 ckC n (settle r)
 callM mu (nx fn) [settle r]
section
variable {X : Cx} {W : WX} {o : Expr} {fo : M Rv} {pos : Pos} {k np : Nat} {fn : Fn}
theorem passes_no {P : Program} {w : World} {X : Cx} : L2.Passes (L2.CX P w) X.nox (fun _ _ _ => False) := fun _ _ _ _ _ _ _ ⟨_, _, _, _, _, _, _, _, _, _, _, _, h⟩ => h.elim
theorem de_prop {n m : Str} (mu : List Bool) (go : Go X W) (F : DProp X.prog X.w X.K X.mg X.base n m k np fn) (hr : Room (k + 1) X.A) (ho : DE X W o fo)
  (hab : attributeBase o m X.env (eval o X.env) = eval o X.env := by rfl) : DE X W (.Attribute o m pos) (eProp n mu fn fo) := by
 obtain ⟨p, g, fd, ps, hp, hb, FO⟩ := F.ex
 refine ⟨(L2.pe_prop (E := fun _ _ _ => False) ho.pe F.cl hp FO hr hb .nil passes_no hab).weak fun σ H Q ⟨c, G, ρ, R, w⟩ => ?_⟩
 refine tg_step R (Same.refl G) w fun r ρ1 v G1 H1 R1 s1 _ k1 w1 => ?_
 obtain ⟨G1', s1', R1', k1'⟩ := settle_ok R1 k1
 obtain ⟨⟨a, dx, fs, ev, hH⟩, w2⟩ := ckC_wp R1' k1'.one (wpM_bind w1)
 refine ⟨a, dx, fs, ev, hH, ?_⟩
 have w3 : wpM (callM mu (nx fn) [settle r] ρ1) _ _ := w2
 rw [← ev]
 exact spD_imp nx_le (call_sp (W := WX0) R1' (s1.trans s1') (RpRs.cons (vs := []) (rs := []) k1' trivial) (fun ss o e => F.len ss o (nx_le _ _ e)) (callM_nox w3))
end
end Dl
namespace Dl
open PySem L2
open PyProof.Rows hiding St
section
variable {X : Cx} {CX : CXT} {k n : Nat} {f C : Addr} {fd : FuncData} {ps ks : List Str} {sp : Sp} {E : St → XK} {x : Str} {p pos : Pos} {e : Expr} {es : List Expr} {kws : List Keyword} {t tk : TA} {g : List Value → List Value → List Value} {gV : List V → List V → List V}
def tMakeKS (C : Addr) (n m : Nat) (sp : Sp) (gV : List V → List V → List V) (E : St → XK) (t tk : TA) : TE := fun σ H Q => t σ H fun vs H1 => tk σ H1 fun zs H2 => vs.length = n ∧ zs.length = m ∧ ∀ x dx, H2 x = none → H2 dx = none → dx ≠ x →
 sp (gV (.ref x :: vs) zs) (upd (upd H2 dx (.own x)) x (.ins C dx [])) (fun v H3 => v = .non ∧ Q (.ref x) H3) (E σ)
theorem run_makeKS {pins : List (Addr × Obj)} {σ : St} {H : Hp} {s : Shared} {Q : VK} {us ws : List Value} {vs zs : List V} (Mx : Mk X.K C f) (F : FnOk X.prog X.w X.K X.mg X.base CX k f fd ps sp) (hr : Room (k + 1) X.A) (hb : KBn X.K fd ps (n + 1) ks g gV) (hx : PassesAt CX X σ (E σ))
  (I : Inv X pins σ H s) (r : Vals vs us) (rz : Vals zs ws) (l1 : vs.length = n) (l2 : zs.length = ks.length)
  (h : ∀ x dx, H x = none → H dx = none → dx ≠ x → sp (gV (.ref x :: vs) zs) (upd (upd H dx (.own x)) x (.ins C dx [])) (fun v H2 => v = .non ∧ Q (.ref x) H2) (E σ)) :
  wpAny (model X.prog X.w) X.A (call (.ref C) us (ks.zip ws)) (EP X pins σ Q) X.xe s := by
 have hq := h (s.heap.objs.size + 1) s.heap.objs.size (I.hok.fresh (Nat.le_succ _)) (I.hok.fresh (Nat.le_refl _)) (Nat.ne_of_lt (Nat.lt_succ_self _))
 have I2 := Inv.made (C := C) I
 have r1 : Vals (V.ref (s.heap.objs.size + 1) :: vs) (Value.ref (s.heap.objs.size + 1) :: us) := .cons rfl r
 have r2 := hb.rel r1 rz
 have n1 : (Value.ref (s.heap.objs.size + 1) :: us).length = n + 1 := by
  rw [List.length_cons, ← r.length, l1]
 refine wpAny_call (make_map (f := f) I.kIn Mx.makes Mx.init (beq_iff_eq.mp Mx.fn) (codeAny_mono (F.run _ X.stack _ _ ⟨Value.ref (s.heap.objs.size + 1) :: us, ks.zip ws⟩ (g (Value.ref (s.heap.objs.size + 1) :: us) ws) _ _ (E σ) (hr.make C us (ks.zip ws))
  (I2.env0.make C us (ks.zip ws)) (hb.to _ (Value.ref (s.heap.objs.size + 1) :: us) ws I2.kIn n1 (rz.length.symm.trans l2)) r2 hq) fun r s' hq' => ?_))
 cases r with
 | error e => exact hx pins _ _ e s' I2 hq'
 | ok fl =>
  cases fl with
  | ret u =>
   obtain ⟨v, H', I3, rv, ev, q3⟩ := I2.after hq'
   subst ev
   exact ⟨rv, ⟨V.ref (s.heap.objs.size + 1), H', I3, rfl, q3⟩⟩
  | next => exact False.elim hq'
  | brk => exact False.elim hq'
  | cont => exact False.elim hq'
theorem pe_makeKS (Mx : Mk X.K C f) (F : FnOk X.prog X.w X.K X.mg X.base CX k f fd ps sp) (hr : Room (k + 1) X.A) (hg : Gl X x) (hm : X.mg x = some (.ref C)) (hb : KBn X.K fd ps (n + 1) ks g gV) (hx : ∀ σ, PassesAt CX X σ (E σ)) (ha : PA X (e :: es) t) (hkw : PK X kws tk)
  (hall : (backToKw pos (keywordEach kws X.env)).all (·.1.isSome) = true := by rfl) (hks : (backToKw pos (keywordEach kws X.env)).filterMap (·.1) = ks := by rfl) (hdb : (x == ("__debug__" : Str)) = false := by decide)
  (he : starEach (e :: es) X.env = (false, eval e X.env) :: starEach es X.env := by rfl) (hpl : ((backTo pos (starEach (e :: es) X.env)).any (·.1) || (backToKw pos (keywordEach kws X.env)).any (·.1.isNone)) = false := by rfl) :
  PE X (.Call (.Name x p) (e :: es) kws pos) (tMakeKS C n ks.length sp gV E t tk) := by
 refine ⟨fun pins s σ H Q I h => ?_⟩
 refine wpAny_Call_Name_kw (ld_glob I hg hm ?_ hdb)
 refine PySem.W.callWith_KW (h₀ := X.base) I.ok.mod.kin Mx.kp hall (thn (ha.run pos pins s σ H _ I h) fun us s1 ⟨vs, H1, I1, r, q⟩ => ?_) hpl he
 refine thn (hkw.run pos pins s1 σ H1 _ I1 q) fun ws s2 ⟨zs, H2, I2, rz, l1, l2, q2⟩ => ⟨I2.kIn, ?_⟩
 rw [hks]
 exact run_makeKS Mx F hr hb (hx σ) I2 r rz l1 l2 q2
end
abbrev Pl : Type := List (Nat ⊕ Int)
def fillV (pl : Pl) (zs : List V) : List V := pl.map fun q => match q with
 | .inl i => zs.getD i .non
 | .inr n => .int n
def fillR (pl : Pl) (zs : List Rv) : List Rv := pl.map fun q => match q with
 | .inl i => zs.getD i (.val .non)
 | .inr n => .val (.int n)
theorem RpRs.nth {K : PySem.W.Frag} {G : Hp} {σ : L2.St} : ∀ {vs : List V} {rs : List Rv} (i : Nat), RpRs K G σ vs rs → RpRs K G σ [vs.getD i .non] [rs.getD i (.val .non)]
 | [], [], _, _ => ⟨rfl, trivial⟩
 | v :: vs, .val d :: rs, 0, ⟨h1, _⟩ => ⟨h1, trivial⟩
 | v :: vs, .ali i :: rs, 0, ⟨h1, _⟩ => ⟨h1, trivial⟩
 | v :: vs, .val d :: rs, j + 1, ⟨_, h2⟩ => RpRs.nth j h2
 | v :: vs, .ali i :: rs, j + 1, ⟨_, h2⟩ => RpRs.nth j h2
 | [], _ :: _, _, h => h.elim
 | _ :: _, [], _, h => h.elim
 | _ :: _, .own _ :: _, _, h => h.elim
theorem RpRs.fill {K : PySem.W.Frag} {G : Hp} {σ : L2.St} {vs : List V} {rs : List Rv} (h : RpRs K G σ vs rs) : ∀ pl : Pl, RpRs K G σ (fillV pl vs) (fillR pl rs)
 | [] => trivial
 | .inl i :: pl => RpRs.cons (h.nth i) (h.fill pl)
 | .inr n :: pl => ⟨rfl, h.fill pl⟩
structure DMK (P : Program) (w : World) (K : PySem.W.Frag) (mg : Str → Option Value) (base : Heap) (x : Str) (k np n : Nat) (ks : List Str) (pl : Pl) (fn : Fn) : Prop where
 len : ∀ ss o, fn ss = some o → ss.length = np
 ex : ∃ (f : Addr) (fd : FuncData) (ps : List Str) (g : List Value → List Value → List Value) (gV : List V → List V → List V), mg x = some (.ref (He.ga K x)) ∧ Mk K (He.ga K x) f ∧ KBn K fd ps (n + 1) ks g gV ∧ (∀ vs zs : List V, vs.length = n + 1 → zs.length = ks.length → gV vs zs = vs ++ fillV pl zs) ∧ FnOk P w K mg base (L2.CX P w) k f fd ps (spD K np fn)
theorem DMK.up {P : Program} {w : World} {K : PySem.W.Frag} {mg : Str → Option Value} {base : Heap} {x : Str} {j k np n : Nat} {ks : List Str} {pl : Pl} {fn : Fn} (F : DMK P w K mg base x j np n ks pl fn) (h : j ≤ k) : DMK P w K mg base x k np n ks pl fn :=
 let ⟨f, fd, ps, g, gV, h1, h2, h3, h4, h5⟩ := F.ex; ⟨F.len, f, fd, ps, g, gV, h1, h2, h3, h4, h5.mono h⟩
theorem dmk_of {P : Program} {w : World} {K : PySem.W.Frag} {mg : Str → Option Value} {base : Heap} {x : Str} {k n : Nat} {ps N ks : List Str} {pl : Pl} {f : Addr} {fd : FuncData} {y qual : Str} {params : Arguments} {body : List Stmt} {scope : Scope} {kws : List (Str × V)} {fb : MS} {g : List Value → List Value → List Value} {gV : List V → List V → List V} (F : FunD K y qual params body scope [] kws f fd) (S : FnScope N ps scope) (hm : mg x = some (.ref (He.ga K x))) (hk : Mk K (He.ga K x) f)
  (hb : KBn K fd ps (n + 1) ks g gV) (hv : ∀ vs zs : List V, vs.length = n + 1 → zs.length = ks.length → gV vs zs = vs ++ fillV pl zs)
  (h : Body P w K mg base N qual scope f body ps.length k fb) : DMK P w K mg base x (k + 1) ps.length n ks pl (mkFn ps.length N.length fb) :=
 ⟨mkFn_len, f, fd, ps, g, gV, hm, hk, hb, hv, fn_data F S h⟩
def eMakeK (x : Str) (n m : Nat) (pl : Pl) (mu : List Bool) (fn : Fn) (ga gk : M (List Rv)) : M Rv := do
 let rs ← ga
 let zs ← gk
 if rs.length = n ∧ zs.length = m then makeM x mu fn (rs ++ fillR pl zs) else M.fail
section
variable {X : Cx} {W : WX} {x : Str} {k np n : Nat} {ks : List Str} {pl : Pl} {fn : Fn} {mu : List Bool} {e : Expr} {es : List Expr} {kws : List Keyword} {ga gk : M (List Rv)} {p pos : Pos}
theorem de_makeK (mu : List Bool) (go : Go X W) (F : DMK X.prog X.w X.K X.mg X.base x k np n ks pl fn) (hr : Room (k + 1) X.A) (hg : Gl X x) (ha : DA X W (e :: es) ga) (hkw : DK X W kws gk)
  (hall : (backToKw pos (keywordEach kws X.env)).all (·.1.isSome) = true := by rfl) (hks : (backToKw pos (keywordEach kws X.env)).filterMap (·.1) = ks := by rfl)
  (hdb : (x == ("__debug__" : Str)) = false := by decide) (he : starEach (e :: es) X.env = (false, eval e X.env) :: starEach es X.env := by rfl)
  (hpl : ((backTo pos (starEach (e :: es) X.env)).any (·.1) || (backToKw pos (keywordEach kws X.env)).any (·.1.isNone)) = false := by rfl) :
  DE X W (.Call (.Name x p) (e :: es) kws pos) (eMakeK x n ks.length pl mu fn ga gk) := by
 obtain ⟨f, fd, ps, g, gV, hm, hk, hb, hv, FO⟩ := F.ex
 refine ⟨(pe_makeKS (E := WE W) hk FO hr hg hm hb (wish_of go.tk) ha.pa hkw.pk hall hks hdb he hpl).weak fun σ H Q ⟨c, G, ρ, R, w⟩ => ?_⟩
 refine tg_step R (Same.refl G) w fun rs ρ1 vs G1 H1 R1 s1 _ k1 w1 => ?_
 refine tg_step R1 s1 w1 fun zs ρ2 us G2 H2 R2 s2 s12 k2 w2 => ?_
 by_cases hl : rs.length = n ∧ zs.length = ks.length
 · rw [if_pos hl] at w2
   refine ⟨(k1.len).trans hl.1, (k2.len).trans hl.2, fun a dx hx hdx ne => ?_⟩
   rw [hv (.ref a :: vs) us (by rw [List.length_cons, k1.len, hl.1]) ((k2.len).trans hl.2)]
   exact make_sp R2 s2 (RpRs.append (k1.mono s12) (k2.fill pl)) F.len w2 hx hdx ne
 · rw [if_neg hl] at w2; exact w2.elim
end
end Dl
namespace Dl
open PySem L2
def intOf : Option D → Option Int
 | some (.int k) => some k
 | _ => none
def sAugF (cs : Flds) (f : Str) (h : Int → Int) (fo : M Rv) : MS := thenS fo fun r ρ => match ownObj (settle r) ρ with
  | some (i, n, ns, ds) => if n ∈ cs ∧ ns.length < 1000 then (intOf (lkF f ns ds)).map fun k => .nx (ρ.set i (.own (.obj n (putF2 f (.int (h k)) ns ds).1 (putF2 f (.int (h k)) ns ds).2))) else none
  | none => none
section
variable {X : Cx} {W : WX} {np : Nat} {o : Expr} {fo : M Rv} {pos pos' tpos : Pos} {cs : Flds} {f : Str} {op : Operator} {jn : Bool}
theorem ds_augF {rd : V → V → Hp → VK → Prop} {h : Int → Int → Int} {j : Int} {e : Expr} (hc : FldOk X.K cs f) (hop : InOp X op rd) (hrd : ∀ (i j : Int) (H : Hp) (Q : VK), Q (.int (h i j)) H → rd (.int i) (.int j) H Q) (he : PE X e (tC (.int j))) (ho : DE X W o fo) : DS X W np (.AugAssign (.Attribute o f tpos) op e pos) (sAugF cs f (fun i => h i j) fo) :=
 ⟨(ps_fldaug ho.pe he hop).weak fun Dn σ H ⟨c, G, ρ, os, hl, R, hs, po⟩ => by
  refine tS_step R hs po fun r ρ3 u G3 H3 R3 s3 k3 h3 po3 => ?_
  obtain ⟨G3', s3', R3', k3'⟩ := settle_ok R3 k3
  have po3' := po3.mono s3'
  cases e1 : ownObj (settle r) ρ3 with
  | none => rw [e1] at h3; cases h3
  | some q =>
   obtain ⟨i, n, ns, ds⟩ := q
   rw [e1] at h3
   dsimp only at h3
   by_cases hn : n ∈ cs ∧ ns.length < 1000
   · rw [if_pos hn] at h3
     obtain ⟨a, dx, xs, rfl, m1, m2, m3, m4, m5, m6, m7, m8, m9⟩ := ownObj_ok R3' k3' e1
     cases e2 : lkF f ns ds with
     | none => rw [e2] at h3; cases h3
     | some d =>
      rw [e2] at h3
      cases d <;> first
       | (cases h3; done)
       | (rename_i kk
          have h4 : some (Os.nx (ρ3.set i (.own (.obj n (putF2 f (.int (h kk j)) ns ds).1 (putF2 f (.int (h kk j)) ns ds).2)))) = some os := h3
          cases h4
          obtain ⟨v, l1, l2⟩ := lkF_ok m9 e2
          have l3 : v = .int kk := l2
          subst l3
          obtain ⟨ys, y1, y2, y3⟩ := putF2_ok (f := f) (v := .int (h kk j)) (d := .int (h kk j)) (show Rp X.K G3' _ _ from rfl) m8 m9
          have hlen : (ns.zip xs).length < 1000 := by
           rw [List.length_zip]
           exact Nat.lt_of_le_of_lt (Nat.min_le_left _ _) hn.2
          refine ⟨a, _, dx, _, _, rfl, m3, (hc.ok n hn.1).1, (hc.ok n hn.1).2, l1, hrd _ _ _ _ ⟨dx, _, m3, hlen, ?_⟩⟩
          refine po3' σ G3' _ (R3'.own_store m2 m1 ⟨dx, ys, by rw [upd_same, y1], by rw [upd_ne m7]; exact m4, m5, m6, m7, y2, y3⟩) (Same.refl G3'))
   · rw [if_neg hn] at h3; cases h3⟩
theorem rd_add (i j : Int) (H : Hp) (Q : VK) (q : Q (.int (i + j)) H) : rAdd (.int i) (.int j) H Q := ⟨i, j, rfl, rfl, q⟩
end
end Dl
namespace Dl
open PySem L2
structure OwnC (K : PySem.W.Frag) (n : Str) : Prop where
 cl : Cls K (He.ga K n)
 ha : PySem.W.findIn K (.ref (He.ga K n)) "__class__" = some (some (.builtin "object.__class__"))
 hn : PySem.W.specialIn K (.builtin "object.__class__") "__get__" = some (some (.builtin "getset_descriptor.__get__"))
 htk : PySem.W.takesIn K (.builtin "object.__class__") = some true
 hm : PySem.W.mroIn K (He.ga K n) (.type "object") = some true
 sf : PySem.W.selfFirst K (He.ga K n) = true
 nolen : PySem.W.findIn K (.ref (He.ga K n)) "__len__" = some none
 nohint : PySem.W.findIn K (.ref (He.ga K n)) "__length_hint__" = some none
section
variable {X : Cx} {W : WX} {pos : Pos} {cs : List Str}
end
end Dl
namespace Dl
open PySem L2 PySem.Spec PyProof.Rows
theorem enum1_meets {x : Value} {o : Obj} {Hh : Heap → Prop} (B : Begins x o Hh) :
  Meets (Builtin.«enumerate.__new__» ⟨[.type "enumerate", x], []⟩) (fun _ Rz z => Hh z.heap ∧
   Rz (.ok (.ret (.ref (z.heap.push o).objs.size))) { z with heap := (z.heap.push o).push { cls := .type "enumerate", data := .fields #[.none, .bool false, .ref z.heap.objs.size, rawInt 0, .none, .none] } }) :=
 .of_wp fun prog w A R z h => by
  obtain ⟨hp, gg, dd, tk, os⟩ := z; obtain ⟨h1, h⟩ := h
  have hsub := sub_enumerate
  have q1 : ∀ {A' : Around} {E' Q' : Value → Shared → Prop}, Q' (.ref hp.objs.size) ⟨hp.push o, gg, dd, tk, os⟩ → wpAny (model prog w) A' (pyIter x) Q' E' ⟨hp, gg, dd, tk, os⟩ := fun q => B.iter prog w _ _ ⟨hp, gg, dd, tk, os⟩ _ h1 q
  wp_walk using q1
  refine wpAny_stack_any fun st => wpAny_pure ?_
  split
  · rename_i c _ _ _ _ _
    cases (c == Value.type "enumerate") <;> (wp_walk using q1; exact ⟨_, rfl, h⟩)
  · wp_walk using q1
    exact ⟨_, rfl, h⟩
section
variable {prog : Program} {w : World} {A : Around} {E : Value → Shared → Prop} {s : Shared}
theorem enum1_begins {x : Value} {o : Obj} {Hh : Heap → Prop} {Q : Value → Shared → Prop} (B : Begins x o Hh) (h1 : Hh s.heap)
  (h : ∀ h', IsEnum h' (s.heap.objs.size + 1) s.heap.objs.size 0 .none → h'.get? s.heap.objs.size = some o → (∀ b o', s.heap.get? b = some o' → h'.get? b = some o') → Q (.ref (s.heap.objs.size + 1)) { s with heap := h' }) :
  wpAny (model prog w) A (call (.type "enumerate") [x]) Q E s := by
 refine callType_new F.called_enumerate (by decide) (F.typeCall_enumerate_1 _) (F.newCall_enumerate_1 _) (fun obj => F.args_object_init_2 obj _) F.entry_enumerate_new (enum1_meets B) ⟨h1, ?_⟩
 have sz : (s.heap.push o).objs.size = s.heap.objs.size + 1 := Heap.size_push ..
 show _ ∧ _
 rw [sz]
 have he : IsEnum ((s.heap.push o).push { cls := .type "enumerate", data := .fields #[.none, .bool false, .ref s.heap.objs.size, rawInt 0, .none, .none] }) (s.heap.objs.size + 1) s.heap.objs.size 0 .none := by
  have z := Heap.get?_push_size (s.heap.push o) (o := { cls := .type "enumerate", data := .fields #[.none, .bool false, .ref s.heap.objs.size, rawInt 0, .none, .none] }) rfl
  rw [sz] at z; exact z
 exact ⟨⟨_, he, rfl⟩, h _ he (Heap.get?_push_of_some _ (Heap.get?_push_size _ B.free)) fun b o' y => Heap.get?_push_of_some _ (Heap.get?_push_of_some _ y)⟩
end
theorem enumT_end {prog : Program} {w : World} {A : Around} {E : Value → Shared → Prop} {s : Shared} {e it l : Addr} {i : Nat} {k : Int} {items : Array Value} {old : Value} {Q : Option Value → Shared → Prop} (hh : A.handled = none) (he : IsEnum s.heap e it k old) (hit : s.heap.IsTupleIter it l i) (hl : s.heap.IsTuple l items) (hx : items[i]? = none)
  (hQ : ∀ h', Heap.ExtBut it s.heap h' → Q none { s with heap := h' }) : wpAny (model prog w) A (pyNext (.ref e)) Q E s := by
 have tyE : s.TypeIs (.ref e) "enumerate" := ⟨_, he, rfl⟩
 unfold pyNext
 refine wpAny_bind (wpAny_attempt (wpAny_callSpecial?_slot (name := Str.ofString "__next__") tyE F.slot_enumerate_next (wpAny_call_entry F.slot_enumerate_next tyE F.entry_enumerate_next ?_ (F.args_enumerate_next_1 _))))
 show wpAny _ _ (field (.ref e) 2 >>= _) _ _ _
 refine wpAny_bind (wpAny_field he rfl (x := .ref it) rfl (wpAny_bind (RZ.nextOf_tuple_end hh hit hl hx fun h' z he' ⟨o, ho, hc⟩ => ?_)))
 exact wpAny_bind (wpAny_isInstance (T := "StopIteration") (b := true) ⟨o, ho, hc⟩ isSubtype_stop (wpAny_pure (hQ _ he')))
def IteT (K : PySem.W.Frag) (a : Addr) : It :=
 ⟨fun i H => ∃ (xs : List V) (x : V), SqT K H a xs ∧ xs[i]? = some x, fun i H v H' => ∃ T x, v = .ref T ∧ H T = none ∧ H' = upd H T (.tup [.int (i : Nat), x]) ∧ ∀ xs, SqT K H a xs → xs[i]? = some x, fun i H => ∃ xs : List V, SqT K H a xs ∧ xs.length ≤ i⟩
theorem turn_enumT {P : Program} {w : World} {K : PySem.W.Frag} {elts : List Expr} {kk : Nat} {tpos : Pos} (a e it : Addr) (ha : a ≠ it) (hae : a ≠ e) :
  Turn P w K (.Tuple elts kk tpos) (IteT K a) [e, it] e (fun i h => (∃ old, IsEnum h e it ((i : Nat) : Int) old) ∧ h.IsTupleIter it a i ∧ e ≠ it) where
 mem := by simp
 obj := fun i h st b hb => by
  obtain ⟨⟨old, he⟩, ⟨o, ho, hc, hd⟩, _⟩ := st
  rcases (by simpa using hb : b = e ∨ b = it) with z | z
  · rw [z]; exact ⟨_, he, fun v q => nomatch q⟩
  · rw [z]; exact ⟨o, ho, fun v q => by rw [hd] at q; cases q⟩
 keep := fun i h h' ⟨⟨old, he⟩, hi, hne⟩ k => ⟨⟨old, k e (by simp) _ he⟩, hi.at fun o q => k it (by simp) o q, hne⟩
 item := by
  intro X hP hw hK hc i pins s σ H E I hf st hg
  subst hP hw hK
  obtain ⟨⟨old, he⟩, hit, hne⟩ := st
  obtain ⟨xs, x, hq, hx⟩ := hg
  obtain ⟨its, rv, p, hz⟩ := I.tuple hq
  obtain ⟨u, hu, ru⟩ := rv.get hx
  have hel : e < s.heap.objs.size := Heap.lt_size he
  have hil : it < s.heap.objs.size := by obtain ⟨_, q, _⟩ := hit; exact Heap.lt_size q
  have D := Draws.tuple (prog := X.prog) (w := X.w) (A := X.A.in1) (I.ok.hd hc) it a ha its.toArray
  have hi : i < its.toArray.size := by
   have := (List.getElem?_eq_some_iff.mp hu).1
   simpa using this
  refine wpAny_pyNext_enum_itemD D he ⟨hit, p⟩ hi hne (by simp [hne, Ne.symm hae]) fun y h' tk hy ho hst' hT hsz hk => ?_
  have ey : y = u := by
   have hu' : its.toArray[i]? = some u := by simpa using hu
   rw [hu'] at hy
   exact (Option.some.inj hy).symm
  subst ey
  refine ⟨_, rfl, wpAny_letOwnedTupleGo_enum (s := { s with heap := h', toks := tk + 1 }) ho fun h'' he' sb => ?_⟩
  have hT2 : h''.get? s.heap.objs.size = some { cls := .type "tuple", data := .seq #[.int i tk, y] } := (sb.2 _ (Nat.ne_of_gt hel)).trans hT
  have new : ObjOk X.prog X.w (upd H s.heap.objs.size (.tup [.int (i : Nat), x])) h'' s.heap.objs.size (.tup [.int (i : Nat), x]) :=
   ⟨by show 2 ≤ sizeLine; decide, [.int i tk, y], .cons ⟨_, rfl⟩ (.cons ru .nil), ⟨_, hT2, rfl, _, rfl⟩⟩
  have I1 : Inv X pins σ (upd H s.heap.objs.size (.tup [.int (i : Nat), x])) { s with heap := h'', toks := tk + 1 } :=
   I.turnedNew (ch := [e, it]) (fun b ob hb q => (sb.2 b (fun z => hb (by simp [z]))).trans (hk b ob (fun z => hb (by simp [z])) (fun z => hb (by simp [z])) q)) hf (Nat.le_refl _) new
  refine ⟨.ref s.heap.objs.size, _, I1, rfl, ⟨_, x, rfl, I.hok.fresh (Nat.le_refl _), rfl, fun ys hy => by rw [I.tuple_inj hy hq]; exact hx⟩, ⟨⟨y, ?_⟩, hst'.1.at fun o q => (sb.2 it (Ne.symm hne)).trans q, hne⟩, fun b hb => ?_⟩
  · rw [show ((i + 1 : Nat) : Int) = (i : Int) + 1 by omega]; exact he'
  · have hb' : b < s.heap.objs.size := by
      rcases (by simpa using hb : b = e ∨ b = it) with z | z
      · rw [z]; exact hel
      · rw [z]; exact hil
    rw [upd_ne (Nat.ne_of_lt hb')]
    exact (hf b hb).1
 done := by
  intro X hP hw hK hc i pins s σ H E I hf st hg
  subst hP hw hK
  obtain ⟨⟨old, he⟩, hit, hne⟩ := st
  obtain ⟨xs, hq, hx⟩ := hg
  obtain ⟨its, rv, p, hz⟩ := I.tuple hq
  obtain ⟨f0, f1, f2, f3, f4, f5⟩ := hf it (by simp)
  have hl := rv.length
  have hle : its.length ≤ i := by omega
  exact enumT_end (I.ok.hd hc) he hit p (by simp; omega) fun h' eb => ⟨rfl, I.turned (t' := s.toks) (fun b o hb q => eb b o hb q) f0 f1 f3 f4 f5⟩
 self := fun A i s Q E st h => let ⟨⟨_, he⟩, _⟩ := st; wpAny_pyIter_enum he h
def numD (ds : List D) : List D := ds.zipIdx.map fun p => .tup [.int (p.2 : Nat), p.1]
theorem numD_len (ds : List D) : (numD ds).length = ds.length := by unfold numD; rw [List.length_map, List.length_zipIdx]
theorem numD_get {ds : List D} {i : Nat} {d : D} (h : ds[i]? = some d) : (numD ds)[i]? = some (.tup [.int (i : Nat), d]) := by
 unfold numD
 rw [List.getElem?_map, List.getElem?_zipIdx, h]
 simp
theorem walks_enumT {K : PySem.W.Frag} {G0 : Hp} {a : Addr} {xs : List V} {ds : List D} (h : SqT K G0 a xs) (r : RpL K G0 ds xs) (hz : xs.length ≤ sizeLine) : Walks K G0 (IteT K a) (numD ds) where
 sz := by rw [numD_len, ← r.length]; exact hz
 go := fun {c G H σ ρ i} R s hi => by
  rw [numD_len] at hi
  exact ⟨xs, xs[i]'(by rw [r.length]; exact hi), Same.seqt (s.trans R.gh) h, List.getElem?_eq_getElem _⟩
 yld := fun {c G H H' σ ρ i v} R s ⟨T, x, ev, hT, eH, f⟩ hi => by
  subst ev eH
  obtain ⟨d, q1, q2⟩ := (r.mono s).get' (f xs (Same.seqt (s.trans R.gh) h))
  obtain ⟨G', s', R', k⟩ := R.new_tup (xs := [.int (i : Nat), x]) (ds := [.int (i : Nat), d]) hT ⟨_, [x], rfl, rfl, x, [], rfl, q2, rfl⟩
  exact ⟨_, G', numD_get q1, R', s', k⟩
 stop := fun {c G H σ ρ} R s => ⟨xs, Same.seqt (s.trans R.gh) h, by rw [numD_len, r.length]; exact Nat.le_refl _⟩
theorem walks_enumL {K : PySem.W.Frag} {G0 : Hp} {a : Addr} {xs : List V} {ds : List D} (h : G0 a = some (.lst xs)) (r : RpL K G0 ds xs) (hz : xs.length ≤ sizeLine) : Walks K G0 (Ite K a) (numD ds) where
 sz := by rw [numD_len, ← r.length]; exact hz
 go := fun {c G H σ ρ i} R s hi => by
  rw [numD_len] at hi
  exact ⟨xs, xs[i]'(by rw [r.length]; exact hi), .inl (.inl (R.gh _ _ (s _ _ h))), List.getElem?_eq_getElem _⟩
 yld := fun {c G H H' σ ρ i v} R s ⟨T, x, ev, hT, eH, f⟩ hi => by
  subst ev eH
  obtain ⟨d, q1, q2⟩ := (r.mono s).get' (f xs (.inl (.inl (R.gh _ _ (s _ _ h)))))
  obtain ⟨G', s', R', k⟩ := R.new_tup (xs := [.int (i : Nat), x]) (ds := [.int (i : Nat), d]) hT ⟨_, [x], rfl, rfl, x, [], rfl, q2, rfl⟩
  exact ⟨_, G', numD_get q1, R', s', k⟩
 stop := fun {c G H σ ρ} R s => ⟨xs, .inl (.inl (R.gh _ _ (s _ _ h))), by rw [numD_len, r.length]; exact Nat.le_refl _⟩
def iEnA (K : PySem.W.Frag) (ta : TA) : TI := fun σ H R => ta σ H fun vs H1 => ∃ a xs, vs = [.ref a] ∧ ((SqL K H1 a xs ∧ R (Ite K a) H1) ∨ (SqT K H1 a xs ∧ R (IteT K a) H1))
theorem pi_enumA {X : Cx} {e : Expr} {ta : TA} {p pos tpos : Pos} {elts : List Expr} {kk : Nat} (hg : Gl X "enumerate") (hm : X.mg "enumerate" = none) (ha : PA X [e] ta) (hs : starEach [e] X.env = [(false, eval e X.env)] := by rfl) :
  PI X (.Tuple elts kk tpos) (.Call (.Name "enumerate" p) [e] [] pos) (iEnA X.K ta) := by
 refine ⟨fun pins s σ H R I h => ?_⟩
 refine Call_ (ld_blt I hg hm boot_enumerate (PyProof.Rows.callWith_type1 (thn (ha.run pos pins s σ H _ I h) fun us s1 ⟨vs, H1, I1, r1, a, xs, ex, hq⟩ => ?_) hs rfl))
 subst ex
 obtain ⟨u, rfl, r⟩ := vals1 r1
 cases (show u = Value.ref a from r)
 have young : ∀ b ∈ [s1.heap.objs.size + 1, s1.heap.objs.size], FpOk X pins H1 b := fun b hb => by
  have hle : s1.heap.objs.size ≤ b := by
   rcases (by simpa using hb : b = s1.heap.objs.size + 1 ∨ b = s1.heap.objs.size) with z | z
   · rw [z]; exact Nat.le_add_right _ _
   · rw [z]; exact Nat.le_refl _
  exact I1.fpOk hle (I1.hok.fresh hle)
 rcases hq with ⟨hq, q⟩ | ⟨hq, q⟩
 · obtain ⟨its, rv, pl, hz⟩ := I1.list hq
   exact call_enumerate_list pl.isList fun h' he hit hsz hk => wpAny_pyIter_enum he ⟨_, [s1.heap.objs.size + 1, s1.heap.objs.size], _, _, H1, rfl, I1.kept (t' := s1.toks) hk, turn_enum a (s1.heap.objs.size + 1) s1.heap.objs.size, ⟨⟨.none, he⟩, hit, Nat.succ_ne_self _⟩, young, q⟩
 · obtain ⟨its, rv, pt, hz⟩ := I1.tuple hq
   have hal : a < s1.heap.objs.size := by obtain ⟨o, ho, _⟩ := id pt; exact Heap.lt_size ho
   exact enum1_begins (begins_tuple a its.toArray) pt fun h' he hit hk => wpAny_pyIter_enum he ⟨_, [s1.heap.objs.size + 1, s1.heap.objs.size], _, _, H1, rfl, I1.kept (t' := s1.toks) hk, turn_enumT a (s1.heap.objs.size + 1) s1.heap.objs.size (Nat.ne_of_lt hal) (Nat.ne_of_lt (Nat.lt_succ_of_lt hal)), ⟨⟨.none, he⟩, ⟨_, hit, rfl, rfl⟩, Nat.succ_ne_self _⟩, young, q⟩
def dEnum : List D → Option (List D)
 | [.lst ds] => if ds.length ≤ 16777216 then some (numD ds) else none
 | [.tup ds] => if ds.length ≤ 16777216 then some (numD ds) else none
 | _ => none
def iEnu (ga : M (List Rv)) : M (List D) := do
 let rs ← ga
 let ds ← toVs rs
 ofO (dEnum ds)
theorem di_enum {X : Cx} {W : WX} {e : Expr} {ga : M (List Rv)} {p pos tpos : Pos} {elts : List Expr} {kk : Nat} (hm : X.mg "enumerate" = none) (ha : DA X W [e] ga) (hg : Gl X "enumerate" := by exact rfl) (hs : starEach [e] X.env = [(false, eval e X.env)] := by rfl) :
  DI X W (.Tuple elts kk tpos) (.Call (.Name "enumerate" p) [e] [] pos) (iEnu ga) :=
 ⟨(pi_enumA hg hm ha.pa hs).weak fun σ H R ⟨c, G, ρ, Rs, w⟩ => by
  refine tg_step Rs (Same.refl G) w fun rs ρ1 vs G1 H1 R1 s1 _ k1 w1 => ?_
  obtain ⟨ds, G2, ρ2, s2, R2, kd, w2⟩ := toVs_wp R1 k1 (wpM_bind w1)
  obtain ⟨q, eq, w3⟩ := ofO_wp w2
  unfold dEnum at eq
  split at eq
  · rename_i xs
    by_cases hz : xs.length ≤ 16777216
    · rw [if_pos hz] at eq
      cases eq
      obtain ⟨x, r, rfl, ⟨a1, ys, rfl, h1, h2⟩, rfl⟩ := kd
      exact ⟨a1, ys, rfl, .inl ⟨.inl (.inl (R2.gh _ _ h1)), w3 _ G2 H1 R2 (s1.trans s2) (walks_enumL h1 h2 (by rw [h2.length, PySem.sizeLine_eq]; omega))⟩⟩
    · rw [if_neg hz] at eq; cases eq
  · rename_i xs
    by_cases hz : xs.length ≤ 16777216
    · rw [if_pos hz] at eq
      cases eq
      obtain ⟨x, r, rfl, ⟨a1, ys, rfl, h1, h2⟩, rfl⟩ := kd
      exact ⟨a1, ys, rfl, .inr ⟨Same.seqt R2.gh h1, w3 _ G2 H1 R2 (s1.trans s2) (walks_enumT h1 h2 (by rw [h2.length, PySem.sizeLine_eq]; omega))⟩⟩
    · rw [if_neg hz] at eq; cases eq
  · cases eq⟩
end Dl
namespace Dl
open PySem L2
def frz1 (i : Nat) (s : Option S) (ρ : List S) : List S := match s with
 | some (.own d) => ρ.set i (.val d)
 | _ => ρ
def nrm : List (Nat × Bool) → List S → List S
 | [], ρ => ρ
 | (i, true) :: l, ρ => nrm l (ρ.set i .no)
 | (i, false) :: l, ρ => nrm l (frz1 i ρ[i]? ρ)
def kil : List Nat → List S → List S
 | [], ρ => ρ
 | i :: l, ρ => kil l (ρ.set i .no)
def aftO (l : List (Nat × Bool)) : Os → Os
 | .nx ρ => .nx (nrm l ρ)
 | .bk ρ => .bk (nrm l ρ)
 | .ct ρ => .ct (nrm l ρ)
 | o => o
def sAft (l : List (Nat × Bool)) (f : MS) : MS := fun ρ => (f ρ).map (aftO l)
def sFore (l : List (Nat × Bool)) (f : MS) : MS := fun ρ => f (nrm l ρ)
def retO (l : List Nat) : Os → Os
 | .rt r ρ => .rt r (kil l ρ)
 | .ex e ρ => .ex e (kil l ρ)
 | o => o
section
variable {K : PySem.W.Frag} {c : Cn} {G H : Hp} {σ : L2.St} {ρ : List S}
theorem Rst.nrm (R : Rst K c G H σ ρ) : ∀ (l : List (Nat × Bool)), ∃ G', Same G G' ∧ Rst K c G' H σ (Dl.nrm l ρ) := by
 intro l
 induction l generalizing G ρ with
 | nil => exact ⟨G, Same.refl G, R⟩
 | cons p l ih =>
  obtain ⟨i, b⟩ := p
  cases b with
  | true => exact ih (R.set_no i)
  | false =>
   show ∃ G', Same G G' ∧ Rst K c G' H σ (Dl.nrm l (frz1 i ρ[i]? ρ))
   cases q : ρ[i]? with
   | none => exact ih R
   | some s =>
    cases s with
    | no => exact ih R
    | val d => exact ih R
    | own d =>
     obtain ⟨v, G1, _, s1, R1, _⟩ := R.freeze q
     obtain ⟨G2, s2, R2⟩ := ih R1
     exact ⟨G2, s1.trans s2, R2⟩
theorem kil_get : ∀ {l : List Nat} {ρ : List S} {j : Nat} {s : S}, (kil l ρ)[j]? = some s → s ≠ .no → ρ[j]? = some s
 | [], _, _, _, h, _ => h
 | i :: l, ρ, j, s, h, n => by
  have h := kil_get (l := l) h n
  rcases set_cases h with ⟨_, _, e⟩ | ⟨_, h⟩
  · exact absurd e n
  · exact h
theorem Rst.kil (R : Rst K c G H σ ρ) : ∀ (l : List Nat), Rst K c G H σ (Dl.kil l ρ) := by
 intro l
 induction l generalizing ρ with
 | nil => exact R
 | cons i l ih => exact ih (R.set_no i)
theorem RpR.kil {v : V} {r : Rv} {l : List Nat} (na : ∀ i, r ≠ .ali i) (h : RpR K c G H σ ρ v r) : RpR K c G H σ (Dl.kil l ρ) v r := by
 cases r with
 | val d => exact h
 | ali i => exact absurd rfl (na i)
 | own d =>
  obtain ⟨a, h1, h2, h3, h4, h5⟩ := h
  exact ⟨a, h1, h2, h3, h4, fun i e q => h5 i e (kil_get q (by intro z; cases z))⟩
end
section
variable {X : Cx} {W : WX} {np : Nat} {st : Stmt} {sts : List Stmt} {f : MS} {e : Expr} {fa : M Rv} {pos : Pos}
theorem tS_aft {K : PySem.W.Frag} {l : List (Nat × Bool)} {Dn : Ends} {σ : L2.St} {H : Hp} (h : tS K W np (sAft l f) Dn σ H) : tS K W np f Dn σ H := by
 obtain ⟨c, G, ρ, o, hl, R, h, po⟩ := h
 obtain ⟨o1, h1, h2⟩ := Option.map_eq_some_iff.mp (show (f ρ).map (aftO l) = some o from h)
 subst h2
 refine ⟨c, G, ρ, o1, hl, R, h1, ?_⟩
 cases o1 with
 | nx ρ1 => exact fun σ' G' H' R' s' => let ⟨G2, s2, R2⟩ := R'.nrm l; po σ' G2 H' R2 (s'.trans s2)
 | bk ρ1 => exact fun σ' G' H' R' s' => let ⟨G2, s2, R2⟩ := R'.nrm l; po σ' G2 H' R2 (s'.trans s2)
 | ct ρ1 => exact fun σ' G' H' R' s' => let ⟨G2, s2, R2⟩ := R'.nrm l; po σ' G2 H' R2 (s'.trans s2)
 | rt r ρ1 => exact po
 | ex e ρ1 => exact po
def noAli1 : Os → Bool
 | .rt (.ali _) _ => false
 | _ => true
def sRtA (l : List Nat) (f : MS) : MS := fun ρ => (f ρ).bind fun o => if noAli1 o = true then some (retO l o) else none
theorem tS_rtA {K : PySem.W.Frag} {l : List Nat} {Dn : Ends} {σ : L2.St} {H : Hp} (h : tS K W np (sRtA l f) Dn σ H) : tS K W np f Dn σ H := by
 obtain ⟨c, G, ρ, o, hl, R, h, po⟩ := h
 obtain ⟨o1, h1, h2⟩ := Option.bind_eq_some_iff.mp (show (f ρ).bind _ = some o from h)
 by_cases na : noAli1 o1 = true
 · rw [if_pos na] at h2
   cases h2
   refine ⟨c, G, ρ, o1, hl, R, h1, ?_⟩
   cases o1 with
   | nx ρ1 => exact po
   | bk ρ1 => exact po
   | ct ρ1 => exact po
   | rt r ρ1 => exact fun v σ' G' H' R' s' k => po v σ' G' H' (R'.kil l) s' (k.kil fun i z => by subst z; cases na)
   | ex e ρ1 => exact fun cls d σ' G' H' R' s' x => po cls d σ' G' H' (R'.kil l) s' x
 · rw [if_neg na] at h2; cases h2
theorem ds_aft (l : List (Nat × Bool)) (h : DS X W np st f) : DS X W np st (sAft l f) := ⟨h.ps.weak fun _ _ _ q => tS_aft q⟩
theorem dl_aft (l : List (Nat × Bool)) (h : DL X W np sts f) : DL X W np sts (sAft l f) := ⟨h.pss.weak fun _ _ _ q => tS_aft q⟩
theorem ds_rtA (l : List Nat) (h : DS X W np st f) : DS X W np st (sRtA l f) := ⟨h.ps.weak fun _ _ _ q => tS_rtA q⟩
def sFz (i : Nat) (f : MS) : MS := sAft [(i, false)] f
theorem ds_fz (i : Nat) (h : DS X W np st f) : DS X W np st (sFz i f) := ds_aft _ h
def eFrz (fa : M Rv) : M Rv := do
 let r ← fa
 let d ← toV r
 pure (.val d)
end
end Dl
namespace Tl
open PySem Dl
open L2 (ixN atI)
theorem ob_some {α β : Type} (a : α) (f : α → Option β) : (some a).bind f = f a := rfl
theorem ob_none {α β : Type} (f : α → Option β) : (none : Option α).bind f = none := rfl
theorem ob_assoc {α β γ : Type} (o : Option α) (f : α → Option β) (g : β → Option γ) : (o.bind f).bind g = o.bind fun a => (f a).bind g := by cases o <;> rfl
theorem om_eq {α β : Type} (o : Option α) (f : α → β) : o.map f = o.bind fun a => some (f a) := by cases o <;> rfl
theorem ob_ite {α β : Type} (c : Prop) [Decidable c] (a b : Option α) (f : α → Option β) : (if c then a else b).bind f = if c then a.bind f else b.bind f := by split <;> rfl
def gz (n : Nat) : Option Unit := if n ≤ sizeLine then some () else none
def gb (c : Bool) : Option Unit := if c = true then some () else none
theorem sz_big : (100000 : Nat) ≤ sizeLine := by rw [PySem.sizeLine_eq]; decide
theorem gz_small {n : Nat} (h : n ≤ 1000) : gz n = some () := if_pos (by have := sz_big; omega)
theorem gb_true : gb true = some () := rfl
theorem tt_true : (true = true) = True := eq_self true
theorem ft_false : (false = true) = False := eq_false Bool.false_ne_true
theorem ite_T {α : Type} (a b : α) : (if True then a else b) = a := rfl
theorem ite_F {α : Type} (a b : α) : (if False then a else b) = b := rfl
theorem ite_fun {α β : Type} (c : Prop) [Decidable c] (f g : α → β) (a : α) : (if c then f else g) a = if c then f a else g a := by split <;> rfl
theorem b_not_t : (!true) = false := rfl
theorem b_not_f : (!false) = true := rfl
theorem b_at (a : Bool) : (true && a) = a := rfl
theorem b_af (a : Bool) : (false && a) = false := rfl
theorem b_ot (a : Bool) : (true || a) = true := rfl
theorem b_of (a : Bool) : (false || a) = a := rfl
theorem b_ta (a : Bool) : (a && true) = a := Bool.and_true a
theorem b_fa (a : Bool) : (a && false) = false := Bool.and_false a
theorem g_zero {α : Type} (a : α) (l : List α) : (a :: l)[0]? = some a := rfl
theorem g_succ {α : Type} (a : α) (l : List α) (i : Nat) : (a :: l)[i + 1]? = l[i]? := rfl
theorem s_zero {α : Type} (a b : α) (l : List α) : (a :: l).set 0 b = b :: l := rfl
theorem s_succ {α : Type} (a b : α) (l : List α) (i : Nat) : (a :: l).set (i + 1) b = a :: l.set i b := rfl
theorem gd_zero {α : Type} (a b : α) (l : List α) : (a :: l).getD 0 b = a := rfl
theorem gd_succ {α : Type} (a b : α) (l : List α) (i : Nat) : (a :: l).getD (i + 1) b = l.getD i b := rfl
theorem a_cons {α : Type} (a : α) (l m : List α) : (a :: l) ++ m = a :: (l ++ m) := rfl
theorem a_nil {α : Type} (m : List α) : ([] : List α) ++ m = m := rfl
theorem a_nil2 {α : Type} (m : List α) : m ++ [] = m := List.append_nil m
theorem m_cons {α β : Type} (f : α → β) (a : α) (l : List α) : (a :: l).map f = f a :: l.map f := rfl
theorem m_nil {α β : Type} (f : α → β) : ([] : List α).map f = [] := rfl
theorem m_app {α β : Type} (f : α → β) (l m : List α) : (l ++ m).map f = l.map f ++ m.map f := List.map_append
theorem m_map {α β γ : Type} (f : α → β) (g : β → γ) (l : List α) : (l.map f).map g = l.map fun a => g (f a) := List.map_map
theorem m_idf {α : Type} (l : List α) : l.map (fun x => x) = l := List.map_id' l
theorem l_cons {α : Type} (a : α) (l : List α) : (a :: l).length = l.length + 1 := rfl
theorem l_nil {α : Type} : ([] : List α).length = 0 := rfl
theorem l_map {α β : Type} (f : α → β) (l : List α) : (l.map f).length = l.length := List.length_map _
theorem l_app {α : Type} (l m : List α) : (l ++ m).length = l.length + m.length := List.length_append
theorem e_map {α β : Type} (f : α → β) (l : List α) : (l.map f).isEmpty = l.isEmpty := by cases l <;> rfl
theorem e_cons {α : Type} (a : α) (l : List α) : (a :: l).isEmpty = false := rfl
theorem e_nil {α : Type} : ([] : List α).isEmpty = true := rfl
theorem r_zero {α : Type} (a : α) : List.replicate 0 a = [] := rfl
theorem r_succ {α : Type} (n : Nat) (a : α) : List.replicate (n + 1) a = a :: List.replicate n a := rfl
theorem tl_cons {α : Type} (a : α) (l : List α) : (a :: l).tail = l := rfl
theorem tl_nil {α : Type} : ([] : List α).tail = [] := rfl
theorem any_cons' {α : Type} (p : α → Bool) (a : α) (l : List α) : (a :: l).any p = (p a || l.any p) := rfl
theorem any_nil' {α : Type} (p : α → Bool) : ([] : List α).any p = false := rfl
theorem all_cons' {α : Type} (p : α → Bool) (a : α) (l : List α) : (a :: l).all p = (p a && l.all p) := rfl
theorem all_nil' {α : Type} (p : α → Bool) : ([] : List α).all p = true := rfl
theorem mem_one {α : Type} (a : α) : (a ∈ [a]) = True := eq_true (List.mem_singleton.mpr rfl)
theorem eqs_self {α : Type} (a : α) : (a = a) = True := eq_self a
theorem tt_and (p : Prop) : (True ∧ p) = p := true_and p
def cps {α γ : Type} (f : M α) (ρ : List S) (kx : Xn → List S → Option γ) (k : α → List S → Option γ) : Option γ := match f ρ with
 | some (.ok a ρ') => k a ρ'
 | some (.ex e ρ') => kx e ρ'
 | none => none
section
variable {α β γ : Type} {ρ : List S} {kx : Xn → List S → Option γ}
theorem cps_bind (f : M α) (g : α → M β) (k : β → List S → Option γ) : cps (f >>= g) ρ kx k = cps f ρ kx fun a ρ1 => cps (g a) ρ1 kx k := by
 unfold cps
 rw [bind_eq]
 cases f ρ with
 | none => rfl
 | some o => cases o <;> rfl
theorem cps_pure (a : α) (k : α → List S → Option γ) : cps (pure a) ρ kx k = k a ρ := rfl
theorem cps_fail (k : α → List S → Option γ) : cps M.fail ρ kx k = none := rfl
theorem cps_ofO (o : Option α) (k : α → List S → Option γ) : cps (ofO o) ρ kx k = o.bind fun a => k a ρ := by
 unfold cps ofO
 cases o <;> rfl
theorem cps_ite (c : Prop) [Decidable c] (f g : M α) (k : α → List S → Option γ) : cps (if c then f else g) ρ kx k = if c then cps f ρ kx k else cps g ρ kx k := by split <;> rfl
def varK (i : Nat) (ρ : List S) (k : Rv → List S → Option γ) : Option S → Option γ
 | some (.val d) => k (.val d) ρ
 | some (.own _) => k (.ali i) ρ
 | _ => none
theorem cps_var (i : Nat) (k : Rv → List S → Option γ) : cps (eVar i) ρ kx k = varK i ρ k ρ[i]? := by
 unfold cps eVar varK
 cases ρ[i]? with
 | none => rfl
 | some s => cases s <;> rfl
theorem varK_v (i : Nat) (k : Rv → List S → Option γ) (d : D) : varK i ρ k (some (.val d)) = k (.val d) ρ := rfl
theorem varK_o (i : Nat) (k : Rv → List S → Option γ) (d : D) : varK i ρ k (some (.own d)) = k (.ali i) ρ := rfl
theorem cps_C (d : D) (k : Rv → List S → Option γ) : cps (eC d) ρ kx k = k (.val d) ρ := rfl
theorem set_v (d : D) : Dl.settle (.val d) = .val d := rfl
theorem set_o (d : D) : Dl.settle (.own d) = .val d := rfl
theorem set_a (i : Nat) : Dl.settle (.ali i) = .ali i := rfl
def peekK (ρ : List S) (k : D → List S → Option γ) : Option S → Option γ
 | some (.val d) => k d ρ
 | some (.own d) => k d ρ
 | _ => none
theorem cps_peek_v (d : D) (k : D → List S → Option γ) : cps (peek (.val d)) ρ kx k = k d ρ := rfl
theorem cps_peek_o (d : D) (k : D → List S → Option γ) : cps (peek (.own d)) ρ kx k = k d ρ := rfl
theorem cps_peek_a (i : Nat) (k : D → List S → Option γ) : cps (peek (.ali i)) ρ kx k = peekK ρ k ρ[i]? := by
 unfold cps peek peekK
 dsimp only
 all_goals cases ρ[i]? with
 | none => rfl
 | some s => cases s <;> rfl
theorem peekK_v (k : D → List S → Option γ) (d : D) : peekK ρ k (some (.val d)) = k d ρ := rfl
theorem peekK_o (k : D → List S → Option γ) (d : D) : peekK ρ k (some (.own d)) = k d ρ := rfl
def toVK (i : Nat) (ρ : List S) (k : D → List S → Option γ) : Option S → Option γ
 | some (.val d) => k d ρ
 | some (.own d) => k d (ρ.set i (.val d))
 | _ => none
theorem cps_toV_v (d : D) (k : D → List S → Option γ) : cps (toV (.val d)) ρ kx k = k d ρ := rfl
theorem cps_toV_o (d : D) (k : D → List S → Option γ) : cps (toV (.own d)) ρ kx k = k d ρ := rfl
theorem cps_toV_a (i : Nat) (k : D → List S → Option γ) : cps (toV (.ali i)) ρ kx k = toVK i ρ k ρ[i]? := by
 unfold cps toV toVK
 dsimp only
 all_goals cases ρ[i]? with
 | none => rfl
 | some s => cases s <;> rfl
theorem toVK_v (i : Nat) (k : D → List S → Option γ) (d : D) : toVK i ρ k (some (.val d)) = k d ρ := rfl
theorem toVK_o (i : Nat) (k : D → List S → Option γ) (d : D) : toVK i ρ k (some (.own d)) = k d (ρ.set i (.val d)) := rfl
theorem peeks_n : peeks [] = pure [] := rfl
theorem peeks_c (r : Rv) (rs : List Rv) : peeks (r :: rs) = (peek r >>= fun d => peeks rs >>= fun ds => pure (d :: ds)) := rfl
theorem toVs_n : toVs [] = pure [] := rfl
theorem toVs_c (r : Rv) (rs : List Rv) : toVs (r :: rs) = (toV r >>= fun d => toVs rs >>= fun ds => pure (d :: ds)) := rfl
theorem toVs_vals (ds : List D) (rs : List Rv) (k : List D → List S → Option γ) : cps (toVs (ds.map Rv.val ++ rs)) ρ kx k = cps (toVs rs) ρ kx fun es => k (ds ++ es) := by
 induction ds generalizing k with
 | nil => rfl
 | cons d ds ih =>
  rw [List.map_cons, List.cons_append, toVs_c, cps_bind, cps_toV_v, cps_bind, ih]; rfl
theorem toVs_vals0 (ds : List D) (k : List D → List S → Option γ) : cps (toVs (ds.map Rv.val)) ρ kx k = k ds ρ := by
 have h := toVs_vals (ρ := ρ) (kx := kx) ds [] k
 rw [List.append_nil, toVs_n, cps_pure, List.append_nil] at h; exact h
theorem toVs_mv {α : Type} (e : α → D) (xs : List α) (rs : List Rv) (k : List D → List S → Option γ) : cps (toVs (xs.map (fun x => Rv.val (e x)) ++ rs)) ρ kx k = cps (toVs rs) ρ kx fun es => k (xs.map e ++ es) := by
 have h := toVs_vals (ρ := ρ) (kx := kx) (xs.map e) rs k
 rw [List.map_map] at h; exact h
theorem toVs_mv0 {α : Type} (e : α → D) (xs : List α) (k : List D → List S → Option γ) : cps (toVs (xs.map (fun x => Rv.val (e x)))) ρ kx k = k (xs.map e) ρ := by
 have h := toVs_vals0 (ρ := ρ) (kx := kx) (xs.map e) k
 rw [List.map_map] at h; exact h
variable {fa fb : M Rv} {ga gb' : M Bool} {la : M (List Rv)} {g : D → D → Option Rv}
theorem cps_bin (k : Rv → List S → Option γ) : cps (mBin g fa fb) ρ kx k = cps fa ρ kx fun x ρ1 => cps fb ρ1 kx fun y ρ2 => cps (peek (Dl.settle x)) ρ2 kx fun d ρ3 => cps (peek y) ρ3 kx fun e ρ4 => (g d e).bind fun r => k r ρ4 := by
 unfold mBin; simp only [Tl.ob_some, Tl.ob_none, Tl.ob_assoc, Tl.om_eq, Tl.ob_ite, Tl.gz_small, Tl.gb_true, Tl.tt_true, Tl.ft_false, Tl.ite_T, Tl.ite_F, Tl.ite_fun, Tl.b_not_t, Tl.b_not_f, Tl.b_at, Tl.b_af, Tl.b_ot, Tl.b_of, Tl.b_ta, Tl.b_fa, Tl.g_zero, Tl.g_succ, Tl.s_zero, Tl.s_succ, Tl.gd_zero, Tl.gd_succ, Tl.a_cons, Tl.a_nil, Tl.a_nil2, Tl.m_cons, Tl.m_nil, Tl.m_app, Tl.m_map, Tl.m_idf, Tl.l_cons, Tl.l_nil, Tl.l_map, Tl.l_app, Tl.e_map, Tl.e_cons, Tl.e_nil, Tl.r_zero, Tl.r_succ, Tl.tl_cons, Tl.tl_nil, Tl.any_cons', Tl.any_nil', Tl.all_cons', Tl.all_nil', Tl.mem_one, Tl.eqs_self, Tl.tt_and, Tl.cps_bind, Tl.cps_pure, Tl.cps_fail, Tl.cps_ofO, Tl.cps_ite, Tl.cps_var, Tl.varK_v, Tl.varK_o, Tl.cps_C, Tl.set_v, Tl.set_o, Tl.set_a, Tl.cps_peek_v, Tl.cps_peek_o, Tl.cps_peek_a, Tl.peekK_v, Tl.peekK_o, Tl.cps_toV_v, Tl.cps_toV_o, Tl.cps_toV_a, Tl.toVK_v, Tl.toVK_o, Tl.peeks_n, Tl.peeks_c, Tl.toVs_n, Tl.toVs_c, Tl.toVs_vals, Tl.toVs_vals0, Tl.toVs_mv, Tl.toVs_mv0, reduceIte, Nat.reduceAdd, Nat.reduceSub, Nat.reduceMul, Nat.reduceLT, Nat.reduceGT, Nat.reduceLeDiff, Nat.reduceEqDiff, Nat.reduceBEq, Nat.reduceBNe, Int.reduceNeg, Int.reduceAdd, Int.reduceSub, Int.reduceMul, Int.reduceLT, Int.reduceLE, Int.reduceGT, Int.reduceGE, Int.reduceEq, Int.reduceNe, Int.reduceBEq, Int.reduceBNe, Int.reducePow]
theorem cps_aNil (k : List Rv → List S → Option γ) : cps aNil ρ kx k = k [] ρ := rfl
theorem cps_aCons (k : List Rv → List S → Option γ) : cps (aCons fa la) ρ kx k = cps fa ρ kx fun r ρ1 => cps la ρ1 kx fun rs ρ2 => k (Dl.settle r :: rs) ρ2 := by
 unfold aCons; simp only [Tl.ob_some, Tl.ob_none, Tl.ob_assoc, Tl.om_eq, Tl.ob_ite, Tl.gz_small, Tl.gb_true, Tl.tt_true, Tl.ft_false, Tl.ite_T, Tl.ite_F, Tl.ite_fun, Tl.b_not_t, Tl.b_not_f, Tl.b_at, Tl.b_af, Tl.b_ot, Tl.b_of, Tl.b_ta, Tl.b_fa, Tl.g_zero, Tl.g_succ, Tl.s_zero, Tl.s_succ, Tl.gd_zero, Tl.gd_succ, Tl.a_cons, Tl.a_nil, Tl.a_nil2, Tl.m_cons, Tl.m_nil, Tl.m_app, Tl.m_map, Tl.m_idf, Tl.l_cons, Tl.l_nil, Tl.l_map, Tl.l_app, Tl.e_map, Tl.e_cons, Tl.e_nil, Tl.r_zero, Tl.r_succ, Tl.tl_cons, Tl.tl_nil, Tl.any_cons', Tl.any_nil', Tl.all_cons', Tl.all_nil', Tl.mem_one, Tl.eqs_self, Tl.tt_and, Tl.cps_bind, Tl.cps_pure, Tl.cps_fail, Tl.cps_ofO, Tl.cps_ite, Tl.cps_var, Tl.varK_v, Tl.varK_o, Tl.cps_C, Tl.set_v, Tl.set_o, Tl.set_a, Tl.cps_peek_v, Tl.cps_peek_o, Tl.cps_peek_a, Tl.peekK_v, Tl.peekK_o, Tl.cps_toV_v, Tl.cps_toV_o, Tl.cps_toV_a, Tl.toVK_v, Tl.toVK_o, Tl.peeks_n, Tl.peeks_c, Tl.toVs_n, Tl.toVs_c, Tl.toVs_vals, Tl.toVs_vals0, Tl.toVs_mv, Tl.toVs_mv0, Tl.cps_bin, Tl.cps_aNil, reduceIte, Nat.reduceAdd, Nat.reduceSub, Nat.reduceMul, Nat.reduceLT, Nat.reduceGT, Nat.reduceLeDiff, Nat.reduceEqDiff, Nat.reduceBEq, Nat.reduceBNe, Int.reduceNeg, Int.reduceAdd, Int.reduceSub, Int.reduceMul, Int.reduceLT, Int.reduceLE, Int.reduceGT, Int.reduceGE, Int.reduceEq, Int.reduceNe, Int.reduceBEq, Int.reduceBNe, Int.reducePow]
theorem it_l (ds : List D) : items (.lst ds) = some ds := rfl
theorem it_t (ds : List D) : items (.tup ds) = some ds := rfl
theorem cps_aStar (k : List Rv → List S → Option γ) : cps (aStar fa la) ρ kx k = cps fa ρ kx fun r ρ1 => cps (peek r) ρ1 kx fun d ρ2 => (items d).bind fun ds => cps la ρ2 kx fun rs ρ3 => k (ds.map Rv.val ++ rs) ρ3 := by
 unfold aStar; simp only [cps_bind]
 congr 1; funext r ρ1; congr 1; funext d ρ2
 cases items d with
 | none => rfl
 | some ds => simp only [Tl.ob_some, Tl.ob_none, Tl.ob_assoc, Tl.om_eq, Tl.ob_ite, Tl.gz_small, Tl.gb_true, Tl.tt_true, Tl.ft_false, Tl.ite_T, Tl.ite_F, Tl.ite_fun, Tl.b_not_t, Tl.b_not_f, Tl.b_at, Tl.b_af, Tl.b_ot, Tl.b_of, Tl.b_ta, Tl.b_fa, Tl.g_zero, Tl.g_succ, Tl.s_zero, Tl.s_succ, Tl.gd_zero, Tl.gd_succ, Tl.a_cons, Tl.a_nil, Tl.a_nil2, Tl.m_cons, Tl.m_nil, Tl.m_app, Tl.m_map, Tl.m_idf, Tl.l_cons, Tl.l_nil, Tl.l_map, Tl.l_app, Tl.e_map, Tl.e_cons, Tl.e_nil, Tl.r_zero, Tl.r_succ, Tl.tl_cons, Tl.tl_nil, Tl.any_cons', Tl.any_nil', Tl.all_cons', Tl.all_nil', Tl.mem_one, Tl.eqs_self, Tl.tt_and, Tl.cps_bind, Tl.cps_pure, Tl.cps_fail, Tl.cps_ofO, Tl.cps_ite, Tl.cps_var, Tl.varK_v, Tl.varK_o, Tl.cps_C, Tl.set_v, Tl.set_o, Tl.set_a, Tl.cps_peek_v, Tl.cps_peek_o, Tl.cps_peek_a, Tl.peekK_v, Tl.peekK_o, Tl.cps_toV_v, Tl.cps_toV_o, Tl.cps_toV_a, Tl.toVK_v, Tl.toVK_o, Tl.peeks_n, Tl.peeks_c, Tl.toVs_n, Tl.toVs_c, Tl.toVs_vals, Tl.toVs_vals0, Tl.toVs_mv, Tl.toVs_mv0, Tl.cps_bin, Tl.cps_aNil, Tl.cps_aCons, Tl.it_l, Tl.it_t, reduceIte, Nat.reduceAdd, Nat.reduceSub, Nat.reduceMul, Nat.reduceLT, Nat.reduceGT, Nat.reduceLeDiff, Nat.reduceEqDiff, Nat.reduceBEq, Nat.reduceBNe, Int.reduceNeg, Int.reduceAdd, Int.reduceSub, Int.reduceMul, Int.reduceLT, Int.reduceLE, Int.reduceGT, Int.reduceGE, Int.reduceEq, Int.reduceNe, Int.reduceBEq, Int.reduceBNe, Int.reducePow]
theorem cps_eB (g : List D → Option Rv) (k : Rv → List S → Option γ) : cps (eB g la) ρ kx k = cps la ρ kx fun rs ρ1 => cps (peeks rs) ρ1 kx fun ds ρ2 => (g ds).bind fun r => k r ρ2 := by
 unfold eB; simp only [Tl.ob_some, Tl.ob_none, Tl.ob_assoc, Tl.om_eq, Tl.ob_ite, Tl.gz_small, Tl.gb_true, Tl.tt_true, Tl.ft_false, Tl.ite_T, Tl.ite_F, Tl.ite_fun, Tl.b_not_t, Tl.b_not_f, Tl.b_at, Tl.b_af, Tl.b_ot, Tl.b_of, Tl.b_ta, Tl.b_fa, Tl.g_zero, Tl.g_succ, Tl.s_zero, Tl.s_succ, Tl.gd_zero, Tl.gd_succ, Tl.a_cons, Tl.a_nil, Tl.a_nil2, Tl.m_cons, Tl.m_nil, Tl.m_app, Tl.m_map, Tl.m_idf, Tl.l_cons, Tl.l_nil, Tl.l_map, Tl.l_app, Tl.e_map, Tl.e_cons, Tl.e_nil, Tl.r_zero, Tl.r_succ, Tl.tl_cons, Tl.tl_nil, Tl.any_cons', Tl.any_nil', Tl.all_cons', Tl.all_nil', Tl.mem_one, Tl.eqs_self, Tl.tt_and, Tl.cps_bind, Tl.cps_pure, Tl.cps_fail, Tl.cps_ofO, Tl.cps_ite, Tl.cps_var, Tl.varK_v, Tl.varK_o, Tl.cps_C, Tl.set_v, Tl.set_o, Tl.set_a, Tl.cps_peek_v, Tl.cps_peek_o, Tl.cps_peek_a, Tl.peekK_v, Tl.peekK_o, Tl.cps_toV_v, Tl.cps_toV_o, Tl.cps_toV_a, Tl.toVK_v, Tl.toVK_o, Tl.peeks_n, Tl.peeks_c, Tl.toVs_n, Tl.toVs_c, Tl.toVs_vals, Tl.toVs_vals0, Tl.toVs_mv, Tl.toVs_mv0, Tl.cps_bin, Tl.cps_aNil, Tl.cps_aCons, Tl.it_l, Tl.it_t, Tl.cps_aStar, reduceIte, Nat.reduceAdd, Nat.reduceSub, Nat.reduceMul, Nat.reduceLT, Nat.reduceGT, Nat.reduceLeDiff, Nat.reduceEqDiff, Nat.reduceBEq, Nat.reduceBNe, Int.reduceNeg, Int.reduceAdd, Int.reduceSub, Int.reduceMul, Int.reduceLT, Int.reduceLE, Int.reduceGT, Int.reduceGE, Int.reduceEq, Int.reduceNe, Int.reduceBEq, Int.reduceBNe, Int.reducePow]
theorem cps_tup (k : Rv → List S → Option γ) : cps (eTup la) ρ kx k = cps la ρ kx fun rs ρ1 => cps (toVs rs) ρ1 kx fun ds ρ2 => (gz ds.length).bind fun _ => k (.val (.tup ds)) ρ2 := by
 unfold eTup; simp only [Tl.ob_some, Tl.ob_none, Tl.ob_assoc, Tl.om_eq, Tl.ob_ite, Tl.gz_small, Tl.gb_true, Tl.tt_true, Tl.ft_false, Tl.ite_T, Tl.ite_F, Tl.ite_fun, Tl.b_not_t, Tl.b_not_f, Tl.b_at, Tl.b_af, Tl.b_ot, Tl.b_of, Tl.b_ta, Tl.b_fa, Tl.g_zero, Tl.g_succ, Tl.s_zero, Tl.s_succ, Tl.gd_zero, Tl.gd_succ, Tl.a_cons, Tl.a_nil, Tl.a_nil2, Tl.m_cons, Tl.m_nil, Tl.m_app, Tl.m_map, Tl.m_idf, Tl.l_cons, Tl.l_nil, Tl.l_map, Tl.l_app, Tl.e_map, Tl.e_cons, Tl.e_nil, Tl.r_zero, Tl.r_succ, Tl.tl_cons, Tl.tl_nil, Tl.any_cons', Tl.any_nil', Tl.all_cons', Tl.all_nil', Tl.mem_one, Tl.eqs_self, Tl.tt_and, Tl.cps_bind, Tl.cps_pure, Tl.cps_fail, Tl.cps_ofO, Tl.cps_ite, Tl.cps_var, Tl.varK_v, Tl.varK_o, Tl.cps_C, Tl.set_v, Tl.set_o, Tl.set_a, Tl.cps_peek_v, Tl.cps_peek_o, Tl.cps_peek_a, Tl.peekK_v, Tl.peekK_o, Tl.cps_toV_v, Tl.cps_toV_o, Tl.cps_toV_a, Tl.toVK_v, Tl.toVK_o, Tl.peeks_n, Tl.peeks_c, Tl.toVs_n, Tl.toVs_c, Tl.toVs_vals, Tl.toVs_vals0, Tl.toVs_mv, Tl.toVs_mv0, Tl.cps_bin, Tl.cps_aNil, Tl.cps_aCons, Tl.it_l, Tl.it_t, Tl.cps_aStar, Tl.cps_eB, reduceIte, Nat.reduceAdd, Nat.reduceSub, Nat.reduceMul, Nat.reduceLT, Nat.reduceGT, Nat.reduceLeDiff, Nat.reduceEqDiff, Nat.reduceBEq, Nat.reduceBNe, Int.reduceNeg, Int.reduceAdd, Int.reduceSub, Int.reduceMul, Int.reduceLT, Int.reduceLE, Int.reduceGT, Int.reduceGE, Int.reduceEq, Int.reduceNe, Int.reduceBEq, Int.reduceBNe, Int.reducePow, gz, ob_ite]
theorem cps_lst (k : Rv → List S → Option γ) : cps (eLst la) ρ kx k = cps la ρ kx fun rs ρ1 => cps (toVs rs) ρ1 kx fun ds ρ2 => (gz ds.length).bind fun _ => k (.own (.lst ds)) ρ2 := by
 unfold eLst; simp only [Tl.ob_some, Tl.ob_none, Tl.ob_assoc, Tl.om_eq, Tl.ob_ite, Tl.gz_small, Tl.gb_true, Tl.tt_true, Tl.ft_false, Tl.ite_T, Tl.ite_F, Tl.ite_fun, Tl.b_not_t, Tl.b_not_f, Tl.b_at, Tl.b_af, Tl.b_ot, Tl.b_of, Tl.b_ta, Tl.b_fa, Tl.g_zero, Tl.g_succ, Tl.s_zero, Tl.s_succ, Tl.gd_zero, Tl.gd_succ, Tl.a_cons, Tl.a_nil, Tl.a_nil2, Tl.m_cons, Tl.m_nil, Tl.m_app, Tl.m_map, Tl.m_idf, Tl.l_cons, Tl.l_nil, Tl.l_map, Tl.l_app, Tl.e_map, Tl.e_cons, Tl.e_nil, Tl.r_zero, Tl.r_succ, Tl.tl_cons, Tl.tl_nil, Tl.any_cons', Tl.any_nil', Tl.all_cons', Tl.all_nil', Tl.mem_one, Tl.eqs_self, Tl.tt_and, Tl.cps_bind, Tl.cps_pure, Tl.cps_fail, Tl.cps_ofO, Tl.cps_ite, Tl.cps_var, Tl.varK_v, Tl.varK_o, Tl.cps_C, Tl.set_v, Tl.set_o, Tl.set_a, Tl.cps_peek_v, Tl.cps_peek_o, Tl.cps_peek_a, Tl.peekK_v, Tl.peekK_o, Tl.cps_toV_v, Tl.cps_toV_o, Tl.cps_toV_a, Tl.toVK_v, Tl.toVK_o, Tl.peeks_n, Tl.peeks_c, Tl.toVs_n, Tl.toVs_c, Tl.toVs_vals, Tl.toVs_vals0, Tl.toVs_mv, Tl.toVs_mv0, Tl.cps_bin, Tl.cps_aNil, Tl.cps_aCons, Tl.it_l, Tl.it_t, Tl.cps_aStar, Tl.cps_eB, Tl.cps_tup, reduceIte, Nat.reduceAdd, Nat.reduceSub, Nat.reduceMul, Nat.reduceLT, Nat.reduceGT, Nat.reduceLeDiff, Nat.reduceEqDiff, Nat.reduceBEq, Nat.reduceBNe, Int.reduceNeg, Int.reduceAdd, Int.reduceSub, Int.reduceMul, Int.reduceLT, Int.reduceLE, Int.reduceGT, Int.reduceGE, Int.reduceEq, Int.reduceNe, Int.reduceBEq, Int.reduceBNe, Int.reducePow, gz, ob_ite]
def ofI : D → Option Int
 | .int i => some i
 | _ => none
theorem ofI_i (i : Int) : ofI (.int i) = some i := rfl
theorem cps_oNo (k : Option Int → List S → Option γ) : cps oNo ρ kx k = k none ρ := rfl
theorem cps_oSome (k : Option Int → List S → Option γ) : cps (oSome fa) ρ kx k = cps fa ρ kx fun r ρ1 => cps (peek r) ρ1 kx fun d ρ2 => (ofI d).bind fun i => k (some i) ρ2 := by
 unfold oSome; simp only [cps_bind]
 congr 1; funext r ρ1; congr 1; funext d ρ2
 cases d <;> simp only [Tl.ob_some, Tl.ob_none, Tl.ob_assoc, Tl.om_eq, Tl.ob_ite, Tl.gz_small, Tl.gb_true, Tl.tt_true, Tl.ft_false, Tl.ite_T, Tl.ite_F, Tl.ite_fun, Tl.b_not_t, Tl.b_not_f, Tl.b_at, Tl.b_af, Tl.b_ot, Tl.b_of, Tl.b_ta, Tl.b_fa, Tl.g_zero, Tl.g_succ, Tl.s_zero, Tl.s_succ, Tl.gd_zero, Tl.gd_succ, Tl.a_cons, Tl.a_nil, Tl.a_nil2, Tl.m_cons, Tl.m_nil, Tl.m_app, Tl.m_map, Tl.m_idf, Tl.l_cons, Tl.l_nil, Tl.l_map, Tl.l_app, Tl.e_map, Tl.e_cons, Tl.e_nil, Tl.r_zero, Tl.r_succ, Tl.tl_cons, Tl.tl_nil, Tl.any_cons', Tl.any_nil', Tl.all_cons', Tl.all_nil', Tl.mem_one, Tl.eqs_self, Tl.tt_and, Tl.cps_bind, Tl.cps_pure, Tl.cps_fail, Tl.cps_ofO, Tl.cps_ite, Tl.cps_var, Tl.varK_v, Tl.varK_o, Tl.cps_C, Tl.set_v, Tl.set_o, Tl.set_a, Tl.cps_peek_v, Tl.cps_peek_o, Tl.cps_peek_a, Tl.peekK_v, Tl.peekK_o, Tl.cps_toV_v, Tl.cps_toV_o, Tl.cps_toV_a, Tl.toVK_v, Tl.toVK_o, Tl.peeks_n, Tl.peeks_c, Tl.toVs_n, Tl.toVs_c, Tl.toVs_vals, Tl.toVs_vals0, Tl.toVs_mv, Tl.toVs_mv0, Tl.cps_bin, Tl.cps_aNil, Tl.cps_aCons, Tl.it_l, Tl.it_t, Tl.cps_aStar, Tl.cps_eB, Tl.cps_tup, Tl.cps_lst, Tl.ofI_i, Tl.cps_oNo, reduceIte, Nat.reduceAdd, Nat.reduceSub, Nat.reduceMul, Nat.reduceLT, Nat.reduceGT, Nat.reduceLeDiff, Nat.reduceEqDiff, Nat.reduceBEq, Nat.reduceBNe, Int.reduceNeg, Int.reduceAdd, Int.reduceSub, Int.reduceMul, Int.reduceLT, Int.reduceLE, Int.reduceGT, Int.reduceGE, Int.reduceEq, Int.reduceNe, Int.reduceBEq, Int.reduceBNe, Int.reducePow] <;> rfl
theorem cps_sl (fl fh : M (Option Int)) (k : Rv → List S → Option γ) : cps (eSl fa fl fh) ρ kx k = cps fa ρ kx fun x ρ1 => cps fl ρ1 kx fun l ρ2 => cps fh ρ2 kx fun h ρ3 => cps (peek (Dl.settle x)) ρ3 kx fun d ρ4 => (dSl d l h).bind fun r => k r ρ4 := by
 unfold eSl; simp only [Tl.ob_some, Tl.ob_none, Tl.ob_assoc, Tl.om_eq, Tl.ob_ite, Tl.gz_small, Tl.gb_true, Tl.tt_true, Tl.ft_false, Tl.ite_T, Tl.ite_F, Tl.ite_fun, Tl.b_not_t, Tl.b_not_f, Tl.b_at, Tl.b_af, Tl.b_ot, Tl.b_of, Tl.b_ta, Tl.b_fa, Tl.g_zero, Tl.g_succ, Tl.s_zero, Tl.s_succ, Tl.gd_zero, Tl.gd_succ, Tl.a_cons, Tl.a_nil, Tl.a_nil2, Tl.m_cons, Tl.m_nil, Tl.m_app, Tl.m_map, Tl.m_idf, Tl.l_cons, Tl.l_nil, Tl.l_map, Tl.l_app, Tl.e_map, Tl.e_cons, Tl.e_nil, Tl.r_zero, Tl.r_succ, Tl.tl_cons, Tl.tl_nil, Tl.any_cons', Tl.any_nil', Tl.all_cons', Tl.all_nil', Tl.mem_one, Tl.eqs_self, Tl.tt_and, Tl.cps_bind, Tl.cps_pure, Tl.cps_fail, Tl.cps_ofO, Tl.cps_ite, Tl.cps_var, Tl.varK_v, Tl.varK_o, Tl.cps_C, Tl.set_v, Tl.set_o, Tl.set_a, Tl.cps_peek_v, Tl.cps_peek_o, Tl.cps_peek_a, Tl.peekK_v, Tl.peekK_o, Tl.cps_toV_v, Tl.cps_toV_o, Tl.cps_toV_a, Tl.toVK_v, Tl.toVK_o, Tl.peeks_n, Tl.peeks_c, Tl.toVs_n, Tl.toVs_c, Tl.toVs_vals, Tl.toVs_vals0, Tl.toVs_mv, Tl.toVs_mv0, Tl.cps_bin, Tl.cps_aNil, Tl.cps_aCons, Tl.it_l, Tl.it_t, Tl.cps_aStar, Tl.cps_eB, Tl.cps_tup, Tl.cps_lst, Tl.ofI_i, Tl.cps_oNo, Tl.cps_oSome, reduceIte, Nat.reduceAdd, Nat.reduceSub, Nat.reduceMul, Nat.reduceLT, Nat.reduceGT, Nat.reduceLeDiff, Nat.reduceEqDiff, Nat.reduceBEq, Nat.reduceBNe, Int.reduceNeg, Int.reduceAdd, Int.reduceSub, Int.reduceMul, Int.reduceLT, Int.reduceLE, Int.reduceGT, Int.reduceGE, Int.reduceEq, Int.reduceNe, Int.reduceBEq, Int.reduceBNe, Int.reducePow]
theorem cps_neg (k : Rv → List S → Option γ) : cps (eNeg fa) ρ kx k = cps fa ρ kx fun r ρ1 => cps (peek r) ρ1 kx fun d ρ2 => (ofI d).bind fun i => k (.val (.int (-i))) ρ2 := by
 unfold eNeg; simp only [cps_bind]
 congr 1; funext r ρ1; congr 1; funext d ρ2
 cases d <;> simp only [Tl.ob_some, Tl.ob_none, Tl.ob_assoc, Tl.om_eq, Tl.ob_ite, Tl.gz_small, Tl.gb_true, Tl.tt_true, Tl.ft_false, Tl.ite_T, Tl.ite_F, Tl.ite_fun, Tl.b_not_t, Tl.b_not_f, Tl.b_at, Tl.b_af, Tl.b_ot, Tl.b_of, Tl.b_ta, Tl.b_fa, Tl.g_zero, Tl.g_succ, Tl.s_zero, Tl.s_succ, Tl.gd_zero, Tl.gd_succ, Tl.a_cons, Tl.a_nil, Tl.a_nil2, Tl.m_cons, Tl.m_nil, Tl.m_app, Tl.m_map, Tl.m_idf, Tl.l_cons, Tl.l_nil, Tl.l_map, Tl.l_app, Tl.e_map, Tl.e_cons, Tl.e_nil, Tl.r_zero, Tl.r_succ, Tl.tl_cons, Tl.tl_nil, Tl.any_cons', Tl.any_nil', Tl.all_cons', Tl.all_nil', Tl.mem_one, Tl.eqs_self, Tl.tt_and, Tl.cps_bind, Tl.cps_pure, Tl.cps_fail, Tl.cps_ofO, Tl.cps_ite, Tl.cps_var, Tl.varK_v, Tl.varK_o, Tl.cps_C, Tl.set_v, Tl.set_o, Tl.set_a, Tl.cps_peek_v, Tl.cps_peek_o, Tl.cps_peek_a, Tl.peekK_v, Tl.peekK_o, Tl.cps_toV_v, Tl.cps_toV_o, Tl.cps_toV_a, Tl.toVK_v, Tl.toVK_o, Tl.peeks_n, Tl.peeks_c, Tl.toVs_n, Tl.toVs_c, Tl.toVs_vals, Tl.toVs_vals0, Tl.toVs_mv, Tl.toVs_mv0, Tl.cps_bin, Tl.cps_aNil, Tl.cps_aCons, Tl.it_l, Tl.it_t, Tl.cps_aStar, Tl.cps_eB, Tl.cps_tup, Tl.cps_lst, Tl.ofI_i, Tl.cps_oNo, Tl.cps_oSome, Tl.cps_sl, reduceIte, Nat.reduceAdd, Nat.reduceSub, Nat.reduceMul, Nat.reduceLT, Nat.reduceGT, Nat.reduceLeDiff, Nat.reduceEqDiff, Nat.reduceBEq, Nat.reduceBNe, Int.reduceNeg, Int.reduceAdd, Int.reduceSub, Int.reduceMul, Int.reduceLT, Int.reduceLE, Int.reduceGT, Int.reduceGE, Int.reduceEq, Int.reduceNe, Int.reduceBEq, Int.reduceBNe, Int.reducePow] <;> rfl
theorem cps_tru (r : Rv) (k : Bool → List S → Option γ) : cps (tru r) ρ kx k = cps (peek r) ρ kx fun d ρ1 => (truD d).bind fun b => k b ρ1 := by
 unfold tru; simp only [Tl.ob_some, Tl.ob_none, Tl.ob_assoc, Tl.om_eq, Tl.ob_ite, Tl.gz_small, Tl.gb_true, Tl.tt_true, Tl.ft_false, Tl.ite_T, Tl.ite_F, Tl.ite_fun, Tl.b_not_t, Tl.b_not_f, Tl.b_at, Tl.b_af, Tl.b_ot, Tl.b_of, Tl.b_ta, Tl.b_fa, Tl.g_zero, Tl.g_succ, Tl.s_zero, Tl.s_succ, Tl.gd_zero, Tl.gd_succ, Tl.a_cons, Tl.a_nil, Tl.a_nil2, Tl.m_cons, Tl.m_nil, Tl.m_app, Tl.m_map, Tl.m_idf, Tl.l_cons, Tl.l_nil, Tl.l_map, Tl.l_app, Tl.e_map, Tl.e_cons, Tl.e_nil, Tl.r_zero, Tl.r_succ, Tl.tl_cons, Tl.tl_nil, Tl.any_cons', Tl.any_nil', Tl.all_cons', Tl.all_nil', Tl.mem_one, Tl.eqs_self, Tl.tt_and, Tl.cps_bind, Tl.cps_pure, Tl.cps_fail, Tl.cps_ofO, Tl.cps_ite, Tl.cps_var, Tl.varK_v, Tl.varK_o, Tl.cps_C, Tl.set_v, Tl.set_o, Tl.set_a, Tl.cps_peek_v, Tl.cps_peek_o, Tl.cps_peek_a, Tl.peekK_v, Tl.peekK_o, Tl.cps_toV_v, Tl.cps_toV_o, Tl.cps_toV_a, Tl.toVK_v, Tl.toVK_o, Tl.peeks_n, Tl.peeks_c, Tl.toVs_n, Tl.toVs_c, Tl.toVs_vals, Tl.toVs_vals0, Tl.toVs_mv, Tl.toVs_mv0, Tl.cps_bin, Tl.cps_aNil, Tl.cps_aCons, Tl.it_l, Tl.it_t, Tl.cps_aStar, Tl.cps_eB, Tl.cps_tup, Tl.cps_lst, Tl.ofI_i, Tl.cps_oNo, Tl.cps_oSome, Tl.cps_sl, Tl.cps_neg, reduceIte, Nat.reduceAdd, Nat.reduceSub, Nat.reduceMul, Nat.reduceLT, Nat.reduceGT, Nat.reduceLeDiff, Nat.reduceEqDiff, Nat.reduceBEq, Nat.reduceBNe, Int.reduceNeg, Int.reduceAdd, Int.reduceSub, Int.reduceMul, Int.reduceLT, Int.reduceLE, Int.reduceGT, Int.reduceGE, Int.reduceEq, Int.reduceNe, Int.reduceBEq, Int.reduceBNe, Int.reducePow]
theorem cps_tVal (k : Bool → List S → Option γ) : cps (tVal fa) ρ kx k = cps fa ρ kx fun r ρ1 => cps (tru r) ρ1 kx k := by
 unfold tVal; simp only [cps_bind]
theorem cps_tNot (k : Bool → List S → Option γ) : cps (tNot ga) ρ kx k = cps ga ρ kx fun b ρ1 => k (!b) ρ1 := by
 unfold tNot; simp only [Tl.ob_some, Tl.ob_none, Tl.ob_assoc, Tl.om_eq, Tl.ob_ite, Tl.gz_small, Tl.gb_true, Tl.tt_true, Tl.ft_false, Tl.ite_T, Tl.ite_F, Tl.ite_fun, Tl.b_not_t, Tl.b_not_f, Tl.b_at, Tl.b_af, Tl.b_ot, Tl.b_of, Tl.b_ta, Tl.b_fa, Tl.g_zero, Tl.g_succ, Tl.s_zero, Tl.s_succ, Tl.gd_zero, Tl.gd_succ, Tl.a_cons, Tl.a_nil, Tl.a_nil2, Tl.m_cons, Tl.m_nil, Tl.m_app, Tl.m_map, Tl.m_idf, Tl.l_cons, Tl.l_nil, Tl.l_map, Tl.l_app, Tl.e_map, Tl.e_cons, Tl.e_nil, Tl.r_zero, Tl.r_succ, Tl.tl_cons, Tl.tl_nil, Tl.any_cons', Tl.any_nil', Tl.all_cons', Tl.all_nil', Tl.mem_one, Tl.eqs_self, Tl.tt_and, Tl.cps_bind, Tl.cps_pure, Tl.cps_fail, Tl.cps_ofO, Tl.cps_ite, Tl.cps_var, Tl.varK_v, Tl.varK_o, Tl.cps_C, Tl.set_v, Tl.set_o, Tl.set_a, Tl.cps_peek_v, Tl.cps_peek_o, Tl.cps_peek_a, Tl.peekK_v, Tl.peekK_o, Tl.cps_toV_v, Tl.cps_toV_o, Tl.cps_toV_a, Tl.toVK_v, Tl.toVK_o, Tl.peeks_n, Tl.peeks_c, Tl.toVs_n, Tl.toVs_c, Tl.toVs_vals, Tl.toVs_vals0, Tl.toVs_mv, Tl.toVs_mv0, Tl.cps_bin, Tl.cps_aNil, Tl.cps_aCons, Tl.it_l, Tl.it_t, Tl.cps_aStar, Tl.cps_eB, Tl.cps_tup, Tl.cps_lst, Tl.ofI_i, Tl.cps_oNo, Tl.cps_oSome, Tl.cps_sl, Tl.cps_neg, Tl.cps_tru, Tl.cps_tVal, reduceIte, Nat.reduceAdd, Nat.reduceSub, Nat.reduceMul, Nat.reduceLT, Nat.reduceGT, Nat.reduceLeDiff, Nat.reduceEqDiff, Nat.reduceBEq, Nat.reduceBNe, Int.reduceNeg, Int.reduceAdd, Int.reduceSub, Int.reduceMul, Int.reduceLT, Int.reduceLE, Int.reduceGT, Int.reduceGE, Int.reduceEq, Int.reduceNe, Int.reduceBEq, Int.reduceBNe, Int.reducePow]
theorem cps_tAnd (k : Bool → List S → Option γ) : cps (tAnd ga gb') ρ kx k = cps ga ρ kx fun b ρ1 => if b = true then cps gb' ρ1 kx k else k false ρ1 := by
 unfold tAnd; simp only [Tl.ob_some, Tl.ob_none, Tl.ob_assoc, Tl.om_eq, Tl.ob_ite, Tl.gz_small, Tl.gb_true, Tl.tt_true, Tl.ft_false, Tl.ite_T, Tl.ite_F, Tl.ite_fun, Tl.b_not_t, Tl.b_not_f, Tl.b_at, Tl.b_af, Tl.b_ot, Tl.b_of, Tl.b_ta, Tl.b_fa, Tl.g_zero, Tl.g_succ, Tl.s_zero, Tl.s_succ, Tl.gd_zero, Tl.gd_succ, Tl.a_cons, Tl.a_nil, Tl.a_nil2, Tl.m_cons, Tl.m_nil, Tl.m_app, Tl.m_map, Tl.m_idf, Tl.l_cons, Tl.l_nil, Tl.l_map, Tl.l_app, Tl.e_map, Tl.e_cons, Tl.e_nil, Tl.r_zero, Tl.r_succ, Tl.tl_cons, Tl.tl_nil, Tl.any_cons', Tl.any_nil', Tl.all_cons', Tl.all_nil', Tl.mem_one, Tl.eqs_self, Tl.tt_and, Tl.cps_bind, Tl.cps_pure, Tl.cps_fail, Tl.cps_ofO, Tl.cps_ite, Tl.cps_var, Tl.varK_v, Tl.varK_o, Tl.cps_C, Tl.set_v, Tl.set_o, Tl.set_a, Tl.cps_peek_v, Tl.cps_peek_o, Tl.cps_peek_a, Tl.peekK_v, Tl.peekK_o, Tl.cps_toV_v, Tl.cps_toV_o, Tl.cps_toV_a, Tl.toVK_v, Tl.toVK_o, Tl.peeks_n, Tl.peeks_c, Tl.toVs_n, Tl.toVs_c, Tl.toVs_vals, Tl.toVs_vals0, Tl.toVs_mv, Tl.toVs_mv0, Tl.cps_bin, Tl.cps_aNil, Tl.cps_aCons, Tl.it_l, Tl.it_t, Tl.cps_aStar, Tl.cps_eB, Tl.cps_tup, Tl.cps_lst, Tl.ofI_i, Tl.cps_oNo, Tl.cps_oSome, Tl.cps_sl, Tl.cps_neg, Tl.cps_tru, Tl.cps_tVal, Tl.cps_tNot, reduceIte, Nat.reduceAdd, Nat.reduceSub, Nat.reduceMul, Nat.reduceLT, Nat.reduceGT, Nat.reduceLeDiff, Nat.reduceEqDiff, Nat.reduceBEq, Nat.reduceBNe, Int.reduceNeg, Int.reduceAdd, Int.reduceSub, Int.reduceMul, Int.reduceLT, Int.reduceLE, Int.reduceGT, Int.reduceGE, Int.reduceEq, Int.reduceNe, Int.reduceBEq, Int.reduceBNe, Int.reducePow]
theorem cps_tOr (k : Bool → List S → Option γ) : cps (tOr ga gb') ρ kx k = cps ga ρ kx fun b ρ1 => if b = true then k true ρ1 else cps gb' ρ1 kx k := by
 unfold tOr; simp only [Tl.ob_some, Tl.ob_none, Tl.ob_assoc, Tl.om_eq, Tl.ob_ite, Tl.gz_small, Tl.gb_true, Tl.tt_true, Tl.ft_false, Tl.ite_T, Tl.ite_F, Tl.ite_fun, Tl.b_not_t, Tl.b_not_f, Tl.b_at, Tl.b_af, Tl.b_ot, Tl.b_of, Tl.b_ta, Tl.b_fa, Tl.g_zero, Tl.g_succ, Tl.s_zero, Tl.s_succ, Tl.gd_zero, Tl.gd_succ, Tl.a_cons, Tl.a_nil, Tl.a_nil2, Tl.m_cons, Tl.m_nil, Tl.m_app, Tl.m_map, Tl.m_idf, Tl.l_cons, Tl.l_nil, Tl.l_map, Tl.l_app, Tl.e_map, Tl.e_cons, Tl.e_nil, Tl.r_zero, Tl.r_succ, Tl.tl_cons, Tl.tl_nil, Tl.any_cons', Tl.any_nil', Tl.all_cons', Tl.all_nil', Tl.mem_one, Tl.eqs_self, Tl.tt_and, Tl.cps_bind, Tl.cps_pure, Tl.cps_fail, Tl.cps_ofO, Tl.cps_ite, Tl.cps_var, Tl.varK_v, Tl.varK_o, Tl.cps_C, Tl.set_v, Tl.set_o, Tl.set_a, Tl.cps_peek_v, Tl.cps_peek_o, Tl.cps_peek_a, Tl.peekK_v, Tl.peekK_o, Tl.cps_toV_v, Tl.cps_toV_o, Tl.cps_toV_a, Tl.toVK_v, Tl.toVK_o, Tl.peeks_n, Tl.peeks_c, Tl.toVs_n, Tl.toVs_c, Tl.toVs_vals, Tl.toVs_vals0, Tl.toVs_mv, Tl.toVs_mv0, Tl.cps_bin, Tl.cps_aNil, Tl.cps_aCons, Tl.it_l, Tl.it_t, Tl.cps_aStar, Tl.cps_eB, Tl.cps_tup, Tl.cps_lst, Tl.ofI_i, Tl.cps_oNo, Tl.cps_oSome, Tl.cps_sl, Tl.cps_neg, Tl.cps_tru, Tl.cps_tVal, Tl.cps_tNot, Tl.cps_tAnd, reduceIte, Nat.reduceAdd, Nat.reduceSub, Nat.reduceMul, Nat.reduceLT, Nat.reduceGT, Nat.reduceLeDiff, Nat.reduceEqDiff, Nat.reduceBEq, Nat.reduceBNe, Int.reduceNeg, Int.reduceAdd, Int.reduceSub, Int.reduceMul, Int.reduceLT, Int.reduceLE, Int.reduceGT, Int.reduceGE, Int.reduceEq, Int.reduceNe, Int.reduceBEq, Int.reduceBNe, Int.reducePow]
theorem cps_eNot (k : Rv → List S → Option γ) : cps (eNot fa) ρ kx k = cps fa ρ kx fun r ρ1 => cps (tru r) ρ1 kx fun b ρ2 => k (.val (.bl (!b))) ρ2 := by
 unfold eNot; simp only [cps_bind, cps_pure]
theorem cps_eAnd (k : Rv → List S → Option γ) : cps (eAnd fa fb) ρ kx k = cps fa ρ kx fun r ρ1 => cps (tru (Dl.settle r)) ρ1 kx fun b ρ2 => if b = true then cps fb ρ2 kx k else k (Dl.settle r) ρ2 := by
 unfold eAnd; simp only [cps_bind, cps_pure, cps_ite]
theorem cps_eOr (k : Rv → List S → Option γ) : cps (eOr fa fb) ρ kx k = cps fa ρ kx fun r ρ1 => cps (tru (Dl.settle r)) ρ1 kx fun b ρ2 => if b = true then k (Dl.settle r) ρ2 else cps fb ρ2 kx k := by
 unfold eOr; simp only [cps_bind, cps_pure, cps_ite]
theorem cps_eIf (k : Rv → List S → Option γ) : cps (eIf ga fa fb) ρ kx k = cps ga ρ kx fun b ρ1 => if b = true then cps fa ρ1 kx k else cps fb ρ1 kx k := by
 unfold eIf; simp only [cps_bind, cps_ite]
def ofBl : Rv → Option Bool
 | .val (.bl b) => some b
 | _ => none
theorem ofBl_b (b : Bool) : ofBl (.val (.bl b)) = some b := rfl
theorem cps_tCmp (k : Bool → List S → Option γ) : cps (tCmp fa) ρ kx k = cps fa ρ kx fun r ρ1 => (ofBl r).bind fun b => k b ρ1 := by
 unfold tCmp; simp only [cps_bind]
 congr 1; funext r ρ1
 cases r with
 | val d => cases d <;> rfl
 | _ => rfl
theorem cps_yes (k : Bool → List S → Option γ) : cps tYes' ρ kx k = k true ρ := rfl
def fldO (cs : List Str) (f : Str) : D → Option D
 | .obj n ns ds => if n ∈ cs then lkF f ns ds else none
 | _ => none
theorem cps_fld (cs : List Str) (f : Str) (k : Rv → List S → Option γ) : cps (eFld cs f fa) ρ kx k = cps fa ρ kx fun r ρ1 => cps (peek r) ρ1 kx fun d ρ2 => (fldO cs f d).bind fun e => k (.val e) ρ2 := by
 unfold eFld; simp only [cps_bind]
 congr 1; funext r ρ1; congr 1; funext d ρ2
 cases d with
 | obj n ns ds =>
  unfold fldO
  dsimp only
  by_cases h : n ∈ cs
  · rw [if_pos h, if_pos h, cps_ofO]; cases lkF f ns ds <;> rfl
  · rw [if_neg h, if_neg h]; rfl
 | _ => rfl
theorem cps_frz (k : Rv → List S → Option γ) : cps (eFrz fa) ρ kx k = cps fa ρ kx fun r ρ1 => cps (toV r) ρ1 kx fun d ρ2 => k (.val d) ρ2 := by
 unfold eFrz; simp only [cps_bind, cps_pure]
theorem prep_n (ms : List Bool) : prep ms [] = pure [] := by cases ms with
 | nil => rfl
 | cons b ms => cases b <;> rfl
theorem prep_t (ms : List Bool) (r : Rv) (rs : List Rv) : prep (true :: ms) (r :: rs) = (prep ms rs >>= fun rs' => pure (r :: rs')) := rfl
theorem prep_f (ms : List Bool) (r : Rv) (rs : List Rv) : prep (false :: ms) (r :: rs) = (toV r >>= fun d => prep ms rs >>= fun rs' => pure (.val d :: rs')) := rfl
theorem prep_z (r : Rv) (rs : List Rv) : prep [] (r :: rs) = (toV r >>= fun d => prep [] rs >>= fun rs' => pure (.val d :: rs')) := rfl
def notAli : Rv → Bool
 | .ali _ => false
 | _ => true
def callO (rs' : List Rv) (ρ ρ1 : List S) (kx : Xn → List S → Option γ) (k : Rv → List S → Option γ) : Of → Option γ
 | .ret q ss' => if (noAli rs' && scaR q) = true then k q ρ else if notAli q = true then k q (back rs' ss' ρ1) else none
 | .ex e ss' => kx e (back rs' ss' ρ1)
theorem cps_call (mu : List Bool) (fn : Fn) (rs : List Rv) (k : Rv → List S → Option γ) : cps (callM mu fn rs) ρ kx k = cps (prep mu rs) ρ (fun _ _ => none) fun rs' ρ1 => if dist rs' = true then (ssOfs ρ1 rs').bind fun ss => (fn ss).bind (callO rs' ρ ρ1 kx k) else none := by
 unfold callM cps
 dsimp only
 cases q : prep mu rs ρ with
 | none => rfl
 | some o =>
  cases o with
  | ex e ρ' => rfl
  | ok rs' ρ1 =>
   dsimp only
   by_cases hd : dist rs' = true
   · rw [if_pos hd, if_pos hd]
     cases ssOfs ρ1 rs' with
     | none => rfl
     | some ss =>
      dsimp only [Option.bind]
      cases fn ss with
      | none => rfl
      | some o2 =>
       cases o2 with
       | ex e ss' => rfl
       | ret q ss' =>
        dsimp only [callO]
        by_cases hn : (noAli rs' && scaR q) = true
        · rw [if_pos hn, if_pos hn]
        · rw [if_neg hn, if_neg hn]
          cases q <;> rfl
   · rw [if_neg hd, if_neg hd]
theorem callO_ret (rs' : List Rv) (ρ ρ1 : List S) (kx : Xn → List S → Option γ) (k : Rv → List S → Option γ) (q : Rv) (ss' : List S) : callO rs' ρ ρ1 kx k (.ret q ss') = if (noAli rs' && scaR q) = true then k q ρ else if notAli q = true then k q (back rs' ss' ρ1) else none := rfl
theorem callO_ex (rs' : List Rv) (ρ ρ1 : List S) (kx : Xn → List S → Option γ) (k : Rv → List S → Option γ) (e : Xn) (ss' : List S) : callO rs' ρ ρ1 kx k (.ex e ss') = kx e (back rs' ss' ρ1) := rfl
theorem na_v (d : D) : notAli (.val d) = true := rfl
theorem na_o (d : D) : notAli (.own d) = true := rfl
theorem cps_eCall (mu : List Bool) (fn : Fn) (k : Rv → List S → Option γ) : cps (eCall mu fn la) ρ kx k = cps la ρ kx fun rs ρ1 => cps (callM mu fn rs) ρ1 kx k := by
 unfold eCall; simp only [cps_bind]
theorem ssOfs_n (ρ : List S) : ssOfs ρ [] = some [] := rfl
theorem ssOfs_c (ρ : List S) (r : Rv) (rs : List Rv) : ssOfs ρ (r :: rs) = (ssOf ρ r).bind fun s => (ssOfs ρ rs).bind fun ss => some (s :: ss) := by
 show (match ssOf ρ r, ssOfs ρ rs with
  | some s, some ss => some (s :: ss)
  | _, _ => none) = _
 cases ssOf ρ r with
 | none => rfl
 | some s => cases ssOfs ρ rs <;> rfl
def ssK : Option S → Option S
 | some (.val d) => some (.val d)
 | some (.own d) => some (.own d)
 | _ => none
theorem ssOf_v (ρ : List S) (d : D) : ssOf ρ (.val d) = some (.val d) := rfl
theorem ssOf_a (ρ : List S) (i : Nat) : ssOf ρ (.ali i) = ssK ρ[i]? := by
 unfold ssOf ssK
 dsimp only
 all_goals cases ρ[i]? with
 | none => rfl
 | some s => cases s <;> rfl
theorem ssK_v (d : D) : ssK (some (.val d)) = some (.val d) := rfl
theorem ssK_o (d : D) : ssK (some (.own d)) = some (.own d) := rfl
theorem dist_n : dist [] = true := rfl
theorem dist_v (d : D) (rs : List Rv) : dist (.val d :: rs) = dist rs := rfl
theorem dist_a (i : Nat) (rs : List Rv) : dist (.ali i :: rs) = (!rs.any (isAli i) && dist rs) := rfl
theorem isAli_v (i : Nat) (d : D) : isAli i (.val d) = false := rfl
theorem isAli_a (i j : Nat) : isAli i (.ali j) = (i == j) := rfl
theorem noAli_n : noAli [] = true := rfl
theorem noAli_v (d : D) (rs : List Rv) : noAli (.val d :: rs) = noAli rs := rfl
theorem noAli_a (i : Nat) (rs : List Rv) : noAli (.ali i :: rs) = false := rfl
theorem scaR_o (d : D) : scaR (.own d) = false := rfl
theorem scaR_v (d : D) : scaR (.val d) = scaD d := rfl
theorem sca_n : scaD .non = true := rfl
theorem sca_b (b : Bool) : scaD (.bl b) = true := rfl
theorem sca_i (i : Int) : scaD (.int i) = true := rfl
theorem sca_s (x : Str) : scaD (.str x) = true := rfl
theorem sca_l (x : List D) : scaD (.lst x) = false := rfl
theorem sca_t (x : List D) : scaD (.tup x) = false := rfl
theorem sca_ob (c : Str) (ns : List Str) (x : List D) : scaD (.obj c ns x) = false := rfl
theorem back_n (ss ρ : List S) : back [] ss ρ = ρ := rfl
theorem back_v (d : D) (rs : List Rv) (s : S) (ss ρ : List S) : back (.val d :: rs) (s :: ss) ρ = back rs ss ρ := rfl
theorem back_a (i : Nat) (rs : List Rv) (s : S) (ss ρ : List S) : back (.ali i :: rs) (s :: ss) ρ = back rs ss (back1 i s ρ) := rfl
def b1K (i : Nat) (s : S) (ρ : List S) : Option S → List S
 | some (.own _) => ρ.set i (ownOr s)
 | _ => ρ
theorem back1_eq (i : Nat) (s : S) (ρ : List S) : back1 i s ρ = b1K i s ρ ρ[i]? := by
 unfold back1 b1K isOwn
 cases ρ[i]? with
 | none => rfl
 | some s => cases s <;> rfl
theorem b1K_o (i : Nat) (s : S) (ρ : List S) (d : D) : b1K i s ρ (some (.own d)) = ρ.set i (ownOr s) := rfl
theorem b1K_v (i : Nat) (s : S) (ρ : List S) (d : D) : b1K i s ρ (some (.val d)) = ρ := rfl
theorem ownOr_o (d : D) : ownOr (.own d) = .own d := rfl
def makeO (rs' : List Rv) (ρ1 : List S) (kx : Xn → List S → Option γ) (k : Rv → List S → Option γ) : Of → Option γ
 | .ret (.val .non) (.own d :: ss') => k (.own d) (back rs' ss' ρ1)
 | .ex e (_ :: ss') => kx e (back rs' ss' ρ1)
 | _ => none
theorem cps_makeM (n : Str) (mu : List Bool) (fn : Fn) (rs : List Rv) (k : Rv → List S → Option γ) : cps (makeM n mu fn rs) ρ kx k = cps (prep mu rs) ρ (fun _ _ => none) fun rs' ρ1 => if dist rs' = true then (ssOfs ρ1 rs').bind fun ss => (fn (.own (.obj n [] []) :: ss)).bind (makeO rs' ρ1 kx k) else none := by
 unfold makeM cps
 dsimp only
 cases q : prep mu rs ρ with
 | none => rfl
 | some o =>
  cases o with
  | ex e ρ' => rfl
  | ok rs' ρ1 =>
   dsimp only
   by_cases hd : dist rs' = true
   · rw [if_pos hd, if_pos hd]
     cases ssOfs ρ1 rs' with
     | none => rfl
     | some ss =>
      dsimp only [Option.bind]
      cases fn (.own (.obj n [] []) :: ss) with
      | none => rfl
      | some o2 =>
       cases o2 with
       | ex e ss' => cases ss' <;> rfl
       | ret q ss' =>
        cases q with
        | val d => cases d <;> first | rfl | (cases ss' with
         | nil => rfl
         | cons s ss' => cases s <;> rfl)
        | _ => rfl
   · rw [if_neg hd, if_neg hd]
theorem makeO_ret (rs' : List Rv) (ρ1 : List S) (kx : Xn → List S → Option γ) (k : Rv → List S → Option γ) (d : D) (ss' : List S) : makeO rs' ρ1 kx k (.ret (.val .non) (.own d :: ss')) = k (.own d) (back rs' ss' ρ1) := rfl
theorem makeO_ex (rs' : List Rv) (ρ1 : List S) (kx : Xn → List S → Option γ) (k : Rv → List S → Option γ) (e : Xn) (s : S) (ss' : List S) : makeO rs' ρ1 kx k (.ex e (s :: ss')) = kx e (back rs' ss' ρ1) := rfl
theorem cps_eMake (n : Str) (mu : List Bool) (fn : Fn) (k : Rv → List S → Option γ) : cps (eMake n mu fn la) ρ kx k = cps la ρ kx fun rs ρ1 => cps (makeM n mu fn rs) ρ1 kx k := by
 unfold eMake; simp only [cps_bind]
def isObj (n : Str) : D → Bool
 | .obj n' _ _ => decide (n' = n)
 | _ => false
def isObjM (n m : Str) : D → Bool
 | .obj n' ns _ => decide (n' = n ∧ m ∉ ns)
 | _ => false
theorem cps_ckC (n : Str) (r : Rv) (k : Unit → List S → Option γ) : cps (ckC n r) ρ kx k = cps (peek r) ρ kx fun d ρ1 => (gb (isObj n d)).bind fun _ => k () ρ1 := by
 unfold ckC; simp only [cps_bind]
 congr 1; funext d ρ1
 cases d with
 | obj n' ns ds =>
  dsimp only [isObj]
  by_cases h : n' = n
  · rw [if_pos h, decide_eq_true h]; rfl
  · rw [if_neg h, decide_eq_false h]; rfl
 | _ => rfl
theorem cps_ckO (n m : Str) (r : Rv) (k : Unit → List S → Option γ) : cps (ckO n m r) ρ kx k = cps (peek r) ρ kx fun d ρ1 => (gb (isObjM n m d)).bind fun _ => k () ρ1 := by
 unfold ckO; simp only [cps_bind]
 congr 1; funext d ρ1
 cases d with
 | obj n' ns ds =>
  dsimp only [isObjM]
  by_cases h : n' = n ∧ m ∉ ns
  · rw [if_pos h, decide_eq_true h]; rfl
  · rw [if_neg h, decide_eq_false h]; rfl
 | _ => rfl
theorem cps_meth (n m : Str) (mu : List Bool) (fn : Fn) (k : Rv → List S → Option γ) : cps (eMeth n m mu fn fa la) ρ kx k = cps fa ρ kx fun r ρ1 => cps (ckO n m (Dl.settle r)) ρ1 kx fun _ ρ2 => cps la ρ2 kx fun rs ρ3 => cps (callM mu fn (Dl.settle r :: rs)) ρ3 kx k := by
 unfold eMeth; simp only [cps_bind]
theorem cps_own2 (n : Str) (mu : List Bool) (fn : Fn) (k : Rv → List S → Option γ) : cps (eOwn2 n mu fn fa fb) ρ kx k = cps fa ρ kx fun r ρ1 => cps fb ρ1 kx fun q ρ2 => cps (ckC n (Dl.settle r)) ρ2 kx fun _ ρ3 => cps (ckC n (Dl.settle q)) ρ3 kx fun _ ρ4 => cps (callM mu fn [Dl.settle r, Dl.settle q]) ρ4 kx k := by
 unfold eOwn2; simp only [cps_bind]
theorem cps_ownIn (n : Str) (mu : List Bool) (fn : Fn) (k : Rv → List S → Option γ) : cps (eOwnIn n mu fn fa fb) ρ kx k = cps fa ρ kx fun r ρ1 => cps fb ρ1 kx fun q ρ2 => cps (ckC n (Dl.settle q)) ρ2 kx fun _ ρ3 => cps (callM mu fn [Dl.settle q, Dl.settle r]) ρ3 kx fun z ρ4 => (ofBl z).bind fun b => k (.val (.bl b)) ρ4 := by
 unfold eOwnIn; simp only [cps_bind]
 congr 1; funext r ρ1; congr 1; funext q ρ2; congr 1; funext _ ρ3; congr 1; funext z ρ4
 cases z with
 | val d => cases d <;> rfl
 | _ => rfl
def ownK (i : Nat) : Option S → Option (Nat × List D)
 | some (.own (.lst ds)) => some (i, ds)
 | _ => none
theorem ownLst_a (i : Nat) (ρ : List S) : ownLst (.ali i) ρ = ownK i ρ[i]? := by
 unfold ownLst ownK
 dsimp only
 all_goals cases ρ[i]? with
 | none => rfl
 | some s => cases s with
  | own d => cases d <;> rfl
  | _ => rfl
theorem ownK_o (i : Nat) (ds : List D) : ownK i (some (.own (.lst ds))) = some (i, ds) := rfl
theorem cps_append (k : Rv → List S → Option γ) : cps (mAppend fa fb) ρ kx k = cps fa ρ kx fun r ρ1 => (ownLst (Dl.settle r) ρ1).bind fun _ => cps fb ρ1 kx fun x ρ2 => cps (toV (Dl.settle x)) ρ2 kx fun d ρ3 => (ownLst (Dl.settle r) ρ3).bind fun p => (gz (p.2.length + 1)).bind fun _ => k (.val .non) (ρ3.set p.1 (.own (.lst (p.2 ++ [d])))) := by
 unfold mAppend; refine (cps_bind _ _ k).trans ?_
 congr 1; funext r ρ1
 have e1 : ∀ (h : Unit → List S → Option γ), cps (ckL (Dl.settle r)) ρ1 kx h = (ownLst (Dl.settle r) ρ1).bind fun _ => h () ρ1 := fun h => by
  unfold cps ckL; cases ownLst (Dl.settle r) ρ1 <;> rfl
 refine (cps_bind _ _ k).trans ?_
 rw [e1]
 congr 1; funext _
 refine (cps_bind _ _ k).trans ?_
 congr 1; funext x ρ2
 refine (cps_bind _ _ k).trans ?_
 congr 1; funext d ρ3
 unfold cps gz
 dsimp only
 cases ownLst (Dl.settle r) ρ3 with
 | none => rfl
 | some p =>
  obtain ⟨i, ds⟩ := p
  dsimp only [Option.bind]
  by_cases h : ds.length < sizeLine
  · rw [if_pos h, if_pos (by omega)]
  · rw [if_neg h, if_neg (by omega)]
def ofL : D → Option (List D)
 | .lst xs => some xs
 | _ => none
theorem ofL_l (xs : List D) : ofL (.lst xs) = some xs := rfl
theorem cps_extend (k : Rv → List S → Option γ) : cps (mExtend fa fb) ρ kx k = cps fa ρ kx fun r ρ1 => (ownLst (Dl.settle r) ρ1).bind fun _ => cps fb ρ1 kx fun x ρ2 => cps (peek (Dl.settle x)) ρ2 kx fun d ρ3 => (ownLst (Dl.settle r) ρ3).bind fun p => (ofL d).bind fun es => (gz (p.2.length + es.length)).bind fun _ => k (.val .non) (ρ3.set p.1 (.own (.lst (p.2 ++ es)))) := by
 unfold mExtend; refine (cps_bind _ _ k).trans ?_
 congr 1; funext r ρ1
 have e1 : ∀ (h : Unit → List S → Option γ), cps (ckL (Dl.settle r)) ρ1 kx h = (ownLst (Dl.settle r) ρ1).bind fun _ => h () ρ1 := fun h => by
  unfold cps ckL; cases ownLst (Dl.settle r) ρ1 <;> rfl
 refine (cps_bind _ _ k).trans ?_
 rw [e1]
 congr 1; funext _
 refine (cps_bind _ _ k).trans ?_
 congr 1; funext x ρ2
 refine (cps_bind _ _ k).trans ?_
 congr 1; funext d ρ3
 unfold cps gz
 dsimp only
 cases ownLst (Dl.settle r) ρ3 with
 | none => cases d <;> rfl
 | some p =>
  obtain ⟨i, ds⟩ := p
  dsimp only [Option.bind]
  cases d with
  | lst es =>
   dsimp only [ofL]
   by_cases h : ds.length + es.length ≤ sizeLine
   · rw [if_pos h, if_pos h]
   · rw [if_neg h, if_neg h]
  | _ => rfl
theorem cps_clear (k : Rv → List S → Option γ) : cps (mClear fa) ρ kx k = cps fa ρ kx fun r ρ1 => (ownLst (Dl.settle r) ρ1).bind fun p => k (.val .non) (ρ1.set p.1 (.own (.lst []))) := by
 unfold mClear; refine (cps_bind _ _ k).trans ?_
 congr 1; funext r ρ1
 have e1 : ∀ (h : Unit → List S → Option γ), cps (ckL (Dl.settle r)) ρ1 kx h = (ownLst (Dl.settle r) ρ1).bind fun _ => h () ρ1 := fun h => by
  unfold cps ckL; cases ownLst (Dl.settle r) ρ1 <;> rfl
 refine (cps_bind _ _ k).trans ?_
 rw [e1]
 unfold cps
 dsimp only
 cases ownLst (Dl.settle r) ρ1 <;> rfl
theorem cps_iSeq (k : List D → List S → Option γ) : cps (iSeq fa) ρ kx k = cps fa ρ kx fun r ρ1 => cps (toV r) ρ1 kx fun d ρ2 => (items d).bind fun ds => k ds ρ2 := by
 unfold iSeq; simp only [cps_bind, cps_ofO]
theorem cps_rng1 (k : List D → List S → Option γ) : cps (iRng1 la) ρ kx k = cps la ρ kx fun rs ρ1 => cps (peeks rs) ρ1 kx fun ds ρ2 => (dRng1 ds).bind fun ds => k ds ρ2 := by
 unfold iRng1; simp only [cps_bind, cps_ofO]
theorem cps_rng2 (k : List D → List S → Option γ) : cps (iRng2 la) ρ kx k = cps la ρ kx fun rs ρ1 => cps (peeks rs) ρ1 kx fun ds ρ2 => (dRng2 ds).bind fun ds => k ds ρ2 := by
 unfold iRng2; simp only [cps_bind, cps_ofO]
theorem cps_zip (k : List D → List S → Option γ) : cps (iZip la) ρ kx k = cps la ρ kx fun rs ρ1 => cps (toVs rs) ρ1 kx fun ds ρ2 => (dZip ds).bind fun ds => k ds ρ2 := by
 unfold iZip; simp only [cps_bind, cps_ofO]
theorem cps_enu (k : List D → List S → Option γ) : cps (iEnu la) ρ kx k = cps la ρ kx fun rs ρ1 => cps (toVs rs) ρ1 kx fun ds ρ2 => (dEnum ds).bind fun ds => k ds ρ2 := by
 unfold iEnu; simp only [cps_bind, cps_ofO]
def rngI (lo : Int) (n : Nat) : List Int := (List.range n).map fun (k : Nat) => lo + (k : Int)
theorem rangeD_eq (lo : Int) (n : Nat) : rangeD lo n = (rngI lo n).map D.int := by unfold rangeD rngI; rw [List.map_map]; rfl
def rngT (j : Int) : Option (List Int) := if rngOk 0 j = true then some (rngI 0 j.toNat) else none
def rngT2 (i j : Int) : Option (List Int) := if rngOk i j = true then some (rngI i (j - i).toNat) else none
theorem dRng1_eq (j : Int) : dRng1 [.int j] = (rngT j).bind fun xs => some (xs.map D.int) := by
 show (if rngOk 0 j = true then some (rangeD 0 j.toNat) else none) = _
 unfold rngT; rw [rangeD_eq]; split <;> rfl
theorem dRng2_eq (i j : Int) : dRng2 [.int i, .int j] = (rngT2 i j).bind fun xs => some (xs.map D.int) := by
 show (if rngOk i j = true then some (rangeD i (j - i).toNat) else none) = _
 unfold rngT2; rw [rangeD_eq]; split <;> rfl
def zipT {α β : Type} (as : List α) (bs : List β) : Option (List (α × β)) := if (List.zip as bs).length ≤ 16777216 then some (List.zip as bs) else none
theorem zipD_map {α β : Type} (e : α → D) (e' : β → D) : ∀ (as : List α) (bs : List β), zipD (as.map e) (bs.map e') = (List.zip as bs).map fun p => D.tup [e p.1, e' p.2]
 | [], bs => by cases bs <;> rfl
 | a :: as, [] => rfl
 | a :: as, b :: bs => by
  have := zipD_map e e' as bs
  unfold zipD at this ⊢
  rw [List.map_cons, List.map_cons, List.zipWith_cons_cons, this]; rfl
theorem dZip_l {α β : Type} (e : α → D) (e' : β → D) (as : List α) (bs : List β) : dZip [.lst (as.map e), .lst (bs.map e')] = (zipT as bs).bind fun ps => some (ps.map fun p => D.tup [e p.1, e' p.2]) := by
 show (if (zipD (as.map e) (bs.map e')).length ≤ 16777216 then some (zipD (as.map e) (bs.map e')) else none) = _
 unfold zipT; rw [zipD_map, List.length_map]
 split <;> rfl
theorem dZip_t {α β : Type} (e : α → D) (e' : β → D) (as : List α) (bs : List β) : dZip [.tup (as.map e), .tup (bs.map e')] = (zipT as bs).bind fun ps => some (ps.map fun p => D.tup [e p.1, e' p.2]) := by
 show (if (zipD (as.map e) (bs.map e')).length ≤ 16777216 then some (zipD (as.map e) (bs.map e')) else none) = _
 unfold zipT; rw [zipD_map, List.length_map]
 split <;> rfl
def numT {α : Type} (xs : List α) : List (Int × α) := xs.zipIdx.map fun p => ((p.2 : Nat), p.1)
def enuT {α : Type} (xs : List α) : Option (List (Int × α)) := if xs.length ≤ 16777216 then some (numT xs) else none
theorem numD_map {α : Type} (e : α → D) (xs : List α) : numD (xs.map e) = (numT xs).map fun p => D.tup [.int p.1, e p.2] := by
 unfold numD numT
 rw [List.zipIdx_map, List.map_map, List.map_map]; rfl
theorem dEnum_l {α : Type} (e : α → D) (as : List α) : dEnum [.lst (as.map e)] = (enuT as).bind fun ps => some (ps.map fun p => D.tup [.int p.1, e p.2]) := by
 show (if (as.map e).length ≤ 16777216 then some (numD (as.map e)) else none) = _
 unfold enuT; rw [numD_map, List.length_map]
 split <;> rfl
theorem dEnum_t {α : Type} (e : α → D) (as : List α) : dEnum [.tup (as.map e)] = (enuT as).bind fun ps => some (ps.map fun p => D.tup [.int p.1, e p.2]) := by
 show (if (as.map e).length ≤ 16777216 then some (numD (as.map e)) else none) = _
 unfold enuT; rw [numD_map, List.length_map]
 split <;> rfl
end
end Tl
namespace Tl
open PySem Dl
open L2 (ixN atI)
def sq (o : Option Os) (g : MS) : Option Os := o.bind fun x => match x with
 | .nx ρ => g ρ
 | x => some x
section
variable {ρ : List S} {f g : MS} {fa fb fo : M Rv} {ga : M Bool}
theorem sSeq_eq : sSeq f g ρ = sq (f ρ) g := by
 unfold sSeq sq
 cases f ρ with
 | none => rfl
 | some o => cases o <;> rfl
theorem sq_none : sq none g = none := rfl
theorem sq_nx : sq (some (.nx ρ)) g = g ρ := rfl
theorem sq_rt (r : Rv) : sq (some (.rt r ρ)) g = some (.rt r ρ) := rfl
theorem sq_ct : sq (some (.ct ρ)) g = some (.ct ρ) := rfl
theorem sq_bk : sq (some (.bk ρ)) g = some (.bk ρ) := rfl
theorem sq_ex (e : Xn) : sq (some (.ex e ρ)) g = some (.ex e ρ) := rfl
theorem sq_bind {α : Type} (o : Option α) (h : α → Option Os) : sq (o.bind h) g = o.bind fun a => sq (h a) g := by cases o <;> rfl
theorem sq_ite (c : Prop) [Decidable c] (a b : Option Os) : sq (if c then a else b) g = if c then sq a g else sq b g := by split <;> rfl
theorem thenS_eq {α : Type} (f : M α) (k : α → MS) : thenS f k ρ = cps f ρ (fun e ρ => some (.ex e ρ)) k := by
 unfold thenS cps
 cases f ρ with
 | none => rfl
 | some o => cases o <;> rfl
theorem sNil_eq : sNil ρ = some (.nx ρ) := rfl
theorem sPass_eq : sPass ρ = some (.nx ρ) := rfl
theorem sBreak_eq : sBreak ρ = some (.bk ρ) := rfl
theorem sCont_eq : sCont ρ = some (.ct ρ) := rfl
theorem sNever_eq : sNever ρ = none := rfl
theorem sRetN_eq : sRetN ρ = some (.rt (.val .non) ρ) := rfl
theorem sExpr_eq : sExpr fa ρ = cps fa ρ (fun e ρ => some (.ex e ρ)) fun _ ρ => some (.nx ρ) := by unfold sExpr; rw [thenS_eq]; rfl
def retK (i : Nat) (ρ : List S) : Option S → Option Os
 | some (.val d) => some (.rt (.val d) ρ)
 | some (.own d) => some (.rt (.own d) (ρ.set i .no))
 | _ => none
theorem retV_v (d : D) : retV (.val d) ρ = some (.rt (.val d) ρ) := rfl
theorem retV_o (d : D) : retV (.own d) ρ = some (.rt (.own d) ρ) := rfl
theorem retV_a (i : Nat) : retV (.ali i) ρ = retK i ρ ρ[i]? := by
 unfold retV retK
 dsimp only
 all_goals cases ρ[i]? with
 | none => rfl
 | some s => cases s <;> rfl
theorem retK_v (i : Nat) (d : D) : retK i ρ (some (.val d)) = some (.rt (.val d) ρ) := rfl
theorem retK_o (i : Nat) (d : D) : retK i ρ (some (.own d)) = some (.rt (.own d) (ρ.set i .no)) := rfl
theorem sRet_eq : sRet fa ρ = cps fa ρ (fun e ρ => some (.ex e ρ)) retV := by unfold sRet; rw [thenS_eq]
def setK (i j : Nat) (ρ : List S) : Option S → Option Os
 | some (.val d) => some (.nx (ρ.set i (.val d)))
 | some (.own d) => some (.nx ((ρ.set j (.val d)).set i (.val d)))
 | _ => none
theorem setV_v (np i : Nat) (d : D) : setV np i (.val d) ρ = some (.nx (ρ.set i (.val d))) := rfl
theorem setV_o (np i : Nat) (d : D) : setV np i (.own d) ρ = if i < np then some (.nx (ρ.set i (.val d))) else some (.nx (ρ.set i (.own d))) := rfl
theorem setV_a (np i j : Nat) : setV np i (.ali j) ρ = setK i j ρ ρ[j]? := by
 unfold setV setK
 dsimp only
 all_goals cases ρ[j]? with
 | none => rfl
 | some s => cases s <;> rfl
theorem setK_v (i j : Nat) (d : D) : setK i j ρ (some (.val d)) = some (.nx (ρ.set i (.val d))) := rfl
theorem setK_o (i j : Nat) (d : D) : setK i j ρ (some (.own d)) = some (.nx ((ρ.set j (.val d)).set i (.val d))) := rfl
theorem sSet_eq (np i : Nat) : sSet np i fa ρ = cps fa ρ (fun e ρ => some (.ex e ρ)) (setV np i) := by unfold sSet; rw [thenS_eq]
theorem sIf_eq : sIf ga f g ρ = cps ga ρ (fun e ρ => some (.ex e ρ)) fun b ρ => if b = true then f ρ else g ρ := by
 unfold sIf; rw [thenS_eq]
 congr 1; funext b ρ; split <;> rfl
theorem sFor_eq (it : M (List D)) (tg : D → List S → Option (List S)) (body : MS) : sFor it tg body ρ = cps it ρ (fun e ρ => some (.ex e ρ)) fun ds ρ => forL tg body ds ρ := by unfold sFor; rw [thenS_eq]
theorem asg_eq (tg : D → List S → Option (List S)) (r : Rv) : asgV tg r ρ = cps (toV r) ρ (fun e ρ => some (.ex e ρ)) fun d ρ => (tg d ρ).bind fun ρ => some (.nx ρ) := by
 unfold asgV; rw [thenS_eq]
 congr 1; funext d ρ; cases tg d ρ <;> rfl
theorem sAsg_eq (tg : D → List S → Option (List S)) : sAsg tg fa ρ = cps fa ρ (fun e ρ => some (.ex e ρ)) fun r ρ => asgV tg r ρ := by unfold sAsg; rw [thenS_eq]
theorem sSetIx_eq : sSetIx fa fo fb ρ = cps fa ρ (fun e ρ => some (.ex e ρ)) fun x ρ => cps (toV x) ρ (fun e ρ => some (.ex e ρ)) fun d ρ => cps fo ρ (fun e ρ => some (.ex e ρ)) fun r ρ => cps fb ρ (fun e ρ => some (.ex e ρ)) fun j ρ => cps (peek (Dl.settle j)) ρ (fun e ρ => some (.ex e ρ)) fun e ρ =>
  (ownLst (Dl.settle r) ρ).bind fun p => (ofI e).bind fun k => (ixN p.2.length k).bind fun n => some (.nx (ρ.set p.1 (.own (.lst (p.2.set n d))))) := by
 unfold sSetIx
 rw [thenS_eq]; congr 1; funext x ρ
 rw [thenS_eq]; congr 1; funext d ρ
 rw [thenS_eq]; congr 1; funext r ρ
 rw [thenS_eq]; congr 1; funext j ρ
 rw [thenS_eq]; congr 1; funext e ρ
 cases ownLst (Dl.settle r) ρ with
 | none => rfl
 | some p =>
  cases e <;> first | rfl | (rename_i i; show (ixN p.2.length i).map _ = (ixN p.2.length i).bind _; cases ixN p.2.length i <;> rfl)
def ownObK (i : Nat) : Option S → Option (Nat × Str × List Str × List D)
 | some (.own (.obj n ns ds)) => some (i, n, ns, ds)
 | _ => none
theorem ownObj_a (i : Nat) (ρ : List S) : ownObj (.ali i) ρ = ownObK i ρ[i]? := by
 unfold ownObj ownObK
 dsimp only
 all_goals cases ρ[i]? with
 | none => rfl
 | some s => cases s with
  | own d => cases d <;> rfl
  | _ => rfl
theorem ownObK_o (i : Nat) (n : Str) (ns : List Str) (ds : List D) : ownObK i (some (.own (.obj n ns ds))) = some (i, n, ns, ds) := rfl
theorem sSetF_eq (cs : Flds) (f : Str) : sSetF cs f fo fa ρ = cps fa ρ (fun e ρ => some (.ex e ρ)) fun x ρ => cps (toV x) ρ (fun e ρ => some (.ex e ρ)) fun d ρ => cps fo ρ (fun e ρ => some (.ex e ρ)) fun r ρ =>
  (ownObj (Dl.settle r) ρ).bind fun p => if p.2.1 ∈ cs ∧ p.2.2.1.length < 1000 then some (.nx (ρ.set p.1 (.own (.obj p.2.1 (putF2 f d p.2.2.1 p.2.2.2).1 (putF2 f d p.2.2.1 p.2.2.2).2)))) else none := by
 unfold sSetF
 rw [thenS_eq]; congr 1; funext x ρ
 rw [thenS_eq]; congr 1; funext d ρ
 rw [thenS_eq]; congr 1; funext r ρ
 cases ownObj (Dl.settle r) ρ <;> rfl
theorem putF2_n (f : Str) (d : D) : putF2 f d [] [] = ([f], [d]) := rfl
theorem putF2_c (f : Str) (d : D) (n : Str) (ns : List Str) (e : D) (ds : List D) : putF2 f d (n :: ns) (e :: ds) = if n = f then (n :: ns, d :: ds) else (n :: (putF2 f d ns ds).1, e :: (putF2 f d ns ds).2) := rfl
theorem lkF_c (f : Str) (n : Str) (ns : List Str) (e : D) (ds : List D) : lkF f (n :: ns) (e :: ds) = if n = f then some e else lkF f ns ds := rfl
theorem fldO_eq (cs : List Str) (f n : Str) (ns : List Str) (ds : List D) : fldO cs f (.obj n ns ds) = if n ∈ cs then lkF f ns ds else none := rfl
theorem nrm_n : nrm [] ρ = ρ := rfl
theorem nrm_k (i : Nat) (l : List (Nat × Bool)) : nrm ((i, true) :: l) ρ = nrm l (ρ.set i .no) := rfl
theorem nrm_f (i : Nat) (l : List (Nat × Bool)) : nrm ((i, false) :: l) ρ = nrm l (frz1 i ρ[i]? ρ) := rfl
theorem frz1_o (i : Nat) (d : D) : frz1 i (some (.own d)) ρ = ρ.set i (.val d) := rfl
theorem frz1_v (i : Nat) (d : D) : frz1 i (some (.val d)) ρ = ρ := rfl
theorem frz1_n (i : Nat) : frz1 i (some .no) ρ = ρ := rfl
theorem kil_n : kil [] ρ = ρ := rfl
theorem kil_c (i : Nat) (l : List Nat) : kil (i :: l) ρ = kil l (ρ.set i .no) := rfl
theorem sFore_eq (l : List (Nat × Bool)) : sFore l f ρ = f (nrm l ρ) := rfl
def aq (l : List (Nat × Bool)) (o : Option Os) : Option Os := o.bind fun x => some (aftO l x)
theorem sAft_eq (l : List (Nat × Bool)) : sAft l f ρ = aq l (f ρ) := by
 show (f ρ).map _ = (f ρ).bind _
 cases f ρ <;> rfl
theorem sFz_eq (i : Nat) : sFz i f ρ = aq [(i, false)] (f ρ) := sAft_eq _
theorem aq_bind {α : Type} (l : List (Nat × Bool)) (o : Option α) (h : α → Option Os) : aq l (o.bind h) = o.bind fun a => aq l (h a) := by cases o <;> rfl
theorem aq_ite (l : List (Nat × Bool)) (c : Prop) [Decidable c] (a b : Option Os) : aq l (if c then a else b) = if c then aq l a else aq l b := by split <;> rfl
theorem aq_none (l : List (Nat × Bool)) : aq l none = none := rfl
theorem aq_nx (l : List (Nat × Bool)) : aq l (some (.nx ρ)) = some (.nx (nrm l ρ)) := rfl
theorem aq_ct (l : List (Nat × Bool)) : aq l (some (.ct ρ)) = some (.ct (nrm l ρ)) := rfl
theorem aq_bk (l : List (Nat × Bool)) : aq l (some (.bk ρ)) = some (.bk (nrm l ρ)) := rfl
theorem aq_rt (l : List (Nat × Bool)) (r : Rv) : aq l (some (.rt r ρ)) = some (.rt r ρ) := rfl
theorem aq_ex (l : List (Nat × Bool)) (e : Xn) : aq l (some (.ex e ρ)) = some (.ex e ρ) := rfl
def rq (l : List Nat) (o : Option Os) : Option Os := o.bind fun o => if noAli1 o = true then some (retO l o) else none
theorem sRtA_eq (l : List Nat) : sRtA l f ρ = rq l (f ρ) := rfl
theorem rq_bind {α : Type} (l : List Nat) (o : Option α) (h : α → Option Os) : rq l (o.bind h) = o.bind fun a => rq l (h a) := by cases o <;> rfl
theorem rq_ite (l : List Nat) (c : Prop) [Decidable c] (a b : Option Os) : rq l (if c then a else b) = if c then rq l a else rq l b := by split <;> rfl
theorem rq_none (l : List Nat) : rq l none = none := rfl
theorem rq_rtv (l : List Nat) (d : D) : rq l (some (.rt (.val d) ρ)) = some (.rt (.val d) (kil l ρ)) := rfl
theorem rq_rto (l : List Nat) (d : D) : rq l (some (.rt (.own d) ρ)) = some (.rt (.own d) (kil l ρ)) := rfl
theorem rq_ex (l : List Nat) (e : Xn) : rq l (some (.ex e ρ)) = some (.ex e (kil l ρ)) := rfl
theorem gN_eq (i : Nat) (d : D) : gN i d ρ = some (ρ.set i (.val d)) := rfl
theorem gT_eq (n : Nat) (gs : List D → List S → Option (List S)) (ds : List D) : gT n gs (.tup ds) ρ = if ds.length = n then gs ds ρ else none := rfl
theorem gsN_eq : gsNil [] ρ = some ρ := rfl
theorem gsC_eq (h : D → List S → Option (List S)) (gs : List D → List S → Option (List S)) (d : D) (ds : List D) : gsCons h gs (d :: ds) ρ = (h d ρ).bind fun ρ => gs ds ρ := rfl
def rtn (ss : List S) (o : Option Os) : Option Of := o.bind fun x => match x with
 | .nx ρ' => some (.ret (.val .non) (post ss ρ'))
 | .rt (.ali _) _ => none
 | .rt r ρ' => some (.ret r (post ss ρ'))
 | .ex e ρ' => some (.ex e (post ss ρ'))
 | _ => none
theorem mkFn_eq (np n : Nat) (f : MS) (ss : List S) : mkFn np n f ss = if ss.length = np then rtn ss (f (ss ++ List.replicate (n - np) .no)) else none := by
 unfold mkFn rtn
 split
 · cases f (ss ++ List.replicate (n - np) S.no) with
   | none => rfl
   | some o => cases o with
    | rt r ρ => cases r <;> rfl
    | _ => rfl
 · rfl
theorem rtn_bind {α : Type} (ss : List S) (o : Option α) (h : α → Option Os) : rtn ss (o.bind h) = o.bind fun a => rtn ss (h a) := by cases o <;> rfl
theorem rtn_ite (ss : List S) (c : Prop) [Decidable c] (a b : Option Os) : rtn ss (if c then a else b) = if c then rtn ss a else rtn ss b := by split <;> rfl
theorem rtn_none (ss : List S) : rtn ss none = none := rfl
theorem rtn_nx (ss : List S) : rtn ss (some (.nx ρ)) = some (.ret (.val .non) (post ss ρ)) := rfl
theorem rtn_rtv (ss : List S) (d : D) : rtn ss (some (.rt (.val d) ρ)) = some (.ret (.val d) (post ss ρ)) := rfl
theorem rtn_rto (ss : List S) (d : D) : rtn ss (some (.rt (.own d) ρ)) = some (.ret (.own d) (post ss ρ)) := rfl
theorem rtn_ex (ss : List S) (e : Xn) : rtn ss (some (.ex e ρ)) = some (.ex e (post ss ρ)) := rfl
theorem post_n : post [] ρ = [] := by cases ρ <;> rfl
theorem post_v (d : D) (ss : List S) (s : S) : post (.val d :: ss) (s :: ρ) = .val d :: post ss ρ := by cases s <;> rfl
theorem post_o (d e : D) (ss : List S) : post (.own d :: ss) (.own e :: ρ) = .own e :: post ss ρ := rfl
end
inductive Cf (E R : Type) where
 | nx (e : E) | ct (e : E) | bk (e : E) | rt (r : R)
def Cf.k {E R α : Type} (o : Cf E R) (f : E → α) (g : R → α) : α := match o with
 | .nx e => f e
 | .ct e => f e
 | .bk e => f e
 | .rt r => g r
def forT {α E R : Type} (body : α → E → Option (Cf E R)) : List α → E → Option (Cf E R)
 | [], e => some (.nx e)
 | x :: xs, e => (body x e).bind fun o => match o with
  | .nx e' => forT body xs e'
  | .ct e' => forT body xs e'
  | .bk e' => some (.nx e')
  | .rt r => some (.rt r)
def foldT {α E : Type} (body : α → E → Option E) : List α → E → Option E
 | [], e => some e
 | x :: xs, e => (body x e).bind fun e' => foldT body xs e'
def cfO {E R : Type} (st : E → List S) (rv : R → Rv) (rs : R → List S) : Cf E R → Os
 | .nx e => .nx (st e)
 | .ct e => .ct (st e)
 | .bk e => .bk (st e)
 | .rt r => .rt (rv r) (rs r)
def lpO {E R : Type} (st : E → List S) (rv : R → Rv) (rs : R → List S) (o : Cf E R) : Os := o.k (fun e => .nx (st e)) (fun r => .rt (rv r) (rs r))
section
variable {α E R : Type} {e : α → D} {st : E → List S} {rv : R → Rv} {rs : R → List S} {tg : D → List S → Option (List S)} {body : MS}
theorem forL_cf {tb : α → E → Option (Cf E R)} : ∀ (xs : List α) (env : E), (∀ x ∈ xs, ∀ env, (tg (e x) (st env)).bind body = (tb x env).bind fun o => some (cfO st rv rs o)) →
  forL tg body (xs.map e) (st env) = (forT tb xs env).bind fun o => some (lpO st rv rs o)
 | [], env, _ => rfl
 | x :: xs, env, h => by
  have h1 := h x List.mem_cons_self env
  have ih := fun env => forL_cf (tb := tb) xs env fun y hy => h y (List.mem_cons_of_mem _ hy)
  rw [List.map_cons]
  unfold forL forT
  cases q : tg (e x) (st env) with
  | none =>
   rw [q] at h1
   cases q2 : tb x env with
   | none => rfl
   | some o => rw [q2] at h1; cases h1
  | some ρ1 =>
   rw [q] at h1
   dsimp only [Option.bind] at h1 ⊢
   rw [h1]
   cases q2 : tb x env with
   | none => rfl
   | some o => cases o with
    | nx e' => exact ih e'
    | ct e' => exact ih e'
    | bk e' => rfl
    | rt r => rfl
theorem forL_fold {tb : α → E → Option E} : ∀ (xs : List α) (env : E), (∀ x ∈ xs, ∀ env, (tg (e x) (st env)).bind body = (tb x env).bind fun o => some (.nx (st o))) →
  forL tg body (xs.map e) (st env) = (foldT tb xs env).bind fun o => some (.nx (st o))
 | [], env, _ => rfl
 | x :: xs, env, h => by
  have h1 := h x List.mem_cons_self env
  have ih := fun env => forL_fold (tb := tb) xs env fun y hy => h y (List.mem_cons_of_mem _ hy)
  rw [List.map_cons]
  unfold forL foldT
  cases q : tg (e x) (st env) with
  | none =>
   rw [q] at h1
   cases q2 : tb x env with
   | none => rfl
   | some o => rw [q2] at h1; cases h1
  | some ρ1 =>
   rw [q] at h1
   dsimp only [Option.bind] at h1 ⊢
   rw [h1]
   cases q2 : tb x env with
   | none => rfl
   | some o => exact ih o
theorem sq_lpO (o : Cf E R) (g : MS) : sq (some (lpO st rv rs o)) g = o.k (fun e => g (st e)) (fun r => some (.rt (rv r) (rs r))) := by cases o <;> rfl
theorem aq_lpO (o : Cf E R) (l : List (Nat × Bool)) : aq l (some (lpO st rv rs o)) = o.k (fun e => some (.nx (nrm l (st e)))) (fun r => some (.rt (rv r) (rs r))) := by cases o <;> rfl
theorem sq_k (o : Cf E R) (f : E → Option Os) (h : R → Option Os) (g : MS) : sq (o.k f h) g = o.k (fun e => sq (f e) g) (fun r => sq (h r) g) := by cases o <;> rfl
theorem aq_k (o : Cf E R) (f : E → Option Os) (h : R → Option Os) (l : List (Nat × Bool)) : aq l (o.k f h) = o.k (fun e => aq l (f e)) (fun r => aq l (h r)) := by cases o <;> rfl
theorem rq_k (o : Cf E R) (f : E → Option Os) (h : R → Option Os) (l : List Nat) : rq l (o.k f h) = o.k (fun e => rq l (f e)) (fun r => rq l (h r)) := by cases o <;> rfl
theorem rtn_k (o : Cf E R) (f : E → Option Os) (h : R → Option Os) (ss : List S) : rtn ss (o.k f h) = o.k (fun e => rtn ss (f e)) (fun r => rtn ss (h r)) := by cases o <;> rfl
theorem ob_k {β γ : Type} (o : Cf E R) (f : E → Option β) (h : R → Option β) (g : β → Option γ) : (o.k f h).bind g = o.k (fun e => (f e).bind g) (fun r => (h r).bind g) := by cases o <;> rfl
theorem cfO_nx (x : E) : cfO st rv rs (.nx x) = .nx (st x) := rfl
theorem cfO_ct (x : E) : cfO st rv rs (.ct x) = .ct (st x) := rfl
theorem cfO_bk (x : E) : cfO st rv rs (.bk x) = .bk (st x) := rfl
theorem cfO_rt (x : R) : cfO st rv rs (.rt x) = .rt (rv x) (rs x) := rfl
end
def whF {E R : Type} (test : E → Option Bool) (body : E → Option (Cf E R)) : Nat → E → Option (Cf E R)
 | 0, _ => none
 | n + 1, e => (test e).bind fun b => if b = true then (body e).bind fun o => match o with
  | .nx e' => whF test body n e'
  | .ct e' => whF test body n e'
  | .bk e' => some (.nx e')
  | .rt r => some (.rt r) else some (.nx e)
section
variable {E R : Type} {test : E → Option Bool} {body : E → Option (Cf E R)}
open Classical in
noncomputable def whT (test : E → Option Bool) (body : E → Option (Cf E R)) (e : E) : Option (Cf E R) := if h : ∃ n o, whF test body n e = some o then some (Classical.choose (Classical.choose_spec h)) else none
end
def lcS (tg : D → List S → Option (List S)) (tt : M Bool) (te : M Rv) (vs : List Nat) (d : D) (ρ : List S) : Option (Option D × List S) :=
 (tg d (wipeS ρ vs)).bind fun ρ1 => cps tt ρ1 (fun _ _ => none) fun b ρ2 => if b = true then cps te ρ2 (fun _ _ => none) fun r ρ3 => cps (toV r) ρ3 (fun _ _ => none) fun e ρ4 => some (some e, backS ρ ρ4 vs) else some (none, backS ρ ρ2 vs)
theorem lcS_eq (tg : D → List S → Option (List S)) (tt : M Bool) (te : M Rv) (vs : List Nat) (d : D) (ds acc : List D) (ρ : List S) :
  lcL tg tt te vs (d :: ds) acc ρ = (lcS tg tt te vs d ρ).bind fun p => lcL tg tt te vs ds (match p.1 with | some e => acc ++ [e] | none => acc) p.2 := by
 have e1 : lcL tg tt te vs (d :: ds) acc ρ = (match tg d (wipeS ρ vs) with
  | none => none
  | some ρ1 => match tt ρ1 with
   | some (.ok false ρ2) => lcL tg tt te vs ds acc (backS ρ ρ2 vs)
   | some (.ok true ρ2) => match (te >>= toV) ρ2 with
    | some (.ok e ρ3) => lcL tg tt te vs ds (acc ++ [e]) (backS ρ ρ3 vs)
    | _ => none
   | _ => none) := rfl
 rw [e1]
 unfold lcS
 cases tg d (wipeS ρ vs) with
 | none => rfl
 | some ρ1 =>
  dsimp only [Option.bind]
  unfold cps
  cases tt ρ1 with
  | none => rfl
  | some o =>
   cases o with
   | ex e ρ' => rfl
   | ok b ρ2 =>
    cases b with
    | false => rfl
    | true =>
     dsimp only
     rw [if_pos rfl, bind_eq]
     cases te ρ2 with
     | none => rfl
     | some o =>
      cases o with
      | ex e ρ' => rfl
      | ok r ρ3 =>
       dsimp only
       cases toV r ρ3 with
       | none => rfl
       | some o => cases o <;> rfl
def mapT {α β : Type} (f : α → Option β) : List α → Option (List β)
 | [] => some []
 | x :: xs => (f x).bind fun y => (mapT f xs).bind fun ys => some (y :: ys)
def mapF {α β : Type} (f : α → Option (Option β)) : List α → Option (List β)
 | [] => some []
 | x :: xs => (f x).bind fun y => (mapF f xs).bind fun ys => some (match y with | some y => y :: ys | none => ys)
def mapE {α β E : Type} (f : α → E → Option (β × E)) : List α → E → Option (List β × E)
 | [], e => some ([], e)
 | x :: xs, e => (f x e).bind fun y => (mapE f xs y.2).bind fun ys => some (y.1 :: ys.1, ys.2)
section
variable {α β E γ : Type} {e : α → D} {e' : β → D} {st : E → List S} {tg : D → List S → Option (List S)} {tt : M Bool} {te : M Rv} {vs : List Nat} {ρ : List S} {it : M (List D)} {kx : Xn → List S → Option γ} {k : Rv → List S → Option γ}
theorem lcL_T {f : α → Option β} : ∀ (xs : List α) (acc : List D), (∀ x, lcS tg tt te vs (e x) ρ = (f x).bind fun y => some (some (e' y), ρ)) → lcL tg tt te vs (xs.map e) acc ρ = (mapT f xs).bind fun ys => some (.ok (acc ++ ys.map e') ρ)
 | [], acc, _ => by rw [List.map_nil]; show some _ = some _; rw [List.map_nil, List.append_nil]
 | x :: xs, acc, h => by
  rw [List.map_cons, lcS_eq, h x]
  unfold mapT
  cases f x with
  | none => rfl
  | some y =>
   dsimp only [Option.bind]
   rw [lcL_T xs _ h]
   cases mapT f xs with
   | none => rfl
   | some ys => dsimp only [Option.bind]; rw [List.map_cons, List.append_assoc]; rfl
theorem lcL_P {f : α → β} (xs : List α) (acc : List D) (h : ∀ x, lcS tg tt te vs (e x) ρ = some (some (e' (f x)), ρ)) : lcL tg tt te vs (xs.map e) acc ρ = some (.ok (acc ++ (xs.map f).map e') ρ) := by
 induction xs generalizing acc with
 | nil => rw [List.map_nil, List.map_nil, List.map_nil, List.append_nil]; rfl
 | cons x xs ih =>
  rw [List.map_cons, lcS_eq, h x]
  dsimp only [Option.bind]
  rw [ih, List.map_cons, List.map_cons, List.append_assoc]; rfl
theorem lcL_Q {p : α → Bool} {f : α → β} (xs : List α) (acc : List D) (h : ∀ x, lcS tg tt te vs (e x) ρ = if p x = true then some (some (e' (f x)), ρ) else some (none, ρ)) : lcL tg tt te vs (xs.map e) acc ρ = some (.ok (acc ++ ((xs.filter p).map f).map e') ρ) := by
 induction xs generalizing acc with
 | nil => rw [List.map_nil, List.filter_nil, List.map_nil, List.map_nil, List.append_nil]; rfl
 | cons x xs ih =>
  rw [List.map_cons, lcS_eq, h x]
  cases hp : p x with
  | true =>
   rw [if_pos rfl, List.filter_cons_of_pos hp]
   dsimp only [Option.bind]
   rw [ih, List.map_cons, List.map_cons, List.append_assoc]; rfl
  | false =>
   rw [if_neg Bool.false_ne_true, List.filter_cons_of_neg (by rw [hp]; exact Bool.false_ne_true)]
   dsimp only [Option.bind]
   rw [ih]
theorem lcL_F {f : α → Option (Option β)} : ∀ (xs : List α) (acc : List D), (∀ x, lcS tg tt te vs (e x) ρ = (f x).bind fun y => some (y.map e', ρ)) → lcL tg tt te vs (xs.map e) acc ρ = (mapF f xs).bind fun ys => some (.ok (acc ++ ys.map e') ρ)
 | [], acc, _ => by rw [List.map_nil]; show some _ = some _; rw [List.map_nil, List.append_nil]
 | x :: xs, acc, h => by
  rw [List.map_cons, lcS_eq, h x]
  unfold mapF
  cases f x with
  | none => rfl
  | some y =>
   dsimp only [Option.bind]
   rw [lcL_F xs _ h]
   cases mapF f xs with
   | none => rfl
   | some ys =>
    cases y with
    | none => rfl
    | some y => dsimp only [Option.bind, Option.map]; rw [List.map_cons, List.append_assoc]; rfl
theorem lcL_E {f : α → E → Option (β × E)} : ∀ (xs : List α) (acc : List D) (env : E), (∀ x env, lcS tg tt te vs (e x) (st env) = (f x env).bind fun y => some (some (e' y.1), st y.2)) → lcL tg tt te vs (xs.map e) acc (st env) = (mapE f xs env).bind fun ys => some (.ok (acc ++ ys.1.map e') (st ys.2))
 | [], acc, env, _ => by rw [List.map_nil]; show some _ = some _; rw [List.map_nil, List.append_nil]
 | x :: xs, acc, env, h => by
  rw [List.map_cons, lcS_eq, h x]
  unfold mapE
  cases f x env with
  | none => rfl
  | some y =>
   dsimp only [Option.bind]
   rw [lcL_E xs _ _ h]
   cases mapE f xs y.2 with
   | none => rfl
   | some ys => dsimp only [Option.bind]; rw [List.map_cons, List.append_assoc]; rfl
theorem cps_no {α : Type} {f : M α} {k : α → List S → Option γ} : cps (fun ρ => if noOwn ρ vs = true then f ρ else none) ρ kx k = if noOwn ρ vs = true then cps f ρ kx k else none := by
 have e : (fun ρ => if noOwn ρ vs = true then f ρ else none : M α) ρ = if noOwn ρ vs = true then f ρ else none := rfl
 unfold cps
 rw [e]
 by_cases h : noOwn ρ vs = true
 · rw [if_pos h, if_pos h]
 · rw [if_neg h, if_neg h]
theorem cps_lc : cps (eLc it tg tt te vs) ρ kx k = cps it ρ kx fun ds ρ1 => if noOwn ρ1 vs = true then cps (lcL tg tt te vs ds []) ρ1 kx fun acc ρ2 => k (.own (.lst acc)) ρ2 else none := by
 unfold eLc; refine (cps_bind _ _ k).trans ?_
 congr 1; funext ds ρ1
 refine (cps_bind _ _ k).trans ?_
 exact cps_no (f := lcL tg tt te vs ds [])
theorem noOwn_n : noOwn ρ [] = true := rfl
theorem noOwn_c (v : Nat) : noOwn ρ (v :: vs) = (!isOwn ρ[v]? && noOwn ρ vs) := rfl
theorem isOwn_o (d : D) : isOwn (some (.own d)) = true := rfl
theorem isOwn_v (d : D) : isOwn (some (.val d)) = false := rfl
theorem isOwn_n : isOwn (some .no) = false := rfl
theorem wipe_n : wipeS ρ [] = ρ := rfl
theorem wipe_c (v : Nat) : wipeS ρ (v :: vs) = (wipeS ρ vs).set v .no := rfl
theorem back_n' (ρ0 : List S) : backS ρ0 ρ [] = ρ := rfl
theorem back_c' (ρ0 : List S) (v : Nat) : backS ρ0 ρ (v :: vs) = (backS ρ0 ρ vs).set v (ρ0.getD v .no) := rfl
theorem cps_lcT {f : α → Option β} (xs : List α) (h : ∀ x, lcS tg tt te vs (e x) ρ = (f x).bind fun y => some (some (e' y), ρ)) (h' : List D → List S → Option γ) : cps (lcL tg tt te vs (xs.map e) []) ρ kx h' = (mapT f xs).bind fun ys => h' (ys.map e') ρ := by
 unfold cps; rw [lcL_T xs [] h]; cases mapT f xs <;> rfl
theorem cps_lcP {f : α → β} (xs : List α) (h : ∀ x, lcS tg tt te vs (e x) ρ = some (some (e' (f x)), ρ)) (h' : List D → List S → Option γ) : cps (lcL tg tt te vs (xs.map e) []) ρ kx h' = h' ((xs.map f).map e') ρ := by
 unfold cps; rw [lcL_P xs [] h]; rfl
theorem cps_lcQ {p : α → Bool} {f : α → β} (xs : List α) (h : ∀ x, lcS tg tt te vs (e x) ρ = if p x = true then some (some (e' (f x)), ρ) else some (none, ρ)) (h' : List D → List S → Option γ) : cps (lcL tg tt te vs (xs.map e) []) ρ kx h' = h' (((xs.filter p).map f).map e') ρ := by
 unfold cps; rw [lcL_Q xs [] h]; rfl
theorem cps_lcF {f : α → Option (Option β)} (xs : List α) (h : ∀ x, lcS tg tt te vs (e x) ρ = (f x).bind fun y => some (y.map e', ρ)) (h' : List D → List S → Option γ) : cps (lcL tg tt te vs (xs.map e) []) ρ kx h' = (mapF f xs).bind fun ys => h' (ys.map e') ρ := by
 unfold cps; rw [lcL_F xs [] h]; cases mapF f xs <;> rfl
theorem cps_lcE {f : α → E → Option (β × E)} (xs : List α) (env : E) (h : ∀ x env, lcS tg tt te vs (e x) (st env) = (f x env).bind fun y => some (some (e' y.1), st y.2)) (h' : List D → List S → Option γ) : cps (lcL tg tt te vs (xs.map e) []) (st env) kx h' = (mapE f xs env).bind fun ys => h' (ys.1.map e') (st ys.2) := by
 unfold cps; rw [lcL_E xs [] env h]; cases mapE f xs env <;> rfl
end
end Tl
namespace Tl
open PySem Dl
open L2 (ixN atI)
theorem add_ii (i j : Int) : dAdd (.int i) (.int j) = some (.val (.int (i + j))) := rfl
theorem add_tt (xs ys : List D) : dAdd (.tup xs) (.tup ys) = (gz (xs.length + ys.length)).bind fun _ => some (.val (.tup (xs ++ ys))) := by
 show ((none : Option Rv).or ((if xs.length + ys.length ≤ sizeLine then some (Rv.val (.tup (xs ++ ys))) else none).or (none.or none))) = _
 unfold gz; split <;> rfl
theorem add_ll (xs ys : List D) : dAdd (.lst xs) (.lst ys) = (gz (xs.length + ys.length)).bind fun _ => some (.own (.lst (xs ++ ys))) := by
 show ((none : Option Rv).or ((none : Option Rv).or ((if xs.length + ys.length ≤ sizeLine then some (Rv.own (.lst (xs ++ ys))) else none).or none))) = _
 unfold gz; split <;> rfl
theorem sub_ii (i j : Int) : dSub (.int i) (.int j) = some (.val (.int (i - j))) := rfl
theorem mul_ii (i j : Int) : dMul (.int i) (.int j) = (gb (mulOk i j)).bind fun _ => some (.val (.int (i * j))) := by
 show (if mulOk i j = true then some (Rv.val (.int (i * j))) else none) = _
 unfold gb; split <;> rfl
theorem div_ii (i j : Int) : dDiv (.int i) (.int j) = (gb (divOk i j)).bind fun _ => some (.val (.int (i / j))) := by
 show (if divOk i j = true then some (Rv.val (.int (i / j))) else none) = _
 unfold gb; split <;> rfl
theorem mod_ii (i j : Int) : dMod (.int i) (.int j) = (gb (modOk i j)).bind fun _ => some (.val (.int (i % j))) := by
 show (if modOk i j = true then some (Rv.val (.int (i % j))) else none) = _
 unfold gb; split <;> rfl
theorem pow_ii (i j : Int) : dPow (.int i) (.int j) = (gb (powOk i j)).bind fun _ => some (.val (.int (i ^ j.toNat))) := by
 show (if powOk i j = true then some (Rv.val (.int (i ^ j.toNat))) else none) = _
 unfold gb; split <;> rfl
theorem mulOk_r {i j : Int} (h : decide (-(2 ^ 64) < j ∧ j < 2 ^ 64) = true) : mulOk i j = true := by unfold mulOk; rw [h, Bool.or_true]
theorem divOk_l {i j : Int} (h : decide (0 < j ∧ j < 2 ^ 64) = true) : divOk i j = true := h
theorem modOk_l {i j : Int} (h : decide (0 < j) = true) : modOk i j = true := h
theorem lt_ii (i j : Int) : dLt (.int i) (.int j) = some (.val (.bl (decide (i < j)))) := rfl
theorem le_ii (i j : Int) : dLe (.int i) (.int j) = some (.val (.bl (decide (i ≤ j)))) := rfl
theorem gt_ii (i j : Int) : dGt (.int i) (.int j) = some (.val (.bl (decide (j < i)))) := rfl
theorem ge_ii (i j : Int) : dGe (.int i) (.int j) = some (.val (.bl (decide (j ≤ i)))) := rfl
def eO {α : Type} (e : α → D) : Option α → D
 | none => .non
 | some a => e a
theorem eO_none {α : Type} (e : α → D) : eO e none = .non := rfl
theorem eO_some {α : Type} (e : α → D) (a : α) : eO e (some a) = e a := rfl
theorem lt_io (i : Int) (o : Option Int) : dLt (.int i) (eO D.int o) = o.bind fun j => some (.val (.bl (decide (i < j)))) := by cases o <;> rfl
theorem gt_io (i : Int) (o : Option Int) : dGt (.int i) (eO D.int o) = o.bind fun j => some (.val (.bl (decide (j < i)))) := by cases o <;> rfl
theorem lt_oi (i : Int) (o : Option Int) : dLt (eO D.int o) (.int i) = o.bind fun j => some (.val (.bl (decide (j < i)))) := by cases o <;> rfl
theorem gt_oi (i : Int) (o : Option Int) : dGt (eO D.int o) (.int i) = o.bind fun j => some (.val (.bl (decide (i < j)))) := by cases o <;> rfl
theorem is_oi (o : Option Int) : dIsN (eO D.int o) .non = some (.val (.bl o.isNone)) := by cases o <;> rfl
theorem isn_oi (o : Option Int) : dNotN (eO D.int o) .non = some (.val (.bl (!o.isNone))) := by cases o <;> rfl
theorem is_ot {α : Type} (f : α → List D) (o : Option α) : dIsN (eO (fun x => .tup (f x)) o) .non = some (.val (.bl o.isNone)) := by cases o <;> rfl
theorem isn_ot {α : Type} (f : α → List D) (o : Option α) : dNotN (eO (fun x => .tup (f x)) o) .non = some (.val (.bl (!o.isNone))) := by cases o <;> rfl
theorem sca_oi (o : Option Int) : scaD (eO D.int o) = true := by cases o <;> rfl
theorem sca_ob' (o : Option Bool) : scaD (eO D.bl o) = true := by cases o <;> rfl
theorem is_bb (a b : Bool) : dIsN (.bl a) (.bl b) = some (.val (.bl (decide (a = b)))) := rfl
theorem isn_bb (a b : Bool) : dNotN (.bl a) (.bl b) = some (.val (.bl (!decide (a = b)))) := rfl
theorem is_nn : dIsN .non .non = some (.val (.bl true)) := rfl
theorem is_in (i : Int) : dIsN (.int i) .non = some (.val (.bl false)) := rfl
theorem is_ln (i : List D) : dIsN (.lst i) .non = some (.val (.bl false)) := rfl
theorem is_tn (i : List D) : dIsN (.tup i) .non = some (.val (.bl false)) := rfl
theorem is_on (c : Str) (ns : List Str) (i : List D) : dIsN (.obj c ns i) .non = some (.val (.bl false)) := rfl
theorem isn_nn : dNotN .non .non = some (.val (.bl false)) := rfl
theorem isn_in (i : Int) : dNotN (.int i) .non = some (.val (.bl true)) := rfl
theorem isn_ln (i : List D) : dNotN (.lst i) .non = some (.val (.bl true)) := rfl
theorem isn_tn (i : List D) : dNotN (.tup i) .non = some (.val (.bl true)) := rfl
theorem isn_on (c : Str) (ns : List Str) (i : List D) : dNotN (.obj c ns i) .non = some (.val (.bl true)) := rfl
def eSq {α : Type} (e : α → D) (s : Bool × List α) : D := if s.1 = true then .tup (s.2.map e) else .lst (s.2.map e)
theorem it_sq {α : Type} (e : α → D) (s : Bool × List α) : items (eSq e s) = some (s.2.map e) := by
 unfold eSq; split <;> rfl
theorem eSq_t {α : Type} (e : α → D) (xs : List α) : eSq e (true, xs) = .tup (xs.map e) := rfl
theorem eSq_l {α : Type} (e : α → D) (xs : List α) : eSq e (false, xs) = .lst (xs.map e) := rfl
theorem len_sq {α : Type} (e : α → D) (s : Bool × List α) : gLen [eSq e s] = some (.val (.int s.2.length)) := by
 unfold eSq
 split <;> (show some (Rv.val (D.int ((s.2.map e).length : Nat))) = _; rw [List.length_map])
structure PD {α : Type} [DecidableEq α] (e : α → D) (p : α → PyData) (n : Nat) : Prop where
 to : ∀ a, toP (e a) = some (p a)
 lay : ∀ a, PyData.canLay0 (p a) = true
 dep : ∀ a, PyData.depth (p a) ≤ n
 eqv : ∀ a b, PyData.eqv (p a) (p b) = decide (a = b)
section
variable {α β : Type} [DecidableEq α] [DecidableEq β] {e : α → D} {p : α → PyData} {e' : β → D} {p' : β → PyData} {n m : Nat}
theorem pd_int : PD D.int PyData.int 0 := ⟨fun a => by unfold toP; rfl, fun a => by simp [PyData.canLay0], fun a => by simp [PyData.depth], fun a b => by simp only [PyData.eqv]; rw [Bool.eq_iff_iff, beq_iff_eq, decide_eq_true_eq]⟩
theorem pd_bl : PD D.bl PyData.bool 0 := ⟨fun a => by unfold toP; rfl, fun a => by simp [PyData.canLay0], fun a => by simp [PyData.depth], fun a b => by simp only [PyData.eqv]; rw [Bool.eq_iff_iff, beq_iff_eq, decide_eq_true_eq]⟩
theorem PD.tos (h : PD e p n) : ∀ xs : List α, toPs (xs.map e) = some (xs.map p)
 | [] => by simp [toPs]
 | x :: xs => by
  rw [List.map_cons]
  unfold toPs
  rw [h.to x, PD.tos h xs]; rfl
theorem PD.lays (h : PD e p n) : ∀ xs : List α, PyData.canLayAll0 (xs.map p) = true
 | [] => by simp [PyData.canLayAll0]
 | x :: xs => by rw [List.map_cons]; unfold PyData.canLayAll0; rw [h.lay x, PD.lays h xs]; rfl
theorem PD.deps (h : PD e p n) : ∀ xs : List α, PyData.depthAll (xs.map p) ≤ n
 | [] => by simp [PyData.depthAll]
 | x :: xs => by
  have h1 := h.dep x
  have h2 := PD.deps h xs
  rw [List.map_cons]; unfold PyData.depthAll; omega
theorem PD.eqvs (h : PD e p n) : ∀ xs ys : List α, PyData.eqvAll (xs.map p) (ys.map p) = decide (xs = ys)
 | [], [] => by simp [PyData.eqvAll]
 | [], y :: ys => by simp [PyData.eqvAll]
 | x :: xs, [] => by simp [PyData.eqvAll]
 | x :: xs, y :: ys => by
  rw [List.map_cons, List.map_cons]
  unfold PyData.eqvAll
  rw [h.eqv x y, PD.eqvs h xs ys, Bool.eq_iff_iff]
  simp
theorem PD.lst (h : PD e p n) : PD (fun xs : List α => .lst (xs.map e)) (fun xs => .list (xs.map p)) (n + 1) := ⟨fun a => by unfold toP; rw [h.tos]; rfl, fun a => by unfold PyData.canLay0; exact h.lays a, fun a => by unfold PyData.depth; have := h.deps a; omega, fun a b => by unfold PyData.eqv; exact h.eqvs a b⟩
theorem PD.tup (h : PD e p n) : PD (fun xs : List α => .tup (xs.map e)) (fun xs => .tuple (xs.map p)) (n + 1) := ⟨fun a => by unfold toP; rw [h.tos]; rfl, fun a => by unfold PyData.canLay0; exact h.lays a, fun a => by unfold PyData.depth; have := h.deps a; omega, fun a b => by unfold PyData.eqv; exact h.eqvs a b⟩
theorem PD.shaped (h : PD e p n) (hn : n ≤ 64) (a : α) : SeqAt.shaped (p a) = true := by
 unfold SeqAt.shaped
 rw [h.lay a, decide_eq_true (Nat.le_trans (h.dep a) hn)]; rfl
theorem PD.eq (h : PD e p n) (hn : n ≤ 64) (a b : α) : dEq (e a) (e b) = some (.val (.bl (decide (a = b)))) := by
 unfold dEq dEqB
 rw [h.to a, h.to b]
 dsimp only
 rw [h.shaped hn a, h.shaped hn b, h.eqv]; rfl
theorem PD.ne (h : PD e p n) (hn : n ≤ 64) (a b : α) : dNe (e a) (e b) = some (.val (.bl (!decide (a = b)))) := by
 unfold dNe dEqB
 rw [h.to a, h.to b]
 dsimp only
 rw [h.shaped hn a, h.shaped hn b, h.eqv]; rfl
theorem PD.any (h : PD e p n) (a : α) : ∀ xs : List α, ((xs.map p).any fun z => PyData.eqv z (p a)) = decide (a ∈ xs)
 | [] => by simp
 | x :: xs => by
  rw [List.map_cons, List.any_cons, PD.any h a xs, h.eqv, Bool.eq_iff_iff]
  simp only [Bool.or_eq_true, decide_eq_true_eq, List.mem_cons]
  constructor
  · rintro (z | z)
    · exact .inl z.symm
    · exact .inr z
  · rintro (z | z)
    · exact .inl z.symm
    · exact .inr z
theorem PD.deep (h : PD e p n) (hn : n < 64) (a : α) (xs : List α) : dInDeep (e a) (.lst (xs.map e)) = some (decide (a ∈ xs)) := by
 unfold dInDeep
 dsimp only
 rw [h.to a, h.tos xs]
 dsimp only
 rw [h.shaped (by omega) a, show SeqAt.shaped (.list (xs.map p)) = true from h.lst.shaped (by omega) xs, h.any]; rfl
theorem PD.inL (h : PD e p n) (hn : n < 64) (hf : ∀ a, flD (e a) = false) (a : α) (xs : List α) : dIn2 (e a) (.lst (xs.map e)) = some (.val (.bl (decide (a ∈ xs)))) := by
 have h1 : dIn (e a) (.lst (xs.map e)) = none := by unfold dIn dInB; simp only [items, hf, Bool.false_and]; rfl
 unfold dIn2 dInD; rw [h1, h.deep hn]; rfl
theorem PD.notInL (h : PD e p n) (hn : n < 64) (hf : ∀ a, flD (e a) = false) (a : α) (xs : List α) : dNotIn2 (e a) (.lst (xs.map e)) = some (.val (.bl (!decide (a ∈ xs)))) := by
 have h1 : dNotIn (e a) (.lst (xs.map e)) = none := by unfold dNotIn dInB; simp only [items, hf, Bool.false_and]; rfl
 unfold dNotIn2 dNotInD; rw [h1, h.deep hn]; rfl
end
theorem eq_ii (a b : Int) : dEq (.int a) (.int b) = some (.val (.bl (decide (a = b)))) := pd_int.eq (by decide) a b
theorem ne_ii (a b : Int) : dNe (.int a) (.int b) = some (.val (.bl (!decide (a = b)))) := pd_int.ne (by decide) a b
theorem eq_bb (a b : Bool) : dEq (.bl a) (.bl b) = some (.val (.bl (decide (a = b)))) := pd_bl.eq (by decide) a b
theorem ne_bb (a b : Bool) : dNe (.bl a) (.bl b) = some (.val (.bl (!decide (a = b)))) := pd_bl.ne (by decide) a b
theorem eq_li (a b : List Int) : dEq (.lst (a.map .int)) (.lst (b.map .int)) = some (.val (.bl (decide (a = b)))) := pd_int.lst.eq (by decide) a b
theorem ne_li (a b : List Int) : dNe (.lst (a.map .int)) (.lst (b.map .int)) = some (.val (.bl (!decide (a = b)))) := pd_int.lst.ne (by decide) a b
theorem eq_ti (a b : List Int) : dEq (.tup (a.map .int)) (.tup (b.map .int)) = some (.val (.bl (decide (a = b)))) := pd_int.tup.eq (by decide) a b
theorem ne_ti (a b : List Int) : dNe (.tup (a.map .int)) (.tup (b.map .int)) = some (.val (.bl (!decide (a = b)))) := pd_int.tup.ne (by decide) a b
theorem eq_l0 (a : List Int) : dEq (.lst (a.map .int)) (.lst []) = some (.val (.bl (decide (a = [])))) := pd_int.lst.eq (by decide) a []
theorem ne_l0 (a : List Int) : dNe (.lst (a.map .int)) (.lst []) = some (.val (.bl (!decide (a = [])))) := pd_int.lst.ne (by decide) a []
theorem fl_ints : ∀ ns : List Int, (ns.map D.int).all flD = true
 | [] => rfl
 | n :: ns => by rw [List.map_cons, List.all_cons, fl_ints ns]; rfl
theorem any_ints (n : Int) : ∀ ns : List Int, ((ns.map D.int).any fun z => feq z (.int n)) = decide (n ∈ ns)
 | [] => by simp
 | m :: ns => by
  rw [List.map_cons, List.any_cons, any_ints n ns]
  show ((m == n) || _) = _
  rw [Bool.eq_iff_iff]
  simp only [Bool.or_eq_true, beq_iff_eq, decide_eq_true_eq, List.mem_cons]
  constructor
  · rintro (h | h)
    · exact .inl h.symm
    · exact .inr h
  · rintro (h | h)
    · exact .inl h.symm
    · exact .inr h
theorem inB_i (n : Int) (ns : List Int) {d : D} (h : items d = some (ns.map .int)) : dInB (.int n) d = some (decide (n ∈ ns)) := by
 unfold dInB
 rw [h]
 dsimp only
 rw [fl_ints, any_ints]; rfl
theorem in_i (n : Int) (ns : List Int) {d : D} (h : items d = some (ns.map .int)) : dIn2 (.int n) d = some (.val (.bl (decide (n ∈ ns)))) := by
 unfold dIn2 dIn; rw [inB_i n ns h]; rfl
theorem notIn_i (n : Int) (ns : List Int) {d : D} (h : items d = some (ns.map .int)) : dNotIn2 (.int n) d = some (.val (.bl (!decide (n ∈ ns)))) := by
 unfold dNotIn2 dNotIn; rw [inB_i n ns h]; rfl
theorem in_il (n : Int) (ns : List Int) : dIn2 (.int n) (.lst (ns.map .int)) = some (.val (.bl (decide (n ∈ ns)))) := in_i n ns rfl
theorem in_it (n : Int) (ns : List Int) : dIn2 (.int n) (.tup (ns.map .int)) = some (.val (.bl (decide (n ∈ ns)))) := in_i n ns rfl
theorem in_is (n : Int) (ns : Bool × List Int) : dIn2 (.int n) (eSq D.int ns) = some (.val (.bl (decide (n ∈ ns.2)))) := in_i n ns.2 (it_sq _ _)
theorem notIn_il (n : Int) (ns : List Int) : dNotIn2 (.int n) (.lst (ns.map .int)) = some (.val (.bl (!decide (n ∈ ns)))) := notIn_i n ns rfl
theorem notIn_it (n : Int) (ns : List Int) : dNotIn2 (.int n) (.tup (ns.map .int)) = some (.val (.bl (!decide (n ∈ ns)))) := notIn_i n ns rfl
theorem notIn_is (n : Int) (ns : Bool × List Int) : dNotIn2 (.int n) (eSq D.int ns) = some (.val (.bl (!decide (n ∈ ns.2)))) := notIn_i n ns.2 (it_sq _ _)
theorem in_rl (r : List Int) (rs : List (List Int)) : dIn2 (.tup (r.map .int)) (.lst (rs.map fun r => .tup (r.map .int))) = some (.val (.bl (decide (r ∈ rs)))) := (pd_int.tup.inL (by decide) (fun _ => rfl) r rs).trans (by congr)
theorem notIn_rl (r : List Int) (rs : List (List Int)) : dNotIn2 (.tup (r.map .int)) (.lst (rs.map fun r => .tup (r.map .int))) = some (.val (.bl (!decide (r ∈ rs)))) := (pd_int.tup.notInL (by decide) (fun _ => rfl) r rs).trans (by congr)
theorem tru_n : truD .non = some false := rfl
theorem tru_b (b : Bool) : truD (.bl b) = some b := rfl
theorem tru_i (i : Int) : truD (.int i) = some (i != 0) := rfl
theorem tru_l (xs : List D) : truD (.lst xs) = some (!xs.isEmpty) := rfl
theorem tru_t (xs : List D) : truD (.tup xs) = some (!xs.isEmpty) := rfl
theorem ix_l (ds : List D) (i : Int) : dIx (.lst ds) (.int i) = (atI ds i).bind fun d => some (.val d) := by
 show (atI ds i).map Rv.val = _; cases atI ds i <;> rfl
theorem ix_t (ds : List D) (i : Int) : dIx (.tup ds) (.int i) = (atI ds i).bind fun d => some (.val d) := by
 show (atI ds i).map Rv.val = _; cases atI ds i <;> rfl
theorem ix_lc (d : D) (ds : List D) (i : Int) : dIx (.lst (d :: ds)) (.int i) = (atI (d :: ds) i).bind fun d => some (.val d) := ix_l _ i
theorem ix_tc (d : D) (ds : List D) (i : Int) : dIx (.tup (d :: ds)) (.int i) = (atI (d :: ds) i).bind fun d => some (.val d) := ix_t _ i
theorem ix_lm {α : Type} (e : α → D) (xs : List α) (i : Int) : dIx (.lst (xs.map e)) (.int i) = (atI xs i).bind fun a => some (.val (e a)) := by
 rw [ix_l, atI_map]; cases atI xs i <;> rfl
theorem ix_tm {α : Type} (e : α → D) (xs : List α) (i : Int) : dIx (.tup (xs.map e)) (.int i) = (atI xs i).bind fun a => some (.val (e a)) := by
 rw [ix_t, atI_map]; cases atI xs i <;> rfl
theorem ix_sm {α : Type} (e : α → D) (xs : Bool × List α) (i : Int) : dIx (eSq e xs) (.int i) = (atI xs.2 i).bind fun a => some (.val (e a)) := by
 unfold eSq; split
 · exact ix_tm e xs.2 i
 · exact ix_lm e xs.2 i
theorem ix_sc (ns : List Int) (i : Int) : dIx (.scr ns) (.int i) = (atI ns i).bind fun n => some (.val (.int n)) := by
 show (atI ns i).map _ = _; cases atI ns i <;> rfl
theorem atI_map' {α β : Type} (f : α → β) (xs : List α) (i : Int) : atI (xs.map f) i = (atI xs i).bind fun a => some (f a) := by
 rw [atI_map]; cases atI xs i <;> rfl
theorem atI_nat {α : Type} {xs : List α} {k : Nat} : atI xs (k : Int) = xs[k]? := by
 unfold atI ixN
 rw [if_pos (Int.natCast_nonneg k)]
 by_cases h : k < xs.length
 · rw [if_pos (by omega), Int.toNat_natCast]; rfl
 · rw [if_neg (by omega), List.getElem?_eq_none (by omega)]; rfl
theorem at0 {α : Type} (x : α) (xs : List α) : atI (x :: xs) 0 = some x := atI_nat (k := 0)
theorem at1 {α : Type} (x y : α) (xs : List α) : atI (x :: y :: xs) 1 = some y := atI_nat (k := 1)
theorem at2 {α : Type} (x y z : α) (xs : List α) : atI (x :: y :: z :: xs) 2 = some z := atI_nat (k := 2)
theorem at3 {α : Type} (x y z w : α) (xs : List α) : atI (x :: y :: z :: w :: xs) 3 = some w := atI_nat (k := 3)
def setT {α : Type} (xs : List α) (i : Int) (a : α) : Option (List α) := (ixN xs.length i).bind fun n => some (xs.set n a)
theorem set_map {α : Type} (e : α → D) (xs : List α) (n : Nat) (a : α) : (xs.map e).set n (e a) = (xs.set n a).map e := List.map_set.symm
theorem cutD_map {α : Type} (e : α → D) (xs : List α) (lo hi : Option Int) : cutD (xs.map e) lo hi = (cutD xs lo hi).map e := by
 unfold cutD; rw [List.length_map, List.map_take, List.map_drop]
theorem sl_l {α : Type} (e : α → D) (xs : List α) (lo hi : Option Int) : dSl (.lst (xs.map e)) lo hi = some (.own (.lst ((cutD xs lo hi).map e))) := by
 show some (Rv.own (.lst (cutD (xs.map e) lo hi))) = _; rw [cutD_map]
theorem sl_t {α : Type} (e : α → D) (xs : List α) (lo hi : Option Int) : dSl (.tup (xs.map e)) lo hi = some (.val (.tup ((cutD xs lo hi).map e))) := by
 show some (Rv.val (.tup (cutD (xs.map e) lo hi))) = _; rw [cutD_map]
theorem len_l (xs : List D) : gLen [.lst xs] = some (.val (.int xs.length)) := rfl
theorem len_t (xs : List D) : gLen [.tup xs] = some (.val (.int xs.length)) := rfl
theorem len_s (xs : List Int) : gLen [.scr xs] = some (.val (.int xs.length)) := rfl
theorem int_i (i : Int) : gInt [.int i] = some (.val (.int i)) := rfl
theorem int_b (b : Bool) : gInt [.bl b] = some (.val (.int (if b then 1 else 0))) := rfl
theorem max_ii (i j : Int) : gMax2 [.int i, .int j] = some (.val (.int (if j > i then j else i))) := rfl
theorem min_ii (i j : Int) : gMin2 [.int i, .int j] = some (.val (.int (if j < i then j else i))) := rfl
theorem list_l (xs : List D) : gList [.lst xs] = some (.own (.lst xs)) := rfl
theorem list_t (xs : List D) : gList [.tup xs] = some (.own (.lst xs)) := rfl
theorem list_s {α : Type} (e : α → D) (xs : Bool × List α) : gList [eSq e xs] = some (.own (.lst (xs.2.map e))) := by unfold eSq; split <;> rfl
theorem tuple_l (xs : List D) : gTuple [.lst xs] = some (.val (.tup xs)) := rfl
theorem tuple_t (xs : List D) : gTuple [.tup xs] = some (.val (.tup xs)) := rfl
theorem tuple_s {α : Type} (e : α → D) (xs : Bool × List α) : gTuple [eSq e xs] = some (.val (.tup (xs.2.map e))) := by unfold eSq; split <;> rfl
theorem sorted_i (ns : List Int) : gSorted [.lst (ns.map .int)] = some (.own (.lst ((sortI ns).map .int))) := by
 show (asInts (ns.map D.int)).bind _ = _; rw [asInts_map]; rfl
theorem maxL_i (ns : List Int) : gMaxL [.lst (ns.map .int)] = (lMax ns).bind fun m => some (.val (.int m)) := by
 show (asInts (ns.map D.int)).bind _ = _; rw [asInts_map]; show (lMax ns).map _ = _; cases lMax ns <;> rfl
theorem minL_i (ns : List Int) : gMinL [.lst (ns.map .int)] = (lMin ns).bind fun m => some (.val (.int m)) := by
 show (asInts (ns.map D.int)).bind _ = _; rw [asInts_map]; show (lMin ns).map _ = _; cases lMin ns <;> rfl
theorem sum_i (ns : List Int) : gSum [.lst (ns.map .int)] = some (.val (.int ns.sum)) := by
 show (asInts (ns.map D.int)).bind _ = _; rw [asInts_map]; rfl
theorem all_b (ns : List Bool) : gAll [.lst (ns.map .bl)] = some (.val (.bl (ns.all id))) := by
 show (asBools (ns.map D.bl)).bind _ = _; rw [asBools_map]; rfl
theorem any_b (ns : List Bool) : gAny [.lst (ns.map .bl)] = some (.val (.bl (ns.any id))) := by
 show (asBools (ns.map D.bl)).bind _ = _; rw [asBools_map]; rfl
theorem isi_eq (d : D) (t : String) : gIsi [d, .ty t] = ((tyNm d).bind fun a => isLook a t).bind fun b => some (.val (.bl b)) := by
 show ((tyNm d).bind fun a => isLook a t).map _ = _; cases ((tyNm d).bind fun a => isLook a t) <;> rfl
theorem ty_n : tyNm .non = some "NoneType" := rfl
theorem ty_b (b : Bool) : tyNm (.bl b) = some "bool" := rfl
theorem ty_i (b : Int) : tyNm (.int b) = some "int" := rfl
theorem ty_s (b : Str) : tyNm (.str b) = some "str" := rfl
theorem ty_l (b : List D) : tyNm (.lst b) = some "list" := rfl
theorem ty_t (b : List D) : tyNm (.tup b) = some "tuple" := rfl
theorem il_ii : isLook "int" "int" = some true := by decide +kernel
theorem il_ib : isLook "int" "bool" = some false := by decide +kernel
theorem il_it : isLook "int" "tuple" = some false := by decide +kernel
theorem il_il : isLook "int" "list" = some false := by decide +kernel
theorem il_bb : isLook "bool" "bool" = some true := by decide +kernel
theorem il_bi : isLook "bool" "int" = some true := by decide +kernel
theorem il_bl : isLook "bool" "list" = some false := by decide +kernel
theorem il_bt : isLook "bool" "tuple" = some false := by decide +kernel
theorem il_ll : isLook "list" "list" = some true := by decide +kernel
theorem il_lt : isLook "list" "tuple" = some false := by decide +kernel
theorem il_li : isLook "list" "int" = some false := by decide +kernel
theorem il_lb : isLook "list" "bool" = some false := by decide +kernel
theorem il_tt : isLook "tuple" "tuple" = some true := by decide +kernel
theorem il_tl : isLook "tuple" "list" = some false := by decide +kernel
theorem il_ti : isLook "tuple" "int" = some false := by decide +kernel
theorem il_tb : isLook "tuple" "bool" = some false := by decide +kernel
theorem il_ss : isLook "str" "str" = some true := by decide +kernel
theorem il_si : isLook "str" "int" = some false := by decide +kernel
theorem il_sb : isLook "str" "bool" = some false := by decide +kernel
theorem il_ni : isLook "NoneType" "int" = some false := by decide +kernel
theorem il_nb : isLook "NoneType" "bool" = some false := by decide +kernel
theorem il_nl : isLook "NoneType" "list" = some false := by decide +kernel
theorem il_nt : isLook "NoneType" "tuple" = some false := by decide +kernel
section
variable {α β δ : Type} {ea : α → D} {eb : β → D} {ed : δ → D} {tg tg1 : D → List S → Option (List S)} {it1 : M (List D)} {te : M Rv} {vs vs1 : List Nat} {ρ : List S}
theorem cps_lc2 {γ : Type} {it it1 : M (List D)} {tt tt1 : M Bool} {kx : Xn → List S → Option γ} {k : Rv → List S → Option γ} : cps (eLc2 it tg tt it1 tg1 tt1 te vs vs1) ρ kx k = cps it ρ kx fun ds ρ1 => if noOwn ρ1 vs = true then cps (lcO tg tt it1 tg1 tt1 te vs vs1 ds []) ρ1 kx fun acc ρ2 => k (.own (.lst acc)) ρ2 else none := by
 unfold eLc2; refine (cps_bind _ _ k).trans ?_
 congr 1; funext ds ρ1
 refine (cps_bind _ _ k).trans ?_
 exact cps_no (f := lcO tg tt it1 tg1 tt1 te vs vs1 ds [])
end
end Tl
namespace Dl
open PySem L2
open PySem.Spec PyProof.Rows
section
variable {X : Cx} {W : WX} {np : Nat} {a b e tg : Expr} {es : List Expr} {fa fb fe : M Rv} {la : M (List Rv)} {pos p p2 tpos : Pos} {k nq : Nat} {fn : Fn}
def sAug (i : Nat) (g : D → D → Option Rv) (fe : M Rv) : MS := thenS (eVar i) fun x => thenS fe fun y => thenS (peek (settle x)) fun d => thenS (peek y) fun e => thenS (ofO (g d e)) fun r => match r with
 | .val d => fun ρ => some (.nx (ρ.set i (.val d)))
 | _ => sNever
structure DDun (P : Program) (w : World) (K : PySem.W.Frag) (mg : Str → Option Value) (base : Heap) (n m : Str) (k np : Nat) (fn : Fn) : Prop where
 len : ∀ ss o, fn ss = some o → ss.length = np
 cl : Cls K (He.ga K n)
 ex : ∃ (f : Addr) (fd : FuncData) (ps : List Str), Meth K (He.ga K n) m f ∧ PySem.W.fnIn K f = true ∧ Binds K fd ps [] ∧ FnOk P w K mg base (L2.CX P w) k f fd ps (spD K np fn)
theorem DDun.up {P : Program} {w : World} {K : PySem.W.Frag} {mg : Str → Option Value} {base : Heap} {n m : Str} {j k np : Nat} {fn : Fn} (F : DDun P w K mg base n m j np fn) (h : j ≤ k) : DDun P w K mg base n m k np fn :=
 let ⟨f, fd, ps, h1, h2, h3, h4⟩ := F.ex; ⟨F.len, F.cl, f, fd, ps, h1, h2, h3, h4.mono h⟩
def eOwnIx (n : Str) (mu : List Bool) (fn : Fn) (fo fb : M Rv) : M Rv := do
 let r ← fo
 let q ← fb
 ckC n (settle r)
 callM mu fn [settle r, settle q]
def eOwnCall (n : Str) (mu : List Bool) (fn : Fn) (fo : M Rv) (la : M (List Rv)) : M Rv := do
 let r ← fo
 ckC n (settle r)
 let rs ← la
 ckC n (settle r)
 callM mu fn (settle r :: rs)
def eLRg (fo : M Rv) : M Rv := do
 let r ← fo
 let d ← peek r
 match d with
 | .int n => if rngOk 0 n = true then pure (.own (.lst (rangeD 0 n.toNat))) else M.fail
 | _ => M.fail
theorem rgV_rp {K : PySem.W.Frag} {G : Hp} {n : Int} : RpL K G (rangeD 0 n.toNat) (rgV 0 n) := by
 have e1 : rgV 0 n = ((List.range n.toNat).map fun (k : Nat) => (0 : Int) + (k : Int)).map V.int := by
  unfold rgV; rw [List.map_map, Int.sub_zero]; rfl
 have e2 : rangeD 0 n.toNat = ((List.range n.toNat).map fun (k : Nat) => (0 : Int) + (k : Int)).map D.int := by
  unfold rangeD; rw [List.map_map]; rfl
 rw [e1, e2]; exact RpL.ints
theorem de_lrg (go : Go X W) (hg : Gl X "list" := by exact rfl) (hm : X.mg "list" = none) (hg2 : Gl X "range" := by exact rfl) (hm2 : X.mg "range" = none) (ha : DE X W a fa)
  (na : starEach [a] X.env = (false, eval a X.env) :: starEach [] X.env := by rfl) (nb : starEach [.Call (.Name "range" p2) [a] [] tpos] X.env = (false, eval (.Call (.Name "range" p2) [a] [] tpos) X.env) :: starEach [] X.env := by rfl) :
  DE X W (.Call (.Name "list" p) [.Call (.Name "range" p2) [a] [] tpos] [] pos) (eLRg fa) :=
 ⟨(pe_listRg go.calm hg hm (prg_1 hg2 hm2 ha.pe na) nb).weak fun σ H Q ⟨c, G, ρ, R, w⟩ => by
  refine tg_step R (Same.refl G) w fun r ρ1 v G1 H1 R1 s1 _ k1 w1 => ?_
  obtain ⟨d, kd, w2⟩ := peek_wp R1 k1 (wpM_bind w1)
  cases d with
  | int n =>
   dsimp only at w2
   by_cases ho : rngOk 0 n = true
   · rw [if_pos ho] at w2
     obtain ⟨h1, h2, h3, h4⟩ := of_decide_eq_true ho
     refine ⟨n, kd.int, ⟨by omega, by omega, by omega, ?_, by omega⟩, fun q hq => ?_⟩
     · omega
     · obtain ⟨R', kk⟩ := R1.new_own hq (rgV_rp (K := X.K) (G := G1) (n := n))
       exact w2 _ G1 _ R' s1 kk
   · rw [if_neg ho] at w2; exact w2.elim
  | _ => exact w2.elim⟩
end
def spIt (K : PySem.W.Frag) (n fld : Str) : Nat → Sp := fun m vs H Q _ => ∃ a dx fs b xs, vs = [.ref a] ∧ H a = some (.ins (He.ga K n) dx fs) ∧ fs.lookup fld = some (.ref b) ∧ SqL K H b xs ∧ ∀ p, H p = none → m ≤ p → Q (.ref p) (upd H p (ItO b p 0))
structure DIter (P : Program) (w : World) (K : PySem.W.Frag) (mg : Str → Option Value) (base : Heap) (n fld : Str) (k : Nat) : Prop where
 cl : Cls K (He.ga K n)
 ex : ∃ f : Addr, Meth K (He.ga K n) "__iter__" f ∧ ∀ (A : Around) (outer : List Env) (s : Shared) (H : Hp) (a : Addr) (Q : VK) (E : XK), Room k A → Env0 P w K mg base A outer s H → spIt K n fld s.heap.objs.size [.ref a] H Q E →
  codeAny (model P w) A (.call (.ref f) ⟨[.ref a], []⟩) (CR (L2.CX P w) outer P w H s Q E) s
theorem DIter.up {P : Program} {w : World} {K : PySem.W.Frag} {mg : Str → Option Value} {base : Heap} {n fld : Str} {j k : Nat} (F : DIter P w K mg base n fld j) (h : j ≤ k) : DIter P w K mg base n fld k :=
 let ⟨f, h1, h2⟩ := F.ex; ⟨F.cl, f, h1, fun A outer s H a Q E hr => h2 A outer s H a Q E (hr.mono h)⟩
section
variable {X : Cx} {W : WX} {np : Nat} {a b e tg : Expr} {es : List Expr} {fa fb fe : M Rv} {la : M (List Rv)} {pos p p2 tpos : Pos} {k nq : Nat} {fn : Fn}
def lstOf : D → Option (List D)
 | .lst xs => some xs
 | _ => none
def itFld (n fld : Str) : D → Option (List D)
 | .obj n' ns ds => if n' = n then (lkF fld ns ds).bind lstOf else none
 | _ => none
def iOwn (n fld : Str) (fa : M Rv) : M (List D) := do
 let r ← fa
 let d ← toV r
 ofO (itFld n fld d)
end
end Dl
namespace Dl
open PySem L2
open PySem.Spec PyProof.Rows
section
variable {X : Cx} {pins : List (Addr × Obj)} {σ : L2.St} {H : Hp} {s : Shared} {p b q : Addr} {ys : List V} {A1 : Around}
end
section
variable {X : Cx} {W : WX} {np : Nat} {a : Expr} {fa : M Rv} {pos p : Pos} {k : Nat}
def eLOwn (n fld : Str) (fa : M Rv) : M Rv := do
 let r ← fa
 let d ← toV r
 let ds ← ofO (itFld n fld d)
 pure (.own (.lst ds))
end
end Dl
namespace Dl
open PySem L2
def fzS : S → S
 | .own d => .val d
 | s => s
def frzA (ρ : List S) : List S := ρ.map fzS
def okS : S → Bool
 | .own (.lst _) => true
 | .own _ => false
 | _ => true
def ownL (ρ : List S) : Bool := ρ.all okS
def scaRv : Rv → Bool
 | .val (.int _) => true
 | .val (.bl _) => true
 | .val (.str _) => true
 | .val .non => true
 | _ => false
open Classical in
noncomputable def lent {α : Type} (ok : α → Bool) (f : M α) : M α := fun ρ => if ownL ρ = true then match f (frzA ρ) with
 | some (.ok b ρ') => if ρ' = frzA ρ ∧ ok b = true then some (.ok b ρ) else none
 | _ => none
 else none
open Classical in
noncomputable def lentG (G H : Hp) (σ : L2.St) (ρ : List S) : Hp := fun b => if ∃ (i : Nat) (d : D), ρ[i]? = some (S.own d) ∧ σ[i]? = some (some (V.ref b)) then H b else G b
section
variable {K : PySem.W.Frag} {c : Cn} {G G2 H H2 : Hp} {σ : L2.St} {ρ : List S}
theorem fzS_val {s : S} {d : D} (h : fzS s = .val d) : s = .val d ∨ s = .own d := by
 cases s <;> cases h
 · exact .inl rfl
 · exact .inr rfl
theorem fzS_own {s : S} {d : D} (h : fzS s = .own d) : False := by cases s <;> cases h
theorem lentG_own (R : Rst K c G H σ ρ) {i : Nat} {d : D} {a : Addr} (h1 : ρ[i]? = some (.own d)) (h2 : σ[i]? = some (some (.ref a))) : lentG G H σ ρ a = H a := if_pos ⟨i, d, h1, h2⟩
theorem lentG_same (R : Rst K c G H σ ρ) : Same G (lentG G H σ ρ) := fun a o e => by
 unfold lentG
 split
 · rename_i h
   obtain ⟨i, d, h1, h2⟩ := h
   obtain ⟨b, e1, e2, _⟩ := R.own i d h1
   rw [h2] at e1; cases e1
   rw [e2] at e; cases e
 · exact e
theorem Rst.lend (R : Rst K c G H σ ρ) (hl : ownL ρ = true) : Rst K c (lentG G H σ ρ) H σ (frzA ρ) := by
 have nv : ∀ (i : Nat) (d : D), (frzA ρ)[i]? = some (.own d) → False := fun i d h => by
  unfold frzA at h
  rw [List.getElem?_map] at h
  obtain ⟨s, h1, h2⟩ := Option.map_eq_some_iff.mp h
  exact fzS_own h2
 refine ⟨R.fh, fun a o e => ?_, fun a o e => ?_, by unfold frzA; rw [List.length_map]; exact R.len, fun i d h => ?_, fun i d h => (nv i d h).elim, fun i j d e a h => (nv i d h).elim, fun i d h => (nv i d h).elim⟩
 · unfold lentG at e
   split at e
   · exact e
   · exact R.gh a o e
 · unfold lentG
   split
   · rename_i h
     obtain ⟨i, d, h1, h2⟩ := h
     obtain ⟨b, e1, e2, e3, _⟩ := R.own i d h1
     rw [h2] at e1; cases e1
     rw [e3] at e; cases e
   · exact R.fg a o e
 · unfold frzA at h
   rw [List.getElem?_map] at h
   obtain ⟨s, h1, h2⟩ := Option.map_eq_some_iff.mp h
   rcases fzS_val h2 with rfl | rfl
   · obtain ⟨v, e1, e2⟩ := R.val i d h1
     exact ⟨v, e1, e2.mono (lentG_same R)⟩
   · obtain ⟨a, e1, e2, e3, e4⟩ := R.own i d h1
     have ok : okS (.own d) = true := List.all_eq_true.mp hl _ (List.mem_of_getElem? h1)
     cases d with
     | lst ds =>
      obtain ⟨xs, h3, h4⟩ := e4
      exact ⟨.ref a, e1, a, xs, rfl, (lentG_own R h1 e1).trans h3, h4.mono (lentG_same R)⟩
     | _ => cases ok
theorem Rst.back (R : Rst K c G H σ ρ) (hl : ownL ρ = true) (R2 : Rst K c G2 H2 σ (frzA ρ)) (s : Same (lentG G H σ ρ) G2) : Rst K c G H2 σ ρ := by
 refine ⟨R2.fh, fun a o e => R2.gh _ _ (s _ _ (lentG_same R _ _ e)), R.fg, R.len, R.val, fun i d h => ?_, R.ne, R.par⟩
 obtain ⟨a, e1, e2, e3, e4⟩ := R.own i d h
 refine ⟨a, e1, e2, e3, ?_⟩
 have ok : okS (.own d) = true := List.all_eq_true.mp hl _ (List.mem_of_getElem? h)
 cases d with
 | lst ds =>
  obtain ⟨xs, h3, h4⟩ := e4
  exact ⟨xs, R2.gh _ _ (s _ _ ((lentG_own R h e1).trans h3)), h4⟩
 | _ => cases ok
theorem tg_lent {α β : Type} {W : WX} {rep : Cn → Hp → Hp → L2.St → List S → β → α → Prop} {ok : α → Bool} {f : M α} {Q : β → Hp → Prop} (hr : ∀ {c G G' H ρ ρ' b a}, ok a = true → rep c G H σ ρ b a → rep c G' H σ ρ' b a) (h : tg K W rep (lent ok f) σ H Q) : tg K W rep f σ H Q := by
 obtain ⟨c, G, ρ, R, w⟩ := h
 unfold lent at w
 by_cases hl : ownL ρ = true
 · rw [if_pos hl] at w
   refine ⟨c, lentG G H σ ρ, frzA ρ, R.lend hl, ?_⟩
   cases q : f (frzA ρ) with
   | none => rw [q] at w; exact w
   | some o =>
    rw [q] at w
    cases o with
    | ex e ρ' => exact w.elim
    | ok b ρ' =>
     dsimp only at w
     by_cases he : ρ' = frzA ρ ∧ ok b = true
     · rw [if_pos he] at w
       intro v G' H' R' s' r
       rw [he.1] at R'
       exact w v G H' (R.back hl R' s') (Same.refl G) (hr he.2 r)
     · rw [if_neg he] at w; exact w.elim
 · rw [if_neg hl] at w; exact w.elim
end
section
variable {X : Cx} {W : WX} {e : Expr} {f : M Bool} {g : M Rv}
theorem dt_lent (h : DT X W e f) : DT X W e (lent (fun _ => true) f) := ⟨h.pt.weak fun σ H Q q => tg_lent (fun _ r => r) q⟩
end
end Dl
namespace Dl
open PySem L2
open Classical in
noncomputable def forLO (i : Nat) (all : List D) (tg : D → List S → Option (List S)) (body : MS) : List D → MS
 | [], ρ => if ρ[i]? = some (.own (.lst all)) then some (.nx ρ) else none
 | d :: ds, ρ => if ρ[i]? = some (.own (.lst all)) then match tg d ρ with
  | none => none
  | some ρ1 => match body ρ1 with
   | some (.nx ρ') => forLO i all tg body ds ρ'
   | some (.ct ρ') => forLO i all tg body ds ρ'
   | some (.bk ρ') => some (.nx ρ')
   | o => o
  else none
section
variable {X : Cx} {W : WX} {np : Nat} {tg : Expr} {sts : List Stmt} {pos p : Pos} {x : Str} {g : D → List S → Option (List S)} {body : MS}
end
def Os.st : Os → List S
 | .nx ρ => ρ
 | .bk ρ => ρ
 | .ct ρ => ρ
 | .rt _ ρ => ρ
 | .ex _ ρ => ρ
section
variable {K : PySem.W.Frag} {c : Cn} {G H : Hp} {σ : L2.St} {ρ : List S}
variable {X : Cx} {W : WX} {np np' : Nat} {s : Stmt} {f : MS}
end
end Dl
namespace Dl
open PySem L2
section
variable {K : PySem.W.Frag} {c : Cn} {FA G H : Hp} {σ : L2.St} {ρ : List S} {A : Ar} {v : V} {ds : List D}
end
structure DAA (X : Cx) (es : List Expr) (w : MEA (List Rv)) : Prop where
 pa : PA X es (tgA X.K (repA X.K) w)
section
variable {X : Cx} {W : WX} {np k : Nat} {x : Str} {a b o e : Expr} {es : List Expr} {fa fe f : M Rv} {wa wo we wi : MEA Rv} {wr : MEA (List Rv)} {pos p : Pos} {fn : Fn}
end
end Dl
namespace Dl
open PySem L2
def popAtD (p : Nat × List D) (d : D) (ρ : List S) : Option (Ot Rv) := match d with
 | .int n => if 0 ≤ n ∧ n < 2 ^ 62 then match p.2[n.toNat]? with
   | some e => some (.ok (.val e) (ρ.set p.1 (.own (.lst (p.2.eraseIdx n.toNat)))))
   | none => none
  else none
 | _ => none
def mPopAt (fo fa : M Rv) : M Rv := do
 let r ← fo
 ckL (settle r)
 let x ← fa
 let d ← peek (settle x)
 fun ρ => match ownLst (settle r) ρ with
  | some p => popAtD p d ρ
  | none => none
def insD (p : Nat × List D) (d e : D) (ρ : List S) : Option (Ot Rv) := match d with
 | .int n => if 0 ≤ n ∧ n < 2 ^ 62 ∧ p.2.length < sizeLine then some (.ok (.val .non) (ρ.set p.1 (.own (.lst (p.2.take n.toNat ++ [e] ++ p.2.drop n.toNat))))) else none
 | _ => none
def insK (r x y : Rv) : M Rv := do
 let d ← peek (settle x)
 let e ← toV (settle y)
 fun ρ => match ownLst (settle r) ρ with
  | some p => insD p d e ρ
  | none => none
def insA (r : Rv) : List Rv → M Rv
 | [x, y] => insK r x y
 | _ => M.fail
def mInsert (fo : M Rv) (ga : M (List Rv)) : M Rv := do
 let r ← fo
 ckL (settle r)
 let xs ← ga
 insA r xs
def isLst : D → Bool
 | .lst _ => true
 | _ => false
def gIndex (d e : D) : Option Rv := match d with
 | .lst ds => if ds.all flD = true ∧ flD e = true then (ds.findIdx? fun z => feq z e).map fun j => .val (.int (j : Nat)) else none
 | _ => none
def ckLv (r : Rv) : M Unit := do
 let d ← peek r
 if isLst d = true then pure () else M.fail
def mIndex (fo fa : M Rv) : M Rv := do
 let r ← fo
 ckLv (settle r)
 let x ← fa
 let e ← peek (settle x)
 let d ← peek (settle r)
 ofO (gIndex d e)
theorem RpL.eraseIdx {K : PySem.W.Frag} {G : Hp} : ∀ {ds : List D} {xs : List V} (i : Nat), RpL K G ds xs → RpL K G (ds.eraseIdx i) (xs.eraseIdx i)
 | [], _, i, h => by cases h; simp [RpL]
 | d :: ds, _, 0, ⟨x, r, h1, h2, h3⟩ => by subst h1; exact h3
 | d :: ds, _, i + 1, ⟨x, r, h1, h2, h3⟩ => by subst h1; exact ⟨x, r.eraseIdx i, rfl, h2, h3.eraseIdx i⟩
section
variable {X : Cx} {W : WX} {np : Nat} {o e e2 a b : Expr} {fo fa fb : M Rv} {ga : M (List Rv)} {pos apos cpos p : Pos}
end
end Dl
namespace Tl
open PySem Dl
open L2 (ixN atI)
section
variable {γ : Type} {ρ : List S} {kx : Xn → List S → Option γ} {fa fb fe : M Rv} {la : M (List Rv)}
def augK (i : Nat) : Rv → MS
 | .val d => fun ρ => some (.nx (ρ.set i (.val d)))
 | _ => sNever
theorem augK_v (i : Nat) (d : D) : augK i (.val d) ρ = some (.nx (ρ.set i (.val d))) := rfl
theorem sAug_eq (i : Nat) (g : D → D → Option Rv) : sAug i g fe ρ = cps (eVar i) ρ (fun e ρ => some (.ex e ρ)) fun x ρ => cps fe ρ (fun e ρ => some (.ex e ρ)) fun y ρ => cps (peek (Dl.settle x)) ρ (fun e ρ => some (.ex e ρ)) fun d ρ => cps (peek y) ρ (fun e ρ => some (.ex e ρ)) fun e ρ => (g d e).bind fun r => augK i r ρ := by
 unfold sAug
 rw [thenS_eq]; congr 1; funext x ρ
 rw [thenS_eq]; congr 1; funext y ρ
 rw [thenS_eq]; congr 1; funext d ρ
 rw [thenS_eq]; congr 1; funext e ρ
 rw [thenS_eq, cps_ofO]
 congr 1
theorem gadd_ii (i j : Int) : (gII fun i j => .int (i + j)) (.int i) (.int j) = some (.val (.int (i + j))) := rfl
theorem gsub_ii (i j : Int) : (gII fun i j => .int (i - j)) (.int i) (.int j) = some (.val (.int (i - j))) := rfl
theorem gmul_ii (i j : Int) : (gIIc mulOk fun i j => .int (i * j)) (.int i) (.int j) = (gb (mulOk i j)).bind fun _ => some (.val (.int (i * j))) := mul_ii i j
theorem cps_ownIx (n : Str) (mu : List Bool) (fn : Fn) (k : Rv → List S → Option γ) : cps (eOwnIx n mu fn fa fb) ρ kx k = cps fa ρ kx fun r ρ1 => cps fb ρ1 kx fun q ρ2 => cps (ckC n (Dl.settle r)) ρ2 kx fun _ ρ3 => cps (callM mu fn [Dl.settle r, Dl.settle q]) ρ3 kx k := by
 unfold eOwnIx; simp only [cps_bind]
theorem cps_ownCall (n : Str) (mu : List Bool) (fn : Fn) (k : Rv → List S → Option γ) : cps (eOwnCall n mu fn fa la) ρ kx k = cps fa ρ kx fun r ρ1 => cps (ckC n (Dl.settle r)) ρ1 kx fun _ ρ2 => cps la ρ2 kx fun rs ρ3 => cps (ckC n (Dl.settle r)) ρ3 kx fun _ ρ4 => cps (callM mu fn (Dl.settle r :: rs)) ρ4 kx k := by
 unfold eOwnCall; simp only [cps_bind]
theorem cps_lrg (k : Rv → List S → Option γ) : cps (eLRg fa) ρ kx k = cps fa ρ kx fun r ρ1 => cps (peek r) ρ1 kx fun d ρ2 => (ofI d).bind fun n => (rngT n).bind fun xs => k (.own (.lst (xs.map D.int))) ρ2 := by
 unfold eLRg; simp only [cps_bind]
 congr 1; funext r ρ1; congr 1; funext d ρ2
 cases d with
 | int n =>
  dsimp only [ofI, Option.bind]
  unfold rngT
  by_cases h : rngOk 0 n = true
  · rw [if_pos h, if_pos h, cps_pure, rangeD_eq]
  · rw [if_neg h, if_neg h]; rfl
 | _ => rfl
theorem cps_iOwn (n fld : Str) (k : List D → List S → Option γ) : cps (iOwn n fld fa) ρ kx k = cps fa ρ kx fun r ρ1 => cps (toV r) ρ1 kx fun d ρ2 => (itFld n fld d).bind fun ds => k ds ρ2 := by
 unfold iOwn; simp only [cps_bind, cps_ofO]
theorem cps_lOwn (n fld : Str) (k : Rv → List S → Option γ) : cps (eLOwn n fld fa) ρ kx k = cps fa ρ kx fun r ρ1 => cps (toV r) ρ1 kx fun d ρ2 => (itFld n fld d).bind fun ds => k (.own (.lst ds)) ρ2 := by
 unfold eLOwn; simp only [cps_bind, cps_ofO, cps_pure]
open Classical in
noncomputable def lentK {α : Type} (ok : α → Bool) (ρ : List S) (b : α) (ρ' : List S) (k : α → List S → Option γ) : Option γ := if ρ' = frzA ρ ∧ ok b = true then k b ρ else none
theorem cps_lent {α : Type} (ok : α → Bool) (f : M α) (k : α → List S → Option γ) : cps (lent ok f) ρ kx k = (gb (ownL ρ)).bind fun _ => cps f (frzA ρ) (fun _ _ => none) fun b ρ' => lentK ok ρ b ρ' k := by
 unfold lent gb cps lentK
 dsimp only
 by_cases h : ownL ρ = true
 · rw [if_pos h, if_pos h, Option.bind_some]
   cases f (frzA ρ) with
   | none => rfl
   | some o =>
    cases o with
    | ex e ρ' => rfl
    | ok b ρ' =>
     dsimp only
     by_cases he : ρ' = frzA ρ ∧ ok b = true
     · rw [if_pos he, if_pos he]
     · rw [if_neg he, if_neg he]
 · rw [if_neg h, if_neg h]; rfl
open Classical in
theorem lentK_eq {α : Type} (ok : α → Bool) (ρ ρ' : List S) (b : α) (k : α → List S → Option γ) : lentK ok ρ b ρ' k = if ρ' = frzA ρ ∧ ok b = true then k b ρ else none := rfl
theorem lent_and : (True ∧ True) = True := and_self True
theorem scaRv_i (i : Int) : scaRv (.val (.int i)) = true := rfl
theorem scaRv_b (b : Bool) : scaRv (.val (.bl b)) = true := rfl
theorem frzA_n : frzA [] = [] := rfl
theorem frzA_c (s : S) (ρ : List S) : frzA (s :: ρ) = fzS s :: frzA ρ := rfl
theorem fzS_n : fzS .no = .no := rfl
theorem fzS_v (d : D) : fzS (.val d) = .val d := rfl
theorem fzS_o (d : D) : fzS (.own d) = .val d := rfl
theorem ownL_n : ownL [] = true := rfl
theorem ownL_no (ρ : List S) : ownL (.no :: ρ) = ownL ρ := rfl
theorem ownL_v (d : D) (ρ : List S) : ownL (.val d :: ρ) = ownL ρ := rfl
theorem ownL_o (xs : List D) (ρ : List S) : ownL (.own (.lst xs) :: ρ) = ownL ρ := rfl
end
end Tl
namespace Tl
open PySem Dl
open L2 (ixN atI)
mutual
inductive QT where
 | fin (n : Int) | ask (p : Int) (bs : QTs)
inductive QTs where
 | nil | cons (c : List Int) (t : QT) (r : QTs)
end
def QTs.l : QTs → List (List Int × QT)
 | .nil => []
 | .cons c t r => (c, t) :: r.l
def QTs.of : List (List Int × QT) → QTs
 | [] => .nil
 | p :: r => .cons p.1 p.2 (QTs.of r)
theorem QTs.l_of : ∀ bs, (QTs.of bs).l = bs
 | [] => rfl
 | p :: r => by unfold QTs.of QTs.l; rw [QTs.l_of r]
theorem QTs.of_l : ∀ bs : QTs, QTs.of bs.l = bs
 | .nil => rfl
 | .cons c t r => by unfold QTs.l QTs.of; rw [QTs.of_l r]
mutual
def e_tree : QT → D
 | .fin n => .tup [.str "end", .int n]
 | .ask p bs => .tup [.str "ask", .int p, .tup (e_trees bs)]
def e_trees : QTs → List D
 | .nil => []
 | .cons c t r => .tup [.tup (List.map D.int c), e_tree t] :: e_trees r
end
theorem e_trees_l : ∀ bs : QTs, e_trees bs = List.map (fun x => D.tup [D.tup (List.map D.int x.1), e_tree x.2]) bs.l
 | .nil => rfl
 | .cons c t r => by unfold e_trees QTs.l; rw [List.map_cons, e_trees_l r]
def QT.tag : QT → Str
 | .fin _ => "end"
 | .ask _ _ => "ask"
def QT.num : QT → Int
 | .fin n => n
 | .ask p _ => p
def QT.brs : QT → Option (List (List Int × QT))
 | .fin _ => none
 | .ask _ bs => some bs.l
section
theorem e_tree_fin (n : Int) : e_tree (.fin n) = .tup [.str "end", .int n] := by unfold e_tree; rfl
theorem e_tree_a (p : Int) (bs : QTs) : e_tree (.ask p bs) = .tup [.str "ask", .int p, .tup (e_trees bs)] := by rw [e_tree]
theorem e_tree_ask (p : Int) (bs : List (List Int × QT)) : e_tree (.ask p (QTs.of bs)) = .tup [.str "ask", .int p, .tup (List.map (fun x => D.tup [D.tup (List.map D.int x.1), e_tree x.2]) bs)] := by
 rw [e_tree_a, e_trees_l, QTs.l_of]
theorem ix_tree0 (t : QT) : dIx (e_tree t) (.int 0) = some (.val (.str t.tag)) := by
 cases t <;> unfold e_tree <;> rfl
theorem ix_tree1 (t : QT) : dIx (e_tree t) (.int 1) = some (.val (.int t.num)) := by
 cases t <;> unfold e_tree <;> rfl
theorem ix_tree2 (t : QT) : dIx (e_tree t) (.int 2) = t.brs.bind fun bs => some (.val (.tup (List.map (fun x => D.tup [D.tup (List.map D.int x.1), e_tree x.2]) bs))) := by
 cases t with
 | fin n => unfold e_tree; rfl
 | ask p bs => rw [e_tree_a, e_trees_l]; rfl
theorem len_tree (t : QT) : scaD (e_tree t) = false := by cases t <;> unfold e_tree <;> rfl
end
mutual
def QT.dec : (a b : QT) → Decidable (a = b)
 | .fin n, .fin m => if h : n = m then .isTrue (by rw [h]) else .isFalse (by intro z; cases z; exact h rfl)
 | .fin _, .ask _ _ => .isFalse (by intro z; cases z)
 | .ask _ _, .fin _ => .isFalse (by intro z; cases z)
 | .ask p bs, .ask q cs => if h : p = q then (match QTs.dec bs cs with
  | .isTrue h2 => .isTrue (by rw [h, h2])
  | .isFalse h2 => .isFalse (by intro z; cases z; exact h2 rfl)) else .isFalse (by intro z; cases z; exact h rfl)
def QTs.dec : (a b : QTs) → Decidable (a = b)
 | .nil, .nil => .isTrue rfl
 | .nil, .cons _ _ _ => .isFalse (by intro z; cases z)
 | .cons _ _ _, .nil => .isFalse (by intro z; cases z)
 | .cons c t r, .cons c' t' r' => if h : c = c' then (match QT.dec t t', QTs.dec r r' with
  | .isTrue h2, .isTrue h3 => .isTrue (by rw [h, h2, h3])
  | .isFalse h2, _ => .isFalse (by intro z; cases z; exact h2 rfl)
  | _, .isFalse h3 => .isFalse (by intro z; cases z; exact h3 rfl)) else .isFalse (by intro z; cases z; exact h rfl)
end
instance : DecidableEq QT := QT.dec
end Tl
namespace Tl
open PySem Dl
open L2 (ixN atI)
section
variable {α β : Type} [DecidableEq α] {e : α → D} {p : α → PyData} {n : Nat}
theorem eqS {a b : Str} (ha : PyData.strOk a = true) (hb : PyData.strOk b = true) : dEqB (.str a) (.str b) = some (decide (a = b)) := by
 have e : PyData.eqv (.str a) (.str b) = decide (a = b) := by simp only [PyData.eqv]; rw [Bool.eq_iff_iff, beq_iff_eq, decide_eq_true_eq]
 unfold dEqB; simp [toP, SeqAt.shaped, PyData.canLay0, PyData.depth, ha, hb, e]
theorem eq_ok' {a b : Str} (ha : PyData.strOk a = true) (hb : PyData.strOk b = true) : dEq (.str a) (.str b) = some (.val (.bl (decide (a = b)))) := by unfold dEq; rw [eqS ha hb]; rfl
theorem ne_ok' {a b : Str} (ha : PyData.strOk a = true) (hb : PyData.strOk b = true) : dNe (.str a) (.str b) = some (.val (.bl (!decide (a = b)))) := by unfold dNe; rw [eqS ha hb]; rfl
theorem ok_end : PyData.strOk "end" = true := by decide +kernel
theorem ok_ask : PyData.strOk "ask" = true := by decide +kernel
theorem ok_tag (t : QT) : PyData.strOk t.tag = true := by cases t <;> first | exact ok_end | exact ok_ask
theorem eq_tag_end (t : QT) : dEq (.str (QT.tag t)) (.str "end") = some (.val (.bl (decide (QT.tag t = "end")))) := eq_ok' (ok_tag t) ok_end
theorem eq_tag_ask (t : QT) : dEq (.str (QT.tag t)) (.str "ask") = some (.val (.bl (decide (QT.tag t = "ask")))) := eq_ok' (ok_tag t) ok_ask
theorem ne_tag_end (t : QT) : dNe (.str (QT.tag t)) (.str "end") = some (.val (.bl (!decide (QT.tag t = "end")))) := ne_ok' (ok_tag t) ok_end
theorem ne_tag_ask (t : QT) : dNe (.str (QT.tag t)) (.str "ask") = some (.val (.bl (!decide (QT.tag t = "ask")))) := ne_ok' (ok_tag t) ok_ask
def optP (p : α → PyData) : Option α → PyData
 | none => .none
 | some a => p a
def NotN (p : α → PyData) : Prop := ∀ a, PyData.eqv .none (p a) = false ∧ PyData.eqv (p a) .none = false
theorem PD.opt (h : PD e p n) (hn : NotN p) : PD (eO e) (optP p) n := ⟨fun a => by cases a <;> first | exact h.to _ | (unfold eO toP; rfl), fun a => by cases a <;> first | exact h.lay _ | (unfold optP; simp [PyData.canLay0]), fun a => by cases a <;> first | exact h.dep _ | (unfold optP; simp [PyData.depth]), fun a b => by
 cases a with
 | none => cases b with
  | none => unfold optP; simp [PyData.eqv]
  | some b => unfold optP; rw [(hn b).1]; simp
 | some a => cases b with
  | none => unfold optP; rw [(hn a).2]; simp
  | some b => unfold optP; rw [h.eqv]; simp⟩
theorem nn_int : NotN PyData.int := fun a => ⟨by simp [PyData.eqv], by simp [PyData.eqv]⟩
theorem nn_lst {q : β → PyData} : NotN (fun xs : List β => PyData.list (xs.map q)) := fun a => ⟨by simp [PyData.eqv], by simp [PyData.eqv]⟩
theorem PD.eqO (h : PD e p n) (hn : NotN p) (hs : n ≤ 64) (a : Option α) (b : α) : dEq (eO e a) (e b) = some (.val (.bl (decide (a = some b)))) := (h.opt hn).eq hs a (some b)
theorem PD.neO2 (h : PD e p n) (hn : NotN p) (hs : n ≤ 64) (a : α) (b : Option α) : dNe (e a) (eO e b) = some (.val (.bl (!decide (some a = b)))) := (h.opt hn).ne hs (some a) b
theorem so_t (x : Option α) : (x.isSome && true) = x.isSome := Bool.and_true _
theorem so_f (x : Option α) : (x.isSome && false) = false := Bool.and_false _
end
theorem fldO_o (cs : List Str) (f n : Str) (ns : List Str) (ds : List D) : fldO cs f (.obj n ns ds) = if n ∈ cs then lkF f ns ds else none := rfl
section
variable {α β E γ : Type} {e : α → D} {e' : β → D} {st : E → List S} {tg : D → List S → Option (List S)} {tt : M Bool} {te : M Rv} {vs : List Nat} {kx : Xn → List S → Option γ}
end
theorem ite_same {α : Type} (c : Prop) [Decidable c] (a : α) : (if c then a else a) = a := ite_self a
def isNon : D → Bool
 | .non => true
 | _ => false
def unR : Rv → Bool
 | .val d => !isNon d
 | _ => false
def eUn (fa : M Rv) : M Rv := do
 let r ← fa
 if unR r = true then pure r else M.fail
section
variable {γ : Type} {ρ : List S} {kx : Xn → List S → Option γ} {fa : M Rv} {la : M (List Rv)} {lt : M (List Rv × List D)}
def unO : Rv → Option D
 | .val d => if isNon d = true then none else some d
 | _ => none
theorem cps_un (k : Rv → List S → Option γ) : cps (eUn fa) ρ kx k = cps fa ρ kx fun r ρ1 => (unO r).bind fun d => k (.val d) ρ1 := by
 unfold eUn; simp only [cps_bind, cps_ite, cps_pure, cps_fail]
 congr 1; funext r ρ1
 cases r with
 | val d =>
  by_cases h : isNon d = true
  · simp [unR, unO, h]
  · simp [unR, unO, h]
 | _ => rfl
theorem l1_o (ds : List D) : lstOf1 (.own (.lst ds)) = some ds := rfl
theorem cps_aTmpR (k : (List Rv × List D) → List S → Option γ) (rs : List Rv) (ds : List D) : cps (aTmpR rs ds) ρ kx k = k (.ali ρ.length :: rs, ds) ρ := rfl
theorem cps_aTmp (k : (List Rv × List D) → List S → Option γ) : cps (aTmp fa la) ρ kx k = cps fa ρ kx fun r ρ1 => (lstOf1 r).bind fun ds => cps la ρ1 kx fun rs ρ2 => k (.ali ρ2.length :: rs, ds) ρ2 := by
 unfold aTmp; simp only [cps_bind, cps_ofO, cps_aTmpR]
theorem cps_aConsT (k : (List Rv × List D) → List S → Option γ) : cps (aConsT fa lt) ρ kx k = cps fa ρ kx fun r ρ1 => cps lt ρ1 kx fun p ρ2 => k (Dl.settle r :: p.1, p.2) ρ2 := by
 unfold aConsT; simp only [cps_bind, cps_pure]
def tkK (r : Rv) (k : Rv → Option γ) : Option γ := match r with
 | .ali _ => none
 | r => k r
theorem tkK_v (d : D) (k : Rv → Option γ) : tkK (.val d) k = k (.val d) := rfl
theorem tkK_o (d : D) (k : Rv → Option γ) : tkK (.own d) k = k (.own d) := rfl
theorem tk_z (l : List S) : l.take 0 = [] := rfl
theorem tk_s (s : S) (l : List S) (n : Nat) : (s :: l).take (n + 1) = s :: l.take n := rfl
theorem cps_callT (mu : List Bool) (fn : Fn) (p : List Rv × List D) (k : Rv → List S → Option γ) : cps (callT mu fn p) ρ kx k = cps (callM mu fn p.1) (ρ ++ [.own (.lst p.2)]) (fun e ρ' => kx e (ρ'.take ρ.length)) fun r ρ' => tkK r fun r => k r (ρ'.take ρ.length) := by
 unfold callT cps
 dsimp only
 cases callM mu fn p.1 (ρ ++ [.own (.lst p.2)]) with
 | none => rfl
 | some o =>
  cases o with
  | ex e ρ' => rfl
  | ok r ρ' => cases r <;> rfl
theorem cps_eCallT (mu : List Bool) (fn : Fn) (k : Rv → List S → Option γ) : cps (eCallT mu fn lt) ρ kx k = cps lt ρ kx fun p ρ1 => cps (callT mu fn p) ρ1 kx k := by
 unfold eCallT; simp only [cps_bind]
end
section
variable {γ : Type} {ρ : List S} {kx : Xn → List S → Option γ} {la lk : M (List Rv)}
theorem cps_eCallK (n m : Nat) (mu : List Bool) (fn : Fn) (k : Rv → List S → Option γ) : cps (eCallK n m mu fn la lk) ρ kx k = cps la ρ kx fun rs ρ1 => cps lk ρ1 kx fun zs ρ2 => if rs.length = n ∧ zs.length = m then cps (callM mu fn (rs ++ zs)) ρ2 kx k else none := by
 unfold eCallK; simp only [cps_bind, cps_ite, cps_fail]
end
section
variable {γ : Type} {ρ : List S} {kx : Xn → List S → Option γ} {fa fb : M Rv}
theorem cps_dix (k : Rv → List S → Option γ) : cps (eDIx fa fb) ρ kx k = cps fa ρ kx fun x ρ1 => cps fb ρ1 kx fun y ρ2 => cps (peek (Dl.settle x)) ρ2 kx fun d ρ3 => cps (peek y) ρ3 kx fun e ρ4 => (dGetI d e).bind fun z => k (.val z) ρ4 := by
 unfold eDIx; simp only [cps_bind, cps_ofO, cps_pure]
end
end Tl
namespace Tl
open PySem Dl
open L2 (ixN atI)
abbrev W3 : Type := List (List (List Int))
def locs (n : Nat) (f : Nat → Addr) : List D := (List.range n).map fun j => D.loc (f j)
structure Row2 (A : Ar) (f : Nat → Addr) (rs : List (List Int)) : Prop where
 row : ∀ j r, rs[j]? = some r → (f j, r.map D.int) ∈ A
 inj : ∀ j j', j < rs.length → j' < rs.length → f j = f j' → j = j'
structure Nest (A : Ar) (k : Nat → Addr) (f : Nat → Nat → Addr) (W : W3) : Prop where
 node : ∀ i rs, W[i]? = some rs → (k i, locs rs.length (f i)) ∈ A
 row : ∀ i rs, W[i]? = some rs → ∀ j r, rs[j]? = some r → (f i j, r.map D.int) ∈ A
 inj : ∀ i rs j i' rs' j', W[i]? = some rs → j < rs.length → W[i']? = some rs' → j' < rs'.length → f i j = f i' j' → i = i' ∧ j = j'
 sep : ∀ i rs j i', W[i]? = some rs → j < rs.length → i' < W.length → f i j ≠ k i'
theorem Nest.nil (A : Ar) (k : Nat → Addr) (f : Nat → Nat → Addr) : Nest A k f [] := ⟨fun i rs h => by simp at h, fun i rs h => by simp at h, fun i rs j i' rs' j' h => by simp at h, fun i rs j i' h => by simp at h⟩
theorem mem_key {A : Ar} {a : Addr} {ds : List D} (h : (a, ds) ∈ A) : a ∈ keys A := List.mem_map.mpr ⟨_, h, rfl⟩
theorem Nest.more {A : Ar} {k : Nat → Addr} {f : Nat → Nat → Addr} {W : W3} (h : Nest A k f W) (B : Ar) : Nest (B ++ A) k f W := ⟨fun i rs e => List.mem_append_right _ (h.node i rs e), fun i rs e j r e' => List.mem_append_right _ (h.row i rs e j r e'), h.inj, h.sep⟩
theorem Row2.more {A : Ar} {f : Nat → Addr} {rs : List (List Int)} (h : Row2 A f rs) (B : Ar) : Row2 (B ++ A) f rs := ⟨fun j r e => List.mem_append_right _ (h.row j r e), h.inj⟩
theorem Row2.snoc {A : Ar} {f : Nat → Addr} {rs : List (List Int)} {b : Addr} {r : List Int} (h : Row2 A f rs) (hb : b ∉ keys A) : Row2 ((b, r.map D.int) :: A) (fun j => if j = rs.length then b else f j) (rs ++ [r]) := by
 have key : ∀ j, j < rs.length → f j ∈ keys A := fun j hj => mem_key (h.row j rs[j] (List.getElem?_eq_getElem hj))
 refine ⟨fun j r' e => ?_, fun j j' hj hj' e => ?_⟩
 · rcases ap_get e with e | ⟨e1, e2⟩
   · have hj := (List.getElem?_eq_some_iff.mp e).1
     rw [if_neg (by omega)]
     exact List.mem_cons_of_mem _ (h.row j r' e)
   · rw [if_pos e1, e2]; exact List.mem_cons_self
 · rw [List.length_append] at hj hj'
   have hj : j < rs.length + 1 := hj
   have hj' : j' < rs.length + 1 := hj'
   by_cases h1 : j = rs.length
   · by_cases h2 : j' = rs.length
     · omega
     · rw [if_pos h1, if_neg h2] at e
       exact absurd (key j' (by omega)) (e ▸ hb)
   · by_cases h2 : j' = rs.length
     · rw [if_neg h1, if_pos h2] at e
       exact absurd (key j (by omega)) (e ▸ hb)
     · rw [if_neg h1, if_neg h2] at e
       exact h.inj j j' (by omega) (by omega) e
theorem Nest.snoc {A : Ar} {k : Nat → Addr} {f : Nat → Nat → Addr} {W : W3} {g : Nat → Addr} {rs : List (List Int)} {b : Addr} (h : Nest A k f W) (hr : Row2 A g rs) (hb : b ∉ keys A)
  (s1 : ∀ i rs' j' j, W[i]? = some rs' → j' < rs'.length → j < rs.length → f i j' ≠ g j) (s2 : ∀ i j, i < W.length → j < rs.length → g j ≠ k i) :
  Nest ((b, locs rs.length g) :: A) (fun i => if i = W.length then b else k i) (fun i => if i = W.length then g else f i) (W ++ [rs]) := by
 have kg : ∀ j, j < rs.length → g j ∈ keys A := fun j hj => mem_key (hr.row j rs[j] (List.getElem?_eq_getElem hj))
 have kf : ∀ i rs' j, W[i]? = some rs' → j < rs'.length → f i j ∈ keys A := fun i rs' j e hj => mem_key (h.row i rs' e j rs'[j] (List.getElem?_eq_getElem hj))
 have get : ∀ {i : Nat} {rs' : List (List Int)}, (W ++ [rs])[i]? = some rs' → (i ≠ W.length ∧ W[i]? = some rs') ∨ (i = W.length ∧ rs' = rs) := fun {i rs'} e => by
  rcases ap_get e with e | e
  · exact .inl ⟨by have := (List.getElem?_eq_some_iff.mp e).1; omega, e⟩
  · exact .inr e
 refine ⟨fun i rs' e => ?_, fun i rs' e j r e' => ?_, fun i rs1 j i' rs2 j' e1 l1 e2 l2 q => ?_, fun i rs1 j i' e l l' => ?_⟩
 · rcases get e with ⟨hi, e⟩ | ⟨hi, e⟩
   · rw [if_neg hi, if_neg hi]; exact List.mem_cons_of_mem _ (h.node i rs' e)
   · subst e; rw [if_pos hi, if_pos hi]; exact List.mem_cons_self
 · rcases get e with ⟨hi, e⟩ | ⟨hi, e⟩
   · rw [if_neg hi]; exact List.mem_cons_of_mem _ (h.row i rs' e j r e')
   · subst e; rw [if_pos hi]; exact List.mem_cons_of_mem _ (hr.row j r e')
 · rcases get e1 with ⟨hi, d1⟩ | ⟨hi, d1⟩ <;> rcases get e2 with ⟨hi', d2⟩ | ⟨hi', d2⟩
   · rw [if_neg hi, if_neg hi'] at q; exact h.inj i rs1 j i' rs2 j' d1 l1 d2 l2 q
   · rw [d2] at l2; rw [if_neg hi, if_pos hi'] at q; exact absurd q (s1 i rs1 j j' d1 l1 l2)
   · rw [d1] at l1; rw [if_pos hi, if_neg hi'] at q; exact absurd q.symm (s1 i' rs2 j' j d2 l2 l1)
   · rw [d1] at l1; rw [d2] at l2; rw [if_pos hi, if_pos hi'] at q
     exact ⟨by omega, hr.inj j j' l1 l2 q⟩
 · rw [List.length_append] at l'
   have l' : i' < W.length + 1 := l'
   rcases get e with ⟨hi, e⟩ | ⟨hi, e⟩
   · by_cases h' : i' = W.length
     · rw [if_neg hi, if_pos h']; exact fun z => hb (z ▸ kf i rs1 j e l)
     · rw [if_neg hi, if_neg h']; exact h.sep i rs1 j i' e l (by omega)
   · subst e
     by_cases h' : i' = W.length
     · rw [if_pos hi, if_pos h']; exact fun z => hb (z ▸ kg j l)
     · rw [if_pos hi, if_neg h']; exact s2 i' j (by omega) l
theorem put_ne {A : Ar} {a b : Addr} {ds es : List D} (h : (b, es) ∈ A) (hn : b ≠ a) : (b, es) ∈ Ar.put A a ds := List.mem_map.mpr ⟨_, h, if_neg hn⟩
theorem put_eq {A : Ar} {a : Addr} {ds es : List D} (h : (a, es) ∈ A) : (a, ds) ∈ Ar.put A a ds := List.mem_map.mpr ⟨_, h, if_pos rfl⟩
theorem Nest.put {A : Ar} {k : Nat → Addr} {f : Nat → Nat → Addr} {W : W3} {p s : Nat} {rs : List (List Int)} {r r' : List Int} (h : Nest A k f W) (hp : W[p]? = some rs) (hs : rs[s]? = some r) : Nest (Ar.put A (f p s) (r'.map D.int)) k f (W.set p (rs.set s r')) := by
 have lp := (List.getElem?_eq_some_iff.mp hp).1
 have ls := (List.getElem?_eq_some_iff.mp hs).1
 have get : ∀ {i : Nat} {rs' : List (List Int)}, (W.set p (rs.set s r'))[i]? = some rs' → (i ≠ p ∧ W[i]? = some rs') ∨ (i = p ∧ rs' = rs.set s r') := fun {i rs'} e => by
  rw [List.getElem?_set] at e
  by_cases hi : p = i
  · rw [if_pos hi, if_pos lp] at e; exact .inr ⟨hi.symm, (Option.some.inj e).symm⟩
  · rw [if_neg hi] at e; exact .inl ⟨fun z => hi z.symm, e⟩
 have old : ∀ {i : Nat} {rs' : List (List Int)}, (W.set p (rs.set s r'))[i]? = some rs' → ∃ rs0, W[i]? = some rs0 ∧ rs0.length = rs'.length := fun {i rs'} e => by
  rcases get e with ⟨_, d⟩ | ⟨hi, d⟩
  · exact ⟨rs', d, rfl⟩
  · rw [hi, d]; exact ⟨rs, hp, by rw [List.length_set]⟩
 refine ⟨fun i rs' e => ?_, fun i rs' e j r1 e' => ?_, fun i rs1 j i' rs2 j' e1 l1 e2 l2 q => ?_, fun i rs1 j i' e l l' => ?_⟩
 · obtain ⟨rs0, e0, l0⟩ := old e
   rw [← l0]
   have li := (List.getElem?_eq_some_iff.mp e0).1
   exact put_ne (h.node i rs0 e0) fun z => h.sep p rs s i hp ls li z.symm
 · rcases get e with ⟨hi, d⟩ | ⟨hi, d⟩
   · have lj := (List.getElem?_eq_some_iff.mp e').1
     exact put_ne (h.row i rs' d j r1 e') fun z => hi (h.inj i rs' j p rs s d lj hp ls z).1
   · rw [d] at e'; clear d e; subst hi
     rw [List.getElem?_set] at e'
     by_cases hj : s = j
     · subst hj
       rw [if_pos rfl, if_pos ls] at e'
       cases e'
       exact put_eq (h.row i rs hp s r hs)
     · rw [if_neg hj] at e'
       have lj := (List.getElem?_eq_some_iff.mp e').1
       exact put_ne (h.row i rs hp j r1 e') fun z => hj (h.inj i rs j i rs s hp lj hp ls z).2.symm
 · obtain ⟨q1, a1, b1⟩ := old e1
   obtain ⟨q2, a2, b2⟩ := old e2
   exact h.inj i q1 j i' q2 j' a1 (by omega) a2 (by omega) q
 · obtain ⟨q1, a1, b1⟩ := old e
   rw [List.length_set] at l'
   exact h.sep i q1 j i' a1 (by omega) l'
end Tl
namespace My
open PySem Dl Tl
open L2 (ixN atI)
theorem sz20 : 2 ^ 20 < sizeLine := by rw [PySem.sizeLine_eq]; decide
theorem gz_ok {n : Nat} (h : n ≤ 2 ^ 20) : gz n = some () := if_pos (by have := sz20; omega)
theorem gb_ok {b : Bool} (h : b = true) : gb b = some () := if_pos h
theorem foldT_foldl {α E : Type} {body : α → E → Option E} {f : E → α → E} (μ : E → Nat) (N : Nat) (h : ∀ x e, μ e < N → body x e = some (f e x)) (hm : ∀ x e, μ (f e x) ≤ μ e + 1) : ∀ (xs : List α) (e : E), μ e + xs.length ≤ N → foldT body xs e = some (xs.foldl f e)
 | [], e, _ => rfl
 | x :: xs, e, hz => by
  rw [List.length_cons] at hz
  have := hm x e
  unfold foldT
  rw [h x e (by omega)]
  exact foldT_foldl μ N h hm xs (f e x) (by omega)
theorem mapT_map {α β : Type} {f : α → Option β} {g : α → β} : ∀ (xs : List α), (∀ x ∈ xs, f x = some (g x)) → mapT f xs = some (xs.map g)
 | [], _ => rfl
 | x :: xs, h => by
  unfold mapT
  rw [h x List.mem_cons_self, mapT_map xs fun y hy => h y (List.mem_cons_of_mem _ hy)]; rfl
theorem mapF_filter {α : Type} {f : α → Option (Option α)} {p : α → Bool} : ∀ (xs : List α), (∀ x ∈ xs, f x = some (if p x = true then some x else none)) → mapF f xs = some (xs.filter p)
 | [], _ => rfl
 | x :: xs, h => by
  unfold mapF
  rw [h x List.mem_cons_self, mapF_filter xs fun y hy => h y (List.mem_cons_of_mem _ hy)]
  cases hp : p x with
  | true => rw [List.filter_cons_of_pos hp]; rfl
  | false => rw [List.filter_cons_of_neg (by rw [hp]; exact Bool.false_ne_true)]; rfl
theorem rngT_ok {n : Nat} (h : n ≤ 2 ^ 20) : rngT (n : Int) = some (rngI 0 n) := by
 unfold rngT
 have e : rngOk 0 (n : Int) = true := decide_eq_true ⟨by omega, by omega, by omega, by omega⟩
 rw [if_pos e, Int.toNat_natCast]
theorem rngT_ok' {j : Int} (h0 : 0 ≤ j) (h : j ≤ 2 ^ 20) : rngT j = some (rngI 0 j.toNat) := by
 obtain ⟨n, rfl⟩ := Int.eq_ofNat_of_zero_le h0
 exact rngT_ok (by omega)
theorem rngI_len (n : Nat) : (rngI 0 n).length = n := by simp [rngI]
theorem rngI_get {n i : Nat} {x : Int} (h : (rngI 0 n)[i]? = some x) : x = i ∧ i < n := by
 unfold rngI at h
 rw [List.getElem?_map] at h
 obtain ⟨y, h1, h2⟩ := Option.map_eq_some_iff.mp h
 obtain ⟨h4, h5⟩ := List.getElem?_eq_some_iff.mp h1
 rw [List.length_range] at h4
 rw [List.getElem_range] at h5
 subst h5
 exact ⟨by omega, h4⟩
theorem mem_rngI {n : Nat} {x : Int} : x ∈ rngI 0 n ↔ 0 ≤ x ∧ x < n := by
 unfold rngI
 rw [List.mem_map]
 constructor
 · rintro ⟨k, hk, rfl⟩
   have := List.mem_range.mp hk
   omega
 · rintro ⟨h1, h2⟩
   exact ⟨x.toNat, List.mem_range.mpr (by omega), by omega⟩
theorem atI_i {α : Type} {xs : List α} {i : Int} (h0 : 0 ≤ i) (h1 : i < xs.length) : ∃ x, atI xs i = some x ∧ xs[i.toNat]? = some x := by
 obtain ⟨n, rfl⟩ := Int.eq_ofNat_of_zero_le h0
 have hn : n < xs.length := by omega
 exact ⟨xs[n], by rw [atI_nat, List.getElem?_eq_getElem hn], by rw [Int.toNat_natCast, List.getElem?_eq_getElem hn]⟩
theorem atI_last {α : Type} {l : List α} {d : α} : atI (l ++ [d]) (-1) = some d := by
 unfold atI ixN
 rw [if_neg (by decide), List.length_append, List.length_singleton, if_pos (by omega)]
 have : (-1 + ((l.length + 1 : Nat) : Int)).toNat = l.length := by omega
 rw [Option.bind_some, this, List.getElem?_append_right (Nat.le_refl _), Nat.sub_self]; rfl
def combos : List (List Int) → List (List Int)
 | [] => [[]]
 | s :: ss => s.flatMap fun x => (combos ss).map fun r => x :: r
def vol : List (List Int) → Nat
 | [] => 1
 | s :: ss => max 1 s.length * vol ss
theorem vol_pos : ∀ ss, 0 < vol ss
 | [] => by unfold vol; omega
 | s :: ss => by unfold vol; exact Nat.mul_pos (by omega) (vol_pos ss)
theorem flatMap_len {α β : Type} (f : α → List β) (k : Nat) : ∀ l : List α, (∀ a ∈ l, (f a).length = k) → (l.flatMap f).length = l.length * k
 | [], _ => by simp
 | a :: l, h => by
  rw [List.flatMap_cons, List.length_append, h a List.mem_cons_self, flatMap_len f k l fun b hb => h b (List.mem_cons_of_mem _ hb), List.length_cons, Nat.succ_mul, Nat.add_comm]
def inC : List Int → List (List Int) → Prop
 | [], [] => True
 | x :: r, s :: ss => x ∈ s ∧ inC r ss
 | _, _ => False
def ascS (acc : List Int) (x : Int) : List Int := if acc.getLast? = some x then acc else acc ++ [x]
def asc (ns : List Int) : List Int := (sortI ns).foldl ascS []
theorem ascS_snoc (l : List Int) (y x : Int) : ascS (l ++ [y]) x = if y = x then l ++ [y] else l ++ [y] ++ [x] := by
 unfold ascS
 rw [List.getLast?_concat]
 by_cases h : y = x
 · rw [if_pos (by rw [h]), if_pos h]
 · rw [if_neg (fun z => h (Option.some.inj z)), if_neg h]
theorem ascS_len (acc : List Int) (x : Int) : (ascS acc x).length ≤ acc.length + 1 := by
 unfold ascS
 split <;> simp
theorem cut1 {α : Type} (x : α) (xs : List α) : cutD (x :: xs) (some 1) none = xs := by
 unfold cutD
 rw [show HT.sIx (x :: xs).length 0 (some 1) = 1 from by
  have := HT.sIx_nat (x :: xs).length 0 1
  rw [List.length_cons] at this ⊢
  exact this.trans (by omega)]
 rw [HT.sIx_none, List.drop_one, List.tail_cons, List.length_cons, Nat.add_sub_cancel, List.take_length]
theorem combos_cons (s : List Int) (ss : List (List Int)) : combos (s :: ss) = s.flatMap fun x => (combos ss).map fun r => x :: r := rfl
theorem vol_app : ∀ (ss : List (List Int)) (s : List Int), vol (ss ++ [s]) = vol ss * max 1 s.length
 | [], s => by simp [vol]
 | t :: ss, s => by
  rw [List.cons_append]
  show max 1 t.length * vol (ss ++ [s]) = max 1 t.length * vol ss * max 1 s.length
  rw [vol_app ss s, Nat.mul_assoc]
abbrev Asc (l : List Int) : Prop := l.Pairwise (· < ·)
theorem fold_asc : ∀ (xs acc : List Int), Asc (acc ++ xs) → xs.foldl ascS acc = acc ++ xs
 | [], acc, _ => by simp
 | x :: xs, acc, h => by
  have e : ascS acc x = acc ++ [x] := by
   unfold ascS
   refine if_neg fun z => ?_
   have hm : x ∈ acc := List.mem_of_getLast? z
   have := (List.pairwise_append.mp h).2.2 x hm x List.mem_cons_self
   omega
  rw [List.foldl_cons, e, fold_asc xs (acc ++ [x]) (by simpa using h)]
  simp
theorem asc_self {l : List Int} (h : Asc l) : asc l = l := by
 unfold asc
 rw [← sortI_of (List.Perm.refl l) (h.imp fun z => Int.le_of_lt z)]
 exact fold_asc l [] h
theorem asc_filter {l : List Int} (p : Int → Bool) (h : Asc l) : Asc (l.filter p) := h.sublist List.filter_sublist
theorem cutT {α : Type} (xs : List α) {k : Nat} (h : k ≤ xs.length) : cutD xs none (some (k : Int)) = xs.take k := by
 unfold cutD
 rw [HT.sIx_nat, HT.sIx_none, List.drop_zero, Nat.sub_zero, Nat.min_eq_left h]
theorem cutR {α : Type} (xs : List α) {k : Nat} (h : k ≤ xs.length) : cutD xs (some (k : Int)) none = xs.drop k := by
 unfold cutD
 rw [HT.sIx_nat, HT.sIx_none, Nat.min_eq_left h, ← List.length_drop, List.take_length]
structure SideOk (s : List Int) : Prop where
 asc : Asc s
 nn : ∀ x ∈ s, 0 ≤ x
theorem SideOk.filter {s : List Int} (h : SideOk s) (p : Int → Bool) : SideOk (s.filter p) := ⟨asc_filter p h.asc, fun x hx => h.nn x ((List.mem_filter.mp hx).1)⟩
theorem vol_split (xs ys : List (List Int)) : vol (xs ++ ys) = vol xs * vol ys := by
 induction xs with
 | nil => rw [List.nil_append]; show _ = 1 * _; rw [Nat.one_mul]
 | cons x xs ih =>
  rw [List.cons_append]
  show max 1 x.length * vol (xs ++ ys) = max 1 x.length * vol xs * vol ys
  rw [ih, Nat.mul_assoc]
end My
namespace My
open PySem Dl Tl
open L2 (ixN atI)
inductive All2 {α β : Type} (P : α → β → Prop) : List α → List β → Prop where
 | nil : All2 P [] []
 | cons {x : α} {y : β} {xs : List α} {ys : List β} (h : P x y) (t : All2 P xs ys) : All2 P (x :: xs) (y :: ys)
def OkP {α : Type} (o : Option α) (P : α → Prop) : Prop := ∃ a, o = some a ∧ P a
section
variable {α β γ E R : Type}
theorem OkP.ret {a : α} {P : α → Prop} (h : P a) : OkP (some a) P := ⟨a, rfl, h⟩
theorem OkP.bind {o : Option α} {f : α → Option β} {Q : α → Prop} {P : β → Prop} (h : OkP o Q) (k : ∀ a, Q a → OkP (f a) P) : OkP (o.bind f) P := by
 obtain ⟨a, rfl, q⟩ := h
 exact k a q
theorem OkP.bindEq {o : Option α} {f : α → Option β} {a : α} {P : β → Prop} (h : o = some a) (k : OkP (f a) P) : OkP (o.bind f) P := by
 subst h; exact k
theorem OkP.mono {o : Option α} {P Q : α → Prop} (h : OkP o P) (k : ∀ a, P a → Q a) : OkP o Q := by
 obtain ⟨a, e, q⟩ := h
 exact ⟨a, e, k a q⟩
theorem OkP.iteB {c : Bool} {o o' : Option α} {P : α → Prop} (h : c = true → OkP o P) (h' : c = false → OkP o' P) : OkP (if c = true then o else o') P := by
 cases c with
 | true => rw [if_pos rfl]; exact h rfl
 | false => rw [if_neg Bool.false_ne_true]; exact h' rfl
theorem OkP.gz {n : Nat} {f : Unit → Option β} {P : β → Prop} (h : n ≤ 2 ^ 20) (k : OkP (f ()) P) : OkP ((Tl.gz n).bind f) P := by rw [gz_ok h]; exact k
theorem OkP.gb {b : Bool} {f : Unit → Option β} {P : β → Prop} (h : b = true) (k : OkP (f ()) P) : OkP ((Tl.gb b).bind f) P := by rw [gb_ok h]; exact k
theorem OkP.eq {o : Option α} {P : α → Prop} (h : OkP o P) {a : α} (k : ∀ b, P b → b = a) : o = some a := by
 obtain ⟨b, e, q⟩ := h
 rw [e, k b q]
theorem OkP.fold {body : α → E → Option E} (P : List α → E → Prop) : ∀ (pre xs : List α) (e : E), P pre e → (∀ p x q e, pre ++ xs = p ++ x :: q → P p e → OkP (body x e) (P (p ++ [x]))) → OkP (foldT body xs e) (P (pre ++ xs))
 | pre, [], e, h, _ => by rw [List.append_nil]; exact OkP.ret h
 | pre, x :: xs, e, h, k => by
  refine OkP.bind (f := fun e' => foldT body xs e') (k pre x xs e rfl h) fun e' h' => ?_
  have := OkP.fold P (pre ++ [x]) xs e' h' fun p y q e2 eq h2 => k p y q e2 (by rw [← eq, List.append_assoc]; rfl) h2
  rw [List.append_assoc] at this
  exact this
theorem OkP.forR {body : α → E → Option (Cf E R)} (P : List α → E → Prop) (Q : R → Prop) : ∀ (pre xs : List α) (e : E), P pre e → (∀ p x q e, pre ++ xs = p ++ x :: q → P p e → OkP (body x e) fun o => (∃ e', o = .nx e' ∧ P (p ++ [x]) e') ∨ ∃ r, o = .rt r ∧ Q r) → OkP (forT body xs e) fun o => (∃ e', o = .nx e' ∧ P (pre ++ xs) e') ∨ ∃ r, o = .rt r ∧ Q r
 | pre, [], e, h, _ => by rw [List.append_nil]; exact OkP.ret (.inl ⟨e, rfl, h⟩)
 | pre, x :: xs, e, h, k => by
  obtain ⟨o, e1, h'⟩ := k pre x xs e rfl h
  unfold forT
  rw [e1]
  rcases h' with ⟨e', rfl, h'⟩ | ⟨r, rfl, h'⟩
  · have := OkP.forR P Q (pre ++ [x]) xs e' h' fun p y q e2 eq h2 => k p y q e2 (by rw [← eq, List.append_assoc]; rfl) h2
    rw [List.append_assoc] at this
    exact this
  · exact OkP.ret (.inr ⟨r, rfl, h'⟩)
theorem OkP.kR {o : Option (Cf E R)} {P : E → Prop} {P' : R → Prop} {f : E → Option β} {g : R → Option β} {Q : β → Prop} (h : OkP o fun o => (∃ e', o = .nx e' ∧ P e') ∨ ∃ r, o = .rt r ∧ P' r) (k : ∀ e, P e → OkP (f e) Q) (k' : ∀ r, P' r → OkP (g r) Q) : OkP (o.bind fun v => v.k f g) Q := by
 obtain ⟨a, rfl, ⟨e', rfl, p⟩ | ⟨e', rfl, p⟩⟩ := h
 · exact k e' p
 · exact k' e' p
theorem OkP.mapT {f : α → Option β} (P : α → β → Prop) : ∀ (xs : List α), (∀ x ∈ xs, OkP (f x) (P x)) → OkP (Tl.mapT f xs) fun ys => All2 P xs ys
 | [], _ => OkP.ret .nil
 | x :: xs, h => by
  refine OkP.bind (f := fun y => (Tl.mapT f xs).bind fun ys => some (y :: ys)) (h x List.mem_cons_self) fun y hy => ?_
  refine OkP.bind (OkP.mapT P xs fun z hz => h z (List.mem_cons_of_mem _ hz)) fun ys hys => ?_
  exact OkP.ret (.cons hy hys)
theorem OkP.mapE {f : α → E → Option (β × E)} (P : E → Prop) (Q : α → β → Prop) : ∀ (xs : List α) (e : E), P e → (∀ x ∈ xs, ∀ e, P e → OkP (f x e) fun r => Q x r.1 ∧ P r.2) → OkP (Tl.mapE f xs e) fun r => All2 Q xs r.1 ∧ P r.2
 | [], e, h, _ => OkP.ret ⟨.nil, h⟩
 | x :: xs, e, h, k => by
  refine OkP.bind (f := fun y => (Tl.mapE f xs y.2).bind fun ys => some (y.1 :: ys.1, ys.2)) (k x List.mem_cons_self e h) fun y hy => ?_
  refine OkP.bind (OkP.mapE P Q xs y.2 hy.2 fun z hz => k z (List.mem_cons_of_mem _ hz)) fun ys hys => ?_
  exact OkP.ret ⟨.cons hy.1 hys.1, hys.2⟩
theorem mapF_filter' {f : α → Option (Option β)} {g : α → β} {p : α → Bool} : ∀ (xs : List α), (∀ x ∈ xs, f x = some (if p x = true then some (g x) else none)) → Tl.mapF f xs = some ((xs.filter p).map g)
 | [], _ => rfl
 | x :: xs, h => by
  unfold Tl.mapF
  rw [h x List.mem_cons_self, mapF_filter' xs fun y hy => h y (List.mem_cons_of_mem _ hy)]
  by_cases q : p x = true
  · rw [if_pos q, List.filter_cons_of_pos q]; rfl
  · rw [if_neg q, List.filter_cons_of_neg q]; rfl
theorem forall2_len {P : α → β → Prop} {xs : List α} {ys : List β} (h : All2 P xs ys) : ys.length = xs.length := by
 induction h with
 | nil => rfl
 | cons _ _ ih => rw [List.length_cons, List.length_cons, ih]
theorem forall2_mem {P : α → β → Prop} {xs : List α} {ys : List β} (h : All2 P xs ys) : ∀ y ∈ ys, ∃ x ∈ xs, P x y := by
 induction h with
 | nil => exact fun y hy => nomatch hy
 | cons h1 _ ih =>
  intro y hy
  rcases List.mem_cons.mp hy with rfl | hy
  · exact ⟨_, List.mem_cons_self, h1⟩
  · obtain ⟨x, hx, hp⟩ := ih y hy
    exact ⟨x, List.mem_cons_of_mem _ hx, hp⟩
theorem forall2_get {P : α → β → Prop} {xs : List α} {ys : List β} (h : All2 P xs ys) : ∀ (i : Nat) (y : β), ys[i]? = some y → ∃ x, xs[i]? = some x ∧ P x y := by
 induction h with
 | nil => intro i y h; simp at h
 | cons h1 _ ih =>
  intro i y h
  cases i with
  | zero => cases h; exact ⟨_, rfl, h1⟩
  | succ i => exact ih i y h
theorem OkP.rng {n : Int} {f : List Int → Option β} {P : β → Prop} (h0 : 0 ≤ n) (h : n ≤ 2 ^ 20) (k : OkP (f (rngI 0 n.toNat)) P) : OkP ((rngT n).bind f) P := by rw [rngT_ok' h0 h]; exact k
theorem OkP.at {xs : List α} {i : Int} {f : α → Option β} {P : β → Prop} (h0 : 0 ≤ i) (h1 : i < xs.length) (k : ∀ x, xs[i.toNat]? = some x → OkP (f x) P) : OkP ((atI xs i).bind f) P := by
 obtain ⟨x, e1, e2⟩ := atI_i h0 h1
 rw [e1]; exact k x e2
theorem ixN_i {n : Nat} {i : Int} (h0 : 0 ≤ i) (h1 : i < n) : ixN n i = some i.toNat := by unfold ixN; rw [if_pos h0, if_pos h1]
theorem setT_i {xs : List α} {i : Int} {a : α} (h0 : 0 ≤ i) (h1 : i < xs.length) : setT xs i a = some (xs.set i.toNat a) := by
 unfold setT; rw [ixN_i h0 h1]; rfl
end
end My
namespace Tl
open PySem Dl
open L2 (ixN atI)
open Classical in
noncomputable def relFn {α : Type} (enc : α → List S) (t : α → Option Of) : Fn := fun ss => if h : ∃ a, ss = enc a then t (Classical.choose h) else none
theorem relFn_eq {α : Type} {enc : α → List S} {t : α → Option Of} (inj : ∀ a b, enc a = enc b → a = b) (a : α) : relFn enc t (enc a) = t a := by
 unfold relFn
 have h : ∃ b, enc a = enc b := ⟨a, rfl⟩
 rw [dif_pos h, ← inj _ _ (Classical.choose_spec h)]
theorem relFn_le {α : Type} {enc : α → List S} {t : α → Option Of} {F : Fn} (h : ∀ a o, t a = some o → F (enc a) = some o) : Fn.le (relFn enc t) F := fun ss o e => by
 unfold relFn at e
 split at e
 · rename_i hx
   have h1 := h _ _ e
   rw [← Classical.choose_spec hx] at h1
   exact h1
 · cases e
noncomputable section
def N_checked : List Str := ["rows", "path", "outcome", "party", "branches", "cells", "kept", "first", "second", "others", "branch", "cell"]
def b_checked_1 (F_checked : Fn) : MS := (sAft [(10, true), (11, true)] (sExpr (mAppend (eVar 6) (eTup (aCons (eVar 11) (aCons (eCall [false, false] F_checked (aCons (eIx (eIx (eVar 4) (eVar 10)) (eC (.int 1))) (aCons (eTup (aStar (eVar 1) (aCons (eVar 10) aNil))) aNil))) aNil))))))
def f_checked (F_checked_cells F_checked : Fn) : MS :=
 (sSeq (sMatch (eVar 0) (kCaseG (pSeq 2 (plCons (pStr "end") (plCons pCap plNil))) [2] (tAnd (tVal (eB gIsi (aCons (eVar 2) (aCons (eC (.ty "int")) aNil)))) (tAnd (tNot (tVal (eB gIsi (aCons (eVar 2) (aCons (eC (.ty "bool")) aNil))))) (tCmp (eGe (eVar 2) (eC (.int 0)))))) (sRet (eTup (aCons (eC (.str "end")) (aCons (eVar 2) aNil)))) (kCaseG (pSeq 3 (plCons (pStr "ask") (plCons pCap (plCons (pStar 3 2 (plCons pCap (plCons pCap (plStar plNil)))) plNil)))) [3, 7, 8, 9] (tAnd (tVal (eB gIsi (aCons (eVar 3) (aCons (eC (.ty "int")) aNil)))) (tNot (tVal (eB gIsi (aCons (eVar 3) (aCons (eC (.ty "bool")) aNil)))))) (sSeq (sIf (tCmp (eLt (eVar 3) (eC (.int 0)))) sNever sNil)
 (sSeq (sSet 2 4 (eLst (aCons (eVar 7) (aCons (eVar 8) (aStar (eVar 9) aNil)))))
 (sSeq (sSet 2 5 (eCall [false, false] F_checked_cells (aCons (eVar 4) (aCons (eVar 1) aNil))))
 (sSeq (sSet 2 6 (eLst aNil))
 (sSeq (sFor (iEnu (aCons (eVar 5) aNil)) (gT 2 (gsCons (gN 10) (gsCons (gN 11) gsNil))) (b_checked_1 F_checked))
 (sRet (eTup (aCons (eC (.str "ask")) (aCons (eVar 3) (aCons (eB gTuple (aCons (eVar 6) aNil)) aNil)))))))))) kNil)))
 sNever)
def N_checked_cells : List Str := ["branches", "path", "seen", "cells", "branch", "standing", "odd", "behind", "cell", "first", "others"]
def b_checked_cells_1 (F_is_number : Fn) : MS := (sAft [(5, true)] (sSeq (sIf (tOr (tNot (tVal (eCall [false] F_is_number (aCons (eVar 5) aNil)))) (tCmp (eIn (eVar 5) (eVar 2)))) sNever sNil)
 (sExpr (mAppend (eVar 2) (eVar 5)))))
def b_checked_cells_2 (F_is_number F_ascending : Fn) : MS := (sAft [(4, true), (6, true), (7, true), (8, true), (9, true), (10, true)] (sSeq (sMatch (eVar 4) (kCase (pSeq 2 (plCons (pStar 2 1 (plCons pCap (plStar plNil))) (plCons pCap plNil))) [9, 10, 7] (sSet 2 8 (eLst (aCons (eVar 9) (aStar (eVar 10) aNil)))) (kCase pCap [6] sNever kNil)))
 (sSeq (sFor (iSeq (eVar 8)) (gN 5) (b_checked_cells_1 F_is_number))
 (sExpr (mAppend (eVar 3) (eCall [false] F_ascending (aCons (eVar 8) aNil)))))))
def f_checked_cells (F_is_number F_ascending : Fn) : MS :=
 (sSeq (sSet 2 2 (eLst aNil))
 (sSeq (sSet 2 3 (eLst aNil))
 (sSeq (sFor (iSeq (eVar 0)) (gN 4) (b_checked_cells_2 F_is_number F_ascending))
 (sRet (eVar 3)))))
def N_same : List Str := ["_law_actual", "_law_expected", "_law_wrong", "_law_k"]
def c_same_1 (F_same : Fn) : M Rv := eLc (iRng1 (aCons (eB gLen (aCons (eVar 1) aNil)) aNil)) (gN 3) (tNot (tVal (eCall [false, false] F_same (aCons (eIx (eVar 0) (eVar 3)) (aCons (eIx (eVar 1) (eVar 3)) aNil))))) (eVar 3) [3]
def f_same (F_same : Fn) : MS :=
 (sSeq (sIf (tCmp (eIs (eVar 1) (eC .non))) (sRet (eIs (eVar 0) (eC .non))) sNil)
 (sSeq (sIf (tVal (eB gIsi (aCons (eVar 1) (aCons (eC (.ty "bool")) aNil)))) (sRet (eAnd (eB gIsi (aCons (eVar 0) (aCons (eC (.ty "bool")) aNil))) (eEq (eVar 0) (eVar 1)))) sNil)
 (sSeq (sIf (tVal (eB gIsi (aCons (eVar 1) (aCons (eC (.ty "int")) aNil)))) (sRet (eAnd (eB gIsi (aCons (eVar 0) (aCons (eC (.ty "int")) aNil))) (eAnd (eNot (eB gIsi (aCons (eVar 0) (aCons (eC (.ty "bool")) aNil)))) (eEq (eVar 0) (eVar 1))))) sNil)
 (sSeq (sIf (tVal (eB gIsi (aCons (eVar 1) (aCons (eC (.ty "str")) aNil)))) (sRet (eAnd (eB gIsi (aCons (eVar 0) (aCons (eC (.ty "str")) aNil))) (eEq (eVar 0) (eVar 1)))) sNil)
 (sSeq (sIf (tAnd (tVal (eB gIsi (aCons (eVar 1) (aCons (eC (.ty "tuple")) aNil)))) (tNot (tVal (eB gIsi (aCons (eVar 0) (aCons (eC (.ty "tuple")) aNil)))))) (sRet (eC (.bl false))) sNil)
 (sSeq (sIf (tAnd (tVal (eB gIsi (aCons (eVar 1) (aCons (eC (.ty "list")) aNil)))) (tNot (tVal (eB gIsi (aCons (eVar 0) (aCons (eC (.ty "list")) aNil)))))) (sRet (eC (.bl false))) sNil)
 (sSeq (sIf (tCmp (eNe (eB gLen (aCons (eVar 0) aNil)) (eB gLen (aCons (eVar 1) aNil)))) (sRet (eC (.bl false))) sNil)
 (sSeq (sSet 2 2 (c_same_1 F_same))
 (sRet (eEq (eVar 2) (eLst aNil)))))))))))
def FnR_same : Nat → Fn
 | 0 => fun _ => none
 | n + 1 => mkFn 2 4 (f_same (FnR_same n))
def Fn_cells (F_is_number F_ascending : Fn) : Fn := mkFn 2 11 (f_checked_cells F_is_number F_ascending)
def FnR_checked (F_cells : Fn) : Nat → Fn
 | 0 => fun _ => none
 | n + 1 => mkFn 2 12 (f_checked F_cells (FnR_checked F_cells n))
theorem il_ns : isLook "NoneType" "str" = some false := by decide +kernel
theorem il_bs : isLook "bool" "str" = some false := by decide +kernel
theorem il_is : isLook "int" "str" = some false := by decide +kernel
theorem il_ls : isLook "list" "str" = some false := by decide +kernel
theorem il_ts : isLook "tuple" "str" = some false := by decide +kernel
theorem il_sl : isLook "str" "list" = some false := by decide +kernel
theorem il_st : isLook "str" "tuple" = some false := by decide +kernel
def plainN : Nat → D → Bool
 | 0, _ => false
 | _ + 1, .non => true
 | _ + 1, .bl _ => true
 | _ + 1, .int _ => true
 | _ + 1, .str x => PyData.strOk x
 | n + 1, .lst ds => decide (ds.length ≤ 2 ^ 16) && ds.all (plainN n)
 | n + 1, .tup ds => decide (ds.length ≤ 2 ^ 16) && ds.all (plainN n)
 | _ + 1, _ => false
open Classical in
noncomputable def sameB (a b : D) : Bool := decide (a = b)
def seqB (A : D) (xs : List D) : Prop := A = .lst xs ∨ A = .tup xs
theorem seqB_ix {A : D} {xs : List D} (h : seqB A xs) (i : Int) : dIx A (.int i) = (atI xs i).bind fun d => some (.val d) := by
 rcases h with rfl | rfl
 · exact ix_l xs i
 · exact ix_t xs i
theorem atI_fin (xs : List D) (k : Nat) (h : k < xs.length) : atI xs ((k : Nat) : Int) = some xs[k] := by
 rw [atI_nat, List.getElem?_eq_getElem h]
theorem ints_fin (n : Nat) : (rngI 0 n).map D.int = (List.finRange n).map fun (k : Fin n) => D.int ((k.val : Nat) : Int) := by
 unfold rngI
 apply List.ext_getElem
 · simp
 · intro i h1 h2
   simp
def wrongL (xs ys : List D) : List Int := ((List.finRange ys.length).filter fun k => !sameB (xs.getD k.val .non) ys[k.val]).map fun k => ((k.val : Nat) : Int)
theorem wrongL_nil {xs ys : List D} (hl : xs.length = ys.length) : (wrongL xs ys = []) = (xs = ys) := by
 unfold wrongL
 rw [List.map_eq_nil_iff, List.filter_eq_nil_iff]
 refine propext ⟨fun h => List.ext_getElem hl fun i h1 h2 => ?_, fun h q _ => ?_⟩
 · have := h ⟨i, h2⟩ (List.mem_finRange _)
   unfold sameB at this
   rw [List.getD_eq_getElem?_getD, List.getElem?_eq_getElem h1] at this
   simpa using this
 · subst h
   unfold sameB
   rw [List.getD_eq_getElem?_getD, List.getElem?_eq_getElem q.isLt]
   simp
local macro_rules | `(tactic| simp? only [$as,*] $[$lo]?) => `(tactic| simp only [Tl.ob_some, Tl.ob_none, Tl.ob_assoc, Tl.om_eq, Tl.ob_ite, Tl.gz_small, Tl.gb_true, Tl.tt_true, Tl.ft_false, Tl.ite_T, Tl.ite_F, Tl.ite_fun, Tl.b_not_t, Tl.b_not_f, Tl.b_at, Tl.b_af, Tl.b_ot, Tl.b_of, Tl.b_ta, Tl.b_fa, Tl.g_zero, Tl.g_succ, Tl.s_zero, Tl.s_succ, Tl.gd_zero, Tl.gd_succ, Tl.a_cons, Tl.a_nil, Tl.a_nil2, Tl.m_cons, Tl.m_nil, Tl.m_app, Tl.m_map, Tl.m_idf, Tl.l_cons, Tl.l_nil, Tl.l_map, Tl.l_app, Tl.e_map, Tl.e_cons, Tl.e_nil, Tl.r_zero, Tl.r_succ, Tl.tl_cons, Tl.tl_nil, Tl.any_cons', Tl.any_nil', Tl.all_cons', Tl.all_nil', Tl.mem_one, Tl.eqs_self, Tl.tt_and, Tl.cps_bind, Tl.cps_pure, Tl.cps_fail, Tl.cps_ofO, Tl.cps_ite, Tl.cps_var, Tl.varK_v, Tl.varK_o, Tl.cps_C, Tl.set_v, Tl.set_o, Tl.set_a, Tl.cps_peek_v, Tl.cps_peek_o, Tl.cps_peek_a, Tl.peekK_v, Tl.peekK_o, Tl.cps_toV_v, Tl.cps_toV_o, Tl.cps_toV_a, Tl.toVK_v, Tl.toVK_o, Tl.peeks_n, Tl.peeks_c, Tl.toVs_n, Tl.toVs_c, Tl.toVs_vals, Tl.toVs_vals0, Tl.toVs_mv, Tl.toVs_mv0, Tl.cps_bin, Tl.cps_aNil, Tl.cps_aCons, Tl.it_l, Tl.it_t, Tl.cps_aStar, Tl.cps_eB, Tl.cps_tup, Tl.cps_lst, Tl.ofI_i, Tl.cps_oNo, Tl.cps_oSome, Tl.cps_sl, Tl.cps_neg, Tl.cps_tru, Tl.cps_tVal, Tl.cps_tNot, Tl.cps_tAnd, Tl.cps_tOr, Tl.cps_eNot, Tl.cps_eAnd, Tl.cps_eOr, Tl.cps_eIf, Tl.ofBl_b, Tl.cps_tCmp, Tl.cps_yes, Tl.cps_fld, Tl.cps_frz, Tl.prep_n, Tl.prep_t, Tl.prep_f, Tl.prep_z, Tl.cps_call, Tl.callO_ret, Tl.callO_ex, Tl.na_v, Tl.na_o, Tl.cps_eCall, Tl.ssOfs_n, Tl.ssOfs_c, Tl.ssOf_v, Tl.ssOf_a, Tl.ssK_v, Tl.ssK_o, Tl.dist_n, Tl.dist_v, Tl.dist_a, Tl.isAli_v, Tl.isAli_a, Tl.noAli_n, Tl.noAli_v, Tl.noAli_a, Tl.scaR_o, Tl.scaR_v, Tl.sca_n, Tl.sca_b, Tl.sca_i, Tl.sca_s, Tl.sca_l, Tl.sca_t, Tl.sca_ob, Tl.back_n, Tl.back_v, Tl.back_a, Tl.back1_eq, Tl.b1K_o, Tl.b1K_v, Tl.ownOr_o, Tl.cps_makeM, Tl.makeO_ret, Tl.makeO_ex, Tl.cps_eMake, Tl.cps_ckC, Tl.cps_ckO, Tl.cps_meth, Tl.cps_own2, Tl.cps_ownIn, Tl.ownLst_a, Tl.ownK_o, Tl.cps_append, Tl.ofL_l, Tl.cps_extend, Tl.cps_clear, Tl.cps_iSeq, Tl.cps_rng1, Tl.cps_rng2, Tl.cps_zip, Tl.cps_enu, Tl.rangeD_eq, Tl.dRng1_eq, Tl.dRng2_eq, Tl.dZip_l, Tl.dZip_t, Tl.dEnum_l, Tl.dEnum_t, Tl.sSeq_eq, Tl.sq_none, Tl.sq_nx, Tl.sq_rt, Tl.sq_ct, Tl.sq_bk, Tl.sq_ex, Tl.sq_bind, Tl.sq_ite, Tl.thenS_eq, Tl.sNil_eq, Tl.sPass_eq, Tl.sBreak_eq, Tl.sCont_eq, Tl.sNever_eq, Tl.sRetN_eq, Tl.sExpr_eq, Tl.retV_v, Tl.retV_o, Tl.retV_a, Tl.retK_v, Tl.retK_o, Tl.sRet_eq, Tl.setV_v, Tl.setV_o, Tl.setV_a, Tl.setK_v, Tl.setK_o, Tl.sSet_eq, Tl.sIf_eq, Tl.sFor_eq, Tl.asg_eq, Tl.sAsg_eq, Tl.sSetIx_eq, Tl.ownObj_a, Tl.ownObK_o, Tl.sSetF_eq, Tl.putF2_n, Tl.putF2_c, Tl.lkF_c, Tl.fldO_eq, Tl.nrm_n, Tl.nrm_k, Tl.nrm_f, Tl.frz1_o, Tl.frz1_v, Tl.frz1_n, Tl.kil_n, Tl.kil_c, Tl.sFore_eq, Tl.sAft_eq, Tl.sFz_eq, Tl.aq_bind, Tl.aq_ite, Tl.aq_none, Tl.aq_nx, Tl.aq_ct, Tl.aq_bk, Tl.aq_rt, Tl.aq_ex, Tl.sRtA_eq, Tl.rq_bind, Tl.rq_ite, Tl.rq_none, Tl.rq_rtv, Tl.rq_rto, Tl.rq_ex, Tl.gN_eq, Tl.gT_eq, Tl.gsN_eq, Tl.gsC_eq, Tl.rtn_bind, Tl.rtn_ite, Tl.rtn_none, Tl.rtn_nx, Tl.rtn_rtv, Tl.rtn_rto, Tl.rtn_ex, Tl.post_n, Tl.post_v, Tl.post_o, Tl.sq_lpO, Tl.aq_lpO, Tl.sq_k, Tl.aq_k, Tl.rq_k, Tl.rtn_k, Tl.ob_k, Tl.cfO_nx, Tl.cfO_ct, Tl.cfO_bk, Tl.cfO_rt, Tl.cps_lc, Tl.noOwn_n, Tl.noOwn_c, Tl.isOwn_o, Tl.isOwn_v, Tl.isOwn_n, Tl.wipe_n, Tl.wipe_c, Tl.back_n', Tl.back_c', Tl.add_ii, Tl.add_tt, Tl.add_ll, Tl.sub_ii, Tl.mul_ii, Tl.div_ii, Tl.mod_ii, Tl.pow_ii, Tl.lt_ii, Tl.le_ii, Tl.gt_ii, Tl.ge_ii, Tl.eO_none, Tl.eO_some, Tl.lt_io, Tl.gt_io, Tl.lt_oi, Tl.gt_oi, Tl.is_oi, Tl.isn_oi, Tl.is_ot, Tl.isn_ot, Tl.sca_oi, Tl.sca_ob', Tl.is_bb, Tl.isn_bb, Tl.is_nn, Tl.is_in, Tl.is_ln, Tl.is_tn, Tl.is_on, Tl.isn_nn, Tl.isn_in, Tl.isn_ln, Tl.isn_tn, Tl.isn_on, Tl.it_sq, Tl.eSq_t, Tl.eSq_l, Tl.len_sq, Tl.eq_ii, Tl.ne_ii, Tl.eq_bb, Tl.ne_bb, Tl.eq_li, Tl.ne_li, Tl.eq_ti, Tl.ne_ti, Tl.eq_l0, Tl.ne_l0, Tl.in_il, Tl.in_it, Tl.in_is, Tl.notIn_il, Tl.notIn_it, Tl.notIn_is, Tl.in_rl, Tl.notIn_rl, Tl.tru_n, Tl.tru_b, Tl.tru_i, Tl.tru_l, Tl.tru_t, Tl.ix_lc, Tl.ix_tc, Tl.ix_lm, Tl.ix_tm, Tl.ix_sm, Tl.ix_sc, Tl.atI_map', Tl.at0, Tl.at1, Tl.at2, Tl.at3, Tl.set_map, Tl.sl_l, Tl.sl_t, Tl.len_l, Tl.len_t, Tl.len_s, Tl.int_i, Tl.int_b, Tl.max_ii, Tl.min_ii, Tl.list_l, Tl.list_t, Tl.list_s, Tl.tuple_l, Tl.tuple_t, Tl.tuple_s, Tl.sorted_i, Tl.maxL_i, Tl.minL_i, Tl.sum_i, Tl.all_b, Tl.any_b, Tl.isi_eq, Tl.ty_n, Tl.ty_b, Tl.ty_i, Tl.ty_s, Tl.ty_l, Tl.ty_t, Tl.il_ii, Tl.il_ib, Tl.il_it, Tl.il_il, Tl.il_bb, Tl.il_bi, Tl.il_bl, Tl.il_bt, Tl.il_ll, Tl.il_lt, Tl.il_li, Tl.il_lb, Tl.il_tt, Tl.il_tl, Tl.il_ti, Tl.il_tb, Tl.il_ss, Tl.il_si, Tl.il_sb, Tl.il_ni, Tl.il_nb, Tl.il_nl, Tl.il_nt, Tl.cps_lc2, Tl.augK_v, Tl.sAug_eq, Tl.gadd_ii, Tl.gsub_ii, Tl.gmul_ii, Tl.cps_ownIx, Tl.cps_ownCall, Tl.cps_lrg, Tl.cps_iOwn, Tl.cps_lOwn, Tl.cps_lent, Tl.lentK_eq, Tl.lent_and, Tl.scaRv_i, Tl.scaRv_b, Tl.frzA_n, Tl.frzA_c, Tl.fzS_n, Tl.fzS_v, Tl.fzS_o, Tl.ownL_n, Tl.ownL_no, Tl.ownL_v, Tl.ownL_o, Tl.e_tree_fin, Tl.e_tree_ask, Tl.ix_tree0, Tl.ix_tree1, Tl.ix_tree2, Tl.len_tree, Tl.eq_tag_end, Tl.eq_tag_ask, Tl.ne_tag_end, Tl.ne_tag_ask, Tl.so_t, Tl.so_f, Tl.ite_same, Tl.cps_un, Tl.l1_o, Tl.cps_aTmpR, Tl.cps_aTmp, Tl.cps_aConsT, Tl.tkK_v, Tl.tkK_o, Tl.tk_z, Tl.tk_s, Tl.cps_callT, Tl.cps_eCallT, Tl.cps_eCallK, Tl.cps_dix, Tl.il_ns, Tl.il_bs, Tl.il_is, Tl.il_ls, Tl.il_ts, Tl.il_sl, Tl.il_st, reduceIte, Nat.reduceAdd, Nat.reduceSub, Nat.reduceMul, Nat.reduceLT, Nat.reduceGT, Nat.reduceLeDiff, Nat.reduceEqDiff, Nat.reduceBEq, Nat.reduceBNe, Int.reduceNeg, Int.reduceAdd, Int.reduceSub, Int.reduceMul, Int.reduceLT, Int.reduceLE, Int.reduceGT, Int.reduceGE, Int.reduceEq, Int.reduceNe, Int.reduceBEq, Int.reduceBNe, Int.reducePow, $as,*] $[$lo]?)
theorem wrong_t {n : Nat} {A B : D} {xs ys : List D} (hA : seqB A xs) (hB : seqB B ys) (hl : xs.length = ys.length) (hx : xs.all (plainN n) = true) (hy : ys.all (plainN n) = true) (hz : ys.length ≤ 2 ^ 16)
  (ih : ∀ a b, plainN n a = true → plainN n b = true → FnR_same n [.val a, .val b] = some (.ret (.val (.bl (sameB a b))) [.val a, .val b]))
  {γ : Type} {kx : Xn → List S → Option γ} {k : Rv → List S → Option γ} : cps (c_same_1 (FnR_same n)) [.val A, .val B, .no, .no] kx k = k (.own (.lst ((wrongL xs ys).map D.int))) [.val A, .val B, .no, .no] := by
 have hB' : gLen [B] = some (.val (.int (ys.length : Nat))) := by rcases hB with rfl | rfl <;> rfl
 have hh := fun (h' : List D → List S → Option γ) => cps_lcQ (e := fun (k : Fin ys.length) => D.int ((k.val : Nat) : Int)) (e' := D.int) (ρ := [.val A, .val B, .no, .no]) (kx := kx) (tg := gN 3) (tt := tNot (tVal (eCall [false, false] (FnR_same n) (aCons (eIx (eVar 0) (eVar 3)) (aCons (eIx (eVar 1) (eVar 3)) aNil))))) (te := eVar 3) (vs := [3])
  (p := fun k => !sameB (xs.getD k.val .non) ys[k.val]) (f := fun k => ((k.val : Nat) : Int)) (List.finRange ys.length) (fun q => by
   have hq : q.val < xs.length := by rw [hl]; exact q.isLt
   have h1 := atI_fin xs q.val hq
   have h2 := atI_fin ys q.val q.isLt
   have h0 : xs.getD q.val .non = xs[q.val] := by rw [List.getD_eq_getElem?_getD, List.getElem?_eq_getElem hq]; rfl
   have h3 := ih xs[q.val] ys[q.val] (List.all_eq_true.mp hx _ (List.getElem_mem _)) (List.all_eq_true.mp hy _ (List.getElem_mem _))
   rw [h0]
   simp? only [lcS, seqB_ix hA, seqB_ix hB, h1, h2, h3]) h'
 simp? only [c_same_1, hB']
 rw [My.rngT_ok (by omega), Option.bind_some, ints_fin, hh]
 rfl
theorem same_true : ∀ (n : Nat) (a b : D), plainN n a = true → plainN n b = true → FnR_same n [.val a, .val b] = some (.ret (.val (.bl (sameB a b))) [.val a, .val b])
 | 0, a, b, ha, _ => by cases ha
 | n + 1, a, b, ha, hb => by
  show mkFn 2 4 (f_same (FnR_same n)) _ = _
  rw [mkFn_eq]
  have n0 : dIsN .non .non = some (.val (.bl true)) := rfl
  have n1 : ∀ i, dIsN (.int i) .non = some (.val (.bl false)) := fun _ => rfl
  have n2 : ∀ i, dIsN (.bl i) .non = some (.val (.bl false)) := fun _ => rfl
  have n3 : ∀ i, dIsN (.str i) .non = some (.val (.bl false)) := fun _ => rfl
  have n4 : ∀ i, dIsN (.lst i) .non = some (.val (.bl false)) := fun _ => rfl
  have n5 : ∀ i, dIsN (.tup i) .non = some (.val (.bl false)) := fun _ => rfl
  cases b with
  | non =>
   cases a <;> first | (cases ha; done) | skip
   all_goals simp? only [f_same, eIs, n0, n1, n2, n3, n4, n5]
   all_goals simp [sameB]
  | int j =>
   cases a <;> first | (cases ha; done) | skip
   all_goals simp? only [f_same, eIs, eEq, n0, n1, n2, n3, n4, n5]
   all_goals simp [sameB]
  | bl j =>
   cases a <;> first | (cases ha; done) | skip
   all_goals simp? only [f_same, eIs, eEq, n0, n1, n2, n3, n4, n5]
   all_goals simp [sameB]
  | str y =>
   have hy : PyData.strOk y = true := hb
   cases a with
   | str x =>
    have hx : PyData.strOk x = true := ha
    simp? only [f_same, eIs, eEq, n0, n1, n2, n3, n4, n5, eq_ok' hx hy]
    simp [sameB]
   | _ =>
    first
    | (cases ha; done)
    | (simp? only [f_same, eIs, eEq, n0, n1, n2, n3, n4, n5]
       simp [sameB])
  | lst ys =>
   obtain ⟨hb1, hb2⟩ := Bool.and_eq_true_iff.mp (show (decide (ys.length ≤ 2 ^ 16) && ys.all (plainN n)) = true from hb)
   have hb1 := of_decide_eq_true hb1
   cases a with
   | lst xs =>
    obtain ⟨ha1, ha2⟩ := Bool.and_eq_true_iff.mp (show (decide (xs.length ≤ 2 ^ 16) && xs.all (plainN n)) = true from ha)
    have hne : dNe (.int ((xs.length : Nat) : Int)) (.int ((ys.length : Nat) : Int)) = some (.val (.bl (!decide (((xs.length : Nat) : Int) = ((ys.length : Nat) : Int))))) := ne_ii _ _
    by_cases hl : xs.length = ys.length
    · have hli : decide (((xs.length : Nat) : Int) = ((ys.length : Nat) : Int)) = true := decide_eq_true (by rw [hl])
      have wt := fun (γ : Type) (kx : Xn → List S → Option γ) (k : Rv → List S → Option γ) => wrong_t (γ := γ) (kx := kx) (k := k) (.inl rfl : seqB (.lst xs) xs) (.inl rfl : seqB (.lst ys) ys) hl ha2 hb2 hb1 (same_true n)
      simp? only [f_same, eIs, eEq, eNe, n0, n1, n2, n3, n4, n5, hne, hli, wt]
      have hw := wrongL_nil hl
      simp [sameB, hw]
    · have hli : decide (((xs.length : Nat) : Int) = ((ys.length : Nat) : Int)) = false := decide_eq_false (by omega)
      simp? only [f_same, eIs, eEq, eNe, n0, n1, n2, n3, n4, n5, hne, hli]
      have : xs ≠ ys := fun z => hl (by rw [z])
      simp [sameB, this]
   | _ =>
    first
    | (cases ha; done)
    | (simp? only [f_same, eIs, eEq, n0, n1, n2, n3, n4, n5]
       simp [sameB])
  | tup ys =>
   obtain ⟨hb1, hb2⟩ := Bool.and_eq_true_iff.mp (show (decide (ys.length ≤ 2 ^ 16) && ys.all (plainN n)) = true from hb)
   have hb1 := of_decide_eq_true hb1
   cases a with
   | tup xs =>
    obtain ⟨ha1, ha2⟩ := Bool.and_eq_true_iff.mp (show (decide (xs.length ≤ 2 ^ 16) && xs.all (plainN n)) = true from ha)
    have hne : dNe (.int ((xs.length : Nat) : Int)) (.int ((ys.length : Nat) : Int)) = some (.val (.bl (!decide (((xs.length : Nat) : Int) = ((ys.length : Nat) : Int))))) := ne_ii _ _
    by_cases hl : xs.length = ys.length
    · have hli : decide (((xs.length : Nat) : Int) = ((ys.length : Nat) : Int)) = true := decide_eq_true (by rw [hl])
      have wt := fun (γ : Type) (kx : Xn → List S → Option γ) (k : Rv → List S → Option γ) => wrong_t (γ := γ) (kx := kx) (k := k) (.inr rfl : seqB (.tup xs) xs) (.inr rfl : seqB (.tup ys) ys) hl ha2 hb2 hb1 (same_true n)
      simp? only [f_same, eIs, eEq, eNe, n0, n1, n2, n3, n4, n5, hne, hli, wt]
      have hw := wrongL_nil hl
      simp [sameB, hw]
    · have hli : decide (((xs.length : Nat) : Int) = ((ys.length : Nat) : Int)) = false := decide_eq_false (by omega)
      simp? only [f_same, eIs, eEq, eNe, n0, n1, n2, n3, n4, n5, hne, hli]
      have : xs ≠ ys := fun z => hl (by rw [z])
      simp [sameB, this]
   | _ =>
    first
    | (cases ha; done)
    | (simp? only [f_same, eIs, eEq, n0, n1, n2, n3, n4, n5]
       simp [sameB])
  | _ => cases hb
theorem ints_inj : ∀ {a b : List Int}, a.map D.int = b.map D.int → a = b
 | [], [], _ => rfl
 | [], _ :: _, h => by cases h
 | _ :: _, [], h => by cases h
 | x :: a, y :: b, h => by
  obtain ⟨h1, h2⟩ := List.cons.inj h
  rw [D.int.inj h1, ints_inj h2]
mutual
theorem tree_inj : ∀ {a b : QT}, e_tree a = e_tree b → a = b
 | .fin n, .fin m, h => by
  rw [e_tree_fin, e_tree_fin] at h
  have h := (List.cons.inj (List.cons.inj (D.tup.inj h)).2).1
  rw [D.int.inj h]
 | .fin n, .ask p bs, h => by
  rw [e_tree_fin, e_tree_a] at h
  have h := (List.cons.inj (List.cons.inj (D.tup.inj h)).2).2
  cases h
 | .ask p bs, .fin n, h => by
  rw [e_tree_fin, e_tree_a] at h
  have h := (List.cons.inj (List.cons.inj (D.tup.inj h)).2).2
  cases h
 | .ask p bs, .ask q cs, h => by
  rw [e_tree_a, e_tree_a] at h
  have h1 := (List.cons.inj (D.tup.inj h)).2
  have h2 := (List.cons.inj h1).1
  have h3 := (List.cons.inj (List.cons.inj h1).2).1
  rw [D.int.inj h2, trees_inj (D.tup.inj h3)]
theorem trees_inj : ∀ {a b : QTs}, e_trees a = e_trees b → a = b
 | .nil, .nil, _ => rfl
 | .nil, .cons c t r, h => by unfold e_trees at h; cases h
 | .cons c t r, .nil, h => by unfold e_trees at h; cases h
 | .cons c t r, .cons c' t' r', h => by
  unfold e_trees at h
  obtain ⟨h1, h2⟩ := List.cons.inj h
  obtain ⟨h3, h4⟩ := List.cons.inj (D.tup.inj h1)
  obtain ⟨h5, _⟩ := List.cons.inj h4
  rw [ints_inj (D.tup.inj h3), tree_inj h5, trees_inj h2]
end
theorem forL_ok {α E : Type} {e : α → D} {st : E → List S} {tg : D → List S → Option (List S)} {body : MS} {tb : α → E → Option E} : ∀ (xs : List α) (env env' : E), (∀ x ∈ xs, ∀ env env', tb x env = some env' → (tg (e x) (st env)).bind body = some (.nx (st env'))) → foldT tb xs env = some env' →
  forL tg body (xs.map e) (st env) = some (.nx (st env'))
 | [], env, env', _, h => by cases h; rfl
 | x :: xs, env, env', h, hf => by
  have hf : (tb x env).bind (foldT tb xs) = some env' := hf
  obtain ⟨e1, h1, h2⟩ := Option.bind_eq_some_iff.mp hf
  have h3 := h x List.mem_cons_self env e1 h1
  obtain ⟨ρ1, h4, h5⟩ := Option.bind_eq_some_iff.mp h3
  rw [List.map_cons]
  unfold forL
  rw [h4]
  dsimp only
  rw [h5]
  exact forL_ok xs e1 env' (fun y hy => h y (List.mem_cons_of_mem _ hy)) h2
section
variable {ρ : List S} {f : PF} {is : List Nat} {t : M Bool} {b : MS} {r : CF} {d : D} {ds : List D} {fe : M Rv}
theorem sMatch_eq : sMatch fe r ρ = cps fe ρ (fun e ρ => some (.ex e ρ)) fun x ρ => cps (toV x) ρ (fun e ρ => some (.ex e ρ)) r := by
 unfold sMatch
 rw [thenS_eq]
 simp only [cps_bind]
theorem kCase_s (h : f d = some (some ds)) : kCase f is b r d ρ = b (setD is ds ρ) := by unfold kCase; rw [h]
theorem kCaseG_n (h : f d = some none) : kCaseG f is t b r d ρ = r d ρ := by unfold kCaseG; rw [h]
theorem kCaseG_s (h : f d = some (some ds)) : kCaseG f is t b r d ρ = thenS t (fun ok => if ok = true then b else r d) (setD is ds ρ) := by unfold kCaseG; rw [h]
theorem setD_n (ds : List D) : setD [] ds ρ = ρ := by cases ds <;> rfl
theorem setD_c (i : Nat) (is : List Nat) (d : D) (ds : List D) : setD (i :: is) (d :: ds) ρ = setD is ds (ρ.set i (.val d)) := rfl
theorem kNil_eq : kNil d ρ = some (.nx ρ) := rfl
end
theorem plCons_ok {f : PF} {g : PFs} {d : D} {ds a b : List D} (h1 : f d = some (some a)) (h2 : g ds = some (some b)) : plCons f g (d :: ds) = some (some (a ++ b)) := by
 unfold plCons; dsimp only; rw [h1]; dsimp only; rw [h2]
theorem pSeq_t (n : Nat) (g : PFs) (ds : List D) : pSeq n g (.tup ds) = if ds.length = n then g ds else some none := rfl
theorem pStar_t (n i : Nat) (g : PFs) (ds : List D) : pStar n i g (.tup ds) = if 16384 < ds.length then none else if ds.length + 1 < n then some none else g (starD n i ds) := rfl
theorem starD_last (i : Nat) (ds : List D) : starD (i + 1) i ds = ds.take i ++ [.lst (ds.drop i)] := by
 unfold starD
 have e : (ds.drop i).length ≤ ds.length + 1 - (i + 1) := by rw [List.length_drop]; omega
 rw [List.take_of_length_le e, List.drop_of_length_le e, List.append_nil]
abbrev Br : Type := List Int × QT
abbrev e_tt (l : List (List Int)) : List D := List.map (fun x => D.tup (List.map D.int x)) l
abbrev e_brs (bs : List Br) : List D := List.map (fun x => D.tup [D.tup (List.map D.int x.1), e_tree x.2]) bs
section
variable {Fnum Fasc : Fn} {tasc : Bool × List Int → Option (List Int)}
def tb_cells1 (s : Int) (seen : List Int) : Option (List Int) := if s < 0 ∨ s ∈ seen then none else (gz (seen.length + 1)).bind fun _ => some (seen ++ [s])
def tb_cells2 (tasc : Bool × List Int → Option (List Int)) (b : Br) (env : List Int × List (List Int)) : Option (List Int × List (List Int)) :=
 if b.1 = [] ∨ 16384 < b.1.length then none else (foldT tb_cells1 b.1 env.1).bind fun seen => (tasc (false, b.1)).bind fun a => (gz (env.2.length + 1)).bind fun _ => some (seen, env.2 ++ [a])
def t_cells (tasc : Bool × List Int → Option (List Int)) (bs : List Br) : Option (List (List Int)) := (foldT (tb_cells2 tasc) bs ([], [])).bind fun r => some r.2
local macro_rules | `(tactic| simp? only [$as,*] $[$lo]?) => `(tactic| simp only [Tl.ob_some, Tl.ob_none, Tl.ob_assoc, Tl.om_eq, Tl.ob_ite, Tl.gz_small, Tl.gb_true, Tl.tt_true, Tl.ft_false, Tl.ite_T, Tl.ite_F, Tl.ite_fun, Tl.b_not_t, Tl.b_not_f, Tl.b_at, Tl.b_af, Tl.b_ot, Tl.b_of, Tl.b_ta, Tl.b_fa, Tl.g_zero, Tl.g_succ, Tl.s_zero, Tl.s_succ, Tl.gd_zero, Tl.gd_succ, Tl.a_cons, Tl.a_nil, Tl.a_nil2, Tl.m_cons, Tl.m_nil, Tl.m_app, Tl.m_map, Tl.m_idf, Tl.l_cons, Tl.l_nil, Tl.l_map, Tl.l_app, Tl.e_map, Tl.e_cons, Tl.e_nil, Tl.r_zero, Tl.r_succ, Tl.tl_cons, Tl.tl_nil, Tl.any_cons', Tl.any_nil', Tl.all_cons', Tl.all_nil', Tl.mem_one, Tl.eqs_self, Tl.tt_and, Tl.cps_bind, Tl.cps_pure, Tl.cps_fail, Tl.cps_ofO, Tl.cps_ite, Tl.cps_var, Tl.varK_v, Tl.varK_o, Tl.cps_C, Tl.set_v, Tl.set_o, Tl.set_a, Tl.cps_peek_v, Tl.cps_peek_o, Tl.cps_peek_a, Tl.peekK_v, Tl.peekK_o, Tl.cps_toV_v, Tl.cps_toV_o, Tl.cps_toV_a, Tl.toVK_v, Tl.toVK_o, Tl.peeks_n, Tl.peeks_c, Tl.toVs_n, Tl.toVs_c, Tl.toVs_vals, Tl.toVs_vals0, Tl.toVs_mv, Tl.toVs_mv0, Tl.cps_bin, Tl.cps_aNil, Tl.cps_aCons, Tl.it_l, Tl.it_t, Tl.cps_aStar, Tl.cps_eB, Tl.cps_tup, Tl.cps_lst, Tl.ofI_i, Tl.cps_oNo, Tl.cps_oSome, Tl.cps_sl, Tl.cps_neg, Tl.cps_tru, Tl.cps_tVal, Tl.cps_tNot, Tl.cps_tAnd, Tl.cps_tOr, Tl.cps_eNot, Tl.cps_eAnd, Tl.cps_eOr, Tl.cps_eIf, Tl.ofBl_b, Tl.cps_tCmp, Tl.cps_yes, Tl.cps_fld, Tl.cps_frz, Tl.prep_n, Tl.prep_t, Tl.prep_f, Tl.prep_z, Tl.cps_call, Tl.callO_ret, Tl.callO_ex, Tl.na_v, Tl.na_o, Tl.cps_eCall, Tl.ssOfs_n, Tl.ssOfs_c, Tl.ssOf_v, Tl.ssOf_a, Tl.ssK_v, Tl.ssK_o, Tl.dist_n, Tl.dist_v, Tl.dist_a, Tl.isAli_v, Tl.isAli_a, Tl.noAli_n, Tl.noAli_v, Tl.noAli_a, Tl.scaR_o, Tl.scaR_v, Tl.sca_n, Tl.sca_b, Tl.sca_i, Tl.sca_s, Tl.sca_l, Tl.sca_t, Tl.sca_ob, Tl.back_n, Tl.back_v, Tl.back_a, Tl.back1_eq, Tl.b1K_o, Tl.b1K_v, Tl.ownOr_o, Tl.cps_makeM, Tl.makeO_ret, Tl.makeO_ex, Tl.cps_eMake, Tl.cps_ckC, Tl.cps_ckO, Tl.cps_meth, Tl.cps_own2, Tl.cps_ownIn, Tl.ownLst_a, Tl.ownK_o, Tl.cps_append, Tl.ofL_l, Tl.cps_extend, Tl.cps_clear, Tl.cps_iSeq, Tl.cps_rng1, Tl.cps_rng2, Tl.cps_zip, Tl.cps_enu, Tl.rangeD_eq, Tl.dRng1_eq, Tl.dRng2_eq, Tl.dZip_l, Tl.dZip_t, Tl.dEnum_l, Tl.dEnum_t, Tl.sSeq_eq, Tl.sq_none, Tl.sq_nx, Tl.sq_rt, Tl.sq_ct, Tl.sq_bk, Tl.sq_ex, Tl.sq_bind, Tl.sq_ite, Tl.thenS_eq, Tl.sNil_eq, Tl.sPass_eq, Tl.sBreak_eq, Tl.sCont_eq, Tl.sNever_eq, Tl.sRetN_eq, Tl.sExpr_eq, Tl.retV_v, Tl.retV_o, Tl.retV_a, Tl.retK_v, Tl.retK_o, Tl.sRet_eq, Tl.setV_v, Tl.setV_o, Tl.setV_a, Tl.setK_v, Tl.setK_o, Tl.sSet_eq, Tl.sIf_eq, Tl.sFor_eq, Tl.asg_eq, Tl.sAsg_eq, Tl.sSetIx_eq, Tl.ownObj_a, Tl.ownObK_o, Tl.sSetF_eq, Tl.putF2_n, Tl.putF2_c, Tl.lkF_c, Tl.fldO_eq, Tl.nrm_n, Tl.nrm_k, Tl.nrm_f, Tl.frz1_o, Tl.frz1_v, Tl.frz1_n, Tl.kil_n, Tl.kil_c, Tl.sFore_eq, Tl.sAft_eq, Tl.sFz_eq, Tl.aq_bind, Tl.aq_ite, Tl.aq_none, Tl.aq_nx, Tl.aq_ct, Tl.aq_bk, Tl.aq_rt, Tl.aq_ex, Tl.sRtA_eq, Tl.rq_bind, Tl.rq_ite, Tl.rq_none, Tl.rq_rtv, Tl.rq_rto, Tl.rq_ex, Tl.gN_eq, Tl.gT_eq, Tl.gsN_eq, Tl.gsC_eq, Tl.rtn_bind, Tl.rtn_ite, Tl.rtn_none, Tl.rtn_nx, Tl.rtn_rtv, Tl.rtn_rto, Tl.rtn_ex, Tl.post_n, Tl.post_v, Tl.post_o, Tl.sq_lpO, Tl.aq_lpO, Tl.sq_k, Tl.aq_k, Tl.rq_k, Tl.rtn_k, Tl.ob_k, Tl.cfO_nx, Tl.cfO_ct, Tl.cfO_bk, Tl.cfO_rt, Tl.cps_lc, Tl.noOwn_n, Tl.noOwn_c, Tl.isOwn_o, Tl.isOwn_v, Tl.isOwn_n, Tl.wipe_n, Tl.wipe_c, Tl.back_n', Tl.back_c', Tl.add_ii, Tl.add_tt, Tl.add_ll, Tl.sub_ii, Tl.mul_ii, Tl.div_ii, Tl.mod_ii, Tl.pow_ii, Tl.lt_ii, Tl.le_ii, Tl.gt_ii, Tl.ge_ii, Tl.eO_none, Tl.eO_some, Tl.lt_io, Tl.gt_io, Tl.lt_oi, Tl.gt_oi, Tl.is_oi, Tl.isn_oi, Tl.is_ot, Tl.isn_ot, Tl.sca_oi, Tl.sca_ob', Tl.is_bb, Tl.isn_bb, Tl.is_nn, Tl.is_in, Tl.is_ln, Tl.is_tn, Tl.is_on, Tl.isn_nn, Tl.isn_in, Tl.isn_ln, Tl.isn_tn, Tl.isn_on, Tl.it_sq, Tl.eSq_t, Tl.eSq_l, Tl.len_sq, Tl.eq_ii, Tl.ne_ii, Tl.eq_bb, Tl.ne_bb, Tl.eq_li, Tl.ne_li, Tl.eq_ti, Tl.ne_ti, Tl.eq_l0, Tl.ne_l0, Tl.in_il, Tl.in_it, Tl.in_is, Tl.notIn_il, Tl.notIn_it, Tl.notIn_is, Tl.in_rl, Tl.notIn_rl, Tl.tru_n, Tl.tru_b, Tl.tru_i, Tl.tru_l, Tl.tru_t, Tl.ix_lc, Tl.ix_tc, Tl.ix_lm, Tl.ix_tm, Tl.ix_sm, Tl.ix_sc, Tl.atI_map', Tl.at0, Tl.at1, Tl.at2, Tl.at3, Tl.set_map, Tl.sl_l, Tl.sl_t, Tl.len_l, Tl.len_t, Tl.len_s, Tl.int_i, Tl.int_b, Tl.max_ii, Tl.min_ii, Tl.list_l, Tl.list_t, Tl.list_s, Tl.tuple_l, Tl.tuple_t, Tl.tuple_s, Tl.sorted_i, Tl.maxL_i, Tl.minL_i, Tl.sum_i, Tl.all_b, Tl.any_b, Tl.isi_eq, Tl.ty_n, Tl.ty_b, Tl.ty_i, Tl.ty_s, Tl.ty_l, Tl.ty_t, Tl.il_ii, Tl.il_ib, Tl.il_it, Tl.il_il, Tl.il_bb, Tl.il_bi, Tl.il_bl, Tl.il_bt, Tl.il_ll, Tl.il_lt, Tl.il_li, Tl.il_lb, Tl.il_tt, Tl.il_tl, Tl.il_ti, Tl.il_tb, Tl.il_ss, Tl.il_si, Tl.il_sb, Tl.il_ni, Tl.il_nb, Tl.il_nl, Tl.il_nt, Tl.cps_lc2, Tl.augK_v, Tl.sAug_eq, Tl.gadd_ii, Tl.gsub_ii, Tl.gmul_ii, Tl.cps_ownIx, Tl.cps_ownCall, Tl.cps_lrg, Tl.cps_iOwn, Tl.cps_lOwn, Tl.cps_lent, Tl.lentK_eq, Tl.lent_and, Tl.scaRv_i, Tl.scaRv_b, Tl.frzA_n, Tl.frzA_c, Tl.fzS_n, Tl.fzS_v, Tl.fzS_o, Tl.ownL_n, Tl.ownL_no, Tl.ownL_v, Tl.ownL_o, Tl.e_tree_fin, Tl.e_tree_ask, Tl.ix_tree0, Tl.ix_tree1, Tl.ix_tree2, Tl.len_tree, Tl.eq_tag_end, Tl.eq_tag_ask, Tl.ne_tag_end, Tl.ne_tag_ask, Tl.so_t, Tl.so_f, Tl.ite_same, Tl.cps_un, Tl.l1_o, Tl.cps_aTmpR, Tl.cps_aTmp, Tl.cps_aConsT, Tl.tkK_v, Tl.tkK_o, Tl.tk_z, Tl.tk_s, Tl.cps_callT, Tl.cps_eCallT, Tl.cps_eCallK, Tl.cps_dix, Tl.il_ns, Tl.il_bs, Tl.il_is, Tl.il_ls, Tl.il_ts, Tl.il_sl, Tl.il_st, Tl.sMatch_eq, Tl.setD_n, Tl.setD_c, Tl.kNil_eq, reduceIte, Nat.reduceAdd, Nat.reduceSub, Nat.reduceMul, Nat.reduceLT, Nat.reduceGT, Nat.reduceLeDiff, Nat.reduceEqDiff, Nat.reduceBEq, Nat.reduceBNe, Int.reduceNeg, Int.reduceAdd, Int.reduceSub, Int.reduceMul, Int.reduceLT, Int.reduceLE, Int.reduceGT, Int.reduceGE, Int.reduceEq, Int.reduceNe, Int.reduceBEq, Int.reduceBNe, Int.reducePow, $as,*] $[$lo]?)
theorem cells_step1 (hnum : ∀ i : Int, Fnum [.val (.int i)] = some (.ret (.val (.bl (decide (0 ≤ i)))) [.val (.int i)])) {s0 s1 s3 s4 s6 s7 s8 s9 s10 : S} (s : Int) (seen : List Int) {r : List Int} (h : tb_cells1 s seen = some r) :
  b_checked_cells_1 Fnum [s0, s1, .own (.lst (seen.map D.int)), s3, s4, .val (.int s), s6, s7, s8, s9, s10] = some (.nx [s0, s1, .own (.lst (r.map D.int)), s3, s4, .no, s6, s7, s8, s9, s10]) := by
 unfold tb_cells1 at h
 by_cases hs : s < 0 ∨ s ∈ seen
 · rw [if_pos hs] at h; cases h
 · rw [if_neg hs] at h
   obtain ⟨_, hg, h⟩ := Option.bind_eq_some_iff.mp h
   cases h
   have h0 : (0 : Int) ≤ s := by omega
   have h1 : ¬ s ∈ seen := fun z => hs (.inr z)
   simp? only [b_checked_cells_1, eIn, hnum, h0, h1, decide_true, decide_false, hg]
theorem cells_step2 (hnum : ∀ i : Int, Fnum [.val (.int i)] = some (.ret (.val (.bl (decide (0 ≤ i)))) [.val (.int i)]))
  (hasc : ∀ q : List Int, Fasc [.val (.lst (q.map D.int))] = (tasc (false, q)).bind fun r => some (.ret (.val (.tup (r.map D.int))) [.val (.lst (q.map D.int))])) {s0 s1 : S} (b : Br) (env r : List Int × List (List Int)) (h : tb_cells2 tasc b env = some r) :
  (gN 4 (D.tup [D.tup (List.map D.int b.1), e_tree b.2]) [s0, s1, .own (.lst (env.1.map D.int)), .own (.lst (e_tt env.2)), .no, .no, .no, .no, .no, .no, .no]).bind (b_checked_cells_2 Fnum Fasc) =
   some (.nx [s0, s1, .own (.lst (r.1.map D.int)), .own (.lst (e_tt r.2)), .no, .no, .no, .no, .no, .no, .no]) := by
 obtain ⟨c, t⟩ := b
 obtain ⟨seen, cells⟩ := env
 unfold tb_cells2 at h
 dsimp only at h ⊢
 by_cases hc : c = [] ∨ 16384 < c.length
 · rw [if_pos hc] at h; cases h
 rw [if_neg hc] at h
 obtain ⟨seen', h1, h⟩ := Option.bind_eq_some_iff.mp h
 obtain ⟨a, h2, h⟩ := Option.bind_eq_some_iff.mp h
 obtain ⟨_, h3, h⟩ := Option.bind_eq_some_iff.mp h
 cases h
 cases c with
 | nil => exact absurd (.inl rfl) hc
 | cons x xs =>
  have hz : ¬ 16384 < (x :: xs).length := fun z => hc (.inr z)
  have hz' : ¬ 16384 < (D.int x :: xs.map D.int).length := by rw [List.length_cons, List.length_map]; exact hz
  have hp : (pSeq 2 (plCons (pStar 2 1 (plCons pCap (plStar plNil))) (plCons pCap plNil))) (D.tup [D.tup (List.map D.int (x :: xs)), e_tree t]) = some (some [.int x, .lst (xs.map D.int), e_tree t]) := by
   show (if ([D.tup (List.map D.int (x :: xs)), e_tree t] : List D).length = 2 then (plCons (pStar 2 1 (plCons pCap (plStar plNil))) (plCons pCap plNil)) [D.tup (List.map D.int (x :: xs)), e_tree t] else some none) = _
   rw [if_pos (by simp)]
   have h0 : pStar 2 1 (plCons pCap (plStar plNil)) (D.tup (List.map D.int (x :: xs))) = some (some [.int x, .lst (xs.map D.int)]) := by
    show (if 16384 < (D.int x :: xs.map D.int).length then none else if (D.int x :: xs.map D.int).length + 1 < 2 then some none else (plCons pCap (plStar plNil)) (starD 2 1 (D.int x :: xs.map D.int))) = _
    rw [if_neg hz', if_neg (by rw [List.length_cons]; omega), starD_last]
    rfl
   exact plCons_ok h0 rfl
  have hl : gz (x :: xs).length = some () := if_pos (by rw [PySem.sizeLine_eq]; omega)
  have hfor : forL (gN 5) (b_checked_cells_1 Fnum) (D.int x :: List.map D.int xs) [s0, s1, .own (.lst (seen.map D.int)), .own (.lst (e_tt cells)), .val (D.tup [D.tup (D.int x :: List.map D.int xs), e_tree t]), .no, .no, .val (e_tree t), .val (.lst (D.int x :: List.map D.int xs)), .val (.int x), .val (.lst (xs.map D.int))] = some (.nx [s0, s1, .own (.lst (seen'.map D.int)), .own (.lst (e_tt cells)), .val (D.tup [D.tup (D.int x :: List.map D.int xs), e_tree t]), .no, .no, .val (e_tree t), .val (.lst (D.int x :: List.map D.int xs)), .val (.int x), .val (.lst (xs.map D.int))]) :=
   forL_ok (e := D.int) (st := fun seen : List Int => [s0, s1, .own (.lst (seen.map D.int)), .own (.lst (e_tt cells)), .val (D.tup [D.tup (D.int x :: List.map D.int xs), e_tree t]), .no, .no, .val (e_tree t), .val (.lst (D.int x :: List.map D.int xs)), .val (.int x), .val (.lst (xs.map D.int))]) (tg := gN 5) (body := b_checked_cells_1 Fnum) (tb := tb_cells1) (x :: xs) seen seen' (fun y _ env env' he => show b_checked_cells_1 Fnum _ = _ from cells_step1 hnum y env he) h1
  have hasc' : Fasc [.val (.lst (D.int x :: List.map D.int xs))] = some (.ret (.val (.tup (a.map D.int))) [.val (.lst (D.int x :: List.map D.int xs))]) := by
   have := hasc (x :: xs)
   rw [h2] at this
   exact this
  have he : e_tt (cells ++ [a]) = e_tt cells ++ [D.tup (a.map D.int)] := by show List.map _ _ = _; rw [List.map_append]; rfl
  have hp' := kCase_s (is := [9, 10, 7]) (b := sSet 2 8 (eLst (aCons (eVar 9) (aStar (eVar 10) aNil)))) (r := kCase pCap [6] sNever kNil) (ρ := [s0, s1, .own (.lst (seen.map D.int)), .own (.lst (e_tt cells)), .val (D.tup [D.tup (D.int x :: List.map D.int xs), e_tree t]), .no, .no, .no, .no, .no, .no]) hp
  have hp2 : kCase (pSeq 2 (plCons (pStar 2 1 (plCons pCap (plStar plNil))) (plCons pCap plNil))) [9, 10, 7] (sSet 2 8 (eLst (aCons (eVar 9) (aStar (eVar 10) aNil)))) (kCase pCap [6] sNever kNil) (D.tup [D.tup (D.int x :: List.map D.int xs), e_tree t]) [s0, s1, .own (.lst (seen.map D.int)), .own (.lst (e_tt cells)), .val (D.tup [D.tup (D.int x :: List.map D.int xs), e_tree t]), .no, .no, .no, .no, .no, .no] = _ := hp'
  rw [he]
  have hnil : xs.map D.int ++ [] = xs.map D.int := List.append_nil _
  have hL0 : List.map D.int (x :: xs) = (D.int x :: List.map D.int xs) := rfl
  rw [hL0]
  simp only [b_checked_cells_2, gN_eq, ob_some, s_zero, s_succ, sAft_eq, sSeq_eq, sMatch_eq, cps_var, g_zero, g_succ, varK_v, cps_toV_v, hp2]
  simp? only [hfor, hasc']
  rw [show gz (xs.length + 0 + 1) = some () from hl, Option.bind_some, h3, Option.bind_some]
theorem cells_true (hnum : ∀ i : Int, Fnum [.val (.int i)] = some (.ret (.val (.bl (decide (0 ≤ i)))) [.val (.int i)]))
  (hasc : ∀ q : List Int, Fasc [.val (.lst (q.map D.int))] = (tasc (false, q)).bind fun r => some (.ret (.val (.tup (r.map D.int))) [.val (.lst (q.map D.int))])) (bs : List Br) (path : D) (r : List (List Int)) (h : t_cells tasc bs = some r) :
  Fn_cells Fnum Fasc [.val (.lst (e_brs bs)), .val path] = some (.ret (.own (.lst (e_tt r))) [.val (.lst (e_brs bs)), .val path]) := by
 unfold t_cells at h
 obtain ⟨q, h1, h⟩ := Option.bind_eq_some_iff.mp h
 cases h
 show mkFn _ _ _ _ = _
 rw [mkFn_eq]
 have hfor := forL_ok (e := fun x : Br => D.tup [D.tup (List.map D.int x.1), e_tree x.2]) (st := fun env : List Int × List (List Int) => [.val (.lst (e_brs bs)), .val path, .own (.lst (env.1.map D.int)), .own (.lst (e_tt env.2)), .no, .no, .no, .no, .no, .no, .no]) (tg := gN 4) (body := b_checked_cells_2 Fnum Fasc) (tb := tb_cells2 tasc) bs ([], []) q (fun y _ env env' he => cells_step2 hnum hasc y env env' he) h1
 have hfor' : forL (gN 4) (b_checked_cells_2 Fnum Fasc) (e_brs bs) [.val (.lst (e_brs bs)), .val path, .own (.lst []), .own (.lst []), .no, .no, .no, .no, .no, .no, .no] = _ := hfor
 simp? only [f_checked_cells]
 rw [hfor']
 simp? only [Tl.ob_some]
def tb_checked (tc : QT → List Int → Option QT) (brs : List Br) (path : List Int) (it : Int × List Int) (kept : List Br) : Option (List Br) :=
 (atI brs it.1).bind fun b => (gz (path.length + 1)).bind fun _ => (tc b.2 (path ++ [it.1])).bind fun t => (gz (kept.length + 1)).bind fun _ => some (kept ++ [(it.2, t)])
def t_checked (tasc : Bool × List Int → Option (List Int)) : Nat → QT → List Int → Option QT
 | 0, _, _ => none
 | _ + 1, .fin x, _ => if 0 ≤ x then some (.fin x) else none
 | n + 1, .ask p bs, path => if bs.l.length < 2 ∨ 16384 < bs.l.length ∨ p < 0 then none else
  (t_cells tasc bs.l).bind fun cells => (enuT cells).bind fun es => (foldT (tb_checked (t_checked tasc n) bs.l path) es []).bind fun kept => some (.ask p (QTs.of kept))
theorem pStr_yes {x : Str} (h : PyData.strOk x = true) : pStr x (.str x) = some (some []) := by
 unfold pStr
 rw [eqS h h]
 simp
theorem checked_step {F : Fn} {tc : QT → List Int → Option QT} {bs : List Br} {path : List Int} (hF : ∀ t path r, tc t path = some r → F [.val (e_tree t), .val (.tup (path.map D.int))] = some (.ret (.val (e_tree r)) [.val (e_tree t), .val (.tup (path.map D.int))]))
  {s0 s2 s3 s5 s7 s8 s9 : S} (it : Int × List Int) (kept r : List Br) (h : tb_checked tc bs path it kept = some r) :
  (gT 2 (gsCons (gN 10) (gsCons (gN 11) gsNil)) (D.tup [.int it.1, .tup (it.2.map D.int)]) [s0, .val (.tup (path.map D.int)), s2, s3, .val (.lst (e_brs bs)), s5, .own (.lst (e_brs kept)), s7, s8, s9, .no, .no]).bind (b_checked_1 F) =
   some (.nx [s0, .val (.tup (path.map D.int)), s2, s3, .val (.lst (e_brs bs)), s5, .own (.lst (e_brs r)), s7, s8, s9, .no, .no]) := by
 unfold tb_checked at h
 obtain ⟨b, h1, h⟩ := Option.bind_eq_some_iff.mp h
 obtain ⟨_, h2, h⟩ := Option.bind_eq_some_iff.mp h
 obtain ⟨t, h3, h⟩ := Option.bind_eq_some_iff.mp h
 obtain ⟨_, h4, h⟩ := Option.bind_eq_some_iff.mp h
 cases h
 have hf := hF _ _ _ h3
 have hp : (path ++ [it.1]).map D.int = path.map D.int ++ [.int it.1] := by rw [List.map_append]; rfl
 rw [hp] at hf
 have he : e_brs (kept ++ [(it.2, t)]) = e_brs kept ++ [D.tup [D.tup (it.2.map D.int), e_tree t]] := by show List.map _ _ = _; rw [List.map_append]; rfl
 rw [he]
 simp? only [b_checked_1, gT_eq, gsN_eq, gsC_eq, h1, h2, hf, h4]
theorem checked_true (hnum : ∀ i : Int, Fnum [.val (.int i)] = some (.ret (.val (.bl (decide (0 ≤ i)))) [.val (.int i)]))
  (hasc : ∀ q : List Int, Fasc [.val (.lst (q.map D.int))] = (tasc (false, q)).bind fun r => some (.ret (.val (.tup (r.map D.int))) [.val (.lst (q.map D.int))])) : ∀ (n : Nat) (t : QT) (path : List Int) (r : QT), t_checked tasc n t path = some r →
  FnR_checked (Fn_cells Fnum Fasc) n [.val (e_tree t), .val (.tup (path.map D.int))] = some (.ret (.val (e_tree r)) [.val (e_tree t), .val (.tup (path.map D.int))])
 | 0, _, _, _, h => by cases h
 | n + 1, .fin x, path, r, h => by
  unfold t_checked at h
  by_cases hx : 0 ≤ x
  · rw [if_pos hx] at h
    cases h
    show mkFn _ _ _ _ = _
    rw [mkFn_eq]
    have hp : pSeq 2 (plCons (pStr "end") (plCons pCap plNil)) (.tup [.str "end", .int x]) = some (some [.int x]) := by
     show (if ([.str "end", .int x] : List D).length = 2 then plCons (pStr "end") (plCons pCap plNil) [.str "end", .int x] else some none) = _
     rw [if_pos (by simp)]
     exact plCons_ok (pStr_yes ok_end) rfl
    have hd : decide (0 ≤ x) = true := decide_eq_true hx
    simp? only [f_checked, kCaseG_s hp, eGe, hd]
  · rw [if_neg hx] at h; cases h
 | n + 1, .ask p bs, path, r, h => by
  unfold t_checked at h
  by_cases hb : bs.l.length < 2 ∨ 16384 < bs.l.length ∨ p < 0
  · rw [if_pos hb] at h; cases h
  rw [if_neg hb] at h
  obtain ⟨cells, h1, h⟩ := Option.bind_eq_some_iff.mp h
  obtain ⟨es, h2, h⟩ := Option.bind_eq_some_iff.mp h
  obtain ⟨kept, h3, h⟩ := Option.bind_eq_some_iff.mp h
  cases h
  have hl2 : 2 ≤ bs.l.length := by omega
  have hz : bs.l.length ≤ 16384 := by omega
  have hp0 : 0 ≤ p := by omega
  generalize hbr : bs.l = brs at *
  match brs, hl2 with
  | b0 :: b1 :: rest, _ =>
  rw [e_tree_a, e_trees_l, hbr]
  have hbd : List.map (fun x : Br => D.tup [D.tup (List.map D.int x.1), e_tree x.2]) (b0 :: b1 :: rest) = (D.tup [D.tup (List.map D.int b0.1), e_tree b0.2] :: D.tup [D.tup (List.map D.int b1.1), e_tree b1.2] :: e_brs rest) := rfl
  rw [hbd]
  show mkFn 2 12 (f_checked (Fn_cells Fnum Fasc) (FnR_checked (Fn_cells Fnum Fasc) n)) _ = _
  rw [mkFn_eq]
  have hn1 : pSeq 2 (plCons (pStr "end") (plCons pCap plNil)) (D.tup [.str "ask", .int p, .tup (D.tup [D.tup (List.map D.int b0.1), e_tree b0.2] :: D.tup [D.tup (List.map D.int b1.1), e_tree b1.2] :: e_brs rest)]) = some none := by
   rw [pSeq_t, if_neg (by simp)]
  have hs : pStar 3 2 (plCons pCap (plCons pCap (plStar plNil))) (.tup (D.tup [D.tup (List.map D.int b0.1), e_tree b0.2] :: D.tup [D.tup (List.map D.int b1.1), e_tree b1.2] :: e_brs rest)) = some (some [D.tup [D.tup (List.map D.int b0.1), e_tree b0.2], D.tup [D.tup (List.map D.int b1.1), e_tree b1.2], .lst (e_brs rest)]) := by
   have hzz : (D.tup [D.tup (List.map D.int b0.1), e_tree b0.2] :: D.tup [D.tup (List.map D.int b1.1), e_tree b1.2] :: e_brs rest).length = rest.length + 1 + 1 := by rw [List.length_cons, List.length_cons, List.length_map]
   rw [pStar_t, if_neg (by rw [hzz]; exact fun z => by simp only [List.length_cons] at hz; omega), if_neg (by rw [hzz]; omega), starD_last]
   rfl
  have hp2 : pSeq 3 (plCons (pStr "ask") (plCons pCap (plCons (pStar 3 2 (plCons pCap (plCons pCap (plStar plNil)))) plNil))) (D.tup [.str "ask", .int p, .tup (D.tup [D.tup (List.map D.int b0.1), e_tree b0.2] :: D.tup [D.tup (List.map D.int b1.1), e_tree b1.2] :: e_brs rest)]) = some (some [.int p, D.tup [D.tup (List.map D.int b0.1), e_tree b0.2], D.tup [D.tup (List.map D.int b1.1), e_tree b1.2], .lst (e_brs rest)]) := by
   rw [pSeq_t, if_pos (by simp)]
   have h0 := plCons_ok (f := pCap) (a := [D.int p]) (d := D.int p) rfl (plCons_ok (g := plNil) (b := []) (ds := []) hs rfl)
   exact plCons_ok (a := []) (pStr_yes ok_ask) h0
  have hd : decide (p < 0) = false := decide_eq_false (by omega)
  have hlen : gz (rest.length + 0 + 1 + 1) = some () := if_pos (by rw [PySem.sizeLine_eq]; simp only [List.length_cons] at hz; omega)
  have hlen2 : gz (rest.length + 1 + 1) = some () := if_pos (by rw [PySem.sizeLine_eq]; simp only [List.length_cons] at hz; omega)
  have hcells : Fn_cells Fnum Fasc [.val (.lst (D.tup [D.tup (List.map D.int b0.1), e_tree b0.2] :: D.tup [D.tup (List.map D.int b1.1), e_tree b1.2] :: e_brs rest)), .val (.tup (path.map D.int))] = some (.ret (.own (.lst (e_tt cells))) [.val (.lst (D.tup [D.tup (List.map D.int b0.1), e_tree b0.2] :: D.tup [D.tup (List.map D.int b1.1), e_tree b1.2] :: e_brs rest)), .val (.tup (path.map D.int))]) := cells_true hnum hasc (b0 :: b1 :: rest) (.tup (path.map D.int)) cells h1
  have hck : ∀ t path r, t_checked tasc n t path = some r → FnR_checked (Fn_cells Fnum Fasc) n [.val (e_tree t), .val (.tup (path.map D.int))] = some (.ret (.val (e_tree r)) [.val (e_tree t), .val (.tup (path.map D.int))]) := fun t path r hr => checked_true hnum hasc n t path r hr
  have hfor : forL (gT 2 (gsCons (gN 10) (gsCons (gN 11) gsNil))) (b_checked_1 (FnR_checked (Fn_cells Fnum Fasc) n)) (List.map (fun x : Int × List Int => D.tup [.int x.1, .tup (x.2.map D.int)]) es) [.val (D.tup [.str "ask", .int p, .tup (D.tup [D.tup (List.map D.int b0.1), e_tree b0.2] :: D.tup [D.tup (List.map D.int b1.1), e_tree b1.2] :: e_brs rest)]), .val (.tup (path.map D.int)), .no, .val (.int p), .val (.lst (D.tup [D.tup (List.map D.int b0.1), e_tree b0.2] :: D.tup [D.tup (List.map D.int b1.1), e_tree b1.2] :: e_brs rest)), .val (.lst (e_tt cells)), .own (.lst []), .val (D.tup [D.tup (List.map D.int b0.1), e_tree b0.2]), .val (D.tup [D.tup (List.map D.int b1.1), e_tree b1.2]), .val (.lst (e_brs rest)), .no, .no] = some (.nx [.val (D.tup [.str "ask", .int p, .tup (D.tup [D.tup (List.map D.int b0.1), e_tree b0.2] :: D.tup [D.tup (List.map D.int b1.1), e_tree b1.2] :: e_brs rest)]), .val (.tup (path.map D.int)), .no, .val (.int p), .val (.lst (D.tup [D.tup (List.map D.int b0.1), e_tree b0.2] :: D.tup [D.tup (List.map D.int b1.1), e_tree b1.2] :: e_brs rest)), .val (.lst (e_tt cells)), .own (.lst (e_brs kept)), .val (D.tup [D.tup (List.map D.int b0.1), e_tree b0.2]), .val (D.tup [D.tup (List.map D.int b1.1), e_tree b1.2]), .val (.lst (e_brs rest)), .no, .no]) :=
   forL_ok (e := fun x : Int × List Int => D.tup [.int x.1, .tup (x.2.map D.int)]) (st := fun kept : List Br => [.val (D.tup [.str "ask", .int p, .tup (D.tup [D.tup (List.map D.int b0.1), e_tree b0.2] :: D.tup [D.tup (List.map D.int b1.1), e_tree b1.2] :: e_brs rest)]), .val (.tup (path.map D.int)), .no, .val (.int p), .val (.lst (D.tup [D.tup (List.map D.int b0.1), e_tree b0.2] :: D.tup [D.tup (List.map D.int b1.1), e_tree b1.2] :: e_brs rest)), .val (.lst (e_tt cells)), .own (.lst (e_brs kept)), .val (D.tup [D.tup (List.map D.int b0.1), e_tree b0.2]), .val (D.tup [D.tup (List.map D.int b1.1), e_tree b1.2]), .val (.lst (e_brs rest)), .no, .no])
    (tg := gT 2 (gsCons (gN 10) (gsCons (gN 11) gsNil))) (body := b_checked_1 (FnR_checked (Fn_cells Fnum Fasc) n)) (tb := tb_checked (t_checked tasc n) (b0 :: b1 :: rest) path) es [] kept (fun it _ env env' he => checked_step (tc := t_checked tasc n) (bs := b0 :: b1 :: rest) (path := path) (F := FnR_checked (Fn_cells Fnum Fasc) n) hck it env env' he) h3
  rw [e_tree_ask]
  simp? only [f_checked, kCaseG_n hn1, kCaseG_s hp2, eLt, hd, hlen, hlen2, hcells, h2, hfor]
end
end
end Tl
namespace Tl
open PySem Dl
open L2 (ixN atI)
section
variable {γ : Type} {ρ : List S} {kx : Xn → List S → Option γ} {fa : M Rv} {lt : M (List Rv × List D)} {lt2 : M P2}
theorem cps_aTmp2R (k : P2 → List S → Option γ) (p : List Rv × List D) (ds : List D) : cps (aTmp2R p ds) ρ kx k = k (.ali (ρ.length + 1) :: p.1, ds, p.2) ρ := rfl
theorem cps_aTmp2 (k : P2 → List S → Option γ) : cps (aTmp2 fa lt) ρ kx k = cps fa ρ kx fun r ρ1 => (lstOf1 r).bind fun ds => cps lt ρ1 kx fun p ρ2 => k (.ali (ρ2.length + 1) :: p.1, ds, p.2) ρ2 := by
 unfold aTmp2; simp only [cps_bind, cps_ofO, cps_aTmp2R]
theorem cps_aConsT2 (k : P2 → List S → Option γ) : cps (aConsT2 fa lt2) ρ kx k = cps fa ρ kx fun r ρ1 => cps lt2 ρ1 kx fun p ρ2 => k (Dl.settle r :: p.1, p.2) ρ2 := by
 unfold aConsT2; simp only [cps_bind, cps_pure]
theorem cps_callT2 (mu : List Bool) (fn : Fn) (p : P2) (k : Rv → List S → Option γ) : cps (callT2 mu fn p) ρ kx k = cps (callM mu fn p.1) (ρ ++ [.own (.lst p.2.2)] ++ [.own (.lst p.2.1)]) (fun e ρ' => kx e (ρ'.take ρ.length)) fun r ρ' => tkK r fun r => k r (ρ'.take ρ.length) := by
 unfold callT2 cps
 dsimp only
 cases callM mu fn p.1 (ρ ++ [.own (.lst p.2.2)] ++ [.own (.lst p.2.1)]) with
 | none => rfl
 | some o =>
  cases o with
  | ex e ρ' => rfl
  | ok r ρ' => cases r <;> rfl
theorem cps_eCallT2 (mu : List Bool) (fn : Fn) (k : Rv → List S → Option γ) : cps (eCallT2 mu fn lt2) ρ kx k = cps lt2 ρ kx fun p ρ1 => cps (callT2 mu fn p) ρ1 kx k := by
 unfold eCallT2; simp only [cps_bind]
end
def ofTp : D → Option (List D)
 | .tup xs => some xs
 | _ => none
theorem ofTp_t (xs : List D) : ofTp (.tup xs) = some xs := rfl
section
variable {γ : Type} {ρ : List S} {kx : Xn → List S → Option γ} {fa fb : M Rv}
theorem cps_extendT (k : Rv → List S → Option γ) : cps (mExtendT fa fb) ρ kx k = cps fa ρ kx fun r ρ1 => (ownLst (Dl.settle r) ρ1).bind fun _ => cps fb ρ1 kx fun x ρ2 => cps (peek (Dl.settle x)) ρ2 kx fun d ρ3 => (ownLst (Dl.settle r) ρ3).bind fun p => (ofTp d).bind fun es => (gz (p.2.length + es.length)).bind fun _ => k (.val .non) (ρ3.set p.1 (.own (.lst (p.2 ++ es)))) := by
 unfold mExtendT; refine (cps_bind _ _ k).trans ?_
 congr 1; funext r ρ1
 have e1 : ∀ (h : Unit → List S → Option γ), cps (ckL (Dl.settle r)) ρ1 kx h = (ownLst (Dl.settle r) ρ1).bind fun _ => h () ρ1 := fun h => by
  unfold cps ckL; cases ownLst (Dl.settle r) ρ1 <;> rfl
 refine (cps_bind _ _ k).trans ?_
 rw [e1]
 congr 1; funext _
 refine (cps_bind _ _ k).trans ?_
 congr 1; funext x ρ2
 refine (cps_bind _ _ k).trans ?_
 congr 1; funext d ρ3
 unfold cps gz
 dsimp only
 cases ownLst (Dl.settle r) ρ3 with
 | none => cases d <;> rfl
 | some p =>
  obtain ⟨i, ds⟩ := p
  dsimp only [Option.bind]
  cases d with
  | tup es =>
   dsimp only [ofTp]
   by_cases h : ds.length + es.length ≤ sizeLine
   · rw [if_pos h, if_pos h]
   · rw [if_neg h, if_neg h]
  | _ => rfl
end
theorem any_bm {α : Type} (f : α → Bool) (xs : List α) : gAny [.lst (xs.map fun a => D.bl (f a))] = some (.val (.bl ((xs.map f).any id))) := by
 have := any_b (xs.map f)
 rw [List.map_map] at this
 exact this
theorem all_bm {α : Type} (f : α → Bool) (xs : List α) : gAll [.lst (xs.map fun a => D.bl (f a))] = some (.val (.bl ((xs.map f).all id))) := by
 have := all_b (xs.map f)
 rw [List.map_map] at this
 exact this
theorem is_otree (o : Option QT) : dIsN (eO e_tree o) .non = some (.val (.bl o.isNone)) := by
 cases o with
 | none => rfl
 | some t => cases t <;> (show dIsN (e_tree _) .non = _) <;> unfold e_tree <;> rfl
theorem isn_otree (o : Option QT) : dNotN (eO e_tree o) .non = some (.val (.bl (!o.isNone))) := by
 cases o with
 | none => rfl
 | some t => cases t <;> (show dNotN (e_tree _) .non = _) <;> unfold e_tree <;> rfl
theorem ne_lt0 (a : List (List Int)) : dNe (.lst (a.map fun x => .tup (x.map .int))) (.lst []) = some (.val (.bl (!decide (a = [])))) := pd_int.tup.lst.ne (by decide) a []
theorem eq_ll0 (a : List (List Int)) : dNe (.lst (a.map fun x => .lst (x.map .int))) (.lst []) = some (.val (.bl (!decide (a = [])))) := pd_int.lst.lst.ne (by decide) a []
theorem int_o (o : Option Int) : gInt [eO D.int o] = o.bind fun i => some (.val (.int i)) := by cases o <;> rfl
theorem ge_oi (i : Int) (o : Option Int) : dGe (eO D.int o) (.int i) = o.bind fun j => some (.val (.bl (decide (i ≤ j)))) := by cases o <;> rfl
theorem le_oi (i : Int) (o : Option Int) : dLe (eO D.int o) (.int i) = o.bind fun j => some (.val (.bl (decide (j ≤ i)))) := by cases o <;> rfl
theorem lpO_E {E : Type} (st : E → List S) (rv : Empty → Rv) (rs : Empty → List S) (o : Cf E Empty) : (some (lpO st rv rs o) : Option Os) = o.k (fun e => some (.nx (st e))) (fun _ => none) := by
 cases o with
 | rt r => exact nomatch r
 | _ => rfl
end Tl
namespace Tl
open PySem Dl
open L2 (ixN atI)
abbrev K2 := Dn.K2
def lkT2 {β : Type} (m : List (K2 × β)) (k : K2) : Option β := (m.find? fun p => decide (p.1 = k)).map (·.2)
def hasT2 {β : Type} (m : List (K2 × β)) (k : K2) : Bool := (lkT2 m k).isSome
def putT2 {β : Type} (m : List (K2 × β)) (k : K2) (v : β) : List (K2 × β) := if hasT2 m k = true then m.map (fun p => if p.1 = k then (p.1, v) else p) else m ++ [(k, v)]
section
variable {β : Type} (e : β → D)
theorem lkN_T : ∀ (m : List (K2 × β)) (k : K2), lkN (List.map (fun x => keyD x.1) m) (List.map (fun x => e x.2) m) k = (lkT2 m k).bind fun v => some (e v)
 | [], k => rfl
 | p :: m, k => by
  show (if keyO (keyD p.1) = some k then some (e p.2) else lkN (List.map (fun x => keyD x.1) m) (List.map (fun x => e x.2) m) k) = _
  rw [keyO_keyD]
  by_cases q : p.1 = k
  · have b : lkT2 (p :: m) k = some p.2 := by simp [lkT2, List.find?_cons, q]
    rw [if_pos (by rw [q]), b]; rfl
  · have b : lkT2 (p :: m) k = lkT2 m k := by simp [lkT2, List.find?_cons, q]
    rw [if_neg (fun z => q (Option.some.inj z)), b]
    exact lkN_T m k
theorem lkN_T_some (m : List (K2 × β)) (k : K2) : (lkN (List.map (fun x => keyD x.1) m) (List.map (fun x => e x.2) m) k).isSome = hasT2 m k := by
 rw [lkN_T]; unfold hasT2; cases lkT2 m k <;> rfl
theorem inN_T (m : List (K2 × β)) (k : K2) : dInN (D.tup (List.map (fun x => D.tup (List.map D.int x)) k)) (.ndi (List.map (fun x => D.tup (List.map (fun x => D.tup (List.map D.int x)) x.1)) m) (List.map (fun x => e x.2) m)) = some (.val (.bl (hasT2 m k))) := by
 show dInN (keyD k) (.ndi (List.map (fun x => keyD x.1) m) _) = _
 unfold dInN
 rw [keyO_keyD]
 dsimp only
 rw [lkN_T_some]
theorem getN_T (m : List (K2 × β)) (k : K2) : dGetN (.ndi (List.map (fun x => D.tup (List.map (fun x => D.tup (List.map D.int x)) x.1)) m) (List.map (fun x => e x.2) m)) (D.tup (List.map (fun x => D.tup (List.map D.int x)) k)) = (lkT2 m k).bind fun v => some (e v) := by
 show dGetN (.ndi (List.map (fun x => keyD x.1) m) _) (keyD k) = _
 unfold dGetN
 rw [keyO_keyD]
 exact lkN_T e m k
theorem replV_T (k : K2) (v : β) : ∀ m : List (K2 × β), replV (List.map (fun x => keyD x.1) m) (List.map (fun x => e x.2) m) k (e v) = (m.map fun p => if p.1 = k then (p.1, v) else p).map (fun x => e x.2)
 | [] => rfl
 | p :: m => by
  show (if keyO (keyD p.1) = some k then e v else e p.2) :: replV (List.map (fun x => keyD x.1) m) (List.map (fun x => e x.2) m) k (e v) = _
  rw [keyO_keyD, replV_T k v m, List.map_cons, List.map_cons]
  by_cases q : p.1 = k
  · rw [if_pos (by rw [q]), if_pos q]
  · rw [if_neg (fun z => q (Option.some.inj z)), if_neg q]
theorem replK_T (k : K2) (v : β) : ∀ m : List (K2 × β), (m.map fun p => if p.1 = k then (p.1, v) else p).map (fun x => keyD x.1) = m.map fun x => keyD x.1
 | [] => rfl
 | p :: m => by
  rw [List.map_cons, List.map_cons, List.map_cons, replK_T k v m]
  by_cases q : p.1 = k
  · rw [if_pos q]
  · rw [if_neg q]
theorem putN_T (m : List (K2 × β)) (k : K2) (v : β) : D.ndi (putKs (List.map (fun x => D.tup (List.map (fun x => D.tup (List.map D.int x)) x.1)) m) (List.map (fun x => e x.2) m) k) (putVs (List.map (fun x => D.tup (List.map (fun x => D.tup (List.map D.int x)) x.1)) m) (List.map (fun x => e x.2) m) k (e v)) =
  .ndi (List.map (fun x => D.tup (List.map (fun x => D.tup (List.map D.int x)) x.1)) (putT2 m k v)) (List.map (fun x => e x.2) (putT2 m k v)) := by
 show D.ndi (putKs (List.map (fun x => keyD x.1) m) _ k) (putVs (List.map (fun x => keyD x.1) m) _ k (e v)) = .ndi (List.map (fun x => keyD x.1) (putT2 m k v)) _
 unfold putKs putVs putT2
 rw [lkN_T_some]
 by_cases q : hasT2 m k = true
 · rw [if_pos q, if_pos q, if_pos q, replK_T, replV_T]
 · rw [if_neg q, if_neg q, if_neg q, List.map_append, List.map_append]; rfl
end
theorem keyO_T (k : K2) : keyO (D.tup (List.map (fun x => D.tup (List.map D.int x)) k)) = some k := keyO_keyD k
abbrev Fnd := Option Int × Option Int
theorem inN_f (m : List (K2 × Fnd)) (k : K2) : dInN (D.tup (List.map (fun x => D.tup (List.map D.int x)) k)) (.ndi (List.map (fun x => D.tup (List.map (fun x => D.tup (List.map D.int x)) x.1)) m) (List.map (fun x => D.tup [eO D.int x.2.1, eO D.int x.2.2]) m)) = some (.val (.bl (hasT2 m k))) := inN_T (fun p : Fnd => D.tup [eO D.int p.1, eO D.int p.2]) m k
theorem getN_f (m : List (K2 × Fnd)) (k : K2) : dGetN (.ndi (List.map (fun x => D.tup (List.map (fun x => D.tup (List.map D.int x)) x.1)) m) (List.map (fun x => D.tup [eO D.int x.2.1, eO D.int x.2.2]) m)) (D.tup (List.map (fun x => D.tup (List.map D.int x)) k)) = (lkT2 m k).bind fun v => some (D.tup [eO D.int v.1, eO D.int v.2]) := getN_T (fun p : Fnd => D.tup [eO D.int p.1, eO D.int p.2]) m k
theorem putN_f (m : List (K2 × Fnd)) (k : K2) (a b : Option Int) : D.ndi (putKs (List.map (fun x => D.tup (List.map (fun x => D.tup (List.map D.int x)) x.1)) m) (List.map (fun x => D.tup [eO D.int x.2.1, eO D.int x.2.2]) m) k) (putVs (List.map (fun x => D.tup (List.map (fun x => D.tup (List.map D.int x)) x.1)) m) (List.map (fun x => D.tup [eO D.int x.2.1, eO D.int x.2.2]) m) k (D.tup [eO D.int a, eO D.int b])) =
  .ndi (List.map (fun x => D.tup (List.map (fun x => D.tup (List.map D.int x)) x.1)) (putT2 m k (a, b))) (List.map (fun x => D.tup [eO D.int x.2.1, eO D.int x.2.2]) (putT2 m k (a, b))) := putN_T (fun p : Fnd => D.tup [eO D.int p.1, eO D.int p.2]) m k (a, b)
section
variable {γ : Type} {ρ : List S} {kx : Xn → List S → Option γ} {fa fb fo : M Rv}
theorem cps_dicN (k : Rv → List S → Option γ) : cps eDicN ρ kx k = k (.own (.ndi [] [])) ρ := by
 unfold eDicN; simp only [cps_pure]
theorem cps_getN (k : Rv → List S → Option γ) : cps (eGetN fa fb) ρ kx k = cps fa ρ kx fun x ρ1 => cps fb ρ1 kx fun y ρ2 => cps (peek (Dl.settle x)) ρ2 kx fun d ρ3 => cps (peek y) ρ3 kx fun e ρ4 => (dGetN d e).bind fun z => k (.val z) ρ4 := by
 unfold eGetN; simp only [cps_bind, cps_ofO, cps_pure]
theorem eInN_eq : eInN fa fb = mBin dInN fa fb := rfl
def ownNK (i : Nat) : Option S → Option (Nat × List D × List D)
 | some (.own (.ndi ks vs)) => some (i, ks, vs)
 | _ => none
theorem ownNdi_a (i : Nat) (ρ : List S) : ownNdi (.ali i) ρ = ownNK i ρ[i]? := by
 unfold ownNdi ownNK
 dsimp only
 all_goals cases ρ[i]? with
 | none => rfl
 | some s => cases s with
  | no => rfl
  | val d => rfl
  | own d => cases d <;> rfl
theorem ownNK_n (i : Nat) (ks vs : List D) : ownNK i (some (.own (.ndi ks vs))) = some (i, ks, vs) := rfl
theorem sSetN_eq : sSetN fa fo fb ρ = cps fa ρ (fun e ρ => some (.ex e ρ)) fun x ρ => cps (toV x) ρ (fun e ρ => some (.ex e ρ)) fun d ρ => cps fo ρ (fun e ρ => some (.ex e ρ)) fun r ρ => cps fb ρ (fun e ρ => some (.ex e ρ)) fun j ρ => cps (peek (Dl.settle j)) ρ (fun e ρ => some (.ex e ρ)) fun e ρ =>
  (ownNdi (Dl.settle r) ρ).bind fun p => (keyO e).bind fun k => (gz (p.2.2.length + 1)).bind fun _ => some (.nx (ρ.set p.1 (.own (.ndi (putKs p.2.1 p.2.2 k) (putVs p.2.1 p.2.2 k d))))) := by
 unfold sSetN
 rw [thenS_eq]; congr 1; funext x ρ
 rw [thenS_eq]; congr 1; funext d ρ
 rw [thenS_eq]; congr 1; funext r ρ
 rw [thenS_eq]; congr 1; funext j ρ
 rw [thenS_eq]; congr 1; funext e ρ
 cases ownNdi (Dl.settle r) ρ with
 | none => rfl
 | some p =>
  cases keyO e with
  | none => rfl
  | some k =>
   show (if p.2.2.length < sizeLine then _ else none) = (gz (p.2.2.length + 1)).bind _
   unfold gz
   by_cases q : p.2.2.length < sizeLine
   · rw [if_pos q, if_pos (by omega)]; rfl
   · rw [if_neg q, if_neg (by omega)]; rfl
end
section
variable {γ : Type} {ρ : List S} {kx : Xn → List S → Option γ} {fa : M Rv} {la : M (List Rv)} {lt : M (List Rv × List D × List D)}
theorem l1N_o (ks vs : List D) : lstOf1N (.own (.ndi ks vs)) = some (ks, vs) := rfl
theorem cps_aTmpRN (k : (List Rv × List D × List D) → List S → Option γ) (rs : List Rv) (ds : List D × List D) : cps (aTmpRN rs ds) ρ kx k = k (.ali ρ.length :: rs, ds) ρ := rfl
theorem cps_aTmpN (k : (List Rv × List D × List D) → List S → Option γ) : cps (aTmpN fa la) ρ kx k = cps fa ρ kx fun r ρ1 => (lstOf1N r).bind fun ds => cps la ρ1 kx fun rs ρ2 => k (.ali ρ2.length :: rs, ds) ρ2 := by
 unfold aTmpN; simp only [cps_bind, cps_ofO, cps_aTmpRN]
theorem cps_aConsTN (k : (List Rv × List D × List D) → List S → Option γ) : cps (aConsTN fa lt) ρ kx k = cps fa ρ kx fun r ρ1 => cps lt ρ1 kx fun p ρ2 => k (Dl.settle r :: p.1, p.2) ρ2 := by
 unfold aConsTN; simp only [cps_bind, cps_pure]
theorem cps_callTN (mu : List Bool) (fn : Fn) (p : List Rv × List D × List D) (k : Rv → List S → Option γ) : cps (callTN mu fn p) ρ kx k = cps (callM mu fn p.1) (ρ ++ [.own (.ndi p.2.1 p.2.2)]) (fun e ρ' => kx e (ρ'.take ρ.length)) fun r ρ' => tkK r fun r => k r (ρ'.take ρ.length) := by
 unfold callTN cps
 dsimp only
 cases callM mu fn p.1 (ρ ++ [.own (.ndi p.2.1 p.2.2)]) with
 | none => rfl
 | some o =>
  cases o with
  | ex e ρ' => rfl
  | ok r ρ' => cases r <;> rfl
theorem cps_eCallTN (mu : List Bool) (fn : Fn) (k : Rv → List S → Option γ) : cps (eCallTN mu fn lt) ρ kx k = cps lt ρ kx fun p ρ1 => cps (callTN mu fn p) ρ1 kx k := by
 unfold eCallTN; simp only [cps_bind]
end
end Tl
namespace Tl
open PySem Dl
open L2 (ixN atI)
theorem inN_i (m : List (K2 × Int)) (k : K2) : dInN (D.tup (List.map (fun x => D.tup (List.map D.int x)) k)) (.ndi (List.map (fun x => D.tup (List.map (fun x => D.tup (List.map D.int x)) x.1)) m) (List.map (fun x => D.int x.2) m)) = some (.val (.bl (hasT2 m k))) := inN_T D.int m k
theorem getN_i (m : List (K2 × Int)) (k : K2) : dGetN (.ndi (List.map (fun x => D.tup (List.map (fun x => D.tup (List.map D.int x)) x.1)) m) (List.map (fun x => D.int x.2) m)) (D.tup (List.map (fun x => D.tup (List.map D.int x)) k)) = (lkT2 m k).bind fun v => some (D.int v) := getN_T D.int m k
theorem putN_i (m : List (K2 × Int)) (k : K2) (a : Int) : D.ndi (putKs (List.map (fun x => D.tup (List.map (fun x => D.tup (List.map D.int x)) x.1)) m) (List.map (fun x => D.int x.2) m) k) (putVs (List.map (fun x => D.tup (List.map (fun x => D.tup (List.map D.int x)) x.1)) m) (List.map (fun x => D.int x.2) m) k (D.int a)) =
  .ndi (List.map (fun x => D.tup (List.map (fun x => D.tup (List.map D.int x)) x.1)) (putT2 m k a)) (List.map (fun x => D.int x.2) (putT2 m k a)) := putN_T D.int m k a
end Tl
namespace Tl
open PySem Dl
open L2 (ixN atI)
section
variable {β : Type} (e : β → D)
theorem notInN_T (m : List (K2 × β)) (k : K2) : dNotInN (D.tup (List.map (fun x => D.tup (List.map D.int x)) k)) (.ndi (List.map (fun x => D.tup (List.map (fun x => D.tup (List.map D.int x)) x.1)) m) (List.map (fun x => e x.2) m)) = some (.val (.bl (!hasT2 m k))) := by
 have h := inN_T e m k
 unfold dInN at h
 unfold dNotInN
 rw [keyO_T] at h ⊢
 dsimp only at h ⊢
 have h2 := Option.some.inj h
 injection h2 with h3
 injection h3 with h4
 rw [h4]
end
theorem inN_b (m : List (K2 × Bool)) (k : K2) : dInN (D.tup (List.map (fun x => D.tup (List.map D.int x)) k)) (.ndi (List.map (fun x => D.tup (List.map (fun x => D.tup (List.map D.int x)) x.1)) m) (List.map (fun x => D.bl x.2) m)) = some (.val (.bl (hasT2 m k))) := inN_T D.bl m k
theorem notInN_b (m : List (K2 × Bool)) (k : K2) : dNotInN (D.tup (List.map (fun x => D.tup (List.map D.int x)) k)) (.ndi (List.map (fun x => D.tup (List.map (fun x => D.tup (List.map D.int x)) x.1)) m) (List.map (fun x => D.bl x.2) m)) = some (.val (.bl (!hasT2 m k))) := notInN_T D.bl m k
theorem putN_b (m : List (K2 × Bool)) (k : K2) (a : Bool) : D.ndi (putKs (List.map (fun x => D.tup (List.map (fun x => D.tup (List.map D.int x)) x.1)) m) (List.map (fun x => D.bl x.2) m) k) (putVs (List.map (fun x => D.tup (List.map (fun x => D.tup (List.map D.int x)) x.1)) m) (List.map (fun x => D.bl x.2) m) k (D.bl a)) =
  .ndi (List.map (fun x => D.tup (List.map (fun x => D.tup (List.map D.int x)) x.1)) (putT2 m k a)) (List.map (fun x => D.bl x.2) (putT2 m k a)) := putN_T D.bl m k a
abbrev eK2 (x : K2) : D := D.tup (List.map (fun x => D.tup (List.map D.int x)) x)
theorem inN_k (m : List (K2 × K2)) (k : K2) : dInN (D.tup (List.map (fun x => D.tup (List.map D.int x)) k)) (.ndi (List.map (fun x => D.tup (List.map (fun x => D.tup (List.map D.int x)) x.1)) m) (List.map (fun x => D.tup (List.map (fun x => D.tup (List.map D.int x)) x.2)) m)) = some (.val (.bl (hasT2 m k))) := inN_T eK2 m k
theorem getN_k (m : List (K2 × K2)) (k : K2) : dGetN (.ndi (List.map (fun x => D.tup (List.map (fun x => D.tup (List.map D.int x)) x.1)) m) (List.map (fun x => D.tup (List.map (fun x => D.tup (List.map D.int x)) x.2)) m)) (D.tup (List.map (fun x => D.tup (List.map D.int x)) k)) = (lkT2 m k).bind fun v => some (D.tup (List.map (fun x => D.tup (List.map D.int x)) v)) := getN_T eK2 m k
section
variable {γ : Type} {ρ : List S} {kx : Xn → List S → Option γ} {fa fb : M Rv}
def dicOne (e d : D) : Option D := (keyO e).map fun k => .ndi [keyD k] [d]
theorem dicOne_b (k : K2) (b : Bool) : dicOne (D.tup (List.map (fun x => D.tup (List.map D.int x)) k)) (.bl b) = some (.ndi (List.map (fun x => D.tup (List.map (fun x => D.tup (List.map D.int x)) x.1)) [(k, b)]) (List.map (fun x => D.bl x.2) [(k, b)])) := by
 unfold dicOne; rw [keyO_T]; rfl
theorem cps_dic1 (k : Rv → List S → Option γ) : cps (eDic1 fa fb) ρ kx k = cps fa ρ kx fun r ρ1 => cps fb ρ1 kx fun q ρ2 => cps (peek (Dl.settle r)) ρ2 kx fun e ρ3 => cps (toV q) ρ3 kx fun d ρ4 => (dicOne e d).bind fun x => k (.own x) ρ4 := by
 unfold eDic1
 simp only [cps_bind]
 congr 1; funext r ρ1
 congr 1; funext q ρ2
 congr 1; funext e ρ3
 congr 1; funext d ρ4
 unfold dicOne
 cases keyO e <;> rfl
theorem eNotInN_eq : eNotInN fa fb = mBin dNotInN fa fb := rfl
end
theorem or_tt (a : Bool) : (a || true) = true := Bool.or_true a
def oRv {α : Type} (e : α → D) : Option α → Rv
 | none => .val .non
 | some a => .own (e a)
section
variable {α γ : Type} {e : α → D} {ρ : List S} {kx : Xn → List S → Option γ}
theorem oRv_n : oRv e none = .val .non := rfl
theorem oRv_s (a : α) : oRv e (some a) = .own (e a) := rfl
theorem oRv_na (v : Option α) : notAli (oRv e v) = true := by cases v <;> rfl
theorem rtn_oo (ss : List S) (v : Option α) : rtn ss (some (.rt (oRv e v) ρ)) = some (.ret (oRv e v) (post ss ρ)) := by cases v <;> rfl
theorem oRv_toV (v : Option α) (k : D → List S → Option γ) : cps (toV (oRv e v)) ρ kx k = k (eO e v) ρ := by cases v <;> rfl
end
theorem PD.prod3 {α β γ : Type} [DecidableEq α] [DecidableEq β] [DecidableEq γ] {e1 : α → D} {e2 : β → D} {e3 : γ → D} {p1 : α → PyData} {p2 : β → PyData} {p3 : γ → PyData} {n1 n2 n3 n : Nat} (h1 : PD e1 p1 n1) (h2 : PD e2 p2 n2) (h3 : PD e3 p3 n3) (l1 : n1 ≤ n) (l2 : n2 ≤ n) (l3 : n3 ≤ n) :
  PD (fun x : α × β × γ => D.tup [e1 x.1, e2 x.2.1, e3 x.2.2]) (fun x => .tuple [p1 x.1, p2 x.2.1, p3 x.2.2]) (n + 1) := ⟨fun a => by unfold toP; simp only [toPs, h1.to, h2.to, h3.to]; rfl, fun a => by unfold PyData.canLay0; simp only [PyData.canLayAll0, h1.lay, h2.lay, h3.lay]; rfl, fun a => by
 have d1 := h1.dep a.1
 have d2 := h2.dep a.2.1
 have d3 := h3.dep a.2.2
 unfold PyData.depth
 simp only [PyData.depthAll]
 omega, fun a b => by
 obtain ⟨a1, a2, a3⟩ := a
 obtain ⟨b1, b2, b3⟩ := b
 unfold PyData.eqv
 simp only [PyData.eqvAll, h1.eqv, h2.eqv, h3.eqv]
 rw [Bool.eq_iff_iff]
 simp⟩
theorem pd_row : PD (fun x : K2 × Int × K2 => D.tup [D.tup (List.map (fun x => D.tup (List.map D.int x)) x.1), D.int x.2.1, D.tup (List.map (fun x => D.tup (List.map D.int x)) x.2.2)]) (fun x => .tuple [.tuple (x.1.map fun x => .tuple (x.map .int)), .int x.2.1, .tuple (x.2.2.map fun x => .tuple (x.map .int))]) 3 :=
 PD.prod3 (pd_int.tup).tup pd_int (pd_int.tup).tup (by decide) (by decide) (by decide)
theorem is_ol {α : Type} (e : α → D) (v : Option (List α)) : dIsN (eO (fun x => D.lst (List.map e x)) v) .non = some (.val (.bl v.isNone)) := by cases v <;> rfl
theorem isn_ol {α : Type} (e : α → D) (v : Option (List α)) : dNotN (eO (fun x => D.lst (List.map e x)) v) .non = some (.val (.bl (!v.isNone))) := by cases v <;> rfl
theorem eq_rn (a : Option (List (K2 × Int × K2))) : dEq (eO (fun x => D.lst (List.map (fun x : K2 × Int × K2 => D.tup [D.tup (List.map (fun x => D.tup (List.map D.int x)) x.1), D.int x.2.1, D.tup (List.map (fun x => D.tup (List.map D.int x)) x.2.2)]) x)) a) (D.lst []) = some (.val (.bl (decide (a = some [])))) := (pd_row.lst).eqO nn_lst (by decide) a []
end Tl
namespace Tl
open PySem Dl
open L2 (ixN atI)
section
variable {γ : Type} {ρ : List S} {kx : Xn → List S → Option γ} {it : M (List D)} {tg : D → List S → Option (List S)} {fk fv : M Rv} {vs : List Nat}
variable {α β : Type} {e : α → D} {ev : β → D}
theorem cps_eDcN (k : Rv → List S → Option γ) : cps (eDcN it tg fk fv vs) ρ kx k = cps it ρ kx fun ds ρ1 => if noOwn ρ1 vs = true then cps (dcL tg fk fv vs ds ([], [])) ρ1 kx fun acc ρ2 => k (.own (.ndi acc.1 acc.2)) ρ2 else none := by
 unfold eDcN
 refine (cps_bind _ _ k).trans ?_
 congr 1; funext ds ρ1
 refine (cps_bind _ _ k).trans ?_
 rw [cps_no]
 rfl
end
theorem eq_l0t (a : List (List Int)) : dEq (.lst (List.map (fun x => D.tup (List.map D.int x)) a)) (.lst []) = some (.val (.bl (decide (a = [])))) := pd_int.tup.lst.eq (by decide) a []
theorem ne_l0t (a : List (List Int)) : dNe (.lst (List.map (fun x => D.tup (List.map D.int x)) a)) (.lst []) = some (.val (.bl (!decide (a = [])))) := pd_int.tup.lst.ne (by decide) a []
end Tl
namespace Tl
open PySem Dl
open L2 (ixN atI)
section
variable {γ : Type} {la : M (List Rv)} {ρ : List S} {kx : Xn → List S → Option γ}
theorem cps_eCallD (mu : List Bool) (fn : Fn) (ns : List Int) (k : Rv → List S → Option γ) : cps (eCallD mu fn ns la) ρ kx k = cps la ρ kx fun rs ρ1 => cps (callM mu fn (rs ++ ns.map fun n => Rv.val (.int n))) ρ1 kx k := by
 unfold eCallD; simp only [cps_bind]
end
theorem gt_oo (a b : Option Int) : dGt (eO D.int a) (eO D.int b) = a.bind fun i => b.bind fun j => some (.val (.bl (decide (j < i)))) := by cases a <;> cases b <;> rfl
theorem unO_i (i : Int) : unO (.val (.int i)) = some (.int i) := rfl
end Tl
namespace Tl
open PySem Dl
open L2 (ixN atI)
def QT.len : QT → Int
 | .fin _ => 2
 | .ask _ _ => 3
theorem ty_tree (t : QT) : tyNm (e_tree t) = some "tuple" := by
 cases t with
 | fin n => rw [e_tree_fin]; rfl
 | ask p bs => rw [e_tree_a]; rfl
theorem glen_tree (t : QT) : gLen [e_tree t] = some (.val (.int (QT.len t))) := by
 cases t with
 | fin n => rw [e_tree_fin]; rfl
 | ask p bs => rw [e_tree_a]; rfl
theorem eq_ll0g (a : List (List Int)) : dEq (.lst (a.map fun x => D.lst (x.map D.int))) (.lst []) = some (.val (.bl (decide (a = [])))) := pd_int.lst.lst.eq (by decide) a []
theorem or_f0 (b : Bool) : (b || false) = b := Bool.or_false b
theorem cast_2 : ((2 : Nat) : Int) = 2 := rfl
theorem cast_3 : ((3 : Nat) : Int) = 3 := rfl
end Tl
namespace Tl
open PySem Dl
open L2 (ixN atI)
def popT {α : Type} (xs : List α) (n : Int) : Option (α × List α) := if 0 ≤ n ∧ n < 2 ^ 62 then (xs[n.toNat]?).bind fun a => some (a, xs.eraseIdx n.toNat) else none
def insT {α : Type} (xs : List α) (n : Int) (a : α) : List α := xs.take n.toNat ++ [a] ++ xs.drop n.toNat
def idxT (xs : List Int) (y : Int) : Option Int := (xs.findIdx? fun z => z == y).bind fun j => some ((j : Nat) : Int)
def intD : D → Option Int
 | .int n => some n
 | _ => none
theorem intD_i (n : Int) : intD (.int n) = some n := rfl
theorem eraseIdx_mapD {α β : Type} (f : α → β) : ∀ (xs : List α) (i : Nat), (xs.map f).eraseIdx i = (xs.eraseIdx i).map f
 | [], i => by simp
 | x :: xs, 0 => rfl
 | x :: xs, i + 1 => by
  show f x :: (xs.map f).eraseIdx i = f x :: (xs.eraseIdx i).map f
  rw [eraseIdx_mapD f xs i]
theorem popT_map {α β : Type} (f : α → β) (xs : List α) (n : Int) : popT (xs.map f) n = (popT xs n).bind fun r => some (f r.1, r.2.map f) := by
 unfold popT
 split
 · rw [List.getElem?_map]
   cases xs[n.toNat]? with
   | none => rfl
   | some a => dsimp only [Option.map, Option.bind]; rw [eraseIdx_mapD]
 · rfl
theorem insT_map {α β : Type} (f : α → β) (xs : List α) (n : Int) (a : α) : List.map f (insT xs n a) = insT (List.map f xs) n (f a) := by
 unfold insT
 rw [List.map_append, List.map_append, List.map_take, List.map_drop]; rfl
theorem index_i (xs : List Int) (y : Int) : gIndex (.lst (xs.map D.int)) (.int y) = (idxT xs y).bind fun j => some (.val (.int j)) := by
 unfold gIndex idxT
 dsimp only
 have h1 : (xs.map D.int).all flD = true := List.all_eq_true.mpr fun d hd => by
  obtain ⟨x, _, rfl⟩ := List.mem_map.mp hd
  rfl
 rw [if_pos ⟨h1, rfl⟩, List.findIdx?_map]
 show (xs.findIdx? fun z => z == y).map _ = _
 cases xs.findIdx? fun z => z == y <;> rfl
theorem isLst_l (xs : List D) : isLst (.lst xs) = true := rfl
theorem in_ll (r : List Int) (rs : List (List Int)) : dIn2 (.lst (r.map D.int)) (.lst (rs.map fun r => D.lst (r.map D.int))) = some (.val (.bl (decide (r ∈ rs)))) := (pd_int.lst.inL (by decide) (fun _ => rfl) r rs).trans (by congr)
theorem notIn_ll (r : List Int) (rs : List (List Int)) : dNotIn2 (.lst (r.map D.int)) (.lst (rs.map fun r => D.lst (r.map D.int))) = some (.val (.bl (!decide (r ∈ rs)))) := (pd_int.lst.notInL (by decide) (fun _ => rfl) r rs).trans (by congr)
section
variable {γ : Type} {ρ : List S} {kx : Xn → List S → Option γ} {fa fb : M Rv} {la : M (List Rv)}
theorem cps_ckL (r : Rv) (h : Unit → List S → Option γ) : cps (ckL r) ρ kx h = (ownLst r ρ).bind fun _ => h () ρ := by
 unfold cps ckL; cases ownLst r ρ <;> rfl
theorem cps_popAt (k : Rv → List S → Option γ) : cps (mPopAt fa fb) ρ kx k = cps fa ρ kx fun r ρ1 => (ownLst (Dl.settle r) ρ1).bind fun _ => cps fb ρ1 kx fun x ρ2 => cps (peek (Dl.settle x)) ρ2 kx fun d ρ3 => (ownLst (Dl.settle r) ρ3).bind fun p => (intD d).bind fun n => (popT p.2 n).bind fun q => k (.val q.1) (ρ3.set p.1 (.own (.lst q.2))) := by
 unfold mPopAt; refine (cps_bind _ _ k).trans ?_
 congr 1; funext r ρ1
 refine (cps_bind _ _ k).trans ?_
 rw [cps_ckL]
 congr 1; funext _
 refine (cps_bind _ _ k).trans ?_
 congr 1; funext x ρ2
 refine (cps_bind _ _ k).trans ?_
 congr 1; funext d ρ3
 unfold cps
 dsimp only
 cases ownLst (Dl.settle r) ρ3 with
 | none => rfl
 | some p =>
  obtain ⟨i, ds⟩ := p
  dsimp only [Option.bind]
  unfold popAtD
  cases d with
  | int n =>
   dsimp only [intD]
   unfold popT
   by_cases h : 0 ≤ n ∧ n < 2 ^ 62
   · rw [if_pos h, if_pos h]
     cases ds[n.toNat]? <;> rfl
   · rw [if_neg h, if_neg h]
  | _ => rfl
theorem cps_insK (r x y : Rv) (k : Rv → List S → Option γ) : cps (insK r x y) ρ kx k = cps (peek (Dl.settle x)) ρ kx fun d ρ1 => cps (toV (Dl.settle y)) ρ1 kx fun e ρ2 => (ownLst (Dl.settle r) ρ2).bind fun p => (intD d).bind fun n => (gb (decide (0 ≤ n ∧ n < 2 ^ 62))).bind fun _ => (gz (p.2.length + 1)).bind fun _ => k (.val .non) (ρ2.set p.1 (.own (.lst (insT p.2 n e)))) := by
 unfold insK; refine (cps_bind _ _ k).trans ?_
 congr 1; funext d ρ1
 refine (cps_bind _ _ k).trans ?_
 congr 1; funext e ρ2
 unfold cps
 dsimp only
 cases ownLst (Dl.settle r) ρ2 with
 | none => rfl
 | some p =>
  obtain ⟨i, ds⟩ := p
  dsimp only [Option.bind]
  unfold insD
  cases d with
  | int n =>
   dsimp only [intD]
   unfold gb gz insT
   by_cases h : 0 ≤ n ∧ n < 2 ^ 62
   · by_cases h2 : ds.length < sizeLine
     · rw [if_pos ⟨h.1, h.2, h2⟩, if_pos (decide_eq_true h), if_pos (by omega)]
     · rw [if_neg (fun z => h2 z.2.2), if_pos (decide_eq_true h), if_neg (by omega)]
   · rw [if_neg (fun z => h ⟨z.1, z.2.1⟩), if_neg (fun z => h (of_decide_eq_true z))]
  | _ => rfl
theorem cps_insA (r x y : Rv) (k : Rv → List S → Option γ) : cps (insA r [x, y]) ρ kx k = cps (insK r x y) ρ kx k := rfl
theorem cps_insert (k : Rv → List S → Option γ) : cps (mInsert fa la) ρ kx k = cps fa ρ kx fun r ρ1 => (ownLst (Dl.settle r) ρ1).bind fun _ => cps la ρ1 kx fun xs ρ2 => cps (insA r xs) ρ2 kx k := by
 unfold mInsert; refine (cps_bind _ _ k).trans ?_
 congr 1; funext r ρ1
 refine (cps_bind _ _ k).trans ?_
 rw [cps_ckL]
 congr 1; funext _
 exact cps_bind _ _ k
theorem cps_ckLv (r : Rv) (k : Unit → List S → Option γ) : cps (ckLv r) ρ kx k = cps (peek r) ρ kx fun d ρ1 => (gb (isLst d)).bind fun _ => k () ρ1 := by
 unfold ckLv; refine (cps_bind _ _ k).trans ?_
 congr 1; funext d ρ1
 cases isLst d <;> rfl
theorem cps_index (k : Rv → List S → Option γ) : cps (mIndex fa fb) ρ kx k = cps fa ρ kx fun r ρ1 => cps (ckLv (Dl.settle r)) ρ1 kx fun _ ρ2 => cps fb ρ2 kx fun x ρ3 => cps (peek (Dl.settle x)) ρ3 kx fun e ρ4 => cps (peek (Dl.settle r)) ρ4 kx fun d ρ5 => (gIndex d e).bind fun q => k q ρ5 := by
 unfold mIndex; simp only [cps_bind, cps_ofO]
theorem le_oo (o p : Option Int) : dLe (eO D.int o) (eO D.int p) = o.bind fun i => p.bind fun j => some (.val (.bl (decide (i ≤ j)))) := by cases o <;> cases p <;> rfl
end
end Tl
namespace Tl
open PySem Dl
open L2 (ixN atI)
section
variable {γ : Type} {la lk : M (List Rv)} {fa : M Rv} {ρ : List S} {kx : Xn → List S → Option γ}
theorem cps_prop (n : Str) (mu : List Bool) (fn : Fn) (k : Rv → List S → Option γ) : cps (eProp n mu fn fa) ρ kx k = cps fa ρ kx fun r ρ1 => cps (ckC n (Dl.settle r)) ρ1 kx fun _ ρ2 => cps (callM mu (nx fn) [Dl.settle r]) ρ2 kx k := by
 unfold eProp; simp only [cps_bind]
theorem nx_eq (fn : Fn) (ss : List S) : nx fn ss = (fn ss).bind nxO := rfl
theorem nxO_ret (r : Rv) (ss : List S) : nxO (.ret r ss) = some (.ret r ss) := rfl
theorem cps_eMakeK (x : Str) (n m : Nat) (pl : Pl) (mu : List Bool) (fn : Fn) (k : Rv → List S → Option γ) : cps (eMakeK x n m pl mu fn la lk) ρ kx k = cps la ρ kx fun rs ρ1 => cps lk ρ1 kx fun zs ρ2 => if rs.length = n ∧ zs.length = m then cps (makeM x mu fn (rs ++ fillR pl zs)) ρ2 kx k else none := by
 unfold eMakeK; simp only [cps_bind, cps_ite, cps_fail]
theorem fillR_n (zs : List Rv) : fillR [] zs = [] := rfl
theorem fillR_d (n : Int) (pl : Pl) (zs : List Rv) : fillR (.inr n :: pl) zs = .val (.int n) :: fillR pl zs := rfl
theorem fillR_0 (pl : Pl) (z : Rv) (zs : List Rv) : fillR (.inl 0 :: pl) (z :: zs) = z :: fillR pl (z :: zs) := rfl
theorem fillR_1 (pl : Pl) (y z : Rv) (zs : List Rv) : fillR (.inl 1 :: pl) (y :: z :: zs) = z :: fillR pl (y :: z :: zs) := rfl
theorem sAugF_eq (cs : Flds) (f : Str) (h : Int → Int) : sAugF cs f h fa ρ = cps fa ρ (fun e ρ => some (.ex e ρ)) fun r ρ =>
  (ownObj (Dl.settle r) ρ).bind fun p => if p.2.1 ∈ cs ∧ p.2.2.1.length < 1000 then (intOf (lkF f p.2.2.1 p.2.2.2)).bind fun k => some (.nx (ρ.set p.1 (.own (.obj p.2.1 (putF2 f (.int (h k)) p.2.2.1 p.2.2.2).1 (putF2 f (.int (h k)) p.2.2.1 p.2.2.2).2)))) else none := by
 unfold sAugF
 rw [thenS_eq]; congr 1; funext r ρ
 cases ownObj (Dl.settle r) ρ with
 | none => rfl
 | some p =>
  show (if p.2.1 ∈ cs ∧ p.2.2.1.length < 1000 then _ else none) = if p.2.1 ∈ cs ∧ p.2.2.1.length < 1000 then _ else none
  by_cases h1 : p.2.1 ∈ cs ∧ p.2.2.1.length < 1000
  · rw [if_pos h1, if_pos h1]
    cases intOf (lkF f p.2.2.1 p.2.2.2) <;> rfl
  · rw [if_neg h1, if_neg h1]
theorem intOf_i (k : Int) : intOf (some (.int k)) = some k := rfl
end
def boxT {α : Type} (x : α) : Option α := some x
theorem lps_2 (a b d : D) : ([a, b] : List D).set 1 d = [a, d] := rfl
theorem lps_1 (a : D) (r : List D) (d : D) : (a :: r).set 0 d = d :: r := rfl
theorem lps_3 (a b c d : D) : ([a, b, c] : List D).set 1 d = [a, d, c] := rfl
theorem lps_4 (a b c d : D) : ([a, b, c] : List D).set 2 d = [a, b, d] := rfl
theorem lpx_2 : ixN 2 0 = some 0 := rfl
theorem lpx_3 : ixN 2 1 = some 1 := rfl
theorem lpx_4 : ixN 3 0 = some 0 := rfl
theorem lpx_5 : ixN 3 1 = some 1 := rfl
theorem lpx_6 : ixN 3 2 = some 2 := rfl
theorem lpl_2 (a b : D) : ([a, b] : List D).length = 2 := rfl
theorem lpl_3 (a b c : D) : ([a, b, c] : List D).length = 3 := rfl
end Tl
namespace My
open PySem Dl Tl
open L2 (ixN atI)
noncomputable section
def NZcell : List Str := ["_law_script", "_law_k"]
def fZcell : MS :=
 (sSeq (sIf (tCmp (eLt (eVar 1) (eB gLen (aCons (eVar 0) aNil)))) (sRtA [0, 1] (sRet (eIx (eVar 0) (eVar 1)))) sNil)
 (sRtA [0, 1] (sRet (eC (.int 0)))))
def FnZcell : Fn := mkFn 2 2 (fZcell )
def NZsource : List Str := ["_law_cell_here"]
def fZsource : MS :=
 (sSeq (sIf (tCmp (eGe (eVar 0) (ePow (eC (.int 10)) (eC (.int 18))))) (sRtA [0] (sRet (eLst (aCons (eVar 0) (aCons (eC (.int 0)) (aCons (eVar 0) aNil)))))) sNil)
 (sRtA [0] (sRet (eLst (aCons (eC (.int 0)) (aCons (eC (.int 0)) (aCons (eVar 0) aNil)))))))
def FnZsource : Fn := mkFn 1 1 (fZsource )
def NZdraw : List Str := ["_law_source_here", "_law_limit", "_law_mixed", "_law_digit"]
def fZdraw : MS :=
 (sSeq (sSetIx (eAdd (eIx (eVar 0) (eC (.int 1))) (eC (.int 1))) (eVar 0) (eC (.int 1)))
 (sSeq (sIf (tCmp (eGt (eIx (eVar 0) (eC (.int 0))) (eC (.int 0)))) (sSeq (sSet 2 3 (eMod (eB gInt (aCons (eIx (eVar 0) (eC (.int 0))) aNil)) (eVar 1)))
 (sSeq (sSetIx (eDiv (eIx (eVar 0) (eC (.int 0))) (eVar 1)) (eVar 0) (eC (.int 0)))
 (sRtA [1, 2, 3] (sRet (eVar 3))))) sNil)
 (sSeq (sSet 2 2 (eMod (eB gInt (aCons (eAdd (eMul (eIx (eVar 0) (eC (.int 2))) (eC (.int 48271))) (eMul (eIx (eVar 0) (eC (.int 1))) (eC (.int 69621)))) aNil)) (eC (.int 2147483647))))
 (sSeq (sSet 2 2 (eMod (eB gInt (aCons (eAdd (eAdd (eMul (eVar 2) (eVar 2)) (eMul (eIx (eVar 0) (eC (.int 1))) (eC (.int 40692)))) (eC (.int 7))) aNil)) (eC (.int 2147483629))))
 (sRtA [1, 2, 3] (sRet (eMod (eB gInt (aCons (eAdd (eDiv (eVar 2) (eC (.int 8))) (eMul (eVar 2) (eC (.int 10000019)))) aNil)) (eVar 1))))))))
def FnZdraw : Fn := mkFn 2 4 (fZdraw )
def NZsizes : List Str := ["_law_source_here", "_law_parties", "_law_standings", "_law_cap", "_law_top", "_law_sizes_here", "_law_many", "_law_k", "_law_turn", "_law_size"]
def iZsizes_1 : MS := sIf (tCmp (eGt (eMul (eVar 6) (eVar 9)) (eVar 3))) (sSet 4 9 (eC (.int 1))) sNil
def bZsizes_1 (FZdraw : Fn) : MS := (sAft [(7, true), (9, true)] (sSeq (sSet 4 9 (eAdd (eC (.int 1)) (eCall [true, false] FZdraw (aCons (eVar 0) (aCons (eVar 4) aNil)))))
 (sSeq iZsizes_1
 (sSeq (sSet 4 6 (eMul (eVar 6) (eVar 9)))
 (sExpr (mAppend (eVar 5) (eVar 9)))))))
def lZsizes_1 (FZdraw : Fn) : MS := sFor (iRng1 (aCons (eAdd (eC (.int 1)) (eCall [true, false] FZdraw (aCons (eVar 0) (aCons (eVar 1) aNil)))) aNil)) (gN 7) (bZsizes_1 FZdraw)
def fZsizes (FZdraw : Fn) : MS :=
 (sSeq (sSet 4 4 (eB gMin2 (aCons (eB gInt (aCons (eVar 2) aNil)) (aCons (eIx (eLst (aCons (eC (.int 2)) (aCons (eC (.int 3)) (aCons (eC (.int 4)) (aCons (eC (.int 6)) aNil))))) (eCall [true, false] FZdraw (aCons (eVar 0) (aCons (eC (.int 4)) aNil)))) aNil))))
 (sSeq (sSet 4 5 (eLst aNil))
 (sSeq (sSet 4 6 (eC (.int 1)))
 (sSeq (lZsizes_1 FZdraw)
 (sSeq (sSet 4 8 (eCall [true, false] FZdraw (aCons (eVar 0) (aCons (eB gLen (aCons (eVar 5) aNil)) aNil))))
 (sRtA [1, 2, 3, 4, 5, 6, 7, 8, 9] (sRet (eAdd (eSl (eVar 5) (oSome (eVar 8)) oNo) (eSl (eVar 5) oNo (oSome (eVar 8)))))))))))
def FnZsizes : Fn := mkFn 4 10 (fZsizes FnZdraw)
def NZfull : List Str := ["_law_sizes_here", "_law_size"]
def cZfull_1 : M Rv := eLc (iSeq (eVar 0)) (gN 1) tYes' (eLRg (eVar 1)) [1]
def fZfull : MS :=
 (sRtA [0, 1] (sRet cZfull_1))
def FnZfull : Fn := mkFn 1 2 (fZfull )
def NZsplit : List Str := ["_law_side", "_law_source_here", "_law_marks", "_law_cells", "_law_mark", "_law_odd", "_law_cell_here", "_law_standing", "_law_k"]
def cZsplit_1 (FZdraw : Fn) : M Rv := eLc (iSeq (eVar 0)) (gN 7) tYes' (eCall [true, false] FZdraw (aCons (eVar 1) (aCons (eC (.int 3)) aNil))) [7]
def cZsplit_2 : M Rv := eLc (iSeq (eVar 2)) (gN 4) (tCmp (eEq (eVar 4) (eIx (eVar 2) (eC (.int 0))))) (eVar 4) [4]
def iZsplit_1 (FZdraw : Fn) : MS := sIf (lent (fun _ => true) (tCmp (eEq (eB gLen (aCons cZsplit_2 aNil)) (eB gLen (aCons (eVar 2) aNil))))) (sAft [(5, true)] (sSeq (sSet 2 5 (eCall [true, false] FZdraw (aCons (eVar 1) (aCons (eB gLen (aCons (eVar 2) aNil)) aNil))))
 (sSetIx (eAdd (eIx (eVar 2) (eVar 5)) (eC (.int 1))) (eVar 2) (eVar 5)))) sNil
def cZsplit_3 : M Rv := eLc (iRng1 (aCons (eB gLen (aCons (eVar 0) aNil)) aNil)) (gN 8) (tCmp (eEq (eIx (eVar 2) (eVar 8)) (eVar 4))) (eIx (eVar 0) (eVar 8)) [8]
def iZsplit_2 : MS := sIf (tCmp (eNe (eVar 6) (eLst aNil))) (sExpr (mAppend (eVar 3) (eVar 6))) sNil
def bZsplit_1 : MS := (sAft [(4, true), (6, true)] (sSeq (sFz 6 (sSet 2 6 cZsplit_3))
 iZsplit_2))
def lZsplit_1 : MS := sFor (iRng1 (aCons (eC (.int 4)) aNil)) (gN 4) bZsplit_1
def fZsplit (FZdraw : Fn) : MS :=
 (sSeq (sSet 2 2 (cZsplit_1 FZdraw))
 (sSeq (iZsplit_1 FZdraw)
 (sSeq (sSet 2 3 (eLst aNil))
 (sSeq lZsplit_1
 (sRtA [0, 2, 3, 4, 5, 6, 7, 8] (sRet (eVar 3)))))))
def FnZsplit : Fn := mkFn 2 9 (fZsplit FnZdraw)
def NZtree : List Str := ["_law_sides", "_law_source_here", "_law_ends", "_law_wide", "_law_party", "_law_branches", "_law_cell_here", "_law_below", "_law_p"]
def cZtree_1 : M Rv := eLc (iRng1 (aCons (eB gLen (aCons (eVar 0) aNil)) aNil)) (gN 8) (tCmp (eGt (eB gLen (aCons (eIx (eVar 0) (eVar 8)) aNil)) (eC (.int 1)))) (eVar 8) [8]
def tZtree_1 (FZdraw : Fn) : M Bool := (tOr (tCmp (eEq (eVar 3) (eLst aNil))) (tCmp (eEq (eCall [true, false] FZdraw (aCons (eVar 1) (aCons (eC (.int 5)) aNil))) (eC (.int 0)))))
def bZtree_1 (FZtree : Fn) : MS := (sAft [(6, true), (7, true)] (sSeq (sSet 3 7 (eCall [false, true, true] FZtree (aCons (eAdd (eAdd (eSl (eVar 0) oNo (oSome (eVar 4))) (eLst (aCons (eVar 6) aNil))) (eSl (eVar 0) (oSome (eAdd (eVar 4) (eC (.int 1)))) oNo)) (aCons (eVar 1) (aCons (eVar 2) aNil)))))
 (sExpr (mAppend (eVar 5) (eTup (aCons (eB gTuple (aCons (eVar 6) aNil)) (aCons (eVar 7) aNil)))))))
def lZtree_1 (FZsplit FZtree : Fn) : MS := sFor (iSeq (eCall [false, true] FZsplit (aCons (eIx (eVar 0) (eVar 4)) (aCons (eVar 1) aNil)))) (gN 6) (bZtree_1 FZtree)
def fZtree (FZdraw FZsplit FZtree : Fn) : MS :=
 (sSeq (sFz 3 (sSet 3 3 cZtree_1))
 (sSeq (sIf (tZtree_1 FZdraw) (sSeq (sExpr (mAppend (eVar 2) (eB gLen (aCons (eVar 2) aNil))))
 (sRtA [0, 3, 4, 5, 6, 7, 8] (sRet (eTup (aCons (eC (.str "end")) (aCons (eSub (eB gLen (aCons (eVar 2) aNil)) (eC (.int 1))) aNil)))))) sNil)
 (sSeq (sSet 3 4 (eIx (eVar 3) (eCall [true, false] FZdraw (aCons (eVar 1) (aCons (eB gLen (aCons (eVar 3) aNil)) aNil)))))
 (sSeq (sSet 3 5 (eLst aNil))
 (sSeq (lZtree_1 FZsplit FZtree)
 (sRtA [0, 3, 4, 5, 6, 7, 8] (sRet (eTup (aCons (eC (.str "ask")) (aCons (eVar 4) (aCons (eB gTuple (aCons (eVar 5) aNil)) aNil)))))))))))
def FnZtree : Nat → Fn
 | 0 => fun _ => none
 | n + 1 => mkFn 3 9 (fZtree FnZdraw FnZsplit (FnZtree n))
def NZany_tree : List Str := ["_law_shape", "_law_second", "_law_cap", "_law_sizes_here"]
def fZany_tree (FZsizes FZfull FZsource FZtree : Fn) : MS :=
 (sSeq (sFz 3 (sSet 3 3 (eCall [true, false, false, false] FZsizes (aCons (eVar 0) (aCons (eC (.int 7)) (aCons (eC (.int 6)) (aCons (eVar 2) aNil)))))))
 (sRtA [1, 2, 3] (sRet (eCallT2 [false, true, true] FZtree (aConsT2 (eCall [false] FZfull (aCons (eVar 3) aNil)) (aTmp2 (eCall [false] FZsource (aCons (eVar 1) aNil)) (aTmp (eLst aNil) aNil)))))))
def FnZany_tree : Fn := mkFn 3 4 (fZany_tree FnZsizes FnZfull FnZsource (FnZtree 9))
def N_is_integer : List Str := ["value"]
def e_is_integer_1 : M Rv := (eAnd (eB gIsi (aCons (eVar 0) (aCons (eC (.ty "int")) aNil))) (eNot (eB gIsi (aCons (eVar 0) (aCons (eC (.ty "bool")) aNil)))))
def f_is_integer : MS :=
 (sRtA [0] (sRet e_is_integer_1))
def Fn_is_integer : Fn := mkFn 1 1 (f_is_integer )
def N_is_number : List Str := ["value"]
def e_is_number_1 (F_is_integer : Fn) : M Rv := (eAnd (eCall [false] F_is_integer (aCons (eVar 0) aNil)) (eGe (eVar 0) (eC (.int 0))))
def f_is_number (F_is_integer : Fn) : MS :=
 (sRtA [0] (sRet (e_is_number_1 F_is_integer)))
def Fn_is_number : Fn := mkFn 1 1 (f_is_number Fn_is_integer)
def N_ascending : List Str := ["numbers", "kept", "number"]
def c_ascending_1 : M Rv := eLc (iSeq (eVar 0)) (gN 2) tYes' (eB gInt (aCons (eVar 2) aNil)) [2]
def t_ascending_1 : M Bool := (tOr (tNot (tVal (eVar 1))) (tCmp (eNe (eIx (eVar 1) (eNeg (eC (.int 1)))) (eVar 2))))
def i_ascending_1 : MS := sIf t_ascending_1 (sExpr (mAppend (eVar 1) (eVar 2))) sNil
def b_ascending_1 : MS := (sAft [(2, true)] i_ascending_1)
def l_ascending_1 : MS := sFor (iSeq (eB gSorted (aCons c_ascending_1 aNil))) (gN 2) b_ascending_1
def f_ascending : MS :=
 (sSeq (sSet 1 1 (eLst aNil))
 (sSeq l_ascending_1
 (sRtA [0, 1, 2] (sRet (eB gTuple (aCons (eVar 1) aNil))))))
def Fn_ascending : Fn := mkFn 1 3 (f_ascending )
abbrev N_checked_cells : List Str := Tl.N_checked_cells
abbrev f_checked_cells (F_is_number F_ascending : Fn) : MS := Tl.f_checked_cells F_is_number F_ascending
abbrev Fn_checked_cells : Fn := Tl.Fn_cells Fn_is_number Fn_ascending
abbrev N_checked : List Str := Tl.N_checked
abbrev f_checked (F_checked_cells F_checked : Fn) : MS := Tl.f_checked F_checked_cells F_checked
def N_length_of : List Str := ["rows", "cell", "behind"]
def c_length_of_1 (F_length_of : Fn) : M Rv := eLc (iSeq (eIx (eVar 0) (eC (.int 2)))) (gT 2 (gsCons (gN 1) (gsCons (gN 2) gsNil))) tYes' (eB gInt (aCons (eCall [false] F_length_of (aCons (eVar 2) aNil)) aNil)) [1, 2]
def f_length_of (F_length_of : Fn) : MS :=
 (sSeq (sIf (tCmp (eEq (eIx (eVar 0) (eC (.int 0))) (eC (.str "end")))) (sRtA [0, 1, 2] (sRet (eC (.int 0)))) sNil)
 (sRtA [0, 1, 2] (sRet (eAdd (eC (.int 1)) (eB gMaxL (aCons (c_length_of_1 F_length_of) aNil))))))
def Fn_length_of : Nat → Fn
 | 0 => fun _ => none
 | n + 1 => mkFn 1 3 (f_length_of (Fn_length_of n))
def N_Tree_DinitD : List Str := ["self", "rows"]
def f_Tree_DinitD (F_checked F_length_of : Fn) : MS :=
 (sSeq (sSetF ["Tree", "Round"] "rows" (eVar 0) (eCall [false, false] F_checked (aCons (eVar 1) (aCons (eTup aNil) aNil))))
 (sSetF ["Tree"] "length" (eVar 0) (eCall [false] F_length_of (aCons (eFld ["Tree", "Round"] "rows" (eVar 0)) aNil))))
abbrev NZsame : List Str := Tl.N_same
abbrev fZsame (FZsame : Fn) : MS := Tl.f_same FZsame
def N_Round_DinitD : List Str := ["self", "tree", "patience", "default"]
def f_Round_DinitD : MS :=
 (sSeq (sSetF ["Tree", "Round"] "rows" (eVar 0) (eFld ["Tree", "Round"] "rows" (eVar 1)))
 (sSeq (sSetF ["Round"] "patience" (eVar 0) (eVar 2))
 (sSeq (sSetF ["Round"] "default" (eVar 0) (eVar 3))
 (sSeq (sSetF ["Round"] "path" (eVar 0) (eTup aNil))
 (sSeq (sSetF ["Round"] "history" (eVar 0) (eTup aNil))
 (sSetF ["Round"] "silences" (eVar 0) (eC (.int 0))))))))
def Fn_Round_DinitD : Fn := mkFn 4 4 (f_Round_DinitD )
def NZstarted : List Str := ["_law_tree_here", "_law_way", "_law_bound", "_law_first"]
def fZstarted (F_Round_DinitD : Fn) : MS :=
 (sSeq (sIf (tCmp (eEq (eVar 1) (eC (.int 0)))) (sRtA [0, 1, 2, 3] (sRet (eMakeK "Round" 1 0 [.inr 3, .inr 0] [false, false, false] F_Round_DinitD (aCons (eVar 0) aNil) aNil))) sNil)
 (sSeq (sIf (tCmp (eEq (eVar 1) (eC (.int 1)))) (sRtA [0, 1, 2, 3] (sRet (eMakeK "Round" 1 1 [.inl 0, .inr 0] [false, false, false] F_Round_DinitD (aCons (eVar 0) aNil) (aCons (eVar 2) aNil)))) sNil)
 (sSeq (sIf (tCmp (eEq (eVar 1) (eC (.int 2)))) (sRtA [0, 1, 2, 3] (sRet (eMakeK "Round" 1 1 [.inr 3, .inl 0] [false, false, false] F_Round_DinitD (aCons (eVar 0) aNil) (aCons (eVar 3) aNil)))) sNil)
 (sRtA [0, 1, 2, 3] (sRet (eMakeK "Round" 1 2 [.inl 0, .inl 1] [false, false, false] F_Round_DinitD (aCons (eVar 0) aNil) (aCons (eVar 2) (aCons (eVar 3) aNil))))))))
def FnZstarted : Fn := mkFn 4 4 (fZstarted Fn_Round_DinitD)
def NZat : List Str := ["_law_rows", "_law_path"]
def fZat (FZat : Fn) : MS :=
 (sSeq (sIf (tCmp (eEq (eB gLen (aCons (eVar 1) aNil)) (eC (.int 0)))) (sRtA [0, 1] (sRet (eVar 0))) sNil)
 (sRtA [0, 1] (sRet (eCall [false, false] FZat (aCons (eIx (eIx (eIx (eVar 0) (eC (.int 2))) (eIx (eVar 1) (eC (.int 0)))) (eC (.int 1))) (aCons (eSl (eVar 1) (oSome (eC (.int 1))) oNo) aNil))))))
def FnZat : Nat → Fn
 | 0 => fun _ => none
 | n + 1 => mkFn 2 2 (fZat (FnZat n))
def N_rows_at : List Str := ["rows", "path", "branch"]
def b_rows_at_1 : MS := (sAft [(2, true)] (sSet 2 0 (eIx (eIx (eIx (eVar 0) (eC (.int 2))) (eVar 2)) (eC (.int 1)))))
def l_rows_at_1 : MS := sFor (iSeq (eVar 1)) (gN 2) b_rows_at_1
def f_rows_at : MS :=
 (sSeq l_rows_at_1
 (sRtA [0, 1, 2] (sRet (eVar 0))))
def Fn_rows_at : Fn := mkFn 2 3 (f_rows_at )
def N_Round_party : List Str := ["self", "rows"]
def f_Round_party (F_rows_at : Fn) : MS :=
 (sSeq (sSet 1 1 (eCall [false, false] F_rows_at (aCons (eFld ["Tree", "Round"] "rows" (eVar 0)) (aCons (eFld ["Round"] "path" (eVar 0)) aNil))))
 (sSeq (sIf (tCmp (eEq (eIx (eVar 1) (eC (.int 0))) (eC (.str "end")))) (sRtA [1] (sRet (eC .non))) sNil)
 (sRtA [1] (sRet (eIx (eVar 1) (eC (.int 1)))))))
def Fn_Round_party : Fn := mkFn 1 2 (f_Round_party Fn_rows_at)
def N_Round_cells : List Str := ["self", "rows", "cell", "behind"]
def c_Round_cells_1 : M Rv := eLc (iSeq (eIx (eVar 1) (eC (.int 2)))) (gT 2 (gsCons (gN 2) (gsCons (gN 3) gsNil))) tYes' (eVar 2) [2, 3]
def f_Round_cells (F_rows_at : Fn) : MS :=
 (sSeq (sSet 1 1 (eCall [false, false] F_rows_at (aCons (eFld ["Tree", "Round"] "rows" (eVar 0)) (aCons (eFld ["Round"] "path" (eVar 0)) aNil))))
 (sSeq (sIf (tCmp (eEq (eIx (eVar 1) (eC (.int 0))) (eC (.str "end")))) (sRtA [1, 2, 3] (sRet (eTup aNil))) sNil)
 (sRtA [1, 2, 3] (sRet (eB gTuple (aCons c_Round_cells_1 aNil))))))
def Fn_Round_cells : Fn := mkFn 1 4 (f_Round_cells Fn_rows_at)
def N_Round_outcome : List Str := ["self", "rows"]
def f_Round_outcome (F_rows_at : Fn) : MS :=
 (sSeq (sSet 1 1 (eCall [false, false] F_rows_at (aCons (eFld ["Tree", "Round"] "rows" (eVar 0)) (aCons (eFld ["Round"] "path" (eVar 0)) aNil))))
 (sSeq (sIf (tCmp (eEq (eIx (eVar 1) (eC (.int 0))) (eC (.str "end")))) (sRtA [1] (sRet (eIx (eVar 1) (eC (.int 1))))) sNil)
 (sRtA [1] (sRet (eC .non)))))
def Fn_Round_outcome : Fn := mkFn 1 2 (f_Round_outcome Fn_rows_at)
def NZshows : List Str := ["_law_game", "_law_rows", "_law_path", "_law_history", "_law_silences", "_law_place", "_law_pair"]
def tZshows_1 (FZsame : Fn) : M Bool := (tOr (tNot (tVal (eCall [false, false] FZsame (aCons (eFld ["Round"] "path" (eVar 0)) (aCons (eVar 2) aNil))))) (tNot (tVal (eCall [false, false] FZsame (aCons (eFld ["Round"] "history" (eVar 0)) (aCons (eVar 3) aNil))))))
def tZshows_2 (F_Round_party FZsame F_Round_cells : Fn) : M Bool := (tOr (tCmp (eIsNot (eProp "Round" [true] F_Round_party (eVar 0)) (eC .non))) (tNot (tVal (eCall [false, false] FZsame (aCons (eProp "Round" [true] F_Round_cells (eVar 0)) (aCons (eTup aNil) aNil))))))
def tZshows_3 (FZsame F_Round_party F_Round_outcome : Fn) : M Bool := (tOr (tNot (tVal (eCall [false, false] FZsame (aCons (eProp "Round" [true] F_Round_party (eVar 0)) (aCons (eIx (eVar 5) (eC (.int 1))) aNil))))) (tCmp (eIsNot (eProp "Round" [true] F_Round_outcome (eVar 0)) (eC .non))))
def cZshows_1 : M Rv := eLc (iSeq (eIx (eVar 5) (eC (.int 2)))) (gN 6) tYes' (eIx (eVar 6) (eC (.int 0))) [6]
def fZshows (FZat FZsame F_Round_party F_Round_cells F_Round_outcome : Fn) : MS :=
 (sSeq (sSet 5 5 (eCall [false, false] FZat (aCons (eVar 1) (aCons (eVar 2) aNil))))
 (sSeq (sIf (tZshows_1 FZsame) (sRtA [1, 2, 3, 4, 5, 6] (sRet (eC (.bl false)))) sNil)
 (sSeq (sIf (tNot (tVal (eCall [false, false] FZsame (aCons (eFld ["Round"] "silences" (eVar 0)) (aCons (eVar 4) aNil))))) (sRtA [1, 2, 3, 4, 5, 6] (sRet (eC (.bl false)))) sNil)
 (sSeq (sIf (tCmp (eEq (eIx (eVar 5) (eC (.int 0))) (eC (.str "end")))) (sSeq (sIf (tZshows_2 F_Round_party FZsame F_Round_cells) (sRtA [1, 2, 3, 4, 5, 6] (sRet (eC (.bl false)))) sNil)
 (sRtA [1, 2, 3, 4, 5, 6] (sRet (eCall [false, false] FZsame (aCons (eProp "Round" [true] F_Round_outcome (eVar 0)) (aCons (eIx (eVar 5) (eC (.int 1))) aNil)))))) sNil)
 (sSeq (sIf (tZshows_3 FZsame F_Round_party F_Round_outcome) (sRtA [1, 2, 3, 4, 5, 6] (sRet (eC (.bl false)))) sNil)
 (sRtA [1, 2, 3, 4, 5, 6] (sRet (eCall [false, false] FZsame (aCons (eProp "Round" [true] F_Round_cells (eVar 0)) (aCons (eB gTuple (aCons cZshows_1 aNil)) aNil))))))))))
def N_Round_go_on : List Str := ["self", "branch", "said"]
def f_Round_go_on (F_Round_party : Fn) : MS :=
 (sSeq (sSetF ["Round"] "history" (eVar 0) (eTup (aStar (eFld ["Round"] "history" (eVar 0)) (aCons (eTup (aCons (eProp "Round" [true] F_Round_party (eVar 0)) (aCons (eVar 1) (aCons (eVar 2) aNil)))) aNil))))
 (sSeq (sSetF ["Round"] "path" (eVar 0) (eTup (aStar (eFld ["Round"] "path" (eVar 0)) (aCons (eVar 1) aNil))))
 (sSetF ["Round"] "silences" (eVar 0) (eC (.int 0)))))
def Fn_Round_go_on : Fn := mkFn 3 3 (f_Round_go_on Fn_Round_party)
def N_Round_say : List Str := ["self", "party", "branch"]
def t_Round_say_1 (F_Round_party F_is_integer : Fn) : M Bool := (tOr (tCmp (eIs (eProp "Round" [true] F_Round_party (eVar 0)) (eC .non))) (tOr (tNot (tVal (eCall [false] F_is_integer (aCons (eVar 1) aNil)))) (tCmp (eNe (eVar 1) (eProp "Round" [true] F_Round_party (eVar 0))))))
def t_Round_say_2 (F_is_number F_Round_cells : Fn) : M Bool := (tOr (tNot (tVal (eCall [false] F_is_number (aCons (eVar 2) aNil)))) (tCmp (eGe (eVar 2) (eB gLen (aCons (eProp "Round" [true] F_Round_cells (eVar 0)) aNil)))))
def f_Round_say (F_Round_party F_is_integer F_is_number F_Round_cells F_Round_go_on F_Round_outcome : Fn) : MS :=
 (sSeq (sIf (t_Round_say_1 F_Round_party F_is_integer) sNever sNil)
 (sSeq (sIf (t_Round_say_2 F_is_number F_Round_cells) sNever sNil)
 (sSeq (sExpr (eMeth "Round" "go_on" [true, false, false] F_Round_go_on (eVar 0) (aCons (eVar 2) (aCons (eC (.bl true)) aNil))))
 (sRtA [1, 2] (sRet (eProp "Round" [true] F_Round_outcome (eVar 0)))))))
def Fn_Round_say : Fn := mkFn 3 3 (f_Round_say Fn_Round_party Fn_is_integer Fn_is_number Fn_Round_cells Fn_Round_go_on Fn_Round_outcome)
def N_Round_wait : List Str := ["self"]
def f_Round_wait (F_Round_party F_Round_go_on F_Round_cells : Fn) : MS :=
 (sSeq (sIf (tCmp (eIs (eProp "Round" [true] F_Round_party (eVar 0)) (eC .non))) sNever sNil)
 (sSeq (sAugF ["Round"] "silences" (fun i => i + 1) (eVar 0))
 (sSeq (sIf (tCmp (eLt (eFld ["Round"] "silences" (eVar 0)) (eFld ["Round"] "patience" (eVar 0)))) (sRtA [] (sRet (eC (.bl false)))) sNil)
 (sSeq (sExpr (eMeth "Round" "go_on" [true, false, false] F_Round_go_on (eVar 0) (aCons (eB gMin2 (aCons (eB gInt (aCons (eFld ["Round"] "default" (eVar 0)) aNil)) (aCons (eSub (eB gLen (aCons (eProp "Round" [true] F_Round_cells (eVar 0)) aNil)) (eC (.int 1))) aNil))) (aCons (eC (.bl false)) aNil))))
 (sRtA [] (sRet (eC (.bl true))))))))
def Fn_Round_wait : Fn := mkFn 1 1 (f_Round_wait Fn_Round_party Fn_Round_go_on Fn_Round_cells)
def NZmoved : List Str := ["_law_game", "_law_rows", "_law_state", "_law_bound", "_law_first", "_law_source_here", "_law_place", "_law_last", "_law_told", "_law_branch"]
def fZmoved (FZat FZdraw F_Round_say F_Round_wait FZsame : Fn) : MS :=
 (sSeq (sSet 6 6 (eCall [false, false] FZat (aCons (eVar 1) (aCons (eIx (eVar 2) (eC (.int 0))) aNil))))
 (sSeq (sSet 6 7 (eSub (eB gLen (aCons (eIx (eVar 6) (eC (.int 2))) aNil)) (eC (.int 1))))
 (sSeq (sIf (tCmp (eEq (eCall [true, false] FZdraw (aCons (eVar 5) (aCons (eC (.int 5)) aNil))) (eC (.int 0)))) (sSeq (sSet 6 9 (eCall [true, false] FZdraw (aCons (eVar 5) (aCons (eAdd (eVar 7) (eC (.int 1))) aNil))))
 (sSeq (sExpr (eMeth "Round" "say" [true, false, false] F_Round_say (eVar 0) (aCons (eIx (eVar 6) (eC (.int 1))) (aCons (eVar 9) aNil))))
 (sSeq (sSetIx (eAdd (eIx (eVar 2) (eC (.int 1))) (eTup (aCons (eTup (aCons (eIx (eVar 6) (eC (.int 1))) (aCons (eVar 9) (aCons (eC (.bl true)) aNil)))) aNil))) (eVar 2) (eC (.int 1)))
 (sSeq (sSetIx (eAdd (eIx (eVar 2) (eC (.int 0))) (eTup (aCons (eVar 9) aNil))) (eVar 2) (eC (.int 0)))
 (sSeq (sSetIx (eC (.int 0)) (eVar 2) (eC (.int 2)))
 (sRtA [1, 3, 4, 6, 7, 8, 9] (sRet (eC (.bl true))))))))) sNil)
 (sSeq (sSet 6 8 (eMeth "Round" "wait" [true] F_Round_wait (eVar 0) aNil))
 (sSeq (sSetIx (eAdd (eIx (eVar 2) (eC (.int 2))) (eC (.int 1))) (eVar 2) (eC (.int 2)))
 (sSeq (sIf (tCmp (eLt (eIx (eVar 2) (eC (.int 2))) (eVar 3))) (sRtA [1, 3, 4, 6, 7, 8, 9] (sRet (eCall [false, false] FZsame (aCons (eVar 8) (aCons (eC (.bl false)) aNil))))) sNil)
 (sSeq (sSet 6 9 (eB gMin2 (aCons (eB gInt (aCons (eVar 4) aNil)) (aCons (eVar 7) aNil))))
 (sSeq (sSetIx (eAdd (eIx (eVar 2) (eC (.int 1))) (eTup (aCons (eTup (aCons (eIx (eVar 6) (eC (.int 1))) (aCons (eVar 9) (aCons (eC (.bl false)) aNil)))) aNil))) (eVar 2) (eC (.int 1)))
 (sSeq (sSetIx (eAdd (eIx (eVar 2) (eC (.int 0))) (eTup (aCons (eVar 9) aNil))) (eVar 2) (eC (.int 0)))
 (sSeq (sSetIx (eC (.int 0)) (eVar 2) (eC (.int 2)))
 (sRtA [1, 3, 4, 6, 7, 8, 9] (sRet (eCall [false, false] FZsame (aCons (eVar 8) (aCons (eC (.bl true)) aNil)))))))))))))))
def N_law : List Str := ["_law_script", "_law_shape", "_law_rows", "_law_source_here", "_law_bound", "_law_first", "_law_way", "_law_tree_here", "_law_game", "_law_state", "_law_turn"]
def t_law_1 : M Bool := (tOr (tCmp (eEq (eVar 6) (eC (.int 0)))) (tCmp (eEq (eVar 6) (eC (.int 2)))))
def i_law_1 : MS := sIf t_law_1 (sSet 1 4 (eC (.int 3))) sNil
def t_law_2 : M Bool := (tOr (tCmp (eEq (eVar 6) (eC (.int 0)))) (tCmp (eEq (eVar 6) (eC (.int 1)))))
def i_law_2 : MS := sIf t_law_2 (sSet 1 5 (eC (.int 0))) sNil
def b_law_1 (FZshows FZat FZmoved : Fn) : MS := (sAft [(10, true)] (sSeq (sIf (tNot (tVal (eCall [true, false, false, false, false] FZshows (aCons (eVar 8) (aCons (eVar 2) (aCons (eIx (eVar 9) (eC (.int 0))) (aCons (eIx (eVar 9) (eC (.int 1))) (aCons (eIx (eVar 9) (eC (.int 2))) aNil)))))))) (sRtA [0, 1, 2, 3, 4, 5, 6, 7, 8, 9, 10] (sRet (eC (.bl false)))) sNil)
 (sSeq (sIf (tCmp (eEq (eIx (eCall [false, false] FZat (aCons (eVar 2) (aCons (eIx (eVar 9) (eC (.int 0))) aNil))) (eC (.int 0))) (eC (.str "end")))) (sRtA [0, 1, 2, 3, 4, 5, 6, 7, 8, 9, 10] (sRet (eC (.bl true)))) sNil)
 (sIf (tNot (tVal (eCall [true, false, true, false, false, true] FZmoved (aCons (eVar 8) (aCons (eVar 2) (aCons (eVar 9) (aCons (eVar 4) (aCons (eVar 5) (aCons (eVar 3) aNil))))))))) (sRtA [0, 1, 2, 3, 4, 5, 6, 7, 8, 9, 10] (sRet (eC (.bl false)))) sNil))))
def l_law_1 (FZshows FZat FZmoved : Fn) : MS := sFor (iRng1 (aCons (eC (.int 30)) aNil)) (gN 10) (b_law_1 FZshows FZat FZmoved)
def e_law_1 (FZshows FZsame : Fn) : M Rv := (eAnd (eCall [true, false, false, false, false] FZshows (aCons (eVar 8) (aCons (eVar 2) (aCons (eIx (eVar 9) (eC (.int 0))) (aCons (eIx (eVar 9) (eC (.int 1))) (aCons (eIx (eVar 9) (eC (.int 2))) aNil)))))) (eCall [false, false] FZsame (aCons (eFld ["Tree", "Round"] "rows" (eVar 7)) (aCons (eVar 2) aNil))))
def f_law (FZcell FZsource FZany_tree FZdraw F_Tree_DinitD FZsame FZstarted FZshows FZat FZmoved : Fn) : MS :=
 (sSeq (sSet 1 1 (eCall [false] FZsource (aCons (eCall [false, false] FZcell (aCons (eVar 0) (aCons (eC (.int 0)) aNil))) aNil)))
 (sSeq (sSet 1 2 (eCall [true, false, false] FZany_tree (aCons (eVar 1) (aCons (eCall [false, false] FZcell (aCons (eVar 0) (aCons (eC (.int 1)) aNil))) (aCons (eC (.int 24)) aNil)))))
 (sSeq (sSet 1 3 (eCall [false] FZsource (aCons (eCall [false, false] FZcell (aCons (eVar 0) (aCons (eC (.int 2)) aNil))) aNil)))
 (sSeq (sSet 1 4 (eIx (eLst (aCons (eC (.int 1)) (aCons (eC (.int 2)) (aCons (eC (.int 3)) (aCons (eC (.int 4)) (aCons (eC (.int 7)) (aCons (ePow (eC (.int 10)) (eC (.int 9))) aNil))))))) (eCall [true, false] FZdraw (aCons (eVar 1) (aCons (eC (.int 6)) aNil)))))
 (sSeq (sSet 1 5 (eIx (eLst (aCons (eC (.int 0)) (aCons (eC (.int 1)) (aCons (eC (.int 2)) (aCons (eC (.int 3)) (aCons (eC (.int 4)) (aCons (ePow (eC (.int 10)) (eC (.int 9))) aNil))))))) (eCall [true, false] FZdraw (aCons (eVar 1) (aCons (eC (.int 6)) aNil)))))
 (sSeq (sSet 1 6 (eCall [true, false] FZdraw (aCons (eVar 1) (aCons (eC (.int 4)) aNil))))
 (sSeq (sFz 7 (sSet 1 7 (eMake "Tree" [false] F_Tree_DinitD (aCons (eVar 2) aNil))))
 (sSeq (sIf (tNot (tVal (eCall [false, false] FZsame (aCons (eTup (aCons (eC (.int 3)) (aCons (eC (.int 0)) aNil))) (aCons (eTup (aCons (eC (.int 3)) (aCons (eC (.int 0)) aNil))) aNil))))) (sRtA [0, 1, 2, 3, 4, 5, 6, 7, 8, 9, 10] (sRet (eC (.bl false)))) sNil)
 (sSeq (sSet 1 8 (eCall [false, false, false, false] FZstarted (aCons (eVar 7) (aCons (eVar 6) (aCons (eVar 4) (aCons (eVar 5) aNil))))))
 (sSeq i_law_1
 (sSeq i_law_2
 (sSeq (sSet 1 9 (eLst (aCons (eTup aNil) (aCons (eTup aNil) (aCons (eC (.int 0)) aNil)))))
 (sSeq (l_law_1 FZshows FZat FZmoved)
 (sRtA [0, 1, 2, 3, 4, 5, 6, 7, 8, 9, 10] (sRet (e_law_1 FZshows FZsame))))))))))))))))
end
end My
namespace My
open PySem Dl Tl
open L2 (ixN atI)
noncomputable section
abbrev Ty0_ : Type := ((List Int) × (List (Int × Int × Bool)) × Int)
abbrev Ty1_ : Type := ((Option Int) × Int × Bool)
abbrev mI (l : List Int) : List D := List.map D.int l
abbrev mL (l : List (List Int)) : List D := List.map (fun x => (D.lst (List.map D.int x))) l
abbrev mT (l : List (List Int)) : List D := List.map (fun x => (D.tup (List.map D.int x))) l
abbrev mP (r : List (List (List Int)) × List Int × List Int × Option QT) : D := .lst [(.lst (List.map (fun x => (D.lst (List.map (fun x => (D.lst (List.map D.int x))) x))) r.1)), (.lst (List.map D.int r.2.1)), (.lst (List.map D.int r.2.2.1)), (eO e_tree r.2.2.2)]
abbrev vL (l : List Int) : S := .val (.lst (List.map D.int l))
abbrev oL (l : List Int) : S := .own (.lst (List.map D.int l))
abbrev vT (l : List Int) : S := .val (.tup (List.map D.int l))
abbrev vM (l : List (List Int)) : S := .val (.lst (List.map (fun x => (D.lst (List.map D.int x))) l))
abbrev vI (i : Int) : S := .val (.int i)
structure T_Tree where
 rows : QT
 length : Int
def e_Tree (b : T_Tree) : D := .obj "Tree" ["rows", "length"] [(e_tree b.rows), (.int b.length)]
theorem fld_Tree_rows (b : T_Tree) : fldO ["Tree", "Round"] "rows" (e_Tree b) = some (e_tree b.rows) := by
 unfold e_Tree
 show (if (("Tree" : Str) ∈ (["Tree", "Round"] : List Str)) then lkF "rows" _ _ else none) = _
 rw [if_pos (by decide +kernel)]; rfl
theorem fld_Tree_length (b : T_Tree) : fldO ["Tree"] "length" (e_Tree b) = some (.int b.length) := by
 unfold e_Tree
 show (if (("Tree" : Str) ∈ (["Tree"] : List Str)) then lkF "length" _ _ else none) = _
 rw [if_pos (by decide +kernel)]; rfl
theorem isObj_Tree (b : T_Tree) : isObj "Tree" (e_Tree b) = true := by unfold e_Tree isObj; exact decide_eq_true rfl
theorem is_o_Tree (o : Option T_Tree) : dIsN (eO e_Tree o) .non = some (.val (.bl o.isNone)) := by cases o <;> rfl
theorem isn_o_Tree (o : Option T_Tree) : dNotN (eO e_Tree o) .non = some (.val (.bl (!o.isNone))) := by cases o <;> rfl
theorem sca_Tree (b : T_Tree) : scaD (e_Tree b) = false := rfl
theorem sne_Tree_rows_length : (("rows" : Str) = ("length" : Str)) = False := eq_false (by decide +kernel)
theorem mem_Tree_rows : (("Tree" : Str) ∈ (["Tree", "Round"] : List Str)) = True := eq_true (by decide +kernel)
theorem sne_Tree_length_rows : (("length" : Str) = ("rows" : Str)) = False := eq_false (by decide +kernel)
structure T_Round where
 rows : QT
 patience : Int
 default : Int
 path : (List Int)
 history : (List Ty1_)
 silences : Int
def e_Round (b : T_Round) : D := .obj "Round" ["rows", "patience", "default", "path", "history", "silences"] [(e_tree b.rows), (.int b.patience), (.int b.default), (.tup (List.map D.int b.path)), (.tup (List.map (fun (x : Ty1_) => (D.tup [(eO D.int x.1), (.int x.2.1), (.bl x.2.2)])) b.history)), (.int b.silences)]
theorem fld_Round_rows (b : T_Round) : fldO ["Tree", "Round"] "rows" (e_Round b) = some (e_tree b.rows) := by
 unfold e_Round
 show (if (("Round" : Str) ∈ (["Tree", "Round"] : List Str)) then lkF "rows" _ _ else none) = _
 rw [if_pos (by decide +kernel)]; rfl
theorem fld_Round_patience (b : T_Round) : fldO ["Round"] "patience" (e_Round b) = some (.int b.patience) := by
 unfold e_Round
 show (if (("Round" : Str) ∈ (["Round"] : List Str)) then lkF "patience" _ _ else none) = _
 rw [if_pos (by decide +kernel)]; rfl
theorem fld_Round_default (b : T_Round) : fldO ["Round"] "default" (e_Round b) = some (.int b.default) := by
 unfold e_Round
 show (if (("Round" : Str) ∈ (["Round"] : List Str)) then lkF "default" _ _ else none) = _
 rw [if_pos (by decide +kernel)]; rfl
theorem fld_Round_path (b : T_Round) : fldO ["Round"] "path" (e_Round b) = some (.tup (mI b.path)) := by
 unfold e_Round
 show (if (("Round" : Str) ∈ (["Round"] : List Str)) then lkF "path" _ _ else none) = _
 rw [if_pos (by decide +kernel)]; rfl
theorem fld_Round_history (b : T_Round) : fldO ["Round"] "history" (e_Round b) = some (.tup (List.map (fun (x : Ty1_) => (D.tup [(eO D.int x.1), (.int x.2.1), (.bl x.2.2)])) b.history)) := by
 unfold e_Round
 show (if (("Round" : Str) ∈ (["Round"] : List Str)) then lkF "history" _ _ else none) = _
 rw [if_pos (by decide +kernel)]; rfl
theorem fld_Round_silences (b : T_Round) : fldO ["Round"] "silences" (e_Round b) = some (.int b.silences) := by
 unfold e_Round
 show (if (("Round" : Str) ∈ (["Round"] : List Str)) then lkF "silences" _ _ else none) = _
 rw [if_pos (by decide +kernel)]; rfl
theorem isObj_Round (b : T_Round) : isObj "Round" (e_Round b) = true := by unfold e_Round isObj; exact decide_eq_true rfl
theorem is_o_Round (o : Option T_Round) : dIsN (eO e_Round o) .non = some (.val (.bl o.isNone)) := by cases o <;> rfl
theorem isn_o_Round (o : Option T_Round) : dNotN (eO e_Round o) .non = some (.val (.bl (!o.isNone))) := by cases o <;> rfl
theorem sca_Round (b : T_Round) : scaD (e_Round b) = false := rfl
theorem sne_Round_rows_patience : (("rows" : Str) = ("patience" : Str)) = False := eq_false (by decide +kernel)
theorem sne_Round_rows_default : (("rows" : Str) = ("default" : Str)) = False := eq_false (by decide +kernel)
theorem sne_Round_rows_path : (("rows" : Str) = ("path" : Str)) = False := eq_false (by decide +kernel)
theorem sne_Round_rows_history : (("rows" : Str) = ("history" : Str)) = False := eq_false (by decide +kernel)
theorem sne_Round_rows_silences : (("rows" : Str) = ("silences" : Str)) = False := eq_false (by decide +kernel)
theorem mem_Round_rows : (("Round" : Str) ∈ (["Tree", "Round"] : List Str)) = True := eq_true (by decide +kernel)
theorem sne_Round_patience_rows : (("patience" : Str) = ("rows" : Str)) = False := eq_false (by decide +kernel)
theorem sne_Round_patience_default : (("patience" : Str) = ("default" : Str)) = False := eq_false (by decide +kernel)
theorem sne_Round_patience_path : (("patience" : Str) = ("path" : Str)) = False := eq_false (by decide +kernel)
theorem sne_Round_patience_history : (("patience" : Str) = ("history" : Str)) = False := eq_false (by decide +kernel)
theorem sne_Round_patience_silences : (("patience" : Str) = ("silences" : Str)) = False := eq_false (by decide +kernel)
theorem sne_Round_default_rows : (("default" : Str) = ("rows" : Str)) = False := eq_false (by decide +kernel)
theorem sne_Round_default_patience : (("default" : Str) = ("patience" : Str)) = False := eq_false (by decide +kernel)
theorem sne_Round_default_path : (("default" : Str) = ("path" : Str)) = False := eq_false (by decide +kernel)
theorem sne_Round_default_history : (("default" : Str) = ("history" : Str)) = False := eq_false (by decide +kernel)
theorem sne_Round_default_silences : (("default" : Str) = ("silences" : Str)) = False := eq_false (by decide +kernel)
theorem sne_Round_path_rows : (("path" : Str) = ("rows" : Str)) = False := eq_false (by decide +kernel)
theorem sne_Round_path_patience : (("path" : Str) = ("patience" : Str)) = False := eq_false (by decide +kernel)
theorem sne_Round_path_default : (("path" : Str) = ("default" : Str)) = False := eq_false (by decide +kernel)
theorem sne_Round_path_history : (("path" : Str) = ("history" : Str)) = False := eq_false (by decide +kernel)
theorem sne_Round_path_silences : (("path" : Str) = ("silences" : Str)) = False := eq_false (by decide +kernel)
theorem sne_Round_history_rows : (("history" : Str) = ("rows" : Str)) = False := eq_false (by decide +kernel)
theorem sne_Round_history_patience : (("history" : Str) = ("patience" : Str)) = False := eq_false (by decide +kernel)
theorem sne_Round_history_default : (("history" : Str) = ("default" : Str)) = False := eq_false (by decide +kernel)
theorem sne_Round_history_path : (("history" : Str) = ("path" : Str)) = False := eq_false (by decide +kernel)
theorem sne_Round_history_silences : (("history" : Str) = ("silences" : Str)) = False := eq_false (by decide +kernel)
theorem sne_Round_silences_rows : (("silences" : Str) = ("rows" : Str)) = False := eq_false (by decide +kernel)
theorem sne_Round_silences_patience : (("silences" : Str) = ("patience" : Str)) = False := eq_false (by decide +kernel)
theorem sne_Round_silences_default : (("silences" : Str) = ("default" : Str)) = False := eq_false (by decide +kernel)
theorem sne_Round_silences_path : (("silences" : Str) = ("path" : Str)) = False := eq_false (by decide +kernel)
theorem sne_Round_silences_history : (("silences" : Str) = ("history" : Str)) = False := eq_false (by decide +kernel)
theorem own_Round (i : Nat) (b : T_Round) : ownObK i (some (S.own (e_Round b))) = some (i, ("Round" : Str), (["rows", "patience", "default", "path", "history", "silences"] : List Str), [(e_tree b.rows), (.int b.patience), (.int b.default), (.tup (mI b.path)), (.tup (List.map (fun (x : Ty1_) => (D.tup [(eO D.int x.1), (.int x.2.1), (.bl x.2.2)])) b.history)), (.int b.silences)]) := rfl
theorem mk_Round (x_rows : QT) (x_patience : Int) (x_default : Int) (x_path : (List Int)) (x_history : (List Ty1_)) (x_silences : Int) : e_Round (⟨x_rows, x_patience, x_default, x_path, x_history, x_silences⟩ : T_Round) = .obj "Round" ["rows", "patience", "default", "path", "history", "silences"] [(e_tree x_rows), (.int x_patience), (.int x_default), (.tup (mI x_path)), (.tup (List.map (fun (x : Ty1_) => (D.tup [(eO D.int x.1), (.int x.2.1), (.bl x.2.2)])) x_history)), (.int x_silences)] := rfl
theorem isObjM_Round_go_on (b : T_Round) : isObjM "Round" "go_on" (e_Round b) = true := by unfold e_Round isObjM; exact decide_eq_true ⟨rfl, by decide +kernel⟩
theorem isObjM_Round_say (b : T_Round) : isObjM "Round" "say" (e_Round b) = true := by unfold e_Round isObjM; exact decide_eq_true ⟨rfl, by decide +kernel⟩
theorem isObjM_Round_wait (b : T_Round) : isObjM "Round" "wait" (e_Round b) = true := by unfold e_Round isObjM; exact decide_eq_true ⟨rfl, by decide +kernel⟩
local macro_rules | `(tactic| simp? only [$as,*] $[$lo]?) => `(tactic| simp only [Tl.ob_some, Tl.ob_none, Tl.ob_assoc, Tl.om_eq, Tl.ob_ite, Tl.gz_small, Tl.gb_true, Tl.tt_true, Tl.ft_false, Tl.ite_T, Tl.ite_F, Tl.ite_fun, Tl.b_not_t, Tl.b_not_f, Tl.b_at, Tl.b_af, Tl.b_ot, Tl.b_of, Tl.b_ta, Tl.b_fa, Tl.g_zero, Tl.g_succ, Tl.s_zero, Tl.s_succ, Tl.gd_zero, Tl.gd_succ, Tl.a_cons, Tl.a_nil, Tl.a_nil2, Tl.m_cons, Tl.m_nil, Tl.m_app, Tl.m_map, Tl.m_idf, Tl.l_cons, Tl.l_nil, Tl.l_map, Tl.l_app, Tl.e_map, Tl.e_cons, Tl.e_nil, Tl.r_zero, Tl.r_succ, Tl.tl_cons, Tl.tl_nil, Tl.any_cons', Tl.any_nil', Tl.all_cons', Tl.all_nil', Tl.mem_one, Tl.eqs_self, Tl.tt_and, Tl.cps_bind, Tl.cps_pure, Tl.cps_fail, Tl.cps_ofO, Tl.cps_ite, Tl.cps_var, Tl.varK_v, Tl.varK_o, Tl.cps_C, Tl.set_v, Tl.set_o, Tl.set_a, Tl.cps_peek_v, Tl.cps_peek_o, Tl.cps_peek_a, Tl.peekK_v, Tl.peekK_o, Tl.cps_toV_v, Tl.cps_toV_o, Tl.cps_toV_a, Tl.toVK_v, Tl.toVK_o, Tl.peeks_n, Tl.peeks_c, Tl.toVs_n, Tl.toVs_c, Tl.toVs_vals, Tl.toVs_vals0, Tl.toVs_mv, Tl.toVs_mv0, Tl.cps_bin, Tl.cps_aNil, Tl.cps_aCons, Tl.it_l, Tl.it_t, Tl.cps_aStar, Tl.cps_eB, Tl.cps_tup, Tl.cps_lst, Tl.ofI_i, Tl.cps_oNo, Tl.cps_oSome, Tl.cps_sl, Tl.cps_neg, Tl.cps_tru, Tl.cps_tVal, Tl.cps_tNot, Tl.cps_tAnd, Tl.cps_tOr, Tl.cps_eNot, Tl.cps_eAnd, Tl.cps_eOr, Tl.cps_eIf, Tl.ofBl_b, Tl.cps_tCmp, Tl.cps_yes, Tl.cps_fld, Tl.cps_frz, Tl.prep_n, Tl.prep_t, Tl.prep_f, Tl.prep_z, Tl.cps_call, Tl.callO_ret, Tl.callO_ex, Tl.na_v, Tl.na_o, Tl.cps_eCall, Tl.ssOfs_n, Tl.ssOfs_c, Tl.ssOf_v, Tl.ssOf_a, Tl.ssK_v, Tl.ssK_o, Tl.dist_n, Tl.dist_v, Tl.dist_a, Tl.isAli_v, Tl.isAli_a, Tl.noAli_n, Tl.noAli_v, Tl.noAli_a, Tl.scaR_o, Tl.scaR_v, Tl.sca_n, Tl.sca_b, Tl.sca_i, Tl.sca_s, Tl.sca_l, Tl.sca_t, Tl.sca_ob, Tl.back_n, Tl.back_v, Tl.back_a, Tl.back1_eq, Tl.b1K_o, Tl.b1K_v, Tl.ownOr_o, Tl.cps_makeM, Tl.makeO_ret, Tl.makeO_ex, Tl.cps_eMake, Tl.cps_ckC, Tl.cps_ckO, Tl.cps_meth, Tl.cps_own2, Tl.cps_ownIn, Tl.ownLst_a, Tl.ownK_o, Tl.cps_append, Tl.ofL_l, Tl.cps_extend, Tl.cps_clear, Tl.cps_iSeq, Tl.cps_rng1, Tl.cps_rng2, Tl.cps_zip, Tl.cps_enu, Tl.rangeD_eq, Tl.dRng1_eq, Tl.dRng2_eq, Tl.dZip_l, Tl.dZip_t, Tl.dEnum_l, Tl.dEnum_t, Tl.sSeq_eq, Tl.sq_none, Tl.sq_nx, Tl.sq_rt, Tl.sq_ct, Tl.sq_bk, Tl.sq_ex, Tl.sq_bind, Tl.sq_ite, Tl.thenS_eq, Tl.sNil_eq, Tl.sPass_eq, Tl.sBreak_eq, Tl.sCont_eq, Tl.sNever_eq, Tl.sRetN_eq, Tl.sExpr_eq, Tl.retV_v, Tl.retV_o, Tl.retV_a, Tl.retK_v, Tl.retK_o, Tl.sRet_eq, Tl.setV_v, Tl.setV_o, Tl.setV_a, Tl.setK_v, Tl.setK_o, Tl.sSet_eq, Tl.sIf_eq, Tl.sFor_eq, Tl.asg_eq, Tl.sAsg_eq, Tl.sSetIx_eq, Tl.ownObj_a, Tl.ownObK_o, Tl.sSetF_eq, Tl.putF2_n, Tl.putF2_c, Tl.lkF_c, Tl.fldO_eq, Tl.nrm_n, Tl.nrm_k, Tl.nrm_f, Tl.frz1_o, Tl.frz1_v, Tl.frz1_n, Tl.kil_n, Tl.kil_c, Tl.sFore_eq, Tl.sAft_eq, Tl.sFz_eq, Tl.aq_bind, Tl.aq_ite, Tl.aq_none, Tl.aq_nx, Tl.aq_ct, Tl.aq_bk, Tl.aq_rt, Tl.aq_ex, Tl.sRtA_eq, Tl.rq_bind, Tl.rq_ite, Tl.rq_none, Tl.rq_rtv, Tl.rq_rto, Tl.rq_ex, Tl.gN_eq, Tl.gT_eq, Tl.gsN_eq, Tl.gsC_eq, Tl.rtn_bind, Tl.rtn_ite, Tl.rtn_none, Tl.rtn_nx, Tl.rtn_rtv, Tl.rtn_rto, Tl.rtn_ex, Tl.post_n, Tl.post_v, Tl.post_o, Tl.sq_lpO, Tl.aq_lpO, Tl.sq_k, Tl.aq_k, Tl.rq_k, Tl.rtn_k, Tl.ob_k, Tl.cfO_nx, Tl.cfO_ct, Tl.cfO_bk, Tl.cfO_rt, Tl.cps_lc, Tl.noOwn_n, Tl.noOwn_c, Tl.isOwn_o, Tl.isOwn_v, Tl.isOwn_n, Tl.wipe_n, Tl.wipe_c, Tl.back_n', Tl.back_c', Tl.add_ii, Tl.add_tt, Tl.add_ll, Tl.sub_ii, Tl.mul_ii, Tl.div_ii, Tl.mod_ii, Tl.pow_ii, Tl.lt_ii, Tl.le_ii, Tl.gt_ii, Tl.ge_ii, Tl.eO_none, Tl.eO_some, Tl.lt_io, Tl.gt_io, Tl.lt_oi, Tl.gt_oi, Tl.is_oi, Tl.isn_oi, Tl.is_ot, Tl.isn_ot, Tl.sca_oi, Tl.sca_ob', Tl.is_bb, Tl.isn_bb, Tl.is_nn, Tl.is_in, Tl.is_ln, Tl.is_tn, Tl.is_on, Tl.isn_nn, Tl.isn_in, Tl.isn_ln, Tl.isn_tn, Tl.isn_on, Tl.it_sq, Tl.eSq_t, Tl.eSq_l, Tl.len_sq, Tl.eq_ii, Tl.ne_ii, Tl.eq_bb, Tl.ne_bb, Tl.eq_li, Tl.ne_li, Tl.eq_ti, Tl.ne_ti, Tl.eq_l0, Tl.ne_l0, Tl.in_il, Tl.in_it, Tl.in_is, Tl.notIn_il, Tl.notIn_it, Tl.notIn_is, Tl.in_rl, Tl.notIn_rl, Tl.tru_n, Tl.tru_b, Tl.tru_i, Tl.tru_l, Tl.tru_t, Tl.ix_lc, Tl.ix_tc, Tl.ix_lm, Tl.ix_tm, Tl.ix_sm, Tl.ix_sc, Tl.atI_map', Tl.at0, Tl.at1, Tl.at2, Tl.at3, Tl.set_map, Tl.sl_l, Tl.sl_t, Tl.len_l, Tl.len_t, Tl.len_s, Tl.int_i, Tl.int_b, Tl.max_ii, Tl.min_ii, Tl.list_l, Tl.list_t, Tl.list_s, Tl.tuple_l, Tl.tuple_t, Tl.tuple_s, Tl.sorted_i, Tl.maxL_i, Tl.minL_i, Tl.sum_i, Tl.all_b, Tl.any_b, Tl.isi_eq, Tl.ty_n, Tl.ty_b, Tl.ty_i, Tl.ty_s, Tl.ty_l, Tl.ty_t, Tl.il_ii, Tl.il_ib, Tl.il_it, Tl.il_il, Tl.il_bb, Tl.il_bi, Tl.il_bl, Tl.il_bt, Tl.il_ll, Tl.il_lt, Tl.il_li, Tl.il_lb, Tl.il_tt, Tl.il_tl, Tl.il_ti, Tl.il_tb, Tl.il_ss, Tl.il_si, Tl.il_sb, Tl.il_ni, Tl.il_nb, Tl.il_nl, Tl.il_nt, Tl.cps_lc2, Tl.augK_v, Tl.sAug_eq, Tl.gadd_ii, Tl.gsub_ii, Tl.gmul_ii, Tl.cps_ownIx, Tl.cps_ownCall, Tl.cps_lrg, Tl.cps_iOwn, Tl.cps_lOwn, Tl.cps_lent, Tl.lentK_eq, Tl.lent_and, Tl.scaRv_i, Tl.scaRv_b, Tl.frzA_n, Tl.frzA_c, Tl.fzS_n, Tl.fzS_v, Tl.fzS_o, Tl.ownL_n, Tl.ownL_no, Tl.ownL_v, Tl.ownL_o, Tl.e_tree_fin, Tl.e_tree_ask, Tl.ix_tree0, Tl.ix_tree1, Tl.ix_tree2, Tl.len_tree, Tl.eq_tag_end, Tl.eq_tag_ask, Tl.ne_tag_end, Tl.ne_tag_ask, Tl.so_t, Tl.so_f, Tl.ite_same, Tl.cps_un, Tl.l1_o, Tl.cps_aTmpR, Tl.cps_aTmp, Tl.cps_aConsT, Tl.tkK_v, Tl.tkK_o, Tl.tk_z, Tl.tk_s, Tl.cps_callT, Tl.cps_eCallT, Tl.cps_eCallK, Tl.cps_dix, Tl.il_ns, Tl.il_bs, Tl.il_is, Tl.il_ls, Tl.il_ts, Tl.il_sl, Tl.il_st, Tl.sMatch_eq, Tl.setD_n, Tl.setD_c, Tl.kNil_eq, Tl.cps_aTmp2R, Tl.cps_aTmp2, Tl.cps_aConsT2, Tl.cps_callT2, Tl.cps_eCallT2, Tl.ofTp_t, Tl.cps_extendT, Tl.any_bm, Tl.all_bm, Tl.is_otree, Tl.isn_otree, Tl.ne_lt0, Tl.eq_ll0, Tl.int_o, Tl.ge_oi, Tl.le_oi, Tl.lpO_E, Tl.keyO_T, Tl.inN_f, Tl.getN_f, Tl.putN_f, Tl.cps_dicN, Tl.cps_getN, Tl.eInN_eq, Tl.ownNdi_a, Tl.ownNK_n, Tl.sSetN_eq, Tl.l1N_o, Tl.cps_aTmpRN, Tl.cps_aTmpN, Tl.cps_aConsTN, Tl.cps_callTN, Tl.cps_eCallTN, Tl.inN_i, Tl.getN_i, Tl.putN_i, Tl.inN_b, Tl.notInN_b, Tl.putN_b, Tl.inN_k, Tl.getN_k, Tl.dicOne_b, Tl.cps_dic1, Tl.eNotInN_eq, Tl.or_tt, Tl.oRv_n, Tl.oRv_s, Tl.oRv_na, Tl.rtn_oo, Tl.oRv_toV, Tl.is_ol, Tl.isn_ol, Tl.eq_rn, Tl.cps_eDcN, Tl.eq_l0t, Tl.ne_l0t, Tl.cps_eCallD, Tl.gt_oo, Tl.unO_i, Tl.ty_tree, Tl.glen_tree, Tl.eq_ll0g, Tl.or_f0, Tl.cast_2, Tl.cast_3, Tl.intD_i, Tl.popT_map, Tl.insT_map, Tl.index_i, Tl.isLst_l, Tl.in_ll, Tl.notIn_ll, Tl.cps_popAt, Tl.cps_insK, Tl.cps_insA, Tl.cps_insert, Tl.cps_ckLv, Tl.cps_index, Tl.le_oo, Tl.cps_prop, Tl.nx_eq, Tl.nxO_ret, Tl.cps_eMakeK, Tl.fillR_n, Tl.fillR_d, Tl.fillR_0, Tl.fillR_1, Tl.sAugF_eq, Tl.intOf_i, My.fld_Tree_rows, My.fld_Tree_length, My.isObj_Tree, My.is_o_Tree, My.isn_o_Tree, My.sca_Tree, My.sne_Tree_rows_length, My.mem_Tree_rows, My.sne_Tree_length_rows, My.fld_Round_rows, My.fld_Round_patience, My.fld_Round_default, My.fld_Round_path, My.fld_Round_history, My.fld_Round_silences, My.isObj_Round, My.is_o_Round, My.isn_o_Round, My.sca_Round, My.sne_Round_rows_patience, My.sne_Round_rows_default, My.sne_Round_rows_path, My.sne_Round_rows_history, My.sne_Round_rows_silences, My.mem_Round_rows, My.sne_Round_patience_rows, My.sne_Round_patience_default, My.sne_Round_patience_path, My.sne_Round_patience_history, My.sne_Round_patience_silences, My.sne_Round_default_rows, My.sne_Round_default_patience, My.sne_Round_default_path, My.sne_Round_default_history, My.sne_Round_default_silences, My.sne_Round_path_rows, My.sne_Round_path_patience, My.sne_Round_path_default, My.sne_Round_path_history, My.sne_Round_path_silences, My.sne_Round_history_rows, My.sne_Round_history_patience, My.sne_Round_history_default, My.sne_Round_history_path, My.sne_Round_history_silences, My.sne_Round_silences_rows, My.sne_Round_silences_patience, My.sne_Round_silences_default, My.sne_Round_silences_path, My.sne_Round_silences_history, reduceIte, Nat.reduceAdd, Nat.reduceSub, Nat.reduceMul, Nat.reduceLT, Nat.reduceGT, Nat.reduceLeDiff, Nat.reduceEqDiff, Nat.reduceBEq, Nat.reduceBNe, Int.reduceNeg, Int.reduceAdd, Int.reduceSub, Int.reduceMul, Int.reduceLT, Int.reduceLE, Int.reduceGT, Int.reduceGE, Int.reduceEq, Int.reduceNe, Int.reduceBEq, Int.reduceBNe, Int.reducePow, $as,*] $[$lo]?)
theorem tstZcell_1 (script : (List Int)) (k_ : Int) {γ : Type} {kx : Xn → List S → Option γ} {k : Bool → List S → Option γ} : cps (tCmp (eLt (eVar 1) (eB gLen (aCons (eVar 0) aNil)))) [.val (.scr script), (vI k_)] kx k = k (decide (k_ < ((List.length script : Nat) : Int))) [.val (.scr script), (vI k_)] := by
 simp? only [Tl.ob_some]
theorem stZcell_1 (script : (List Int)) (k_ : Int) : (sRtA [0, 1] (sRet (eIx (eVar 0) (eVar 1)))) [.val (.scr script), (vI k_)] = (atI script k_).bind fun v1 => some (.rt (.val (.int v1)) [.no, .no]) := by
 simp? only [Tl.ob_some]
theorem stZcell_2 {s0 s1 : S}  : (sRtA [0, 1] (sRet (eC (.int 0)))) [s0, s1] = some (.rt (.val (.int (0 : Int))) [.no, .no]) := by
 simp? only [Tl.ob_some]
def tZcell (script : (List Int)) (k_ : Int) : Option (Int) := if (decide (k_ < ((List.length script : Nat) : Int))) = true then (atI script k_).bind fun v1 => some v1 else some (0 : Int)
local macro_rules | `(tactic| dsimp? only [$as,*]) => `(tactic| simp (maxSteps := 4000000) only [sSeq_eq, sq_none, sq_nx, sq_rt, sq_ct, sq_bk, sq_ex, sq_bind, sq_ite, sq_lpO, sq_k, sIf_eq, sNil_eq, sPass_eq, sBreak_eq, sCont_eq, sNever_eq, sFore_eq, sAft_eq, aq_bind, aq_ite, aq_none, aq_nx, aq_ct, aq_bk, aq_rt, aq_ex, aq_k, aq_lpO, nrm_n, nrm_k, nrm_f, frz1_o, frz1_v, frz1_n, g_zero, g_succ, s_zero, s_succ, ob_some, ob_none, ob_assoc, ob_ite, ob_k, om_eq, ite_T, ite_F, tt_true, ft_false, gN_eq, cfO_nx, cfO_ct, cfO_bk, cfO_rt, rq_none, $as,*])
theorem eqZcell : ∀ (script : (List Int)) (k_ : Int), FnZcell [.val (.scr script), .val (.int k_)] = (tZcell script k_).bind fun r => some (.ret (.val (.int r)) [.val (.scr script), .val (.int k_)]) := fun script k_ => by
 show mkFn _ _ _ _ = _
 rw [mkFn_eq]
 dsimp? only [fZcell, tZcell, Nat.reduceSub, Nat.reduceAdd, rtn_bind, rtn_ite, rtn_none, rtn_nx, rtn_rtv, rtn_rto, rtn_k, post_n, post_v, post_o, l_cons, l_nil, r_succ, r_zero, a_cons, a_nil, tstZcell_1, stZcell_1, stZcell_2]
theorem tstZsource_1 (cell : Int) {γ : Type} {kx : Xn → List S → Option γ} {k : Bool → List S → Option γ} : cps (tCmp (eGe (eVar 0) (ePow (eC (.int 10)) (eC (.int 18))))) [(vI cell)] kx k = k (decide ((1000000000000000000 : Int) ≤ cell)) [(vI cell)] := by
 simp? only [(by decide +kernel : powOk 10 18 = true), (by decide +kernel : ((10 : Int) ^ Int.toNat 18) = 1000000000000000000)]
theorem stZsource_1 (cell : Int) : (sRtA [0] (sRet (eLst (aCons (eVar 0) (aCons (eC (.int 0)) (aCons (eVar 0) aNil)))))) [(vI cell)] = some (.rt (.own (.lst (List.map D.int [cell, (0 : Int), cell]))) [.no]) := by
 simp? only [Tl.ob_some]
theorem stZsource_2 (cell : Int) : (sRtA [0] (sRet (eLst (aCons (eC (.int 0)) (aCons (eC (.int 0)) (aCons (eVar 0) aNil)))))) [(vI cell)] = some (.rt (.own (.lst (List.map D.int [(0 : Int), (0 : Int), cell]))) [.no]) := by
 simp? only [Tl.ob_some]
def tZsource (cell : Int) : Option ((List Int)) := if (decide ((1000000000000000000 : Int) ≤ cell)) = true then some [cell, (0 : Int), cell] else some [(0 : Int), (0 : Int), cell]
theorem eqZsource : ∀ (cell : Int), FnZsource [.val (.int cell)] = (tZsource cell).bind fun r => some (.ret (.own (.lst (List.map D.int r))) [.val (.int cell)]) := fun cell => by
 show mkFn _ _ _ _ = _
 rw [mkFn_eq]
 dsimp? only [fZsource, tZsource, Nat.reduceSub, Nat.reduceAdd, rtn_bind, rtn_ite, rtn_none, rtn_nx, rtn_rtv, rtn_rto, rtn_k, post_n, post_v, post_o, l_cons, l_nil, r_succ, r_zero, a_cons, a_nil, tstZsource_1, stZsource_1, stZsource_2]
theorem stZdraw_1 {s1 s2 s3 : S} (source : (List Int)) : (sSetIx (eAdd (eIx (eVar 0) (eC (.int 1))) (eC (.int 1))) (eVar 0) (eC (.int 1))) [(oL source), s1, s2, s3] = (atI source (1 : Int)).bind fun v1 => (setT source (1 : Int) (v1 + (1 : Int))).bind fun v2 => some (.nx [(oL v2), s1, s2, s3]) := by
 simp? only [setT]
theorem tstZdraw_1 {s1 s2 s3 : S} (source : (List Int)) {γ : Type} {kx : Xn → List S → Option γ} {k : Bool → List S → Option γ} : cps (tCmp (eGt (eIx (eVar 0) (eC (.int 0))) (eC (.int 0)))) [(oL source), s1, s2, s3] kx k = (atI source (0 : Int)).bind fun v3 => k (decide ((0 : Int) < v3)) [(oL source), s1, s2, s3] := by
 simp? only [Tl.ob_some]
theorem stZdraw_2 {s2 : S} (source : (List Int)) (limit : Int) : (sSet 2 3 (eMod (eB gInt (aCons (eIx (eVar 0) (eC (.int 0))) aNil)) (eVar 1))) [(oL source), (vI limit), s2, .no] = (atI source (0 : Int)).bind fun v4 => (gb (modOk v4 limit)).bind fun _ => some (.nx [(oL source), (vI limit), s2, .val (.int (v4 % limit))]) := by
 simp? only [Tl.ob_some]
theorem stZdraw_3 {s2 s3 : S} (source : (List Int)) (limit : Int) : (sSetIx (eDiv (eIx (eVar 0) (eC (.int 0))) (eVar 1)) (eVar 0) (eC (.int 0))) [(oL source), (vI limit), s2, s3] = (atI source (0 : Int)).bind fun v5 => (gb (divOk v5 limit)).bind fun _ => (setT source (0 : Int) (v5 / limit)).bind fun v6 => some (.nx [(oL v6), (vI limit), s2, s3]) := by
 simp? only [setT]
theorem stZdraw_4 {s1 s2 : S} (source : (List Int)) (digit : Int) : (sRtA [1, 2, 3] (sRet (eVar 3))) [(oL source), s1, s2, (vI digit)] = some (.rt (.val (.int digit)) [(oL source), .no, .no, .no]) := by
 simp? only [Tl.ob_some]
theorem stZdraw_5 {s1 s3 : S} (source : (List Int)) : (sSet 2 2 (eMod (eB gInt (aCons (eAdd (eMul (eIx (eVar 0) (eC (.int 2))) (eC (.int 48271))) (eMul (eIx (eVar 0) (eC (.int 1))) (eC (.int 69621)))) aNil)) (eC (.int 2147483647)))) [(oL source), s1, .no, s3] = (atI source (2 : Int)).bind fun v7 => (atI source (1 : Int)).bind fun v8 => some (.nx [(oL source), s1, .val (.int (((v7 * (48271 : Int)) + (v8 * (69621 : Int))) % (2147483647 : Int))), s3]) := by
 simp? only [(fun i => mulOk_r (by decide) : ∀ i, mulOk i 48271 = true), (fun i => mulOk_r (by decide) : ∀ i, mulOk i 69621 = true), (fun i => modOk_l (by decide) : ∀ i, modOk i 2147483647 = true)]
theorem stZdraw_6 {s1 s3 : S} (source : (List Int)) (mixed : Int) : (sSet 2 2 (eMod (eB gInt (aCons (eAdd (eAdd (eMul (eVar 2) (eVar 2)) (eMul (eIx (eVar 0) (eC (.int 1))) (eC (.int 40692)))) (eC (.int 7))) aNil)) (eC (.int 2147483629)))) [(oL source), s1, (vI mixed), s3] = (gb (mulOk mixed mixed)).bind fun _ => (atI source (1 : Int)).bind fun v9 => some (.nx [(oL source), s1, .val (.int ((((mixed * mixed) + (v9 * (40692 : Int))) + (7 : Int)) % (2147483629 : Int))), s3]) := by
 simp? only [(fun i => mulOk_r (by decide) : ∀ i, mulOk i 40692 = true), (fun i => modOk_l (by decide) : ∀ i, modOk i 2147483629 = true)]
theorem stZdraw_7 {s3 : S} (source : (List Int)) (limit : Int) (mixed : Int) : (sRtA [1, 2, 3] (sRet (eMod (eB gInt (aCons (eAdd (eDiv (eVar 2) (eC (.int 8))) (eMul (eVar 2) (eC (.int 10000019)))) aNil)) (eVar 1)))) [(oL source), (vI limit), (vI mixed), s3] = (gb (modOk ((mixed / (8 : Int)) + (mixed * (10000019 : Int))) limit)).bind fun _ => some (.rt (.val (.int (((mixed / (8 : Int)) + (mixed * (10000019 : Int))) % limit))) [(oL source), .no, .no, .no]) := by
 simp? only [(fun i => divOk_l (by decide) : ∀ i, divOk i 8 = true), (fun i => mulOk_r (by decide) : ∀ i, mulOk i 10000019 = true)]
def tZdraw (source : (List Int)) (limit : Int) : Option (Int × (List Int)) := (atI source (1 : Int)).bind fun v1 => (setT source (1 : Int) (v1 + (1 : Int))).bind fun v2 => let source := v2; (atI source (0 : Int)).bind fun v3 => if (decide ((0 : Int) < v3)) = true then (atI source (0 : Int)).bind fun v4 => (gb (modOk v4 limit)).bind fun _ => let digit := (v4 % limit); (atI source (0 : Int)).bind fun v5 => (gb (divOk v5 limit)).bind fun _ => (setT source (0 : Int) (v5 / limit)).bind fun v6 => let source := v6; some (digit, source) else (atI source (2 : Int)).bind fun v7 => (atI source (1 : Int)).bind fun v8 => let mixed := (((v7 * (48271 : Int)) + (v8 * (69621 : Int))) % (2147483647 : Int)); (gb (mulOk mixed mixed)).bind fun _ => (atI source (1 : Int)).bind fun v9 => let mixed := ((((mixed * mixed) + (v9 * (40692 : Int))) + (7 : Int)) % (2147483629 : Int)); (gb (modOk ((mixed / (8 : Int)) + (mixed * (10000019 : Int))) limit)).bind fun _ => some ((((mixed / (8 : Int)) + (mixed * (10000019 : Int))) % limit), source)
theorem eqZdraw : ∀ (source : (List Int)) (limit : Int), FnZdraw [.own (.lst (List.map D.int source)), .val (.int limit)] = (tZdraw source limit).bind fun r => some (.ret (.val (.int r.1)) [.own (.lst (List.map D.int r.2)), .val (.int limit)]) := fun source limit => by
 show mkFn _ _ _ _ = _
 rw [mkFn_eq]
 dsimp? only [fZdraw, tZdraw, Nat.reduceSub, Nat.reduceAdd, rtn_bind, rtn_ite, rtn_none, rtn_nx, rtn_rtv, rtn_rto, rtn_k, post_n, post_v, post_o, l_cons, l_nil, r_succ, r_zero, a_cons, a_nil, stZdraw_1, tstZdraw_1, stZdraw_2, stZdraw_3, stZdraw_4, stZdraw_5, stZdraw_6, stZdraw_7]
theorem stZsizes_1 {s1 s3 s5 s6 s7 s8 s9 : S} (source : (List Int)) (standings : Int) : (sSet 4 4 (eB gMin2 (aCons (eB gInt (aCons (eVar 2) aNil)) (aCons (eIx (eLst (aCons (eC (.int 2)) (aCons (eC (.int 3)) (aCons (eC (.int 4)) (aCons (eC (.int 6)) aNil))))) (eCall [true, false] FnZdraw (aCons (eVar 0) (aCons (eC (.int 4)) aNil)))) aNil)))) [(oL source), s1, (vI standings), s3, .no, s5, s6, s7, s8, s9] = (tZdraw source (4 : Int)).bind fun v1 => (atI [(2 : Int), (3 : Int), (4 : Int), (6 : Int)] v1.1).bind fun v2 => some (.nx [(oL v1.2), s1, (vI standings), s3, .val (.int (if v2 < standings then v2 else standings)), s5, s6, s7, s8, s9]) := by
 have lf : ∀ (a0 a1 a2 a3 : Int) (i : Int), atI [(D.int a0), (D.int a1), (D.int a2), (D.int a3)] i = (atI [a0, a1, a2, a3] i).bind fun a => some (D.int a) := fun a0 a1 a2 a3 i => atI_map' D.int [a0, a1, a2, a3] i
 simp? only [eqZdraw, lf]
theorem stZsizes_2 {s0 s1 s2 s3 s4 s6 s7 s8 s9 : S}  : (sSet 4 5 (eLst aNil)) [s0, s1, s2, s3, s4, .no, s6, s7, s8, s9] = some (.nx [s0, s1, s2, s3, s4, .own (.lst (List.map D.int ([] : List Int))), s6, s7, s8, s9]) := by
 simp? only [Tl.ob_some]
theorem stZsizes_3 {s0 s1 s2 s3 s4 s5 s7 s8 s9 : S}  : (sSet 4 6 (eC (.int 1))) [s0, s1, s2, s3, s4, s5, .no, s7, s8, s9] = some (.nx [s0, s1, s2, s3, s4, s5, .val (.int (1 : Int)), s7, s8, s9]) := by
 simp? only [Tl.ob_some]
theorem stZsizes_4 {s1 s2 s3 s5 s6 s7 s8 : S} (source : (List Int)) (top : Int) : (sSet 4 9 (eAdd (eC (.int 1)) (eCall [true, false] FnZdraw (aCons (eVar 0) (aCons (eVar 4) aNil))))) [(oL source), s1, s2, s3, (vI top), s5, s6, s7, s8, .no] = (tZdraw source top).bind fun v5 => some (.nx [(oL v5.2), s1, s2, s3, (vI top), s5, s6, s7, s8, .val (.int ((1 : Int) + v5.1))]) := by
 simp? only [eqZdraw]
theorem tstZsizes_1 {s0 s1 s2 s4 s5 s7 s8 : S} (cap : Int) (many : Int) (size : Int) {γ : Type} {kx : Xn → List S → Option γ} {k : Bool → List S → Option γ} : cps (tCmp (eGt (eMul (eVar 6) (eVar 9)) (eVar 3))) [s0, s1, s2, (vI cap), s4, s5, (vI many), s7, s8, (vI size)] kx k = (gb (mulOk many size)).bind fun _ => k (decide (cap < (many * size))) [s0, s1, s2, (vI cap), s4, s5, (vI many), s7, s8, (vI size)] := by
 simp? only [Tl.ob_some]
theorem stZsizes_5 {s0 s1 s2 s3 s4 s5 s6 s7 s8 : S} (size : Int) : (sSet 4 9 (eC (.int 1))) [s0, s1, s2, s3, s4, s5, s6, s7, s8, (vI size)] = some (.nx [s0, s1, s2, s3, s4, s5, s6, s7, s8, .val (.int (1 : Int))]) := by
 simp? only [Tl.ob_some]
theorem ilZsizes_1 {s0 s1 s2 s4 s5 s7 s8 : S} (cap : Int) (many : Int) (size : Int) : iZsizes_1 [s0, s1, s2, (vI cap), s4, s5, (vI many), s7, s8, (vI size)] = ((gb (mulOk many size)).bind fun _ => if (decide (cap < (many * size))) = true then let size := (1 : Int); some (size) else some (size)).bind fun v6 => some (.nx [s0, s1, s2, (vI cap), s4, s5, (vI many), s7, s8, (vI v6)]) := by
 dsimp? only [iZsizes_1, tstZsizes_1, stZsizes_5]
theorem stZsizes_6 {s0 s1 s2 s3 s4 s5 s7 s8 : S} (many : Int) (size : Int) : (sSet 4 6 (eMul (eVar 6) (eVar 9))) [s0, s1, s2, s3, s4, s5, (vI many), s7, s8, (vI size)] = (gb (mulOk many size)).bind fun _ => some (.nx [s0, s1, s2, s3, s4, s5, .val (.int (many * size)), s7, s8, (vI size)]) := by
 simp? only [Tl.ob_some]
theorem stZsizes_7 {s0 s1 s2 s3 s4 s6 s7 s8 : S} (sizes : (List Int)) (size : Int) : (sExpr (mAppend (eVar 5) (eVar 9))) [s0, s1, s2, s3, s4, (oL sizes), s6, s7, s8, (vI size)] = (gz (List.length sizes + 1)).bind fun _ => some (.nx [s0, s1, s2, s3, s4, .own (.lst (List.map D.int (sizes ++ [size]))), s6, s7, s8, (vI size)]) := by
 simp? only [Tl.ob_some]
def tbZsizes_1 (cap : Int) (top : Int) (it : Int) (env : ((List Int) × (List Int) × Int)) : Option ((List Int) × (List Int) × Int) := let k_ := it; let source := env.1; let sizes := env.2.1; let many := env.2.2; (tZdraw source top).bind fun v5 => let source_n := v5.2; let size_n := ((1 : Int) + v5.1); let source := source_n; let size := size_n; ((gb (mulOk many size)).bind fun _ => if (decide (cap < (many * size))) = true then let size := (1 : Int); some (size) else some (size)).bind fun v6 => let size := v6; (gb (mulOk many size)).bind fun _ => let many := (many * size); (gz (List.length sizes + 1)).bind fun _ => let sizes := (sizes ++ [size]); some (source, sizes, many)
theorem blZsizes_1 {s1 s2 s8 : S} (cap : Int) (top : Int) (it : Int) (env : ((List Int) × (List Int) × Int)) : ((gN 7) (.int it) [(oL env.1), s1, s2, (vI cap), (vI top), (oL env.2.1), (vI env.2.2), .no, s8, .no]).bind (bZsizes_1 FnZdraw) = ((tbZsizes_1 cap top) it env).bind fun o => some (.nx [(oL o.1), s1, s2, (vI cap), (vI top), (oL o.2.1), (vI o.2.2), .no, s8, .no]) := by
 dsimp? only [bZsizes_1, tbZsizes_1, gT_eq, gsN_eq, gsC_eq, l_cons, l_nil, stZsizes_4, ilZsizes_1, stZsizes_6, stZsizes_7]
theorem llZsizes_1 {s2 s8 : S} (source : (List Int)) (parties : Int) (cap : Int) (top : Int) (sizes : (List Int)) (many : Int) : (lZsizes_1 FnZdraw) [(oL source), (vI parties), s2, (vI cap), (vI top), (oL sizes), (vI many), .no, s8, .no] = (tZdraw source parties).bind fun v3 => (rngT ((1 : Int) + v3.1)).bind fun v4 => (foldT (tbZsizes_1 cap top) v4 (v3.2, sizes, many)).bind fun o => some (.nx [(oL o.1), (vI parties), s2, (vI cap), (vI top), (oL o.2.1), (vI o.2.2), .no, s8, .no]) := by
 have hh := fun (cap : Int) (top : Int) (xs : List Int) (env : ((List Int) × (List Int) × Int)) => forL_fold (e := D.int) (st := fun (env : ((List Int) × (List Int) × Int)) => [.own (.lst (List.map D.int env.1)), .val (.int parties), s2, .val (.int cap), .val (.int top), .own (.lst (List.map D.int env.2.1)), .val (.int env.2.2), .no, s8, .no]) (tg := (gN 7)) (body := (bZsizes_1 FnZdraw)) (tb := (tbZsizes_1 cap top)) xs env (fun x _ env => blZsizes_1 cap top x env)
 have hh := fun (cap : Int) (top : Int) (source : (List Int)) (sizes : (List Int)) (many : Int) (xs : List Int) => hh cap top xs (source, sizes, many)
 simp? only [lZsizes_1, sFor_eq, eqZdraw] at hh ⊢
 simp? only [hh]
theorem stZsizes_8 {s1 s2 s3 s4 s6 s7 s9 : S} (source : (List Int)) (sizes : (List Int)) : (sSet 4 8 (eCall [true, false] FnZdraw (aCons (eVar 0) (aCons (eB gLen (aCons (eVar 5) aNil)) aNil)))) [(oL source), s1, s2, s3, s4, (oL sizes), s6, s7, .no, s9] = (tZdraw source ((List.length sizes : Nat) : Int)).bind fun v8 => some (.nx [(oL v8.2), s1, s2, s3, s4, (oL sizes), s6, s7, (vI v8.1), s9]) := by
 simp? only [eqZdraw]
theorem stZsizes_9 {s1 s2 s3 s4 s6 s7 s9 : S} (source : (List Int)) (sizes : (List Int)) (turn : Int) : (sRtA [1, 2, 3, 4, 5, 6, 7, 8, 9] (sRet (eAdd (eSl (eVar 5) (oSome (eVar 8)) oNo) (eSl (eVar 5) oNo (oSome (eVar 8)))))) [(oL source), s1, s2, s3, s4, (oL sizes), s6, s7, (vI turn), s9] = (gz (List.length (cutD sizes (some turn) none) + List.length (cutD sizes none (some turn)))).bind fun _ => some (.rt (.own (.lst (List.map D.int ((cutD sizes (some turn) none) ++ (cutD sizes none (some turn)))))) [(oL source), .no, .no, .no, .no, .no, .no, .no, .no, .no]) := by
 simp? only [Tl.ob_some]
def tZsizes (source : (List Int)) (parties : Int) (standings : Int) (cap : Int) : Option ((List Int) × (List Int)) := (tZdraw source (4 : Int)).bind fun v1 => (atI [(2 : Int), (3 : Int), (4 : Int), (6 : Int)] v1.1).bind fun v2 => let source_n := v1.2; let top_n := (if v2 < standings then v2 else standings); let source := source_n; let top := top_n; let sizes := ([] : List Int); let many := (1 : Int); (tZdraw source parties).bind fun v3 => (rngT ((1 : Int) + v3.1)).bind fun v4 => (foldT (tbZsizes_1 cap top) v4 (v3.2, sizes, many)).bind fun v7 => let source := v7.1; let sizes := v7.2.1; let many := v7.2.2; (tZdraw source ((List.length sizes : Nat) : Int)).bind fun v8 => let source_n := v8.2; let turn_n := v8.1; let source := source_n; let turn := turn_n; (gz (List.length (cutD sizes (some turn) none) + List.length (cutD sizes none (some turn)))).bind fun _ => some (((cutD sizes (some turn) none) ++ (cutD sizes none (some turn))), source)
theorem eqZsizes : ∀ (source : (List Int)) (parties : Int) (standings : Int) (cap : Int), FnZsizes [.own (.lst (List.map D.int source)), .val (.int parties), .val (.int standings), .val (.int cap)] = (tZsizes source parties standings cap).bind fun r => some (.ret (.own (.lst (List.map D.int r.1))) [.own (.lst (List.map D.int r.2)), .val (.int parties), .val (.int standings), .val (.int cap)]) := fun source parties standings cap => by
 show mkFn _ _ _ _ = _
 rw [mkFn_eq]
 dsimp? only [fZsizes, tZsizes, Nat.reduceSub, Nat.reduceAdd, rtn_bind, rtn_ite, rtn_none, rtn_nx, rtn_rtv, rtn_rto, rtn_k, post_n, post_v, post_o, l_cons, l_nil, r_succ, r_zero, a_cons, a_nil, stZsizes_1, stZsizes_2, stZsizes_3, llZsizes_1, stZsizes_8, stZsizes_9]
def fcZfull_1 (sizes : (List Int)) (v1 : Int) : Option (List Int) := (rngT v1).bind fun v2 => some v2
theorem lcsZfull_1 (sizes : (List Int)) (v1 : Int) : lcS (gN 1) tYes' (eLRg (eVar 1)) [1] (.int v1) [(vL sizes), .no] = ((fcZfull_1 sizes) v1).bind fun y => some (some (D.lst (mI y)), [(vL sizes), .no]) := by
 simp? only [lcS, fcZfull_1]
theorem lcZfull_1 (sizes : (List Int)) {γ : Type} {kx : Xn → List S → Option γ} {k : Rv → List S → Option γ} : cps cZfull_1 [(vL sizes), .no] kx k = (mapT (fcZfull_1 sizes) sizes).bind fun v3 => k (.own (.lst (mL v3))) [(vL sizes), .no] := by
 have hh := fun {γ : Type} {kx : Xn → List S → Option γ} (sizes : (List Int)) (xs : List Int) (h' : List D → List S → Option γ) => cps_lcT (e := D.int) (e' := (fun x => (D.lst (List.map D.int x)))) (ρ := [.val (.lst (List.map D.int sizes)), .no]) (kx := kx) (f := (fcZfull_1 sizes)) xs (lcsZfull_1 sizes) h'
 simp? only [cZfull_1, hh]
theorem stZfull_1 (sizes : (List Int)) : (sRtA [0, 1] (sRet cZfull_1)) [(vL sizes), .no] = (mapT (fcZfull_1 sizes) sizes).bind fun v3 => some (.rt (.own (.lst (mL v3))) [.no, .no]) := by
 simp? only [lcZfull_1]
def tZfull (sizes : (List Int)) : Option ((List (List Int))) := (mapT (fcZfull_1 sizes) sizes).bind fun v3 => some v3
theorem eqZfull : ∀ (sizes : (List Int)), FnZfull [.val (.lst (List.map D.int sizes))] = (tZfull sizes).bind fun r => some (.ret (.own (.lst (List.map (fun x => (D.lst (List.map D.int x))) r))) [.val (.lst (List.map D.int sizes))]) := fun sizes => by
 show mkFn _ _ _ _ = _
 rw [mkFn_eq]
 dsimp? only [fZfull, tZfull, Nat.reduceSub, Nat.reduceAdd, rtn_bind, rtn_ite, rtn_none, rtn_nx, rtn_rtv, rtn_rto, rtn_k, post_n, post_v, post_o, l_cons, l_nil, r_succ, r_zero, a_cons, a_nil, stZfull_1]
def fcZsplit_1 (side : (List Int)) : Int → ((List Int)) → Option (Int × ((List Int))) := fun (v1 : Int) (env : ((List Int))) => let source := env; (tZdraw source (3 : Int)).bind fun v2 => some (v2.1, v2.2)
theorem lcsZsplit_1 {s2 s3 s4 s5 s6 s8 : S} (side : (List Int)) (v1 : Int) (env : ((List Int))) : lcS (gN 7) tYes' (eCall [true, false] FnZdraw (aCons (eVar 1) (aCons (eC (.int 3)) aNil))) [7] (.int v1) [(vL side), (oL env), s2, s3, s4, s5, s6, .no, s8] = ((fcZsplit_1 side) v1 env).bind fun y => some (some (D.int y.1), [(vL side), (oL y.2), s2, s3, s4, s5, s6, .no, s8]) := by
 simp? only [lcS, fcZsplit_1, eqZdraw]
theorem lcZsplit_1 {s2 s3 s4 s5 s6 s8 : S} (side : (List Int)) (source : (List Int)) {γ : Type} {kx : Xn → List S → Option γ} {k : Rv → List S → Option γ} : cps (cZsplit_1 FnZdraw) [(vL side), (oL source), s2, s3, s4, s5, s6, .no, s8] kx k = (mapE (fcZsplit_1 side) side source).bind fun v3 => k (.own (.lst (mI v3.1))) [(vL side), (oL v3.2), s2, s3, s4, s5, s6, .no, s8] := by
 have hh := fun {γ : Type} {kx : Xn → List S → Option γ} (side : (List Int)) (xs : List Int) (env : ((List Int))) (h' : List D → List S → Option γ) => cps_lcE (e := D.int) (e' := D.int) (st := fun (env : ((List Int))) => [.val (.lst (List.map D.int side)), .own (.lst (List.map D.int env)), s2, s3, s4, s5, s6, .no, s8]) (kx := kx) (f := (fcZsplit_1 side)) xs env (lcsZsplit_1 side) h'
 have hh := fun {γ : Type} {kx : Xn → List S → Option γ} (side : (List Int)) (source : (List Int)) (xs : List Int) h' => hh (γ := γ) (kx := kx) side xs source h'
 simp? only [cZsplit_1, hh]
theorem stZsplit_1 {s3 s4 s5 s6 s8 : S} (side : (List Int)) (source : (List Int)) : (sSet 2 2 (cZsplit_1 FnZdraw)) [(vL side), (oL source), .no, s3, s4, s5, s6, .no, s8] = (mapE (fcZsplit_1 side) side source).bind fun v3 => some (.nx [(vL side), (oL v3.2), (oL v3.1), s3, s4, s5, s6, .no, s8]) := by
 simp? only [lcZsplit_1]
def fcZsplit_2 (marks : (List Int)) (v4 : Int) : Option (Option Int) := (atI marks (0 : Int)).bind fun v5 => if (decide (v4 = v5)) = true then some (some v4) else some none
theorem lcsZsplit_2 {s0 s1 s3 s5 s6 s7 s8 : S} (marks : (List Int)) (v4 : Int) : lcS (gN 4) (tCmp (eEq (eVar 4) (eIx (eVar 2) (eC (.int 0))))) (eVar 4) [4] (.int v4) [s0, s1, (vL marks), s3, .no, s5, s6, s7, s8] = ((fcZsplit_2 marks) v4).bind fun y => some (y.map D.int, [s0, s1, (vL marks), s3, .no, s5, s6, s7, s8]) := by
 simp? only [lcS, fcZsplit_2, Option.map_some, Option.map_none]
theorem lcZsplit_2 {s0 s1 s3 s5 s6 s7 s8 : S} (marks : (List Int)) {γ : Type} {kx : Xn → List S → Option γ} {k : Rv → List S → Option γ} : cps cZsplit_2 [s0, s1, (vL marks), s3, .no, s5, s6, s7, s8] kx k = (mapF (fcZsplit_2 marks) marks).bind fun v6 => k (.own (.lst (mI v6))) [s0, s1, (vL marks), s3, .no, s5, s6, s7, s8] := by
 have hh := fun {γ : Type} {kx : Xn → List S → Option γ} (marks : (List Int)) (xs : List Int) (h' : List D → List S → Option γ) => cps_lcF (e := D.int) (e' := D.int) (ρ := [s0, s1, .val (.lst (List.map D.int marks)), s3, .no, s5, s6, s7, s8]) (kx := kx) (f := (fcZsplit_2 marks)) xs (lcsZsplit_2 marks) h'
 simp? only [cZsplit_2, hh]
theorem tstZsplit_1 (side : (List Int)) (source : (List Int)) (marks : (List Int)) {γ : Type} {kx : Xn → List S → Option γ} {k : Bool → List S → Option γ} : cps (lent (fun _ => true) (tCmp (eEq (eB gLen (aCons cZsplit_2 aNil)) (eB gLen (aCons (eVar 2) aNil))))) [(vL side), (oL source), (oL marks), .no, .no, .no, .no, .no, .no] kx k = (mapF (fcZsplit_2 marks) marks).bind fun v6 => k (decide (((List.length v6 : Nat) : Int) = ((List.length marks : Nat) : Int))) [(vL side), (oL source), (oL marks), .no, .no, .no, .no, .no, .no] := by
 simp? only [lcZsplit_2]
theorem stZsplit_2 {s0 s3 s4 s6 s7 s8 : S} (source : (List Int)) (marks : (List Int)) : (sSet 2 5 (eCall [true, false] FnZdraw (aCons (eVar 1) (aCons (eB gLen (aCons (eVar 2) aNil)) aNil)))) [s0, (oL source), (oL marks), s3, s4, .no, s6, s7, s8] = (tZdraw source ((List.length marks : Nat) : Int)).bind fun v7 => some (.nx [s0, (oL v7.2), (oL marks), s3, s4, (vI v7.1), s6, s7, s8]) := by
 simp? only [eqZdraw]
theorem stZsplit_3 {s0 s1 s3 s4 s6 s7 s8 : S} (marks : (List Int)) (odd : Int) : (sSetIx (eAdd (eIx (eVar 2) (eVar 5)) (eC (.int 1))) (eVar 2) (eVar 5)) [s0, s1, (oL marks), s3, s4, (vI odd), s6, s7, s8] = (atI marks odd).bind fun v8 => (setT marks odd (v8 + (1 : Int))).bind fun v9 => some (.nx [s0, s1, (oL v9), s3, s4, (vI odd), s6, s7, s8]) := by
 simp? only [setT]
theorem ilZsplit_1 (side : (List Int)) (source : (List Int)) (marks : (List Int)) : (iZsplit_1 FnZdraw) [(vL side), (oL source), (oL marks), .no, .no, .no, .no, .no, .no] = ((mapF (fcZsplit_2 marks) marks).bind fun v6 => if (decide (((List.length v6 : Nat) : Int) = ((List.length marks : Nat) : Int))) = true then (tZdraw source ((List.length marks : Nat) : Int)).bind fun v7 => let source_n := v7.2; let odd_n := v7.1; let source := source_n; let odd := odd_n; (atI marks odd).bind fun v8 => (setT marks odd (v8 + (1 : Int))).bind fun v9 => let marks := v9; some (source, marks) else some (source, marks)).bind fun v10 => some (.nx [(vL side), (oL v10.1), (oL v10.2), .no, .no, .no, .no, .no, .no]) := by
 dsimp? only [iZsplit_1, tstZsplit_1, stZsplit_2, stZsplit_3]
theorem stZsplit_4 {s0 s1 s2 s4 s5 s6 s7 s8 : S}  : (sSet 2 3 (eLst aNil)) [s0, s1, s2, .no, s4, s5, s6, s7, s8] = some (.nx [s0, s1, s2, .own (.lst (List.map (fun x => (D.lst (mI x))) ([] : List (List Int)))), s4, s5, s6, s7, s8]) := by
 simp? only [Tl.ob_some]
def fcZsplit_3 (side : (List Int)) (marks : (List Int)) (mark : Int) (v13 : Int) : Option (Option Int) := (atI marks v13).bind fun v14 => if (decide (v14 = mark)) = true then (atI side v13).bind fun v15 => some (some v15) else some none
theorem lcsZsplit_3 {s1 s3 s5 s6 s7 : S} (side : (List Int)) (marks : (List Int)) (mark : Int) (v13 : Int) : lcS (gN 8) (tCmp (eEq (eIx (eVar 2) (eVar 8)) (eVar 4))) (eIx (eVar 0) (eVar 8)) [8] (.int v13) [(vL side), s1, (oL marks), s3, (vI mark), s5, s6, s7, .no] = ((fcZsplit_3 side marks mark) v13).bind fun y => some (y.map D.int, [(vL side), s1, (oL marks), s3, (vI mark), s5, s6, s7, .no]) := by
 simp? only [lcS, fcZsplit_3, Option.map_some, Option.map_none]
theorem lcZsplit_3 {s1 s3 s5 s6 s7 : S} (side : (List Int)) (marks : (List Int)) (mark : Int) {γ : Type} {kx : Xn → List S → Option γ} {k : Rv → List S → Option γ} : cps cZsplit_3 [(vL side), s1, (oL marks), s3, (vI mark), s5, s6, s7, .no] kx k = (rngT ((List.length side : Nat) : Int)).bind fun v12 => (mapF (fcZsplit_3 side marks mark) v12).bind fun v16 => k (.own (.lst (mI v16))) [(vL side), s1, (oL marks), s3, (vI mark), s5, s6, s7, .no] := by
 have hh := fun {γ : Type} {kx : Xn → List S → Option γ} (side : (List Int)) (marks : (List Int)) (mark : Int) (xs : List Int) (h' : List D → List S → Option γ) => cps_lcF (e := D.int) (e' := D.int) (ρ := [.val (.lst (List.map D.int side)), s1, .own (.lst (List.map D.int marks)), s3, .val (.int mark), s5, s6, s7, .no]) (kx := kx) (f := (fcZsplit_3 side marks mark)) xs (lcsZsplit_3 side marks mark) h'
 simp? only [cZsplit_3, hh]
theorem stZsplit_5 {s1 s3 s5 s7 : S} (side : (List Int)) (marks : (List Int)) (mark : Int) : (sFz 6 (sSet 2 6 cZsplit_3)) [(vL side), s1, (oL marks), s3, (vI mark), s5, .no, s7, .no] = (rngT ((List.length side : Nat) : Int)).bind fun v12 => (mapF (fcZsplit_3 side marks mark) v12).bind fun v16 => some (.nx [(vL side), s1, (oL marks), s3, (vI mark), s5, (vL v16), s7, .no]) := by
 simp? only [lcZsplit_3]
theorem tstZsplit_2 {s0 s1 s2 s3 s4 s5 s7 s8 : S} (cell : (List Int)) {γ : Type} {kx : Xn → List S → Option γ} {k : Bool → List S → Option γ} : cps (tCmp (eNe (eVar 6) (eLst aNil))) [s0, s1, s2, s3, s4, s5, (vL cell), s7, s8] kx k = k (!decide (cell = ([] : List Int))) [s0, s1, s2, s3, s4, s5, (vL cell), s7, s8] := by
 simp? only [Tl.ob_some]
theorem stZsplit_6 {s0 s1 s2 s4 s5 s7 s8 : S} (cells : (List (List Int))) (cell : (List Int)) : (sExpr (mAppend (eVar 3) (eVar 6))) [s0, s1, s2, .own (.lst (mL cells)), s4, s5, (vL cell), s7, s8] = (gz (List.length cells + 1)).bind fun _ => some (.nx [s0, s1, s2, .own (.lst (List.map (fun x => (D.lst (mI x))) (cells ++ [cell]))), s4, s5, (vL cell), s7, s8]) := by
 simp? only [Tl.ob_some]
theorem ilZsplit_2 {s0 s1 s2 s4 s5 s7 s8 : S} (cells : (List (List Int))) (cell : (List Int)) : iZsplit_2 [s0, s1, s2, .own (.lst (mL cells)), s4, s5, (vL cell), s7, s8] = (if (!decide (cell = ([] : List Int))) = true then (gz (List.length cells + 1)).bind fun _ => let cells := (cells ++ [cell]); some (cells) else some (cells)).bind fun v17 => some (.nx [s0, s1, s2, .own (.lst (mL v17)), s4, s5, (vL cell), s7, s8]) := by
 dsimp? only [iZsplit_2, tstZsplit_2, stZsplit_6]
def tbZsplit_1 (side : (List Int)) (marks : (List Int)) (it : Int) (env : ((List (List Int)))) : Option ((List (List Int))) := let mark := it; let cells := env; (rngT ((List.length side : Nat) : Int)).bind fun v12 => (mapF (fcZsplit_3 side marks mark) v12).bind fun v16 => let cell := v16; (if (!decide (cell = ([] : List Int))) = true then (gz (List.length cells + 1)).bind fun _ => let cells := (cells ++ [cell]); some (cells) else some (cells)).bind fun v17 => let cells := v17; some cells
theorem blZsplit_1 {s1 s5 s7 : S} (side : (List Int)) (marks : (List Int)) (it : Int) (env : ((List (List Int)))) : ((gN 4) (.int it) [(vL side), s1, (oL marks), .own (.lst (mL env)), .no, s5, .no, s7, .no]).bind bZsplit_1 = ((tbZsplit_1 side marks) it env).bind fun o => some (.nx [(vL side), s1, (oL marks), .own (.lst (mL o)), .no, s5, .no, s7, .no]) := by
 dsimp? only [bZsplit_1, tbZsplit_1, gT_eq, gsN_eq, gsC_eq, l_cons, l_nil, stZsplit_5, ilZsplit_2]
theorem llZsplit_1 {s1 s5 s7 : S} (side : (List Int)) (marks : (List Int)) (cells : (List (List Int))) : lZsplit_1 [(vL side), s1, (oL marks), .own (.lst (mL cells)), .no, s5, .no, s7, .no] = (rngT (4 : Int)).bind fun v11 => (foldT (tbZsplit_1 side marks) v11 cells).bind fun o => some (.nx [(vL side), s1, (oL marks), .own (.lst (mL o)), .no, s5, .no, s7, .no]) := by
 have hh := fun (side : (List Int)) (marks : (List Int)) (xs : List Int) (env : ((List (List Int)))) => forL_fold (e := D.int) (st := fun (env : ((List (List Int)))) => [.val (.lst (List.map D.int side)), s1, .own (.lst (List.map D.int marks)), .own (.lst (List.map (fun x => (D.lst (List.map D.int x))) env)), .no, s5, .no, s7, .no]) (tg := (gN 4)) (body := bZsplit_1) (tb := (tbZsplit_1 side marks)) xs env (fun x _ env => blZsplit_1 side marks x env)
 have hh := fun (side : (List Int)) (marks : (List Int)) (cells : (List (List Int))) (xs : List Int) => hh side marks xs cells
 simp? only [lZsplit_1, sFor_eq] at hh ⊢
 simp? only [hh]
theorem stZsplit_7 {s0 s2 s4 s5 s6 s7 s8 : S} (source : (List Int)) (cells : (List (List Int))) : (sRtA [0, 2, 3, 4, 5, 6, 7, 8] (sRet (eVar 3))) [s0, (oL source), s2, .own (.lst (mL cells)), s4, s5, s6, s7, s8] = some (.rt (.own (.lst (mL cells))) [.no, (oL source), .no, .no, .no, .no, .no, .no, .no]) := by
 simp? only [Tl.ob_some]
def tZsplit (side : (List Int)) (source : (List Int)) : Option ((List (List Int)) × (List Int)) := (mapE (fcZsplit_1 side) side source).bind fun v3 => let source_n := v3.2; let marks_n := v3.1; let source := source_n; let marks := marks_n; ((mapF (fcZsplit_2 marks) marks).bind fun v6 => if (decide (((List.length v6 : Nat) : Int) = ((List.length marks : Nat) : Int))) = true then (tZdraw source ((List.length marks : Nat) : Int)).bind fun v7 => let source_n := v7.2; let odd_n := v7.1; let source := source_n; let odd := odd_n; (atI marks odd).bind fun v8 => (setT marks odd (v8 + (1 : Int))).bind fun v9 => let marks := v9; some (source, marks) else some (source, marks)).bind fun v10 => let source := v10.1; let marks := v10.2; let cells := ([] : List (List Int)); (rngT (4 : Int)).bind fun v11 => (foldT (tbZsplit_1 side marks) v11 cells).bind fun v18 => let cells := v18; some (cells, source)
theorem eqZsplit : ∀ (side : (List Int)) (source : (List Int)), FnZsplit [.val (.lst (List.map D.int side)), .own (.lst (List.map D.int source))] = (tZsplit side source).bind fun r => some (.ret (.own (.lst (List.map (fun x => (D.lst (List.map D.int x))) r.1))) [.val (.lst (List.map D.int side)), .own (.lst (List.map D.int r.2))]) := fun side source => by
 show mkFn _ _ _ _ = _
 rw [mkFn_eq]
 dsimp? only [fZsplit, tZsplit, Nat.reduceSub, Nat.reduceAdd, rtn_bind, rtn_ite, rtn_none, rtn_nx, rtn_rtv, rtn_rto, rtn_k, post_n, post_v, post_o, l_cons, l_nil, r_succ, r_zero, a_cons, a_nil, stZsplit_1, ilZsplit_1, stZsplit_4, llZsplit_1, stZsplit_7]
def fcZtree_1 (tZtree : (List (List Int)) → (List Int) → (List Int) → Option (QT × (List Int) × (List Int))) (sides : (List (List Int))) (v2 : Int) : Option (Option Int) := (atI sides v2).bind fun v3 => if (decide ((1 : Int) < ((List.length v3 : Nat) : Int))) = true then some (some v2) else some none
section
variable {FZtree : Fn} {tZtree : (List (List Int)) → (List Int) → (List Int) → Option (QT × (List Int) × (List Int))} (ih : ∀ (sides : (List (List Int))) (source : (List Int)) (ends : (List Int)), FZtree [.val (.lst (List.map (fun x => (D.lst (List.map D.int x))) sides)), .own (.lst (List.map D.int source)), .own (.lst (List.map D.int ends))] = (tZtree sides source ends).bind fun r => some (.ret (.val (e_tree r.1)) [.val (.lst (List.map (fun x => (D.lst (List.map D.int x))) sides)), .own (.lst (List.map D.int r.2.1)), .own (.lst (List.map D.int r.2.2))]))
include ih
theorem lcsZtree_1 {s1 s2 s3 s4 s5 s6 s7 : S} (sides : (List (List Int))) (v2 : Int) : lcS (gN 8) (tCmp (eGt (eB gLen (aCons (eIx (eVar 0) (eVar 8)) aNil)) (eC (.int 1)))) (eVar 8) [8] (.int v2) [(vM sides), s1, s2, s3, s4, s5, s6, s7, .no] = ((fcZtree_1 tZtree sides) v2).bind fun y => some (y.map D.int, [(vM sides), s1, s2, s3, s4, s5, s6, s7, .no]) := by
 simp? only [lcS, fcZtree_1, Option.map_some, Option.map_none]
theorem lcZtree_1 {s1 s2 s3 s4 s5 s6 s7 : S} (sides : (List (List Int))) {γ : Type} {kx : Xn → List S → Option γ} {k : Rv → List S → Option γ} : cps cZtree_1 [(vM sides), s1, s2, s3, s4, s5, s6, s7, .no] kx k = (rngT ((List.length sides : Nat) : Int)).bind fun v1 => (mapF (fcZtree_1 tZtree sides) v1).bind fun v4 => k (.own (.lst (mI v4))) [(vM sides), s1, s2, s3, s4, s5, s6, s7, .no] := by
 have hh := fun {γ : Type} {kx : Xn → List S → Option γ} (sides : (List (List Int))) (xs : List Int) (h' : List D → List S → Option γ) => cps_lcF (e := D.int) (e' := D.int) (ρ := [.val (.lst (List.map (fun x => (D.lst (List.map D.int x))) sides)), s1, s2, s3, s4, s5, s6, s7, .no]) (kx := kx) (f := (fcZtree_1 tZtree sides)) xs ((lcsZtree_1 ih) sides) h'
 simp? only [cZtree_1, hh]
theorem stZtree_1 {s1 s2 s4 s5 s6 s7 : S} (sides : (List (List Int))) : (sFz 3 (sSet 3 3 cZtree_1)) [(vM sides), s1, s2, .no, s4, s5, s6, s7, .no] = (rngT ((List.length sides : Nat) : Int)).bind fun v1 => (mapF (fcZtree_1 tZtree sides) v1).bind fun v4 => some (.nx [(vM sides), s1, s2, (vL v4), s4, s5, s6, s7, .no]) := by
 simp? only [(lcZtree_1 ih)]
theorem tstZtree_1 {s0 s2 s4 s5 s6 s7 s8 : S} (source : (List Int)) (wide : (List Int)) {γ : Type} {kx : Xn → List S → Option γ} {k : Bool → List S → Option γ} : cps (tZtree_1 FnZdraw) [s0, (oL source), s2, (vL wide), s4, s5, s6, s7, s8] kx k = ((if (decide (wide = ([] : List Int))) = true then some (true, source) else (tZdraw source (5 : Int)).bind fun v5 => some ((decide (v5.1 = (0 : Int))), v5.2))).bind fun v6 => k (v6.1) [s0, (oL v6.2), s2, (vL wide), s4, s5, s6, s7, s8] := by
 have ka : ∀ (a b : Bool) (ρ : List S), (if a = true then k b ρ else k false ρ) = k (a && b) ρ := fun a b ρ => by cases a <;> rfl
 have ko : ∀ (a b : Bool) (ρ : List S), (if a = true then k true ρ else k b ρ) = k (a || b) ρ := fun a b ρ => by cases a <;> rfl
 simp? only [tZtree_1, eqZdraw]
theorem tstZtree_2 {s0 s2 s4 s5 s6 s7 s8 : S} (source : (List Int)) (wide : (List Int)) {γ : Type} {kx : Xn → List S → Option γ} {k : Bool → List S → Option γ} : cps (tZtree_1 FnZdraw) [s0, (oL source), s2, (vL wide), s4, s5, s6, s7, s8] kx k = ((if (decide (wide = ([] : List Int))) = true then some (true, source) else (tZdraw source (5 : Int)).bind fun v5 => some ((decide (v5.1 = (0 : Int))), v5.2))).bind fun v6 => k v6.1 [s0, (oL v6.2), s2, (vL wide), s4, s5, s6, s7, s8] := by
 simp? only [(tstZtree_1 ih)]
theorem stZtree_2 {s0 s1 s3 s4 s5 s6 s7 s8 : S} (ends : (List Int)) : (sExpr (mAppend (eVar 2) (eB gLen (aCons (eVar 2) aNil)))) [s0, s1, (oL ends), s3, s4, s5, s6, s7, s8] = (gz (List.length ends + 1)).bind fun _ => some (.nx [s0, s1, .own (.lst (List.map D.int (ends ++ [((List.length ends : Nat) : Int)]))), s3, s4, s5, s6, s7, s8]) := by
 simp? only [Tl.ob_some]
theorem stZtree_3 {s0 s3 s4 s5 s6 s7 s8 : S} (source : (List Int)) (ends : (List Int)) : (sRtA [0, 3, 4, 5, 6, 7, 8] (sRet (eTup (aCons (eC (.str "end")) (aCons (eSub (eB gLen (aCons (eVar 2) aNil)) (eC (.int 1))) aNil))))) [s0, (oL source), (oL ends), s3, s4, s5, s6, s7, s8] = some (.rt (.val (e_tree (QT.fin (((List.length ends : Nat) : Int) - (1 : Int))))) [.no, (oL source), (oL ends), .no, .no, .no, .no, .no, .no]) := by
 simp? only [Tl.ob_some]
theorem stZtree_4 {s0 s2 s5 s6 s7 s8 : S} (source : (List Int)) (wide : (List Int)) : (sSet 3 4 (eIx (eVar 3) (eCall [true, false] FnZdraw (aCons (eVar 1) (aCons (eB gLen (aCons (eVar 3) aNil)) aNil))))) [s0, (oL source), s2, (vL wide), .no, s5, s6, s7, s8] = (tZdraw source ((List.length wide : Nat) : Int)).bind fun v7 => (atI wide v7.1).bind fun v8 => some (.nx [s0, (oL v7.2), s2, (vL wide), (vI v8), s5, s6, s7, s8]) := by
 simp? only [eqZdraw]
theorem stZtree_5 {s0 s1 s2 s3 s4 s6 s7 s8 : S}  : (sSet 3 5 (eLst aNil)) [s0, s1, s2, s3, s4, .no, s6, s7, s8] = some (.nx [s0, s1, s2, s3, s4, .own (.lst (List.map (fun (x : ((List Int) × QT)) => (D.tup [(.tup (mI x.1)), (e_tree x.2)])) ([] : List ((List Int) × QT)))), s6, s7, s8]) := by
 simp? only [Tl.ob_some]
theorem stZtree_6 {s3 s5 s8 : S} (sides : (List (List Int))) (source : (List Int)) (ends : (List Int)) (party : Int) (cell : (List Int)) : (sSet 3 7 (eCall [false, true, true] FZtree (aCons (eAdd (eAdd (eSl (eVar 0) oNo (oSome (eVar 4))) (eLst (aCons (eVar 6) aNil))) (eSl (eVar 0) (oSome (eAdd (eVar 4) (eC (.int 1)))) oNo)) (aCons (eVar 1) (aCons (eVar 2) aNil))))) [(vM sides), (oL source), (oL ends), s3, (vI party), s5, (vL cell), .no, s8] = (gz (List.length (cutD sides none (some party)) + List.length [cell])).bind fun _ => (gz (List.length ((cutD sides none (some party)) ++ [cell]) + List.length (cutD sides (some (party + (1 : Int))) none))).bind fun _ => (tZtree (((cutD sides none (some party)) ++ [cell]) ++ (cutD sides (some (party + (1 : Int))) none)) source ends).bind fun v11 => some (.nx [(vM sides), (oL v11.2.1), (oL v11.2.2), s3, (vI party), s5, (vL cell), .val (e_tree v11.1), s8]) := by
 have q0 := ih (((cutD sides none (some party)) ++ [cell]) ++ (cutD sides (some (party + (1 : Int))) none)) source ends
 try simp? only [Tl.ob_some] at q0
 simp? only [q0]
theorem stZtree_7 {s0 s1 s2 s3 s4 s8 : S} (branches : (List ((List Int) × QT))) (cell : (List Int)) (below : QT) : (sExpr (mAppend (eVar 5) (eTup (aCons (eB gTuple (aCons (eVar 6) aNil)) (aCons (eVar 7) aNil))))) [s0, s1, s2, s3, s4, .own (.lst (List.map (fun (x : ((List Int) × QT)) => (D.tup [(.tup (mI x.1)), (e_tree x.2)])) branches)), (vL cell), .val (e_tree below), s8] = (gz (List.length branches + 1)).bind fun _ => some (.nx [s0, s1, s2, s3, s4, .own (.lst (List.map (fun (x : ((List Int) × QT)) => (D.tup [(.tup (mI x.1)), (e_tree x.2)])) (branches ++ [(cell, below)]))), (vL cell), .val (e_tree below), s8]) := by
 simp? only [Tl.ob_some]
end
def tbZtree_1 (tZtree : (List (List Int)) → (List Int) → (List Int) → Option (QT × (List Int) × (List Int))) (sides : (List (List Int))) (party : Int) (it : (List Int)) (env : ((List Int) × (List Int) × (List ((List Int) × QT)))) : Option ((List Int) × (List Int) × (List ((List Int) × QT))) := let cell := it; let source := env.1; let ends := env.2.1; let branches := env.2.2; (gz (List.length (cutD sides none (some party)) + List.length [cell])).bind fun _ => (gz (List.length ((cutD sides none (some party)) ++ [cell]) + List.length (cutD sides (some (party + (1 : Int))) none))).bind fun _ => (tZtree (((cutD sides none (some party)) ++ [cell]) ++ (cutD sides (some (party + (1 : Int))) none)) source ends).bind fun v11 => let source_n := v11.2.1; let ends_n := v11.2.2; let below_n := v11.1; let source := source_n; let ends := ends_n; let below := below_n; (gz (List.length branches + 1)).bind fun _ => let branches := (branches ++ [(cell, below)]); some (source, ends, branches)
section
variable {FZtree : Fn} {tZtree : (List (List Int)) → (List Int) → (List Int) → Option (QT × (List Int) × (List Int))} (ih : ∀ (sides : (List (List Int))) (source : (List Int)) (ends : (List Int)), FZtree [.val (.lst (List.map (fun x => (D.lst (List.map D.int x))) sides)), .own (.lst (List.map D.int source)), .own (.lst (List.map D.int ends))] = (tZtree sides source ends).bind fun r => some (.ret (.val (e_tree r.1)) [.val (.lst (List.map (fun x => (D.lst (List.map D.int x))) sides)), .own (.lst (List.map D.int r.2.1)), .own (.lst (List.map D.int r.2.2))]))
include ih
theorem blZtree_1 {s3 s8 : S} (sides : (List (List Int))) (party : Int) (it : (List Int)) (env : ((List Int) × (List Int) × (List ((List Int) × QT)))) : ((gN 6) (.lst (mI it)) [(vM sides), (oL env.1), (oL env.2.1), s3, (vI party), .own (.lst (List.map (fun (x : ((List Int) × QT)) => (D.tup [(.tup (mI x.1)), (e_tree x.2)])) env.2.2)), .no, .no, s8]).bind (bZtree_1 FZtree) = ((tbZtree_1 tZtree sides party) it env).bind fun o => some (.nx [(vM sides), (oL o.1), (oL o.2.1), s3, (vI party), .own (.lst (List.map (fun (x : ((List Int) × QT)) => (D.tup [(.tup (mI x.1)), (e_tree x.2)])) o.2.2)), .no, .no, s8]) := by
 dsimp? only [bZtree_1, tbZtree_1, gT_eq, gsN_eq, gsC_eq, l_cons, l_nil, (stZtree_6 ih), (stZtree_7 ih)]
theorem llZtree_1 {s3 s8 : S} (sides : (List (List Int))) (source : (List Int)) (ends : (List Int)) (party : Int) (branches : (List ((List Int) × QT))) : (lZtree_1 FnZsplit FZtree) [(vM sides), (oL source), (oL ends), s3, (vI party), .own (.lst (List.map (fun (x : ((List Int) × QT)) => (D.tup [(.tup (mI x.1)), (e_tree x.2)])) branches)), .no, .no, s8] = (atI sides party).bind fun v9 => (tZsplit v9 source).bind fun v10 => (foldT (tbZtree_1 tZtree sides party) v10.1 (v10.2, ends, branches)).bind fun o => some (.nx [(vM sides), (oL o.1), (oL o.2.1), s3, (vI party), .own (.lst (List.map (fun (x : ((List Int) × QT)) => (D.tup [(.tup (mI x.1)), (e_tree x.2)])) o.2.2)), .no, .no, s8]) := by
 have hh := fun (sides : (List (List Int))) (party : Int) (xs : List (List Int)) (env : ((List Int) × (List Int) × (List ((List Int) × QT)))) => forL_fold (e := (fun x => (D.lst (List.map D.int x)))) (st := fun (env : ((List Int) × (List Int) × (List ((List Int) × QT)))) => [.val (.lst (List.map (fun x => (D.lst (List.map D.int x))) sides)), .own (.lst (List.map D.int env.1)), .own (.lst (List.map D.int env.2.1)), s3, .val (.int party), .own (.lst (List.map (fun (x : ((List Int) × QT)) => (D.tup [(.tup (List.map D.int x.1)), (e_tree x.2)])) env.2.2)), .no, .no, s8]) (tg := (gN 6)) (body := (bZtree_1 FZtree)) (tb := (tbZtree_1 tZtree sides party)) xs env (fun x _ env => (blZtree_1 ih) sides party x env)
 have hh := fun (sides : (List (List Int))) (party : Int) (source : (List Int)) (ends : (List Int)) (branches : (List ((List Int) × QT))) (xs : List (List Int)) => hh sides party xs (source, ends, branches)
 simp? only [lZtree_1, sFor_eq, eqZsplit] at hh ⊢
 simp? only [hh]
theorem stZtree_8 {s0 s3 s6 s7 s8 : S} (source : (List Int)) (ends : (List Int)) (party : Int) (branches : (List ((List Int) × QT))) : (sRtA [0, 3, 4, 5, 6, 7, 8] (sRet (eTup (aCons (eC (.str "ask")) (aCons (eVar 4) (aCons (eB gTuple (aCons (eVar 5) aNil)) aNil)))))) [s0, (oL source), (oL ends), s3, (vI party), .own (.lst (List.map (fun (x : ((List Int) × QT)) => (D.tup [(.tup (mI x.1)), (e_tree x.2)])) branches)), s6, s7, s8] = some (.rt (.val (e_tree (QT.ask party (QTs.of branches)))) [.no, (oL source), (oL ends), .no, .no, .no, .no, .no, .no]) := by
 simp? only [Tl.ob_some]
end
def tsZtree (tZtree : (List (List Int)) → (List Int) → (List Int) → Option (QT × (List Int) × (List Int))) (sides : (List (List Int))) (source : (List Int)) (ends : (List Int)) : Option (QT × (List Int) × (List Int)) := (rngT ((List.length sides : Nat) : Int)).bind fun v1 => (mapF (fcZtree_1 tZtree sides) v1).bind fun v4 => let wide := v4; ((if (decide (wide = ([] : List Int))) = true then some (true, source) else (tZdraw source (5 : Int)).bind fun v5 => some ((decide (v5.1 = (0 : Int))), v5.2))).bind fun v6 => let c_ := v6.1; let source_n := v6.2; let source := source_n; if c_ = true then (gz (List.length ends + 1)).bind fun _ => let ends := (ends ++ [((List.length ends : Nat) : Int)]); some ((QT.fin (((List.length ends : Nat) : Int) - (1 : Int))), source, ends) else (tZdraw source ((List.length wide : Nat) : Int)).bind fun v7 => (atI wide v7.1).bind fun v8 => let source_n := v7.2; let party_n := v8; let source := source_n; let party := party_n; let branches := ([] : List ((List Int) × QT)); (atI sides party).bind fun v9 => (tZsplit v9 source).bind fun v10 => (foldT (tbZtree_1 tZtree sides party) v10.1 (v10.2, ends, branches)).bind fun v12 => let source := v12.1; let ends := v12.2.1; let branches := v12.2.2; some ((QT.ask party (QTs.of branches)), source, ends)
def tZtree : Nat → (List (List Int)) → (List Int) → (List Int) → Option (QT × (List Int) × (List Int))
 | 0 => fun _ _ _ => none
 | n + 1 => tsZtree (tZtree n)
theorem eqZtree : ∀ n, ∀ (sides : (List (List Int))) (source : (List Int)) (ends : (List Int)), FnZtree n [.val (.lst (List.map (fun x => (D.lst (List.map D.int x))) sides)), .own (.lst (List.map D.int source)), .own (.lst (List.map D.int ends))] = (tZtree n sides source ends).bind fun r => some (.ret (.val (e_tree r.1)) [.val (.lst (List.map (fun x => (D.lst (List.map D.int x))) sides)), .own (.lst (List.map D.int r.2.1)), .own (.lst (List.map D.int r.2.2))])
 | 0 => fun _ _ _ => rfl
 | n + 1 => fun sides source ends => by
  have ih := eqZtree n
  show mkFn _ _ _ _ = (tsZtree (tZtree n) sides source ends).bind _
  rw [mkFn_eq]
  dsimp? only [fZtree, tsZtree, Nat.reduceSub, Nat.reduceAdd, rtn_bind, rtn_ite, rtn_none, rtn_nx, rtn_rtv, rtn_rto, rtn_k, post_n, post_v, post_o, l_cons, l_nil, r_succ, r_zero, a_cons, a_nil, (stZtree_1 ih), (tstZtree_2 ih), (stZtree_2 ih), (stZtree_3 ih), (stZtree_4 ih), (stZtree_5 ih), (llZtree_1 ih), (stZtree_8 ih)]
theorem stZany_tree_1 {s1 : S} (shape : (List Int)) (cap : Int) : (sFz 3 (sSet 3 3 (eCall [true, false, false, false] FnZsizes (aCons (eVar 0) (aCons (eC (.int 7)) (aCons (eC (.int 6)) (aCons (eVar 2) aNil))))))) [(oL shape), s1, (vI cap), .no] = (tZsizes shape (7 : Int) (6 : Int) cap).bind fun v1 => some (.nx [(oL v1.2), s1, (vI cap), (vL v1.1)]) := by
 simp? only [eqZsizes]
theorem stZany_tree_2 {s2 : S} (shape : (List Int)) (second : Int) (sizes : (List Int)) : (sRtA [1, 2, 3] (sRet (eCallT2 [false, true, true] (FnZtree 9) (aConsT2 (eCall [false] FnZfull (aCons (eVar 3) aNil)) (aTmp2 (eCall [false] FnZsource (aCons (eVar 1) aNil)) (aTmp (eLst aNil) aNil)))))) [(oL shape), (vI second), s2, (vL sizes)] = (tZfull sizes).bind fun v2 => (tZsource second).bind fun v3 => ((tZtree 9) v2 v3 ([] : List Int)).bind fun v4 => some (.rt (.val (e_tree v4.1)) [(oL shape), .no, .no, .no]) := by
 have q0 := fun (v2 : ((List (List Int)))) (v3 : ((List Int))) => (eqZtree 9) v2 v3 ([] : List Int)
 try simp? only [Tl.ob_some] at q0
 simp? only [eqZfull, eqZsource, q0]
def tZany_tree (shape : (List Int)) (second : Int) (cap : Int) : Option (QT × (List Int)) := (tZsizes shape (7 : Int) (6 : Int) cap).bind fun v1 => let shape_n := v1.2; let sizes_n := v1.1; let shape := shape_n; let sizes := sizes_n; (tZfull sizes).bind fun v2 => (tZsource second).bind fun v3 => ((tZtree 9) v2 v3 ([] : List Int)).bind fun v4 => some (v4.1, shape)
theorem eqZany_tree : ∀ (shape : (List Int)) (second : Int) (cap : Int), FnZany_tree [.own (.lst (List.map D.int shape)), .val (.int second), .val (.int cap)] = (tZany_tree shape second cap).bind fun r => some (.ret (.val (e_tree r.1)) [.own (.lst (List.map D.int r.2)), .val (.int second), .val (.int cap)]) := fun shape second cap => by
 show mkFn _ _ _ _ = _
 rw [mkFn_eq]
 dsimp? only [fZany_tree, tZany_tree, Nat.reduceSub, Nat.reduceAdd, rtn_bind, rtn_ite, rtn_none, rtn_nx, rtn_rtv, rtn_rto, rtn_k, post_n, post_v, post_o, l_cons, l_nil, r_succ, r_zero, a_cons, a_nil, stZany_tree_1, stZany_tree_2]
theorem tst_is_integer_1 (value : Int) {γ : Type} {kx : Xn → List S → Option γ} {k : Rv → List S → Option γ} : cps e_is_integer_1 [(vI value)] kx k = k (.val (.bl ((true && (!false))))) [(vI value)] := by
 have ka : ∀ (a b : Bool) (ρ : List S), (if a = true then k (.val (.bl b)) ρ else k (.val (.bl a)) ρ) = k (.val (.bl (a && b))) ρ := fun a b ρ => by cases a <;> rfl
 have ko : ∀ (a b : Bool) (ρ : List S), (if a = true then k (.val (.bl a)) ρ else k (.val (.bl b)) ρ) = k (.val (.bl (a || b))) ρ := fun a b ρ => by cases a <;> rfl
 simp? only [e_is_integer_1, ka, ko]
theorem st_is_integer_1 (value : Int) : (sRtA [0] (sRet e_is_integer_1)) [(vI value)] = some (.rt (.val (.bl (true && (!false)))) [.no]) := by
 simp? only [tst_is_integer_1]
def t_is_integer (value : Int) : Option (Bool) := some (true && (!false))
theorem eq_is_integer : ∀ (value : Int), Fn_is_integer [.val (.int value)] = (t_is_integer value).bind fun r => some (.ret (.val (.bl r)) [.val (.int value)]) := fun value => by
 show mkFn _ _ _ _ = _
 rw [mkFn_eq]
 dsimp? only [f_is_integer, t_is_integer, Nat.reduceSub, Nat.reduceAdd, rtn_bind, rtn_ite, rtn_none, rtn_nx, rtn_rtv, rtn_rto, rtn_k, post_n, post_v, post_o, l_cons, l_nil, r_succ, r_zero, a_cons, a_nil, st_is_integer_1]
theorem tst_is_number_1 (value : Int) {γ : Type} {kx : Xn → List S → Option γ} {k : Rv → List S → Option γ} : cps (e_is_number_1 Fn_is_integer) [(vI value)] kx k = (t_is_integer value).bind fun v1 => k (.val (.bl ((v1 && (decide ((0 : Int) ≤ value)))))) [(vI value)] := by
 have ka : ∀ (a b : Bool) (ρ : List S), (if a = true then k (.val (.bl b)) ρ else k (.val (.bl a)) ρ) = k (.val (.bl (a && b))) ρ := fun a b ρ => by cases a <;> rfl
 have ko : ∀ (a b : Bool) (ρ : List S), (if a = true then k (.val (.bl a)) ρ else k (.val (.bl b)) ρ) = k (.val (.bl (a || b))) ρ := fun a b ρ => by cases a <;> rfl
 simp? only [e_is_number_1, eq_is_integer, ka, ko]
theorem st_is_number_1 (value : Int) : (sRtA [0] (sRet (e_is_number_1 Fn_is_integer))) [(vI value)] = (t_is_integer value).bind fun v1 => some (.rt (.val (.bl (v1 && (decide ((0 : Int) ≤ value))))) [.no]) := by
 simp? only [tst_is_number_1]
def t_is_number (value : Int) : Option (Bool) := (t_is_integer value).bind fun v1 => some (v1 && (decide ((0 : Int) ≤ value)))
theorem eq_is_number : ∀ (value : Int), Fn_is_number [.val (.int value)] = (t_is_number value).bind fun r => some (.ret (.val (.bl r)) [.val (.int value)]) := fun value => by
 show mkFn _ _ _ _ = _
 rw [mkFn_eq]
 dsimp? only [f_is_number, t_is_number, Nat.reduceSub, Nat.reduceAdd, rtn_bind, rtn_ite, rtn_none, rtn_nx, rtn_rtv, rtn_rto, rtn_k, post_n, post_v, post_o, l_cons, l_nil, r_succ, r_zero, a_cons, a_nil, st_is_number_1]
theorem st_ascending_1 {s0 s2 : S}  : (sSet 1 1 (eLst aNil)) [s0, .no, s2] = some (.nx [s0, .own (.lst (List.map D.int ([] : List Int))), s2]) := by
 simp? only [Tl.ob_some]
theorem lcs_ascending_1 {s1 : S} (numbers : (Bool × List Int)) (v1 : Int) : lcS (gN 2) tYes' (eB gInt (aCons (eVar 2) aNil)) [2] (.int v1) [.val (eSq D.int numbers), s1, .no] = some (some (D.int v1), [.val (eSq D.int numbers), s1, .no]) := by
 simp? only [lcS]
theorem lc_ascending_1 {s1 : S} (numbers : (Bool × List Int)) {γ : Type} {kx : Xn → List S → Option γ} {k : Rv → List S → Option γ} : cps c_ascending_1 [.val (eSq D.int numbers), s1, .no] kx k = k (.own (.lst (mI numbers.2))) [.val (eSq D.int numbers), s1, .no] := by
 have hh := fun {γ : Type} {kx : Xn → List S → Option γ} (numbers : (Bool × List Int)) (xs : List Int) (h' : List D → List S → Option γ) => cps_lcP (e := D.int) (e' := D.int) (ρ := [.val (eSq D.int numbers), s1, .no]) (kx := kx) (f := fun (v1 : Int) => v1) xs (lcs_ascending_1 numbers) h'
 simp only [m_idf] at hh
 simp? only [c_ascending_1, hh]
theorem tst_ascending_1 {s0 : S} (kept : (List Int)) (number : Int) {γ : Type} {kx : Xn → List S → Option γ} {k : Bool → List S → Option γ} : cps t_ascending_1 [s0, (oL kept), (vI number)] kx k = ((if (!(!(List.isEmpty kept))) = true then some true else (atI kept (-(1 : Int))).bind fun v2 => some (!decide (v2 = number)))).bind fun v3 => k (v3) [s0, (oL kept), (vI number)] := by
 have ka : ∀ (a b : Bool) (ρ : List S), (if a = true then k b ρ else k false ρ) = k (a && b) ρ := fun a b ρ => by cases a <;> rfl
 have ko : ∀ (a b : Bool) (ρ : List S), (if a = true then k true ρ else k b ρ) = k (a || b) ρ := fun a b ρ => by cases a <;> rfl
 simp? only [t_ascending_1]
theorem tst_ascending_2 {s0 : S} (kept : (List Int)) (number : Int) {γ : Type} {kx : Xn → List S → Option γ} {k : Bool → List S → Option γ} : cps t_ascending_1 [s0, (oL kept), (vI number)] kx k = ((if (!(!(List.isEmpty kept))) = true then some true else (atI kept (-(1 : Int))).bind fun v2 => some (!decide (v2 = number)))).bind fun v3 => k v3 [s0, (oL kept), (vI number)] := by
 simp? only [tst_ascending_1]
theorem st_ascending_2 {s0 : S} (kept : (List Int)) (number : Int) : (sExpr (mAppend (eVar 1) (eVar 2))) [s0, (oL kept), (vI number)] = (gz (List.length kept + 1)).bind fun _ => some (.nx [s0, .own (.lst (List.map D.int (kept ++ [number]))), (vI number)]) := by
 simp? only [Tl.ob_some]
theorem il_ascending_1 {s0 : S} (kept : (List Int)) (number : Int) : i_ascending_1 [s0, (oL kept), (vI number)] = (((if (!(!(List.isEmpty kept))) = true then some true else (atI kept (-(1 : Int))).bind fun v2 => some (!decide (v2 = number)))).bind fun v3 => if v3 = true then (gz (List.length kept + 1)).bind fun _ => let kept := (kept ++ [number]); some (kept) else some (kept)).bind fun v4 => some (.nx [s0, (oL v4), (vI number)]) := by
 dsimp? only [i_ascending_1, tst_ascending_2, st_ascending_2]
def tb_ascending_1  (it : Int) (env : ((List Int))) : Option ((List Int)) := let number := it; let kept := env; (((if (!(!(List.isEmpty kept))) = true then some true else (atI kept (-(1 : Int))).bind fun v2 => some (!decide (v2 = number)))).bind fun v3 => if v3 = true then (gz (List.length kept + 1)).bind fun _ => let kept := (kept ++ [number]); some (kept) else some (kept)).bind fun v4 => let kept := v4; some kept
theorem bl_ascending_1 {s0 : S}  (it : Int) (env : ((List Int))) : ((gN 2) (.int it) [s0, (oL env), .no]).bind b_ascending_1 = ((tb_ascending_1 ) it env).bind fun o => some (.nx [s0, (oL o), .no]) := by
 dsimp? only [b_ascending_1, tb_ascending_1, gT_eq, gsN_eq, gsC_eq, l_cons, l_nil, il_ascending_1]
theorem ll_ascending_1 (numbers : (Bool × List Int)) (kept : (List Int)) : l_ascending_1 [.val (eSq D.int numbers), (oL kept), .no] = (foldT (tb_ascending_1 ) (sortI numbers.2) kept).bind fun o => some (.nx [.val (eSq D.int numbers), (oL o), .no]) := by
 have hh := fun  (xs : List Int) (env : ((List Int))) => forL_fold (e := D.int) (st := fun (env : ((List Int))) => [.val (eSq D.int numbers), .own (.lst (List.map D.int env)), .no]) (tg := (gN 2)) (body := b_ascending_1) (tb := (tb_ascending_1 )) xs env (fun x _ env => bl_ascending_1  x env)
 have hh := fun  (kept : (List Int)) (xs : List Int) => hh  xs kept
 simp? only [l_ascending_1, sFor_eq, lc_ascending_1] at hh ⊢
 simp? only [hh]
theorem st_ascending_3 {s0 s2 : S} (kept : (List Int)) : (sRtA [0, 1, 2] (sRet (eB gTuple (aCons (eVar 1) aNil)))) [s0, (oL kept), s2] = some (.rt (.val (.tup (mI kept))) [.no, .no, .no]) := by
 simp? only [Tl.ob_some]
def t_ascending (numbers : (Bool × List Int)) : Option ((List Int)) := let kept := ([] : List Int); (foldT (tb_ascending_1 ) (sortI numbers.2) kept).bind fun v5 => let kept := v5; some kept
theorem eq_ascending : ∀ (numbers : (Bool × List Int)), Fn_ascending [.val (eSq D.int numbers)] = (t_ascending numbers).bind fun r => some (.ret (.val (.tup (List.map D.int r))) [.val (eSq D.int numbers)]) := fun numbers => by
 show mkFn _ _ _ _ = _
 rw [mkFn_eq]
 dsimp? only [f_ascending, t_ascending, Nat.reduceSub, Nat.reduceAdd, rtn_bind, rtn_ite, rtn_none, rtn_nx, rtn_rtv, rtn_rto, rtn_k, post_n, post_v, post_o, l_cons, l_nil, r_succ, r_zero, a_cons, a_nil, st_ascending_1, ll_ascending_1, st_ascending_3]
def t_checked (rows : QT) (path : List Int) : Option QT := Tl.t_checked t_ascending 12 rows path
noncomputable def Fn_checked : Fn := relFn (fun (x : QT × List Int) => [.val (e_tree x.1), .val (.tup (List.map D.int x.2))]) (fun x => (t_checked x.1 x.2).bind fun r => some (.ret (.val (e_tree r)) [.val (e_tree x.1), .val (.tup (List.map D.int x.2))]))
theorem eq_checked (rows : QT) (path : List Int) : Fn_checked [.val (e_tree rows), .val (.tup (List.map D.int path))] = (t_checked rows path).bind fun r => some (.ret (.val (e_tree r)) [.val (e_tree rows), .val (.tup (List.map D.int path))]) :=
 relFn_eq (enc := fun (x : QT × List Int) => [.val (e_tree x.1), .val (.tup (List.map D.int x.2))]) (fun a b h => by
  obtain ⟨h1, h⟩ := List.cons.inj h
  obtain ⟨h2, _⟩ := List.cons.inj h
  exact Prod.ext (tree_inj (S.val.inj h1)) (ints_inj (D.tup.inj (S.val.inj h2)))) (rows, path)
theorem num_checked (i : Int) : Fn_is_number [(vI i)] = some (.ret (.val (.bl (decide (0 ≤ i)))) [(vI i)]) := by
 rw [eq_is_number]; simp [t_is_number, t_is_integer]
theorem asc_checked (q : List Int) : Fn_ascending [.val (.lst (q.map D.int))] = (t_ascending (false, q)).bind fun r => some (.ret (.val (.tup (r.map D.int))) [.val (.lst (q.map D.int))]) := eq_ascending (false, q)
theorem le_checked : Fn.le Fn_checked (FnR_checked Fn_checked_cells 12) := relFn_le fun x o h => by
 obtain ⟨r, e, h⟩ := Option.bind_eq_some_iff.mp h
 cases h
 exact checked_true num_checked asc_checked 12 x.1 x.2 r e
section
variable {F_length_of : Fn} {t_length_of : QT → Option (Int)} (ih : ∀ (rows : QT), F_length_of [.val (e_tree rows)] = (t_length_of rows).bind fun r => some (.ret (.val (.int r)) [.val (e_tree rows)]))
include ih
theorem tst_length_of_1 {s1 s2 : S} (rows : QT) {γ : Type} {kx : Xn → List S → Option γ} {k : Bool → List S → Option γ} : cps (tCmp (eEq (eIx (eVar 0) (eC (.int 0))) (eC (.str "end")))) [.val (e_tree rows), s1, s2] kx k = k (decide ((QT.tag rows) = ("end" : Str))) [.val (e_tree rows), s1, s2] := by
 simp? only [Tl.ob_some]
theorem st_length_of_1 {s0 s1 s2 : S}  : (sRtA [0, 1, 2] (sRet (eC (.int 0)))) [s0, s1, s2] = some (.rt (.val (.int (0 : Int))) [.no, .no, .no]) := by
 simp? only [Tl.ob_some]
end
def fc_length_of_1 (t_length_of : QT → Option (Int)) (rows : QT) (v2 : ((List Int) × QT)) : Option Int := (t_length_of v2.2).bind fun v3 => some v3
section
variable {F_length_of : Fn} {t_length_of : QT → Option (Int)} (ih : ∀ (rows : QT), F_length_of [.val (e_tree rows)] = (t_length_of rows).bind fun r => some (.ret (.val (.int r)) [.val (e_tree rows)]))
include ih
theorem lcs_length_of_1 (rows : QT) (v2 : ((List Int) × QT)) : lcS (gT 2 (gsCons (gN 1) (gsCons (gN 2) gsNil))) tYes' (eB gInt (aCons (eCall [false] F_length_of (aCons (eVar 2) aNil)) aNil)) [1, 2] (.tup [(.tup (mI v2.1)), (e_tree v2.2)]) [.val (e_tree rows), .no, .no] = ((fc_length_of_1 t_length_of rows) v2).bind fun y => some (some (D.int y), [.val (e_tree rows), .no, .no]) := by
 simp? only [lcS, fc_length_of_1, ih]
theorem lc_length_of_1 (rows : QT) {γ : Type} {kx : Xn → List S → Option γ} {k : Rv → List S → Option γ} : cps (c_length_of_1 F_length_of) [.val (e_tree rows), .no, .no] kx k = (QT.brs rows).bind fun v1 => (mapT (fc_length_of_1 t_length_of rows) v1).bind fun v4 => k (.own (.lst (mI v4))) [.val (e_tree rows), .no, .no] := by
 have hh := fun {γ : Type} {kx : Xn → List S → Option γ} (rows : QT) (xs : List ((List Int) × QT)) (h' : List D → List S → Option γ) => cps_lcT (e := (fun (x : ((List Int) × QT)) => (D.tup [(.tup (List.map D.int x.1)), (e_tree x.2)]))) (e' := D.int) (ρ := [.val (e_tree rows), .no, .no]) (kx := kx) (f := (fc_length_of_1 t_length_of rows)) xs ((lcs_length_of_1 ih) rows) h'
 simp? only [c_length_of_1, hh]
theorem st_length_of_2 (rows : QT) : (sRtA [0, 1, 2] (sRet (eAdd (eC (.int 1)) (eB gMaxL (aCons (c_length_of_1 F_length_of) aNil))))) [.val (e_tree rows), .no, .no] = (QT.brs rows).bind fun v1 => (mapT (fc_length_of_1 t_length_of rows) v1).bind fun v4 => (lMax v4).bind fun v5 => some (.rt (.val (.int ((1 : Int) + v5))) [.no, .no, .no]) := by
 simp? only [(lc_length_of_1 ih)]
end
def ts_length_of (t_length_of : QT → Option (Int)) (rows : QT) : Option (Int) := if (decide ((QT.tag rows) = ("end" : Str))) = true then some (0 : Int) else (QT.brs rows).bind fun v1 => (mapT (fc_length_of_1 t_length_of rows) v1).bind fun v4 => (lMax v4).bind fun v5 => some ((1 : Int) + v5)
def t_length_of : Nat → QT → Option (Int)
 | 0 => fun _ => none
 | n + 1 => ts_length_of (t_length_of n)
theorem eq_length_of : ∀ n, ∀ (rows : QT), Fn_length_of n [.val (e_tree rows)] = (t_length_of n rows).bind fun r => some (.ret (.val (.int r)) [.val (e_tree rows)])
 | 0 => fun _ => rfl
 | n + 1 => fun rows => by
  have ih := eq_length_of n
  show mkFn _ _ _ _ = (ts_length_of (t_length_of n) rows).bind _
  rw [mkFn_eq]
  dsimp? only [f_length_of, ts_length_of, Nat.reduceSub, Nat.reduceAdd, rtn_bind, rtn_ite, rtn_none, rtn_nx, rtn_rtv, rtn_rto, rtn_k, post_n, post_v, post_o, l_cons, l_nil, r_succ, r_zero, a_cons, a_nil, (tst_length_of_1 ih), (st_length_of_1 ih), (st_length_of_2 ih)]
def Fn_Tree_DinitD : Fn := mkFn 2 2 (f_Tree_DinitD Fn_checked (Fn_length_of 9))
theorem st_Tree_DinitD_1 (rows : QT) : (sSetF ["Tree", "Round"] "rows" (eVar 0) (eCall [false, false] Fn_checked (aCons (eVar 1) (aCons (eTup aNil) aNil)))) [.own (.obj "Tree" [] []), .val (e_tree rows)] = (t_checked rows ([] : List Int)).bind fun v1 => some (.nx [.own (.obj "Tree" ["rows"] [(e_tree v1)]), .val (e_tree rows)]) := by
 have q0 := eq_checked rows ([] : List Int)
 try simp? only [Tl.ob_some] at q0
 simp? only [q0, putF2_n, putF2_c]
theorem st_Tree_DinitD_2 {s1 : S} (self_rows : QT) : (sSetF ["Tree"] "length" (eVar 0) (eCall [false] (Fn_length_of 9) (aCons (eFld ["Tree", "Round"] "rows" (eVar 0)) aNil))) [.own (.obj "Tree" ["rows"] [(e_tree self_rows)]), s1] = ((t_length_of 9) self_rows).bind fun v2 => some (.nx [.own (.obj "Tree" ["rows", "length"] [(e_tree self_rows), (.int v2)]), s1]) := by
 simp? only [fldO_o, (eq_length_of 9), putF2_n, putF2_c]
def t_Tree_DinitD (rows : QT) : Option (T_Tree) := (t_checked rows ([] : List Int)).bind fun v1 => let self_rows := v1; ((t_length_of 9) self_rows).bind fun v2 => let self_length := v2; some (⟨self_rows, self_length⟩ : T_Tree)
theorem eq_Tree_DinitD : ∀ (rows : QT), Fn_Tree_DinitD [.own (.obj "Tree" [] []), .val (e_tree rows)] = (t_Tree_DinitD rows).bind fun r => some (.ret (.val .non) [.own (e_Tree r), .val (e_tree rows)]) := fun rows => by
 show mkFn _ _ _ _ = _
 rw [mkFn_eq]
 dsimp? only [f_Tree_DinitD, t_Tree_DinitD, Nat.reduceSub, Nat.reduceAdd, rtn_bind, rtn_ite, rtn_none, rtn_nx, rtn_rtv, rtn_rto, rtn_k, post_n, post_v, post_o, l_cons, l_nil, r_succ, r_zero, a_cons, a_nil, st_Tree_DinitD_1, st_Tree_DinitD_2, e_Tree]
def tZsame (a b : D) : Option Bool := if (plainN 40 a && plainN 40 b) = true then some (sameB a b) else none
def FnZsame : Fn
 | [.val a, .val b] => (tZsame a b).bind fun r => some (.ret (.val (.bl r)) [.val a, .val b])
 | _ => none
theorem eqZsame (a b : D) : FnZsame [.val a, .val b] = (tZsame a b).bind fun r => some (.ret (.val (.bl r)) [.val a, .val b]) := rfl
theorem leZsame : Fn.le FnZsame (FnR_same 40) := fun ss o h => by
 unfold FnZsame at h
 split at h
 · rename_i a b
   obtain ⟨r, e, h⟩ := Option.bind_eq_some_iff.mp h
   cases h
   unfold tZsame at e
   split at e
   · rename_i hp
     cases e
     obtain ⟨h1, h2⟩ := Bool.and_eq_true_iff.mp hp
     exact same_true 40 a b h1 h2
   · cases e
 · cases h
theorem st_Round_DinitD_1 {s2 s3 : S} (tree : T_Tree) : (sSetF ["Tree", "Round"] "rows" (eVar 0) (eFld ["Tree", "Round"] "rows" (eVar 1))) [.own (.obj "Round" [] []), .val (e_Tree tree), s2, s3] = some (.nx [.own (.obj "Round" ["rows"] [(e_tree tree.rows)]), .val (e_Tree tree), s2, s3]) := by
 simp? only [putF2_n, putF2_c]
theorem st_Round_DinitD_2 {s1 s3 : S} (self_rows : QT) (patience : Int) : (sSetF ["Round"] "patience" (eVar 0) (eVar 2)) [.own (.obj "Round" ["rows"] [(e_tree self_rows)]), s1, (vI patience), s3] = some (.nx [.own (.obj "Round" ["rows", "patience"] [(e_tree self_rows), (.int patience)]), s1, (vI patience), s3]) := by
 simp? only [putF2_n, putF2_c]
theorem st_Round_DinitD_3 {s1 s2 : S} (self_rows : QT) (self_patience : Int) (default : Int) : (sSetF ["Round"] "default" (eVar 0) (eVar 3)) [.own (.obj "Round" ["rows", "patience"] [(e_tree self_rows), (.int self_patience)]), s1, s2, (vI default)] = some (.nx [.own (.obj "Round" ["rows", "patience", "default"] [(e_tree self_rows), (.int self_patience), (.int default)]), s1, s2, (vI default)]) := by
 simp? only [putF2_n, putF2_c]
theorem st_Round_DinitD_4 {s1 s2 s3 : S} (self_rows : QT) (self_patience : Int) (self_default : Int) : (sSetF ["Round"] "path" (eVar 0) (eTup aNil)) [.own (.obj "Round" ["rows", "patience", "default"] [(e_tree self_rows), (.int self_patience), (.int self_default)]), s1, s2, s3] = some (.nx [.own (.obj "Round" ["rows", "patience", "default", "path"] [(e_tree self_rows), (.int self_patience), (.int self_default), (.tup (List.map D.int ([] : List Int)))]), s1, s2, s3]) := by
 simp? only [putF2_n, putF2_c]
theorem st_Round_DinitD_5 {s1 s2 s3 : S} (self_rows : QT) (self_patience : Int) (self_default : Int) (self_path : (List Int)) : (sSetF ["Round"] "history" (eVar 0) (eTup aNil)) [.own (.obj "Round" ["rows", "patience", "default", "path"] [(e_tree self_rows), (.int self_patience), (.int self_default), (.tup (mI self_path))]), s1, s2, s3] = some (.nx [.own (.obj "Round" ["rows", "patience", "default", "path", "history"] [(e_tree self_rows), (.int self_patience), (.int self_default), (.tup (mI self_path)), (.tup (List.map (fun (x : Ty1_) => (D.tup [(eO D.int x.1), (.int x.2.1), (.bl x.2.2)])) ([] : List Ty1_)))]), s1, s2, s3]) := by
 simp? only [putF2_n, putF2_c]
theorem st_Round_DinitD_6 {s1 s2 s3 : S} (self_rows : QT) (self_patience : Int) (self_default : Int) (self_path : (List Int)) (self_history : (List Ty1_)) : (sSetF ["Round"] "silences" (eVar 0) (eC (.int 0))) [.own (.obj "Round" ["rows", "patience", "default", "path", "history"] [(e_tree self_rows), (.int self_patience), (.int self_default), (.tup (mI self_path)), (.tup (List.map (fun (x : Ty1_) => (D.tup [(eO D.int x.1), (.int x.2.1), (.bl x.2.2)])) self_history))]), s1, s2, s3] = some (.nx [.own (.obj "Round" ["rows", "patience", "default", "path", "history", "silences"] [(e_tree self_rows), (.int self_patience), (.int self_default), (.tup (mI self_path)), (.tup (List.map (fun (x : Ty1_) => (D.tup [(eO D.int x.1), (.int x.2.1), (.bl x.2.2)])) self_history)), (.int (0 : Int))]), s1, s2, s3]) := by
 simp? only [putF2_n, putF2_c]
def t_Round_DinitD (tree : T_Tree) (patience : Int) (default : Int) : Option (T_Round) := let self_rows := tree.rows; let self_patience := patience; let self_default := default; let self_path := ([] : List Int); let self_history := ([] : List Ty1_); let self_silences := (0 : Int); some (⟨self_rows, self_patience, self_default, self_path, self_history, self_silences⟩ : T_Round)
theorem eq_Round_DinitD : ∀ (tree : T_Tree) (patience : Int) (default : Int), Fn_Round_DinitD [.own (.obj "Round" [] []), .val (e_Tree tree), .val (.int patience), .val (.int default)] = (t_Round_DinitD tree patience default).bind fun r => some (.ret (.val .non) [.own (e_Round r), .val (e_Tree tree), .val (.int patience), .val (.int default)]) := fun tree patience default => by
 show mkFn _ _ _ _ = _
 rw [mkFn_eq]
 dsimp? only [f_Round_DinitD, t_Round_DinitD, Nat.reduceSub, Nat.reduceAdd, rtn_bind, rtn_ite, rtn_none, rtn_nx, rtn_rtv, rtn_rto, rtn_k, post_n, post_v, post_o, l_cons, l_nil, r_succ, r_zero, a_cons, a_nil, st_Round_DinitD_1, st_Round_DinitD_2, st_Round_DinitD_3, st_Round_DinitD_4, st_Round_DinitD_5, st_Round_DinitD_6, e_Round]
theorem tstZstarted_1 {s0 s2 s3 : S} (way : Int) {γ : Type} {kx : Xn → List S → Option γ} {k : Bool → List S → Option γ} : cps (tCmp (eEq (eVar 1) (eC (.int 0)))) [s0, (vI way), s2, s3] kx k = k (decide (way = (0 : Int))) [s0, (vI way), s2, s3] := by
 simp? only [Tl.ob_some]
theorem stZstarted_1 {s1 s2 s3 : S} (tree : T_Tree) : (sRtA [0, 1, 2, 3] (sRet (eMakeK "Round" 1 0 [.inr 3, .inr 0] [false, false, false] Fn_Round_DinitD (aCons (eVar 0) aNil) aNil))) [.val (e_Tree tree), s1, s2, s3] = (t_Round_DinitD tree (3 : Int) (0 : Int)).bind fun v1 => some (.rt (.own (e_Round v1)) [.no, .no, .no, .no]) := by
 simp? only [eq_Round_DinitD]
theorem tstZstarted_2 {s0 s2 s3 : S} (way : Int) {γ : Type} {kx : Xn → List S → Option γ} {k : Bool → List S → Option γ} : cps (tCmp (eEq (eVar 1) (eC (.int 1)))) [s0, (vI way), s2, s3] kx k = k (decide (way = (1 : Int))) [s0, (vI way), s2, s3] := by
 simp? only [Tl.ob_some]
theorem stZstarted_2 {s1 s3 : S} (tree : T_Tree) (bound : Int) : (sRtA [0, 1, 2, 3] (sRet (eMakeK "Round" 1 1 [.inl 0, .inr 0] [false, false, false] Fn_Round_DinitD (aCons (eVar 0) aNil) (aCons (eVar 2) aNil)))) [.val (e_Tree tree), s1, (vI bound), s3] = (t_Round_DinitD tree bound (0 : Int)).bind fun v2 => some (.rt (.own (e_Round v2)) [.no, .no, .no, .no]) := by
 simp? only [eq_Round_DinitD]
theorem tstZstarted_3 {s0 s2 s3 : S} (way : Int) {γ : Type} {kx : Xn → List S → Option γ} {k : Bool → List S → Option γ} : cps (tCmp (eEq (eVar 1) (eC (.int 2)))) [s0, (vI way), s2, s3] kx k = k (decide (way = (2 : Int))) [s0, (vI way), s2, s3] := by
 simp? only [Tl.ob_some]
theorem stZstarted_3 {s1 s2 : S} (tree : T_Tree) (first : Int) : (sRtA [0, 1, 2, 3] (sRet (eMakeK "Round" 1 1 [.inr 3, .inl 0] [false, false, false] Fn_Round_DinitD (aCons (eVar 0) aNil) (aCons (eVar 3) aNil)))) [.val (e_Tree tree), s1, s2, (vI first)] = (t_Round_DinitD tree (3 : Int) first).bind fun v3 => some (.rt (.own (e_Round v3)) [.no, .no, .no, .no]) := by
 simp? only [eq_Round_DinitD]
theorem stZstarted_4 {s1 : S} (tree : T_Tree) (bound : Int) (first : Int) : (sRtA [0, 1, 2, 3] (sRet (eMakeK "Round" 1 2 [.inl 0, .inl 1] [false, false, false] Fn_Round_DinitD (aCons (eVar 0) aNil) (aCons (eVar 2) (aCons (eVar 3) aNil))))) [.val (e_Tree tree), s1, (vI bound), (vI first)] = (t_Round_DinitD tree bound first).bind fun v4 => some (.rt (.own (e_Round v4)) [.no, .no, .no, .no]) := by
 simp? only [eq_Round_DinitD]
def tZstarted (tree : T_Tree) (way : Int) (bound : Int) (first : Int) : Option (T_Round) := if (decide (way = (0 : Int))) = true then (t_Round_DinitD tree (3 : Int) (0 : Int)).bind fun v1 => some v1 else if (decide (way = (1 : Int))) = true then (t_Round_DinitD tree bound (0 : Int)).bind fun v2 => some v2 else if (decide (way = (2 : Int))) = true then (t_Round_DinitD tree (3 : Int) first).bind fun v3 => some v3 else (t_Round_DinitD tree bound first).bind fun v4 => some v4
theorem eqZstarted : ∀ (tree : T_Tree) (way : Int) (bound : Int) (first : Int), FnZstarted [.val (e_Tree tree), .val (.int way), .val (.int bound), .val (.int first)] = (tZstarted tree way bound first).bind fun r => some (.ret (.own (e_Round r)) [.val (e_Tree tree), .val (.int way), .val (.int bound), .val (.int first)]) := fun tree way bound first => by
 show mkFn _ _ _ _ = _
 rw [mkFn_eq]
 dsimp? only [fZstarted, tZstarted, Nat.reduceSub, Nat.reduceAdd, rtn_bind, rtn_ite, rtn_none, rtn_nx, rtn_rtv, rtn_rto, rtn_k, post_n, post_v, post_o, l_cons, l_nil, r_succ, r_zero, a_cons, a_nil, tstZstarted_1, stZstarted_1, tstZstarted_2, stZstarted_2, tstZstarted_3, stZstarted_3, stZstarted_4]
section
variable {FZat : Fn} {tZat : QT → (List Int) → Option (QT)} (ih : ∀ (rows : QT) (path : (List Int)), FZat [.val (e_tree rows), .val (.tup (List.map D.int path))] = (tZat rows path).bind fun r => some (.ret (.val (e_tree r)) [.val (e_tree rows), .val (.tup (List.map D.int path))]))
include ih
theorem tstZat_1 {s0 : S} (path : (List Int)) {γ : Type} {kx : Xn → List S → Option γ} {k : Bool → List S → Option γ} : cps (tCmp (eEq (eB gLen (aCons (eVar 1) aNil)) (eC (.int 0)))) [s0, (vT path)] kx k = k (decide (((List.length path : Nat) : Int) = (0 : Int))) [s0, (vT path)] := by
 simp? only [Tl.ob_some]
theorem stZat_1 {s1 : S} (rows : QT) : (sRtA [0, 1] (sRet (eVar 0))) [.val (e_tree rows), s1] = some (.rt (.val (e_tree rows)) [.no, .no]) := by
 simp? only [Tl.ob_some]
theorem stZat_2 (rows : QT) (path : (List Int)) : (sRtA [0, 1] (sRet (eCall [false, false] FZat (aCons (eIx (eIx (eIx (eVar 0) (eC (.int 2))) (eIx (eVar 1) (eC (.int 0)))) (eC (.int 1))) (aCons (eSl (eVar 1) (oSome (eC (.int 1))) oNo) aNil))))) [.val (e_tree rows), (vT path)] = (QT.brs rows).bind fun v1 => (atI path (0 : Int)).bind fun v2 => (atI v1 v2).bind fun v3 => (tZat v3.2 (cutD path (some (1 : Int)) none)).bind fun v4 => some (.rt (.val (e_tree v4)) [.no, .no]) := by
 have q0 := fun (v3 : ((List Int) × QT)) => ih v3.2 (cutD path (some (1 : Int)) none)
 try simp? only [Tl.ob_some] at q0
 simp? only [q0]
end
def tsZat (tZat : QT → (List Int) → Option (QT)) (rows : QT) (path : (List Int)) : Option (QT) := if (decide (((List.length path : Nat) : Int) = (0 : Int))) = true then some rows else (QT.brs rows).bind fun v1 => (atI path (0 : Int)).bind fun v2 => (atI v1 v2).bind fun v3 => (tZat v3.2 (cutD path (some (1 : Int)) none)).bind fun v4 => some v4
def tZat : Nat → QT → (List Int) → Option (QT)
 | 0 => fun _ _ => none
 | n + 1 => tsZat (tZat n)
theorem eqZat : ∀ n, ∀ (rows : QT) (path : (List Int)), FnZat n [.val (e_tree rows), .val (.tup (List.map D.int path))] = (tZat n rows path).bind fun r => some (.ret (.val (e_tree r)) [.val (e_tree rows), .val (.tup (List.map D.int path))])
 | 0 => fun _ _ => rfl
 | n + 1 => fun rows path => by
  have ih := eqZat n
  show mkFn _ _ _ _ = (tsZat (tZat n) rows path).bind _
  rw [mkFn_eq]
  dsimp? only [fZat, tsZat, Nat.reduceSub, Nat.reduceAdd, rtn_bind, rtn_ite, rtn_none, rtn_nx, rtn_rtv, rtn_rto, rtn_k, post_n, post_v, post_o, l_cons, l_nil, r_succ, r_zero, a_cons, a_nil, (tstZat_1 ih), (stZat_1 ih), (stZat_2 ih)]
theorem st_rows_at_1 {s1 : S} (rows : QT) (branch : Int) : (sSet 2 0 (eIx (eIx (eIx (eVar 0) (eC (.int 2))) (eVar 2)) (eC (.int 1)))) [.val (e_tree rows), s1, (vI branch)] = (QT.brs rows).bind fun v1 => (atI v1 branch).bind fun v2 => some (.nx [.val (e_tree v2.2), s1, (vI branch)]) := by
 simp? only [Tl.ob_some]
def tb_rows_at_1  (it : Int) (env : (QT)) : Option (QT) := let branch := it; let rows := env; (QT.brs rows).bind fun v1 => (atI v1 branch).bind fun v2 => let rows := v2.2; some rows
theorem bl_rows_at_1 {s1 : S}  (it : Int) (env : (QT)) : ((gN 2) (.int it) [.val (e_tree env), s1, .no]).bind b_rows_at_1 = ((tb_rows_at_1 ) it env).bind fun o => some (.nx [.val (e_tree o), s1, .no]) := by
 dsimp? only [b_rows_at_1, tb_rows_at_1, gT_eq, gsN_eq, gsC_eq, l_cons, l_nil, st_rows_at_1]
theorem ll_rows_at_1 (rows : QT) (path : (List Int)) : l_rows_at_1 [.val (e_tree rows), (vT path), .no] = (foldT (tb_rows_at_1 ) path rows).bind fun o => some (.nx [.val (e_tree o), (vT path), .no]) := by
 have hh := fun  (xs : List Int) (env : (QT)) => forL_fold (e := D.int) (st := fun (env : (QT)) => [.val (e_tree env), .val (.tup (List.map D.int path)), .no]) (tg := (gN 2)) (body := b_rows_at_1) (tb := (tb_rows_at_1 )) xs env (fun x _ env => bl_rows_at_1  x env)
 have hh := fun  (rows : QT) (xs : List Int) => hh  xs rows
 simp? only [l_rows_at_1, sFor_eq] at hh ⊢
 simp? only [hh]
theorem st_rows_at_2 {s1 s2 : S} (rows : QT) : (sRtA [0, 1, 2] (sRet (eVar 0))) [.val (e_tree rows), s1, s2] = some (.rt (.val (e_tree rows)) [.no, .no, .no]) := by
 simp? only [Tl.ob_some]
def t_rows_at (rows : QT) (path : (List Int)) : Option (QT) := (foldT (tb_rows_at_1 ) path rows).bind fun v3 => let rows := v3; some rows
theorem eq_rows_at : ∀ (rows : QT) (path : (List Int)), Fn_rows_at [.val (e_tree rows), .val (.tup (List.map D.int path))] = (t_rows_at rows path).bind fun r => some (.ret (.val (e_tree r)) [.val (e_tree rows), .val (.tup (List.map D.int path))]) := fun rows path => by
 show mkFn _ _ _ _ = _
 rw [mkFn_eq]
 dsimp? only [f_rows_at, t_rows_at, Nat.reduceSub, Nat.reduceAdd, rtn_bind, rtn_ite, rtn_none, rtn_nx, rtn_rtv, rtn_rto, rtn_k, post_n, post_v, post_o, l_cons, l_nil, r_succ, r_zero, a_cons, a_nil, ll_rows_at_1, st_rows_at_2]
theorem st_Round_party_1 (self : T_Round) : (sSet 1 1 (eCall [false, false] Fn_rows_at (aCons (eFld ["Tree", "Round"] "rows" (eVar 0)) (aCons (eFld ["Round"] "path" (eVar 0)) aNil)))) [.own (e_Round self), .no] = (t_rows_at self.rows self.path).bind fun v1 => some (.nx [.own (e_Round self), .val (e_tree v1)]) := by
 simp? only [eq_rows_at]
theorem tst_Round_party_1 {s0 : S} (rows : QT) {γ : Type} {kx : Xn → List S → Option γ} {k : Bool → List S → Option γ} : cps (tCmp (eEq (eIx (eVar 1) (eC (.int 0))) (eC (.str "end")))) [s0, .val (e_tree rows)] kx k = k (decide ((QT.tag rows) = ("end" : Str))) [s0, .val (e_tree rows)] := by
 simp? only [Tl.ob_some]
theorem st_Round_party_2 {s1 : S} (self : T_Round) : (sRtA [1] (sRet (eC .non))) [.own (e_Round self), s1] = some (.rt (.val (eO D.int (none : (Option Int)))) [.own (e_Round self), .no]) := by
 simp? only [Tl.ob_some]
theorem st_Round_party_3 (self : T_Round) (rows : QT) : (sRtA [1] (sRet (eIx (eVar 1) (eC (.int 1))))) [.own (e_Round self), .val (e_tree rows)] = some (.rt (.val (eO D.int (some (QT.num rows)))) [.own (e_Round self), .no]) := by
 simp? only [Tl.ob_some]
def t_Round_party (self : T_Round) : Option ((Option Int) × T_Round) := (t_rows_at self.rows self.path).bind fun v1 => let rows := v1; if (decide ((QT.tag rows) = ("end" : Str))) = true then some ((none : (Option Int)), self) else some ((some (QT.num rows)), self)
theorem eq_Round_party : ∀ (self : T_Round), Fn_Round_party [.own (e_Round self)] = (t_Round_party self).bind fun r => some (.ret (.val (eO D.int r.1)) [.own (e_Round r.2)]) := fun self => by
 show mkFn _ _ _ _ = _
 rw [mkFn_eq]
 dsimp? only [f_Round_party, t_Round_party, Nat.reduceSub, Nat.reduceAdd, rtn_bind, rtn_ite, rtn_none, rtn_nx, rtn_rtv, rtn_rto, rtn_k, post_n, post_v, post_o, l_cons, l_nil, r_succ, r_zero, a_cons, a_nil, st_Round_party_1, tst_Round_party_1, st_Round_party_2, st_Round_party_3]
theorem st_Round_cells_1 {s2 s3 : S} (self : T_Round) : (sSet 1 1 (eCall [false, false] Fn_rows_at (aCons (eFld ["Tree", "Round"] "rows" (eVar 0)) (aCons (eFld ["Round"] "path" (eVar 0)) aNil)))) [.own (e_Round self), .no, s2, s3] = (t_rows_at self.rows self.path).bind fun v1 => some (.nx [.own (e_Round self), .val (e_tree v1), s2, s3]) := by
 simp? only [eq_rows_at]
theorem tst_Round_cells_1 {s0 s2 s3 : S} (rows : QT) {γ : Type} {kx : Xn → List S → Option γ} {k : Bool → List S → Option γ} : cps (tCmp (eEq (eIx (eVar 1) (eC (.int 0))) (eC (.str "end")))) [s0, .val (e_tree rows), s2, s3] kx k = k (decide ((QT.tag rows) = ("end" : Str))) [s0, .val (e_tree rows), s2, s3] := by
 simp? only [Tl.ob_some]
theorem st_Round_cells_2 {s1 s2 s3 : S} (self : T_Round) : (sRtA [1, 2, 3] (sRet (eTup aNil))) [.own (e_Round self), s1, s2, s3] = some (.rt (.val (.tup (List.map (fun x => (D.tup (mI x))) ([] : List (List Int))))) [.own (e_Round self), .no, .no, .no]) := by
 simp? only [Tl.ob_some]
theorem lcs_Round_cells_1 {s0 : S} (rows : QT) (v3 : ((List Int) × QT)) : lcS (gT 2 (gsCons (gN 2) (gsCons (gN 3) gsNil))) tYes' (eVar 2) [2, 3] (.tup [(.tup (mI v3.1)), (e_tree v3.2)]) [s0, .val (e_tree rows), .no, .no] = some (some (D.tup (mI v3.1)), [s0, .val (e_tree rows), .no, .no]) := by
 simp? only [lcS]
theorem lc_Round_cells_1 {s0 : S} (rows : QT) {γ : Type} {kx : Xn → List S → Option γ} {k : Rv → List S → Option γ} : cps c_Round_cells_1 [s0, .val (e_tree rows), .no, .no] kx k = (QT.brs rows).bind fun v2 => k (.own (.lst (List.map (fun x => (D.tup (mI x))) (List.map (fun (v3 : ((List Int) × QT)) => v3.1) v2)))) [s0, .val (e_tree rows), .no, .no] := by
 have hh := fun {γ : Type} {kx : Xn → List S → Option γ} (rows : QT) (xs : List ((List Int) × QT)) (h' : List D → List S → Option γ) => cps_lcP (e := (fun (x : ((List Int) × QT)) => (D.tup [(.tup (List.map D.int x.1)), (e_tree x.2)]))) (e' := (fun x => (D.tup (List.map D.int x)))) (ρ := [s0, .val (e_tree rows), .no, .no]) (kx := kx) (f := fun (v3 : ((List Int) × QT)) => v3.1) xs (lcs_Round_cells_1 rows) h'
 simp? only [c_Round_cells_1, hh]
theorem st_Round_cells_3 (self : T_Round) (rows : QT) : (sRtA [1, 2, 3] (sRet (eB gTuple (aCons c_Round_cells_1 aNil)))) [.own (e_Round self), .val (e_tree rows), .no, .no] = (QT.brs rows).bind fun v2 => some (.rt (.val (.tup (List.map (fun x => (D.tup (mI x))) (List.map (fun (v3 : ((List Int) × QT)) => v3.1) v2)))) [.own (e_Round self), .no, .no, .no]) := by
 simp? only [lc_Round_cells_1]
def t_Round_cells (self : T_Round) : Option ((List (List Int)) × T_Round) := (t_rows_at self.rows self.path).bind fun v1 => let rows := v1; if (decide ((QT.tag rows) = ("end" : Str))) = true then some (([] : List (List Int)), self) else (QT.brs rows).bind fun v2 => some ((List.map (fun (v3 : ((List Int) × QT)) => v3.1) v2), self)
theorem eq_Round_cells : ∀ (self : T_Round), Fn_Round_cells [.own (e_Round self)] = (t_Round_cells self).bind fun r => some (.ret (.val (.tup (List.map (fun x => (D.tup (List.map D.int x))) r.1))) [.own (e_Round r.2)]) := fun self => by
 show mkFn _ _ _ _ = _
 rw [mkFn_eq]
 dsimp? only [f_Round_cells, t_Round_cells, Nat.reduceSub, Nat.reduceAdd, rtn_bind, rtn_ite, rtn_none, rtn_nx, rtn_rtv, rtn_rto, rtn_k, post_n, post_v, post_o, l_cons, l_nil, r_succ, r_zero, a_cons, a_nil, st_Round_cells_1, tst_Round_cells_1, st_Round_cells_2, st_Round_cells_3]
theorem st_Round_outcome_1 (self : T_Round) : (sSet 1 1 (eCall [false, false] Fn_rows_at (aCons (eFld ["Tree", "Round"] "rows" (eVar 0)) (aCons (eFld ["Round"] "path" (eVar 0)) aNil)))) [.own (e_Round self), .no] = (t_rows_at self.rows self.path).bind fun v1 => some (.nx [.own (e_Round self), .val (e_tree v1)]) := by
 simp? only [eq_rows_at]
theorem tst_Round_outcome_1 {s0 : S} (rows : QT) {γ : Type} {kx : Xn → List S → Option γ} {k : Bool → List S → Option γ} : cps (tCmp (eEq (eIx (eVar 1) (eC (.int 0))) (eC (.str "end")))) [s0, .val (e_tree rows)] kx k = k (decide ((QT.tag rows) = ("end" : Str))) [s0, .val (e_tree rows)] := by
 simp? only [Tl.ob_some]
theorem st_Round_outcome_2 (self : T_Round) (rows : QT) : (sRtA [1] (sRet (eIx (eVar 1) (eC (.int 1))))) [.own (e_Round self), .val (e_tree rows)] = some (.rt (.val (eO D.int (some (QT.num rows)))) [.own (e_Round self), .no]) := by
 simp? only [Tl.ob_some]
theorem st_Round_outcome_3 {s1 : S} (self : T_Round) : (sRtA [1] (sRet (eC .non))) [.own (e_Round self), s1] = some (.rt (.val (eO D.int (none : (Option Int)))) [.own (e_Round self), .no]) := by
 simp? only [Tl.ob_some]
def t_Round_outcome (self : T_Round) : Option ((Option Int) × T_Round) := (t_rows_at self.rows self.path).bind fun v1 => let rows := v1; if (decide ((QT.tag rows) = ("end" : Str))) = true then some ((some (QT.num rows)), self) else some ((none : (Option Int)), self)
theorem eq_Round_outcome : ∀ (self : T_Round), Fn_Round_outcome [.own (e_Round self)] = (t_Round_outcome self).bind fun r => some (.ret (.val (eO D.int r.1)) [.own (e_Round r.2)]) := fun self => by
 show mkFn _ _ _ _ = _
 rw [mkFn_eq]
 dsimp? only [f_Round_outcome, t_Round_outcome, Nat.reduceSub, Nat.reduceAdd, rtn_bind, rtn_ite, rtn_none, rtn_nx, rtn_rtv, rtn_rto, rtn_k, post_n, post_v, post_o, l_cons, l_nil, r_succ, r_zero, a_cons, a_nil, st_Round_outcome_1, tst_Round_outcome_1, st_Round_outcome_2, st_Round_outcome_3]
def FnZshows : Fn := mkFn 5 7 (fZshows (FnZat 9) FnZsame Fn_Round_party Fn_Round_cells Fn_Round_outcome)
theorem stZshows_1 {s0 s3 s4 s6 : S} (rows : QT) (path : (List Int)) : (sSet 5 5 (eCall [false, false] (FnZat 9) (aCons (eVar 1) (aCons (eVar 2) aNil)))) [s0, .val (e_tree rows), (vT path), s3, s4, .no, s6] = ((tZat 9) rows path).bind fun v1 => some (.nx [s0, .val (e_tree rows), (vT path), s3, s4, .val (e_tree v1), s6]) := by
 simp? only [(eqZat 9)]
theorem tstZshows_1 {s1 s4 s5 s6 : S} (game : T_Round) (path : (List Int)) (history : (List (Int × Int × Bool))) {γ : Type} {kx : Xn → List S → Option γ} {k : Bool → List S → Option γ} : cps (tZshows_1 FnZsame) [.own (e_Round game), s1, (vT path), .val (.tup (List.map (fun (x : (Int × Int × Bool)) => (D.tup [(.int x.1), (.int x.2.1), (.bl x.2.2)])) history)), s4, s5, s6] kx k = (tZsame (D.tup (mI game.path)) (D.tup (mI path))).bind fun v2 => ((if (!v2) = true then some true else (tZsame (D.tup (List.map (fun (x : Ty1_) => (D.tup [(eO D.int x.1), (.int x.2.1), (.bl x.2.2)])) game.history)) (D.tup (List.map (fun (x : (Int × Int × Bool)) => (D.tup [(.int x.1), (.int x.2.1), (.bl x.2.2)])) history))).bind fun v3 => some (!v3))).bind fun v4 => k (v4) [.own (e_Round game), s1, (vT path), .val (.tup (List.map (fun (x : (Int × Int × Bool)) => (D.tup [(.int x.1), (.int x.2.1), (.bl x.2.2)])) history)), s4, s5, s6] := by
 have ka : ∀ (a b : Bool) (ρ : List S), (if a = true then k b ρ else k false ρ) = k (a && b) ρ := fun a b ρ => by cases a <;> rfl
 have ko : ∀ (a b : Bool) (ρ : List S), (if a = true then k true ρ else k b ρ) = k (a || b) ρ := fun a b ρ => by cases a <;> rfl
 have q0 := eqZsame (D.tup (List.map D.int game.path)) (D.tup (List.map D.int path))
 try simp? only [Tl.ob_some] at q0
 have q1 := eqZsame (D.tup (List.map (fun (x : Ty1_) => (D.tup [(eO D.int x.1), (.int x.2.1), (.bl x.2.2)])) game.history)) (D.tup (List.map (fun (x : (Int × Int × Bool)) => (D.tup [(.int x.1), (.int x.2.1), (.bl x.2.2)])) history))
 try simp? only [Tl.ob_some] at q1
 simp? only [tZshows_1, q0, q1]
theorem tstZshows_2 {s1 s4 s5 s6 : S} (game : T_Round) (path : (List Int)) (history : (List (Int × Int × Bool))) {γ : Type} {kx : Xn → List S → Option γ} {k : Bool → List S → Option γ} : cps (tZshows_1 FnZsame) [.own (e_Round game), s1, (vT path), .val (.tup (List.map (fun (x : (Int × Int × Bool)) => (D.tup [(.int x.1), (.int x.2.1), (.bl x.2.2)])) history)), s4, s5, s6] kx k = (tZsame (D.tup (mI game.path)) (D.tup (mI path))).bind fun v2 => ((if (!v2) = true then some true else (tZsame (D.tup (List.map (fun (x : Ty1_) => (D.tup [(eO D.int x.1), (.int x.2.1), (.bl x.2.2)])) game.history)) (D.tup (List.map (fun (x : (Int × Int × Bool)) => (D.tup [(.int x.1), (.int x.2.1), (.bl x.2.2)])) history))).bind fun v3 => some (!v3))).bind fun v4 => k v4 [.own (e_Round game), s1, (vT path), .val (.tup (List.map (fun (x : (Int × Int × Bool)) => (D.tup [(.int x.1), (.int x.2.1), (.bl x.2.2)])) history)), s4, s5, s6] := by
 simp? only [tstZshows_1]
theorem stZshows_2 {s1 s2 s3 s4 s5 s6 : S} (game : T_Round) : (sRtA [1, 2, 3, 4, 5, 6] (sRet (eC (.bl false)))) [.own (e_Round game), s1, s2, s3, s4, s5, s6] = some (.rt (.val (.bl false)) [.own (e_Round game), .no, .no, .no, .no, .no, .no]) := by
 simp? only [Tl.ob_some]
theorem tstZshows_3 {s1 s2 s3 s5 s6 : S} (game : T_Round) (silences : Int) {γ : Type} {kx : Xn → List S → Option γ} {k : Bool → List S → Option γ} : cps (tNot (tVal (eCall [false, false] FnZsame (aCons (eFld ["Round"] "silences" (eVar 0)) (aCons (eVar 4) aNil))))) [.own (e_Round game), s1, s2, s3, (vI silences), s5, s6] kx k = (tZsame (D.int game.silences) (D.int silences)).bind fun v5 => k (!v5) [.own (e_Round game), s1, s2, s3, (vI silences), s5, s6] := by
 have q0 := eqZsame (D.int game.silences) (D.int silences)
 try simp? only [Tl.ob_some] at q0
 simp? only [q0]
theorem stZshows_3 {s1 s2 s3 s4 s5 s6 : S} (game : T_Round) : (sRtA [1, 2, 3, 4, 5, 6] (sRet (eC (.bl false)))) [.own (e_Round game), s1, s2, s3, s4, s5, s6] = some (.rt (.val (.bl false)) [.own (e_Round game), .no, .no, .no, .no, .no, .no]) := by
 simp? only [Tl.ob_some]
theorem tstZshows_4 {s0 s1 s2 s3 s4 s6 : S} (place : QT) {γ : Type} {kx : Xn → List S → Option γ} {k : Bool → List S → Option γ} : cps (tCmp (eEq (eIx (eVar 5) (eC (.int 0))) (eC (.str "end")))) [s0, s1, s2, s3, s4, .val (e_tree place), s6] kx k = k (decide ((QT.tag place) = ("end" : Str))) [s0, s1, s2, s3, s4, .val (e_tree place), s6] := by
 simp? only [Tl.ob_some]
theorem tstZshows_5 {s1 s2 s3 s4 s5 s6 : S} (game : T_Round) {γ : Type} {kx : Xn → List S → Option γ} {k : Bool → List S → Option γ} : cps (tZshows_2 Fn_Round_party FnZsame Fn_Round_cells) [.own (e_Round game), s1, s2, s3, s4, s5, s6] kx k = (t_Round_party game).bind fun v6 => ((if (!v6.1.isNone) = true then some (true, v6.2) else (t_Round_cells v6.2).bind fun v7 => (tZsame (D.tup (mT v7.1)) (D.tup (List.map D.int ([] : List Int)))).bind fun v8 => some ((!v8), v7.2))).bind fun v9 => k (v9.1) [.own (e_Round v9.2), s1, s2, s3, s4, s5, s6] := by
 have ka : ∀ (a b : Bool) (ρ : List S), (if a = true then k b ρ else k false ρ) = k (a && b) ρ := fun a b ρ => by cases a <;> rfl
 have ko : ∀ (a b : Bool) (ρ : List S), (if a = true then k true ρ else k b ρ) = k (a || b) ρ := fun a b ρ => by cases a <;> rfl
 have q0 := fun (v7 : ((List (List Int)) × T_Round)) => eqZsame (D.tup (List.map (fun x => (D.tup (List.map D.int x))) v7.1)) (D.tup (List.map D.int ([] : List Int)))
 try simp? only [Tl.ob_some] at q0
 simp? only [tZshows_2, isObj_Round, eq_Round_party, eq_Round_cells, q0]
theorem tstZshows_6 {s1 s2 s3 s4 s5 s6 : S} (game : T_Round) {γ : Type} {kx : Xn → List S → Option γ} {k : Bool → List S → Option γ} : cps (tZshows_2 Fn_Round_party FnZsame Fn_Round_cells) [.own (e_Round game), s1, s2, s3, s4, s5, s6] kx k = (t_Round_party game).bind fun v6 => ((if (!v6.1.isNone) = true then some (true, v6.2) else (t_Round_cells v6.2).bind fun v7 => (tZsame (D.tup (mT v7.1)) (D.tup (List.map D.int ([] : List Int)))).bind fun v8 => some ((!v8), v7.2))).bind fun v9 => k v9.1 [.own (e_Round v9.2), s1, s2, s3, s4, s5, s6] := by
 simp? only [tstZshows_5]
theorem stZshows_4 {s1 s2 s3 s4 s5 s6 : S} (game : T_Round) : (sRtA [1, 2, 3, 4, 5, 6] (sRet (eC (.bl false)))) [.own (e_Round game), s1, s2, s3, s4, s5, s6] = some (.rt (.val (.bl false)) [.own (e_Round game), .no, .no, .no, .no, .no, .no]) := by
 simp? only [Tl.ob_some]
theorem stZshows_5 {s1 s2 s3 s4 s6 : S} (game : T_Round) (place : QT) : (sRtA [1, 2, 3, 4, 5, 6] (sRet (eCall [false, false] FnZsame (aCons (eProp "Round" [true] Fn_Round_outcome (eVar 0)) (aCons (eIx (eVar 5) (eC (.int 1))) aNil))))) [.own (e_Round game), s1, s2, s3, s4, .val (e_tree place), s6] = (t_Round_outcome game).bind fun v10 => (tZsame (eO D.int v10.1) (D.int (QT.num place))).bind fun v11 => some (.rt (.val (.bl v11)) [.own (e_Round v10.2), .no, .no, .no, .no, .no, .no]) := by
 have q0 := fun (v10 : ((Option Int) × T_Round)) => eqZsame (eO D.int v10.1) (D.int (QT.num place))
 try simp? only [Tl.ob_some] at q0
 simp? only [isObj_Round, eq_Round_outcome, q0]
theorem tstZshows_7 {s1 s2 s3 s4 s6 : S} (game : T_Round) (place : QT) {γ : Type} {kx : Xn → List S → Option γ} {k : Bool → List S → Option γ} : cps (tZshows_3 FnZsame Fn_Round_party Fn_Round_outcome) [.own (e_Round game), s1, s2, s3, s4, .val (e_tree place), s6] kx k = (t_Round_party game).bind fun v12 => (tZsame (eO D.int v12.1) (D.int (QT.num place))).bind fun v13 => ((if (!v13) = true then some (true, v12.2) else (t_Round_outcome v12.2).bind fun v14 => some ((!v14.1.isNone), v14.2))).bind fun v15 => k (v15.1) [.own (e_Round v15.2), s1, s2, s3, s4, .val (e_tree place), s6] := by
 have ka : ∀ (a b : Bool) (ρ : List S), (if a = true then k b ρ else k false ρ) = k (a && b) ρ := fun a b ρ => by cases a <;> rfl
 have ko : ∀ (a b : Bool) (ρ : List S), (if a = true then k true ρ else k b ρ) = k (a || b) ρ := fun a b ρ => by cases a <;> rfl
 have q0 := fun (v12 : ((Option Int) × T_Round)) => eqZsame (eO D.int v12.1) (D.int (QT.num place))
 try simp? only [Tl.ob_some] at q0
 simp? only [tZshows_3, isObj_Round, eq_Round_party, q0, eq_Round_outcome]
theorem tstZshows_8 {s1 s2 s3 s4 s6 : S} (game : T_Round) (place : QT) {γ : Type} {kx : Xn → List S → Option γ} {k : Bool → List S → Option γ} : cps (tZshows_3 FnZsame Fn_Round_party Fn_Round_outcome) [.own (e_Round game), s1, s2, s3, s4, .val (e_tree place), s6] kx k = (t_Round_party game).bind fun v12 => (tZsame (eO D.int v12.1) (D.int (QT.num place))).bind fun v13 => ((if (!v13) = true then some (true, v12.2) else (t_Round_outcome v12.2).bind fun v14 => some ((!v14.1.isNone), v14.2))).bind fun v15 => k v15.1 [.own (e_Round v15.2), s1, s2, s3, s4, .val (e_tree place), s6] := by
 simp? only [tstZshows_7]
theorem stZshows_6 {s1 s2 s3 s4 s5 s6 : S} (game : T_Round) : (sRtA [1, 2, 3, 4, 5, 6] (sRet (eC (.bl false)))) [.own (e_Round game), s1, s2, s3, s4, s5, s6] = some (.rt (.val (.bl false)) [.own (e_Round game), .no, .no, .no, .no, .no, .no]) := by
 simp? only [Tl.ob_some]
theorem lcsZshows_1 {s0 s1 s2 s3 s4 : S} (place : QT) (v18 : ((List Int) × QT)) : lcS (gN 6) tYes' (eIx (eVar 6) (eC (.int 0))) [6] (.tup [(.tup (mI v18.1)), (e_tree v18.2)]) [s0, s1, s2, s3, s4, .val (e_tree place), .no] = some (some (D.tup (mI v18.1)), [s0, s1, s2, s3, s4, .val (e_tree place), .no]) := by
 simp? only [lcS]
theorem lcZshows_1 {s0 s1 s2 s3 s4 : S} (place : QT) {γ : Type} {kx : Xn → List S → Option γ} {k : Rv → List S → Option γ} : cps cZshows_1 [s0, s1, s2, s3, s4, .val (e_tree place), .no] kx k = (QT.brs place).bind fun v17 => k (.own (.lst (List.map (fun x => (D.tup (mI x))) (List.map (fun (v18 : ((List Int) × QT)) => v18.1) v17)))) [s0, s1, s2, s3, s4, .val (e_tree place), .no] := by
 have hh := fun {γ : Type} {kx : Xn → List S → Option γ} (place : QT) (xs : List ((List Int) × QT)) (h' : List D → List S → Option γ) => cps_lcP (e := (fun (x : ((List Int) × QT)) => (D.tup [(.tup (List.map D.int x.1)), (e_tree x.2)]))) (e' := (fun x => (D.tup (List.map D.int x)))) (ρ := [s0, s1, s2, s3, s4, .val (e_tree place), .no]) (kx := kx) (f := fun (v18 : ((List Int) × QT)) => v18.1) xs (lcsZshows_1 place) h'
 simp? only [cZshows_1, hh]
theorem stZshows_7 {s1 s2 s3 s4 : S} (game : T_Round) (place : QT) : (sRtA [1, 2, 3, 4, 5, 6] (sRet (eCall [false, false] FnZsame (aCons (eProp "Round" [true] Fn_Round_cells (eVar 0)) (aCons (eB gTuple (aCons cZshows_1 aNil)) aNil))))) [.own (e_Round game), s1, s2, s3, s4, .val (e_tree place), .no] = (t_Round_cells game).bind fun v16 => (QT.brs place).bind fun v17 => (tZsame (D.tup (mT v16.1)) (D.tup (List.map (fun x => (D.tup (mI x))) (List.map (fun (v18 : ((List Int) × QT)) => v18.1) v17)))).bind fun v19 => some (.rt (.val (.bl v19)) [.own (e_Round v16.2), .no, .no, .no, .no, .no, .no]) := by
 have q0 := fun (v16 : ((List (List Int)) × T_Round)) (v17 : (List ((List Int) × QT))) => eqZsame (D.tup (List.map (fun x => (D.tup (List.map D.int x))) v16.1)) (D.tup (List.map (fun x => (D.tup (List.map D.int x))) (List.map (fun (v18 : ((List Int) × QT)) => v18.1) v17)))
 try simp? only [Tl.ob_some] at q0
 simp? only [isObj_Round, eq_Round_cells, lcZshows_1, q0]
def tZshows (game : T_Round) (rows : QT) (path : (List Int)) (history : (List (Int × Int × Bool))) (silences : Int) : Option (Bool × T_Round) := ((tZat 9) rows path).bind fun v1 => let place := v1; (tZsame (D.tup (List.map D.int game.path)) (D.tup (List.map D.int path))).bind fun v2 => ((if (!v2) = true then some true else (tZsame (D.tup (List.map (fun (x : Ty1_) => (D.tup [(eO D.int x.1), (.int x.2.1), (.bl x.2.2)])) game.history)) (D.tup (List.map (fun (x : (Int × Int × Bool)) => (D.tup [(.int x.1), (.int x.2.1), (.bl x.2.2)])) history))).bind fun v3 => some (!v3))).bind fun v4 => if v4 = true then some (false, game) else (tZsame (D.int game.silences) (D.int silences)).bind fun v5 => if (!v5) = true then some (false, game) else if (decide ((QT.tag place) = ("end" : Str))) = true then (t_Round_party game).bind fun v6 => ((if (!v6.1.isNone) = true then some (true, v6.2) else (t_Round_cells v6.2).bind fun v7 => (tZsame (D.tup (List.map (fun x => (D.tup (List.map D.int x))) v7.1)) (D.tup (List.map D.int ([] : List Int)))).bind fun v8 => some ((!v8), v7.2))).bind fun v9 => let c_ := v9.1; let game_n := v9.2; let game := game_n; if c_ = true then some (false, game) else (t_Round_outcome game).bind fun v10 => (tZsame (eO D.int v10.1) (D.int (QT.num place))).bind fun v11 => some (v11, v10.2) else (t_Round_party game).bind fun v12 => (tZsame (eO D.int v12.1) (D.int (QT.num place))).bind fun v13 => ((if (!v13) = true then some (true, v12.2) else (t_Round_outcome v12.2).bind fun v14 => some ((!v14.1.isNone), v14.2))).bind fun v15 => let c_ := v15.1; let game_n := v15.2; let game := game_n; if c_ = true then some (false, game) else (t_Round_cells game).bind fun v16 => (QT.brs place).bind fun v17 => (tZsame (D.tup (List.map (fun x => (D.tup (List.map D.int x))) v16.1)) (D.tup (List.map (fun x => (D.tup (List.map D.int x))) (List.map (fun (v18 : ((List Int) × QT)) => v18.1) v17)))).bind fun v19 => some (v19, v16.2)
theorem eqZshows : ∀ (game : T_Round) (rows : QT) (path : (List Int)) (history : (List (Int × Int × Bool))) (silences : Int), FnZshows [.own (e_Round game), .val (e_tree rows), .val (.tup (List.map D.int path)), .val (.tup (List.map (fun (x : (Int × Int × Bool)) => (D.tup [(.int x.1), (.int x.2.1), (.bl x.2.2)])) history)), .val (.int silences)] = (tZshows game rows path history silences).bind fun r => some (.ret (.val (.bl r.1)) [.own (e_Round r.2), .val (e_tree rows), .val (.tup (List.map D.int path)), .val (.tup (List.map (fun (x : (Int × Int × Bool)) => (D.tup [(.int x.1), (.int x.2.1), (.bl x.2.2)])) history)), .val (.int silences)]) := fun game rows path history silences => by
 show mkFn _ _ _ _ = _
 rw [mkFn_eq]
 dsimp? only [fZshows, tZshows, Nat.reduceSub, Nat.reduceAdd, rtn_bind, rtn_ite, rtn_none, rtn_nx, rtn_rtv, rtn_rto, rtn_k, post_n, post_v, post_o, l_cons, l_nil, r_succ, r_zero, a_cons, a_nil, stZshows_1, tstZshows_2, stZshows_2, tstZshows_3, stZshows_3, tstZshows_4, tstZshows_6, stZshows_4, stZshows_5, tstZshows_8, stZshows_6, stZshows_7]
theorem st_Round_go_on_1 (self : T_Round) (branch : Int) (said : Bool) : (sSetF ["Round"] "history" (eVar 0) (eTup (aStar (eFld ["Round"] "history" (eVar 0)) (aCons (eTup (aCons (eProp "Round" [true] Fn_Round_party (eVar 0)) (aCons (eVar 1) (aCons (eVar 2) aNil)))) aNil)))) [.own (e_Round self), (vI branch), .val (.bl said)] = (t_Round_party self).bind fun v1 => (gz (List.length (self.history ++ ([(v1.1, branch, said)])))).bind fun _ => some (.nx [.own (e_Round (⟨v1.2.rows, v1.2.patience, v1.2.default, v1.2.path, (self.history ++ ([(v1.1, branch, said)])), v1.2.silences⟩ : T_Round)), (vI branch), .val (.bl said)]) := by
 simp? only [isObj_Round, eq_Round_party, own_Round, mk_Round]
theorem st_Round_go_on_2 {s2 : S} (self : T_Round) (branch : Int) : (sSetF ["Round"] "path" (eVar 0) (eTup (aStar (eFld ["Round"] "path" (eVar 0)) (aCons (eVar 1) aNil)))) [.own (e_Round self), (vI branch), s2] = (gz (List.length (self.path ++ ([branch])))).bind fun _ => some (.nx [.own (e_Round (⟨self.rows, self.patience, self.default, (self.path ++ ([branch])), self.history, self.silences⟩ : T_Round)), (vI branch), s2]) := by
 simp? only [own_Round, mk_Round]
theorem st_Round_go_on_3 {s1 s2 : S} (self : T_Round) : (sSetF ["Round"] "silences" (eVar 0) (eC (.int 0))) [.own (e_Round self), s1, s2] = some (.nx [.own (e_Round (⟨self.rows, self.patience, self.default, self.path, self.history, (0 : Int)⟩ : T_Round)), s1, s2]) := by
 simp? only [own_Round, mk_Round]
def t_Round_go_on (self : T_Round) (branch : Int) (said : Bool) : Option (T_Round) := (t_Round_party self).bind fun v1 => (gz (List.length (self.history ++ ([(v1.1, branch, said)])))).bind fun _ => let self := (⟨v1.2.rows, v1.2.patience, v1.2.default, v1.2.path, (self.history ++ ([(v1.1, branch, said)])), v1.2.silences⟩ : T_Round); (gz (List.length (self.path ++ ([branch])))).bind fun _ => let self := (⟨self.rows, self.patience, self.default, (self.path ++ ([branch])), self.history, self.silences⟩ : T_Round); let self := (⟨self.rows, self.patience, self.default, self.path, self.history, (0 : Int)⟩ : T_Round); some self
theorem eq_Round_go_on : ∀ (self : T_Round) (branch : Int) (said : Bool), Fn_Round_go_on [.own (e_Round self), .val (.int branch), .val (.bl said)] = (t_Round_go_on self branch said).bind fun r => some (.ret (.val .non) [.own (e_Round r), .val (.int branch), .val (.bl said)]) := fun self branch said => by
 show mkFn _ _ _ _ = _
 rw [mkFn_eq]
 dsimp? only [f_Round_go_on, t_Round_go_on, Nat.reduceSub, Nat.reduceAdd, rtn_bind, rtn_ite, rtn_none, rtn_nx, rtn_rtv, rtn_rto, rtn_k, post_n, post_v, post_o, l_cons, l_nil, r_succ, r_zero, a_cons, a_nil, st_Round_go_on_1, st_Round_go_on_2, st_Round_go_on_3]
theorem tst_Round_say_1 {s2 : S} (self : T_Round) (party : Int) {γ : Type} {kx : Xn → List S → Option γ} {k : Bool → List S → Option γ} : cps (t_Round_say_1 Fn_Round_party Fn_is_integer) [.own (e_Round self), (vI party), s2] kx k = (t_Round_party self).bind fun v1 => ((if (v1.1.isNone) = true then some (true, v1.2) else (t_is_integer party).bind fun v2 => (if (!v2) = true then some (true, v1.2) else (t_Round_party v1.2).bind fun v3 => some ((!decide (some party = v3.1)), v3.2)))).bind fun v4 => k (v4.1) [.own (e_Round v4.2), (vI party), s2] := by
 have ka : ∀ (a b : Bool) (ρ : List S), (if a = true then k b ρ else k false ρ) = k (a && b) ρ := fun a b ρ => by cases a <;> rfl
 have ko : ∀ (a b : Bool) (ρ : List S), (if a = true then k true ρ else k b ρ) = k (a || b) ρ := fun a b ρ => by cases a <;> rfl
 simp? only [t_Round_say_1, isObj_Round, eq_Round_party, eq_is_integer, (pd_int.neO2 nn_int (by decide))]
theorem tst_Round_say_2 {s2 : S} (self : T_Round) (party : Int) {γ : Type} {kx : Xn → List S → Option γ} {k : Bool → List S → Option γ} : cps (t_Round_say_1 Fn_Round_party Fn_is_integer) [.own (e_Round self), (vI party), s2] kx k = (t_Round_party self).bind fun v1 => ((if (v1.1.isNone) = true then some (true, v1.2) else (t_is_integer party).bind fun v2 => (if (!v2) = true then some (true, v1.2) else (t_Round_party v1.2).bind fun v3 => some ((!decide (some party = v3.1)), v3.2)))).bind fun v4 => k v4.1 [.own (e_Round v4.2), (vI party), s2] := by
 simp? only [tst_Round_say_1]
theorem tst_Round_say_3 {s1 : S} (self : T_Round) (branch : Int) {γ : Type} {kx : Xn → List S → Option γ} {k : Bool → List S → Option γ} : cps (t_Round_say_2 Fn_is_number Fn_Round_cells) [.own (e_Round self), s1, (vI branch)] kx k = (t_is_number branch).bind fun v5 => ((if (!v5) = true then some (true, self) else (t_Round_cells self).bind fun v6 => some ((decide (((List.length v6.1 : Nat) : Int) ≤ branch)), v6.2))).bind fun v7 => k (v7.1) [.own (e_Round v7.2), s1, (vI branch)] := by
 have ka : ∀ (a b : Bool) (ρ : List S), (if a = true then k b ρ else k false ρ) = k (a && b) ρ := fun a b ρ => by cases a <;> rfl
 have ko : ∀ (a b : Bool) (ρ : List S), (if a = true then k true ρ else k b ρ) = k (a || b) ρ := fun a b ρ => by cases a <;> rfl
 simp? only [t_Round_say_2, eq_is_number, isObj_Round, eq_Round_cells]
theorem tst_Round_say_4 {s1 : S} (self : T_Round) (branch : Int) {γ : Type} {kx : Xn → List S → Option γ} {k : Bool → List S → Option γ} : cps (t_Round_say_2 Fn_is_number Fn_Round_cells) [.own (e_Round self), s1, (vI branch)] kx k = (t_is_number branch).bind fun v5 => ((if (!v5) = true then some (true, self) else (t_Round_cells self).bind fun v6 => some ((decide (((List.length v6.1 : Nat) : Int) ≤ branch)), v6.2))).bind fun v7 => k v7.1 [.own (e_Round v7.2), s1, (vI branch)] := by
 simp? only [tst_Round_say_3]
theorem st_Round_say_1 {s1 : S} (self : T_Round) (branch : Int) : (sExpr (eMeth "Round" "go_on" [true, false, false] Fn_Round_go_on (eVar 0) (aCons (eVar 2) (aCons (eC (.bl true)) aNil)))) [.own (e_Round self), s1, (vI branch)] = (t_Round_go_on self branch true).bind fun v8 => some (.nx [.own (e_Round v8), s1, (vI branch)]) := by
 simp? only [isObjM_Round_go_on, eq_Round_go_on]
theorem st_Round_say_2 {s1 s2 : S} (self : T_Round) : (sRtA [1, 2] (sRet (eProp "Round" [true] Fn_Round_outcome (eVar 0)))) [.own (e_Round self), s1, s2] = (t_Round_outcome self).bind fun v9 => some (.rt (.val (eO D.int v9.1)) [.own (e_Round v9.2), .no, .no]) := by
 simp? only [isObj_Round, eq_Round_outcome]
def t_Round_say (self : T_Round) (party : Int) (branch : Int) : Option ((Option Int) × T_Round) := (t_Round_party self).bind fun v1 => ((if (v1.1.isNone) = true then some (true, v1.2) else (t_is_integer party).bind fun v2 => (if (!v2) = true then some (true, v1.2) else (t_Round_party v1.2).bind fun v3 => some ((!decide (some party = v3.1)), v3.2)))).bind fun v4 => let c_ := v4.1; let self_n := v4.2; let self := self_n; if c_ = true then none else (t_is_number branch).bind fun v5 => ((if (!v5) = true then some (true, self) else (t_Round_cells self).bind fun v6 => some ((decide (((List.length v6.1 : Nat) : Int) ≤ branch)), v6.2))).bind fun v7 => let c_ := v7.1; let self_n := v7.2; let self := self_n; if c_ = true then none else (t_Round_go_on self branch true).bind fun v8 => let self := v8; (t_Round_outcome self).bind fun v9 => some (v9.1, v9.2)
theorem eq_Round_say : ∀ (self : T_Round) (party : Int) (branch : Int), Fn_Round_say [.own (e_Round self), .val (.int party), .val (.int branch)] = (t_Round_say self party branch).bind fun r => some (.ret (.val (eO D.int r.1)) [.own (e_Round r.2), .val (.int party), .val (.int branch)]) := fun self party branch => by
 show mkFn _ _ _ _ = _
 rw [mkFn_eq]
 dsimp? only [f_Round_say, t_Round_say, Nat.reduceSub, Nat.reduceAdd, rtn_bind, rtn_ite, rtn_none, rtn_nx, rtn_rtv, rtn_rto, rtn_k, post_n, post_v, post_o, l_cons, l_nil, r_succ, r_zero, a_cons, a_nil, tst_Round_say_2, tst_Round_say_4, st_Round_say_1, st_Round_say_2]
theorem tst_Round_wait_1 (self : T_Round) {γ : Type} {kx : Xn → List S → Option γ} {k : Bool → List S → Option γ} : cps (tCmp (eIs (eProp "Round" [true] Fn_Round_party (eVar 0)) (eC .non))) [.own (e_Round self)] kx k = (t_Round_party self).bind fun v1 => k (v1.1.isNone) [.own (e_Round v1.2)] := by
 simp? only [isObj_Round, eq_Round_party]
theorem st_Round_wait_1 (self : T_Round) : (sAugF ["Round"] "silences" (fun i => i + 1) (eVar 0)) [.own (e_Round self)] = some (.nx [.own (e_Round (⟨self.rows, self.patience, self.default, self.path, self.history, (self.silences + (1 : Int))⟩ : T_Round))]) := by
 simp? only [own_Round, mk_Round]
theorem tst_Round_wait_2 (self : T_Round) {γ : Type} {kx : Xn → List S → Option γ} {k : Bool → List S → Option γ} : cps (tCmp (eLt (eFld ["Round"] "silences" (eVar 0)) (eFld ["Round"] "patience" (eVar 0)))) [.own (e_Round self)] kx k = k (decide (self.silences < self.patience)) [.own (e_Round self)] := by
 simp? only [Tl.ob_some]
theorem st_Round_wait_2 (self : T_Round) : (sRtA [] (sRet (eC (.bl false)))) [.own (e_Round self)] = some (.rt (.val (.bl false)) [.own (e_Round self)]) := by
 simp? only [Tl.ob_some]
theorem st_Round_wait_3 (self : T_Round) : (sExpr (eMeth "Round" "go_on" [true, false, false] Fn_Round_go_on (eVar 0) (aCons (eB gMin2 (aCons (eB gInt (aCons (eFld ["Round"] "default" (eVar 0)) aNil)) (aCons (eSub (eB gLen (aCons (eProp "Round" [true] Fn_Round_cells (eVar 0)) aNil)) (eC (.int 1))) aNil))) (aCons (eC (.bl false)) aNil)))) [.own (e_Round self)] = (t_Round_cells self).bind fun v2 => (t_Round_go_on v2.2 (if (((List.length v2.1 : Nat) : Int) - (1 : Int)) < self.default then (((List.length v2.1 : Nat) : Int) - (1 : Int)) else self.default) false).bind fun v3 => some (.nx [.own (e_Round v3)]) := by
 simp? only [isObjM_Round_go_on, isObj_Round, eq_Round_cells, eq_Round_go_on]
theorem st_Round_wait_4 (self : T_Round) : (sRtA [] (sRet (eC (.bl true)))) [.own (e_Round self)] = some (.rt (.val (.bl true)) [.own (e_Round self)]) := by
 simp? only [Tl.ob_some]
def t_Round_wait (self : T_Round) : Option (Bool × T_Round) := (t_Round_party self).bind fun v1 => let c_ := (v1.1.isNone); let self_n := v1.2; let self := self_n; if c_ = true then none else let self := (⟨self.rows, self.patience, self.default, self.path, self.history, (self.silences + (1 : Int))⟩ : T_Round); if (decide (self.silences < self.patience)) = true then some (false, self) else (t_Round_cells self).bind fun v2 => (t_Round_go_on v2.2 (if (((List.length v2.1 : Nat) : Int) - (1 : Int)) < self.default then (((List.length v2.1 : Nat) : Int) - (1 : Int)) else self.default) false).bind fun v3 => let self := v3; some (true, self)
theorem eq_Round_wait : ∀ (self : T_Round), Fn_Round_wait [.own (e_Round self)] = (t_Round_wait self).bind fun r => some (.ret (.val (.bl r.1)) [.own (e_Round r.2)]) := fun self => by
 show mkFn _ _ _ _ = _
 rw [mkFn_eq]
 dsimp? only [f_Round_wait, t_Round_wait, Nat.reduceSub, Nat.reduceAdd, rtn_bind, rtn_ite, rtn_none, rtn_nx, rtn_rtv, rtn_rto, rtn_k, post_n, post_v, post_o, l_cons, l_nil, r_succ, r_zero, a_cons, a_nil, tst_Round_wait_1, st_Round_wait_1, tst_Round_wait_2, st_Round_wait_2, st_Round_wait_3, st_Round_wait_4]
def FnZmoved : Fn := mkFn 6 10 (fZmoved (FnZat 9) FnZdraw Fn_Round_say Fn_Round_wait FnZsame)
theorem stZmoved_1 {s0 s3 s4 s5 s7 s8 s9 : S} (rows : QT) (state : Ty0_) : (sSet 6 6 (eCall [false, false] (FnZat 9) (aCons (eVar 1) (aCons (eIx (eVar 2) (eC (.int 0))) aNil)))) [s0, .val (e_tree rows), .own (.lst [(.tup (mI state.1)), (.tup (List.map (fun (x : (Int × Int × Bool)) => (D.tup [(.int x.1), (.int x.2.1), (.bl x.2.2)])) state.2.1)), (.int state.2.2)]), s3, s4, s5, .no, s7, s8, s9] = ((tZat 9) rows state.1).bind fun v1 => some (.nx [s0, .val (e_tree rows), .own (.lst [(.tup (mI state.1)), (.tup (List.map (fun (x : (Int × Int × Bool)) => (D.tup [(.int x.1), (.int x.2.1), (.bl x.2.2)])) state.2.1)), (.int state.2.2)]), s3, s4, s5, .val (e_tree v1), s7, s8, s9]) := by
 simp? only [(eqZat 9)]
theorem stZmoved_2 {s0 s1 s2 s3 s4 s5 s8 s9 : S} (place : QT) : (sSet 6 7 (eSub (eB gLen (aCons (eIx (eVar 6) (eC (.int 2))) aNil)) (eC (.int 1)))) [s0, s1, s2, s3, s4, s5, .val (e_tree place), .no, s8, s9] = (QT.brs place).bind fun v2 => some (.nx [s0, s1, s2, s3, s4, s5, .val (e_tree place), .val (.int (((List.length v2 : Nat) : Int) - (1 : Int))), s8, s9]) := by
 simp? only [Tl.ob_some]
theorem tstZmoved_1 {s0 s1 s2 s3 s4 s6 s7 s8 s9 : S} (source : (List Int)) {γ : Type} {kx : Xn → List S → Option γ} {k : Bool → List S → Option γ} : cps (tCmp (eEq (eCall [true, false] FnZdraw (aCons (eVar 5) (aCons (eC (.int 5)) aNil))) (eC (.int 0)))) [s0, s1, s2, s3, s4, (oL source), s6, s7, s8, s9] kx k = (tZdraw source (5 : Int)).bind fun v3 => k (decide (v3.1 = (0 : Int))) [s0, s1, s2, s3, s4, (oL v3.2), s6, s7, s8, s9] := by
 simp? only [eqZdraw]
theorem stZmoved_3 {s0 s1 s2 s3 s4 s6 s8 : S} (source : (List Int)) (last : Int) : (sSet 6 9 (eCall [true, false] FnZdraw (aCons (eVar 5) (aCons (eAdd (eVar 7) (eC (.int 1))) aNil)))) [s0, s1, s2, s3, s4, (oL source), s6, (vI last), s8, .no] = (tZdraw source (last + (1 : Int))).bind fun v4 => some (.nx [s0, s1, s2, s3, s4, (oL v4.2), s6, (vI last), s8, (vI v4.1)]) := by
 simp? only [eqZdraw]
theorem stZmoved_4 {s1 s2 s3 s4 s5 s7 s8 : S} (game : T_Round) (place : QT) (branch : Int) : (sExpr (eMeth "Round" "say" [true, false, false] Fn_Round_say (eVar 0) (aCons (eIx (eVar 6) (eC (.int 1))) (aCons (eVar 9) aNil)))) [.own (e_Round game), s1, s2, s3, s4, s5, .val (e_tree place), s7, s8, (vI branch)] = (t_Round_say game (QT.num place) branch).bind fun v5 => some (.nx [.own (e_Round v5.2), s1, s2, s3, s4, s5, .val (e_tree place), s7, s8, (vI branch)]) := by
 have q0 := eq_Round_say game (QT.num place) branch
 try simp? only [Tl.ob_some] at q0
 simp? only [isObjM_Round_say, q0]
theorem stZmoved_5 {s0 s1 s3 s4 s5 s7 s8 : S} (state : Ty0_) (place : QT) (branch : Int) : (sSetIx (eAdd (eIx (eVar 2) (eC (.int 1))) (eTup (aCons (eTup (aCons (eIx (eVar 6) (eC (.int 1))) (aCons (eVar 9) (aCons (eC (.bl true)) aNil)))) aNil))) (eVar 2) (eC (.int 1))) [s0, s1, .own (.lst [(.tup (mI state.1)), (.tup (List.map (fun (x : (Int × Int × Bool)) => (D.tup [(.int x.1), (.int x.2.1), (.bl x.2.2)])) state.2.1)), (.int state.2.2)]), s3, s4, s5, .val (e_tree place), s7, s8, (vI branch)] = (gz (List.length state.2.1 + List.length [((QT.num place), branch, true)])).bind fun _ => (boxT (state.1, (state.2.1 ++ [((QT.num place), branch, true)]), state.2.2)).bind fun v6 => some (.nx [s0, s1, .own (.lst [(.tup (mI v6.1)), (.tup (List.map (fun (x : (Int × Int × Bool)) => (D.tup [(.int x.1), (.int x.2.1), (.bl x.2.2)])) v6.2.1)), (.int v6.2.2)]), s3, s4, s5, .val (e_tree place), s7, s8, (vI branch)]) := by
 simp? only [boxT, lps_1, lps_2, lps_3, lps_4, lpx_2, lpx_3, lpx_4, lpx_5, lpx_6, lpl_2, lpl_3]
theorem stZmoved_6 {s0 s1 s3 s4 s5 s6 s7 s8 : S} (state : Ty0_) (branch : Int) : (sSetIx (eAdd (eIx (eVar 2) (eC (.int 0))) (eTup (aCons (eVar 9) aNil))) (eVar 2) (eC (.int 0))) [s0, s1, .own (.lst [(.tup (mI state.1)), (.tup (List.map (fun (x : (Int × Int × Bool)) => (D.tup [(.int x.1), (.int x.2.1), (.bl x.2.2)])) state.2.1)), (.int state.2.2)]), s3, s4, s5, s6, s7, s8, (vI branch)] = (gz (List.length state.1 + List.length [branch])).bind fun _ => (boxT ((state.1 ++ [branch]), state.2.1, state.2.2)).bind fun v7 => some (.nx [s0, s1, .own (.lst [(.tup (mI v7.1)), (.tup (List.map (fun (x : (Int × Int × Bool)) => (D.tup [(.int x.1), (.int x.2.1), (.bl x.2.2)])) v7.2.1)), (.int v7.2.2)]), s3, s4, s5, s6, s7, s8, (vI branch)]) := by
 simp? only [boxT, lps_1, lps_2, lps_3, lps_4, lpx_2, lpx_3, lpx_4, lpx_5, lpx_6, lpl_2, lpl_3]
theorem stZmoved_7 {s0 s1 s3 s4 s5 s6 s7 s8 s9 : S} (state : Ty0_) : (sSetIx (eC (.int 0)) (eVar 2) (eC (.int 2))) [s0, s1, .own (.lst [(.tup (mI state.1)), (.tup (List.map (fun (x : (Int × Int × Bool)) => (D.tup [(.int x.1), (.int x.2.1), (.bl x.2.2)])) state.2.1)), (.int state.2.2)]), s3, s4, s5, s6, s7, s8, s9] = (boxT (state.1, state.2.1, (0 : Int))).bind fun v8 => some (.nx [s0, s1, .own (.lst [(.tup (mI v8.1)), (.tup (List.map (fun (x : (Int × Int × Bool)) => (D.tup [(.int x.1), (.int x.2.1), (.bl x.2.2)])) v8.2.1)), (.int v8.2.2)]), s3, s4, s5, s6, s7, s8, s9]) := by
 simp? only [boxT, lps_1, lps_2, lps_3, lps_4, lpx_2, lpx_3, lpx_4, lpx_5, lpx_6, lpl_2, lpl_3]
theorem stZmoved_8 {s1 s3 s4 s6 s7 s8 s9 : S} (game : T_Round) (state : Ty0_) (source : (List Int)) : (sRtA [1, 3, 4, 6, 7, 8, 9] (sRet (eC (.bl true)))) [.own (e_Round game), s1, .own (.lst [(.tup (mI state.1)), (.tup (List.map (fun (x : (Int × Int × Bool)) => (D.tup [(.int x.1), (.int x.2.1), (.bl x.2.2)])) state.2.1)), (.int state.2.2)]), s3, s4, (oL source), s6, s7, s8, s9] = some (.rt (.val (.bl true)) [.own (e_Round game), .no, .own (.lst [(.tup (mI state.1)), (.tup (List.map (fun (x : (Int × Int × Bool)) => (D.tup [(.int x.1), (.int x.2.1), (.bl x.2.2)])) state.2.1)), (.int state.2.2)]), .no, .no, (oL source), .no, .no, .no, .no]) := by
 simp? only [Tl.ob_some]
theorem stZmoved_9 {s1 s2 s3 s4 s5 s6 s7 s9 : S} (game : T_Round) : (sSet 6 8 (eMeth "Round" "wait" [true] Fn_Round_wait (eVar 0) aNil)) [.own (e_Round game), s1, s2, s3, s4, s5, s6, s7, .no, s9] = (t_Round_wait game).bind fun v9 => some (.nx [.own (e_Round v9.2), s1, s2, s3, s4, s5, s6, s7, .val (.bl v9.1), s9]) := by
 simp? only [isObjM_Round_wait, eq_Round_wait]
theorem stZmoved_10 {s0 s1 s3 s4 s5 s6 s7 s8 s9 : S} (state : Ty0_) : (sSetIx (eAdd (eIx (eVar 2) (eC (.int 2))) (eC (.int 1))) (eVar 2) (eC (.int 2))) [s0, s1, .own (.lst [(.tup (mI state.1)), (.tup (List.map (fun (x : (Int × Int × Bool)) => (D.tup [(.int x.1), (.int x.2.1), (.bl x.2.2)])) state.2.1)), (.int state.2.2)]), s3, s4, s5, s6, s7, s8, s9] = (boxT (state.1, state.2.1, (state.2.2 + (1 : Int)))).bind fun v10 => some (.nx [s0, s1, .own (.lst [(.tup (mI v10.1)), (.tup (List.map (fun (x : (Int × Int × Bool)) => (D.tup [(.int x.1), (.int x.2.1), (.bl x.2.2)])) v10.2.1)), (.int v10.2.2)]), s3, s4, s5, s6, s7, s8, s9]) := by
 simp? only [boxT, lps_1, lps_2, lps_3, lps_4, lpx_2, lpx_3, lpx_4, lpx_5, lpx_6, lpl_2, lpl_3]
theorem tstZmoved_2 {s0 s1 s4 s5 s6 s7 s8 s9 : S} (state : Ty0_) (bound : Int) {γ : Type} {kx : Xn → List S → Option γ} {k : Bool → List S → Option γ} : cps (tCmp (eLt (eIx (eVar 2) (eC (.int 2))) (eVar 3))) [s0, s1, .own (.lst [(.tup (mI state.1)), (.tup (List.map (fun (x : (Int × Int × Bool)) => (D.tup [(.int x.1), (.int x.2.1), (.bl x.2.2)])) state.2.1)), (.int state.2.2)]), (vI bound), s4, s5, s6, s7, s8, s9] kx k = k (decide (state.2.2 < bound)) [s0, s1, .own (.lst [(.tup (mI state.1)), (.tup (List.map (fun (x : (Int × Int × Bool)) => (D.tup [(.int x.1), (.int x.2.1), (.bl x.2.2)])) state.2.1)), (.int state.2.2)]), (vI bound), s4, s5, s6, s7, s8, s9] := by
 simp? only [Tl.ob_some]
theorem stZmoved_11 {s1 s3 s4 s6 s7 s9 : S} (game : T_Round) (state : Ty0_) (source : (List Int)) (told : Bool) : (sRtA [1, 3, 4, 6, 7, 8, 9] (sRet (eCall [false, false] FnZsame (aCons (eVar 8) (aCons (eC (.bl false)) aNil))))) [.own (e_Round game), s1, .own (.lst [(.tup (mI state.1)), (.tup (List.map (fun (x : (Int × Int × Bool)) => (D.tup [(.int x.1), (.int x.2.1), (.bl x.2.2)])) state.2.1)), (.int state.2.2)]), s3, s4, (oL source), s6, s7, .val (.bl told), s9] = (tZsame (D.bl told) (D.bl false)).bind fun v11 => some (.rt (.val (.bl v11)) [.own (e_Round game), .no, .own (.lst [(.tup (mI state.1)), (.tup (List.map (fun (x : (Int × Int × Bool)) => (D.tup [(.int x.1), (.int x.2.1), (.bl x.2.2)])) state.2.1)), (.int state.2.2)]), .no, .no, (oL source), .no, .no, .no, .no]) := by
 have q0 := eqZsame (D.bl told) (D.bl false)
 try simp? only [Tl.ob_some] at q0
 simp? only [q0]
theorem stZmoved_12 {s0 s1 s2 s3 s5 s6 s8 : S} (first : Int) (last : Int) : (sSet 6 9 (eB gMin2 (aCons (eB gInt (aCons (eVar 4) aNil)) (aCons (eVar 7) aNil)))) [s0, s1, s2, s3, (vI first), s5, s6, (vI last), s8, .no] = some (.nx [s0, s1, s2, s3, (vI first), s5, s6, (vI last), s8, .val (.int (if last < first then last else first))]) := by
 simp? only [Tl.ob_some]
theorem stZmoved_13 {s0 s1 s3 s4 s5 s7 s8 : S} (state : Ty0_) (place : QT) (branch : Int) : (sSetIx (eAdd (eIx (eVar 2) (eC (.int 1))) (eTup (aCons (eTup (aCons (eIx (eVar 6) (eC (.int 1))) (aCons (eVar 9) (aCons (eC (.bl false)) aNil)))) aNil))) (eVar 2) (eC (.int 1))) [s0, s1, .own (.lst [(.tup (mI state.1)), (.tup (List.map (fun (x : (Int × Int × Bool)) => (D.tup [(.int x.1), (.int x.2.1), (.bl x.2.2)])) state.2.1)), (.int state.2.2)]), s3, s4, s5, .val (e_tree place), s7, s8, (vI branch)] = (gz (List.length state.2.1 + List.length [((QT.num place), branch, false)])).bind fun _ => (boxT (state.1, (state.2.1 ++ [((QT.num place), branch, false)]), state.2.2)).bind fun v12 => some (.nx [s0, s1, .own (.lst [(.tup (mI v12.1)), (.tup (List.map (fun (x : (Int × Int × Bool)) => (D.tup [(.int x.1), (.int x.2.1), (.bl x.2.2)])) v12.2.1)), (.int v12.2.2)]), s3, s4, s5, .val (e_tree place), s7, s8, (vI branch)]) := by
 simp? only [boxT, lps_1, lps_2, lps_3, lps_4, lpx_2, lpx_3, lpx_4, lpx_5, lpx_6, lpl_2, lpl_3]
theorem stZmoved_14 {s0 s1 s3 s4 s5 s6 s7 s8 : S} (state : Ty0_) (branch : Int) : (sSetIx (eAdd (eIx (eVar 2) (eC (.int 0))) (eTup (aCons (eVar 9) aNil))) (eVar 2) (eC (.int 0))) [s0, s1, .own (.lst [(.tup (mI state.1)), (.tup (List.map (fun (x : (Int × Int × Bool)) => (D.tup [(.int x.1), (.int x.2.1), (.bl x.2.2)])) state.2.1)), (.int state.2.2)]), s3, s4, s5, s6, s7, s8, (vI branch)] = (gz (List.length state.1 + List.length [branch])).bind fun _ => (boxT ((state.1 ++ [branch]), state.2.1, state.2.2)).bind fun v13 => some (.nx [s0, s1, .own (.lst [(.tup (mI v13.1)), (.tup (List.map (fun (x : (Int × Int × Bool)) => (D.tup [(.int x.1), (.int x.2.1), (.bl x.2.2)])) v13.2.1)), (.int v13.2.2)]), s3, s4, s5, s6, s7, s8, (vI branch)]) := by
 simp? only [boxT, lps_1, lps_2, lps_3, lps_4, lpx_2, lpx_3, lpx_4, lpx_5, lpx_6, lpl_2, lpl_3]
theorem stZmoved_15 {s0 s1 s3 s4 s5 s6 s7 s8 s9 : S} (state : Ty0_) : (sSetIx (eC (.int 0)) (eVar 2) (eC (.int 2))) [s0, s1, .own (.lst [(.tup (mI state.1)), (.tup (List.map (fun (x : (Int × Int × Bool)) => (D.tup [(.int x.1), (.int x.2.1), (.bl x.2.2)])) state.2.1)), (.int state.2.2)]), s3, s4, s5, s6, s7, s8, s9] = (boxT (state.1, state.2.1, (0 : Int))).bind fun v14 => some (.nx [s0, s1, .own (.lst [(.tup (mI v14.1)), (.tup (List.map (fun (x : (Int × Int × Bool)) => (D.tup [(.int x.1), (.int x.2.1), (.bl x.2.2)])) v14.2.1)), (.int v14.2.2)]), s3, s4, s5, s6, s7, s8, s9]) := by
 simp? only [boxT, lps_1, lps_2, lps_3, lps_4, lpx_2, lpx_3, lpx_4, lpx_5, lpx_6, lpl_2, lpl_3]
theorem stZmoved_16 {s1 s3 s4 s6 s7 s9 : S} (game : T_Round) (state : Ty0_) (source : (List Int)) (told : Bool) : (sRtA [1, 3, 4, 6, 7, 8, 9] (sRet (eCall [false, false] FnZsame (aCons (eVar 8) (aCons (eC (.bl true)) aNil))))) [.own (e_Round game), s1, .own (.lst [(.tup (mI state.1)), (.tup (List.map (fun (x : (Int × Int × Bool)) => (D.tup [(.int x.1), (.int x.2.1), (.bl x.2.2)])) state.2.1)), (.int state.2.2)]), s3, s4, (oL source), s6, s7, .val (.bl told), s9] = (tZsame (D.bl told) (D.bl true)).bind fun v15 => some (.rt (.val (.bl v15)) [.own (e_Round game), .no, .own (.lst [(.tup (mI state.1)), (.tup (List.map (fun (x : (Int × Int × Bool)) => (D.tup [(.int x.1), (.int x.2.1), (.bl x.2.2)])) state.2.1)), (.int state.2.2)]), .no, .no, (oL source), .no, .no, .no, .no]) := by
 have q0 := eqZsame (D.bl told) (D.bl true)
 try simp? only [Tl.ob_some] at q0
 simp? only [q0]
def tZmoved (game : T_Round) (rows : QT) (state : Ty0_) (bound : Int) (first : Int) (source : (List Int)) : Option (Bool × T_Round × Ty0_ × (List Int)) := ((tZat 9) rows state.1).bind fun v1 => let place := v1; (QT.brs place).bind fun v2 => let last := (((List.length v2 : Nat) : Int) - (1 : Int)); (tZdraw source (5 : Int)).bind fun v3 => let c_ := (decide (v3.1 = (0 : Int))); let source_n := v3.2; let source := source_n; if c_ = true then (tZdraw source (last + (1 : Int))).bind fun v4 => let source_n := v4.2; let branch_n := v4.1; let source := source_n; let branch := branch_n; (t_Round_say game (QT.num place) branch).bind fun v5 => let game := v5.2; (gz (List.length state.2.1 + List.length [((QT.num place), branch, true)])).bind fun _ => (boxT (state.1, (state.2.1 ++ [((QT.num place), branch, true)]), state.2.2)).bind fun v6 => let state := v6; (gz (List.length state.1 + List.length [branch])).bind fun _ => (boxT ((state.1 ++ [branch]), state.2.1, state.2.2)).bind fun v7 => let state := v7; (boxT (state.1, state.2.1, (0 : Int))).bind fun v8 => let state := v8; some (true, game, state, source) else (t_Round_wait game).bind fun v9 => let game_n := v9.2; let told_n := v9.1; let game := game_n; let told := told_n; (boxT (state.1, state.2.1, (state.2.2 + (1 : Int)))).bind fun v10 => let state := v10; if (decide (state.2.2 < bound)) = true then (tZsame (D.bl told) (D.bl false)).bind fun v11 => some (v11, game, state, source) else let branch := (if last < first then last else first); (gz (List.length state.2.1 + List.length [((QT.num place), branch, false)])).bind fun _ => (boxT (state.1, (state.2.1 ++ [((QT.num place), branch, false)]), state.2.2)).bind fun v12 => let state := v12; (gz (List.length state.1 + List.length [branch])).bind fun _ => (boxT ((state.1 ++ [branch]), state.2.1, state.2.2)).bind fun v13 => let state := v13; (boxT (state.1, state.2.1, (0 : Int))).bind fun v14 => let state := v14; (tZsame (D.bl told) (D.bl true)).bind fun v15 => some (v15, game, state, source)
theorem eqZmoved : ∀ (game : T_Round) (rows : QT) (state : Ty0_) (bound : Int) (first : Int) (source : (List Int)), FnZmoved [.own (e_Round game), .val (e_tree rows), .own (.lst [(.tup (List.map D.int state.1)), (.tup (List.map (fun (x : (Int × Int × Bool)) => (D.tup [(.int x.1), (.int x.2.1), (.bl x.2.2)])) state.2.1)), (.int state.2.2)]), .val (.int bound), .val (.int first), .own (.lst (List.map D.int source))] = (tZmoved game rows state bound first source).bind fun r => some (.ret (.val (.bl r.1)) [.own (e_Round r.2.1), .val (e_tree rows), .own (.lst [(.tup (List.map D.int r.2.2.1.1)), (.tup (List.map (fun (x : (Int × Int × Bool)) => (D.tup [(.int x.1), (.int x.2.1), (.bl x.2.2)])) r.2.2.1.2.1)), (.int r.2.2.1.2.2)]), .val (.int bound), .val (.int first), .own (.lst (List.map D.int r.2.2.2))]) := fun game rows state bound first source => by
 show mkFn _ _ _ _ = _
 rw [mkFn_eq]
 dsimp? only [fZmoved, tZmoved, Nat.reduceSub, Nat.reduceAdd, rtn_bind, rtn_ite, rtn_none, rtn_nx, rtn_rtv, rtn_rto, rtn_k, post_n, post_v, post_o, l_cons, l_nil, r_succ, r_zero, a_cons, a_nil, stZmoved_1, stZmoved_2, tstZmoved_1, stZmoved_3, stZmoved_4, stZmoved_5, stZmoved_6, stZmoved_7, stZmoved_8, stZmoved_9, stZmoved_10, tstZmoved_2, stZmoved_11, stZmoved_12, stZmoved_13, stZmoved_14, stZmoved_15, stZmoved_16]
def Fn_law : Fn := mkFn 1 11 (f_law FnZcell FnZsource FnZany_tree FnZdraw Fn_Tree_DinitD FnZsame FnZstarted FnZshows (FnZat 9) FnZmoved)
theorem st_law_1 {s2 s3 s4 s5 s6 s7 s8 s9 s10 : S} (script : (List Int)) : (sSet 1 1 (eCall [false] FnZsource (aCons (eCall [false, false] FnZcell (aCons (eVar 0) (aCons (eC (.int 0)) aNil))) aNil))) [.val (.scr script), .no, s2, s3, s4, s5, s6, s7, s8, s9, s10] = (tZcell script (0 : Int)).bind fun v1 => (tZsource v1).bind fun v2 => some (.nx [.val (.scr script), (oL v2), s2, s3, s4, s5, s6, s7, s8, s9, s10]) := by
 simp? only [eqZcell, eqZsource]
theorem st_law_2 {s3 s4 s5 s6 s7 s8 s9 s10 : S} (script : (List Int)) (shape : (List Int)) : (sSet 1 2 (eCall [true, false, false] FnZany_tree (aCons (eVar 1) (aCons (eCall [false, false] FnZcell (aCons (eVar 0) (aCons (eC (.int 1)) aNil))) (aCons (eC (.int 24)) aNil))))) [.val (.scr script), (oL shape), .no, s3, s4, s5, s6, s7, s8, s9, s10] = (tZcell script (1 : Int)).bind fun v3 => (tZany_tree shape v3 (24 : Int)).bind fun v4 => some (.nx [.val (.scr script), (oL v4.2), .val (e_tree v4.1), s3, s4, s5, s6, s7, s8, s9, s10]) := by
 simp? only [eqZcell, eqZany_tree]
theorem st_law_3 {s1 s2 s4 s5 s6 s7 s8 s9 s10 : S} (script : (List Int)) : (sSet 1 3 (eCall [false] FnZsource (aCons (eCall [false, false] FnZcell (aCons (eVar 0) (aCons (eC (.int 2)) aNil))) aNil))) [.val (.scr script), s1, s2, .no, s4, s5, s6, s7, s8, s9, s10] = (tZcell script (2 : Int)).bind fun v5 => (tZsource v5).bind fun v6 => some (.nx [.val (.scr script), s1, s2, (oL v6), s4, s5, s6, s7, s8, s9, s10]) := by
 simp? only [eqZcell, eqZsource]
theorem st_law_4 {s0 s2 s3 s5 s6 s7 s8 s9 s10 : S} (shape : (List Int)) : (sSet 1 4 (eIx (eLst (aCons (eC (.int 1)) (aCons (eC (.int 2)) (aCons (eC (.int 3)) (aCons (eC (.int 4)) (aCons (eC (.int 7)) (aCons (ePow (eC (.int 10)) (eC (.int 9))) aNil))))))) (eCall [true, false] FnZdraw (aCons (eVar 1) (aCons (eC (.int 6)) aNil))))) [s0, (oL shape), s2, s3, .no, s5, s6, s7, s8, s9, s10] = (tZdraw shape (6 : Int)).bind fun v7 => (atI [(1 : Int), (2 : Int), (3 : Int), (4 : Int), (7 : Int), (1000000000 : Int)] v7.1).bind fun v8 => some (.nx [s0, (oL v7.2), s2, s3, (vI v8), s5, s6, s7, s8, s9, s10]) := by
 have lf : ∀ (a0 a1 a2 a3 a4 a5 : Int) (i : Int), atI [(D.int a0), (D.int a1), (D.int a2), (D.int a3), (D.int a4), (D.int a5)] i = (atI [a0, a1, a2, a3, a4, a5] i).bind fun a => some (D.int a) := fun a0 a1 a2 a3 a4 a5 i => atI_map' D.int [a0, a1, a2, a3, a4, a5] i
 simp? only [(by decide +kernel : powOk 10 9 = true), (by decide +kernel : ((10 : Int) ^ Int.toNat 9) = 1000000000), eqZdraw, lf]
theorem st_law_5 {s0 s2 s3 s4 s6 s7 s8 s9 s10 : S} (shape : (List Int)) : (sSet 1 5 (eIx (eLst (aCons (eC (.int 0)) (aCons (eC (.int 1)) (aCons (eC (.int 2)) (aCons (eC (.int 3)) (aCons (eC (.int 4)) (aCons (ePow (eC (.int 10)) (eC (.int 9))) aNil))))))) (eCall [true, false] FnZdraw (aCons (eVar 1) (aCons (eC (.int 6)) aNil))))) [s0, (oL shape), s2, s3, s4, .no, s6, s7, s8, s9, s10] = (tZdraw shape (6 : Int)).bind fun v9 => (atI [(0 : Int), (1 : Int), (2 : Int), (3 : Int), (4 : Int), (1000000000 : Int)] v9.1).bind fun v10 => some (.nx [s0, (oL v9.2), s2, s3, s4, (vI v10), s6, s7, s8, s9, s10]) := by
 have lf : ∀ (a0 a1 a2 a3 a4 a5 : Int) (i : Int), atI [(D.int a0), (D.int a1), (D.int a2), (D.int a3), (D.int a4), (D.int a5)] i = (atI [a0, a1, a2, a3, a4, a5] i).bind fun a => some (D.int a) := fun a0 a1 a2 a3 a4 a5 i => atI_map' D.int [a0, a1, a2, a3, a4, a5] i
 simp? only [(by decide +kernel : powOk 10 9 = true), (by decide +kernel : ((10 : Int) ^ Int.toNat 9) = 1000000000), eqZdraw, lf]
theorem st_law_6 {s0 s2 s3 s4 s5 s7 s8 s9 s10 : S} (shape : (List Int)) : (sSet 1 6 (eCall [true, false] FnZdraw (aCons (eVar 1) (aCons (eC (.int 4)) aNil)))) [s0, (oL shape), s2, s3, s4, s5, .no, s7, s8, s9, s10] = (tZdraw shape (4 : Int)).bind fun v11 => some (.nx [s0, (oL v11.2), s2, s3, s4, s5, (vI v11.1), s7, s8, s9, s10]) := by
 simp? only [eqZdraw]
theorem st_law_7 {s0 s1 s3 s4 s5 s6 s8 s9 s10 : S} (rows : QT) : (sFz 7 (sSet 1 7 (eMake "Tree" [false] Fn_Tree_DinitD (aCons (eVar 2) aNil)))) [s0, s1, .val (e_tree rows), s3, s4, s5, s6, .no, s8, s9, s10] = (t_Tree_DinitD rows).bind fun v12 => some (.nx [s0, s1, .val (e_tree rows), s3, s4, s5, s6, .val (e_Tree v12), s8, s9, s10]) := by
 simp? only [eq_Tree_DinitD]
theorem tst_law_1 {s0 s1 s2 s3 s4 s5 s6 s7 s8 s9 s10 : S}  {γ : Type} {kx : Xn → List S → Option γ} {k : Bool → List S → Option γ} : cps (tNot (tVal (eCall [false, false] FnZsame (aCons (eTup (aCons (eC (.int 3)) (aCons (eC (.int 0)) aNil))) (aCons (eTup (aCons (eC (.int 3)) (aCons (eC (.int 0)) aNil))) aNil))))) [s0, s1, s2, s3, s4, s5, s6, s7, s8, s9, s10] kx k = (tZsame (D.tup [(.int ((3 : Int), (0 : Int)).1), (.int ((3 : Int), (0 : Int)).2)]) (D.tup [(.int ((3 : Int), (0 : Int)).1), (.int ((3 : Int), (0 : Int)).2)])).bind fun v13 => k (!v13) [s0, s1, s2, s3, s4, s5, s6, s7, s8, s9, s10] := by
 have q0 := eqZsame (D.tup [(.int ((3 : Int), (0 : Int)).1), (.int ((3 : Int), (0 : Int)).2)]) (D.tup [(.int ((3 : Int), (0 : Int)).1), (.int ((3 : Int), (0 : Int)).2)])
 try simp? only [Tl.ob_some] at q0
 simp? only [q0]
theorem st_law_8 {s0 s1 s2 s3 s4 s5 s6 s7 s8 s9 s10 : S}  : (sRtA [0, 1, 2, 3, 4, 5, 6, 7, 8, 9, 10] (sRet (eC (.bl false)))) [s0, s1, s2, s3, s4, s5, s6, s7, s8, s9, s10] = some (.rt (.val (.bl false)) [.no, .no, .no, .no, .no, .no, .no, .no, .no, .no, .no]) := by
 simp? only [Tl.ob_some]
theorem st_law_9 {s0 s1 s2 s3 s9 s10 : S} (bound : Int) (first : Int) (way : Int) (tree : T_Tree) : (sSet 1 8 (eCall [false, false, false, false] FnZstarted (aCons (eVar 7) (aCons (eVar 6) (aCons (eVar 4) (aCons (eVar 5) aNil)))))) [s0, s1, s2, s3, (vI bound), (vI first), (vI way), .val (e_Tree tree), .no, s9, s10] = (tZstarted tree way bound first).bind fun v14 => some (.nx [s0, s1, s2, s3, (vI bound), (vI first), (vI way), .val (e_Tree tree), .own (e_Round v14), s9, s10]) := by
 simp? only [eqZstarted]
theorem tst_law_2 {s0 s1 s2 s3 s4 s5 s7 s8 s9 s10 : S} (way : Int) {γ : Type} {kx : Xn → List S → Option γ} {k : Bool → List S → Option γ} : cps t_law_1 [s0, s1, s2, s3, s4, s5, (vI way), s7, s8, s9, s10] kx k = k (((decide (way = (0 : Int))) || (decide (way = (2 : Int))))) [s0, s1, s2, s3, s4, s5, (vI way), s7, s8, s9, s10] := by
 have ka : ∀ (a b : Bool) (ρ : List S), (if a = true then k b ρ else k false ρ) = k (a && b) ρ := fun a b ρ => by cases a <;> rfl
 have ko : ∀ (a b : Bool) (ρ : List S), (if a = true then k true ρ else k b ρ) = k (a || b) ρ := fun a b ρ => by cases a <;> rfl
 simp? only [t_law_1, ka, ko]
theorem tst_law_3 {s0 s1 s2 s3 s4 s5 s7 s8 s9 s10 : S} (way : Int) {γ : Type} {kx : Xn → List S → Option γ} {k : Bool → List S → Option γ} : cps t_law_1 [s0, s1, s2, s3, s4, s5, (vI way), s7, s8, s9, s10] kx k = k ((decide (way = (0 : Int))) || (decide (way = (2 : Int)))) [s0, s1, s2, s3, s4, s5, (vI way), s7, s8, s9, s10] := by
 simp? only [tst_law_2]
theorem st_law_10 {s0 s1 s2 s3 s5 s6 s7 s8 s9 s10 : S} (bound : Int) : (sSet 1 4 (eC (.int 3))) [s0, s1, s2, s3, (vI bound), s5, s6, s7, s8, s9, s10] = some (.nx [s0, s1, s2, s3, .val (.int (3 : Int)), s5, s6, s7, s8, s9, s10]) := by
 simp? only [Tl.ob_some]
theorem il_law_1 {s0 s1 s2 s3 s5 s7 s8 s9 s10 : S} (bound : Int) (way : Int) : i_law_1 [s0, s1, s2, s3, (vI bound), s5, (vI way), s7, s8, s9, s10] = (if ((decide (way = (0 : Int))) || (decide (way = (2 : Int)))) = true then let bound := (3 : Int); some (bound) else some (bound)).bind fun v15 => some (.nx [s0, s1, s2, s3, (vI v15), s5, (vI way), s7, s8, s9, s10]) := by
 dsimp? only [i_law_1, tst_law_3, st_law_10]
theorem tst_law_4 {s0 s1 s2 s3 s4 s5 s7 s8 s9 s10 : S} (way : Int) {γ : Type} {kx : Xn → List S → Option γ} {k : Bool → List S → Option γ} : cps t_law_2 [s0, s1, s2, s3, s4, s5, (vI way), s7, s8, s9, s10] kx k = k (((decide (way = (0 : Int))) || (decide (way = (1 : Int))))) [s0, s1, s2, s3, s4, s5, (vI way), s7, s8, s9, s10] := by
 have ka : ∀ (a b : Bool) (ρ : List S), (if a = true then k b ρ else k false ρ) = k (a && b) ρ := fun a b ρ => by cases a <;> rfl
 have ko : ∀ (a b : Bool) (ρ : List S), (if a = true then k true ρ else k b ρ) = k (a || b) ρ := fun a b ρ => by cases a <;> rfl
 simp? only [t_law_2, ka, ko]
theorem tst_law_5 {s0 s1 s2 s3 s4 s5 s7 s8 s9 s10 : S} (way : Int) {γ : Type} {kx : Xn → List S → Option γ} {k : Bool → List S → Option γ} : cps t_law_2 [s0, s1, s2, s3, s4, s5, (vI way), s7, s8, s9, s10] kx k = k ((decide (way = (0 : Int))) || (decide (way = (1 : Int)))) [s0, s1, s2, s3, s4, s5, (vI way), s7, s8, s9, s10] := by
 simp? only [tst_law_4]
theorem st_law_11 {s0 s1 s2 s3 s4 s6 s7 s8 s9 s10 : S} (first : Int) : (sSet 1 5 (eC (.int 0))) [s0, s1, s2, s3, s4, (vI first), s6, s7, s8, s9, s10] = some (.nx [s0, s1, s2, s3, s4, .val (.int (0 : Int)), s6, s7, s8, s9, s10]) := by
 simp? only [Tl.ob_some]
theorem il_law_2 {s0 s1 s2 s3 s4 s7 s8 s9 s10 : S} (first : Int) (way : Int) : i_law_2 [s0, s1, s2, s3, s4, (vI first), (vI way), s7, s8, s9, s10] = (if ((decide (way = (0 : Int))) || (decide (way = (1 : Int)))) = true then let first := (0 : Int); some (first) else some (first)).bind fun v16 => some (.nx [s0, s1, s2, s3, s4, (vI v16), (vI way), s7, s8, s9, s10]) := by
 dsimp? only [i_law_2, tst_law_5, st_law_11]
theorem st_law_12 {s0 s1 s2 s3 s4 s5 s6 s7 s8 s10 : S}  : (sSet 1 9 (eLst (aCons (eTup aNil) (aCons (eTup aNil) (aCons (eC (.int 0)) aNil))))) [s0, s1, s2, s3, s4, s5, s6, s7, s8, .no, s10] = (boxT (([] : List Int), ([] : List (Int × Int × Bool)), (0 : Int))).bind fun v17 => some (.nx [s0, s1, s2, s3, s4, s5, s6, s7, s8, .own (.lst [(.tup (mI v17.1)), (.tup (List.map (fun (x : (Int × Int × Bool)) => (D.tup [(.int x.1), (.int x.2.1), (.bl x.2.2)])) v17.2.1)), (.int v17.2.2)]), s10]) := by
 simp? only [boxT]
theorem tst_law_6 {s0 s1 s3 s4 s5 s6 s7 s10 : S} (rows : QT) (game : T_Round) (state : Ty0_) {γ : Type} {kx : Xn → List S → Option γ} {k : Bool → List S → Option γ} : cps (tNot (tVal (eCall [true, false, false, false, false] FnZshows (aCons (eVar 8) (aCons (eVar 2) (aCons (eIx (eVar 9) (eC (.int 0))) (aCons (eIx (eVar 9) (eC (.int 1))) (aCons (eIx (eVar 9) (eC (.int 2))) aNil)))))))) [s0, s1, .val (e_tree rows), s3, s4, s5, s6, s7, .own (e_Round game), .own (.lst [(.tup (mI state.1)), (.tup (List.map (fun (x : (Int × Int × Bool)) => (D.tup [(.int x.1), (.int x.2.1), (.bl x.2.2)])) state.2.1)), (.int state.2.2)]), s10] kx k = (tZshows game rows state.1 state.2.1 state.2.2).bind fun v19 => k (!v19.1) [s0, s1, .val (e_tree rows), s3, s4, s5, s6, s7, .own (e_Round v19.2), .own (.lst [(.tup (mI state.1)), (.tup (List.map (fun (x : (Int × Int × Bool)) => (D.tup [(.int x.1), (.int x.2.1), (.bl x.2.2)])) state.2.1)), (.int state.2.2)]), s10] := by
 simp? only [eqZshows]
theorem st_law_13 {s0 s1 s2 s3 s4 s5 s6 s7 s8 s9 s10 : S}  : (sRtA [0, 1, 2, 3, 4, 5, 6, 7, 8, 9, 10] (sRet (eC (.bl false)))) [s0, s1, s2, s3, s4, s5, s6, s7, s8, s9, s10] = some (.rt (.val (.bl false)) [.no, .no, .no, .no, .no, .no, .no, .no, .no, .no, .no]) := by
 simp? only [Tl.ob_some]
theorem tst_law_7 {s0 s1 s3 s4 s5 s6 s7 s8 s10 : S} (rows : QT) (state : Ty0_) {γ : Type} {kx : Xn → List S → Option γ} {k : Bool → List S → Option γ} : cps (tCmp (eEq (eIx (eCall [false, false] (FnZat 9) (aCons (eVar 2) (aCons (eIx (eVar 9) (eC (.int 0))) aNil))) (eC (.int 0))) (eC (.str "end")))) [s0, s1, .val (e_tree rows), s3, s4, s5, s6, s7, s8, .own (.lst [(.tup (mI state.1)), (.tup (List.map (fun (x : (Int × Int × Bool)) => (D.tup [(.int x.1), (.int x.2.1), (.bl x.2.2)])) state.2.1)), (.int state.2.2)]), s10] kx k = ((tZat 9) rows state.1).bind fun v20 => k (decide ((QT.tag v20) = ("end" : Str))) [s0, s1, .val (e_tree rows), s3, s4, s5, s6, s7, s8, .own (.lst [(.tup (mI state.1)), (.tup (List.map (fun (x : (Int × Int × Bool)) => (D.tup [(.int x.1), (.int x.2.1), (.bl x.2.2)])) state.2.1)), (.int state.2.2)]), s10] := by
 simp? only [(eqZat 9)]
theorem st_law_14 {s0 s1 s2 s3 s4 s5 s6 s7 s8 s9 s10 : S}  : (sRtA [0, 1, 2, 3, 4, 5, 6, 7, 8, 9, 10] (sRet (eC (.bl true)))) [s0, s1, s2, s3, s4, s5, s6, s7, s8, s9, s10] = some (.rt (.val (.bl true)) [.no, .no, .no, .no, .no, .no, .no, .no, .no, .no, .no]) := by
 simp? only [Tl.ob_some]
theorem tst_law_8 {s0 s1 s6 s7 s10 : S} (rows : QT) (source : (List Int)) (bound : Int) (first : Int) (game : T_Round) (state : Ty0_) {γ : Type} {kx : Xn → List S → Option γ} {k : Bool → List S → Option γ} : cps (tNot (tVal (eCall [true, false, true, false, false, true] FnZmoved (aCons (eVar 8) (aCons (eVar 2) (aCons (eVar 9) (aCons (eVar 4) (aCons (eVar 5) (aCons (eVar 3) aNil))))))))) [s0, s1, .val (e_tree rows), (oL source), (vI bound), (vI first), s6, s7, .own (e_Round game), .own (.lst [(.tup (mI state.1)), (.tup (List.map (fun (x : (Int × Int × Bool)) => (D.tup [(.int x.1), (.int x.2.1), (.bl x.2.2)])) state.2.1)), (.int state.2.2)]), s10] kx k = (tZmoved game rows state bound first source).bind fun v21 => k (!v21.1) [s0, s1, .val (e_tree rows), (oL v21.2.2.2), (vI bound), (vI first), s6, s7, .own (e_Round v21.2.1), .own (.lst [(.tup (mI v21.2.2.1.1)), (.tup (List.map (fun (x : (Int × Int × Bool)) => (D.tup [(.int x.1), (.int x.2.1), (.bl x.2.2)])) v21.2.2.1.2.1)), (.int v21.2.2.1.2.2)]), s10] := by
 simp? only [eqZmoved]
theorem st_law_15 {s0 s1 s2 s3 s4 s5 s6 s7 s8 s9 s10 : S}  : (sRtA [0, 1, 2, 3, 4, 5, 6, 7, 8, 9, 10] (sRet (eC (.bl false)))) [s0, s1, s2, s3, s4, s5, s6, s7, s8, s9, s10] = some (.rt (.val (.bl false)) [.no, .no, .no, .no, .no, .no, .no, .no, .no, .no, .no]) := by
 simp? only [Tl.ob_some]
def tb_law_1 (rows : QT) (bound : Int) (first : Int) (it : Int) (env : ((List Int) × T_Round × Ty0_)) : Option (Cf ((List Int) × T_Round × Ty0_) (Bool)) := let turn := it; let source := env.1; let game := env.2.1; let state := env.2.2; (tZshows game rows state.1 state.2.1 state.2.2).bind fun v19 => let c_ := (!v19.1); let game_n := v19.2; let game := game_n; if c_ = true then some (.rt false) else ((tZat 9) rows state.1).bind fun v20 => if (decide ((QT.tag v20) = ("end" : Str))) = true then some (.rt true) else (tZmoved game rows state bound first source).bind fun v21 => let c_ := (!v21.1); let source_n := v21.2.2.2; let game_n := v21.2.1; let state_n := v21.2.2.1; let source := source_n; let game := game_n; let state := state_n; if c_ = true then some (.rt false) else some (.nx (source, game, state))
theorem bl_law_1 {s0 s1 s6 s7 : S} (rows : QT) (bound : Int) (first : Int) (it : Int) (env : ((List Int) × T_Round × Ty0_)) : ((gN 10) (.int it) [s0, s1, .val (e_tree rows), (oL env.1), (vI bound), (vI first), s6, s7, .own (e_Round env.2.1), .own (.lst [(.tup (mI env.2.2.1)), (.tup (List.map (fun (x : (Int × Int × Bool)) => (D.tup [(.int x.1), (.int x.2.1), (.bl x.2.2)])) env.2.2.2.1)), (.int env.2.2.2.2)]), .no]).bind (b_law_1 FnZshows (FnZat 9) FnZmoved) = ((tb_law_1 rows bound first) it env).bind fun o => some (cfO (fun env => [s0, s1, .val (e_tree rows), (oL env.1), (vI bound), (vI first), s6, s7, .own (e_Round env.2.1), .own (.lst [(.tup (mI env.2.2.1)), (.tup (List.map (fun (x : (Int × Int × Bool)) => (D.tup [(.int x.1), (.int x.2.1), (.bl x.2.2)])) env.2.2.2.1)), (.int env.2.2.2.2)]), .no]) (fun r => (.val (.bl r))) (fun r => [.no, .no, .no, .no, .no, .no, .no, .no, .no, .no, .no]) o) := by
 dsimp? only [b_law_1, tb_law_1, gT_eq, gsN_eq, gsC_eq, l_cons, l_nil, tst_law_6, st_law_13, tst_law_7, st_law_14, tst_law_8, st_law_15]
theorem ll_law_1 {s0 s1 s6 s7 : S} (rows : QT) (source : (List Int)) (bound : Int) (first : Int) (game : T_Round) (state : Ty0_) : (l_law_1 FnZshows (FnZat 9) FnZmoved) [s0, s1, .val (e_tree rows), (oL source), (vI bound), (vI first), s6, s7, .own (e_Round game), .own (.lst [(.tup (mI state.1)), (.tup (List.map (fun (x : (Int × Int × Bool)) => (D.tup [(.int x.1), (.int x.2.1), (.bl x.2.2)])) state.2.1)), (.int state.2.2)]), .no] = (rngT (30 : Int)).bind fun v18 => (forT (tb_law_1 rows bound first) v18 (source, game, state)).bind fun o => some (lpO (fun env => [s0, s1, .val (e_tree rows), (oL env.1), (vI bound), (vI first), s6, s7, .own (e_Round env.2.1), .own (.lst [(.tup (mI env.2.2.1)), (.tup (List.map (fun (x : (Int × Int × Bool)) => (D.tup [(.int x.1), (.int x.2.1), (.bl x.2.2)])) env.2.2.2.1)), (.int env.2.2.2.2)]), .no]) (fun r => (.val (.bl r))) (fun r => [.no, .no, .no, .no, .no, .no, .no, .no, .no, .no, .no]) o) := by
 have hh := fun (rows : QT) (bound : Int) (first : Int) (xs : List Int) (env : ((List Int) × T_Round × Ty0_)) => forL_cf (e := D.int) (st := fun (env : ((List Int) × T_Round × Ty0_)) => [s0, s1, .val (e_tree rows), .own (.lst (List.map D.int env.1)), .val (.int bound), .val (.int first), s6, s7, .own (e_Round env.2.1), .own (.lst [(.tup (List.map D.int env.2.2.1)), (.tup (List.map (fun (x : (Int × Int × Bool)) => (D.tup [(.int x.1), (.int x.2.1), (.bl x.2.2)])) env.2.2.2.1)), (.int env.2.2.2.2)]), .no]) (rv := fun r => (.val (.bl r))) (rs := fun r => [.no, .no, .no, .no, .no, .no, .no, .no, .no, .no, .no]) (tg := (gN 10)) (body := (b_law_1 FnZshows (FnZat 9) FnZmoved)) (tb := (tb_law_1 rows bound first)) xs env (fun x _ env => bl_law_1 rows bound first x env)
 have hh := fun (rows : QT) (bound : Int) (first : Int) (source : (List Int)) (game : T_Round) (state : Ty0_) (xs : List Int) => hh rows bound first xs (source, game, state)
 simp? only [l_law_1, sFor_eq] at hh ⊢
 simp? only [hh]
theorem tst_law_9 {s0 s1 s3 s4 s5 s6 s10 : S} (rows : QT) (tree : T_Tree) (game : T_Round) (state : Ty0_) {γ : Type} {kx : Xn → List S → Option γ} {k : Rv → List S → Option γ} : cps (e_law_1 FnZshows FnZsame) [s0, s1, .val (e_tree rows), s3, s4, s5, s6, .val (e_Tree tree), .own (e_Round game), .own (.lst [(.tup (mI state.1)), (.tup (List.map (fun (x : (Int × Int × Bool)) => (D.tup [(.int x.1), (.int x.2.1), (.bl x.2.2)])) state.2.1)), (.int state.2.2)]), s10] kx k = (tZshows game rows state.1 state.2.1 state.2.2).bind fun v24 => ((if v24.1 = true then (tZsame (e_tree tree.rows) (e_tree rows)).bind fun v25 => some (v25, v24.2) else some (v24.1, v24.2))).bind fun v26 => k (.val (.bl (v26.1))) [s0, s1, .val (e_tree rows), s3, s4, s5, s6, .val (e_Tree tree), .own (e_Round v26.2), .own (.lst [(.tup (mI state.1)), (.tup (List.map (fun (x : (Int × Int × Bool)) => (D.tup [(.int x.1), (.int x.2.1), (.bl x.2.2)])) state.2.1)), (.int state.2.2)]), s10] := by
 have ka : ∀ (a b : Bool) (ρ : List S), (if a = true then k (.val (.bl b)) ρ else k (.val (.bl a)) ρ) = k (.val (.bl (a && b))) ρ := fun a b ρ => by cases a <;> rfl
 have ko : ∀ (a b : Bool) (ρ : List S), (if a = true then k (.val (.bl a)) ρ else k (.val (.bl b)) ρ) = k (.val (.bl (a || b))) ρ := fun a b ρ => by cases a <;> rfl
 have q0 := eqZsame (e_tree tree.rows) (e_tree rows)
 try simp? only [Tl.ob_some] at q0
 simp? only [e_law_1, eqZshows, q0]
theorem st_law_16 {s0 s1 s3 s4 s5 s6 s10 : S} (rows : QT) (tree : T_Tree) (game : T_Round) (state : Ty0_) : (sRtA [0, 1, 2, 3, 4, 5, 6, 7, 8, 9, 10] (sRet (e_law_1 FnZshows FnZsame))) [s0, s1, .val (e_tree rows), s3, s4, s5, s6, .val (e_Tree tree), .own (e_Round game), .own (.lst [(.tup (mI state.1)), (.tup (List.map (fun (x : (Int × Int × Bool)) => (D.tup [(.int x.1), (.int x.2.1), (.bl x.2.2)])) state.2.1)), (.int state.2.2)]), s10] = (tZshows game rows state.1 state.2.1 state.2.2).bind fun v24 => ((if v24.1 = true then (tZsame (e_tree tree.rows) (e_tree rows)).bind fun v25 => some (v25, v24.2) else some (v24.1, v24.2))).bind fun v26 => some (.rt (.val (.bl v26.1)) [.no, .no, .no, .no, .no, .no, .no, .no, .no, .no, .no]) := by
 simp? only [tst_law_9]
def t_law (script : (List Int)) : Option (Bool) := (tZcell script (0 : Int)).bind fun v1 => (tZsource v1).bind fun v2 => let shape := v2; (tZcell script (1 : Int)).bind fun v3 => (tZany_tree shape v3 (24 : Int)).bind fun v4 => let shape_n := v4.2; let rows_n := v4.1; let shape := shape_n; let rows := rows_n; (tZcell script (2 : Int)).bind fun v5 => (tZsource v5).bind fun v6 => let source := v6; (tZdraw shape (6 : Int)).bind fun v7 => (atI [(1 : Int), (2 : Int), (3 : Int), (4 : Int), (7 : Int), (1000000000 : Int)] v7.1).bind fun v8 => let shape_n := v7.2; let bound_n := v8; let shape := shape_n; let bound := bound_n; (tZdraw shape (6 : Int)).bind fun v9 => (atI [(0 : Int), (1 : Int), (2 : Int), (3 : Int), (4 : Int), (1000000000 : Int)] v9.1).bind fun v10 => let shape_n := v9.2; let first_n := v10; let shape := shape_n; let first := first_n; (tZdraw shape (4 : Int)).bind fun v11 => let shape_n := v11.2; let way_n := v11.1; let shape := shape_n; let way := way_n; (t_Tree_DinitD rows).bind fun v12 => let tree := v12; (tZsame (D.tup [(.int ((3 : Int), (0 : Int)).1), (.int ((3 : Int), (0 : Int)).2)]) (D.tup [(.int ((3 : Int), (0 : Int)).1), (.int ((3 : Int), (0 : Int)).2)])).bind fun v13 => if (!v13) = true then some false else (tZstarted tree way bound first).bind fun v14 => let game := v14; (if ((decide (way = (0 : Int))) || (decide (way = (2 : Int)))) = true then let bound := (3 : Int); some (bound) else some (bound)).bind fun v15 => let bound := v15; (if ((decide (way = (0 : Int))) || (decide (way = (1 : Int)))) = true then let first := (0 : Int); some (first) else some (first)).bind fun v16 => let first := v16; (boxT (([] : List Int), ([] : List (Int × Int × Bool)), (0 : Int))).bind fun v17 => let state := v17; (rngT (30 : Int)).bind fun v18 => (forT (tb_law_1 rows bound first) v18 (source, game, state)).bind fun v23 => v23.k (fun env => let source := env.1; let game := env.2.1; let state := env.2.2; (tZshows game rows state.1 state.2.1 state.2.2).bind fun v24 => ((if v24.1 = true then (tZsame (e_tree tree.rows) (e_tree rows)).bind fun v25 => some (v25, v24.2) else some (v24.1, v24.2))).bind fun v26 => some v26.1) (fun r => some r)
theorem eq_law : ∀ (script : (List Int)), Fn_law [.val (.scr script)] = (t_law script).bind fun r => some (.ret (.val (.bl r)) [.val (.scr script)]) := fun script => by
 show mkFn _ _ _ _ = _
 rw [mkFn_eq]
 dsimp? only [f_law, t_law, Nat.reduceSub, Nat.reduceAdd, rtn_bind, rtn_ite, rtn_none, rtn_nx, rtn_rtv, rtn_rto, rtn_k, post_n, post_v, post_o, l_cons, l_nil, r_succ, r_zero, a_cons, a_nil, st_law_1, st_law_2, st_law_3, st_law_4, st_law_5, st_law_6, st_law_7, tst_law_1, st_law_8, st_law_9, il_law_1, il_law_2, st_law_12, ll_law_1, st_law_16]
end
end My
namespace My
open PySem Dl Tl
open L2 (ixN atI)
structure Src where
 a : Int
 b : Int
 c : Int
def Src.l (s : Src) : List Int := [s.a, s.b, s.c]
def mix1 (b c : Int) : Int := (c * 48271 + b * 69621) % 2147483647
def mix2 (b c : Int) : Int := (mix1 b c * mix1 b c + b * 40692 + 7) % 2147483629
def Src.get (s : Src) (n : Int) : Int := if 0 < s.a then s.a % n else (mix2 (s.b + 1) s.c / 8 + mix2 (s.b + 1) s.c * 10000019) % n
def Src.next (s : Src) (n : Int) : Src := ⟨if 0 < s.a then s.a / n else s.a, s.b + 1, s.c⟩
theorem Src.get_nonneg (s : Src) {n : Int} (h : 0 < n) : 0 ≤ s.get n := by
 unfold Src.get
 split <;> exact Int.emod_nonneg _ (by omega)
theorem Src.get_lt (s : Src) {n : Int} (h : 0 < n) : s.get n < n := by
 unfold Src.get
 split <;> exact Int.emod_lt_of_pos _ h
def cellV (ns : List Int) (k : Int) : Int := ns.getD k.toNat 0
theorem cell_eq (ns : List Int) (k : Nat) : tZcell ns k = some (cellV ns k) := by
 unfold tZcell
 by_cases hl : k < ns.length
 · have h1 : decide ((k : Int) < ((List.length ns : Nat) : Int)) = true := decide_eq_true (by omega)
   rw [if_pos h1, atI_nat]
   simp [cellV, List.getElem?_eq_getElem hl]
 · have h1 : decide ((k : Int) < ((List.length ns : Nat) : Int)) = false := decide_eq_false (by omega)
   rw [if_neg (by rw [h1]; exact Bool.false_ne_true)]
   simp [cellV, List.getElem?_eq_none (by omega : ns.length ≤ k)]
def srcV (n : Int) : Src := if 10 ^ 18 ≤ n then ⟨n, 0, n⟩ else ⟨0, 0, n⟩
theorem source_eq (n : Int) : tZsource n = some (srcV n).l := by
 unfold tZsource srcV
 by_cases h : (10 : Int) ^ 18 ≤ n
 · rw [if_pos (decide_eq_true (by omega)), if_pos h]; rfl
 · rw [if_neg (by rw [decide_eq_false (by omega)]; exact Bool.false_ne_true), if_neg h]; rfl
theorem set3_0 (a b c v : Int) : setT [a, b, c] 0 v = some [v, b, c] := rfl
theorem set3_1 (a b c v : Int) : setT [a, b, c] 1 v = some [a, v, c] := rfl
theorem draw_eq (s : Src) {n : Int} (h : 0 < n ∧ n < 2 ^ 64) : tZdraw s.l n = some (s.get n, (s.next n).l) := by
 obtain ⟨a, b, c⟩ := s
 have m1 : ∀ i, modOk i n = true := fun i => decide_eq_true h.1
 have d1 : ∀ i, divOk i n = true := fun i => decide_eq_true h
 have g1 := fun i => gb_ok (m1 i)
 have g2 := fun i => gb_ok (d1 i)
 unfold tZdraw Src.get Src.next Src.l
 by_cases ha : 0 < a
 · simp only [at0, at1, at2, set3_0, set3_1, Option.bind_some, decide_eq_true ha, g1, g2, if_true, ha, decide_true]
 · have q1 := Int.emod_nonneg (c * 48271 + (b + 1) * 69621) (b := 2147483647) (by omega)
   have q2 := Int.emod_lt_of_pos (c * 48271 + (b + 1) * 69621) (b := 2147483647) (by omega)
   have g3 : gb (mulOk (mix1 (b + 1) c) (mix1 (b + 1) c)) = some () := gb_ok (mulOk_r (decide_eq_true (by unfold mix1; omega)))
   have e1 : (c * 48271 + (b + 1) * 69621) % 2147483647 = mix1 (b + 1) c := rfl
   have e2 : (mix1 (b + 1) c * mix1 (b + 1) c + (b + 1) * 40692 + 7) % 2147483629 = mix2 (b + 1) c := rfl
   simp only [at0, at1, at2, set3_0, set3_1, Option.bind_some, decide_eq_false ha, g1, e1, g3, e2, if_false, ha, decide_false, Bool.false_eq_true]
theorem asc_tb {x : Int} {acc : List Int} (hz : acc.length < 2 ^ 20) : tb_ascending_1 x acc = some (ascS acc x) := by
 have hg : gz (acc.length + 1) = some () := gz_ok (by omega)
 rcases List.eq_nil_or_concat acc with rfl | ⟨l, y, rfl⟩
 · rfl
 · rw [List.concat_eq_append] at hg ⊢
   have e1 : (l ++ [y]).isEmpty = false := by simp
   have e3 : atI (l ++ [y]) (-1) = some y := atI_last
   rw [ascS_snoc]
   unfold tb_ascending_1
   by_cases h : y = x
   · rw [if_pos h]
     simp only [e1, e3, decide_eq_true h, Option.bind_some, Bool.not_true, Bool.not_false, if_false, Bool.false_eq_true]
   · rw [if_neg h]
     simp only [e1, e3, decide_eq_false h, Option.bind_some, Bool.not_true, Bool.not_false, if_false, if_true, Bool.false_eq_true, hg]
theorem sortI_len (ns : List Int) : (sortI ns).length = ns.length := (sortI_perm ns).length_eq
theorem ascending_eq {ns : Bool × List Int} (h : ns.2.length ≤ 2 ^ 20) : t_ascending ns = some (asc ns.2) := by
 unfold t_ascending
 have := foldT_foldl (body := tb_ascending_1) (f := ascS) List.length (2 ^ 20) (fun x e he => asc_tb he) (fun x e => ascS_len e x) (sortI ns.2) [] (by rw [sortI_len]; simp; omega)
 simp only [this, Option.bind_some]; rfl
theorem is_number_eq (n : Int) : t_is_number n = some (decide (0 ≤ n)) := by
 unfold t_is_number t_is_integer
 simp only [Option.bind_some, Bool.not_false, Bool.and_self, Bool.true_and]
theorem draw_ok (s : Src) {n : Int} (h : 0 < n ∧ n < 2 ^ 64) : OkP (tZdraw s.l n) fun r => ∃ s' : Src, r.2 = s'.l ∧ 0 ≤ r.1 ∧ r.1 < n := ⟨_, draw_eq s h, s.next n, rfl, s.get_nonneg h.1, s.get_lt h.1⟩
end My
namespace My
open PySem Dl Tl
open L2 (ixN atI)
mutual
theorem QT.ind' {P : QT → Prop} (h1 : ∀ n, P (.fin n)) (h2 : ∀ p bs, (∀ b ∈ bs.l, P b.2) → P (.ask p bs)) : ∀ t : QT, P t
 | .fin n => h1 n
 | .ask p bs => h2 p bs (QTs.ind' h1 h2 bs)
theorem QTs.ind' {P : QT → Prop} (h1 : ∀ n, P (.fin n)) (h2 : ∀ p bs, (∀ b ∈ bs.l, P b.2) → P (.ask p bs)) : ∀ bs : QTs, ∀ b ∈ bs.l, P b.2
 | .nil => fun b hb => nomatch hb
 | .cons c t r => fun b hb => by
  have hb : b ∈ (c, t) :: r.l := hb
  rcases List.mem_cons.mp hb with rfl | hb
  · exact QT.ind' h1 h2 t
  · exact QTs.ind' h1 h2 r b hb
end
mutual
def depth : QT → Nat
 | .fin _ => 0
 | .ask _ bs => 1 + depths bs
def depths : QTs → Nat
 | .nil => 0
 | .cons _ t r => max (depth t) (depths r)
end
mutual
def leaves : QT → List Int
 | .fin n => [n]
 | .ask _ bs => leavess bs
def leavess : QTs → List Int
 | .nil => []
 | .cons _ t r => leaves t ++ leavess r
end
mutual
def hon : QT → List Int → Int
 | .fin n, _ => n
 | .ask p bs, c => honS (c.getD p.toNat 0) bs c
def honS (x : Int) : QTs → List Int → Int
 | .nil, _ => 0
 | .cons cell t r, c => if x ∈ cell then hon t c else honS x r c
end
mutual
def fewT (k : Int) : QT → QT
 | .fin n => .fin (n % k)
 | .ask p bs => .ask p (fewTs k bs)
def fewTs (k : Int) : QTs → QTs
 | .nil => .nil
 | .cons c t r => .cons c (fewT k t) (fewTs k r)
end
theorem depths_le : ∀ {bs : QTs} {b : List Int × QT}, b ∈ bs.l → depth b.2 ≤ depths bs
 | .nil, b, h => nomatch h
 | .cons c t r, b, h => by
  have h : b ∈ (c, t) :: r.l := h
  unfold depths
  rcases List.mem_cons.mp h with rfl | h
  · exact Nat.le_max_left _ _
  · exact Nat.le_trans (depths_le h) (Nat.le_max_right _ _)
theorem depths_lt : ∀ {bs : QTs} {n : Nat}, (∀ b ∈ bs.l, depth b.2 ≤ n) → depths bs ≤ n
 | .nil, n, h => by unfold depths; exact Nat.zero_le _
 | .cons c t r, n, h => by
  unfold depths
  exact Nat.max_le.mpr ⟨h (c, t) (List.mem_cons_self (l := r.l)), depths_lt fun b hb => h b (List.mem_cons_of_mem (c, t) hb)⟩
theorem depth_ask {p : Int} {bs : QTs} {b : List Int × QT} (h : b ∈ bs.l) : depth b.2 < depth (.ask p bs) := by
 have := depths_le h
 show depth b.2 < 1 + depths bs
 omega
theorem leavess_l : ∀ bs : QTs, leavess bs = bs.l.flatMap fun b => leaves b.2
 | .nil => rfl
 | .cons c t r => by unfold leavess QTs.l; rw [List.flatMap_cons, leavess_l r]
theorem leaves_ask (p : Int) (bs : QTs) : leaves (.ask p bs) = bs.l.flatMap fun b => leaves b.2 := by rw [leaves, leavess_l]
theorem tag_x : decide (("ask" : Str) = ("end" : Str)) = false := by decide +kernel
theorem tag_ask (p : Int) (bs : QTs) : decide (QT.tag (.ask p bs) = ("end" : Str)) = false := tag_x
theorem tag_fin (n : Int) : decide (QT.tag (.fin n) = ("end" : Str)) = true := decide_eq_true rfl
inductive FitsT : QT → List (List Int) → Prop where
 | fin (n : Int) (sides : List (List Int)) : FitsT (.fin n) sides
 | ask (p : Nat) (bs : QTs) (sides : List (List Int)) (side : List Int) (hp : sides[p]? = some side) (h2 : 2 ≤ bs.l.length) (hq : (bs.l.flatMap fun b => b.1).Perm side) (hn : ∀ b ∈ bs.l, b.1 ≠ []) (hs : ∀ b ∈ bs.l, b.1.Sublist side) (hr : ∀ b ∈ bs.l, FitsT b.2 (sides.set p b.1)) : FitsT (.ask (p : Int) bs) sides
mutual
theorem few_depth (k : Int) : ∀ t : QT, depth (fewT k t) = depth t
 | .fin n => by unfold fewT depth; rfl
 | .ask p bs => by unfold fewT depth; rw [few_depths k bs]
theorem few_depths (k : Int) : ∀ bs : QTs, depths (fewTs k bs) = depths bs
 | .nil => by unfold fewTs; rfl
 | .cons c t r => by unfold fewTs depths; rw [few_depth k t, few_depths k r]
end
theorem set_take {α : Type} (xs : List α) (p : Nat) (c : α) (h : p < xs.length) : xs.take p ++ [c] ++ xs.drop (p + 1) = xs.set p c := by
 rw [List.set_eq_take_append_cons_drop, if_pos h, List.append_assoc]; rfl
theorem set_cut {α : Type} (xs : List α) (p : Int) (c : α) (h0 : 0 ≤ p) (h : p < xs.length) : cutD xs none (some p) ++ [c] ++ cutD xs (some (p + 1)) none = xs.set p.toNat c := by
 have e1 : p = (p.toNat : Int) := (Int.toNat_of_nonneg h0).symm
 have e2 : p + 1 = ((p.toNat + 1 : Nat) : Int) := by omega
 have h1 : p.toNat < xs.length := by omega
 rw [e2]
 conv => lhs; rw [e1]
 rw [cutT xs (by omega), cutR xs (by omega), Int.toNat_natCast]
 exact set_take xs p.toNat c h1
theorem vol_set : ∀ {ss : List (List Int)} {p : Nat} {side : List Int}, ss[p]? = some side → ∃ V, vol ss = max 1 side.length * V ∧ 0 < V ∧ ∀ c, vol (ss.set p c) = max 1 c.length * V
 | [], p, side, h => by simp at h
 | s :: ss, 0, side, h => by
  cases h
  exact ⟨vol ss, rfl, vol_pos ss, fun c => rfl⟩
 | s :: ss, p + 1, side, h => by
  obtain ⟨V, h1, h2, h3⟩ := vol_set (ss := ss) (p := p) (by exact h)
  refine ⟨max 1 s.length * V, ?_, Nat.mul_pos (by omega) h2, fun c => ?_⟩
  · show max 1 s.length * vol ss = _
    rw [h1, Nat.mul_left_comm]
  · show max 1 s.length * vol (ss.set p c) = _
    rw [h3 c, Nat.mul_left_comm]
def meas : List (List Int) → Nat
 | [] => 0
 | s :: ss => (s.length - 1) + meas ss
theorem meas_set : ∀ {ss : List (List Int)} {p : Nat} {side : List Int}, ss[p]? = some side → ∃ M, meas ss = (side.length - 1) + M ∧ ∀ c : List Int, meas (ss.set p c) = (c.length - 1) + M
 | [], p, side, h => by simp at h
 | s :: ss, 0, side, h => by
  cases h
  exact ⟨meas ss, rfl, fun c => rfl⟩
 | s :: ss, p + 1, side, h => by
  obtain ⟨M, h1, h3⟩ := meas_set (ss := ss) (p := p) (by exact h)
  refine ⟨(s.length - 1) + M, ?_, fun c => ?_⟩
  · show (s.length - 1) + meas ss = _
    rw [h1]; omega
  · show (s.length - 1) + meas (ss.set p c) = _
    rw [h3 c]; omega
theorem set_ne {ss : List (List Int)} {p : Nat} {c : List Int} (h : ∀ s ∈ ss, s ≠ []) (hc : c ≠ []) : ∀ s ∈ ss.set p c, s ≠ [] := fun s hs => by
 rcases List.mem_or_eq_of_mem_set hs with hs | hs
 · exact h s hs
 · rw [hs]; exact hc
end My
namespace My
open PySem Dl Tl
open L2 (ixN atI)
def isSrc (l : List Int) : Prop := ∃ s : Src, l = s.l
theorem draw_is {l : List Int} (hl : isSrc l) {n : Int} (h : 0 < n ∧ n < 2 ^ 64) : OkP (tZdraw l n) fun r => isSrc r.2 ∧ 0 ≤ r.1 ∧ r.1 < n := by
 obtain ⟨s, rfl⟩ := hl
 exact (draw_ok s h).mono fun r ⟨s', h1, h2⟩ => ⟨⟨s', h1⟩, h2⟩
theorem source_is (n : Int) : OkP (tZsource n) isSrc := ⟨_, source_eq n, _, rfl⟩
theorem toNat_lt {i : Int} {n : Nat} (h0 : 0 ≤ i) (h : i < n) : i.toNat < n := by omega
def pick (side marks : List Int) (m : Int) : List Int := ((List.zip side marks).filter fun q => decide (q.2 = m)).map fun q => q.1
theorem pick_cons (x m' : Int) (side marks : List Int) (m : Int) : pick (x :: side) (m' :: marks) m = if m' = m then x :: pick side marks m else pick side marks m := by
 unfold pick
 rw [List.zip_cons_cons]
 by_cases h : m' = m
 · rw [if_pos h, List.filter_cons_of_pos (by exact decide_eq_true h)]; rfl
 · rw [if_neg h, List.filter_cons_of_neg (by simpa using h)]
theorem pick_sub : ∀ (side marks : List Int) (m : Int), (pick side marks m).Sublist side
 | [], marks, m => by unfold pick; rw [List.zip_nil_left]; exact .slnil
 | x :: side, [], m => by unfold pick; rw [List.zip_nil_right]; exact List.nil_sublist _
 | x :: side, m' :: marks, m => by
  rw [pick_cons]
  split
  · exact (pick_sub side marks m).cons₂ x
  · exact (pick_sub side marks m).cons x
theorem pick_perm : ∀ (side marks : List Int), marks.length = side.length → (∀ m ∈ marks, 0 ≤ m ∧ m < 4) → (pick side marks 0 ++ (pick side marks 1 ++ (pick side marks 2 ++ pick side marks 3))).Perm side
 | [], marks, _, _ => by simp [pick]
 | x :: side, [], h, _ => by cases h
 | x :: side, m :: marks, h, hm => by
  have ih := pick_perm side marks (by simpa using h) fun m' h' => hm m' (List.mem_cons_of_mem _ h')
  obtain ⟨h0, h4⟩ := hm m List.mem_cons_self
  have hc : m = 0 ∨ m = 1 ∨ m = 2 ∨ m = 3 := by omega
  rcases hc with rfl | rfl | rfl | rfl
  · simp only [pick_cons, if_true, if_neg (by decide : ¬ (0 : Int) = 1), if_neg (by decide : ¬ (0 : Int) = 2), if_neg (by decide : ¬ (0 : Int) = 3)]
    exact ih.cons x
  · simp only [pick_cons, if_true, if_neg (by decide : ¬ (1 : Int) = 0), if_neg (by decide : ¬ (1 : Int) = 2), if_neg (by decide : ¬ (1 : Int) = 3)]
    exact List.perm_middle.trans (ih.cons x)
  · simp only [pick_cons, if_true, if_neg (by decide : ¬ (2 : Int) = 0), if_neg (by decide : ¬ (2 : Int) = 1), if_neg (by decide : ¬ (2 : Int) = 3)]
    rw [← List.append_assoc]
    refine List.perm_middle.trans ?_
    rw [List.append_assoc]
    exact ih.cons x
  · simp only [pick_cons, if_true, if_neg (by decide : ¬ (3 : Int) = 0), if_neg (by decide : ¬ (3 : Int) = 1), if_neg (by decide : ¬ (3 : Int) = 2)]
    rw [← List.append_assoc, ← List.append_assoc]
    refine List.perm_middle.trans ?_
    rw [List.append_assoc, List.append_assoc]
    exact ih.cons x
theorem pick_mem {side marks : List Int} {m : Int} {i : Nat} {x : Int} (h1 : side[i]? = some x) (h2 : marks[i]? = some m) : x ∈ pick side marks m := by
 unfold pick
 refine List.mem_map.mpr ⟨(x, m), List.mem_filter.mpr ⟨?_, decide_eq_true rfl⟩, rfl⟩
 have : (List.zip side marks)[i]? = some (x, m) := by rw [List.getElem?_zip_eq_some]; exact ⟨h1, h2⟩
 exact List.mem_of_getElem? this
structure CellsOk (side : List Int) (cells : List (List Int)) : Prop where
 ne : ∀ c ∈ cells, c ≠ []
 sub : ∀ c ∈ cells, c.Sublist side
 perm : (cells.flatMap fun c => c).Perm side
 two : 2 ≤ cells.length
def notNil (c : List Int) : Bool := !decide (c = [])
theorem flat_notNil : ∀ cs : List (List Int), ((cs.filter notNil).flatMap fun c => c) = cs.flatMap fun c => c
 | [] => rfl
 | c :: cs => by
  by_cases h : c = []
  · subst h
    rw [List.filter_cons_of_neg (by simp [notNil]), flat_notNil cs]; rfl
  · rw [List.filter_cons_of_pos (by simp [notNil, h]), List.flatMap_cons, List.flatMap_cons, flat_notNil cs]
theorem cells_of (side marks : List Int) (hl : marks.length = side.length) (hm : ∀ m ∈ marks, 0 ≤ m ∧ m < 4) {i j : Nat} {a b : Int} (hi : marks[i]? = some a) (hj : marks[j]? = some b) (hab : a ≠ b) : CellsOk side (((rngI 0 4).map (pick side marks)).filter notNil) := by
 have e4 : rngI 0 4 = [0, 1, 2, 3] := by decide
 refine ⟨fun c hc => ?_, fun c hc => ?_, ?_, ?_⟩
 · have := (List.mem_filter.mp hc).2
   intro z; subst z; cases this
 · obtain ⟨m, _, rfl⟩ := List.mem_map.mp (List.mem_filter.mp hc).1
   exact pick_sub side marks m
 · rw [flat_notNil, e4]
   show (pick side marks 0 ++ (pick side marks 1 ++ (pick side marks 2 ++ (pick side marks 3 ++ [])))).Perm side
   rw [List.append_nil]
   exact pick_perm side marks hl hm
 · have li := (List.getElem?_eq_some_iff.mp hi).1
   have lj := (List.getElem?_eq_some_iff.mp hj).1
   have n1 : pick side marks a ≠ [] := fun z => by
    have := pick_mem (List.getElem?_eq_getElem (by omega : i < side.length)) hi
    rw [z] at this; cases this
   have n2 : pick side marks b ≠ [] := fun z => by
    have := pick_mem (List.getElem?_eq_getElem (by omega : j < side.length)) hj
    rw [z] at this; cases this
   have ha := hm a (List.mem_of_getElem? hi)
   have hb := hm b (List.mem_of_getElem? hj)
   have key : ∀ ms : List Int, ms.Nodup → a ∈ ms → b ∈ ms → 2 ≤ ((ms.map (pick side marks)).filter notNil).length := by
    intro ms
    have one : ∀ (ms : List Int) (x : Int), pick side marks x ≠ [] → x ∈ ms → 1 ≤ ((ms.map (pick side marks)).filter notNil).length := fun ms x hx hxm => by
     have : pick side marks x ∈ (ms.map (pick side marks)).filter notNil := List.mem_filter.mpr ⟨List.mem_map.mpr ⟨x, hxm, rfl⟩, by simp [notNil, hx]⟩
     exact List.length_pos_of_mem this
    induction ms with
    | nil => intro _ h; cases h
    | cons x ms ih =>
     intro nd h1 h2
     obtain ⟨nd1, nd2⟩ := List.nodup_cons.mp nd
     rw [List.map_cons]
     rcases List.mem_cons.mp h1 with k1 | k1
     · subst k1
       rw [List.filter_cons_of_pos (by simp [notNil, n1]), List.length_cons]
       rcases List.mem_cons.mp h2 with k2 | k2
       · exact absurd k2.symm hab
       · have := one ms b n2 k2; omega
     · rcases List.mem_cons.mp h2 with k2 | k2
       · subst k2
         rw [List.filter_cons_of_pos (by simp [notNil, n2]), List.length_cons]
         have := one ms a n1 k1; omega
       · have := ih nd2 k1 k2
         by_cases q : notNil (pick side marks x) = true
         · rw [List.filter_cons_of_pos q, List.length_cons]; omega
         · rw [List.filter_cons_of_neg q]; exact this
   rw [e4]
   have hma : a ∈ [(0 : Int), 1, 2, 3] := by
    have : a = 0 ∨ a = 1 ∨ a = 2 ∨ a = 3 := by omega
    simp [this]
   have hmb : b ∈ [(0 : Int), 1, 2, 3] := by
    have : b = 0 ∨ b = 1 ∨ b = 2 ∨ b = 3 := by omega
    simp [this]
   exact key [0, 1, 2, 3] (by decide) hma hmb
theorem zip_pick : ∀ (side marks : List Int), marks.length = side.length → ∀ (m : Int), (((List.range side.length).filter fun k => decide (marks.getD k 0 = m)).map fun k => side.getD k 0) = pick side marks m
 | [], marks, _, m => by simp [pick]
 | x :: side, [], h, _ => by cases h
 | x :: side, m' :: marks, h, m => by
  rw [pick_cons, ← zip_pick side marks (by simpa using h) m, List.length_cons, List.range_succ_eq_map]
  have e : ((List.map Nat.succ (List.range side.length)).filter fun k => decide ((m' :: marks).getD k 0 = m)).map (fun k => (x :: side).getD k 0) = ((List.range side.length).filter fun k => decide (marks.getD k 0 = m)).map fun k => side.getD k 0 := by
   rw [List.filter_map, List.map_map]
   rfl
  by_cases q : m' = m
  · rw [if_pos q, List.filter_cons_of_pos (by simpa using q), List.map_cons, e]; rfl
  · rw [if_neg q, List.filter_cons_of_neg (by simpa using q), e]
theorem cell_step {side marks : List Int} (hl : marks.length = side.length) (hz : side.length ≤ 2 ^ 10) (m : Int) (cells : List (List Int)) (hc : cells.length ≤ 2 ^ 10) : tbZsplit_1 side marks m cells = some (if notNil (pick side marks m) = true then cells ++ [pick side marks m] else cells) := by
 unfold tbZsplit_1
 have e1 : rngT ((side.length : Nat) : Int) = some (rngI 0 side.length) := rngT_ok (by omega)
 have e2 : mapF (fcZsplit_3 side marks m) (rngI 0 side.length) = some (pick side marks m) := by
  rw [mapF_filter' (f := fcZsplit_3 side marks m) (g := fun k => side.getD k.toNat 0) (p := fun k => decide (marks.getD k.toNat 0 = m)) (rngI 0 side.length) fun k hk => ?_]
  · congr 1
    unfold rngI
    rw [List.filter_map, List.map_map, ← zip_pick side marks hl m]
    have : ∀ k : Nat, ((0 : Int) + (k : Int)).toNat = k := fun k => by omega
    congr 1
    · funext k; simp only [Function.comp, this]
    · congr 1; funext k; simp only [Function.comp, this]
  · obtain ⟨h0, h1⟩ := mem_rngI.mp hk
    unfold fcZsplit_3
    obtain ⟨a, ea, ga⟩ := atI_i (xs := marks) h0 (by omega)
    obtain ⟨b, eb, gb'⟩ := atI_i (xs := side) h0 (by omega)
    rw [ea, Option.bind_some]
    have em : marks.getD k.toNat 0 = a := by rw [List.getD_eq_getElem?_getD, ga]; rfl
    have es : side.getD k.toNat 0 = b := by rw [List.getD_eq_getElem?_getD, gb']; rfl
    rw [em, es, eb]
    by_cases q : a = m
    · rw [if_pos (decide_eq_true q), if_pos (decide_eq_true q)]; rfl
    · rw [if_neg (by simpa using q), if_neg (by simpa using q)]
 dsimp only
 rw [e1, Option.bind_some, e2, Option.bind_some]
 have e3 : gz (cells.length + 1) = some () := gz_ok (by omega)
 rw [e3]
 unfold notNil
 by_cases q : pick side marks m = []
 · rw [if_neg (by simp [q]), if_neg (by simp [q])]; rfl
 · rw [if_pos (by simp [q]), if_pos (by simp [q])]; rfl
theorem split_ok {side src : List Int} (hs : isSrc src) (h2 : 2 ≤ side.length) (hz : side.length ≤ 2 ^ 10) : OkP (tZsplit side src) fun r => isSrc r.2 ∧ CellsOk side r.1 := by
 unfold tZsplit
 refine OkP.bind (OkP.mapE isSrc (fun _ y => 0 ≤ y ∧ y < 3) side src hs fun x _ e he => ?_) fun mk hmk => ?_
 · unfold fcZsplit_1
   refine OkP.bind (draw_is he (by decide)) fun r hr => OkP.ret ⟨⟨hr.2.1, hr.2.2⟩, hr.1⟩
 obtain ⟨marks, src1⟩ := mk
 obtain ⟨hmk, hs1⟩ := hmk
 have hl : marks.length = side.length := forall2_len hmk
 have hm : ∀ m ∈ marks, 0 ≤ m ∧ m < 3 := fun m h => by obtain ⟨_, _, h⟩ := forall2_mem hmk m h; exact h
 dsimp only at hs1 ⊢
 have p0 : 0 < marks.length := by omega
 obtain ⟨m0, em0⟩ : ∃ m0, marks[0]? = some m0 := ⟨_, List.getElem?_eq_getElem p0⟩
 have e0 : atI marks 0 = some m0 := atI_nat (k := 0) ▸ em0
 have ef : mapF (fcZsplit_2 marks) marks = some (marks.filter fun m => decide (m = m0)) := by
  refine mapF_filter (f := fcZsplit_2 marks) (p := fun m => decide (m = m0)) marks fun x _ => ?_
  unfold fcZsplit_2
  rw [e0, Option.bind_some]
  by_cases q : x = m0 <;> simp [q]
 rw [ef, Option.bind_some]
 refine OkP.bind (Q := fun p : List Int × List Int => isSrc p.1 ∧ p.2.length = side.length ∧ (∀ m ∈ p.2, 0 ≤ m ∧ m < 4) ∧ ∃ (i j : Nat) (a b : Int), p.2[i]? = some a ∧ p.2[j]? = some b ∧ a ≠ b) ?_ fun p hp => ?_
 · refine OkP.iteB (fun q => ?_) fun q => ?_
   ·
     have q := of_decide_eq_true q
     have all : ∀ m ∈ marks, m = m0 := fun m hmm => by
      have hq : (marks.filter fun m => decide (m = m0)).length = marks.length := by omega
      have := List.length_filter_eq_length_iff.mp hq m hmm
      exact of_decide_eq_true this
     refine OkP.bind (draw_is hs1 ⟨by omega, by omega⟩) fun r hr => ?_
     refine OkP.at hr.2.1 hr.2.2 fun x hx => ?_
     rw [setT_i hr.2.1 hr.2.2, Option.bind_some]
     have lx : r.1.toNat < marks.length := toNat_lt hr.2.1 hr.2.2
     have ex : x = m0 := all x (List.mem_of_getElem? hx)
     refine OkP.ret ⟨hr.1, by rw [List.length_set]; exact hl, fun m hmm => ?_, ?_⟩
     · rcases List.mem_or_eq_of_mem_set hmm with h | h
       · have := hm m h; omega
       · have := hm x (List.mem_of_getElem? hx); omega
     · obtain ⟨j, hj, hjl⟩ : ∃ j, j ≠ r.1.toNat ∧ j < marks.length := by
         by_cases z : r.1.toNat = 0
         · exact ⟨1, by omega, by omega⟩
         · exact ⟨0, by omega, by omega⟩
       refine ⟨r.1.toNat, j, x + 1, m0, ?_, ?_, by omega⟩
       · dsimp only; rw [List.getElem?_set_self lx]
       · dsimp only; rw [List.getElem?_set_ne (Ne.symm hj), List.getElem?_eq_getElem hjl, all _ (List.getElem_mem hjl)]
   · have q := of_decide_eq_false q
     have hq : (marks.filter fun m => decide (m = m0)).length ≠ marks.length := by omega
     have : ∃ m ∈ marks, m ≠ m0 := by
      refine Classical.byContradiction fun z => hq (List.length_filter_eq_length_iff.mpr fun m hmm => ?_)
      refine Classical.byContradiction fun z2 => z ⟨m, hmm, fun e => z2 (decide_eq_true e)⟩
     obtain ⟨m, hmm, hne⟩ := this
     obtain ⟨i, hi⟩ := List.mem_iff_getElem?.mp hmm
     exact OkP.ret ⟨hs1, hl, fun m h => by have := hm m h; omega, i, 0, m, m0, hi, em0, hne⟩
 · obtain ⟨src2, mk2⟩ := p
   obtain ⟨h1, h2', h3, i, j, a, b, hi, hj, hab⟩ := hp
   dsimp only at h1 h2' h3 hi hj ⊢
   rw [show rngT 4 = some (rngI 0 4) from rngT_ok (by decide : 4 ≤ 2 ^ 20), Option.bind_some]
   have ef : foldT (tbZsplit_1 side mk2) (rngI 0 4) [] = some (((rngI 0 4).map (pick side mk2)).filter notNil) := by
    have e4 : rngI 0 4 = [0, 1, 2, 3] := by decide
    have go : ∀ (ms : List Int) (cells : List (List Int)), cells.length + ms.length ≤ 2 ^ 10 → foldT (tbZsplit_1 side mk2) ms cells = some (cells ++ (ms.map (pick side mk2)).filter notNil) := by
     intro ms
     induction ms with
     | nil => intro cells _; show some cells = _; simp
     | cons m ms ih =>
      intro cells hcl
      rw [List.length_cons] at hcl
      show ((tbZsplit_1 side mk2 m cells).bind fun e => foldT _ ms e) = _
      rw [cell_step h2' hz m cells (by omega), Option.bind_some, List.map_cons]
      by_cases q : notNil (pick side mk2 m) = true
      · rw [if_pos q, ih _ (by rw [List.length_append]; show cells.length + 1 + ms.length ≤ _; omega), List.filter_cons_of_pos q, List.append_assoc]; rfl
      · rw [if_neg q, ih _ (by omega), List.filter_cons_of_neg q]
    have := go (rngI 0 4) [] (by rw [e4]; decide)
    rw [this]; rfl
   rw [ef, Option.bind_some]
   exact OkP.ret ⟨h1, cells_of side mk2 h2' h3 hi hj hab⟩
end My
namespace My
open PySem Dl Tl
open L2 (ixN atI)
theorem rng_pre {n : Nat} {p q : List Int} {x : Int} (h : rngI 0 n = p ++ x :: q) : x = (p.length : Int) ∧ p.length < n := by
 have : (rngI 0 n)[p.length]? = some x := by rw [h, List.getElem?_append_right (Nat.le_refl _), Nat.sub_self]; rfl
 obtain ⟨h1, h2⟩ := rngI_get this
 exact ⟨h1, h2⟩
def sumL (cs : List (List Int)) : Nat := (cs.map List.length).sum
theorem sumL_app (a b : List (List Int)) : sumL (a ++ b) = sumL a + sumL b := by unfold sumL; rw [List.map_append, List.sum_append]
theorem sumL_flat : ∀ cs : List (List Int), (cs.flatMap fun c => c).length = sumL cs
 | [] => rfl
 | c :: cs => by rw [List.flatMap_cons, List.length_append, sumL_flat cs]; rfl
theorem CellsOk.sum {side : List Int} {cells : List (List Int)} (h : CellsOk side cells) : sumL cells = side.length := by
 rw [← sumL_flat]; exact h.perm.length_eq
theorem CellsOk.lt {side : List Int} {cells : List (List Int)} (h : CellsOk side cells) {c : List Int} (hc : c ∈ cells) : 1 ≤ c.length ∧ c.length < side.length := by
 obtain ⟨l1, l2, e⟩ := List.append_of_mem hc
 have h1 : 1 ≤ c.length := List.length_pos_iff.mpr (h.ne c hc)
 refine ⟨h1, ?_⟩
 have hs := h.sum
 rw [e, sumL_app] at hs
 have ht := h.two
 rw [e, List.length_append, List.length_cons] at ht
 have pos : ∀ l : List (List Int), (∀ d ∈ l, d ≠ []) → l.length ≤ sumL l := by
  intro l
  induction l with
  | nil => intro _; exact Nat.zero_le _
  | cons d l ih =>
   intro hd
   have := ih fun x hx => hd x (List.mem_cons_of_mem _ hx)
   have h1 : 1 ≤ d.length := List.length_pos_iff.mpr (hd d List.mem_cons_self)
   show l.length + 1 ≤ d.length + sumL l
   omega
 have p1 := pos l1 fun d hd => h.ne d (by rw [e]; exact List.mem_append_left _ hd)
 have p2 := pos l2 fun d hd => h.ne d (by rw [e]; exact List.mem_append_right _ (List.mem_cons_of_mem _ hd))
 have : sumL (c :: l2) = c.length + sumL l2 := rfl
 omega
theorem rngI_app (a : Int) (m n : Nat) : rngI a m ++ rngI (a + m) n = rngI a (m + n) := by
 unfold rngI
 rw [List.range_add, List.map_append, List.map_map]
 congr 1
 exact List.map_congr_left fun k _ => by show a + (m : Int) + (k : Int) = a + ((m + k : Nat) : Int); omega
theorem rngI_one (a : Int) : rngI a 1 = [a] := by
 show [a + ((0 : Nat) : Int)] = [a]
 rw [show a + ((0 : Nat) : Int) = a by omega]
theorem tree_ok : ∀ (n : Nat) (sides : List (List Int)) (src ends : List Int), isSrc src → meas sides < n → (∀ s ∈ sides, s ≠ []) → sides.length ≤ 2 ^ 10 → ends.length + vol sides ≤ 2 ^ 10 →
  OkP (tZtree n sides src ends) fun r => isSrc r.2.1 ∧ FitsT r.1 sides ∧ depth r.1 < n ∧ ∃ k, 1 ≤ k ∧ k ≤ vol sides ∧ r.2.2.length = ends.length + k ∧ leaves r.1 = rngI ends.length k
 | 0, _, _, _, _, h, _, _, _ => absurd h (Nat.not_lt_zero _)
 | n + 1, sides, src, ends, hs, hm, hne, hl, hv => by
  show OkP (tsZtree (tZtree n) sides src ends) _
  unfold tsZtree
  refine OkP.rng (by omega) (by omega) ?_
  rw [Int.toNat_natCast]
  have ew : mapF (fcZtree_1 (tZtree n) sides) (rngI 0 sides.length) = some ((rngI 0 sides.length).filter fun k => decide ((1 : Int) < (((sides.getD k.toNat []).length : Nat) : Int))) := by
   refine mapF_filter (f := fcZtree_1 (tZtree n) sides) (rngI 0 sides.length) fun k hk => ?_
   obtain ⟨h0, h1⟩ := mem_rngI.mp hk
   unfold fcZtree_1
   obtain ⟨a, ea, ga⟩ := atI_i (xs := sides) h0 (by omega)
   rw [ea, Option.bind_some]
   have em : sides.getD k.toNat [] = a := by rw [List.getD_eq_getElem?_getD, ga]; rfl
   rw [em]
   by_cases q : (1 : Int) < ((a.length : Nat) : Int) <;> simp [q]
  rw [ew, Option.bind_some]
  generalize hw : (rngI 0 sides.length).filter (fun k => decide ((1 : Int) < (((sides.getD k.toNat []).length : Nat) : Int))) = wide
  have wmem : ∀ k ∈ wide, 0 ≤ k ∧ k < sides.length ∧ ∃ side, sides[k.toNat]? = some side ∧ 2 ≤ side.length := fun k hk => by
   rw [← hw] at hk
   obtain ⟨h1, h2⟩ := List.mem_filter.mp hk
   obtain ⟨h0, h3⟩ := mem_rngI.mp h1
   have hlt : k.toNat < sides.length := by omega
   have h2 := of_decide_eq_true h2
   rw [List.getD_eq_getElem?_getD, List.getElem?_eq_getElem hlt] at h2
   exact ⟨h0, h3, _, List.getElem?_eq_getElem hlt, by have h2 : (1 : Int) < (((sides[k.toNat]).length : Nat) : Int) := h2; omega⟩
  have wlen : wide.length ≤ 2 ^ 10 := by
   rw [← hw]
   refine Nat.le_trans (List.length_filter_le _ _) ?_
   rw [rngI_len]; exact hl
  refine OkP.bind (Q := fun p : Bool × List Int => isSrc p.2 ∧ (p.1 = false → wide ≠ [])) ?_ fun p hp => ?_
  · refine OkP.iteB (fun q => OkP.ret ⟨hs, fun z => nomatch z⟩) fun q => ?_
    refine OkP.bind (draw_is hs (by decide)) fun r hr => OkP.ret ⟨hr.1, fun _ z => by rw [z] at q; cases q⟩
  obtain ⟨c, src1⟩ := p
  obtain ⟨hs1, hc⟩ := hp
  refine OkP.iteB (fun q => ?_) fun q => ?_
  · refine OkP.gz (by have := vol_pos sides; omega) (OkP.ret ⟨hs1, .fin _ _, Nat.zero_lt_succ _, 1, Nat.le_refl 1, vol_pos sides, by rw [List.length_append]; rfl, ?_⟩)
    dsimp only
    rw [List.length_append, rngI_one]
    unfold leaves
    show [((ends.length + 1 : Nat) : Int) - 1] = _
    congr 1
    omega
  · have wne := hc q
    have wpos : 0 < wide.length := List.length_pos_iff.mpr wne
    refine OkP.bind (draw_is hs1 ⟨by omega, by omega⟩) fun r hr => ?_
    refine OkP.at hr.2.1 hr.2.2 fun party hparty => ?_
    obtain ⟨p0, pl, side, hside, side2⟩ := wmem party (List.mem_of_getElem? hparty)
    refine OkP.at p0 pl fun side' hside' => ?_
    have es : side' = side := by rw [hside] at hside'; exact (Option.some.inj hside').symm
    subst es
    obtain ⟨V, hV, V0, hVs⟩ := vol_set hside
    obtain ⟨M, hM, hMs⟩ := meas_set hside
    have hsl : side'.length ≤ vol sides := by rw [hV]; exact Nat.le_trans (Nat.le_max_right _ _) (Nat.le_mul_of_pos_right _ V0)
    refine OkP.bind (split_ok hr.1 side2 (by omega)) fun sp hsp => ?_
    obtain ⟨cells, src2⟩ := sp
    obtain ⟨hs2, hcells⟩ := hsp
    have hsum : sumL cells = side'.length := hcells.sum
    have hVV : vol sides = side'.length * V := by rw [hV, Nat.max_eq_right (by omega)]
    refine OkP.bind (OkP.fold (fun pre (env : List Int × List Int × List (List Int × QT)) => isSrc env.1 ∧ env.2.2.map (fun b => b.1) = pre ∧ (∀ b ∈ env.2.2, FitsT b.2 (sides.set party.toNat b.1) ∧ depth b.2 < n) ∧ ∃ k, k ≤ V * sumL pre ∧ pre.length ≤ k ∧ env.2.1.length = ends.length + k ∧ (env.2.2.flatMap fun b => leaves b.2) = rngI ends.length k) [] cells (src2, ends, []) ⟨hs2, rfl, (fun b hb => absurd hb List.not_mem_nil), 0, Nat.zero_le _, Nat.le_refl 0, rfl, rfl⟩ fun pre cell post env eq hP => ?_) fun env hP => ?_
    · have eq : cells = pre ++ cell :: post := eq
      obtain ⟨s3, e3, b3⟩ := env
      obtain ⟨hs3, hb3, hf3, k, hk1, hk4, hk2, hk3⟩ := hP
      dsimp only at hs3 hb3 hf3 hk2 hk3
      have hcm : cell ∈ cells := by rw [eq]; simp
      obtain ⟨hc1, hc2⟩ := hcells.lt hcm
      have hbnd : V * sumL pre + V * cell.length ≤ vol sides := by
       rw [hVV, ← Nat.mul_add, Nat.mul_comm]
       refine Nat.mul_le_mul_right V ?_
       rw [← hsum, eq, sumL_app]
       have : sumL (cell :: post) = cell.length + sumL post := rfl
       omega
      have hvs : vol (sides.set party.toNat cell) = V * cell.length := by rw [hVs, Nat.max_eq_right hc1, Nat.mul_comm]
      have hblen : b3.length = pre.length := by rw [← hb3, List.length_map]
      unfold tbZtree_1
      have l1 : (cutD sides none (some party)).length ≤ 2 ^ 10 := by
       rw [show party = ((party.toNat : Nat) : Int) by omega, cutT sides (by omega)]
       exact Nat.le_trans (List.length_take_le _ _) (by omega)
      have lset := congrArg List.length (set_cut sides party cell p0 pl)
      rw [List.length_append, List.length_append, List.length_set] at lset
      have l11 : ([cell] : List (List Int)).length = 1 := rfl
      refine OkP.gz (by omega) (OkP.gz (by rw [List.length_append]; omega) ?_)
      rw [set_cut sides party cell p0 pl]
      refine OkP.bind (tree_ok n (sides.set party.toNat cell) s3 e3 hs3 (by rw [hMs]; omega) (set_ne hne (by intro z; rw [z] at hc1; cases hc1)) (by rw [List.length_set]; exact hl) (by rw [hvs, hk2]; omega)) fun t ht => ?_
      obtain ⟨t1, s4, e4⟩ := t
      obtain ⟨hs4, hfit, hdep, k', hk'1, hk'2, hk'3, hk'4⟩ := ht
      dsimp only at hs4 hfit hdep hk'3 hk'4
      have hpl : pre.length ≤ 2 ^ 10 := by omega
      refine OkP.gz (by rw [hblen]; omega) (OkP.ret ⟨hs4, by dsimp only; rw [List.map_append, hb3]; rfl, fun b hb => ?_, k + k', ?_, ?_, by dsimp only; omega, ?_⟩)
      · rcases List.mem_append.mp hb with hb | hb
        · exact hf3 b hb
        · rw [List.mem_singleton.mp hb]; exact ⟨hfit, hdep⟩
      · rw [sumL_app, Nat.mul_add]
        have : sumL [cell] = cell.length := rfl
        rw [this, ← hvs]
        omega
      · rw [List.length_append]; show pre.length + 1 ≤ k + k'; omega
      · dsimp only
        rw [List.flatMap_append, hk3]
        show _ ++ (leaves t1 ++ []) = _
        rw [List.append_nil, hk'4, hk2, ← rngI_app]
        congr 2
    · obtain ⟨s3, e3, b3⟩ := env
      obtain ⟨hs3, hb3, hf3, k, hk1, hk4, hk2, hk3⟩ := hP
      dsimp only at hs3 hb3 hf3 hk2 hk3
      have hb3 : b3.map (fun b => b.1) = cells := hb3
      have hk1 : k ≤ V * sumL cells := hk1
      have hk4 : cells.length ≤ k := hk4
      have hfm : (b3.flatMap fun b => b.1) = cells.flatMap fun c => c := by rw [← hb3, List.flatMap_map]
      have hmemc : ∀ b ∈ b3, b.1 ∈ cells := fun b hb => by rw [← hb3]; exact List.mem_map.mpr ⟨b, hb, rfl⟩
      have htwo : 2 ≤ cells.length := hcells.two
      have hlen : b3.length = cells.length := by rw [← hb3, List.length_map]
      have n1 : 1 ≤ n := by
       have hb0 : b3 ≠ [] := fun z => by rw [z] at hlen; rw [← hlen] at htwo; cases htwo
       obtain ⟨b, hb⟩ := List.exists_mem_of_ne_nil b3 hb0
       have := (hf3 b hb).2
       omega
      refine OkP.ret ⟨hs3, ?_, ?_, k, by omega, ?_, hk2, ?_⟩
      · dsimp only
        have := FitsT.ask party.toNat (QTs.of b3) sides side' hside (by rw [QTs.l_of]; omega) (by rw [QTs.l_of, hfm]; exact hcells.perm) (by rw [QTs.l_of]; exact fun b hb => hcells.ne _ (hmemc b hb)) (by rw [QTs.l_of]; exact fun b hb => hcells.sub _ (hmemc b hb)) (by rw [QTs.l_of]; exact fun b hb => (hf3 b hb).1)
        rw [show ((party.toNat : Nat) : Int) = party by omega] at this
        exact this
      · show 1 + depths (QTs.of b3) < n + 1
        have : depths (QTs.of b3) ≤ n - 1 := depths_lt (by rw [QTs.l_of]; exact fun b hb => by have := (hf3 b hb).2; omega)
        omega
      · rw [hVV, Nat.mul_comm, ← hsum]; exact hk1
      · dsimp only
        rw [leaves_ask, QTs.l_of]; exact hk3
end My
namespace My
open PySem Dl Tl
open L2 (ixN atI)
def fullS (sizes : List Int) : List (List Int) := sizes.map fun s => rngI 0 s.toNat
structure SizesOk (cap : Nat) (sizes : List Int) : Prop where
 n1 : 1 ≤ sizes.length
 n7 : sizes.length ≤ 7
 pos : ∀ s ∈ sizes, 1 ≤ s ∧ s ≤ 6
 cap : vol (fullS sizes) ≤ cap
theorem fullS_app (a b : List Int) : fullS (a ++ b) = fullS a ++ fullS b := by unfold fullS; rw [List.map_append]
theorem rngI_ne {n : Nat} (h : 1 ≤ n) : rngI 0 n ≠ [] := fun z => by
 have := congrArg List.length z
 rw [rngI_len] at this
 simp at this; omega
theorem vol_snoc (sizes : List Int) (s : Int) (h : 1 ≤ s) : ((vol (fullS (sizes ++ [s])) : Nat) : Int) = (vol (fullS sizes) : Int) * s := by
 rw [fullS_app]
 show ((vol (fullS sizes ++ [rngI 0 s.toNat]) : Nat) : Int) = _
 rw [vol_app, rngI_len, Nat.max_eq_right (by omega), Int.natCast_mul]
 congr 1
 omega
theorem sizes_ok {src : List Int} (hs : isSrc src) {st cap : Int} (h1 : 1 ≤ st ∧ st ≤ 6) (hc : 1 ≤ cap ∧ cap ≤ 2 ^ 10) : OkP (tZsizes src 7 st cap) fun r => isSrc r.2 ∧ SizesOk cap.toNat r.1 := by
 unfold tZsizes
 refine OkP.bind (draw_is hs (by decide)) fun r hr => ?_
 obtain ⟨hr0, hr1, hr2⟩ := hr
 refine OkP.bind (Q := fun v : Int => 1 ≤ v ∧ v ≤ 6) ?_ fun v hv => ?_
 · have : r.1 = 0 ∨ r.1 = 1 ∨ r.1 = 2 ∨ r.1 = 3 := by omega
   rcases this with e | e | e | e <;> rw [e] <;> exact ⟨_, rfl, by decide⟩
 have top : ∃ top : Int, (if v < st then v else st) = top ∧ 1 ≤ top ∧ top ≤ 6 := ⟨_, rfl, by split <;> omega⟩
 obtain ⟨top, et, t1, t6⟩ := top
 rw [et]
 refine OkP.bind (draw_is hr0 (by decide)) fun r2 hr2 => ?_
 obtain ⟨hq0, hq1, hq2⟩ := hr2
 refine OkP.rng (by omega) (by omega) ?_
 refine OkP.bind (OkP.fold (fun pre (env : List Int × List Int × Int) => isSrc env.1 ∧ env.2.1.length = pre.length ∧ (∀ s ∈ env.2.1, 1 ≤ s ∧ s ≤ 6) ∧ env.2.2 = ((vol (fullS env.2.1) : Nat) : Int) ∧ env.2.2 ≤ cap) [] (rngI 0 (1 + r2.1).toNat) (r2.2, [], 1) ⟨hq0, rfl, (fun s h => absurd h List.not_mem_nil), rfl, hc.1⟩ fun pre x post env eq hP => ?_) fun env hP => ?_
 · obtain ⟨s1, sz, many⟩ := env
   obtain ⟨p1, p2, p3, p4, p5⟩ := hP
   dsimp only at p1 p2 p3 p4 p5
   have hlen : pre.length < (1 + r2.1).toNat := (rng_pre (show rngI 0 (1 + r2.1).toNat = pre ++ x :: post from eq)).2
   unfold tbZsizes_1
   dsimp only
   refine OkP.bind (draw_is p1 ⟨by omega, by omega⟩) fun d hd => ?_
   have m1 : ∀ z : Int, 1 ≤ z ∧ z ≤ 6 → mulOk many z = true := fun z hz => mulOk_r (decide_eq_true (by omega))
   have vp := vol_pos (fullS sz)
   refine OkP.bind (Q := fun z : Int => 1 ≤ z ∧ z ≤ 6 ∧ many * z ≤ cap) ?_ fun z hz => ?_
   · refine OkP.gb (m1 _ (by omega)) ?_
     refine OkP.iteB (fun q => OkP.ret ⟨by omega, by omega, by omega⟩) fun q => OkP.ret ⟨by omega, by omega, ?_⟩
     have := of_decide_eq_false q
     omega
   · refine OkP.gb (m1 _ ⟨hz.1, hz.2.1⟩) ?_
     refine OkP.gz (by omega) (OkP.ret ⟨hd.1, by dsimp only; rw [List.length_append, List.length_append, p2]; rfl, fun s hsm => ?_, ?_, hz.2.2⟩)
     · rcases List.mem_append.mp hsm with h | h
       · exact p3 s h
       · rw [List.mem_singleton.mp h]; exact ⟨hz.1, hz.2.1⟩
     · dsimp only
       rw [vol_snoc sz z hz.1, p4]
 · obtain ⟨s1, sz, many⟩ := env
   obtain ⟨p1, p2, p3, p4, p5⟩ := hP
   have p2 : sz.length = (rngI 0 (1 + r2.1).toNat).length := p2
   rw [rngI_len] at p2
   dsimp only at p1 p3 p4 p5 ⊢
   refine OkP.bind (draw_is p1 ⟨by omega, by omega⟩) fun d hd => ?_
   obtain ⟨d0, d1, d2⟩ := hd
   have ed : d.1 = ((d.1.toNat : Nat) : Int) := by omega
   rw [ed, cutR sz (by omega), cutT sz (by omega)]
   have hl : (sz.drop d.1.toNat).length + (sz.take d.1.toNat).length = sz.length := by rw [List.length_drop, List.length_take]; omega
   refine OkP.gz (by omega) (OkP.ret ⟨d0, ?_⟩)
   refine ⟨by dsimp only; rw [List.length_append]; omega, by dsimp only; rw [List.length_append]; omega, fun s hsm => ?_, ?_⟩
   · rcases List.mem_append.mp hsm with h | h
     · exact p3 s (List.mem_of_mem_drop h)
     · exact p3 s (List.mem_of_mem_take h)
   · dsimp only
     rw [fullS_app, vol_split, Nat.mul_comm, ← vol_split, ← fullS_app, List.take_append_drop]
     omega
def gd (n : Nat) : Nat := if n ≤ 1 then 0 else if n ≤ 2 then 1 else if n ≤ 3 then 2 else if n ≤ 4 then 3 else if n ≤ 5 then 4 else if n ≤ 11 then 5 else if n ≤ 17 then 6 else if n ≤ 23 then 7 else 8
theorem gd_fin : ∀ s : Fin 7, ∀ n : Fin 25, 1 ≤ s.val → s.val * n.val ≤ 24 → 1 ≤ n.val → (s.val - 1) + gd n.val ≤ gd (s.val * n.val) := by decide +kernel
theorem gd_step (s : Nat) (h1 : 1 ≤ s) (h6 : s ≤ 6) (n : Nat) (hn : n ≤ 24) (h : s * n ≤ 24) (hn1 : 1 ≤ n) : (s - 1) + gd n ≤ gd (s * n) := gd_fin ⟨s, by omega⟩ ⟨n, by omega⟩ h1 h hn1
theorem meas_full : ∀ {sizes : List Int}, (∀ s ∈ sizes, 1 ≤ s ∧ s ≤ 6) → vol (fullS sizes) ≤ 24 → meas (fullS sizes) ≤ gd (vol (fullS sizes))
 | [], _, _ => by decide
 | s :: sizes, h, hv => by
  have hs := h s List.mem_cons_self
  have ev : vol (fullS (s :: sizes)) = s.toNat * vol (fullS sizes) := by
   show max 1 (rngI 0 s.toNat).length * vol (fullS sizes) = _
   rw [rngI_len, Nat.max_eq_right (by omega)]
  rw [ev] at hv ⊢
  have vp := vol_pos (fullS sizes)
  have hle : vol (fullS sizes) ≤ s.toNat * vol (fullS sizes) := Nat.le_mul_of_pos_left _ (by omega)
  have ih := meas_full (sizes := sizes) (fun x hx => h x (List.mem_cons_of_mem _ hx)) (by omega)
  show ((rngI 0 s.toNat).length - 1) + meas (fullS sizes) ≤ _
  rw [rngI_len]
  have := gd_step s.toNat (by omega) (by omega) (vol (fullS sizes)) (by omega) hv vp
  omega
theorem gd_8 (n : Nat) : gd n ≤ 8 := by unfold gd; (repeat' split) <;> omega
theorem full_ne {sizes : List Int} (h : ∀ s ∈ sizes, 1 ≤ s ∧ s ≤ 6) : ∀ s ∈ fullS sizes, s ≠ [] := fun s hs => by
 obtain ⟨x, hx, rfl⟩ := List.mem_map.mp hs
 have := h x hx
 exact rngI_ne (by omega)
theorem full_eq {sizes : List Int} (h : ∀ s ∈ sizes, 1 ≤ s ∧ s ≤ 6) : tZfull sizes = some (fullS sizes) := by
 unfold tZfull
 rw [mapT_map (g := fun s => rngI 0 s.toNat) sizes fun s hs => ?_]
 · rfl
 · unfold fcZfull_1
   have := h s hs
   rw [rngT_ok' (by omega) (by omega)]; rfl
def RowsOk (m : Nat) (s : Int) (rs : List (List Int)) : Prop := (rs.length : Int) = s ∧ ∀ row ∈ rs, row.length = m
abbrev WOk (m : Nat) (sizes : List Int) (W : W3) : Prop := All2 (RowsOk m) sizes W
theorem All2.snoc {α β : Type} {P : α → β → Prop} {xs : List α} {ys : List β} {x : α} {y : β} (h : All2 P xs ys) (k : P x y) : All2 P (xs ++ [x]) (ys ++ [y]) := by
 induction h with
 | nil => exact .cons k .nil
 | cons h _ ih => exact .cons h ih
theorem All2.len {α β : Type} {P : α → β → Prop} {xs : List α} {ys : List β} (h : All2 P xs ys) : ys.length = xs.length := forall2_len h
theorem All2.set {α β : Type} {P : α → β → Prop} {xs : List α} {ys : List β} (h : All2 P xs ys) : ∀ {i : Nat} {x : α} {y : β}, xs[i]? = some x → P x y → All2 P xs (ys.set i y) := by
 induction h with
 | nil => intro i x y e; simp at e
 | cons h t ih =>
  intro i x y e k
  cases i with
  | zero => cases e; exact .cons k t
  | succ i => exact .cons h (ih e k)
theorem All2.get {α β : Type} {P : α → β → Prop} {xs : List α} {ys : List β} (h : All2 P xs ys) : ∀ {i : Nat} {x : α}, xs[i]? = some x → ∃ y, ys[i]? = some y ∧ P x y := by
 induction h with
 | nil => intro i x e; simp at e
 | cons h t ih =>
  intro i x e
  cases i with
  | zero => cases e; exact ⟨_, rfl, h⟩
  | succ i => exact ih e
abbrev Plan : Type := W3 × List Int × List Int × Option QT
structure PlanOk (cap m : Nat) (r : Plan) : Prop where
 sz : SizesOk cap r.2.1
 m1 : 1 ≤ m
 mc : m ≤ cap + 4
 w : WOk m r.2.1 r.1
 tl : r.2.2.1.length = (combos (fullS r.2.1)).length
 tb : ∀ x ∈ r.2.2.1, 0 ≤ x ∧ x < (m : Int)
 tree : ∀ t, r.2.2.2 = some t → FitsT t (fullS r.2.1) ∧ depth t < 9 ∧ r.2.2.1 = (combos (fullS r.2.1)).map (hon t)
end My
namespace My
open PySem Dl Tl
open L2 (ixN atI)
def idxF (at_ : Int) (p : Int × Int) : Int := at_ * p.2 + p.1
def idx (sizes c : List Int) : Int := (List.zip c sizes).foldl idxF 0
def Plan.out (r : Plan) (c : List Int) : Int := r.2.2.1.getD (idx r.2.1 c).toNat 0
def Plan.wo (r : Plan) (p s o : Int) : Int := ((r.1.getD p.toNat []).getD s.toNat []).getD o.toNat 0
theorem idx_bd : ∀ {sizes c : List Int}, (∀ s ∈ sizes, 1 ≤ s) → inC c (fullS sizes) → ∀ a : Int, 0 ≤ a → a * (vol (fullS sizes) : Int) ≤ (List.zip c sizes).foldl idxF a ∧ (List.zip c sizes).foldl idxF a < (a + 1) * (vol (fullS sizes) : Int)
 | [], c, _, hc, a, h0 => by
  cases c with
  | nil => show a * 1 ≤ a ∧ a < (a + 1) * 1; omega
  | cons x c => cases hc
 | s :: sizes, [], _, hc, a, h0 => by cases hc
 | s :: sizes, x :: c, h, hc, a, h0 => by
  have hs := h s List.mem_cons_self
  obtain ⟨hx, hc'⟩ : x ∈ rngI 0 s.toNat ∧ inC c (fullS sizes) := hc
  obtain ⟨x0, x1⟩ := mem_rngI.mp hx
  have hm : 0 ≤ a * s := Int.mul_nonneg h0 (by omega)
  obtain ⟨i1, i2⟩ := idx_bd (sizes := sizes) (c := c) (fun y hy => h y (List.mem_cons_of_mem _ hy)) hc' (a * s + x) (by omega)
  have ev : ((vol (fullS (s :: sizes)) : Nat) : Int) = s * (vol (fullS sizes) : Int) := by
   show ((max 1 (rngI 0 s.toNat).length * vol (fullS sizes) : Nat) : Int) = _
   rw [rngI_len, Nat.max_eq_right (by omega), Int.natCast_mul]
   congr 1; omega
  have hV := vol_pos (fullS sizes)
  rw [ev]
  show _ ≤ (List.zip c sizes).foldl idxF (a * s + x) ∧ (List.zip c sizes).foldl idxF (a * s + x) < _
  generalize (vol (fullS sizes) : Int) = V at *
  have e1 : a * (s * V) = a * s * V := (Int.mul_assoc a s V).symm
  have e2 : (a + 1) * (s * V) = a * s * V + s * V := by rw [Int.add_mul, Int.one_mul, e1]
  have e3 : (a * s + x) * V = a * s * V + x * V := Int.add_mul _ _ _
  have e4 : (a * s + x + 1) * V = a * s * V + x * V + V := by rw [Int.add_mul, Int.one_mul, e3]
  have V0 : 0 ≤ V := by omega
  have h1 : 0 ≤ x * V := Int.mul_nonneg x0 V0
  have h2 : (x + 1) * V ≤ s * V := Int.mul_le_mul_of_nonneg_right (by omega) V0
  have h3 : (x + 1) * V = x * V + V := by rw [Int.add_mul, Int.one_mul]
  rw [e1, e2]
  omega
theorem combos_full_len : ∀ {ss : List (List Int)}, (∀ s ∈ ss, s ≠ []) → (combos ss).length = vol ss
 | [], _ => rfl
 | s :: ss, h => by
  rw [combos_cons]
  have hs : 1 ≤ s.length := List.length_pos_iff.mpr (h s List.mem_cons_self)
  rw [flatMap_len _ (combos ss).length s fun a _ => List.length_map _, combos_full_len fun x hx => h x (List.mem_cons_of_mem _ hx)]
  show _ = max 1 s.length * vol ss
  rw [Nat.max_eq_right hs]
section
variable {cap m : Nat} {r : Plan}
theorem PlanOk.pos1 (h : PlanOk cap m r) : ∀ s ∈ r.2.1, 1 ≤ s := fun s hs => (h.sz.pos s hs).1
theorem PlanOk.tlen (h : PlanOk cap m r) : r.2.2.1.length = vol (fullS r.2.1) := by rw [h.tl, combos_full_len (full_ne h.sz.pos)]
theorem PlanOk.idx (h : PlanOk cap m r) {c : List Int} (hc : inC c (fullS r.2.1)) : 0 ≤ My.idx r.2.1 c ∧ My.idx r.2.1 c < (r.2.2.1.length : Int) := by
 have := idx_bd h.pos1 hc 0 (Int.le_refl 0)
 rw [h.tlen]
 unfold My.idx
 omega
theorem PlanOk.out (h : PlanOk cap m r) {c : List Int} (hc : inC c (fullS r.2.1)) : atI r.2.2.1 (My.idx r.2.1 c) = some (r.out c) ∧ 0 ≤ r.out c ∧ r.out c < (m : Int) := by
 obtain ⟨h0, h1⟩ := h.idx hc
 obtain ⟨x, e1, e2⟩ := atI_i h0 h1
 have e3 : r.out c = x := by unfold Plan.out; rw [List.getD_eq_getElem?_getD, e2]; rfl
 rw [e3]
 exact ⟨e1, h.tb x (List.mem_of_getElem? e2)⟩
end
theorem asc_rngI (n : Nat) : Asc (rngI 0 n) := by
 unfold rngI Asc
 rw [List.pairwise_map]
 exact List.pairwise_lt_range.imp fun h => by omega
def InOk (s : Int) (side : List Int) : Prop := side ≠ [] ∧ side.Sublist (rngI 0 s.toNat)
abbrev Inside (sizes : List Int) (sides : List (List Int)) : Prop := All2 InOk sizes sides
theorem Inside.asc {sizes : List Int} {sides : List (List Int)} (h : Inside sizes sides) : sides.map My.asc = sides := by
 induction h with
 | nil => rfl
 | cons h _ ih => rw [List.map_cons, ih, asc_self ((asc_rngI _).sublist h.2)]
theorem Inside.get {sizes : List Int} {sides : List (List Int)} (h : Inside sizes sides) {i : Nat} {side : List Int} (e : sides[i]? = some side) : ∃ s, sizes[i]? = some s ∧ side ≠ [] ∧ (∀ x ∈ side, 0 ≤ x ∧ x < s) ∧ Asc side := by
 obtain ⟨s, h1, h2, h3⟩ := forall2_get h i side e
 refine ⟨s, h1, h2, fun x hx => ?_, (asc_rngI _).sublist h3⟩
 obtain ⟨x0, x1⟩ := mem_rngI.mp (h3.subset hx)
 omega
theorem Inside.ne {sizes : List Int} {sides : List (List Int)} (h : Inside sizes sides) : ∀ s ∈ sides, s ≠ [] := fun s hs => by
 obtain ⟨x, _, h1, _⟩ := forall2_mem h s hs
 exact h1
end My
namespace My
open PySem Dl Tl
open L2 (ixN atI)
theorem lMax_ex {ns : List Int} (h : ns ≠ []) : ∃ m, lMax ns = some m ∧ m ∈ ns ∧ ∀ y ∈ ns, y ≤ m := by
 cases ns with
 | nil => exact absurd rfl h
 | cons n ns => exact ⟨_, rfl, (foldMax ns n).1, (foldMax ns n).2⟩
def ddF (acc : List Int) (x : Int) : List Int := if x ∈ acc then acc else acc ++ [x]
def dd (l : List Int) : List Int := l.foldl ddF []
end My
namespace My
open PySem Dl Tl
open L2 (ixN atI)
structure SdOk (s : List Int) : Prop where
 asc : Asc s
 pos : ∀ x ∈ s, 0 ≤ x
 len : s.length ≤ 2 ^ 10
theorem SdOk.sub {s c : List Int} (h : SdOk s) (hs : c.Sublist s) : SdOk c := ⟨List.Pairwise.sublist hs h.asc, fun x hx => h.pos x (hs.subset hx), Nat.le_trans hs.length_le h.len⟩
theorem side_rng {n : Int} (h : n ≤ 2 ^ 10) : SdOk (rngI 0 n.toNat) := ⟨asc_rngI _, fun x hx => (mem_rngI.mp hx).1, by rw [rngI_len]; omega⟩
theorem sides_full {sizes : List Int} (h : ∀ s ∈ sizes, 1 ≤ s ∧ s ≤ 6) : ∀ s ∈ fullS sizes, SdOk s := fun s hs => by
 obtain ⟨x, hx, rfl⟩ := List.mem_map.mp hs
 exact side_rng (by have := h x hx; omega)
theorem sides_set {sides : List (List Int)} {p : Nat} {c : List Int} (h : ∀ s ∈ sides, SdOk s) (hc : SdOk c) : ∀ s ∈ sides.set p c, SdOk s := fun s hs => by
 rcases List.mem_or_eq_of_mem_set hs with h1 | h1
 · exact h s h1
 · rw [h1]; exact hc
theorem asc_nd1 {l : List Int} (h : Asc l) : l.Nodup := List.Pairwise.imp (fun z => by omega) h
theorem seen_t : ∀ (c seen : List Int), (seen ++ c).Nodup → (∀ x ∈ c, 0 ≤ x) → seen.length + c.length ≤ 2 ^ 20 → foldT tb_cells1 c seen = some (seen ++ c)
 | [], seen, _, _, _ => by rw [List.append_nil]; rfl
 | x :: c, seen, hn, hp, hl => by
  have h0 := hp x List.mem_cons_self
  have hx : x ∉ seen := fun z => by
   have := (List.nodup_append.mp hn).2.2 x z x List.mem_cons_self
   exact this rfl
  rw [List.length_cons] at hl
  show (tb_cells1 x seen).bind (foldT tb_cells1 c) = _
  have e : tb_cells1 x seen = some (seen ++ [x]) := by
   unfold tb_cells1
   rw [if_neg (by rintro (z | z); omega; exact hx z), gz_ok (by omega)]; rfl
  rw [e, Option.bind_some, seen_t c (seen ++ [x]) (by rw [List.append_assoc]; exact hn) (fun y hy => hp y (List.mem_cons_of_mem _ hy)) (by rw [List.length_append]; show _ + 1 + _ ≤ _; omega), List.append_assoc]
  rfl
theorem cells_fold : ∀ (l : List Br) (seen : List Int) (cells : List (List Int)), (seen ++ l.flatMap fun b => b.1).Nodup → (∀ b ∈ l, b.1 ≠ [] ∧ SdOk b.1) → seen.length + (l.flatMap fun b => b.1).length ≤ 2 ^ 20 → cells.length + l.length ≤ 2 ^ 20 →
  foldT (tb_cells2 t_ascending) l (seen, cells) = some (seen ++ l.flatMap fun b => b.1, cells ++ l.map fun b => b.1)
 | [], seen, cells, _, _, _, _ => by simp [foldT]
 | b :: l, seen, cells, hn, hb, h1, h2 => by
  obtain ⟨hb1, hb2⟩ := hb b List.mem_cons_self
  rw [List.flatMap_cons] at hn h1
  rw [List.length_append] at h1
  rw [List.length_cons] at h2
  have hl := hb2.len
  have hn1 : (seen ++ b.1).Nodup := by
   rw [← List.append_assoc] at hn
   exact (List.nodup_append.mp hn).1
  have e : tb_cells2 t_ascending b (seen, cells) = some (seen ++ b.1, cells ++ [b.1]) := by
   unfold tb_cells2
   dsimp only
   rw [if_neg (by rintro (z | z); exact hb1 z; omega), seen_t b.1 seen hn1 hb2.pos (by omega), Option.bind_some, ascending_eq (show (false, b.1).2.length ≤ _ from (show b.1.length ≤ _ by omega)), Option.bind_some, gz_ok (by omega)]
   show some (seen ++ b.1, cells ++ [asc b.1]) = _
   rw [asc_self hb2.asc]
  show (tb_cells2 t_ascending b (seen, cells)).bind (foldT _ l) = _
  rw [e, Option.bind_some, cells_fold l (seen ++ b.1) (cells ++ [b.1]) (by rw [List.append_assoc]; exact hn) (fun b' hb' => hb b' (List.mem_cons_of_mem _ hb')) (by rw [List.length_append]; omega) (by rw [List.length_append]; show _ + 1 + _ ≤ _; omega)]
  rw [List.append_assoc, List.append_assoc, List.flatMap_cons]
  rfl
theorem cells_t {l : List Br} {side : List Int} (hs : SdOk side) (hq : (l.flatMap fun b => b.1).Perm side) (hn : ∀ b ∈ l, b.1 ≠ []) (hsub : ∀ b ∈ l, b.1.Sublist side) (hl : l.length ≤ 2 ^ 10) : t_cells t_ascending l = some (l.map fun b => b.1) := by
 have hlen := hq.length_eq
 have hsl := hs.len
 unfold t_cells
 rw [cells_fold l [] [] (by rw [List.nil_append]; exact (hq.nodup_iff).mpr (asc_nd1 hs.asc)) (fun b hb => ⟨hn b hb, hs.sub (hsub b hb)⟩) (by show 0 + _ ≤ _; omega) (by show 0 + _ ≤ _; omega)]
 rfl
theorem perm_len {l : List Br} {side : List Int} (hq : (l.flatMap fun b => b.1).Perm side) (hn : ∀ b ∈ l, b.1 ≠ []) : l.length ≤ side.length := by
 rw [← hq.length_eq]
 clear hq
 induction l with
 | nil => exact Nat.le_refl _
 | cons b l ih =>
  have h1 : 1 ≤ b.1.length := by
   have := hn b List.mem_cons_self
   cases h : b.1 with
   | nil => exact absurd h this
   | cons x xs => rw [List.length_cons]; omega
  have := ih fun b' hb => hn b' (List.mem_cons_of_mem _ hb)
  rw [List.flatMap_cons, List.length_append, List.length_cons]; omega
theorem chk_fold {tc : QT → List Int → Option QT} {brs : List Br} {path : List Int} (hp : path.length + 1 ≤ 2 ^ 20) (hb : brs.length ≤ 2 ^ 20) : ∀ (l pre : List Br), brs = pre ++ l → (∀ b ∈ l, ∀ i : Int, tc b.2 (path ++ [i]) = some b.2) →
  foldT (tb_checked tc brs path) ((((l.map fun b => b.1)).zipIdx pre.length).map fun p => (((p.2 : Nat) : Int), p.1)) pre = some brs
 | [], pre, e, _ => by rw [e, List.append_nil]; rfl
 | b :: l, pre, e, h => by
  have h1 : atI brs ((pre.length : Nat) : Int) = some b := by rw [atI_nat, e]; simp
  have h2 : tb_checked tc brs path (((pre.length : Nat) : Int), b.1) pre = some (pre ++ [b]) := by
   have := congrArg List.length e
   rw [List.length_append, List.length_cons] at this
   unfold tb_checked
   dsimp only
   rw [h1, Option.bind_some, gz_ok hp, Option.bind_some, h b List.mem_cons_self, Option.bind_some, gz_ok (by omega)]; rfl
  rw [List.map_cons, List.zipIdx_cons, List.map_cons]
  show (tb_checked tc brs path (((pre.length : Nat) : Int), b.1) pre).bind (foldT _ _) = _
  rw [h2, Option.bind_some]
  have := chk_fold (tc := tc) hp hb l (pre ++ [b]) (by rw [List.append_assoc]; exact e) fun b' hb' => h b' (List.mem_cons_of_mem _ hb')
  rw [List.length_append] at this
  exact this
theorem enuT_ok {α : Type} {xs : List α} (h : xs.length ≤ 2 ^ 20) : enuT xs = some (xs.zipIdx.map fun p => (((p.2 : Nat) : Int), p.1)) := if_pos (by omega)
theorem checked_ok : ∀ (n : Nat) (t : QT) (sides : List (List Int)) (path : List Int), FitsT t sides → (∀ s ∈ sides, SdOk s) → depth t < n → (∀ x ∈ leaves t, 0 ≤ x) → path.length + n ≤ 2 ^ 10 → Tl.t_checked t_ascending n t path = some t
 | 0, _, _, _, _, _, h, _, _ => absurd h (Nat.not_lt_zero _)
 | n + 1, .fin v, sides, path, _, _, _, hv, _ => by
  unfold Tl.t_checked
  exact if_pos (hv v (by unfold leaves; exact List.mem_singleton.mpr rfl))
 | n + 1, .ask p bs, sides, path, hf, hs, hd, hv, hp => by
  cases hf with
  | ask p bs sides side hp' h2 hq hn hsub hr =>
   have hside := hs side (List.mem_of_getElem? hp')
   have hl := perm_len hq hn
   have hsl := hside.len
   unfold Tl.t_checked
   rw [if_neg (by omega), cells_t hside hq hn hsub (by omega), Option.bind_some, enuT_ok (by rw [List.length_map]; omega), Option.bind_some]
   have := chk_fold (tc := Tl.t_checked t_ascending n) (brs := bs.l) (path := path) (by omega) (by omega) bs.l [] rfl fun b hb i => by
    have hdb := depth_ask (p := (p : Int)) hb
    refine checked_ok n b.2 (sides.set p b.1) (path ++ [i]) (hr b hb) (sides_set hs (hside.sub (hsub b hb))) (by omega) (fun x hx => hv x ?_) (by rw [List.length_append]; show _ + 1 + _ ≤ _; omega)
    rw [leaves_ask]
    exact List.mem_flatMap.mpr ⟨b, hb, hx⟩
   rw [show ([] : List Br).length = 0 from rfl] at this
   rw [this, Option.bind_some, QTs.of_l]
theorem depths_ex : ∀ {bs : QTs}, bs.l ≠ [] → ∃ b ∈ bs.l, depth b.2 = depths bs
 | .nil, h => absurd rfl h
 | .cons c t .nil, _ => ⟨(c, t), List.mem_cons_self, by unfold depths depths; simp⟩
 | .cons c t (.cons c' t' r), _ => by
  obtain ⟨b, hb, e⟩ := depths_ex (bs := .cons c' t' r) (by intro z; unfold QTs.l at z; cases z)
  rw [depths]
  by_cases h : depth t ≤ depths (.cons c' t' r)
  · exact ⟨b, List.mem_cons_of_mem _ hb, by rw [e]; omega⟩
  · exact ⟨(c, t), List.mem_cons_self, by show depth t = _; omega⟩
theorem length_t : ∀ (n : Nat) (t : QT) (sides : List (List Int)), FitsT t sides → depth t < n → t_length_of n t = some ((depth t : Nat) : Int)
 | 0, _, _, _, h => absurd h (Nat.not_lt_zero _)
 | n + 1, .fin v, sides, _, _ => by
  show ts_length_of _ _ = _
  unfold ts_length_of depth
  rfl
 | n + 1, .ask p bs, sides, hf, hd => by
  cases hf with
  | ask p bs sides side hp' h2 hq hn hsub hr =>
   show ts_length_of (t_length_of n) (.ask (p : Int) bs) = _
   unfold ts_length_of
   rw [tag_ask, if_neg Bool.false_ne_true]
   show ((some bs.l).bind _) = _
   have hm : mapT (fc_length_of_1 (t_length_of n) (.ask (p : Int) bs)) bs.l = some (bs.l.map fun b => ((depth b.2 : Nat) : Int)) := by
    refine mapT_map bs.l fun b hb => ?_
    have hdb := depth_ask (p := (p : Int)) hb
    unfold fc_length_of_1
    rw [length_t n b.2 _ (hr b hb) (by omega)]; rfl
   have hne : bs.l ≠ [] := by intro z; rw [z] at h2; simp at h2
   obtain ⟨b0, hb0, e0⟩ := depths_ex hne
   obtain ⟨m, e1, e2, e3⟩ := lMax_ex (ns := bs.l.map fun b => ((depth b.2 : Nat) : Int)) (by intro z; exact hne (List.map_eq_nil_iff.mp z))
   have em : m = ((depths bs : Nat) : Int) := by
    obtain ⟨b, hb, rfl⟩ := List.mem_map.mp e2
    have h1 := depths_le hb
    have h2 := e3 _ (List.mem_map.mpr ⟨b0, hb0, rfl⟩)
    omega
   rw [Option.bind_some, hm, Option.bind_some, e1, Option.bind_some, em]
   unfold depth
   congr 1
def treeOf (t : QT) : T_Tree := ⟨t, ((depth t : Nat) : Int)⟩
theorem tree_t {t : QT} {sides : List (List Int)} (hf : FitsT t sides) (hs : ∀ s ∈ sides, SdOk s) (hd : depth t < 9) (hv : ∀ x ∈ leaves t, 0 ≤ x) : t_Tree_DinitD t = some (treeOf t) := by
 unfold t_Tree_DinitD t_checked
 rw [checked_ok 12 t sides [] hf hs (by omega) hv (by decide), Option.bind_some]
 dsimp only
 rw [length_t 9 t sides hf hd]
 rfl
end My
namespace My
open PySem Dl Tl
open L2 (ixN atI)
theorem plain_mono : ∀ (n m : Nat) (d : D), plainN n d = true → n ≤ m → plainN m d = true
 | 0, _, _, h, _ => by cases h
 | n + 1, 0, _, _, h => absurd h (by omega)
 | n + 1, m + 1, d, h, hm => by
  cases d with
  | lst ds =>
   obtain ⟨h1, h2⟩ := Bool.and_eq_true_iff.mp (show (decide (ds.length ≤ 2 ^ 16) && ds.all (plainN n)) = true from h)
   show (decide (ds.length ≤ 2 ^ 16) && ds.all (plainN m)) = true
   rw [h1, Bool.true_and]
   exact List.all_eq_true.mpr fun x hx => plain_mono n m x (List.all_eq_true.mp h2 x hx) (by omega)
  | tup ds =>
   obtain ⟨h1, h2⟩ := Bool.and_eq_true_iff.mp (show (decide (ds.length ≤ 2 ^ 16) && ds.all (plainN n)) = true from h)
   show (decide (ds.length ≤ 2 ^ 16) && ds.all (plainN m)) = true
   rw [h1, Bool.true_and]
   exact List.all_eq_true.mpr fun x hx => plain_mono n m x (List.all_eq_true.mp h2 x hx) (by omega)
  | non => rfl
  | bl _ => rfl
  | int _ => rfl
  | str _ => exact h
  | _ => cases h
theorem plain_tup {n : Nat} {ds : List D} (h1 : ds.length ≤ 2 ^ 16) (h2 : ∀ d ∈ ds, plainN n d = true) : plainN (n + 1) (.tup ds) = true := by
 show (decide (ds.length ≤ 2 ^ 16) && ds.all (plainN n)) = true
 rw [decide_eq_true h1, Bool.true_and]
 exact List.all_eq_true.mpr h2
theorem plain_ints {n : Nat} {l : List Int} (h : l.length ≤ 2 ^ 16) : plainN (n + 2) (.tup (l.map D.int)) = true :=
 plain_tup (by rw [List.length_map]; exact h) fun d hd => by
  obtain ⟨x, _, rfl⟩ := List.mem_map.mp hd
  rfl
theorem plain_tree : ∀ (n : Nat) (t : QT) (sides : List (List Int)), FitsT t sides → (∀ s ∈ sides, SdOk s) → depth t < n → plainN (3 * n + 2) (e_tree t) = true
 | 0, _, _, _, _, h => absurd h (Nat.not_lt_zero _)
 | n + 1, .fin v, _, _, _, _ => by
  rw [e_tree_fin]
  refine plain_tup (n := 3 * n + 4) (by simp) fun d hd => ?_
  rcases List.mem_cons.mp hd with rfl | hd
  · exact ok_end
  · rw [List.mem_singleton.mp hd]; rfl
 | n + 1, .ask p bs, sides, hf, hs, hd => by
  cases hf with
  | ask p bs sides side hp' h2 hq hn hsub hr =>
   have hside := hs side (List.mem_of_getElem? hp')
   have hl := perm_len hq hn
   have hsl := hside.len
   rw [e_tree_a, e_trees_l]
   refine plain_tup (n := 3 * n + 4) (by simp) fun d hd' => ?_
   rcases List.mem_cons.mp hd' with rfl | hd'
   · exact ok_ask
   rcases List.mem_cons.mp hd' with rfl | hd'
   · rfl
   rw [List.mem_singleton.mp hd']
   refine plain_tup (n := 3 * n + 3) (by rw [List.length_map]; omega) fun d hd' => ?_
   obtain ⟨b, hb, rfl⟩ := List.mem_map.mp hd'
   have hdb := depth_ask (p := (p : Int)) hb
   refine plain_tup (n := 3 * n + 2) (by simp) fun d hd' => ?_
   rcases List.mem_cons.mp hd' with rfl | hd'
   · exact plain_ints (n := 3 * n) (by have := (hsub b hb).length_le; omega)
   rw [List.mem_singleton.mp hd']
   exact plain_tree n b.2 _ (hr b hb) (sides_set hs (hside.sub (hsub b hb))) (by omega)
theorem sameB_self (d : D) : sameB d d = true := by
 unfold sameB; simp
theorem same_self {d : D} (h : plainN 40 d = true) : tZsame d d = some true := by
 unfold tZsame
 rw [h, if_pos (by simp), sameB_self]
theorem same_tree {t : QT} {sides : List (List Int)} (hf : FitsT t sides) (hs : ∀ s ∈ sides, SdOk s) (hd : depth t < 9) : tZsame (e_tree t) (e_tree t) = some true :=
 same_self (plain_mono _ _ _ (plain_tree 9 t sides hf hs hd) (by decide))
end My
namespace My
open PySem Dl Tl
open L2 (ixN atI)
def goT : QT → List Int → Option QT
 | t, [] => some t
 | .fin _, _ :: _ => none
 | .ask _ bs, i :: r => (atI bs.l i).bind fun b => goT b.2 r
theorem goT_nil (t : QT) : goT t [] = some t := by cases t <;> rfl
theorem goT_snoc : ∀ (path : List Int) (t : QT) (i : Int), goT t (path ++ [i]) = (goT t path).bind fun u => goT u [i]
 | [], t, i => by rw [goT_nil]; rfl
 | j :: r, .fin _, i => rfl
 | j :: r, .ask p bs, i => by
  show ((atI bs.l j).bind fun b => goT b.2 (r ++ [i])) = ((atI bs.l j).bind fun b => goT b.2 r).bind fun u => goT u [i]
  cases atI bs.l j with
  | none => rfl
  | some b => exact goT_snoc r b.2 i
theorem rowsAt_t : ∀ (path : List Int) (t : QT), t_rows_at t path = goT t path := fun path t => by
 have h : ∀ (path : List Int) (t : QT), foldT tb_rows_at_1 path t = goT t path := by
  intro path
  induction path with
  | nil => intro t; rw [goT_nil]; rfl
  | cons i r ih =>
   intro t
   show (tb_rows_at_1 i t).bind (foldT tb_rows_at_1 r) = _
   cases t with
   | fin n => rfl
   | ask p bs =>
    unfold tb_rows_at_1
    show ((some bs.l).bind _).bind _ = (atI bs.l i).bind fun b => goT b.2 r
    rw [Option.bind_some]
    cases atI bs.l i with
    | none => rfl
    | some b => exact ih b.2
 unfold t_rows_at
 rw [h]
 cases goT t path <;> rfl
theorem lawAt_t : ∀ (n : Nat) (path : List Int) (t : QT), path.length < n → n ≤ 2 ^ 20 → tZat n t path = goT t path
 | 0, _, _, h, _ => absurd h (Nat.not_lt_zero _)
 | n + 1, [], t, _, _ => by
  show tsZat _ _ _ = _
  unfold tsZat
  rw [goT_nil]; rfl
 | n + 1, i :: r, t, h, hn => by
  rw [List.length_cons] at h
  show tsZat _ _ _ = _
  unfold tsZat
  rw [decide_eq_false (by rw [List.length_cons]; omega), if_neg Bool.false_ne_true]
  cases t with
  | fin v => rfl
  | ask p bs =>
   show ((some bs.l).bind _) = (atI bs.l i).bind fun b => goT b.2 r
   have h0 : atI (i :: r) (0 : Int) = some i := atI_nat (k := 0)
   have h1 : cutD (i :: r) (some (1 : Int)) none = r := cut1 i r
   rw [Option.bind_some, h0, Option.bind_some, h1]
   cases atI bs.l i with
   | none => rfl
   | some b =>
    show (tZat n b.2 r).bind _ = goT b.2 r
    rw [lawAt_t n r b.2 (by omega) (by omega)]
    cases goT b.2 r <;> rfl
def partyOf : QT → Option Int
 | .fin _ => none
 | .ask p _ => some p
def outOf : QT → Option Int
 | .fin n => some n
 | .ask _ _ => none
def cellsOf : QT → List (List Int)
 | .fin _ => []
 | .ask _ bs => bs.l.map fun b => b.1
def hsO (h : List (Int × Int × Bool)) : List (Option Int × Int × Bool) := h.map fun x => (some x.1, x.2.1, x.2.2)
def Rnd (T : QT) (a b : Int) (path : List Int) (h : List (Int × Int × Bool)) (sil : Int) : T_Round := ⟨T, a, b, path, hsO h, sil⟩
section
variable {T t : QT} {a b sil : Int} {path : List Int} {h : List (Int × Int × Bool)}
theorem party_t (g : goT T path = some t) : t_Round_party (Rnd T a b path h sil) = some (partyOf t, Rnd T a b path h sil) := by
 unfold t_Round_party Rnd
 dsimp only
 rw [rowsAt_t, g, Option.bind_some]
 cases t with
 | fin n => rw [tag_fin, if_pos rfl]; rfl
 | ask p bs => rw [tag_ask, if_neg Bool.false_ne_true]; rfl
theorem outcome_r (g : goT T path = some t) : t_Round_outcome (Rnd T a b path h sil) = some (outOf t, Rnd T a b path h sil) := by
 unfold t_Round_outcome Rnd
 dsimp only
 rw [rowsAt_t, g, Option.bind_some]
 cases t with
 | fin n => rw [tag_fin, if_pos rfl]; rfl
 | ask p bs => rw [tag_ask, if_neg Bool.false_ne_true]; rfl
theorem cells_r (g : goT T path = some t) : t_Round_cells (Rnd T a b path h sil) = some (cellsOf t, Rnd T a b path h sil) := by
 unfold t_Round_cells Rnd
 dsimp only
 rw [rowsAt_t, g, Option.bind_some]
 cases t with
 | fin n => rw [tag_fin, if_pos rfl]; rfl
 | ask p bs => rw [tag_ask, if_neg Bool.false_ne_true]; rfl
theorem plain_hist (hl : h.length ≤ 2 ^ 16) : plainN 40 (.tup (h.map fun x => D.tup [.int x.1, .int x.2.1, .bl x.2.2])) = true :=
 plain_tup (n := 39) (by rw [List.length_map]; exact hl) fun d hd => by
  obtain ⟨x, _, rfl⟩ := List.mem_map.mp hd
  refine plain_tup (n := 38) (by simp) fun d hd => ?_
  rcases List.mem_cons.mp hd with rfl | hd
  · rfl
  rcases List.mem_cons.mp hd with rfl | hd
  · rfl
  rw [List.mem_singleton.mp hd]; rfl
theorem plain_cells {cs : List (List Int)} (hl : cs.length ≤ 2 ^ 16) (hc : ∀ c ∈ cs, c.length ≤ 2 ^ 16) : plainN 40 (.tup (cs.map fun c => D.tup (c.map D.int))) = true :=
 plain_tup (n := 39) (by rw [List.length_map]; exact hl) fun d hd => by
  obtain ⟨c, hc', rfl⟩ := List.mem_map.mp hd
  exact plain_ints (n := 37) (hc c hc')
theorem same_int (i : Int) : tZsame (.int i) (.int i) = some true := same_self rfl
theorem same_path (hp : path.length ≤ 2 ^ 10) : tZsame (D.tup (List.map D.int path)) (D.tup (List.map D.int path)) = some true := same_self (plain_ints (n := 38) (by omega))
theorem same_hist (hl : h.length ≤ 2 ^ 10) : tZsame (D.tup (List.map (fun (x : ((Option Int) × Int × Bool)) => (D.tup [(eO D.int x.1), (.int x.2.1), (.bl x.2.2)])) (hsO h))) (D.tup (List.map (fun (x : (Int × Int × Bool)) => (D.tup [(.int x.1), (.int x.2.1), (.bl x.2.2)])) h)) = some true := by
 have e : List.map (fun (x : ((Option Int) × Int × Bool)) => (D.tup [(eO D.int x.1), (.int x.2.1), (.bl x.2.2)])) (hsO h) = List.map (fun (x : (Int × Int × Bool)) => (D.tup [(.int x.1), (.int x.2.1), (.bl x.2.2)])) h := by
  unfold hsO
  rw [List.map_map]; rfl
 rw [e]
 exact same_self (plain_hist (by omega))
def Fits (t : QT) : Prop := ∃ sides, FitsT t sides ∧ ∀ s ∈ sides, SdOk s
theorem fits_ask {p : Int} {bs : QTs} (f : Fits (.ask p bs)) : (∃ q : Nat, p = (q : Int)) ∧ 2 ≤ bs.l.length ∧ bs.l.length ≤ 2 ^ 10 ∧ (∀ b ∈ bs.l, Fits b.2 ∧ b.1 ≠ [] ∧ b.1.length ≤ 2 ^ 10 ∧ ∀ x ∈ b.1, 0 ≤ x) ∧ (bs.l.flatMap fun b => b.1).Nodup := by
 obtain ⟨sides, f, hs⟩ := f
 cases f with
 | ask p bs sides side hp h2 hq hn hsub hr =>
  have hside := hs side (List.mem_of_getElem? hp)
  have hl := perm_len hq hn
  have hsl := hside.len
  exact ⟨⟨p, rfl⟩, h2, by omega, fun b hb => ⟨⟨_, hr b hb, sides_set hs (hside.sub (hsub b hb))⟩, hn b hb, (hside.sub (hsub b hb)).len, (hside.sub (hsub b hb)).pos⟩, (hq.nodup_iff).mpr (asc_nd1 hside.asc)⟩
theorem shows_t (g : goT T path = some t) (f : Fits t) (hp : path.length ≤ 8) (hl : h.length ≤ 2 ^ 10) : tZshows (Rnd T a b path h sil) T path h sil = some (true, Rnd T a b path h sil) := by
 unfold tZshows
 rw [lawAt_t 9 path T (by omega) (by decide), g, Option.bind_some]
 dsimp only
 rw [show (Rnd T a b path h sil).path = path from rfl, show (Rnd T a b path h sil).history = hsO h from rfl, show (Rnd T a b path h sil).silences = sil from rfl]
 rw [same_path (by omega), Option.bind_some, if_neg (by decide), same_hist hl, Option.bind_some, Option.bind_some, if_neg (by decide), same_int, Option.bind_some, if_neg (by decide)]
 cases t with
 | fin n =>
  rw [tag_fin, if_pos rfl, party_t g, Option.bind_some, if_neg (by simp [partyOf]), cells_r g, Option.bind_some]
  have e : tZsame (D.tup (List.map (fun x => D.tup (List.map D.int x)) (cellsOf (QT.fin n)))) (D.tup (List.map D.int ([] : List Int))) = some true := same_self rfl
  rw [e, Option.bind_some, Option.bind_some, if_neg (by simp), outcome_r g, Option.bind_some]
  have e2 : tZsame (eO D.int (outOf (QT.fin n))) (D.int (QT.num (QT.fin n))) = some true := same_int n
  rw [e2]; rfl
 | ask p bs =>
  obtain ⟨_, _, hb, hc, _⟩ := fits_ask f
  rw [tag_ask, if_neg Bool.false_ne_true, party_t g, Option.bind_some]
  have e2 : tZsame (eO D.int (partyOf (QT.ask p bs))) (D.int (QT.num (QT.ask p bs))) = some true := same_int p
  rw [e2, Option.bind_some, if_neg (by decide), outcome_r g, Option.bind_some, Option.bind_some, if_neg (by simp [outOf]), cells_r g, Option.bind_some]
  show ((some bs.l).bind _) = _
  rw [Option.bind_some]
  have e3 : tZsame (D.tup (List.map (fun x => D.tup (List.map D.int x)) (cellsOf (QT.ask p bs)))) (D.tup (List.map (fun x => D.tup (List.map D.int x)) (List.map (fun (v18 : List Int × QT) => v18.1) bs.l))) = some true := by
   refine same_self (plain_cells (by show (bs.l.map _).length ≤ _; rw [List.length_map]; omega) fun c hc' => ?_)
   obtain ⟨b', hb', rfl⟩ := List.mem_map.mp hc'
   have := (hc b' hb').2.2.1
   omega
  rw [e3]; rfl
end
theorem is_integer_eq (i : Int) : t_is_integer i = some true := rfl
section
variable {T : QT} {a c sil p : Int} {bs : QTs} {path : List Int} {h : List (Int × Int × Bool)}
theorem goOn_t (g : goT T path = some (.ask p bs)) (hp : path.length ≤ 2 ^ 10) (hl : h.length ≤ 2 ^ 10) (i : Int) (said : Bool) : t_Round_go_on (Rnd T a c path h sil) i said = some (Rnd T a c (path ++ [i]) (h ++ [(p, i, said)]) 0) := by
 unfold t_Round_go_on
 rw [party_t g, Option.bind_some]
 have hh : (hsO h).length = h.length := List.length_map _
 rw [gz_ok (by show (hsO h ++ _).length ≤ _; rw [List.length_append, hh]; show _ + 1 ≤ _; omega), Option.bind_some]
 dsimp only
 rw [gz_ok (by show (path ++ _).length ≤ _; rw [List.length_append]; show _ + 1 ≤ _; omega), Option.bind_some]
 show some (⟨T, a, c, path ++ [i], hsO h ++ [(some p, i, said)], 0⟩ : T_Round) = some (⟨T, a, c, path ++ [i], hsO (h ++ [(p, i, said)]), 0⟩ : T_Round)
 unfold hsO
 rw [List.map_append]; rfl
theorem say_t (g : goT T path = some (.ask p bs)) (hp : path.length ≤ 2 ^ 10) (hl : h.length ≤ 2 ^ 10) {i : Int} {b : Br} (h0 : 0 ≤ i) (h1 : atI bs.l i = some b) (h2 : i < bs.l.length) : t_Round_say (Rnd T a c path h sil) p i = some (outOf b.2, Rnd T a c (path ++ [i]) (h ++ [(p, i, true)]) 0) := by
 have g2 : goT T (path ++ [i]) = some b.2 := by
  rw [goT_snoc, g, Option.bind_some]
  show ((atI bs.l i).bind fun b => goT b.2 []) = _
  rw [h1, Option.bind_some, goT_nil]
 unfold t_Round_say
 rw [party_t g, Option.bind_some]
 dsimp only
 rw [if_neg (by simp [partyOf]), is_integer_eq, Option.bind_some, if_neg (by decide), party_t g, Option.bind_some, Option.bind_some]
 dsimp only
 rw [if_neg (by simp [partyOf]), is_number_eq, decide_eq_true h0, Option.bind_some, if_neg (by decide), cells_r g, Option.bind_some, Option.bind_some]
 dsimp only
 have hcl : (cellsOf (QT.ask p bs)).length = bs.l.length := List.length_map _
 rw [hcl, decide_eq_false (by omega), if_neg Bool.false_ne_true, goOn_t g hp hl, Option.bind_some, outcome_r g2]
 rfl
end
end My
namespace My
open PySem Dl Tl
open L2 (ixN atI)
abbrev St3 : Type := List Int × List (Int × Int × Bool) × Int
structure At (T : QT) (s : St3) : Prop where
 ex : ∃ t, goT T s.1 = some t ∧ Fits t ∧ depth t + s.1.length ≤ 8
 hl : s.2.1.length ≤ s.1.length
theorem At.len {T : QT} {s : St3} (h : At T s) : s.1.length ≤ 8 := by
 obtain ⟨t, _, _, h⟩ := h.ex
 omega
theorem At.shows {T : QT} {s : St3} (h : At T s) (a b : Int) : tZshows (Rnd T a b s.1 s.2.1 s.2.2) T s.1 s.2.1 s.2.2 = some (true, Rnd T a b s.1 s.2.1 s.2.2) := by
 obtain ⟨t, g, f, _⟩ := h.ex
 have := h.len
 have := h.hl
 exact shows_t g f (by omega) (by omega)
theorem same_bl (b : Bool) : tZsame (.bl b) (.bl b) = some true := same_self rfl
theorem At.next {T : QT} {path : List Int} {h : List (Int × Int × Bool)} {sil p i : Int} {bs : QTs} {br : Br} {q : Bool} (a : At T (path, h, sil)) (g : goT T path = some (.ask p bs)) (f : Fits (.ask p bs)) (hd : depth (.ask p bs) + path.length ≤ 8) {k : Nat} (hk : i = (k : Int)) (hb : bs.l[k]? = some br) : At T (path ++ [i], h ++ [(p, i, q)], 0) := by
 have hat : atI bs.l i = some br := by rw [hk, atI_nat]; exact hb
 obtain ⟨_, _, _, hc, _⟩ := fits_ask f
 have fb := (hc br (List.mem_of_getElem? hb)).1
 have hdb := depth_ask (p := p) (List.mem_of_getElem? hb)
 have hl := a.hl
 dsimp only at hl
 refine ⟨⟨br.2, ?_, fb, by rw [List.length_append]; show _ + (_ + 1) ≤ _; omega⟩, by rw [List.length_append, List.length_append]; show _ + 1 ≤ _ + 1; omega⟩
 rw [goT_snoc, g, Option.bind_some]
 show ((atI bs.l i).bind fun b => goT b.2 []) = _
 rw [hat, Option.bind_some, goT_nil]
theorem wait_t {T : QT} {a c sil p : Int} {bs : QTs} {path : List Int} {h : List (Int × Int × Bool)} (g : goT T path = some (.ask p bs)) (hp : path.length ≤ 2 ^ 10) (hl : h.length ≤ 2 ^ 10) : t_Round_wait (Rnd T a c path h sil) =
  some (if sil + 1 < a then (false, Rnd T a c path h (sil + 1)) else (true, Rnd T a c (path ++ [if (bs.l.length : Int) - 1 < c then (bs.l.length : Int) - 1 else c]) (h ++ [(p, if (bs.l.length : Int) - 1 < c then (bs.l.length : Int) - 1 else c, false)]) 0)) := by
 unfold t_Round_wait
 rw [party_t g, Option.bind_some]
 dsimp only
 rw [if_neg (by simp [partyOf])]
 show (if decide (sil + 1 < a) = true then some (false, Rnd T a c path h (sil + 1)) else (t_Round_cells (Rnd T a c path h (sil + 1))).bind _) = _
 by_cases hb : sil + 1 < a
 · rw [decide_eq_true hb, if_pos rfl, if_pos hb]
 · rw [decide_eq_false hb, if_neg Bool.false_ne_true, if_neg hb, cells_r g, Option.bind_some]
   have hcl : (cellsOf (QT.ask p bs)).length = bs.l.length := List.length_map _
   dsimp only
   rw [hcl, show (Rnd T a c path h sil).default = c from rfl, goOn_t g hp hl]
   rfl
theorem moved_t {T : QT} {s : St3} (h : At T s) {t : QT} (g : goT T s.1 = some t) (nt : ∀ n, t ≠ .fin n) (a c : Int) (hc0 : 0 ≤ c) {src : List Int} (hs : isSrc src) :
  OkP (tZmoved (Rnd T a c s.1 s.2.1 s.2.2) T s a c src) fun r => r.1 = true ∧ r.2.1 = Rnd T a c r.2.2.1.1 r.2.2.1.2.1 r.2.2.1.2.2 ∧ At T r.2.2.1 ∧ isSrc r.2.2.2 := by
 have hlen := h.len
 have hhl := h.hl
 obtain ⟨t', g', f, hd⟩ := h.ex
 rw [g] at g'; cases g'
 obtain ⟨path, hist, sil⟩ := s
 dsimp only at hlen hhl g hd ⊢
 unfold tZmoved
 dsimp only
 rw [lawAt_t 9 path T (by omega) (by decide), g, Option.bind_some]
 cases t with
 | fin n => exact absurd rfl (nt n)
 | ask p bs =>
  obtain ⟨⟨q, hq⟩, h2, hbl, hc, hn⟩ := fits_ask f
  show OkP ((some bs.l).bind _) _
  rw [Option.bind_some]
  refine OkP.bind (draw_is hs (n := 5) (by decide)) fun d hd1 => ?_
  obtain ⟨hs1, _, _⟩ := hd1
  refine OkP.iteB (fun _ => ?_) fun _ => ?_
  · refine OkP.bind (draw_is hs1 (n := (bs.l.length : Int) - 1 + 1) (by omega)) fun z hz => ?_
    obtain ⟨hs2, z0, z1⟩ := hz
    obtain ⟨k, hk⟩ : ∃ k : Nat, z.1 = (k : Int) := ⟨z.1.toNat, by omega⟩
    obtain ⟨br, hbr⟩ : ∃ br, bs.l[k]? = some br := ⟨_, List.getElem?_eq_getElem (by omega)⟩
    have hat : atI bs.l z.1 = some br := by rw [hk, atI_nat]; exact hbr
    rw [show QT.num (QT.ask p bs) = p from rfl, say_t g (by omega) (by omega) z0 hat (by omega), Option.bind_some]
    refine OkP.gz (by show hist.length + 1 ≤ _; omega) ?_
    refine OkP.bind (Q := fun v => v = (path, hist ++ [(p, z.1, true)], sil)) ⟨_, rfl, rfl⟩ fun v hv => ?_
    subst hv
    refine OkP.gz (by show path.length + 1 ≤ _; omega) ?_
    refine OkP.bind (Q := fun v => v = (path ++ [z.1], hist ++ [(p, z.1, true)], sil)) ⟨_, rfl, rfl⟩ fun v hv => ?_
    subst hv
    refine OkP.bind (Q := fun v => v = (path ++ [z.1], hist ++ [(p, z.1, true)], 0)) ⟨_, rfl, rfl⟩ fun v hv => ?_
    subst hv
    exact OkP.ret ⟨rfl, rfl, h.next g f hd hk hbr, hs2⟩
  · rw [wait_t g (by omega) (by omega), Option.bind_some]
    refine OkP.bind (Q := fun v => v = (path, hist, sil + 1)) ⟨_, rfl, rfl⟩ fun v hv => ?_
    subst hv
    by_cases hb : sil + 1 < a
    · rw [if_pos hb, if_pos (decide_eq_true hb)]
      dsimp only
      rw [same_bl, Option.bind_some]
      exact OkP.ret ⟨rfl, rfl, ⟨⟨_, g, f, hd⟩, hhl⟩, hs1⟩
    · rw [if_neg hb, if_neg (by dsimp only; rw [decide_eq_false hb]; decide)]
      dsimp only
      generalize hi : (if (bs.l.length : Int) - 1 < c then (bs.l.length : Int) - 1 else c) = i
      have hi0 : 0 ≤ i ∧ i < bs.l.length := by
       rw [← hi]
       split <;> omega
      obtain ⟨k, hk⟩ : ∃ k : Nat, i = (k : Int) := ⟨i.toNat, by omega⟩
      obtain ⟨br, hbr⟩ : ∃ br, bs.l[k]? = some br := ⟨_, List.getElem?_eq_getElem (by omega)⟩
      refine OkP.gz (by show hist.length + 1 ≤ _; omega) ?_
      refine OkP.bind (Q := fun v => v = (path, hist ++ [(p, i, false)], sil + 1)) ⟨_, rfl, rfl⟩ fun v hv => ?_
      subst hv
      refine OkP.gz (by show path.length + 1 ≤ _; omega) ?_
      refine OkP.bind (Q := fun v => v = (path ++ [i], hist ++ [(p, i, false)], sil + 1)) ⟨_, rfl, rfl⟩ fun v hv => ?_
      subst hv
      refine OkP.bind (Q := fun v => v = (path ++ [i], hist ++ [(p, i, false)], 0)) ⟨_, rfl, rfl⟩ fun v hv => ?_
      subst hv
      rw [same_bl, Option.bind_some]
      exact OkP.ret ⟨rfl, rfl, h.next g f hd hk hbr, hs1⟩
theorem atI_in {xs : List Int} {i : Int} (h0 : 0 ≤ i) (h1 : i < xs.length) (P : Int → Prop) (h : ∀ x ∈ xs, P x) : OkP (atI xs i) P := by
 obtain ⟨x, e, e2⟩ := atI_i h0 h1
 exact ⟨x, e, h x (List.mem_of_getElem? e2)⟩
theorem law_true (ns : List Int) : t_law ns = some true := by
 have c0 := cell_eq ns 0
 have c1 := cell_eq ns 1
 have c2 := cell_eq ns 2
 refine OkP.eq (P := fun b => b = true) ?_ fun b hb => hb
 unfold t_law
 rw [show (0 : Int) = ((0 : Nat) : Int) from rfl, show (1 : Int) = ((1 : Nat) : Int) from rfl, show (2 : Int) = ((2 : Nat) : Int) from rfl, c0, Option.bind_some]
 refine OkP.bind (source_is _) fun shape hshape => ?_
 dsimp only
 rw [c1, Option.bind_some]
 refine OkP.bind (Q := fun r => isSrc r.2 ∧ Fits r.1 ∧ depth r.1 < 9 ∧ (∃ sides, FitsT r.1 sides ∧ (∀ s ∈ sides, SdOk s)) ∧ (∀ x ∈ leaves r.1, 0 ≤ x)) ?_ fun T hT => ?_
 · unfold tZany_tree
   refine OkP.bind (sizes_ok hshape (st := 6) (cap := 24) (by decide) (by decide)) fun q hq => ?_
   obtain ⟨hsh, hz⟩ := hq
   have hne := full_ne hz.pos
   have hlf : (fullS q.1).length = q.1.length := List.length_map _
   have h7 := hz.n7
   have h1 := hz.n1
   have hcap : vol (fullS q.1) ≤ 24 := hz.cap
   have hms : meas (fullS q.1) < 9 := by
    have := meas_full hz.pos hcap
    have := gd_8 (vol (fullS q.1))
    omega
   have hso := sides_full hz.pos
   dsimp only
   rw [full_eq hz.pos, Option.bind_some]
   refine OkP.bind (source_is _) fun s1 hs1 => ?_
   refine OkP.bind (tree_ok 9 (fullS q.1) s1 [] hs1 hms hne (by omega) (by show 0 + _ ≤ _; omega)) fun T hT => ?_
   obtain ⟨hT1, hT2, hT3, k1, hk1, hk1', hk2, hk3⟩ := hT
   refine OkP.ret ⟨hsh, ⟨_, hT2, hso⟩, hT3, ⟨_, hT2, hso⟩, fun x hx => ?_⟩
   dsimp only at hx
   rw [hk3] at hx
   exact (mem_rngI.mp hx).1
 obtain ⟨hsh, fT, dT, ⟨sides, hf, hso⟩, lv⟩ := hT
 rw [c2, Option.bind_some]
 refine OkP.bind (source_is _) fun src hsrc => ?_
 refine OkP.bind (draw_is hsh (n := 6) (by decide)) fun d1 hd1 => ?_
 obtain ⟨hs1, d10, d11⟩ := hd1
 refine OkP.bind (atI_in d10 (by show d1.1 < 6; exact d11) (fun _ => True) fun _ _ => trivial) fun bound _ => ?_
 refine OkP.bind (draw_is hs1 (n := 6) (by decide)) fun d2 hd2 => ?_
 obtain ⟨hs2, d20, d21⟩ := hd2
 refine OkP.bind (atI_in d20 (by show d2.1 < 6; exact d21) (fun x => 0 ≤ x) fun x hx => ?_) fun first hfirst => ?_
 · revert x; decide
 refine OkP.bind (draw_is hs2 (n := 4) (by decide)) fun d3 hd3 => ?_
 obtain ⟨hs3, d30, d31⟩ := hd3
 rw [tree_t hf hso dT lv, Option.bind_some]
 have e0 : tZsame (D.tup [.int ((3 : Int), (0 : Int)).1, .int ((3 : Int), (0 : Int)).2]) (D.tup [.int ((3 : Int), (0 : Int)).1, .int ((3 : Int), (0 : Int)).2]) = some true := same_self rfl
 have e0' : tZsame (D.tup [.int 3, .int 0]) (D.tup [.int 3, .int 0]) = some true := e0
 refine OkP.bindEq e0 ?_
 rw [if_neg (by decide)]
 have hst : ∃ a c : Int, 0 ≤ c ∧ tZstarted (treeOf T.1) d3.1 bound first = some (Rnd T.1 a c [] [] 0) ∧ (if (decide (d3.1 = (0 : Int)) || decide (d3.1 = (2 : Int))) = true then some (3 : Int) else some bound) = some a ∧ (if (decide (d3.1 = (0 : Int)) || decide (d3.1 = (1 : Int))) = true then some (0 : Int) else some first) = some c := by
  have hw : d3.1 = 0 ∨ d3.1 = 1 ∨ d3.1 = 2 ∨ d3.1 = 3 := by omega
  rcases hw with e | e | e | e <;> rw [e]
  · exact ⟨3, 0, by decide, rfl, rfl, rfl⟩
  · exact ⟨bound, 0, by decide, rfl, rfl, rfl⟩
  · exact ⟨3, first, hfirst, rfl, rfl, rfl⟩
  · exact ⟨bound, first, hfirst, rfl, rfl, rfl⟩
 obtain ⟨a, c, hc0, es, ea, ec⟩ := hst
 rw [es, Option.bind_some]
 refine OkP.bindEq ea ?_
 refine OkP.bindEq ec ?_
 refine OkP.bind (Q := fun v => v = ([], [], 0)) ⟨_, rfl, rfl⟩ fun st hst => ?_
 subst hst
 have a0 : At T.1 ([], [], 0) := ⟨⟨T.1, goT_nil _, fT, by show depth T.1 + 0 ≤ 8; omega⟩, Nat.le_refl _⟩
 have er : rngT (30 : Int) = some (rngI 0 30) := rngT_ok (n := 30) (by decide)
 rw [er, Option.bind_some]
 refine OkP.kR (P := fun (e : List Int × T_Round × St3) => At T.1 e.2.2 ∧ e.2.1 = Rnd T.1 a c e.2.2.1 e.2.2.2.1 e.2.2.2.2) (P' := fun r => r = true) ?_ (fun e he => ?_) fun r hr => OkP.ret hr
 · refine OkP.mono (OkP.forR (fun (_ : List Int) (e : List Int × T_Round × St3) => isSrc e.1 ∧ At T.1 e.2.2 ∧ e.2.1 = Rnd T.1 a c e.2.2.1 e.2.2.2.1 e.2.2.2.2) (fun r => r = true) [] (rngI 0 30) _ ⟨hsrc, a0, rfl⟩ fun pre k post e eq he => ?_) fun o ho => ?_
   · obtain ⟨src, game, state⟩ := e
     obtain ⟨he1, he2, he3⟩ := he
     dsimp only at he1 he2 he3
     subst he3
     unfold tb_law_1
     dsimp only
     have hlen := he2.len
     rw [he2.shows a c, Option.bind_some, if_neg (by simp)]
     obtain ⟨t, g, f, hd⟩ := he2.ex
     rw [lawAt_t 9 _ T.1 (by omega) (by decide), g, Option.bind_some]
     cases t with
     | fin n =>
      rw [tag_fin, if_pos rfl]
      exact OkP.ret (.inr ⟨_, rfl, rfl⟩)
     | ask p bs =>
      rw [tag_ask, if_neg Bool.false_ne_true]
      refine OkP.bind (moved_t he2 g (fun n z => by cases z) a c hc0 he1) fun r hr => ?_
      obtain ⟨h1, h2, h3, h4⟩ := hr
      rw [h1, if_neg (by decide)]
      exact OkP.ret (.inl ⟨_, rfl, h4, h3, h2⟩)
   · rcases ho with ⟨e', rfl, h1, h2, h3⟩ | h
     · exact .inl ⟨e', rfl, h2, h3⟩
     · exact .inr h
 · obtain ⟨he1, he2⟩ := he
   obtain ⟨src, game, state⟩ := e
   dsimp only at he1 he2 ⊢
   subst he2
   rw [he1.shows a c, Option.bind_some, if_pos rfl]
   have st : tZsame (e_tree (treeOf T.1).rows) (e_tree T.1) = some true := same_tree hf hso dT
   rw [st]
   exact OkP.ret rfl
end My
namespace My
open PySem L2 Dl
section
variable {P : Program} {w : World} {K : PySem.W.Frag} {mg : Str → Option Value} {base : Heap} {f : Addr} {k : Nat}
theorem scZcell : FnScope NZcell ["_law_script", "_law_k"] (defScope sZcell) := ⟨rfl, rfl, rfl, by decide +kernel, rfl, by decide +kernel, by decide +kernel⟩
theorem bZcell (h_len : mg "len" = none) : Body P w K mg base NZcell "_law_cell" (defScope sZcell) f (defBody sZcell) 2 (k + 1) (fZcell) := fun cdv A outer s H E hr => by
 have go : Go (cxOf (L2.CX P w) P w K mg base NZcell "_law_cell" (defScope sZcell) f cdv A outer s H E) (WB E) := go_def (CX := L2.CX P w) scZcell.nd hr
 have hu := go.rm
 exact (dl_cons (ds_if (dt_lt (de_v 1) (de_len h_len (da_cons (de_v 0) da_nil))) (dl_one (ds_rtA [0, 1] (ds_ret (de_ix (de_v 0) (de_v 1))))) dl_nil)
 (dl_one (ds_rtA [0, 1] (ds_ret de_int))))
theorem scZsource : FnScope NZsource ["_law_cell_here"] (defScope sZsource) := ⟨rfl, rfl, rfl, by decide +kernel, rfl, by decide +kernel, by decide +kernel⟩
theorem bZsource  : Body P w K mg base NZsource "_law_source" (defScope sZsource) f (defBody sZsource) 1 (k + 1) (fZsource) := fun cdv A outer s H E hr => by
 have go : Go (cxOf (L2.CX P w) P w K mg base NZsource "_law_source" (defScope sZsource) f cdv A outer s H E) (WB E) := go_def (CX := L2.CX P w) scZsource.nd hr
 have hu := go.rm
 exact (dl_cons (ds_if (dt_ge (de_v 0) (de_pow de_int de_int)) (dl_one (ds_rtA [0] (ds_ret (de_lst (da_cons (de_v 0) (da_cons de_int (da_cons (de_v 0) da_nil))))))) dl_nil)
 (dl_one (ds_rtA [0] (ds_ret (de_lst (da_cons de_int (da_cons de_int (da_cons (de_v 0) da_nil))))))))
theorem scZdraw : FnScope NZdraw ["_law_source_here", "_law_limit"] (defScope sZdraw) := ⟨rfl, rfl, rfl, by decide +kernel, rfl, by decide +kernel, by decide +kernel⟩
theorem bZdraw (h_int : mg "int" = none) : Body P w K mg base NZdraw "_law_draw" (defScope sZdraw) f (defBody sZdraw) 2 (k + 1) (fZdraw) := fun cdv A outer s H E hr => by
 have go : Go (cxOf (L2.CX P w) P w K mg base NZdraw "_law_draw" (defScope sZdraw) f cdv A outer s H E) (WB E) := go_def (CX := L2.CX P w) scZdraw.nd hr
 have hu := go.rm
 exact (dl_cons (ds_setIx (de_add (de_ix (de_v 0) de_int) de_int) (de_v 0) de_int)
 (dl_cons (ds_if (dt_gt (de_ix (de_v 0) de_int) de_int) (dl_cons (ds_set 3 go.nd (de_mod (de_int1 h_int (da_cons (de_ix (de_v 0) de_int) da_nil)) (de_v 1)))
 (dl_cons (ds_setIx (de_div (de_ix (de_v 0) de_int) (de_v 1)) (de_v 0) de_int)
 (dl_one (ds_rtA [1, 2, 3] (ds_ret (de_v 3)))))) dl_nil)
 (dl_cons (ds_set 2 go.nd (de_mod (de_int1 h_int (da_cons (de_add (de_mul (de_ix (de_v 0) de_int) de_int) (de_mul (de_ix (de_v 0) de_int) de_int)) da_nil)) de_int))
 (dl_cons (ds_set 2 go.nd (de_mod (de_int1 h_int (da_cons (de_add (de_add (de_mul (de_v 2) (de_v 2)) (de_mul (de_ix (de_v 0) de_int) de_int)) de_int) da_nil)) de_int))
 (dl_one (ds_rtA [1, 2, 3] (ds_ret (de_mod (de_int1 h_int (da_cons (de_add (de_div (de_v 2) de_int) (de_mul (de_v 2) de_int)) da_nil)) (de_v 1)))))))))
theorem scZsizes : FnScope NZsizes ["_law_source_here", "_law_parties", "_law_standings", "_law_cap"] (defScope sZsizes) := ⟨rfl, rfl, rfl, by decide +kernel, rfl, by decide +kernel, by decide +kernel⟩
theorem bZsizes {FZdraw : Fn} (h_int : mg "int" = none) (hZdraw : DF P w K mg base "_law_draw" k 2 FZdraw) (h_min : mg "min" = none) (h_range : mg "range" = none) (h_len : mg "len" = none) : Body P w K mg base NZsizes "_law_sizes" (defScope sZsizes) f (defBody sZsizes) 4 (k + 1) (fZsizes FZdraw) := fun cdv A outer s H E hr => by
 have go : Go (cxOf (L2.CX P w) P w K mg base NZsizes "_law_sizes" (defScope sZsizes) f cdv A outer s H E) (WB E) := go_def (CX := L2.CX P w) scZsizes.nd hr
 have hu := go.rm
 exact (dl_cons (ds_set 4 go.nd (de_min2 go h_min (da_cons (de_int1 h_int (da_cons (de_v 2) da_nil)) (da_cons (de_ix (de_lst (da_cons de_int (da_cons de_int (da_cons de_int (da_cons de_int da_nil))))) (de_call [true, false] go hZdraw (hr.mono (by omega)) rfl (da_cons (de_v 0) (da_cons de_int da_nil)))) da_nil))))
 (dl_cons (ds_set 5 go.nd (de_lst da_nil))
 (dl_cons (ds_set 6 go.nd de_int)
 (dl_cons (ds_for go (di_rng1 rfl h_range (da_cons (de_add de_int (de_call [true, false] go hZdraw (hr.mono (by omega)) rfl (da_cons (de_v 0) (da_cons (de_v 1) da_nil)))) da_nil)) (dg_name 7 go.nd) (dl_aft [(7, true), (9, true)] (dl_cons (ds_set 9 go.nd (de_add de_int (de_call [true, false] go hZdraw (hr.mono (by omega)) rfl (da_cons (de_v 0) (da_cons (de_v 4) da_nil)))))
 (dl_cons (ds_if (dt_gt (de_mul (de_v 6) (de_v 9)) (de_v 3)) (dl_one (ds_set 9 go.nd de_int)) dl_nil)
 (dl_cons (ds_set 6 go.nd (de_mul (de_v 6) (de_v 9)))
 (dl_one (ds_expr (de_append (de_v 5) (de_v 9)))))))))
 (dl_cons (ds_set 8 go.nd (de_call [true, false] go hZdraw (hr.mono (by omega)) rfl (da_cons (de_v 0) (da_cons (de_len h_len (da_cons (de_v 5) da_nil)) da_nil))))
 (dl_one (ds_rtA [1, 2, 3, 4, 5, 6, 7, 8, 9] (ds_ret (de_add (de_sl (de_v 5) (do_some (de_v 8)) do_no) (de_sl (de_v 5) do_no (do_some (de_v 8))))))))))))
theorem scZfull : FnScope NZfull ["_law_sizes_here"] (defScope sZfull) := ⟨rfl, rfl, rfl, by decide +kernel, rfl, by decide +kernel, by decide +kernel⟩
theorem bZfull (h_list : mg "list" = none) (h_range : mg "range" = none) : Body P w K mg base NZfull "_law_full" (defScope sZfull) f (defBody sZfull) 1 (k + 1) (fZfull) := fun cdv A outer s H E hr => by
 have go : Go (cxOf (L2.CX P w) P w K mg base NZfull "_law_full" (defScope sZfull) f cdv A outer s H E) (WB E) := go_def (CX := L2.CX P w) scZfull.nd hr
 have hu := go.rm
 exact (dl_one (ds_rtA [0, 1] (ds_ret (de_lc (g := (gN 1)) (tt := tYes') (te := (eLRg (eVar 1))) [("_law_size", 1)] go (di_seq (de_v 0)) (show BlkOk NZfull (defScope sZfull) _ _ from ⟨rfl, by decide +kernel, by decide +kernel, by decide +kernel, by decide +kernel⟩) (fun _ _ _ _ _ => (dg_name 1 go.blk.nd)) (fun _ _ _ _ _ => dts_nil) (fun _ _ _ _ _ => (de_lrg go.blk (hm := h_list) (hm2 := h_range) (ha := (de_v 1))))))))
theorem scZsplit : FnScope NZsplit ["_law_side", "_law_source_here"] (defScope sZsplit) := ⟨rfl, rfl, rfl, by decide +kernel, rfl, by decide +kernel, by decide +kernel⟩
theorem bZsplit {FZdraw : Fn} (hZdraw : DF P w K mg base "_law_draw" k 2 FZdraw) (h_len : mg "len" = none) (h_range : mg "range" = none) : Body P w K mg base NZsplit "_law_split" (defScope sZsplit) f (defBody sZsplit) 2 (k + 1) (fZsplit FZdraw) := fun cdv A outer s H E hr => by
 have go : Go (cxOf (L2.CX P w) P w K mg base NZsplit "_law_split" (defScope sZsplit) f cdv A outer s H E) (WB E) := go_def (CX := L2.CX P w) scZsplit.nd hr
 have hu := go.rm
 exact (dl_cons (ds_set 2 go.nd (de_lc (g := (gN 7)) (tt := tYes') (te := (eCall [true, false] FZdraw (aCons (eVar 1) (aCons (eC (.int 3)) aNil)))) [("_law_standing", 7)] go (di_seq (de_v 0)) (show BlkOk NZsplit (defScope sZsplit) _ _ from ⟨rfl, by decide +kernel, by decide +kernel, by decide +kernel, by decide +kernel⟩) (fun _ _ _ _ _ => (dg_name 7 go.blk.nd)) (fun _ _ _ _ _ => dts_nil) (fun _ _ _ _ _ => (de_call [true, false] go.blk hZdraw (hr.mono (by omega)) rfl (da_cons (de_v 1) (da_cons de_int da_nil))))))
 (dl_cons (ds_if (dt_lent (dt_eq hu (de_len h_len (da_cons (de_lc (g := (gN 4)) (tt := (tCmp (eEq (eVar 4) (eIx (eVar 2) (eC (.int 0)))))) (te := (eVar 4)) [("_law_mark", 4)] go (di_seq (de_v 2)) (show BlkOk NZsplit (defScope sZsplit) _ _ from ⟨rfl, by decide +kernel, by decide +kernel, by decide +kernel, by decide +kernel⟩) (fun _ _ _ _ _ => (dg_name 4 go.blk.nd)) (fun _ _ _ _ _ => (dts_one (dt_eq hu (de_v 4) (de_ix (de_v 2) de_int)))) (fun _ _ _ _ _ => (de_v 4))) da_nil)) (de_len h_len (da_cons (de_v 2) da_nil)))) (dl_aft [(5, true)] (dl_cons (ds_set 5 go.nd (de_call [true, false] go hZdraw (hr.mono (by omega)) rfl (da_cons (de_v 1) (da_cons (de_len h_len (da_cons (de_v 2) da_nil)) da_nil))))
 (dl_one (ds_setIx (de_add (de_ix (de_v 2) (de_v 5)) de_int) (de_v 2) (de_v 5))))) dl_nil)
 (dl_cons (ds_set 3 go.nd (de_lst da_nil))
 (dl_cons (ds_for go (di_rng1 rfl h_range (da_cons de_int da_nil)) (dg_name 4 go.nd) (dl_aft [(4, true), (6, true)] (dl_cons (ds_fz 6 (ds_setLc (g := (gN 8)) (tt := (tCmp (eEq (eIx (eVar 2) (eVar 8)) (eVar 4)))) (te := (eIx (eVar 0) (eVar 8))) 6 [("_law_k", 8)] rfl rfl rfl rfl rfl go (di_rng1 rfl h_range (da_cons (de_len h_len (da_cons (de_v 0) da_nil)) da_nil)) (show BlkOk NZsplit (defScope sZsplit) _ _ from ⟨rfl, by decide +kernel, by decide +kernel, by decide +kernel, by decide +kernel⟩) (fun _ _ _ _ _ => (dg_name 8 go.blk.nd)) (fun _ _ _ _ _ => (dts_one (dt_eq hu (de_ix (de_v 2) (de_v 8)) (de_v 4)))) (fun _ _ _ _ _ => (de_ix (de_v 0) (de_v 8)))))
 (dl_one (ds_if (dt_ne hu (de_v 6) (de_lst da_nil)) (dl_one (ds_expr (de_append (de_v 3) (de_v 6)))) dl_nil)))))
 (dl_one (ds_rtA [0, 2, 3, 4, 5, 6, 7, 8] (ds_ret (de_v 3))))))))
theorem scZtree : FnScope NZtree ["_law_sides", "_law_source_here", "_law_ends"] (defScope sZtree) := ⟨rfl, rfl, rfl, by decide +kernel, rfl, by decide +kernel, by decide +kernel⟩
theorem bZtree {FZdraw FZsplit FZtree : Fn} (h_len : mg "len" = none) (h_range : mg "range" = none) (hZdraw : DF P w K mg base "_law_draw" k 2 FZdraw) (hZsplit : DF P w K mg base "_law_split" k 2 FZsplit) (hZtree : DF P w K mg base "_law_tree" k 3 FZtree) (h_tuple : mg "tuple" = none) : Body P w K mg base NZtree "_law_tree" (defScope sZtree) f (defBody sZtree) 3 (k + 1) (fZtree FZdraw FZsplit FZtree) := fun cdv A outer s H E hr => by
 have go : Go (cxOf (L2.CX P w) P w K mg base NZtree "_law_tree" (defScope sZtree) f cdv A outer s H E) (WB E) := go_def (CX := L2.CX P w) scZtree.nd hr
 have hu := go.rm
 exact (dl_cons (ds_fz 3 (ds_setLc (g := (gN 8)) (tt := (tCmp (eGt (eB gLen (aCons (eIx (eVar 0) (eVar 8)) aNil)) (eC (.int 1))))) (te := (eVar 8)) 3 [("_law_p", 8)] rfl rfl rfl rfl rfl go (di_rng1 rfl h_range (da_cons (de_len h_len (da_cons (de_v 0) da_nil)) da_nil)) (show BlkOk NZtree (defScope sZtree) _ _ from ⟨rfl, by decide +kernel, by decide +kernel, by decide +kernel, by decide +kernel⟩) (fun _ _ _ _ _ => (dg_name 8 go.blk.nd)) (fun _ _ _ _ _ => (dts_one (dt_gt (de_len h_len (da_cons (de_ix (de_v 0) (de_v 8)) da_nil)) de_int))) (fun _ _ _ _ _ => (de_v 8))))
 (dl_cons (ds_if ((dw_or (dt_eq hu (de_v 3) (de_lst da_nil)) (dw_or1 (dt_eq hu (de_call [true, false] go hZdraw (hr.mono (by omega)) rfl (da_cons (de_v 1) (da_cons de_int da_nil))) de_int)))).t (dl_cons (ds_expr (de_append (de_v 2) (de_len h_len (da_cons (de_v 2) da_nil))))
 (dl_one (ds_rtA [0, 3, 4, 5, 6, 7, 8] (ds_ret (de_tup (da_cons de_str (da_cons (de_sub (de_len h_len (da_cons (de_v 2) da_nil)) de_int) da_nil))))))) dl_nil)
 (dl_cons (ds_set 4 go.nd (de_ix (de_v 3) (de_call [true, false] go hZdraw (hr.mono (by omega)) rfl (da_cons (de_v 1) (da_cons (de_len h_len (da_cons (de_v 3) da_nil)) da_nil)))))
 (dl_cons (ds_set 5 go.nd (de_lst da_nil))
 (dl_cons (ds_for go (di_seq (de_call [false, true] go hZsplit (hr.mono (by omega)) rfl (da_cons (de_ix (de_v 0) (de_v 4)) (da_cons (de_v 1) da_nil)))) (dg_name 6 go.nd) (dl_aft [(6, true), (7, true)] (dl_cons (ds_set 7 go.nd (de_call [false, true, true] go hZtree (hr.mono (by omega)) rfl (da_cons (de_add (de_add (de_sl (de_v 0) do_no (do_some (de_v 4))) (de_lst (da_cons (de_v 6) da_nil))) (de_sl (de_v 0) (do_some (de_add (de_v 4) de_int)) do_no)) (da_cons (de_v 1) (da_cons (de_v 2) da_nil)))))
 (dl_one (ds_expr (de_append (de_v 5) (de_tup (da_cons (de_tuple h_tuple (da_cons (de_v 6) da_nil)) (da_cons (de_v 7) da_nil)))))))))
 (dl_one (ds_rtA [0, 3, 4, 5, 6, 7, 8] (ds_ret (de_tup (da_cons de_str (da_cons (de_v 4) (da_cons (de_tuple h_tuple (da_cons (de_v 5) da_nil)) da_nil))))))))))))
theorem scZany_tree : FnScope NZany_tree ["_law_shape", "_law_second", "_law_cap"] (defScope sZany_tree) := ⟨rfl, rfl, rfl, by decide +kernel, rfl, by decide +kernel, by decide +kernel⟩
theorem bZany_tree {FZsizes FZfull FZsource FZtree : Fn} (hZsizes : DF P w K mg base "_law_sizes" k 4 FZsizes) (hZfull : DF P w K mg base "_law_full" k 1 FZfull) (hZsource : DF P w K mg base "_law_source" k 1 FZsource) (hZtree : DF P w K mg base "_law_tree" k 3 FZtree) : Body P w K mg base NZany_tree "_law_any_tree" (defScope sZany_tree) f (defBody sZany_tree) 3 (k + 1) (fZany_tree FZsizes FZfull FZsource FZtree) := fun cdv A outer s H E hr => by
 have go : Go (cxOf (L2.CX P w) P w K mg base NZany_tree "_law_any_tree" (defScope sZany_tree) f cdv A outer s H E) (WB E) := go_def (CX := L2.CX P w) scZany_tree.nd hr
 have hu := go.rm
 exact (dl_cons (ds_fz 3 (ds_set 3 go.nd (de_call [true, false, false, false] go hZsizes (hr.mono (by omega)) rfl (da_cons (de_v 0) (da_cons de_int (da_cons de_int (da_cons (de_v 2) da_nil)))))))
 (dl_one (ds_rtA [1, 2, 3] (ds_ret (de_callT2 [false, true, true] go hZtree (hr.mono (by omega)) rfl (dat_cons2 (de_call [false] go hZfull (hr.mono (by omega)) rfl (da_cons (de_v 3) da_nil)) (dat_tmp2 (de_call [false] go hZsource (hr.mono (by omega)) rfl (da_cons (de_v 1) da_nil)) (dat_tmp (de_lst da_nil) da_nil))))))))
theorem sc_is_integer : FnScope N_is_integer ["value"] (defScope s_is_integer) := ⟨rfl, rfl, rfl, by decide +kernel, rfl, by decide +kernel, by decide +kernel⟩
theorem b_is_integer (h_int : mg "int" = none) (h_isinstance : mg "isinstance" = none) (h_bool : mg "bool" = none) : Body P w K mg base N_is_integer "is_integer" (defScope s_is_integer) f (defBody s_is_integer) 1 (k + 1) (f_is_integer) := fun cdv A outer s H E hr => by
 have go : Go (cxOf (L2.CX P w) P w K mg base N_is_integer "is_integer" (defScope s_is_integer) f cdv A outer s H E) (WB E) := go_def (CX := L2.CX P w) sc_is_integer.nd hr
 have hu := go.rm
 exact (dl_one (ds_rtA [0] (ds_ret (de_and (de_isi h_isinstance (da_cons (de_v 0) (da_cons (de_tyN h_int PyProof.Rows.boot_int) da_nil))) (de_one (de_not (de_isi h_isinstance (da_cons (de_v 0) (da_cons (de_tyN h_bool PyProof.Rows.boot_bool) da_nil)))))))))
theorem sc_is_number : FnScope N_is_number ["value"] (defScope s_is_number) := ⟨rfl, rfl, rfl, by decide +kernel, rfl, by decide +kernel, by decide +kernel⟩
theorem b_is_number {F_is_integer : Fn} (h_is_integer : DF P w K mg base "is_integer" k 1 F_is_integer) : Body P w K mg base N_is_number "is_number" (defScope s_is_number) f (defBody s_is_number) 1 (k + 1) (f_is_number F_is_integer) := fun cdv A outer s H E hr => by
 have go : Go (cxOf (L2.CX P w) P w K mg base N_is_number "is_number" (defScope s_is_number) f cdv A outer s H E) (WB E) := go_def (CX := L2.CX P w) sc_is_number.nd hr
 have hu := go.rm
 exact (dl_one (ds_rtA [0] (ds_ret (de_and (de_call [false] go h_is_integer (hr.mono (by omega)) rfl (da_cons (de_v 0) da_nil)) (de_one (de_ge (de_v 0) de_int))))))
theorem sc_ascending : FnScope N_ascending ["numbers"] (defScope s_ascending) := ⟨rfl, rfl, rfl, by decide +kernel, rfl, by decide +kernel, by decide +kernel⟩
theorem b_ascending (h_int : mg "int" = none) (h_sorted : mg "sorted" = none) (h_tuple : mg "tuple" = none) : Body P w K mg base N_ascending "ascending" (defScope s_ascending) f (defBody s_ascending) 1 (k + 1) (f_ascending) := fun cdv A outer s H E hr => by
 have go : Go (cxOf (L2.CX P w) P w K mg base N_ascending "ascending" (defScope s_ascending) f cdv A outer s H E) (WB E) := go_def (CX := L2.CX P w) sc_ascending.nd hr
 have hu := go.rm
 exact (dl_cons (ds_set 1 go.nd (de_lst da_nil))
 (dl_cons (ds_for go (di_seq (de_sorted h_sorted (da_cons (de_lc (g := (gN 2)) (tt := tYes') (te := (eB gInt (aCons (eVar 2) aNil))) [("number", 2)] go (di_seq (de_v 0)) (show BlkOk N_ascending (defScope s_ascending) _ _ from ⟨rfl, by decide +kernel, by decide +kernel, by decide +kernel, by decide +kernel⟩) (fun _ _ _ _ _ => (dg_name 2 go.blk.nd)) (fun _ _ _ _ _ => dts_nil) (fun _ _ _ _ _ => (de_int1 h_int (da_cons (de_v 2) da_nil)))) da_nil))) (dg_name 2 go.nd) (dl_aft [(2, true)] (dl_one (ds_if ((dw_or (dt_not (dt_val (de_v 1))) (dw_or1 (dt_ne hu (de_ix (de_v 1) (de_neg de_int)) (de_v 2))))).t (dl_one (ds_expr (de_append (de_v 1) (de_v 2)))) dl_nil))))
 (dl_one (ds_rtA [0, 1, 2] (ds_ret (de_tuple h_tuple (da_cons (de_v 1) da_nil)))))))
theorem sc_checked_cells : FnScope N_checked_cells ["branches", "path"] (defScope s_checked_cells) := ⟨rfl, rfl, rfl, by decide +kernel, rfl, by decide +kernel, by decide +kernel⟩
theorem b_checked_cells {F_is_number F_ascending : Fn} (h_is_number : DF P w K mg base "is_number" k 1 F_is_number) (h_ascending : DF P w K mg base "ascending" k 1 F_ascending) : Body P w K mg base N_checked_cells "checked_cells" (defScope s_checked_cells) f (defBody s_checked_cells) 2 (k + 1) (f_checked_cells F_is_number F_ascending) := fun cdv A outer s H E hr => by
 have go : Go (cxOf (L2.CX P w) P w K mg base N_checked_cells "checked_cells" (defScope s_checked_cells) f cdv A outer s H E) (WB E) := go_def (CX := L2.CX P w) sc_checked_cells.nd hr
 have hu := go.rm
 exact (dl_cons (ds_set 2 go.nd (de_lst da_nil))
 (dl_cons (ds_set 3 go.nd (de_lst da_nil))
 (dl_cons (ds_for go (di_seq (de_v 0)) (dg_name 4 go.nd) (dl_aft [(4, true), (6, true), (7, true), (8, true), (9, true), (10, true)] (dl_cons (ds_match (de_v 4) (dcs_cons (is := [9, 10, 7]) go.nd (dpat_seq go.calm (dpats_cons (dpat_starseq go.calm (dpats_cons dpat_cap (dpats_star dpats_nil))) (dpats_cons dpat_cap dpats_nil))) (.cons rfl (by first | exact Or.inl rfl | exact Or.inr rfl) (by first | exact .inl rfl | exact .inr rfl) (.cons rfl (by first | exact Or.inl rfl | exact Or.inr rfl) (by first | exact .inl rfl | exact .inr rfl) (.cons rfl (by first | exact Or.inl rfl | exact Or.inr rfl) (by first | exact .inl rfl | exact .inr rfl) .nil))) (dl_one (ds_set 8 go.nd (de_lst (da_cons (de_v 9) (da_star (de_v 10) da_nil))))) (dcs_cons (is := [6]) go.nd dpat_cap (.cons rfl (by first | exact Or.inl rfl | exact Or.inr rfl) (by first | exact .inl rfl | exact .inr rfl) .nil) (dl_one ds_never) dcs_nil)))
 (dl_cons (ds_for go (di_seq (de_v 8)) (dg_name 5 go.nd) (dl_aft [(5, true)] (dl_cons (ds_if ((dw_or (dt_not (dt_val (de_call [false] go h_is_number (hr.mono (by omega)) rfl (da_cons (de_v 5) da_nil)))) (dw_or1 (dt_in hu (de_v 5) (de_v 2))))).t (dl_one ds_never) dl_nil)
 (dl_one (ds_expr (de_append (de_v 2) (de_v 5)))))))
 (dl_one (ds_expr (de_append (de_v 3) (de_call [false] go h_ascending (hr.mono (by omega)) rfl (da_cons (de_v 8) da_nil)))))))))
 (dl_one (ds_ret (de_v 3))))))
theorem sc_checked : FnScope N_checked ["rows", "path"] (defScope s_checked) := ⟨rfl, rfl, rfl, by decide +kernel, rfl, by decide +kernel, by decide +kernel⟩
theorem b_checked {F_checked_cells F_checked : Fn} (h_int : mg "int" = none) (h_isinstance : mg "isinstance" = none) (h_bool : mg "bool" = none) (h_checked_cells : DF P w K mg base "checked_cells" k 2 F_checked_cells) (h_enumerate : mg "enumerate" = none) (h_checked : DF P w K mg base "checked" k 2 F_checked) (h_tuple : mg "tuple" = none) : Body P w K mg base N_checked "checked" (defScope s_checked) f (defBody s_checked) 2 (k + 1) (f_checked F_checked_cells F_checked) := fun cdv A outer s H E hr => by
 have go : Go (cxOf (L2.CX P w) P w K mg base N_checked "checked" (defScope s_checked) f cdv A outer s H E) (WB E) := go_def (CX := L2.CX P w) sc_checked.nd hr
 have hu := go.rm
 exact (dl_cons (ds_match (de_v 0) (dcs_guard (is := [2]) go.nd (dpat_seq go.calm (dpats_cons (dpat_str (Nat.lt_of_succ_lt hu)) (dpats_cons dpat_cap dpats_nil))) (.cons rfl (by first | exact Or.inl rfl | exact Or.inr rfl) (by first | exact .inl rfl | exact .inr rfl) .nil) ((dw_and (dt_val (de_isi h_isinstance (da_cons (de_v 2) (da_cons (de_tyN h_int PyProof.Rows.boot_int) da_nil)))) (dw_and (dt_not (dt_val (de_isi h_isinstance (da_cons (de_v 2) (da_cons (de_tyN h_bool PyProof.Rows.boot_bool) da_nil))))) (dw_and1 (dt_ge (de_v 2) de_int))))).t (dl_one (ds_ret (de_tup (da_cons de_str (da_cons (de_v 2) da_nil))))) (dcs_guard (is := [3, 7, 8, 9]) go.nd (dpat_seq go.calm (dpats_cons (dpat_str (Nat.lt_of_succ_lt hu)) (dpats_cons dpat_cap (dpats_cons (dpat_starseq go.calm (dpats_cons dpat_cap (dpats_cons dpat_cap (dpats_star dpats_nil)))) dpats_nil)))) (.cons rfl (by first | exact Or.inl rfl | exact Or.inr rfl) (by first | exact .inl rfl | exact .inr rfl) (.cons rfl (by first | exact Or.inl rfl | exact Or.inr rfl) (by first | exact .inl rfl | exact .inr rfl) (.cons rfl (by first | exact Or.inl rfl | exact Or.inr rfl) (by first | exact .inl rfl | exact .inr rfl) (.cons rfl (by first | exact Or.inl rfl | exact Or.inr rfl) (by first | exact .inl rfl | exact .inr rfl) .nil)))) ((dw_and (dt_val (de_isi h_isinstance (da_cons (de_v 3) (da_cons (de_tyN h_int PyProof.Rows.boot_int) da_nil)))) (dw_and1 (dt_not (dt_val (de_isi h_isinstance (da_cons (de_v 3) (da_cons (de_tyN h_bool PyProof.Rows.boot_bool) da_nil)))))))).t (dl_cons (ds_if (dt_lt (de_v 3) de_int) (dl_one ds_never) dl_nil)
 (dl_cons (ds_set 4 go.nd (de_lst (da_cons (de_v 7) (da_cons (de_v 8) (da_star (de_v 9) da_nil)))))
 (dl_cons (ds_set 5 go.nd (de_call [false, false] go h_checked_cells (hr.mono (by omega)) rfl (da_cons (de_v 4) (da_cons (de_v 1) da_nil))))
 (dl_cons (ds_set 6 go.nd (de_lst da_nil))
 (dl_cons (ds_for go (di_enum h_enumerate (da_cons (de_v 5) da_nil)) (dg_tup go.calm (dgs_cons (dg_name 10 go.nd) (dgs_cons (dg_name 11 go.nd) dgs_nil))) (dl_aft [(10, true), (11, true)] (dl_one (ds_expr (de_append (de_v 6) (de_tup (da_cons (de_v 11) (da_cons (de_call [false, false] go h_checked (hr.mono (by omega)) rfl (da_cons (de_ix (de_ix (de_v 4) (de_v 10)) de_int) (da_cons (de_tup (da_star (de_v 1) (da_cons (de_v 10) da_nil))) da_nil))) da_nil))))))))
 (dl_one (ds_ret (de_tup (da_cons de_str (da_cons (de_v 3) (da_cons (de_tuple h_tuple (da_cons (de_v 6) da_nil)) da_nil))))))))))) dcs_nil)))
 (dl_one ds_never))
theorem sc_length_of : FnScope N_length_of ["rows"] (defScope s_length_of) := ⟨rfl, rfl, rfl, by decide +kernel, rfl, by decide +kernel, by decide +kernel⟩
theorem b_length_of {F_length_of : Fn} (h_length_of : DF P w K mg base "length_of" k 1 F_length_of) (h_int : mg "int" = none) (h_max : mg "max" = none) : Body P w K mg base N_length_of "length_of" (defScope s_length_of) f (defBody s_length_of) 1 (k + 1) (f_length_of F_length_of) := fun cdv A outer s H E hr => by
 have go : Go (cxOf (L2.CX P w) P w K mg base N_length_of "length_of" (defScope s_length_of) f cdv A outer s H E) (WB E) := go_def (CX := L2.CX P w) sc_length_of.nd hr
 have hu := go.rm
 exact (dl_cons (ds_if (dt_eq hu (de_ix (de_v 0) de_int) de_str) (dl_one (ds_rtA [0, 1, 2] (ds_ret de_int))) dl_nil)
 (dl_one (ds_rtA [0, 1, 2] (ds_ret (de_add de_int (de_max1 go h_max (da_cons (de_lc (g := (gT 2 (gsCons (gN 1) (gsCons (gN 2) gsNil)))) (tt := tYes') (te := (eB gInt (aCons (eCall [false] F_length_of (aCons (eVar 2) aNil)) aNil))) [("cell", 1), ("behind", 2)] go (di_seq (de_ix (de_v 0) de_int)) (show BlkOk N_length_of (defScope s_length_of) _ _ from ⟨rfl, by decide +kernel, by decide +kernel, by decide +kernel, by decide +kernel⟩) (fun _ _ _ _ _ => (dg_tup go.blk.calm (dgs_cons (dg_name 1 go.blk.nd) (dgs_cons (dg_name 2 go.blk.nd) dgs_nil)))) (fun _ _ _ _ _ => dts_nil) (fun _ _ _ _ _ => (de_int1 h_int (da_cons (de_call [false] go.blk h_length_of (hr.mono (by omega)) rfl (da_cons (de_v 2) da_nil)) da_nil)))) da_nil)))))))
theorem sc_Tree_DinitD : FnScope N_Tree_DinitD ["self", "rows"] (defScope s_Tree_DinitD) := ⟨rfl, rfl, rfl, by decide +kernel, rfl, by decide +kernel, by decide +kernel⟩
theorem b_Tree_DinitD {F_checked F_length_of : Fn} (h_checked : DF P w K mg base "checked" k 2 F_checked) (hf_rows : FldOk K ["Tree", "Round"] "rows") (h_length_of : DF P w K mg base "length_of" k 1 F_length_of) (hf_length : FldOk K ["Tree"] "length") : Body P w K mg base N_Tree_DinitD "Tree.__init__" (defScope s_Tree_DinitD) f (defBody s_Tree_DinitD) 2 (k + 1) (f_Tree_DinitD F_checked F_length_of) := fun cdv A outer s H E hr => by
 have go : Go (cxOf (L2.CX P w) P w K mg base N_Tree_DinitD "Tree.__init__" (defScope s_Tree_DinitD) f cdv A outer s H E) (WB E) := go_def (CX := L2.CX P w) sc_Tree_DinitD.nd hr
 have hu := go.rm
 exact (dl_cons (ds_setF hf_rows (de_v 0) (de_call [false, false] go h_checked (hr.mono (by omega)) rfl (da_cons (de_v 1) (da_cons (de_tup da_nil) da_nil))))
 (dl_one (ds_setF hf_length (de_v 0) (de_call [false] go h_length_of (hr.mono (by omega)) rfl (da_cons (de_fld hf_rows (de_v 0)) da_nil)))))
theorem scZsame : FnScope NZsame ["_law_actual", "_law_expected"] (defScope sZsame) := ⟨rfl, rfl, rfl, by decide +kernel, rfl, by decide +kernel, by decide +kernel⟩
theorem bZsame {FZsame : Fn} (h_bool : mg "bool" = none) (h_isinstance : mg "isinstance" = none) (h_int : mg "int" = none) (h_str : mg "str" = none) (h_tuple : mg "tuple" = none) (h_list : mg "list" = none) (h_len : mg "len" = none) (h_range : mg "range" = none) (hZsame : DF P w K mg base "_law_same" k 2 FZsame) : Body P w K mg base NZsame "_law_same" (defScope sZsame) f (defBody sZsame) 2 (k + 1) (fZsame FZsame) := fun cdv A outer s H E hr => by
 have go : Go (cxOf (L2.CX P w) P w K mg base NZsame "_law_same" (defScope sZsame) f cdv A outer s H E) (WB E) := go_def (CX := L2.CX P w) scZsame.nd hr
 have hu := go.rm
 exact (dl_cons (ds_if (dt_is (de_v 1) de_non) (dl_one (ds_ret (de_is (de_v 0) de_non))) dl_nil)
 (dl_cons (ds_if (dt_val (de_isi h_isinstance (da_cons (de_v 1) (da_cons (de_tyN h_bool PyProof.Rows.boot_bool) da_nil)))) (dl_one (ds_ret (de_and (de_isi h_isinstance (da_cons (de_v 0) (da_cons (de_tyN h_bool PyProof.Rows.boot_bool) da_nil))) (de_one (de_eq hu (de_v 0) (de_v 1)))))) dl_nil)
 (dl_cons (ds_if (dt_val (de_isi h_isinstance (da_cons (de_v 1) (da_cons (de_tyN h_int PyProof.Rows.boot_int) da_nil)))) (dl_one (ds_ret (de_and (de_isi h_isinstance (da_cons (de_v 0) (da_cons (de_tyN h_int PyProof.Rows.boot_int) da_nil))) (de_and (de_not (de_isi h_isinstance (da_cons (de_v 0) (da_cons (de_tyN h_bool PyProof.Rows.boot_bool) da_nil)))) (de_one (de_eq hu (de_v 0) (de_v 1))))))) dl_nil)
 (dl_cons (ds_if (dt_val (de_isi h_isinstance (da_cons (de_v 1) (da_cons (de_tyN h_str PyProof.Rows.boot_str) da_nil)))) (dl_one (ds_ret (de_and (de_isi h_isinstance (da_cons (de_v 0) (da_cons (de_tyN h_str PyProof.Rows.boot_str) da_nil))) (de_one (de_eq hu (de_v 0) (de_v 1)))))) dl_nil)
 (dl_cons (ds_if ((dw_and (dt_val (de_isi h_isinstance (da_cons (de_v 1) (da_cons (de_tyN h_tuple PyProof.Rows.boot_tuple) da_nil)))) (dw_and1 (dt_not (dt_val (de_isi h_isinstance (da_cons (de_v 0) (da_cons (de_tyN h_tuple PyProof.Rows.boot_tuple) da_nil)))))))).t (dl_one (ds_ret de_bl)) dl_nil)
 (dl_cons (ds_if ((dw_and (dt_val (de_isi h_isinstance (da_cons (de_v 1) (da_cons (de_tyN h_list PyProof.Rows.boot_list) da_nil)))) (dw_and1 (dt_not (dt_val (de_isi h_isinstance (da_cons (de_v 0) (da_cons (de_tyN h_list PyProof.Rows.boot_list) da_nil)))))))).t (dl_one (ds_ret de_bl)) dl_nil)
 (dl_cons (ds_if (dt_ne hu (de_len h_len (da_cons (de_v 0) da_nil)) (de_len h_len (da_cons (de_v 1) da_nil))) (dl_one (ds_ret de_bl)) dl_nil)
 (dl_cons (ds_setLc (g := (gN 3)) (tt := (tNot (tVal (eCall [false, false] FZsame (aCons (eIx (eVar 0) (eVar 3)) (aCons (eIx (eVar 1) (eVar 3)) aNil)))))) (te := (eVar 3)) 2 [("_law_k", 3)] rfl rfl rfl rfl rfl go (di_rng1 rfl h_range (da_cons (de_len h_len (da_cons (de_v 1) da_nil)) da_nil)) (show BlkOk NZsame (defScope sZsame) _ _ from ⟨rfl, by decide +kernel, by decide +kernel, by decide +kernel, by decide +kernel⟩) (fun _ _ _ _ _ => (dg_name 3 go.blk.nd)) (fun _ _ _ _ _ => (dts_one (dt_not (dt_val (de_call [false, false] go.blk hZsame (hr.mono (by omega)) rfl (da_cons (de_ix (de_v 0) (de_v 3)) (da_cons (de_ix (de_v 1) (de_v 3)) da_nil))))))) (fun _ _ _ _ _ => (de_v 3)))
 (dl_one (ds_ret (de_eq hu (de_v 2) (de_lst da_nil))))))))))))
theorem sc_Round_DinitD : FnScope N_Round_DinitD ["self", "tree", "patience", "default"] (defScope s_Round_DinitD) := ⟨rfl, rfl, rfl, by decide +kernel, rfl, by decide +kernel, by decide +kernel⟩
theorem b_Round_DinitD (hf_rows : FldOk K ["Tree", "Round"] "rows") (hf_patience : FldOk K ["Round"] "patience") (hf_default : FldOk K ["Round"] "default") (hf_path : FldOk K ["Round"] "path") (hf_history : FldOk K ["Round"] "history") (hf_silences : FldOk K ["Round"] "silences") : Body P w K mg base N_Round_DinitD "Round.__init__" (defScope s_Round_DinitD) f (defBody s_Round_DinitD) 4 (k + 1) (f_Round_DinitD) := fun cdv A outer s H E hr => by
 have go : Go (cxOf (L2.CX P w) P w K mg base N_Round_DinitD "Round.__init__" (defScope s_Round_DinitD) f cdv A outer s H E) (WB E) := go_def (CX := L2.CX P w) sc_Round_DinitD.nd hr
 have hu := go.rm
 exact (dl_cons (ds_setF hf_rows (de_v 0) (de_fld hf_rows (de_v 1)))
 (dl_cons (ds_setF hf_patience (de_v 0) (de_v 2))
 (dl_cons (ds_setF hf_default (de_v 0) (de_v 3))
 (dl_cons (ds_setF hf_path (de_v 0) (de_tup da_nil))
 (dl_cons (ds_setF hf_history (de_v 0) (de_tup da_nil))
 (dl_one (ds_setF hf_silences (de_v 0) de_int)))))))
theorem scZstarted : FnScope NZstarted ["_law_tree_here", "_law_way", "_law_bound", "_law_first"] (defScope sZstarted) := ⟨rfl, rfl, rfl, by decide +kernel, rfl, by decide +kernel, by decide +kernel⟩
theorem bZstarted {F_Round_DinitD : Fn} (h_Round_DinitD : DMK P w K mg base "Round" k 4 1 [] [.inr 3, .inr 0] F_Round_DinitD) (h_patience_Round_DinitD : DMK P w K mg base "Round" k 4 1 ["patience"] [.inl 0, .inr 0] F_Round_DinitD) (h_default_Round_DinitD : DMK P w K mg base "Round" k 4 1 ["default"] [.inr 3, .inl 0] F_Round_DinitD) (h_patience_default_Round_DinitD : DMK P w K mg base "Round" k 4 1 ["patience", "default"] [.inl 0, .inl 1] F_Round_DinitD) : Body P w K mg base NZstarted "_law_started" (defScope sZstarted) f (defBody sZstarted) 4 (k + 1) (fZstarted F_Round_DinitD) := fun cdv A outer s H E hr => by
 have go : Go (cxOf (L2.CX P w) P w K mg base NZstarted "_law_started" (defScope sZstarted) f cdv A outer s H E) (WB E) := go_def (CX := L2.CX P w) scZstarted.nd hr
 have hu := go.rm
 exact (dl_cons (ds_if (dt_eq hu (de_v 1) de_int) (dl_one (ds_rtA [0, 1, 2, 3] (ds_ret (de_makeK [false, false, false] go h_Round_DinitD hr rfl (da_cons (de_v 0) da_nil) dk_nil)))) dl_nil)
 (dl_cons (ds_if (dt_eq hu (de_v 1) de_int) (dl_one (ds_rtA [0, 1, 2, 3] (ds_ret (de_makeK [false, false, false] go h_patience_Round_DinitD hr rfl (da_cons (de_v 0) da_nil) (dk_cons (de_v 2) dk_nil))))) dl_nil)
 (dl_cons (ds_if (dt_eq hu (de_v 1) de_int) (dl_one (ds_rtA [0, 1, 2, 3] (ds_ret (de_makeK [false, false, false] go h_default_Round_DinitD hr rfl (da_cons (de_v 0) da_nil) (dk_cons (de_v 3) dk_nil))))) dl_nil)
 (dl_one (ds_rtA [0, 1, 2, 3] (ds_ret (de_makeK [false, false, false] go h_patience_default_Round_DinitD hr rfl (da_cons (de_v 0) da_nil) (dk_cons (de_v 2) (dk_cons (de_v 3) dk_nil)))))))))
theorem scZat : FnScope NZat ["_law_rows", "_law_path"] (defScope sZat) := ⟨rfl, rfl, rfl, by decide +kernel, rfl, by decide +kernel, by decide +kernel⟩
theorem bZat {FZat : Fn} (h_len : mg "len" = none) (hZat : DF P w K mg base "_law_at" k 2 FZat) : Body P w K mg base NZat "_law_at" (defScope sZat) f (defBody sZat) 2 (k + 1) (fZat FZat) := fun cdv A outer s H E hr => by
 have go : Go (cxOf (L2.CX P w) P w K mg base NZat "_law_at" (defScope sZat) f cdv A outer s H E) (WB E) := go_def (CX := L2.CX P w) scZat.nd hr
 have hu := go.rm
 exact (dl_cons (ds_if (dt_eq hu (de_len h_len (da_cons (de_v 1) da_nil)) de_int) (dl_one (ds_rtA [0, 1] (ds_ret (de_v 0)))) dl_nil)
 (dl_one (ds_rtA [0, 1] (ds_ret (de_call [false, false] go hZat (hr.mono (by omega)) rfl (da_cons (de_ix (de_ix (de_ix (de_v 0) de_int) (de_ix (de_v 1) de_int)) de_int) (da_cons (de_sl (de_v 1) (do_some de_int) do_no) da_nil)))))))
theorem sc_rows_at : FnScope N_rows_at ["rows", "path"] (defScope s_rows_at) := ⟨rfl, rfl, rfl, by decide +kernel, rfl, by decide +kernel, by decide +kernel⟩
theorem b_rows_at  : Body P w K mg base N_rows_at "rows_at" (defScope s_rows_at) f (defBody s_rows_at) 2 (k + 1) (f_rows_at) := fun cdv A outer s H E hr => by
 have go : Go (cxOf (L2.CX P w) P w K mg base N_rows_at "rows_at" (defScope s_rows_at) f cdv A outer s H E) (WB E) := go_def (CX := L2.CX P w) sc_rows_at.nd hr
 have hu := go.rm
 exact (dl_cons (ds_for go (di_seq (de_v 1)) (dg_name 2 go.nd) (dl_aft [(2, true)] (dl_one (ds_set 0 go.nd (de_ix (de_ix (de_ix (de_v 0) de_int) (de_v 2)) de_int)))))
 (dl_one (ds_rtA [0, 1, 2] (ds_ret (de_v 0)))))
theorem sc_Round_party : FnScope N_Round_party ["self"] (defScope s_Round_party) := ⟨rfl, rfl, rfl, by decide +kernel, rfl, by decide +kernel, by decide +kernel⟩
theorem b_Round_party {F_rows_at : Fn} (hf_rows : FldOk K ["Tree", "Round"] "rows") (hf_path : FldOk K ["Round"] "path") (h_rows_at : DF P w K mg base "rows_at" k 2 F_rows_at) : Body P w K mg base N_Round_party "Round.party" (defScope s_Round_party) f (defBody s_Round_party) 1 (k + 1) (f_Round_party F_rows_at) := fun cdv A outer s H E hr => by
 have go : Go (cxOf (L2.CX P w) P w K mg base N_Round_party "Round.party" (defScope s_Round_party) f cdv A outer s H E) (WB E) := go_def (CX := L2.CX P w) sc_Round_party.nd hr
 have hu := go.rm
 exact (dl_cons (ds_set 1 go.nd (de_call [false, false] go h_rows_at (hr.mono (by omega)) rfl (da_cons (de_fld hf_rows (de_v 0)) (da_cons (de_fld hf_path (de_v 0)) da_nil))))
 (dl_cons (ds_if (dt_eq hu (de_ix (de_v 1) de_int) de_str) (dl_one (ds_rtA [1] (ds_ret de_non))) dl_nil)
 (dl_one (ds_rtA [1] (ds_ret (de_ix (de_v 1) de_int))))))
theorem sc_Round_cells : FnScope N_Round_cells ["self"] (defScope s_Round_cells) := ⟨rfl, rfl, rfl, by decide +kernel, rfl, by decide +kernel, by decide +kernel⟩
theorem b_Round_cells {F_rows_at : Fn} (hf_rows : FldOk K ["Tree", "Round"] "rows") (hf_path : FldOk K ["Round"] "path") (h_rows_at : DF P w K mg base "rows_at" k 2 F_rows_at) (h_tuple : mg "tuple" = none) : Body P w K mg base N_Round_cells "Round.cells" (defScope s_Round_cells) f (defBody s_Round_cells) 1 (k + 1) (f_Round_cells F_rows_at) := fun cdv A outer s H E hr => by
 have go : Go (cxOf (L2.CX P w) P w K mg base N_Round_cells "Round.cells" (defScope s_Round_cells) f cdv A outer s H E) (WB E) := go_def (CX := L2.CX P w) sc_Round_cells.nd hr
 have hu := go.rm
 exact (dl_cons (ds_set 1 go.nd (de_call [false, false] go h_rows_at (hr.mono (by omega)) rfl (da_cons (de_fld hf_rows (de_v 0)) (da_cons (de_fld hf_path (de_v 0)) da_nil))))
 (dl_cons (ds_if (dt_eq hu (de_ix (de_v 1) de_int) de_str) (dl_one (ds_rtA [1, 2, 3] (ds_ret (de_tup da_nil)))) dl_nil)
 (dl_one (ds_rtA [1, 2, 3] (ds_ret (de_tuple h_tuple (da_cons (de_lc (g := (gT 2 (gsCons (gN 2) (gsCons (gN 3) gsNil)))) (tt := tYes') (te := (eVar 2)) [("cell", 2), ("behind", 3)] go (di_seq (de_ix (de_v 1) de_int)) (show BlkOk N_Round_cells (defScope s_Round_cells) _ _ from ⟨rfl, by decide +kernel, by decide +kernel, by decide +kernel, by decide +kernel⟩) (fun _ _ _ _ _ => (dg_tup go.blk.calm (dgs_cons (dg_name 2 go.blk.nd) (dgs_cons (dg_name 3 go.blk.nd) dgs_nil)))) (fun _ _ _ _ _ => dts_nil) (fun _ _ _ _ _ => (de_v 2))) da_nil)))))))
theorem sc_Round_outcome : FnScope N_Round_outcome ["self"] (defScope s_Round_outcome) := ⟨rfl, rfl, rfl, by decide +kernel, rfl, by decide +kernel, by decide +kernel⟩
theorem b_Round_outcome {F_rows_at : Fn} (hf_rows : FldOk K ["Tree", "Round"] "rows") (hf_path : FldOk K ["Round"] "path") (h_rows_at : DF P w K mg base "rows_at" k 2 F_rows_at) : Body P w K mg base N_Round_outcome "Round.outcome" (defScope s_Round_outcome) f (defBody s_Round_outcome) 1 (k + 1) (f_Round_outcome F_rows_at) := fun cdv A outer s H E hr => by
 have go : Go (cxOf (L2.CX P w) P w K mg base N_Round_outcome "Round.outcome" (defScope s_Round_outcome) f cdv A outer s H E) (WB E) := go_def (CX := L2.CX P w) sc_Round_outcome.nd hr
 have hu := go.rm
 exact (dl_cons (ds_set 1 go.nd (de_call [false, false] go h_rows_at (hr.mono (by omega)) rfl (da_cons (de_fld hf_rows (de_v 0)) (da_cons (de_fld hf_path (de_v 0)) da_nil))))
 (dl_cons (ds_if (dt_eq hu (de_ix (de_v 1) de_int) de_str) (dl_one (ds_rtA [1] (ds_ret (de_ix (de_v 1) de_int)))) dl_nil)
 (dl_one (ds_rtA [1] (ds_ret de_non)))))
theorem scZshows : FnScope NZshows ["_law_game", "_law_rows", "_law_path", "_law_history", "_law_silences"] (defScope sZshows) := ⟨rfl, rfl, rfl, by decide +kernel, rfl, by decide +kernel, by decide +kernel⟩
theorem bZshows {FZat FZsame F_Round_party F_Round_cells F_Round_outcome : Fn} (hZat : DF P w K mg base "_law_at" k 2 FZat) (hf_path : FldOk K ["Round"] "path") (hZsame : DF P w K mg base "_law_same" k 2 FZsame) (hf_history : FldOk K ["Round"] "history") (hf_silences : FldOk K ["Round"] "silences") (h_Round_party : DProp P w K mg base "Round" "party" k 1 F_Round_party) (h_Round_cells : DProp P w K mg base "Round" "cells" k 1 F_Round_cells) (h_Round_outcome : DProp P w K mg base "Round" "outcome" k 1 F_Round_outcome) (h_tuple : mg "tuple" = none) : Body P w K mg base NZshows "_law_shows" (defScope sZshows) f (defBody sZshows) 5 (k + 1) (fZshows FZat FZsame F_Round_party F_Round_cells F_Round_outcome) := fun cdv A outer s H E hr => by
 have go : Go (cxOf (L2.CX P w) P w K mg base NZshows "_law_shows" (defScope sZshows) f cdv A outer s H E) (WB E) := go_def (CX := L2.CX P w) scZshows.nd hr
 have hu := go.rm
 exact (dl_cons (ds_set 5 go.nd (de_call [false, false] go hZat (hr.mono (by omega)) rfl (da_cons (de_v 1) (da_cons (de_v 2) da_nil))))
 (dl_cons (ds_if ((dw_or (dt_not (dt_val (de_call [false, false] go hZsame (hr.mono (by omega)) rfl (da_cons (de_fld hf_path (de_v 0)) (da_cons (de_v 2) da_nil))))) (dw_or1 (dt_not (dt_val (de_call [false, false] go hZsame (hr.mono (by omega)) rfl (da_cons (de_fld hf_history (de_v 0)) (da_cons (de_v 3) da_nil)))))))).t (dl_one (ds_rtA [1, 2, 3, 4, 5, 6] (ds_ret de_bl))) dl_nil)
 (dl_cons (ds_if (dt_not (dt_val (de_call [false, false] go hZsame (hr.mono (by omega)) rfl (da_cons (de_fld hf_silences (de_v 0)) (da_cons (de_v 4) da_nil))))) (dl_one (ds_rtA [1, 2, 3, 4, 5, 6] (ds_ret de_bl))) dl_nil)
 (dl_cons (ds_if (dt_eq hu (de_ix (de_v 5) de_int) de_str) (dl_cons (ds_if ((dw_or (dt_isNot (de_prop [true] go h_Round_party hr (de_v 0)) de_non) (dw_or1 (dt_not (dt_val (de_call [false, false] go hZsame (hr.mono (by omega)) rfl (da_cons (de_prop [true] go h_Round_cells hr (de_v 0)) (da_cons (de_tup da_nil) da_nil)))))))).t (dl_one (ds_rtA [1, 2, 3, 4, 5, 6] (ds_ret de_bl))) dl_nil)
 (dl_one (ds_rtA [1, 2, 3, 4, 5, 6] (ds_ret (de_call [false, false] go hZsame (hr.mono (by omega)) rfl (da_cons (de_prop [true] go h_Round_outcome hr (de_v 0)) (da_cons (de_ix (de_v 5) de_int) da_nil))))))) dl_nil)
 (dl_cons (ds_if ((dw_or (dt_not (dt_val (de_call [false, false] go hZsame (hr.mono (by omega)) rfl (da_cons (de_prop [true] go h_Round_party hr (de_v 0)) (da_cons (de_ix (de_v 5) de_int) da_nil))))) (dw_or1 (dt_isNot (de_prop [true] go h_Round_outcome hr (de_v 0)) de_non)))).t (dl_one (ds_rtA [1, 2, 3, 4, 5, 6] (ds_ret de_bl))) dl_nil)
 (dl_one (ds_rtA [1, 2, 3, 4, 5, 6] (ds_ret (de_call [false, false] go hZsame (hr.mono (by omega)) rfl (da_cons (de_prop [true] go h_Round_cells hr (de_v 0)) (da_cons (de_tuple h_tuple (da_cons (de_lc (g := (gN 6)) (tt := tYes') (te := (eIx (eVar 6) (eC (.int 0)))) [("_law_pair", 6)] go (di_seq (de_ix (de_v 5) de_int)) (show BlkOk NZshows (defScope sZshows) _ _ from ⟨rfl, by decide +kernel, by decide +kernel, by decide +kernel, by decide +kernel⟩) (fun _ _ _ _ _ => (dg_name 6 go.blk.nd)) (fun _ _ _ _ _ => dts_nil) (fun _ _ _ _ _ => (de_ix (de_v 6) de_int))) da_nil)) da_nil)))))))))))
theorem sc_Round_go_on : FnScope N_Round_go_on ["self", "branch", "said"] (defScope s_Round_go_on) := ⟨rfl, rfl, rfl, by decide +kernel, rfl, by decide +kernel, by decide +kernel⟩
theorem b_Round_go_on {F_Round_party : Fn} (hf_history : FldOk K ["Round"] "history") (h_Round_party : DProp P w K mg base "Round" "party" k 1 F_Round_party) (hf_path : FldOk K ["Round"] "path") (hf_silences : FldOk K ["Round"] "silences") : Body P w K mg base N_Round_go_on "Round.go_on" (defScope s_Round_go_on) f (defBody s_Round_go_on) 3 (k + 1) (f_Round_go_on F_Round_party) := fun cdv A outer s H E hr => by
 have go : Go (cxOf (L2.CX P w) P w K mg base N_Round_go_on "Round.go_on" (defScope s_Round_go_on) f cdv A outer s H E) (WB E) := go_def (CX := L2.CX P w) sc_Round_go_on.nd hr
 have hu := go.rm
 exact (dl_cons (ds_setF hf_history (de_v 0) (de_tup (da_star (de_fld hf_history (de_v 0)) (da_cons (de_tup (da_cons (de_prop [true] go h_Round_party hr (de_v 0)) (da_cons (de_v 1) (da_cons (de_v 2) da_nil)))) da_nil))))
 (dl_cons (ds_setF hf_path (de_v 0) (de_tup (da_star (de_fld hf_path (de_v 0)) (da_cons (de_v 1) da_nil))))
 (dl_one (ds_setF hf_silences (de_v 0) de_int))))
theorem sc_Round_say : FnScope N_Round_say ["self", "party", "branch"] (defScope s_Round_say) := ⟨rfl, rfl, rfl, by decide +kernel, rfl, by decide +kernel, by decide +kernel⟩
theorem b_Round_say {F_Round_party F_is_integer F_is_number F_Round_cells F_Round_go_on F_Round_outcome : Fn} (h_Round_party : DProp P w K mg base "Round" "party" k 1 F_Round_party) (h_is_integer : DF P w K mg base "is_integer" k 1 F_is_integer) (h_is_number : DF P w K mg base "is_number" k 1 F_is_number) (h_Round_cells : DProp P w K mg base "Round" "cells" k 1 F_Round_cells) (h_len : mg "len" = none) (h_Round_go_on : DMeth P w K mg base "Round" "go_on" k 3 F_Round_go_on) (h_Round_outcome : DProp P w K mg base "Round" "outcome" k 1 F_Round_outcome) : Body P w K mg base N_Round_say "Round.say" (defScope s_Round_say) f (defBody s_Round_say) 3 (k + 1) (f_Round_say F_Round_party F_is_integer F_is_number F_Round_cells F_Round_go_on F_Round_outcome) := fun cdv A outer s H E hr => by
 have go : Go (cxOf (L2.CX P w) P w K mg base N_Round_say "Round.say" (defScope s_Round_say) f cdv A outer s H E) (WB E) := go_def (CX := L2.CX P w) sc_Round_say.nd hr
 have hu := go.rm
 exact (dl_cons (ds_if ((dw_or (dt_is (de_prop [true] go h_Round_party hr (de_v 0)) de_non) (dw_or (dt_not (dt_val (de_call [false] go h_is_integer (hr.mono (by omega)) rfl (da_cons (de_v 1) da_nil)))) (dw_or1 (dt_ne hu (de_v 1) (de_prop [true] go h_Round_party hr (de_v 0))))))).t (dl_one ds_never) dl_nil)
 (dl_cons (ds_if ((dw_or (dt_not (dt_val (de_call [false] go h_is_number (hr.mono (by omega)) rfl (da_cons (de_v 2) da_nil)))) (dw_or1 (dt_ge (de_v 2) (de_len h_len (da_cons (de_prop [true] go h_Round_cells hr (de_v 0)) da_nil)))))).t (dl_one ds_never) dl_nil)
 (dl_cons (ds_expr (de_meth [true, false, false] go h_Round_go_on (hr.mono (by omega)) (de_v 0) (da_cons (de_v 2) (da_cons de_bl da_nil))))
 (dl_one (ds_rtA [1, 2] (ds_ret (de_prop [true] go h_Round_outcome hr (de_v 0))))))))
theorem sc_Round_wait : FnScope N_Round_wait ["self"] (defScope s_Round_wait) := ⟨rfl, rfl, rfl, by decide +kernel, rfl, by decide +kernel, by decide +kernel⟩
theorem b_Round_wait {F_Round_party F_Round_go_on F_Round_cells : Fn} (h_Round_party : DProp P w K mg base "Round" "party" k 1 F_Round_party) (hf_silences : FldOk K ["Round"] "silences") (hf_patience : FldOk K ["Round"] "patience") (h_Round_go_on : DMeth P w K mg base "Round" "go_on" k 3 F_Round_go_on) (hf_default : FldOk K ["Round"] "default") (h_int : mg "int" = none) (h_Round_cells : DProp P w K mg base "Round" "cells" k 1 F_Round_cells) (h_len : mg "len" = none) (h_min : mg "min" = none) : Body P w K mg base N_Round_wait "Round.wait" (defScope s_Round_wait) f (defBody s_Round_wait) 1 (k + 1) (f_Round_wait F_Round_party F_Round_go_on F_Round_cells) := fun cdv A outer s H E hr => by
 have go : Go (cxOf (L2.CX P w) P w K mg base N_Round_wait "Round.wait" (defScope s_Round_wait) f cdv A outer s H E) (WB E) := go_def (CX := L2.CX P w) sc_Round_wait.nd hr
 have hu := go.rm
 exact (dl_cons (ds_if (dt_is (de_prop [true] go h_Round_party hr (de_v 0)) de_non) (dl_one ds_never) dl_nil)
 (dl_cons (ds_augF hf_silences in_add rd_add pe_int (de_v 0))
 (dl_cons (ds_if (dt_lt (de_fld hf_silences (de_v 0)) (de_fld hf_patience (de_v 0))) (dl_one (ds_rtA [] (ds_ret de_bl))) dl_nil)
 (dl_cons (ds_expr (de_meth [true, false, false] go h_Round_go_on (hr.mono (by omega)) (de_v 0) (da_cons (de_min2 go h_min (da_cons (de_int1 h_int (da_cons (de_fld hf_default (de_v 0)) da_nil)) (da_cons (de_sub (de_len h_len (da_cons (de_prop [true] go h_Round_cells hr (de_v 0)) da_nil)) de_int) da_nil))) (da_cons de_bl da_nil))))
 (dl_one (ds_rtA [] (ds_ret de_bl)))))))
theorem scZmoved : FnScope NZmoved ["_law_game", "_law_rows", "_law_state", "_law_bound", "_law_first", "_law_source_here"] (defScope sZmoved) := ⟨rfl, rfl, rfl, by decide +kernel, rfl, by decide +kernel, by decide +kernel⟩
theorem bZmoved {FZat FZdraw F_Round_say F_Round_wait FZsame : Fn} (hZat : DF P w K mg base "_law_at" k 2 FZat) (h_len : mg "len" = none) (hZdraw : DF P w K mg base "_law_draw" k 2 FZdraw) (h_Round_say : DMeth P w K mg base "Round" "say" k 3 F_Round_say) (h_Round_wait : DMeth P w K mg base "Round" "wait" k 1 F_Round_wait) (hZsame : DF P w K mg base "_law_same" k 2 FZsame) (h_int : mg "int" = none) (h_min : mg "min" = none) : Body P w K mg base NZmoved "_law_moved" (defScope sZmoved) f (defBody sZmoved) 6 (k + 1) (fZmoved FZat FZdraw F_Round_say F_Round_wait FZsame) := fun cdv A outer s H E hr => by
 have go : Go (cxOf (L2.CX P w) P w K mg base NZmoved "_law_moved" (defScope sZmoved) f cdv A outer s H E) (WB E) := go_def (CX := L2.CX P w) scZmoved.nd hr
 have hu := go.rm
 exact (dl_cons (ds_set 6 go.nd (de_call [false, false] go hZat (hr.mono (by omega)) rfl (da_cons (de_v 1) (da_cons (de_ix (de_v 2) de_int) da_nil))))
 (dl_cons (ds_set 7 go.nd (de_sub (de_len h_len (da_cons (de_ix (de_v 6) de_int) da_nil)) de_int))
 (dl_cons (ds_if (dt_eq hu (de_call [true, false] go hZdraw (hr.mono (by omega)) rfl (da_cons (de_v 5) (da_cons de_int da_nil))) de_int) (dl_cons (ds_set 9 go.nd (de_call [true, false] go hZdraw (hr.mono (by omega)) rfl (da_cons (de_v 5) (da_cons (de_add (de_v 7) de_int) da_nil))))
 (dl_cons (ds_expr (de_meth [true, false, false] go h_Round_say (hr.mono (by omega)) (de_v 0) (da_cons (de_ix (de_v 6) de_int) (da_cons (de_v 9) da_nil))))
 (dl_cons (ds_setIx (de_add (de_ix (de_v 2) de_int) (de_tup (da_cons (de_tup (da_cons (de_ix (de_v 6) de_int) (da_cons (de_v 9) (da_cons de_bl da_nil)))) da_nil))) (de_v 2) de_int)
 (dl_cons (ds_setIx (de_add (de_ix (de_v 2) de_int) (de_tup (da_cons (de_v 9) da_nil))) (de_v 2) de_int)
 (dl_cons (ds_setIx de_int (de_v 2) de_int)
 (dl_one (ds_rtA [1, 3, 4, 6, 7, 8, 9] (ds_ret de_bl)))))))) dl_nil)
 (dl_cons (ds_set 8 go.nd (de_meth0 [true] go h_Round_wait (hr.mono (by omega)) (de_v 0)))
 (dl_cons (ds_setIx (de_add (de_ix (de_v 2) de_int) de_int) (de_v 2) de_int)
 (dl_cons (ds_if (dt_lt (de_ix (de_v 2) de_int) (de_v 3)) (dl_one (ds_rtA [1, 3, 4, 6, 7, 8, 9] (ds_ret (de_call [false, false] go hZsame (hr.mono (by omega)) rfl (da_cons (de_v 8) (da_cons de_bl da_nil)))))) dl_nil)
 (dl_cons (ds_set 9 go.nd (de_min2 go h_min (da_cons (de_int1 h_int (da_cons (de_v 4) da_nil)) (da_cons (de_v 7) da_nil))))
 (dl_cons (ds_setIx (de_add (de_ix (de_v 2) de_int) (de_tup (da_cons (de_tup (da_cons (de_ix (de_v 6) de_int) (da_cons (de_v 9) (da_cons de_bl da_nil)))) da_nil))) (de_v 2) de_int)
 (dl_cons (ds_setIx (de_add (de_ix (de_v 2) de_int) (de_tup (da_cons (de_v 9) da_nil))) (de_v 2) de_int)
 (dl_cons (ds_setIx de_int (de_v 2) de_int)
 (dl_one (ds_rtA [1, 3, 4, 6, 7, 8, 9] (ds_ret (de_call [false, false] go hZsame (hr.mono (by omega)) rfl (da_cons (de_v 8) (da_cons de_bl da_nil))))))))))))))))
theorem sc_law : FnScope N_law ["_law_script"] (defScope s_law) := ⟨rfl, rfl, rfl, by decide +kernel, rfl, by decide +kernel, by decide +kernel⟩
theorem b_law {FZcell FZsource FZany_tree FZdraw F_Tree_DinitD FZsame FZstarted FZshows FZat FZmoved : Fn} (hZcell : DF P w K mg base "_law_cell" k 2 FZcell) (hZsource : DF P w K mg base "_law_source" k 1 FZsource) (hZany_tree : DF P w K mg base "_law_any_tree" k 3 FZany_tree) (hZdraw : DF P w K mg base "_law_draw" k 2 FZdraw) (h_Tree_DinitD : DM P w K mg base "Tree" k 2 F_Tree_DinitD) (h_PATIENCE : ∃ t, mg "PATIENCE" = some (.int 3 t)) (h_FIRST : ∃ t, mg "FIRST" = some (.int 0 t)) (hZsame : DF P w K mg base "_law_same" k 2 FZsame) (hZstarted : DF P w K mg base "_law_started" k 4 FZstarted) (h_range : mg "range" = none) (hZshows : DF P w K mg base "_law_shows" k 5 FZshows) (hZat : DF P w K mg base "_law_at" k 2 FZat) (hZmoved : DF P w K mg base "_law_moved" k 6 FZmoved) (hf_rows : FldOk K ["Tree", "Round"] "rows") : Body P w K mg base N_law "law" (defScope s_law) f (defBody s_law) 1 (k + 1) (f_law FZcell FZsource FZany_tree FZdraw F_Tree_DinitD FZsame FZstarted FZshows FZat FZmoved) := fun cdv A outer s H E hr => by
 have go : Go (cxOf (L2.CX P w) P w K mg base N_law "law" (defScope s_law) f cdv A outer s H E) (WB E) := go_def (CX := L2.CX P w) sc_law.nd hr
 have hu := go.rm
 exact (dl_cons (ds_set 1 go.nd (de_call [false] go hZsource (hr.mono (by omega)) rfl (da_cons (de_call [false, false] go hZcell (hr.mono (by omega)) rfl (da_cons (de_v 0) (da_cons de_int da_nil))) da_nil)))
 (dl_cons (ds_set 2 go.nd (de_call [true, false, false] go hZany_tree (hr.mono (by omega)) rfl (da_cons (de_v 1) (da_cons (de_call [false, false] go hZcell (hr.mono (by omega)) rfl (da_cons (de_v 0) (da_cons de_int da_nil))) (da_cons de_int da_nil)))))
 (dl_cons (ds_set 3 go.nd (de_call [false] go hZsource (hr.mono (by omega)) rfl (da_cons (de_call [false, false] go hZcell (hr.mono (by omega)) rfl (da_cons (de_v 0) (da_cons de_int da_nil))) da_nil)))
 (dl_cons (ds_set 4 go.nd (de_ix (de_lst (da_cons de_int (da_cons de_int (da_cons de_int (da_cons de_int (da_cons de_int (da_cons (de_pow de_int de_int) da_nil))))))) (de_call [true, false] go hZdraw (hr.mono (by omega)) rfl (da_cons (de_v 1) (da_cons de_int da_nil)))))
 (dl_cons (ds_set 5 go.nd (de_ix (de_lst (da_cons de_int (da_cons de_int (da_cons de_int (da_cons de_int (da_cons de_int (da_cons (de_pow de_int de_int) da_nil))))))) (de_call [true, false] go hZdraw (hr.mono (by omega)) rfl (da_cons (de_v 1) (da_cons de_int da_nil)))))
 (dl_cons (ds_set 6 go.nd (de_call [true, false] go hZdraw (hr.mono (by omega)) rfl (da_cons (de_v 1) (da_cons de_int da_nil))))
 (dl_cons (ds_fz 7 (ds_set 7 go.nd (de_make [false] go h_Tree_DinitD hr rfl (da_cons (de_v 2) da_nil))))
 (dl_cons (ds_if (dt_not (dt_val (de_call [false, false] go hZsame (hr.mono (by omega)) rfl (da_cons (de_tup (da_cons (de_gI h_PATIENCE rfl) (da_cons (de_gI h_FIRST rfl) da_nil))) (da_cons (de_tup (da_cons de_int (da_cons de_int da_nil))) da_nil))))) (dl_one (ds_rtA [0, 1, 2, 3, 4, 5, 6, 7, 8, 9, 10] (ds_ret de_bl))) dl_nil)
 (dl_cons (ds_set 8 go.nd (de_call [false, false, false, false] go hZstarted (hr.mono (by omega)) rfl (da_cons (de_v 7) (da_cons (de_v 6) (da_cons (de_v 4) (da_cons (de_v 5) da_nil))))))
 (dl_cons (ds_if ((dw_or (dt_eq hu (de_v 6) de_int) (dw_or1 (dt_eq hu (de_v 6) de_int)))).t (dl_one (ds_set 4 go.nd de_int)) dl_nil)
 (dl_cons (ds_if ((dw_or (dt_eq hu (de_v 6) de_int) (dw_or1 (dt_eq hu (de_v 6) de_int)))).t (dl_one (ds_set 5 go.nd de_int)) dl_nil)
 (dl_cons (ds_set 9 go.nd (de_lst (da_cons (de_tup da_nil) (da_cons (de_tup da_nil) (da_cons de_int da_nil)))))
 (dl_cons (ds_for go (di_rng1 rfl h_range (da_cons de_int da_nil)) (dg_name 10 go.nd) (dl_aft [(10, true)] (dl_cons (ds_if (dt_not (dt_val (de_call [true, false, false, false, false] go hZshows (hr.mono (by omega)) rfl (da_cons (de_v 8) (da_cons (de_v 2) (da_cons (de_ix (de_v 9) de_int) (da_cons (de_ix (de_v 9) de_int) (da_cons (de_ix (de_v 9) de_int) da_nil)))))))) (dl_one (ds_rtA [0, 1, 2, 3, 4, 5, 6, 7, 8, 9, 10] (ds_ret de_bl))) dl_nil)
 (dl_cons (ds_if (dt_eq hu (de_ix (de_call [false, false] go hZat (hr.mono (by omega)) rfl (da_cons (de_v 2) (da_cons (de_ix (de_v 9) de_int) da_nil))) de_int) de_str) (dl_one (ds_rtA [0, 1, 2, 3, 4, 5, 6, 7, 8, 9, 10] (ds_ret de_bl))) dl_nil)
 (dl_one (ds_if (dt_not (dt_val (de_call [true, false, true, false, false, true] go hZmoved (hr.mono (by omega)) rfl (da_cons (de_v 8) (da_cons (de_v 2) (da_cons (de_v 9) (da_cons (de_v 4) (da_cons (de_v 5) (da_cons (de_v 3) da_nil))))))))) (dl_one (ds_rtA [0, 1, 2, 3, 4, 5, 6, 7, 8, 9, 10] (ds_ret de_bl))) dl_nil))))))
 (dl_one (ds_rtA [0, 1, 2, 3, 4, 5, 6, 7, 8, 9, 10] (ds_ret (de_and (de_call [true, false, false, false, false] go hZshows (hr.mono (by omega)) rfl (da_cons (de_v 8) (da_cons (de_v 2) (da_cons (de_ix (de_v 9) de_int) (da_cons (de_ix (de_v 9) de_int) (da_cons (de_ix (de_v 9) de_int) da_nil)))))) (de_one (de_call [false, false] go hZsame (hr.mono (by omega)) rfl (da_cons (de_fld hf_rows (de_v 7)) (da_cons (de_v 2) da_nil)))))))))))))))))))))
end
end My
namespace My
open PySem PySem.Spec PyProof.Rows L2 Dl
def fn_law : Fn
 | [.val (.scr ns)] => some (.ret (.val (.bl true)) [.val (.scr ns)])
 | _ => none
theorem le_law : Fn.le fn_law Fn_law := by
 intro ss o h
 unfold fn_law at h
 split at h
 · rename_i ns
   cases h
   rw [eq_law, law_true]; rfl
 · cases h
theorem all {P : Program} {w : World} {K : PySem.W.Frag} {h base : Heap} {mg : Str → Option Value} {f : Addr} {fd : FuncData} (X : K.In h) (G : h.Ns mainGlobals mg) (ce : SaysP ocs prs fn fa K) (F : FunD K "law" "law" (defArgs s_law) (defBody s_law) (defScope s_law) [] [] f fd) : FnOk P w K mg base (L2.CX P w) 84 f fd ["_law_script"] (spD K 1 fn_law) := by
 have c := ce.d
 have h_len : mg "len" = none := He.free_ok X G (c.fact 56 (f := .free "len") rfl)
 have h_int : mg "int" = none := He.free_ok X G (c.fact 54 (f := .free "int") rfl)
 have h_min : mg "min" = none := He.free_ok X G (c.fact 59 (f := .free "min") rfl)
 have h_range : mg "range" = none := He.free_ok X G (c.fact 61 (f := .free "range") rfl)
 have h_list : mg "list" = none := He.free_ok X G (c.fact 57 (f := .free "list") rfl)
 have h_tuple : mg "tuple" = none := He.free_ok X G (c.fact 65 (f := .free "tuple") rfl)
 have h_isinstance : mg "isinstance" = none := He.free_ok X G (c.fact 55 (f := .free "isinstance") rfl)
 have h_bool : mg "bool" = none := He.free_ok X G (c.fact 52 (f := .free "bool") rfl)
 have h_sorted : mg "sorted" = none := He.free_ok X G (c.fact 62 (f := .free "sorted") rfl)
 have h_enumerate : mg "enumerate" = none := He.free_ok X G (c.fact 53 (f := .free "enumerate") rfl)
 have h_max : mg "max" = none := He.free_ok X G (c.fact 58 (f := .free "max") rfl)
 have hf_rows : FldOk K ["Tree", "Round"] "rows" := ⟨fun n hn => by rcases List.mem_cons.mp hn with rfl | hn; exact ⟨He.cls_ok (c.fact 28 (f := .cls "Tree") rfl), He.noat_ok (c.fact 35 (f := .noat "Tree" "rows") rfl)⟩; rw [List.mem_singleton.mp hn]; exact ⟨He.cls_ok (c.fact 37 (f := .cls "Round") rfl), He.noat_ok (c.fact 49 (f := .noat "Round" "rows") rfl)⟩⟩
 have hf_length : FldOk K ["Tree"] "length" := ⟨fun n hn => by rw [List.mem_singleton.mp hn]; exact ⟨He.cls_ok (c.fact 28 (f := .cls "Tree") rfl), He.noat_ok (c.fact 34 (f := .noat "Tree" "length") rfl)⟩⟩
 have h_str : mg "str" = none := He.free_ok X G (c.fact 63 (f := .free "str") rfl)
 have hf_patience : FldOk K ["Round"] "patience" := ⟨fun n hn => by rw [List.mem_singleton.mp hn]; exact ⟨He.cls_ok (c.fact 37 (f := .cls "Round") rfl), He.noat_ok (c.fact 48 (f := .noat "Round" "patience") rfl)⟩⟩
 have hf_default : FldOk K ["Round"] "default" := ⟨fun n hn => by rw [List.mem_singleton.mp hn]; exact ⟨He.cls_ok (c.fact 37 (f := .cls "Round") rfl), He.noat_ok (c.fact 45 (f := .noat "Round" "default") rfl)⟩⟩
 have hf_path : FldOk K ["Round"] "path" := ⟨fun n hn => by rw [List.mem_singleton.mp hn]; exact ⟨He.cls_ok (c.fact 37 (f := .cls "Round") rfl), He.noat_ok (c.fact 47 (f := .noat "Round" "path") rfl)⟩⟩
 have hf_history : FldOk K ["Round"] "history" := ⟨fun n hn => by rw [List.mem_singleton.mp hn]; exact ⟨He.cls_ok (c.fact 37 (f := .cls "Round") rfl), He.noat_ok (c.fact 46 (f := .noat "Round" "history") rfl)⟩⟩
 have hf_silences : FldOk K ["Round"] "silences" := ⟨fun n hn => by rw [List.mem_singleton.mp hn]; exact ⟨He.cls_ok (c.fact 37 (f := .cls "Round") rfl), He.noat_ok (c.fact 50 (f := .noat "Round" "silences") rfl)⟩⟩
 have h_PATIENCE : ∃ t, mg "PATIENCE" = some (.int 3 t) := He.int_ok X G (c.fact 66 (f := .int "PATIENCE" 3) rfl)
 have h_FIRST : ∃ t, mg "FIRST" = some (.int 0 t) := He.int_ok X G (c.fact 67 (f := .int "FIRST" 0) rfl)
 obtain ⟨fdZcell, FZcell⟩ := c.def_ 9 (d := dZcell) rfl
 obtain ⟨fdZsource, FZsource⟩ := c.def_ 10 (d := dZsource) rfl
 obtain ⟨fdZdraw, FZdraw⟩ := c.def_ 11 (d := dZdraw) rfl
 obtain ⟨fdZsizes, FZsizes⟩ := c.def_ 13 (d := dZsizes) rfl
 obtain ⟨fdZfull, FZfull⟩ := c.def_ 12 (d := dZfull) rfl
 obtain ⟨fdZsplit, FZsplit⟩ := c.def_ 14 (d := dZsplit) rfl
 obtain ⟨fdZtree, FZtree⟩ := c.def_ 15 (d := dZtree) rfl
 obtain ⟨fdZany_tree, FZany_tree⟩ := c.def_ 16 (d := dZany_tree) rfl
 obtain ⟨fd_is_integer, F_is_integer⟩ := c.def_ 1 (d := d_is_integer) rfl
 obtain ⟨fd_is_number, F_is_number⟩ := c.def_ 2 (d := d_is_number) rfl
 obtain ⟨fd_ascending, F_ascending⟩ := c.def_ 3 (d := d_ascending) rfl
 obtain ⟨fd_checked_cells, F_checked_cells⟩ := c.def_ 5 (d := d_checked_cells) rfl
 obtain ⟨fd_checked, F_checked⟩ := c.def_ 4 (d := d_checked) rfl
 obtain ⟨fd_length_of, F_length_of⟩ := c.def_ 6 (d := d_length_of) rfl
 obtain ⟨fd_Tree_DinitD, F_Tree_DinitD⟩ := c.def_ 23 (d := d_Tree_DinitD) rfl
 obtain ⟨fdZsame, FZsame⟩ := c.def_ 17 (d := dZsame) rfl
 obtain ⟨fd_Round_DinitD, F_Round_DinitD⟩ := c.def_ 27 (d := d_Round_DinitD) rfl
 obtain ⟨fdZstarted, FZstarted⟩ := c.def_ 20 (d := dZstarted) rfl
 obtain ⟨fdZat, FZat⟩ := c.def_ 18 (d := dZat) rfl
 obtain ⟨fd_rows_at, F_rows_at⟩ := c.def_ 8 (d := d_rows_at) rfl
 obtain ⟨g_Round_party, fd_Round_party, P_Round_party, F_Round_party⟩ := ce.prop 0 (d := d_Round_party) rfl rfl
 obtain ⟨g_Round_cells, fd_Round_cells, P_Round_cells, F_Round_cells⟩ := ce.prop 1 (d := d_Round_cells) rfl rfl
 obtain ⟨g_Round_outcome, fd_Round_outcome, P_Round_outcome, F_Round_outcome⟩ := ce.prop 2 (d := d_Round_outcome) rfl rfl
 obtain ⟨fdZshows, FZshows⟩ := c.def_ 19 (d := dZshows) rfl
 obtain ⟨fd_Round_go_on, F_Round_go_on⟩ := c.def_ 28 (d := d_Round_go_on) rfl
 obtain ⟨fd_Round_say, F_Round_say⟩ := c.def_ 29 (d := d_Round_say) rfl
 obtain ⟨fd_Round_wait, F_Round_wait⟩ := c.def_ 30 (d := d_Round_wait) rfl
 obtain ⟨fdZmoved, FZmoved⟩ := c.def_ 21 (d := dZmoved) rfl
 have qZcell : DF P w K mg base "_law_cell" 2 2 FnZcell := df_of FZcell scZcell (He.glo_ok X G (c.fact 9 (f := .glo "_law_cell") rfl)) (FunD.bindsN (ps := ["_law_script", "_law_k"]) FZcell fun _ _ _ _ _ _ us hl => match us, hl with | [_, _], _ => rfl) (bZcell (k := 0) h_len)
 have qZsource : DF P w K mg base "_law_source" 2 1 FnZsource := df_of FZsource scZsource (He.glo_ok X G (c.fact 10 (f := .glo "_law_source") rfl)) (FunD.bindsN (ps := ["_law_cell_here"]) FZsource fun _ _ _ _ _ _ us hl => match us, hl with | [_], _ => rfl) (bZsource (k := 0) )
 have qZdraw : DF P w K mg base "_law_draw" 2 2 FnZdraw := df_of FZdraw scZdraw (He.glo_ok X G (c.fact 11 (f := .glo "_law_draw") rfl)) (FunD.bindsN (ps := ["_law_source_here", "_law_limit"]) FZdraw fun _ _ _ _ _ _ us hl => match us, hl with | [_, _], _ => rfl) (bZdraw (k := 0) h_int)
 have qZsizes : DF P w K mg base "_law_sizes" 4 4 FnZsizes := df_of FZsizes scZsizes (He.glo_ok X G (c.fact 13 (f := .glo "_law_sizes") rfl)) (FunD.bindsN (ps := ["_law_source_here", "_law_parties", "_law_standings", "_law_cap"]) FZsizes fun _ _ _ _ _ _ us hl => match us, hl with | [_, _, _, _], _ => rfl) (bZsizes (k := 2) h_int (qZdraw.up (by decide)) h_min h_range h_len)
 have qZfull : DF P w K mg base "_law_full" 2 1 FnZfull := df_of FZfull scZfull (He.glo_ok X G (c.fact 12 (f := .glo "_law_full") rfl)) (FunD.bindsN (ps := ["_law_sizes_here"]) FZfull fun _ _ _ _ _ _ us hl => match us, hl with | [_], _ => rfl) (bZfull (k := 0) h_list h_range)
 have qZsplit : DF P w K mg base "_law_split" 4 2 FnZsplit := df_of FZsplit scZsplit (He.glo_ok X G (c.fact 14 (f := .glo "_law_split") rfl)) (FunD.bindsN (ps := ["_law_side", "_law_source_here"]) FZsplit fun _ _ _ _ _ _ us hl => match us, hl with | [_, _], _ => rfl) (bZsplit (k := 2) (qZdraw.up (by decide)) h_len h_range)
 have n6_ := FunD.bindsN (ps := ["_law_sides", "_law_source_here", "_law_ends"]) FZtree fun _ _ _ _ _ _ us hl => match us, hl with | [_, _, _], _ => rfl
 have qZtree_0 : DF P w K mg base "_law_tree" 0 3 (FnZtree 0) := ⟨fun _ _ z => (nomatch z), _, _, _, He.glo_ok X G (c.fact 15 (f := .glo "_law_tree") rfl), FZtree.kp, n6_, ⟨fun vs H Q E ⟨_, _, _, _, _, _, _, z, _⟩ => (nomatch z), fun A outer s H args us vs Q E _ _ _ _ ⟨_, _, _, _, _, _, _, z, _⟩ => (nomatch z)⟩⟩
 have u6_ := He.glo_ok X G (c.fact 15 (f := .glo "_law_tree") rfl)
 have qZtree_1 : DF P w K mg base "_law_tree" 6 3 (FnZtree 1) := df_of FZtree scZtree u6_ n6_ (bZtree (k := 4) h_len h_range (qZdraw.up (by decide)) (qZsplit.up (by decide)) (qZtree_0.up (by decide)) h_tuple)
 have qZtree_2 : DF P w K mg base "_law_tree" 8 3 (FnZtree 2) := df_of FZtree scZtree u6_ n6_ (bZtree (k := 6) h_len h_range (qZdraw.up (by decide)) (qZsplit.up (by decide)) (qZtree_1.up (by decide)) h_tuple)
 have qZtree_3 : DF P w K mg base "_law_tree" 10 3 (FnZtree 3) := df_of FZtree scZtree u6_ n6_ (bZtree (k := 8) h_len h_range (qZdraw.up (by decide)) (qZsplit.up (by decide)) (qZtree_2.up (by decide)) h_tuple)
 have qZtree_4 : DF P w K mg base "_law_tree" 12 3 (FnZtree 4) := df_of FZtree scZtree u6_ n6_ (bZtree (k := 10) h_len h_range (qZdraw.up (by decide)) (qZsplit.up (by decide)) (qZtree_3.up (by decide)) h_tuple)
 have qZtree_5 : DF P w K mg base "_law_tree" 14 3 (FnZtree 5) := df_of FZtree scZtree u6_ n6_ (bZtree (k := 12) h_len h_range (qZdraw.up (by decide)) (qZsplit.up (by decide)) (qZtree_4.up (by decide)) h_tuple)
 have qZtree_6 : DF P w K mg base "_law_tree" 16 3 (FnZtree 6) := df_of FZtree scZtree u6_ n6_ (bZtree (k := 14) h_len h_range (qZdraw.up (by decide)) (qZsplit.up (by decide)) (qZtree_5.up (by decide)) h_tuple)
 have qZtree_7 : DF P w K mg base "_law_tree" 18 3 (FnZtree 7) := df_of FZtree scZtree u6_ n6_ (bZtree (k := 16) h_len h_range (qZdraw.up (by decide)) (qZsplit.up (by decide)) (qZtree_6.up (by decide)) h_tuple)
 have qZtree_8 : DF P w K mg base "_law_tree" 20 3 (FnZtree 8) := df_of FZtree scZtree u6_ n6_ (bZtree (k := 18) h_len h_range (qZdraw.up (by decide)) (qZsplit.up (by decide)) (qZtree_7.up (by decide)) h_tuple)
 have qZtree_9 : DF P w K mg base "_law_tree" 22 3 (FnZtree 9) := df_of FZtree scZtree u6_ n6_ (bZtree (k := 20) h_len h_range (qZdraw.up (by decide)) (qZsplit.up (by decide)) (qZtree_8.up (by decide)) h_tuple)
 have qZany_tree : DF P w K mg base "_law_any_tree" 24 3 FnZany_tree := df_of FZany_tree scZany_tree (He.glo_ok X G (c.fact 16 (f := .glo "_law_any_tree") rfl)) (FunD.bindsN (ps := ["_law_shape", "_law_second", "_law_cap"]) FZany_tree fun _ _ _ _ _ _ us hl => match us, hl with | [_, _, _], _ => rfl) (bZany_tree (k := 22) (qZsizes.up (by decide)) (qZfull.up (by decide)) (qZsource.up (by decide)) (qZtree_9.up (by decide)))
 have q_is_integer : DF P w K mg base "is_integer" 2 1 Fn_is_integer := df_of F_is_integer sc_is_integer (He.glo_ok X G (c.fact 1 (f := .glo "is_integer") rfl)) (FunD.bindsN (ps := ["value"]) F_is_integer fun _ _ _ _ _ _ us hl => match us, hl with | [_], _ => rfl) (b_is_integer (k := 0) h_int h_isinstance h_bool)
 have q_is_number : DF P w K mg base "is_number" 4 1 Fn_is_number := df_of F_is_number sc_is_number (He.glo_ok X G (c.fact 2 (f := .glo "is_number") rfl)) (FunD.bindsN (ps := ["value"]) F_is_number fun _ _ _ _ _ _ us hl => match us, hl with | [_], _ => rfl) (b_is_number (k := 2) (q_is_integer.up (by decide)))
 have q_ascending : DF P w K mg base "ascending" 2 1 Fn_ascending := df_of F_ascending sc_ascending (He.glo_ok X G (c.fact 3 (f := .glo "ascending") rfl)) (FunD.bindsN (ps := ["numbers"]) F_ascending fun _ _ _ _ _ _ us hl => match us, hl with | [_], _ => rfl) (b_ascending (k := 0) h_int h_sorted h_tuple)
 have q_checked_cells : DF P w K mg base "checked_cells" 6 2 Fn_checked_cells := df_of F_checked_cells sc_checked_cells (He.glo_ok X G (c.fact 5 (f := .glo "checked_cells") rfl)) (FunD.bindsN (ps := ["branches", "path"]) F_checked_cells fun _ _ _ _ _ _ us hl => match us, hl with | [_, _], _ => rfl) (b_checked_cells (k := 4) (q_is_number.up (by decide)) (q_ascending.up (by decide)))
 have qR_checked : ∀ i, DF P w K mg base "checked" (6 + 2 * i) 2 (Tl.FnR_checked Fn_checked_cells i) := fun i => by
  induction i with
  | zero => exact ⟨fun _ _ z => (nomatch z), _, _, _, He.glo_ok X G (c.fact 4 (f := .glo "checked") rfl), F_checked.kp, (FunD.bindsN (ps := ["rows", "path"]) F_checked fun _ _ _ _ _ _ us hl => match us, hl with | [_, _], _ => rfl), ⟨fun vs H Q E ⟨_, _, _, _, _, _, _, z, _⟩ => (nomatch z), fun A outer s H args us vs Q E _ _ _ _ ⟨_, _, _, _, _, _, _, z, _⟩ => (nomatch z)⟩⟩
  | succ i ih => exact df_of F_checked sc_checked (He.glo_ok X G (c.fact 4 (f := .glo "checked") rfl)) (FunD.bindsN (ps := ["rows", "path"]) F_checked fun _ _ _ _ _ _ us hl => match us, hl with | [_, _], _ => rfl) (b_checked (k := 6 + 2 * i) h_int h_isinstance h_bool (q_checked_cells.up (by omega)) h_enumerate (ih.up (by omega)) h_tuple)
 have q_checked : DF P w K mg base "checked" (6 + 2 * 12) 2 Fn_checked := (qR_checked 12).imp le_checked
 have n13_ := FunD.bindsN (ps := ["rows"]) F_length_of fun _ _ _ _ _ _ us hl => match us, hl with | [_], _ => rfl
 have q_length_of_0 : DF P w K mg base "length_of" 0 1 (Fn_length_of 0) := ⟨fun _ _ z => (nomatch z), _, _, _, He.glo_ok X G (c.fact 6 (f := .glo "length_of") rfl), F_length_of.kp, n13_, ⟨fun vs H Q E ⟨_, _, _, _, _, _, _, z, _⟩ => (nomatch z), fun A outer s H args us vs Q E _ _ _ _ ⟨_, _, _, _, _, _, _, z, _⟩ => (nomatch z)⟩⟩
 have u13_ := He.glo_ok X G (c.fact 6 (f := .glo "length_of") rfl)
 have q_length_of_1 : DF P w K mg base "length_of" 2 1 (Fn_length_of 1) := df_of F_length_of sc_length_of u13_ n13_ (b_length_of (k := 0) (q_length_of_0.up (by decide)) h_int h_max)
 have q_length_of_2 : DF P w K mg base "length_of" 4 1 (Fn_length_of 2) := df_of F_length_of sc_length_of u13_ n13_ (b_length_of (k := 2) (q_length_of_1.up (by decide)) h_int h_max)
 have q_length_of_3 : DF P w K mg base "length_of" 6 1 (Fn_length_of 3) := df_of F_length_of sc_length_of u13_ n13_ (b_length_of (k := 4) (q_length_of_2.up (by decide)) h_int h_max)
 have q_length_of_4 : DF P w K mg base "length_of" 8 1 (Fn_length_of 4) := df_of F_length_of sc_length_of u13_ n13_ (b_length_of (k := 6) (q_length_of_3.up (by decide)) h_int h_max)
 have q_length_of_5 : DF P w K mg base "length_of" 10 1 (Fn_length_of 5) := df_of F_length_of sc_length_of u13_ n13_ (b_length_of (k := 8) (q_length_of_4.up (by decide)) h_int h_max)
 have q_length_of_6 : DF P w K mg base "length_of" 12 1 (Fn_length_of 6) := df_of F_length_of sc_length_of u13_ n13_ (b_length_of (k := 10) (q_length_of_5.up (by decide)) h_int h_max)
 have q_length_of_7 : DF P w K mg base "length_of" 14 1 (Fn_length_of 7) := df_of F_length_of sc_length_of u13_ n13_ (b_length_of (k := 12) (q_length_of_6.up (by decide)) h_int h_max)
 have q_length_of_8 : DF P w K mg base "length_of" 16 1 (Fn_length_of 8) := df_of F_length_of sc_length_of u13_ n13_ (b_length_of (k := 14) (q_length_of_7.up (by decide)) h_int h_max)
 have q_length_of_9 : DF P w K mg base "length_of" 18 1 (Fn_length_of 9) := df_of F_length_of sc_length_of u13_ n13_ (b_length_of (k := 16) (q_length_of_8.up (by decide)) h_int h_max)
 have qc_Tree_DinitD : DM P w K mg base "Tree" 32 2 Fn_Tree_DinitD := dm_of (x := "Tree") F_Tree_DinitD sc_Tree_DinitD (He.glo_ok X G (c.fact 27 (f := .glo "Tree") rfl)) (He.mkr_ok (c.fact 30 (f := .mkr "Tree") rfl)) (FunD.bindsN (ps := ["self", "rows"]) F_Tree_DinitD fun _ _ _ _ _ _ us hl => match us, hl with | [_, _], _ => rfl) (b_Tree_DinitD (k := 30) (q_checked.up (by decide)) hf_rows (q_length_of_9.up (by decide)) hf_length)
 have qRZsame : ∀ i, DF P w K mg base "_law_same" (0 + 2 * i) 2 (Tl.FnR_same i) := fun i => by
  induction i with
  | zero => exact ⟨fun _ _ z => (nomatch z), _, _, _, He.glo_ok X G (c.fact 17 (f := .glo "_law_same") rfl), FZsame.kp, (FunD.bindsN (ps := ["_law_actual", "_law_expected"]) FZsame fun _ _ _ _ _ _ us hl => match us, hl with | [_, _], _ => rfl), ⟨fun vs H Q E ⟨_, _, _, _, _, _, _, z, _⟩ => (nomatch z), fun A outer s H args us vs Q E _ _ _ _ ⟨_, _, _, _, _, _, _, z, _⟩ => (nomatch z)⟩⟩
  | succ i ih => exact df_of FZsame scZsame (He.glo_ok X G (c.fact 17 (f := .glo "_law_same") rfl)) (FunD.bindsN (ps := ["_law_actual", "_law_expected"]) FZsame fun _ _ _ _ _ _ us hl => match us, hl with | [_, _], _ => rfl) (bZsame (k := 0 + 2 * i) h_bool h_isinstance h_int h_str h_tuple h_list h_len h_range (ih.up (by omega)))
 have qZsame : DF P w K mg base "_law_same" (0 + 2 * 40) 2 FnZsame := (qRZsame 40).imp leZsame
 have u16_ := He.glo_ok X G (c.fact 36 (f := .glo "Round") rfl)
 have qck_Round_DinitD : DMK P w K mg base "Round" 2 4 1 [] [.inr 3, .inr 0] Fn_Round_DinitD := dmk_of (x := "Round") (ks := []) (pl := [.inr 3, .inr 0]) (n := 1) F_Round_DinitD sc_Round_DinitD u16_ (He.mkr_ok (c.fact 39 (f := .mkr "Round") rfl)) (Classical.choose_spec (FunD.kbinds0 (ps := ["self", "tree", "patience", "default"]) F_Round_DinitD 2 [] [("patience", V.int 3), ("default", V.int 0)] (fun us mv ws => us ++ mv) (List.cons_ne_nil _ _) (fun _ h => h) (fun r1 r2 r3 => r1.append r2) (fun _ _ _ _ _ _ us mv ws h1 h2 h3 => match us, mv, ws, h1, h2, h3 with | [_, _], [_, _], [], _, _, _ => ⟨_, _, _, _, _, _, rfl, rfl, ⟨_, _, _, _, _, _, rfl, rfl, rfl⟩⟩))) (fun vs zs _ h2 => match zs, h2 with | [], _ => rfl) (b_Round_DinitD (k := 0) hf_rows hf_patience hf_default hf_path hf_history hf_silences)
 have qck_default_Round_DinitD : DMK P w K mg base "Round" 2 4 1 ["default"] [.inr 3, .inl 0] Fn_Round_DinitD := dmk_of (x := "Round") (ks := ["default"]) (pl := [.inr 3, .inl 0]) (n := 1) F_Round_DinitD sc_Round_DinitD u16_ (He.mkr_ok (c.fact 39 (f := .mkr "Round") rfl)) (Classical.choose_spec (FunD.kbinds0 (ps := ["self", "tree", "patience", "default"]) F_Round_DinitD 2 ["default"] [("patience", V.int 3)] (fun us mv ws => us ++ (mv ++ ws)) (List.cons_ne_nil _ _) (fun q h => by rw [List.mem_singleton.mp h]; first | exact List.mem_cons_self .. | exact List.mem_cons_of_mem _ (List.mem_cons_self ..)) (fun r1 r2 r3 => r1.append (r2.append r3)) (fun _ _ _ _ _ _ us mv ws h1 h2 h3 => match us, mv, ws, h1, h2, h3 with | [_, _], [_], [_], _, _, _ => ⟨_, _, _, _, _, _, rfl, rfl, rfl⟩))) (fun vs zs _ h2 => match zs, h2 with | [z0], _ => rfl) (b_Round_DinitD (k := 0) hf_rows hf_patience hf_default hf_path hf_history hf_silences)
 have qck_patience_Round_DinitD : DMK P w K mg base "Round" 2 4 1 ["patience"] [.inl 0, .inr 0] Fn_Round_DinitD := dmk_of (x := "Round") (ks := ["patience"]) (pl := [.inl 0, .inr 0]) (n := 1) F_Round_DinitD sc_Round_DinitD u16_ (He.mkr_ok (c.fact 39 (f := .mkr "Round") rfl)) (Classical.choose_spec (FunD.kbinds0 (ps := ["self", "tree", "patience", "default"]) F_Round_DinitD 2 ["patience"] [("default", V.int 0)] (fun us mv ws => us ++ (ws ++ mv)) (List.cons_ne_nil _ _) (fun q h => by rw [List.mem_singleton.mp h]; first | exact List.mem_cons_self .. | exact List.mem_cons_of_mem _ (List.mem_cons_self ..)) (fun r1 r2 r3 => r1.append (r3.append r2)) (fun _ _ _ _ _ _ us mv ws h1 h2 h3 => match us, mv, ws, h1, h2, h3 with | [_, _], [_], [_], _, _, _ => ⟨_, _, _, _, _, _, rfl, rfl, rfl⟩))) (fun vs zs _ h2 => match zs, h2 with | [z0], _ => rfl) (b_Round_DinitD (k := 0) hf_rows hf_patience hf_default hf_path hf_history hf_silences)
 have qck_patience_default_Round_DinitD : DMK P w K mg base "Round" 2 4 1 ["patience", "default"] [.inl 0, .inl 1] Fn_Round_DinitD := dmk_of (x := "Round") (ks := ["patience", "default"]) (pl := [.inl 0, .inl 1]) (n := 1) F_Round_DinitD sc_Round_DinitD u16_ (He.mkr_ok (c.fact 39 (f := .mkr "Round") rfl)) (kbn_ofD (ps := ["self", "tree", "patience", "default"]) (ks := ["patience", "default"]) (n := 2) F_Round_DinitD fun _ _ _ _ _ _ us ws h1 h2 => match us, ws, h1, h2 with | [_, _], [_, _], _, _ => rfl) (fun vs zs _ h2 => match zs, h2 with | [z0, z1], _ => rfl) (b_Round_DinitD (k := 0) hf_rows hf_patience hf_default hf_path hf_history hf_silences)
 have qZstarted : DF P w K mg base "_law_started" 4 4 FnZstarted := df_of FZstarted scZstarted (He.glo_ok X G (c.fact 20 (f := .glo "_law_started") rfl)) (FunD.bindsN (ps := ["_law_tree_here", "_law_way", "_law_bound", "_law_first"]) FZstarted fun _ _ _ _ _ _ us hl => match us, hl with | [_, _, _, _], _ => rfl) (bZstarted (k := 2) (qck_Round_DinitD.up (by decide)) (qck_patience_Round_DinitD.up (by decide)) (qck_default_Round_DinitD.up (by decide)) (qck_patience_default_Round_DinitD.up (by decide)))
 have n17_ := FunD.bindsN (ps := ["_law_rows", "_law_path"]) FZat fun _ _ _ _ _ _ us hl => match us, hl with | [_, _], _ => rfl
 have qZat_0 : DF P w K mg base "_law_at" 0 2 (FnZat 0) := ⟨fun _ _ z => (nomatch z), _, _, _, He.glo_ok X G (c.fact 18 (f := .glo "_law_at") rfl), FZat.kp, n17_, ⟨fun vs H Q E ⟨_, _, _, _, _, _, _, z, _⟩ => (nomatch z), fun A outer s H args us vs Q E _ _ _ _ ⟨_, _, _, _, _, _, _, z, _⟩ => (nomatch z)⟩⟩
 have u18_ := He.glo_ok X G (c.fact 18 (f := .glo "_law_at") rfl)
 have qZat_1 : DF P w K mg base "_law_at" 2 2 (FnZat 1) := df_of FZat scZat u18_ n17_ (bZat (k := 0) h_len (qZat_0.up (by decide)))
 have qZat_2 : DF P w K mg base "_law_at" 4 2 (FnZat 2) := df_of FZat scZat u18_ n17_ (bZat (k := 2) h_len (qZat_1.up (by decide)))
 have qZat_3 : DF P w K mg base "_law_at" 6 2 (FnZat 3) := df_of FZat scZat u18_ n17_ (bZat (k := 4) h_len (qZat_2.up (by decide)))
 have qZat_4 : DF P w K mg base "_law_at" 8 2 (FnZat 4) := df_of FZat scZat u18_ n17_ (bZat (k := 6) h_len (qZat_3.up (by decide)))
 have qZat_5 : DF P w K mg base "_law_at" 10 2 (FnZat 5) := df_of FZat scZat u18_ n17_ (bZat (k := 8) h_len (qZat_4.up (by decide)))
 have qZat_6 : DF P w K mg base "_law_at" 12 2 (FnZat 6) := df_of FZat scZat u18_ n17_ (bZat (k := 10) h_len (qZat_5.up (by decide)))
 have qZat_7 : DF P w K mg base "_law_at" 14 2 (FnZat 7) := df_of FZat scZat u18_ n17_ (bZat (k := 12) h_len (qZat_6.up (by decide)))
 have qZat_8 : DF P w K mg base "_law_at" 16 2 (FnZat 8) := df_of FZat scZat u18_ n17_ (bZat (k := 14) h_len (qZat_7.up (by decide)))
 have qZat_9 : DF P w K mg base "_law_at" 18 2 (FnZat 9) := df_of FZat scZat u18_ n17_ (bZat (k := 16) h_len (qZat_8.up (by decide)))
 have q_rows_at : DF P w K mg base "rows_at" 2 2 Fn_rows_at := df_of F_rows_at sc_rows_at (He.glo_ok X G (c.fact 8 (f := .glo "rows_at") rfl)) (FunD.bindsN (ps := ["rows", "path"]) F_rows_at fun _ _ _ _ _ _ us hl => match us, hl with | [_, _], _ => rfl) (b_rows_at (k := 0) )
 have qp_Round_party : DProp P w K mg base "Round" "party" 4 1 Fn_Round_party := dprop_of (x := "Round") (m := "party") F_Round_party sc_Round_party (He.cls_ok (c.fact 37 (f := .cls "Round") rfl)) P_Round_party (FunD.bindsN (ps := ["self"]) F_Round_party fun _ _ _ _ _ _ us hl => match us, hl with | [_], _ => rfl) (b_Round_party (k := 2) hf_rows hf_path (q_rows_at.up (by decide)))
 have qp_Round_cells : DProp P w K mg base "Round" "cells" 4 1 Fn_Round_cells := dprop_of (x := "Round") (m := "cells") F_Round_cells sc_Round_cells (He.cls_ok (c.fact 37 (f := .cls "Round") rfl)) P_Round_cells (FunD.bindsN (ps := ["self"]) F_Round_cells fun _ _ _ _ _ _ us hl => match us, hl with | [_], _ => rfl) (b_Round_cells (k := 2) hf_rows hf_path (q_rows_at.up (by decide)) h_tuple)
 have qp_Round_outcome : DProp P w K mg base "Round" "outcome" 4 1 Fn_Round_outcome := dprop_of (x := "Round") (m := "outcome") F_Round_outcome sc_Round_outcome (He.cls_ok (c.fact 37 (f := .cls "Round") rfl)) P_Round_outcome (FunD.bindsN (ps := ["self"]) F_Round_outcome fun _ _ _ _ _ _ us hl => match us, hl with | [_], _ => rfl) (b_Round_outcome (k := 2) hf_rows hf_path (q_rows_at.up (by decide)))
 have qZshows : DF P w K mg base "_law_shows" 82 5 FnZshows := df_of FZshows scZshows (He.glo_ok X G (c.fact 19 (f := .glo "_law_shows") rfl)) (FunD.bindsN (ps := ["_law_game", "_law_rows", "_law_path", "_law_history", "_law_silences"]) FZshows fun _ _ _ _ _ _ us hl => match us, hl with | [_, _, _, _, _], _ => rfl) (bZshows (k := 80) (qZat_9.up (by decide)) hf_path (qZsame.up (by decide)) hf_history hf_silences (qp_Round_party.up (by decide)) (qp_Round_cells.up (by decide)) (qp_Round_outcome.up (by decide)) h_tuple)
 have qm_Round_go_on : DMeth P w K mg base "Round" "go_on" 6 3 Fn_Round_go_on := dmeth_of (x := "Round") (m := "go_on") F_Round_go_on sc_Round_go_on (He.cls_ok (c.fact 37 (f := .cls "Round") rfl)) (He.meth_ok (c.fact 40 (f := .meth "Round" "go_on") rfl)) (FunD.bindsN (ps := ["self", "branch", "said"]) F_Round_go_on fun _ _ _ _ _ _ us hl => match us, hl with | [_, _, _], _ => rfl) (b_Round_go_on (k := 4) hf_history (qp_Round_party.up (by decide)) hf_path hf_silences)
 have qm_Round_say : DMeth P w K mg base "Round" "say" 8 3 Fn_Round_say := dmeth_of (x := "Round") (m := "say") F_Round_say sc_Round_say (He.cls_ok (c.fact 37 (f := .cls "Round") rfl)) (He.meth_ok (c.fact 41 (f := .meth "Round" "say") rfl)) (FunD.bindsN (ps := ["self", "party", "branch"]) F_Round_say fun _ _ _ _ _ _ us hl => match us, hl with | [_, _, _], _ => rfl) (b_Round_say (k := 6) (qp_Round_party.up (by decide)) (q_is_integer.up (by decide)) (q_is_number.up (by decide)) (qp_Round_cells.up (by decide)) h_len (qm_Round_go_on.up (by decide)) (qp_Round_outcome.up (by decide)))
 have qm_Round_wait : DMeth P w K mg base "Round" "wait" 8 1 Fn_Round_wait := dmeth_of (x := "Round") (m := "wait") F_Round_wait sc_Round_wait (He.cls_ok (c.fact 37 (f := .cls "Round") rfl)) (He.meth_ok (c.fact 42 (f := .meth "Round" "wait") rfl)) (FunD.bindsN (ps := ["self"]) F_Round_wait fun _ _ _ _ _ _ us hl => match us, hl with | [_], _ => rfl) (b_Round_wait (k := 6) (qp_Round_party.up (by decide)) hf_silences hf_patience (qm_Round_go_on.up (by decide)) hf_default h_int (qp_Round_cells.up (by decide)) h_len h_min)
 have qZmoved : DF P w K mg base "_law_moved" 82 6 FnZmoved := df_of FZmoved scZmoved (He.glo_ok X G (c.fact 21 (f := .glo "_law_moved") rfl)) (FunD.bindsN (ps := ["_law_game", "_law_rows", "_law_state", "_law_bound", "_law_first", "_law_source_here"]) FZmoved fun _ _ _ _ _ _ us hl => match us, hl with | [_, _, _, _, _, _], _ => rfl) (bZmoved (k := 80) (qZat_9.up (by decide)) h_len (qZdraw.up (by decide)) (qm_Round_say.up (by decide)) (qm_Round_wait.up (by decide)) (qZsame.up (by decide)) h_int h_min)
 have body : FnOk P w K mg base (L2.CX P w) 84 f fd ["_law_script"] (spD K 1 (mkFn 1 N_law.length _)) := fn_data F sc_law (b_law (k := 82) (qZcell.up (by decide)) (qZsource.up (by decide)) (qZany_tree.up (by decide)) (qZdraw.up (by decide)) (qc_Tree_DinitD.up (by decide)) h_PATIENCE h_FIRST (qZsame.up (by decide)) (qZstarted.up (by decide)) h_range (qZshows.up (by decide)) (qZat_9.up (by decide)) (qZmoved.up (by decide)) hf_rows)
 exact body.imp fun vs H Q E q => spD_imp le_law q
theorem never {P : Program} {w : World} {K : PySem.W.Frag} {mg : Str → Option Value} {base : Heap} {k : Nat} {f : Addr} {fd : FuncData} {ps : List Str} {sp : Sp} (F : FnOk P w K mg base (L2.CX P w) k f fd ps sp) : FnOk P w K mg base L2.CX0 k f fd ps (fun vs H Q _ => sp vs H Q fun _ _ _ => False) :=
 ⟨fun vs H Q E q => F.len _ _ _ _ q, fun A outer s H args us vs Q E hr he hb hv hs => codeAny_mono (F.run A outer s H args us vs Q _ hr he hb hv hs) fun r s' z => by
  cases r with
  | ok v => cases v <;> exact z
  | error e =>
   obtain ⟨_, _, _, _, _, _, _, _, _, _, _, _, z⟩ := z
   exact z.elim⟩
theorem sp_law {K : PySem.W.Frag} (H : Hp) (a : Addr) (ns : List Int) (h : SqL K H a (ns.map V.int)) : spD K 1 fn_law [.ref a] H (fun v _ => v = .bl true) fun _ _ _ => False := by
 refine ⟨⟨fun _ => none, [some (.ref a)]⟩, H, [.val (.scr ns)], _, rfl, rfl, ⟨fun _ _ z => (nomatch z), Same.refl H, fun _ _ z => (nomatch z), rfl, fun i d z => ?_, fun i d z => ?_, fun i j d e b z => ?_, fun i d z => ?_⟩, rfl, fun v G' H' _ _ k => k⟩
 · cases i with
   | zero => cases z; exact ⟨.ref a, rfl, a, rfl, h⟩
   | succ i => cases z
 · cases i <;> cases z
 · cases i <;> cases z
 · cases i <;> cases z
theorem facts {P : Program} {w : World} {K : PySem.W.Frag} {h : Heap} {mg : Str → Option Value} {f : Addr} (X : K.In h) (G : h.Ns mainGlobals mg) (hfa : mg ("law" : Str) = some (.ref f)) (ce : SaysP ocs prs fn fa K) :
  ∃ fd : FuncData, (∀ (s : Shared) (v : Value), BindsTo s fd ⟨[v], []⟩ [("_law_script", v)]) ∧ ∀ base : Heap, K.In base → base.Ns mainGlobals mg → FnOk P w K mg base L2.CX0 84 f fd ["_law_script"] (fun vs H Q _ => spD K 1 fn_law vs H Q fun _ _ _ => False) := by
 have c := ce.d
 obtain ⟨fd, F⟩ := c.def_ 22 (d := d_law) rfl
 have e := hfa.symm.trans (He.glo_ok X G (c.fact 22 (f := .glo "law") rfl))
 cases e
 have b := FunD.bindsA (ps := ["_law_script"]) F fun _ _ _ _ _ _ us hl => match us, hl with | [_], _ => rfl
 exact ⟨fd, fun s v => b s [v] rfl, fun base X2 G2 => never (all X2 G2 ce F)⟩
end My
open PySem PySem.W PySem.Calls PyProof.Rows
theorem PySem.Challenge.cw_plainask_k42_round_silences_holds : PySem.Challenge.rw_plainask_k42_round_silences.Holds := by
 w_on; o_law
 refine HandSHeadRun.head_any (r := OpenLaw.row PySem.Challenge.rw_plainask_k42_round_silences) (q := view (OpenLaw.row PySem.Challenge.rw_plainask_k42_round_silences).prog [34]) (H := My.hk) (ob := My.ob) (M := 8000) (loose := My.loose) (d := HandSHeadRun.topDef (OpenLaw.row PySem.Challenge.rw_plainask_k42_round_silences).prog 34) (kwd := []) My.ob_eq
  (by kernel_rfl) (fun s => by kernel_rfl) My.run (by kernel_rfl) (by kernel_rfl) (by kernel_rfl) (by rfl) (by first | assumption | decide +kernel) (by decide +kernel) ⟨rfl, rfl, rfl, rfl, rfl, by decide +kernel⟩ ?hw ?hc
 case hw => w_witness2
 case hc =>
  refine L2.walk_ofE (l := PySem.Challenge.rw_plainask_k42_round_silences) (n := 63) (k := 84) (x := "_law_script") (CX := L2.CX0) rfl (by decide) (by kernel_rfl) ⟨rfl, by decide, by decide⟩ ?F (fun _ _ _ _ z => z)
  intro w mg fa h Y G hmg0
  obtain ⟨K, KX, c⟩ := Y
  have hmg : mg ("law" : PySem.Str) = some (.ref fa) := by
   have e : (HandSHeadRun.topDef (OpenLaw.row PySem.Challenge.rw_plainask_k42_round_silences).prog 34).name = ("law" : PySem.Str) := by kernel_rfl
   rw [← e]
   exact hmg0
  obtain ⟨fd, hb, hF⟩ := My.facts (P := (PySem.Challenge.rw_plainask_k42_round_silences).prog) (w := w) KX G hmg c
  exact ⟨K, fd, (fun vs H Q _ => Dl.spD K 1 My.fn_law vs H Q fun _ _ _ => False), KX, hb, fun H a ns hl _ hS => My.sp_law H a ns hS, hF⟩
