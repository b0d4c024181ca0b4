import PyProof.Rows.All
import HandS.ForMost
import HandS.IsInst
import HandS.HeadHook2
import HandS.Property
import HandS.ExcIs
import HandS.ExcInit
import HandS.ExcField
import KE.KSuper
import Wide.All
import OpenK.AllK
import Wide.FinOn
import KE.KStateDown
import HandS.Exc
import HandS.WordsExc
import HandS.Defaults
import HandS.Head0
import HandS.Head1
import HandS.Head2
import HandS.HeadEnd
import HandS.HeadHook1
import HandS.Deep
import HandS.Dict
import HandS.ExcOwn
import HandS.TryOnly
import HandS.Star
import HandS.Flow
import HandS.Wide
import HandS.SortInts
import HandS.TupAny
import HandS.Conv
import HandS.ExcCtx
import HandS.Style
import KE.KSortedM
import HandS.CallSlots
import HandS.Zip
import HandS.SlotsOwn
import HandS.DictComp
import KE.KUnpackStar
import PyProof.RulesMatch
import PyProof.RulesMatchSeq
import PyProof.Rows.MatchSeqLen
import PyProof.AutoSeq1
import KE.KDictDisplayH
import PyProof.Rows.TupTab
import HandS.MakeKwOnly
import HandS.HotCalls
import HandS.ExcSuper
import KE.KExcSuper
import HandS.ExcInitHot
import HandS.Comp
import KE.KExcIs
import KE.GoesEnum
import HandS.IterVal
import HandS.OwnIter
import HandS.DictSub
import HandS.More
import HandS.Iter
import PySem.Challenge.RW_plainask_k02_box
set_option Elab.async false
set_option linter.all false
set_option maxRecDepth 100000
set_option maxHeartbeats 0
namespace Dl
open PySem L2
def ownB (K : PySem.W.Frag) (C : Addr) : Bool := He.eqO (PySem.W.findIn K (.ref C) "__class__") (some (some (.builtin "object.__class__"))) && (He.eqO (PySem.W.specialIn K (.builtin "object.__class__") "__get__") (some (some (.builtin "getset_descriptor.__get__"))) &&
 (decide (PySem.W.takesIn K (.builtin "object.__class__") = some true) && (decide (PySem.W.mroIn K C (.type "object") = some true) && (PySem.W.selfFirst K C && (He.eqO (PySem.W.findIn K (.ref C) "__len__") (some none) && He.eqO (PySem.W.findIn K (.ref C) "__length_hint__") (some none))))))
def obsE (cs : List Str) (fa : List He.Fa) (fn : List He.DefD) (K : PySem.W.Frag) : He.AlD × Bool := (He.obsD fa fn K, cs.all fun n => ownB K (He.ga K n))
def SaysE (cs : List Str) (fa : List He.Fa) (fn : List He.DefD) (K : PySem.W.Frag) : Prop := obsE cs fa fn K = (He.valD fn, true)
def obsEG (n : Nat) (cs : List Str) (fa : List He.Fa) (fn : List He.DefD) (g : Addr → Option Obj) : He.AlD × Bool := obsE cs fa fn (He.frG g (He.asD g n))
def hookE (n : Nat) (cs : List Str) (fa : List He.Fa) (fn : List He.DefD) : PySem.W.Hook where
 α := He.AlD × Bool
 obs := fun s => obsEG n cs fa fn s.heap.get?
 val := fun _ => (He.valD fn, true)
 says := fun _ h => ∃ K : PySem.W.Frag, K.In h ∧ SaysE cs fa fn K
 of := fun _ _ e => ⟨_, He.frG_in, e⟩
 keeps := fun _ _ _ ⟨K, hK, c⟩ k => ⟨K, PySem.W.Frag.In.keeps hK k, c⟩
theorem obsEG_eq {n : Nat} {cs : List Str} {fa : List He.Fa} {fn : List He.DefD} {g : Addr → Option Obj} {s : Shared} (h : ∀ a, g a = s.heap.get? a) : obsEG n cs fa fn g = (hookE n cs fa fn).obs s := by
 have e : g = s.heap.get? := funext h
 rw [e] <;> rfl
theorem SaysE.d {cs : List Str} {fa : List He.Fa} {fn : List He.DefD} {K : PySem.W.Frag} (h : SaysE cs fa fn K) : He.SaysD fa fn K := congrArg Prod.fst h
theorem SaysE.own {cs : List Str} {fa : List He.Fa} {fn : List He.DefD} {K : PySem.W.Frag} (h : SaysE cs fa fn K) {n : Str} (hn : n ∈ cs) : ownB K (He.ga K n) = true := List.all_eq_true.mp (show (cs.all fun n => ownB K (He.ga K n)) = true from congrArg Prod.snd h) n hn
end Dl
namespace Dl
open PySem L2
def gAt (K : PySem.W.Frag) (p : Addr) : Addr := match PySem.W.recIn K p "property" with
 | some (.ref g :: _) => g
 | _ => 0
def fnP (K : PySem.W.Frag) (d : He.DefD) : He.FnW := match K.lookup (gAt K (He.fAd K d.at_)) with
 | some ⟨_, _, .func fd, _⟩ => some (fd.name, fd.qualname, fd.params, fd.body, fd.scope, fd.globals, fd.closure, fd.builtins)
 | _ => none
def prB (K : PySem.W.Frag) (d : He.DefD) : Bool := He.eqO (PySem.W.findIn K (.ref (He.ga K d.at_.1)) (d.at_.2.getD "")) (some (some (.ref (He.fAd K d.at_)))) && (He.eqO (PySem.W.specialIn K (.ref (He.fAd K d.at_)) "__get__") (some (some (.builtin "property.__get__"))) &&
 (decide (PySem.W.takesIn K (.ref (He.fAd K d.at_)) = some true) && ((match PySem.W.recIn K (He.fAd K d.at_) "property" with
  | some (.ref _ :: _) => true
  | _ => false) && (PySem.W.keepIn K (.ref (gAt K (He.fAd K d.at_))) && (match K.lookup (gAt K (He.fAd K d.at_)) with
  | some ⟨_, _, .func fd, _⟩ => PySem.W.codeIn K fd.code d.qual && (He.dflB K fd.defaults (d.dvs K) && He.kwdB K fd.kwdefaults (d.kws K))
  | _ => false)))))
abbrev AlP : Type := (He.AlD × Bool) × List He.FnW
def obsP (cs : List Str) (pr fn : List He.DefD) (fa : List He.Fa) (K : PySem.W.Frag) : AlP := ((He.obsD fa fn K, (cs.all fun n => ownB K (He.ga K n)) && pr.all fun d => prB K d), pr.map fun d => fnP K d)
def valP (pr fn : List He.DefD) : AlP := ((He.valD fn, true), pr.map He.DefD.val)
def SaysP (cs : List Str) (pr fn : List He.DefD) (fa : List He.Fa) (K : PySem.W.Frag) : Prop := obsP cs pr fn fa K = valP pr fn
section
variable {cs : List Str} {pr fn : List He.DefD} {fa : List He.Fa} {K : PySem.W.Frag}
theorem SaysP.d (h : SaysP cs pr fn fa K) : He.SaysD fa fn K := congrArg (fun z : AlP => z.1.1) h
theorem SaysP.more (h : SaysP cs pr fn fa K) : ((cs.all fun n => ownB K (He.ga K n)) && pr.all fun d => prB K d) = true := congrArg (fun z : AlP => z.1.2) h
theorem SaysP.own (h : SaysP cs pr fn fa K) {n : Str} (hn : n ∈ cs) : ownB K (He.ga K n) = true := List.all_eq_true.mp (He.ba h.more).1 n hn
end
end Dl
namespace Dl
open PySem L2
def obsX (cs : List Str) (pr fn : List He.DefD) (fa : List He.Fa) (ex : PySem.W.Frag → Bool) (K : PySem.W.Frag) : AlP × Bool := (obsP cs pr fn fa K, ex K)
def valX (pr fn : List He.DefD) : AlP × Bool := (valP pr fn, true)
def SaysX (cs : List Str) (pr fn : List He.DefD) (fa : List He.Fa) (ex : PySem.W.Frag → Bool) (K : PySem.W.Frag) : Prop := obsX cs pr fn fa ex K = valX pr fn
section
variable {cs : List Str} {pr fn : List He.DefD} {fa : List He.Fa} {ex : PySem.W.Frag → Bool} {K : PySem.W.Frag}
theorem SaysX.p (h : SaysX cs pr fn fa ex K) : SaysP cs pr fn fa K := congrArg Prod.fst h
theorem SaysX.more (h : SaysX cs pr fn fa ex K) : ex K = true := congrArg Prod.snd h
theorem SaysX.d (h : SaysX cs pr fn fa ex K) : He.SaysD fa fn K := h.p.d
theorem SaysX.own (h : SaysX cs pr fn fa ex K) {n : Str} (hn : n ∈ cs) : ownB K (He.ga K n) = true := h.p.own hn
end
end Dl
namespace Dl
open PySem L2
def oexB (K : PySem.W.Frag) (C : Addr) : Bool := (match K.lookup C with
 | some ⟨.type "type", _, .cls cd, sl⟩ => (match cd.mro, sl.toList with
  | .ref C' :: bm, [_, _, _, _, some (.builtin n), _] => C' == C && (n == "ValueError.__new__" && (!cd.hasDel && (cd.hasDict && HandSPX.refsVE bm)))
  | _, _ => false)
 | _ => false) && (He.eqO (PySem.W.findIn K (.ref C) "__setattr__") (some (some (.builtin "object.__setattr__"))) && (decide (PySem.W.subIn K (.ref C) (.type "BaseException") = some true) && (decide (PySem.W.typeIn K (.ref C) = some (.type "type")) && PySem.W.keepIn K (.ref C))))
abbrev FnX : Type := Option (Str × Str × Arguments × FuncBody × Scope × Addr × List Str × Addr)
def fnXi (K : PySem.W.Frag) (d : He.DefD) : FnX := match K.lookup (He.fAd K d.at_) with
 | some ⟨_, _, .func fd, _⟩ => some (fd.name, fd.qualname, fd.params, fd.body, fd.scope, fd.globals, fd.closure.map (·.1), fd.builtins)
 | _ => none
def xiVal (d : He.DefD) : FnX := some (d.name, d.qual, d.params, .stmts d.body, d.scope, mainGlobals, ["__class__"], builtinsNs)
def xiB (K : PySem.W.Frag) (d : He.DefD) (file fld : Str) : Bool := oexB K (He.ga K d.at_.1) && (He.eqO (PySem.W.findIn K (.ref (He.ga K d.at_.1)) "__init__") (some (some (.ref (He.fAd K d.at_)))) && (decide (PySem.W.typeIn K (.ref (He.fAd K d.at_)) = some (.type "function")) &&
 ((match K.lookup (He.fAd K d.at_) with
  | some ⟨_, _, .func fd, _⟩ => PySem.W.codeIn K fd.code d.qual && ((match fd.defaults with | .none => true | _ => false) && ((match fd.closure with
   | [(_, cc)] => (match K.lookup cc with
    | some ⟨_, _, .cell (some (.ref C')), _⟩ => C' == He.ga K d.at_.1
    | _ => false)
   | _ => false) && (match fd.code with
   | .ref cda => (match K.lookup cda with
    | some ⟨_, _, .fields vs, _⟩ => (match vs.toList with
     | _ :: _ :: .str f _ :: _ => f == file
     | _ => false)
    | _ => false)
   | _ => false)))
  | _ => false) && (decide (PySem.W.mroIn K (He.ga K d.at_.1) (.ref (He.ga K d.at_.1)) = some true) && (He.eqO (PySem.W.nsIn K cStatics "thirdparty.any") (some none) && (He.eqO (PySem.W.ks_superIn K (He.ga K d.at_.1) (He.ga K d.at_.1) "__init__") (some (some (.builtin "ValueError.__init__"))) &&
  (decide (PySem.W.subIn K (.ref (He.ga K d.at_.1)) (.type "ValueError") = some true) && (He.eqO (PySem.W.findIn K (.ref (He.ga K d.at_.1)) fld) (some none) && L2.xfB K (He.ga K d.at_.1)))))))))
def exY (ex : PySem.W.Frag → Bool) (xi : List (He.DefD × Str × Str)) (K : PySem.W.Frag) : Bool := ex K && xi.all fun q => xiB K q.1 q.2.1 q.2.2
abbrev AlY : Type := (AlP × Bool) × List FnX
def obsY (cs : List Str) (pr fn : List He.DefD) (fa : List He.Fa) (ex : PySem.W.Frag → Bool) (xi : List (He.DefD × Str × Str)) (K : PySem.W.Frag) : AlY := (obsX cs pr fn fa (exY ex xi) K, xi.map fun q => fnXi K q.1)
def valY (pr fn : List He.DefD) (xi : List (He.DefD × Str × Str)) : AlY := (valX pr fn, xi.map fun q => xiVal q.1)
def SaysY (cs : List Str) (pr fn : List He.DefD) (fa : List He.Fa) (ex : PySem.W.Frag → Bool) (xi : List (He.DefD × Str × Str)) (K : PySem.W.Frag) : Prop := obsY cs pr fn fa ex xi K = valY pr fn xi
section
variable {cs : List Str} {pr fn : List He.DefD} {fa : List He.Fa} {ex : PySem.W.Frag → Bool} {xi : List (He.DefD × Str × Str)} {K : PySem.W.Frag}
theorem SaysY.x (h : SaysY cs pr fn fa ex xi K) : SaysX cs pr fn fa (exY ex xi) K := congrArg Prod.fst h
theorem SaysY.p (h : SaysY cs pr fn fa ex xi K) : SaysP cs pr fn fa K := h.x.p
theorem SaysY.d (h : SaysY cs pr fn fa ex xi K) : He.SaysD fa fn K := h.x.d
theorem SaysY.own (h : SaysY cs pr fn fa ex xi K) {n : Str} (hn : n ∈ cs) : ownB K (He.ga K n) = true := h.x.own hn
theorem SaysY.more (h : SaysY cs pr fn fa ex xi K) : ex K = true := (He.ba h.x.more).1
end
end Dl
namespace My
open PySem PySem.Spec PyProof.Rows L2
def top (i : Nat) : Stmt := PySem.Challenge.pw_plainask_k02_box.main.body.getD i (.Pass ⟨0, 0, 0, 0⟩)
abbrev s__wall : Stmt := top 0
def d__wall : He.DefD := ⟨("_wall", none), "_wall", "_wall", defArgs s__wall, defBody s__wall, defScope s__wall, [], []⟩
abbrev s_is_integer : Stmt := top 2
def d_is_integer : He.DefD := ⟨("is_integer", none), "is_integer", "is_integer", defArgs s_is_integer, defBody s_is_integer, defScope s_is_integer, [], []⟩
abbrev s_is_number : Stmt := top 3
def d_is_number : He.DefD := ⟨("is_number", none), "is_number", "is_number", defArgs s_is_number, defBody s_is_number, defScope s_is_number, [], []⟩
abbrev s_ascending : Stmt := top 4
def d_ascending : He.DefD := ⟨("ascending", none), "ascending", "ascending", defArgs s_ascending, defBody s_ascending, defScope s_ascending, [], []⟩
abbrev s_grid : Stmt := top 6
def d_grid : He.DefD := ⟨("grid", none), "grid", "grid", defArgs s_grid, defBody s_grid, defScope s_grid, [], []⟩
abbrev s_common_sides : Stmt := top 12
def d_common_sides : He.DefD := ⟨("common_sides", none), "common_sides", "common_sides", defArgs s_common_sides, defBody s_common_sides, defScope s_common_sides, [], []⟩
abbrev sZcell : Stmt := top 14
def dZcell : He.DefD := ⟨("_law_cell", none), "_law_cell", "_law_cell", defArgs sZcell, defBody sZcell, defScope sZcell, [], []⟩
abbrev sZsource : Stmt := top 15
def dZsource : He.DefD := ⟨("_law_source", none), "_law_source", "_law_source", defArgs sZsource, defBody sZsource, defScope sZsource, [], []⟩
abbrev sZdraw : Stmt := top 16
def dZdraw : He.DefD := ⟨("_law_draw", none), "_law_draw", "_law_draw", defArgs sZdraw, defBody sZdraw, defScope sZdraw, [], []⟩
abbrev sZis_integer : Stmt := top 17
def dZis_integer : He.DefD := ⟨("_law_is_integer", none), "_law_is_integer", "_law_is_integer", defArgs sZis_integer, defBody sZis_integer, defScope sZis_integer, [], []⟩
abbrev sZis_numbers : Stmt := top 18
def dZis_numbers : He.DefD := ⟨("_law_is_numbers", none), "_law_is_numbers", "_law_is_numbers", defArgs sZis_numbers, defBody sZis_numbers, defScope sZis_numbers, [], []⟩
abbrev sZcombos : Stmt := top 19
def dZcombos : He.DefD := ⟨("_law_combos", none), "_law_combos", "_law_combos", defArgs sZcombos, defBody sZcombos, defScope sZcombos, [], []⟩
abbrev sZdraw_sides : Stmt := top 20
def dZdraw_sides : He.DefD := ⟨("_law_draw_sides", none), "_law_draw_sides", "_law_draw_sides", defArgs sZdraw_sides, defBody sZdraw_sides, defScope sZdraw_sides, [], []⟩
abbrev sZclean : Stmt := top 21
def dZclean : He.DefD := ⟨("_law_clean", none), "_law_clean", "_law_clean", defArgs sZclean, defBody sZclean, defScope sZclean, [], []⟩
abbrev sZis_sides : Stmt := top 22
def dZis_sides : He.DefD := ⟨("_law_is_sides", none), "_law_is_sides", "_law_is_sides", defArgs sZis_sides, defBody sZis_sides, defScope sZis_sides, [], []⟩
abbrev sZis_rows : Stmt := top 23
def dZis_rows : He.DefD := ⟨("_law_is_rows", none), "_law_is_rows", "_law_is_rows", defArgs sZis_rows, defBody sZis_rows, defScope sZis_rows, [], []⟩
abbrev sZis_box : Stmt := top 24
def dZis_box : He.DefD := ⟨("_law_is_box", none), "_law_is_box", "_law_is_box", defArgs sZis_box, defBody sZis_box, defScope sZis_box, [], []⟩
abbrev s_law : Stmt := top 25
def d_law : He.DefD := ⟨("law", none), "law", "law", defArgs s_law, defBody s_law, defScope s_law, [], []⟩
abbrev s_Box_DinitD : Stmt := inClass (top 11) 0
def d_Box_DinitD : He.DefD := ⟨("Box", some "__init__"), "__init__", "Box.__init__", defArgs s_Box_DinitD, defBody s_Box_DinitD, defScope s_Box_DinitD, [], []⟩
abbrev s_Box_DiterD : Stmt := inClass (top 11) 1
def d_Box_DiterD : He.DefD := ⟨("Box", some "__iter__"), "__iter__", "Box.__iter__", defArgs s_Box_DiterD, defBody s_Box_DiterD, defScope s_Box_DiterD, [], []⟩
abbrev s_Box_DgetitemD : Stmt := inClass (top 11) 2
def d_Box_DgetitemD : He.DefD := ⟨("Box", some "__getitem__"), "__getitem__", "Box.__getitem__", defArgs s_Box_DgetitemD, defBody s_Box_DgetitemD, defScope s_Box_DgetitemD, [], []⟩
abbrev s_Box_DcontainsD : Stmt := inClass (top 11) 3
def d_Box_DcontainsD : He.DefD := ⟨("Box", some "__contains__"), "__contains__", "Box.__contains__", defArgs s_Box_DcontainsD, defBody s_Box_DcontainsD, defScope s_Box_DcontainsD, [], []⟩
abbrev s_Box_DleD : Stmt := inClass (top 11) 4
def d_Box_DleD : He.DefD := ⟨("Box", some "__le__"), "__le__", "Box.__le__", defArgs s_Box_DleD, defBody s_Box_DleD, defScope s_Box_DleD, [], []⟩
abbrev s_Box_DandD : Stmt := inClass (top 11) 5
def d_Box_DandD : He.DefD := ⟨("Box", some "__and__"), "__and__", "Box.__and__", defArgs s_Box_DandD, defBody s_Box_DandD, defScope s_Box_DandD, [], []⟩
abbrev s_Box_DsubD : Stmt := inClass (top 11) 6
def d_Box_DsubD : He.DefD := ⟨("Box", some "__sub__"), "__sub__", "Box.__sub__", defArgs s_Box_DsubD, defBody s_Box_DsubD, defScope s_Box_DsubD, [], []⟩
abbrev s_Box_with_side : Stmt := inClass (top 11) 7
def d_Box_with_side : He.DefD := ⟨("Box", some "with_side"), "with_side", "Box.with_side", defArgs s_Box_with_side, defBody s_Box_with_side, defScope s_Box_with_side, [], []⟩
def fn : List He.DefD := [d__wall, d_is_integer, d_is_number, d_ascending, d_grid, d_common_sides, dZcell, dZsource, dZdraw, dZis_integer, dZis_numbers, dZcombos, dZdraw_sides, dZclean, dZis_sides, dZis_rows, dZis_box, d_law, d_Box_DinitD, d_Box_DiterD, d_Box_DgetitemD, d_Box_DcontainsD, d_Box_DleD, d_Box_DandD, d_Box_DsubD, d_Box_with_side]
def fa : List He.Fa := [.glo "_wall", .glo "is_integer", .glo "is_number", .glo "ascending", .glo "grid", .glo "common_sides", .glo "_law_cell", .glo "_law_source", .glo "_law_draw", .glo "_law_is_integer", .glo "_law_is_numbers", .glo "_law_combos", .glo "_law_draw_sides", .glo "_law_clean", .glo "_law_is_sides", .glo "_law_is_rows", .glo "_law_is_box", .glo "law", .glo "AskError", .exc "AskError", .glo "BadBox", .exc "BadBox", .glo "Box", .cls "Box", .meth "Box" "__init__", .mkr "Box", .meth "Box" "__iter__", .meth "Box" "__getitem__", .meth "Box" "__contains__", .meth "Box" "__le__", .meth "Box" "__and__", .meth "Box" "__sub__", .meth "Box" "with_side", .noat "Box" "rows", .noat "Box" "sides", .free "ValueError", .free "bool", .free "enumerate", .free "int", .free "isinstance", .free "iter", .free "len", .free "list", .free "max", .free "range", .free "sorted", .free "tuple", .free "zip"]
abbrev R : PySem.W.OpenRow := PySem.W.OpenLaw.row PySem.Challenge.rw_plainask_k02_box
def ocs : List Str := ["Box"]
abbrev hk : PySem.W.Hook := Dl.hookE 6 ocs fa fn
def ob (s : PySem.W.SharedT) : He.AlD × Bool := Dl.obsEG 6 ocs fa fn (HandSHeadRun.getT s)
theorem ob_eq (s : PySem.W.SharedT) : ob s = hk.obs s.abs := Dl.obsEG_eq (HandSHeadRun.getT_eq s)
def loose : List Str := (["_wall", "is_integer", "is_number", "ascending", "grid", "AskError", "BadBox", "Box", "common_sides", "_law_cell", "_law_source", "_law_draw", "_law_is_integer", "_law_is_numbers", "_law_combos", "_law_draw_sides", "_law_clean", "_law_is_sides", "_law_is_rows", "_law_is_box"] : List Str)
theorem run (w : World) : HandSHeadRun.RunEq R (PySem.W.view R.prog [25]) hk ob 8000 loose w := by
 intro os
 kernel_rfl
end My
namespace Dn
open PySem
open Sem (wp)
section
variable {prog : Program} {w : World} {K : Type} [DecidableEq K] (knd : KeyKind prog w K)
inductive TuplesAre (h : Heap) : List (List K) → List Value → Prop
 | nil : TuplesAre h [] []
 | cons {k : List K} {b : Addr} {ks : List (List K)} {vs : List Value} : IsTupleKey knd h k b → TuplesAre h ks vs → TuplesAre h (k :: ks) (.ref b :: vs)
def IsTup2 (h : Heap) (ks : List (List K)) (a : Addr) : Prop := ∃ o items n, h.get? a = some o ∧ o.cls = .type "tuple" ∧ o.data = .seq items n ∧ TuplesAre knd h ks items.toList
variable {knd}
theorem TuplesAre.inj {h : Heap} {x y : List (List K)} {vs : List Value} (hx : TuplesAre knd h x vs) (hy : TuplesAre knd h y vs) : x = y := by
 induction hx generalizing y with
 | nil => cases hy; rfl
 | cons h1 _ ih =>
  cases hy with
  | cons h2 t2 => rw [h1.inj h2, ih t2]
theorem IsTup2.inj {h : Heap} {a : Addr} {x y : List (List K)} (hx : IsTup2 knd h x a) (hy : IsTup2 knd h y a) : x = y := by
 obtain ⟨o, items, n, ho, _, hd, hi⟩ := hx
 obtain ⟨o', items', n', ho', _, hd', hi'⟩ := hy
 obtain rfl : o = o' := Option.some.inj (ho.symm.trans ho')
 rw [hd] at hd'
 injection hd' with h1 _
 subst h1
 exact hi.inj hi'
theorem TuplesAre.keeps {h h' : Heap} {ks : List (List K)} {vs : List Value} {d : Addr} {o : Obj} {es ep} (x : TuplesAre knd h ks vs) (ho : h.get? d = some o) (hd : o.data = .dict es ep) (hs : Heap.SameBut d h h') : TuplesAre knd h' ks vs := by
 induction x with
 | nil => exact .nil
 | cons h1 _ ih => exact .cons (h1.keeps ho hd hs) ih
theorem IsTup2.keeps {h h' : Heap} {ks : List (List K)} {a d : Addr} {o : Obj} {es ep} (x : IsTup2 knd h ks a) (ho : h.get? d = some o) (hd : o.data = .dict es ep) (hs : Heap.SameBut d h h') : IsTup2 knd h' ks a := by
 obtain ⟨o', items, n, ho', hc, hd', hi⟩ := x
 have hne : a ≠ d := by
  rintro rfl
  obtain rfl : o' = o := Option.some.inj (ho'.symm.trans ho)
  rw [hd] at hd'; exact nomatch hd'
 exact ⟨o', items, n, (hs.2 a hne).trans ho', hc, hd', hi.keeps ho hd hs⟩
variable {A : Around} {E : Value → Shared → Prop} {s : Shared}
end
end Dn
namespace Dn
open PySem L2 PySem.Spec
abbrev K2 := List (List Int)
def hash2 (k : K2) : Int := reduceHash (Builtin.Tuple.tupleHashOf (k.map fun r => reduceHash (Builtin.Tuple.tupleHashOf (r.map hashInt))))
abbrev NT : List (K2 × Addr × V) → List (K2 × Addr × Value) → Prop := Paired fun p q => p.1 = q.1 ∧ p.2.1 = q.2.1 ∧ RelV p.2.2 q.2.2
def ent (x : K2 × Addr × Value) : DictEntry := ⟨hash2 x.1, .ref x.2.1, x.2.2⟩
def ndφ (a : Addr) (kvs : List (K2 × Addr × V)) (h : Heap) : Prop :=
 kvs.length ≤ sizeLine ∧ (a == sysModules) = false ∧ ∃ xs, NT kvs xs ∧ ∃ o es ep, h.get? a = some o ∧ o.ExactDict ∧ o.data = .dict es ep ∧ es.toList = xs.map ent ∧ (xs.map (·.1)).Nodup
def NDo (a : Addr) (kvs : List (K2 × Addr × V)) : HO := .ext (ndφ a kvs)
def ndGet (kvs : List (K2 × Addr × V)) (k : K2) : Option V := (kvs.find? fun p => decide (p.1 = k)).map (·.2.2)
def ndPut (kvs : List (K2 × Addr × V)) (k : K2) (b : Addr) (v : V) : List (K2 × Addr × V) :=
 if (ndGet kvs k).isSome = true then kvs.map (fun p => if p.1 = k then (p.1, p.2.1, v) else p) else kvs ++ [(k, b, v)]
theorem NT.val {kvs : List (K2 × Addr × V)} {xs : List (K2 × Addr × Value)} (r : NT kvs xs) (k : K2) : RelO (ndGet kvs k) ((atKey xs k).map (·.2)) := by
 induction r with
 | nil => exact True.intro
 | @cons p q ps qs h t ih =>
  obtain ⟨h1, _, h2⟩ := h
  by_cases e : p.1 = k
  · have e' : q.1 = k := h1.symm.trans e
    have b : atKey (q :: qs) k = some q.2 := by simp [atKey, List.find?_cons, e']
    have b' : ndGet (p :: ps) k = some p.2.2 := by simp [ndGet, List.find?_cons, e]
    rw [b', b]; exact h2
  · have e' : ¬ q.1 = k := fun z => e (h1.trans z)
    have b : atKey (q :: qs) k = atKey qs k := by simp [atKey, List.find?_cons, e']
    have b' : ndGet (p :: ps) k = ndGet ps k := by simp [ndGet, List.find?_cons, e]
    rw [b', b]; exact ih
theorem NT.repl {kvs : List (K2 × Addr × V)} {xs : List (K2 × Addr × Value)} (r : NT kvs xs) (k : K2) {y : V} {u : Value} (ry : RelV y u) :
  NT (kvs.map fun p => if p.1 = k then (p.1, p.2.1, y) else p) (xs.map (putAt k u)) := by
 induction r with
 | nil => exact .nil
 | @cons p q ps qs h t ih =>
  rw [List.map_cons, List.map_cons]
  refine .cons ?_ ih
  obtain ⟨h1, h2, h3⟩ := h
  unfold putAt
  by_cases e : p.1 = k
  · rw [if_pos e, if_pos (h1.symm.trans e)]; exact ⟨h1, h2, ry⟩
  · rw [if_neg e, if_neg (fun z => e (h1.trans z))]; exact ⟨h1, h2, h3⟩
theorem NT.put {kvs : List (K2 × Addr × V)} {xs : List (K2 × Addr × Value)} (r : NT kvs xs) (k : K2) {b : Addr} {y : V} {u : Value} (ry : RelV y u) : NT (ndPut kvs k b y) (storedH xs k b u) := by
 have e : (ndGet kvs k).isSome = (atKey xs k).isSome := by
  rw [(r.val k).isSome_eq, Option.isSome_map]
 unfold ndPut storedH
 rw [e]
 by_cases q : (atKey xs k).isSome = true
 · rw [if_pos q, if_pos q]; exact r.repl k ry
 · rw [if_neg q, if_neg q]; exact Paired.snoc r ⟨rfl, rfl, ry⟩
section
variable {P : Program} {w : World} {H : Hp} {h : Heap} {a : Addr} {kvs : List (K2 × Addr × V)}
theorem ndφ.ext {h' : Heap} (x : ndφ a kvs h) (st : ∀ o, h.get? a = some o → h'.get? a = some o) : ndφ a kvs h' := by
 obtain ⟨z1, z2, xs, r, o, es, ep, h1, h2⟩ := x
 exact ⟨z1, z2, xs, r, o, es, ep, st o h1, h2⟩
def Keys (P : Program) (w : World) (h : Heap) (kvs : List (K2 × Addr × V)) : Prop := ∀ p ∈ kvs, IsTup2 (PySem.intKind P w) h p.1 p.2.1
end
section
variable {X : Cx} {pins : List (Addr × Obj)} {σ : St} {H : Hp} {s : Shared} {a b : Addr} {k : K2} {kvs : List (K2 × Addr × V)} {v : V} {r : Value} {A : Around} {E : Value → Shared → Prop}
end
end Dn
namespace Dl
open PySem L2
inductive D where
 | non | bl (b : Bool) | int (i : Int) | str (x : Str)
 | lst (xs : List D) | tup (xs : List D)
 | obj (c : Str) (ns : List Str) (ds : List D)
 | dic (ks vs : List D)
 | scr (ns : List Int)
 | ty (n : String) | cls (c : Str)
 | loc (a : Addr)
 | ndi (ks vs : List D)
 | xob (a dx : Addr) (ns : List Str) (ds : List D)
 | gho (ds : List D)
 | brw (ds : List D)
 | tpl (ds : List D)
 deriving Inhabited
def keyD (k : Dn.K2) : D := .tup (k.map fun r => .tup (r.map .int))
section
variable (K : PySem.W.Frag) (G : Hp)
mutual
def Rp : D → V → Prop
 | .non, v => v = .non
 | .bl b, v => v = .bl b
 | .int i, v => v = .int i
 | .str x, v => v = .str x
 | .lst ds, v => ∃ a xs, v = .ref a ∧ G a = some (.lst xs) ∧ RpL ds xs
 | .tup ds, v => ∃ a xs, v = .ref a ∧ SqT K G a xs ∧ RpL ds xs
 | .obj c ns ds, v => ∃ a dx xs, v = .ref a ∧ G a = some (.ins (He.ga K c) dx (ns.zip xs)) ∧ G dx = some (.own a) ∧ ns.length = ds.length ∧ RpL ds xs
 | .dic ks vs, v => ∃ a kvs, v = .ref a ∧ G a = some (.dK kvs) ∧ RpL ks (kvs.map fun p => kV p.1) ∧ RpL vs (kvs.map fun p => p.2)
 | .scr ns, v => ∃ a, v = .ref a ∧ SqL K G a (ns.map V.int)
 | .ty n, v => v = .ty n
 | .cls c, v => v = .ref (He.ga K c)
 | .loc a, v => v = .ref a
 | .xob a dx ns ds, v => v = .ref a ∧ ∃ xs, G dx = some (.xd (ns.zip xs)) ∧ ns.length = ds.length ∧ RpL ds xs
 | .gho _, v => v = .bl false
 | .brw ds, v => ∃ a xs, v = .ref a ∧ SqL K G a xs ∧ RpL ds xs
 | .tpl ds, v => ∃ a, v = .ref a ∧ ∃ o xs, G a = some (.frz o (.tup xs)) ∧ o.dict = none ∧ RpL ds xs
 | .ndi ks vs, v => ∃ a kvs, v = .ref a ∧ G a = some (Dn.NDo a kvs) ∧ ks = kvs.map (fun p => keyD p.1) ∧ RpL ks (kvs.map fun p => V.ref p.2.1) ∧ RpL vs (kvs.map fun p => p.2.2)
def RpL : List D → List V → Prop
 | [], xs => xs = []
 | d :: ds, xs => ∃ x r, xs = x :: r ∧ Rp d x ∧ RpL ds r
end
end
theorem Same.seqt {K : PySem.W.Frag} {H H' : Hp} {a : Addr} {xs : List V} (e : Same H H') (h : SqT K H a xs) : SqT K H' a xs := by
 rcases h with (h | ⟨o, h⟩) | h
 · exact .inl (.inl (e _ _ h))
 · exact .inl (.inr ⟨o, e _ _ h⟩)
 · exact .inr h
section
variable {K : PySem.W.Frag} {G G' : Hp}
mutual
theorem Rp.mono (e : Same G G') : ∀ (d : D) (v : V), Rp K G d v → Rp K G' d v
 | .non, _, h => h
 | .bl _, _, h => h
 | .int _, _, h => h
 | .str _, _, h => h
 | .lst ds, _, ⟨a, xs, h1, h2, h3⟩ => ⟨a, xs, h1, e _ _ h2, RpL.mono e ds xs h3⟩
 | .tup ds, _, ⟨a, xs, h1, h2, h3⟩ => ⟨a, xs, h1, Same.seqt e h2, RpL.mono e ds xs h3⟩
 | .obj c ns ds, _, ⟨a, dx, xs, h1, h2, h3, hl, h4⟩ => ⟨a, dx, xs, h1, e _ _ h2, e _ _ h3, hl, RpL.mono e ds xs h4⟩
 | .dic ks vs, _, ⟨a, kvs, h1, h2, h3, h4⟩ => ⟨a, kvs, h1, e _ _ h2, RpL.mono e ks _ h3, RpL.mono e vs _ h4⟩
 | .scr ns, _, ⟨a, h1, h2⟩ => ⟨a, h1, e.seq h2⟩
 | .ty _, _, h => h
 | .cls _, _, h => h
 | .loc _, _, h => h
 | .xob _ _ ns ds, _, ⟨h1, xs, h2, h3, h4⟩ => ⟨h1, xs, e _ _ h2, h3, RpL.mono e ds xs h4⟩
 | .gho _, _, h => h
 | .brw ds, _, ⟨a, xs, h1, h2, h3⟩ => ⟨a, xs, h1, e.seq h2, RpL.mono e ds xs h3⟩
 | .tpl ds, _, ⟨a, h1, o, xs, h2, h3, h4⟩ => ⟨a, h1, o, xs, e _ _ h2, h3, RpL.mono e ds xs h4⟩
 | .ndi ks vs, _, ⟨a, kvs, h1, h2, h0, h3, h4⟩ => ⟨a, kvs, h1, e _ _ h2, h0, RpL.mono e ks _ h3, RpL.mono e vs _ h4⟩
theorem RpL.mono (e : Same G G') : ∀ (ds : List D) (xs : List V), RpL K G ds xs → RpL K G' ds xs
 | [], _, h => h
 | d :: ds, _, ⟨x, r, h1, h2, h3⟩ => ⟨x, r, h1, Rp.mono e d x h2, RpL.mono e ds r h3⟩
end
theorem RpL.length : ∀ {ds : List D} {xs : List V}, RpL K G ds xs → xs.length = ds.length
 | [], _, h => by cases h; rfl
 | d :: ds, _, ⟨x, r, h1, h2, h3⟩ => by rw [h1, List.length_cons, List.length_cons, h3.length]
theorem RpL.get : ∀ {ds : List D} {xs : List V} {i : Nat} {d : D}, RpL K G ds xs → ds[i]? = some d → ∃ x, xs[i]? = some x ∧ Rp K G d x
 | [], _, _, _, _, e => by cases e
 | d :: ds, _, 0, _, ⟨x, r, h1, h2, h3⟩, e => by
  rw [List.getElem?_cons_zero] at e; cases e
  exact ⟨x, by rw [h1]; rfl, h2⟩
 | d :: ds, _, i + 1, _, ⟨x, r, h1, h2, h3⟩, e => by
  rw [List.getElem?_cons_succ] at e
  obtain ⟨y, q1, q2⟩ := h3.get e
  exact ⟨y, by rw [h1, List.getElem?_cons_succ]; exact q1, q2⟩
theorem RpL.get' : ∀ {ds : List D} {xs : List V} {i : Nat} {x : V}, RpL K G ds xs → xs[i]? = some x → ∃ d, ds[i]? = some d ∧ Rp K G d x
 | [], _, _, _, h, e => by cases h; cases e
 | d :: ds, _, 0, _, ⟨x, r, h1, h2, h3⟩, e => by
  rw [h1, List.getElem?_cons_zero] at e; cases e
  exact ⟨d, rfl, h2⟩
 | d :: ds, _, i + 1, _, ⟨x, r, h1, h2, h3⟩, e => by
  rw [h1, List.getElem?_cons_succ] at e
  obtain ⟨y, q1, q2⟩ := h3.get' e
  exact ⟨y, by rw [List.getElem?_cons_succ]; exact q1, q2⟩
theorem RpL.append : ∀ {ds es : List D} {xs ys : List V}, RpL K G ds xs → RpL K G es ys → RpL K G (ds ++ es) (xs ++ ys)
 | [], _, _, _, h, k => by cases h; exact k
 | d :: ds, _, _, _, ⟨x, r, h1, h2, h3⟩, k => ⟨x, r ++ _, by rw [h1]; rfl, h2, h3.append k⟩
theorem RpL.one {d : D} {v : V} (h : Rp K G d v) : RpL K G [d] [v] := ⟨v, [], rfl, h, rfl⟩
theorem RpL.set : ∀ {ds : List D} {xs : List V} {d : D} {v : V} (i : Nat), RpL K G ds xs → Rp K G d v → RpL K G (ds.set i d) (xs.set i v)
 | [], _, _, _, _, h, _ => by cases h; rfl
 | d :: ds, _, _, _, 0, ⟨x, r, h1, h2, h3⟩, k => by subst h1; exact ⟨_, r, rfl, k, h3⟩
 | d :: ds, _, _, _, i + 1, ⟨x, r, h1, h2, h3⟩, k => by subst h1; exact ⟨x, r.set i _, rfl, h2, h3.set i k⟩
theorem RpL.drop : ∀ {ds : List D} {xs : List V} (i : Nat), RpL K G ds xs → RpL K G (ds.drop i) (xs.drop i)
 | [], _, i, h => by cases h; simp [RpL]
 | d :: ds, _, 0, h => h
 | d :: ds, _, i + 1, ⟨x, r, h1, h2, h3⟩ => by subst h1; exact h3.drop i
theorem RpL.take : ∀ {ds : List D} {xs : List V} (i : Nat), RpL K G ds xs → RpL K G (ds.take i) (xs.take i)
 | [], _, i, h => by cases h; simp [RpL]
 | d :: ds, _, 0, h => by simp [RpL]
 | d :: ds, _, i + 1, ⟨x, r, h1, h2, h3⟩ => by subst h1; exact ⟨x, r.take i, rfl, h2, h3.take i⟩
theorem RpL.ints : ∀ {ns : List Int}, RpL K G (ns.map D.int) (ns.map V.int)
 | [] => rfl
 | n :: ns => ⟨.int n, ns.map V.int, rfl, rfl, RpL.ints⟩
theorem RpL.of_ints : ∀ {ns : List Int} {xs : List V}, RpL K G (ns.map D.int) xs → xs = ns.map V.int
 | [], _, h => h
 | n :: ns, _, ⟨x, r, h1, h2, h3⟩ => by
  have h4 : x = .int n := h2
  rw [h1, h4, h3.of_ints]; rfl
end
inductive S where
 | no | val (d : D) | own (d : D)
 deriving Inhabited
structure Cn where
 F : Hp
 s0 : L2.St
def Ow (K : PySem.W.Frag) (F G H : Hp) (a : Addr) : D → Prop
 | .lst ds => ∃ xs, H a = some (.lst xs) ∧ RpL K G ds xs
 | .obj c ns ds => ∃ dx xs, H a = some (.ins (He.ga K c) dx (ns.zip xs)) ∧ H dx = some (.own a) ∧ G dx = none ∧ F dx = none ∧ dx ≠ a ∧ ns.length = ds.length ∧ RpL K G ds xs
 | .dic ks vs => ∃ kvs, H a = some (.dK kvs) ∧ RpL K G ks (kvs.map fun p => kV p.1) ∧ RpL K G vs (kvs.map fun p => p.2)
 | .ndi ks vs => ∃ kvs, H a = some (Dn.NDo a kvs) ∧ ks = kvs.map (fun p => keyD p.1) ∧ RpL K G ks (kvs.map fun p => V.ref p.2.1) ∧ RpL K G vs (kvs.map fun p => p.2.2)
 | _ => False
structure Rst (K : PySem.W.Frag) (c : Cn) (G H : Hp) (σ : L2.St) (ρ : List S) : Prop where
 fh : Same c.F H
 gh : Same G H
 fg : ∀ a o, c.F a = some o → G a = none
 len : ρ.length = σ.length
 val : ∀ (i : Nat) (d : D), ρ[i]? = some (.val d) → ∃ v, σ[i]? = some (some v) ∧ Rp K G d v
 own : ∀ (i : Nat) (d : D), ρ[i]? = some (.own d) → ∃ a, σ[i]? = some (some (.ref a)) ∧ G a = none ∧ c.F a = none ∧ Ow K c.F G H a d
 ne : ∀ (i j : Nat) (d e : D) (a : Addr), ρ[i]? = some (.own d) → ρ[j]? = some (.own e) → σ[i]? = some (some (.ref a)) → σ[j]? = some (some (.ref a)) → i = j
 par : ∀ (i : Nat) (d : D), ρ[i]? = some (.own d) → i < c.s0.length → σ[i]? = c.s0[i]?
inductive Rv where
 | val (d : D) | own (d : D) | ali (i : Nat)
 deriving Inhabited
def RpR (K : PySem.W.Frag) (c : Cn) (G H : Hp) (σ : L2.St) (ρ : List S) (v : V) : Rv → Prop
 | .val d => Rp K G d v
 | .own d => ∃ a, v = .ref a ∧ G a = none ∧ c.F a = none ∧ Ow K c.F G H a d ∧ ∀ (i : Nat) (e : D), ρ[i]? = some (.own e) → σ[i]? ≠ some (some (.ref a))
 | .ali i => σ[i]? = some (some v)
theorem Ow.gmono {K : PySem.W.Frag} {F G G' H : Hp} {a : Addr} {d : D} (e : Same G G') (hd : ∀ b, H b = some (.own a) → G b = none → G' b = none) (h : Ow K F G H a d) : Ow K F G' H a d := by
 cases d with
 | lst ds => obtain ⟨xs, h1, h2⟩ := h; exact ⟨xs, h1, h2.mono e⟩
 | obj c ns ds => obtain ⟨dx, xs, h1, h2, h3, h4, h5, hl, h6⟩ := h; exact ⟨dx, xs, h1, h2, hd dx h2 h3, h4, h5, hl, h6.mono e⟩
 | dic ks vs => obtain ⟨kvs, h1, h2, h3⟩ := h; exact ⟨kvs, h1, h2.mono e, h3.mono e⟩
 | ndi ks vs => obtain ⟨kvs, h1, h0, h2, h3⟩ := h; exact ⟨kvs, h1, h0, h2.mono e, h3.mono e⟩
 | _ => exact h.elim
theorem Ow.at {K : PySem.W.Frag} {F G H : Hp} {a : Addr} {d : D} (h : Ow K F G H a d) : ∃ o, H a = some o ∧ (∀ b, o ≠ .own b) := by
 cases d with
 | lst ds => obtain ⟨xs, h1, h2⟩ := h; exact ⟨_, h1, fun b z => nomatch z⟩
 | obj c ns ds => obtain ⟨dx, xs, h1, _⟩ := h; exact ⟨_, h1, fun b z => nomatch z⟩
 | dic ks vs => obtain ⟨kvs, h1, _⟩ := h; exact ⟨_, h1, fun b z => nomatch z⟩
 | ndi ks vs => obtain ⟨kvs, h1, _⟩ := h; exact ⟨_, h1, fun b z => nomatch z⟩
 | _ => exact h.elim
theorem frz {K : PySem.W.Frag} {F G H : Hp} {a : Addr} {d : D} (gh : Same G H) (fg : ∀ b o, F b = some o → G b = none) (ga : G a = none) (fa : F a = none) (h : Ow K F G H a d) :
  ∃ G', Same G G' ∧ Same G' H ∧ (∀ b o, F b = some o → G' b = none) ∧ Rp K G' d (.ref a) ∧ ∀ b, G' b ≠ G b → b = a ∨ H b = some (.own a) := by
 cases d with
 | lst ds =>
  obtain ⟨xs, h1, h2⟩ := h
  have s1 : Same G (upd G a (.lst xs)) := fun b o e => by rw [upd_ne (ne_of_none e ga)]; exact e
  refine ⟨upd G a (.lst xs), s1, fun b o e => ?_, fun b o e => ?_, ⟨a, xs, rfl, upd_same, h2.mono s1⟩, fun b hb => ?_⟩
  · by_cases q : b = a
    · subst q; rw [upd_same] at e; cases e; exact h1
    · rw [upd_ne q] at e; exact gh _ _ e
  · rw [upd_ne (ne_of_none e fa)]; exact fg _ _ e
  · by_cases q : b = a
    · exact .inl q
    · exact absurd (upd_ne q) hb
 | dic ks vs =>
  obtain ⟨kvs, h1, h2, h3⟩ := h
  have s1 : Same G (upd G a (.dK kvs)) := fun b o e => by rw [upd_ne (ne_of_none e ga)]; exact e
  refine ⟨upd G a (.dK kvs), s1, fun b o e => ?_, fun b o e => ?_, ⟨a, kvs, rfl, upd_same, h2.mono s1, h3.mono s1⟩, fun b hb => ?_⟩
  · by_cases q : b = a
    · subst q; rw [upd_same] at e; cases e; exact h1
    · rw [upd_ne q] at e; exact gh _ _ e
  · rw [upd_ne (ne_of_none e fa)]; exact fg _ _ e
  · by_cases q : b = a
    · exact .inl q
    · exact absurd (upd_ne q) hb
 | ndi ks vs =>
  obtain ⟨kvs, h1, h0, h2, h3⟩ := h
  have s1 : Same G (upd G a (Dn.NDo a kvs)) := fun b o e => by rw [upd_ne (ne_of_none e ga)]; exact e
  refine ⟨upd G a (Dn.NDo a kvs), s1, fun b o e => ?_, fun b o e => ?_, ⟨a, kvs, rfl, upd_same, h0, h2.mono s1, h3.mono s1⟩, fun b hb => ?_⟩
  · by_cases q : b = a
    · subst q; rw [upd_same] at e; cases e; exact h1
    · rw [upd_ne q] at e; exact gh _ _ e
  · rw [upd_ne (ne_of_none e fa)]; exact fg _ _ e
  · by_cases q : b = a
    · exact .inl q
    · exact absurd (upd_ne q) hb
 | obj c ns ds =>
  obtain ⟨dx, xs, h1, h2, h3, h4, h5, hl, h6⟩ := h
  have s1 : Same G (upd (upd G dx (.own a)) a (.ins (He.ga K c) dx (ns.zip xs))) := fun b o e => by rw [upd_ne (ne_of_none e ga), upd_ne (ne_of_none e h3)]; exact e
  refine ⟨_, s1, fun b o e => ?_, fun b o e => ?_, ⟨a, dx, xs, rfl, upd_same, by rw [upd_ne h5, upd_same], hl, h6.mono s1⟩, fun b hb => ?_⟩
  · by_cases q : b = a
    · subst q; rw [upd_same] at e; cases e; exact h1
    · rw [upd_ne q] at e
      by_cases q2 : b = dx
      · subst q2; rw [upd_same] at e; cases e; exact h2
      · rw [upd_ne q2] at e; exact gh _ _ e
  · rw [upd_ne (ne_of_none e fa), upd_ne (ne_of_none e h4)]; exact fg _ _ e
  · by_cases q : b = a
    · exact .inl q
    · by_cases q2 : b = dx
      · subst q2; exact .inr h2
      · rw [upd_ne q, upd_ne q2] at hb; exact absurd rfl hb
 | _ => exact h.elim
section
variable {K : PySem.W.Frag} {c : Cn} {G G' H H' : Hp} {σ : L2.St} {ρ : List S} {v : V} {d : D} {i : Nat}
theorem Rst.ground (R : Rst K c G H σ ρ) (s1 : Same G G') (s2 : Same G' H) (fg : ∀ b o, c.F b = some o → G' b = none)
  (ok : ∀ (i : Nat) (d : D) (a : Addr), ρ[i]? = some (.own d) → σ[i]? = some (some (.ref a)) → G' a = none ∧ ∀ b, H b = some (.own a) → G b = none → G' b = none) : Rst K c G' H σ ρ where
 fh := R.fh
 gh := s2
 fg := fg
 len := R.len
 val := fun i d e => let ⟨v, h1, h2⟩ := R.val i d e; ⟨v, h1, h2.mono s1⟩
 own := fun i d e => let ⟨a, h1, h2, h3, h4⟩ := R.own i d e; ⟨a, h1, (ok i d a e h1).1, h3, h4.gmono s1 (ok i d a e h1).2⟩
 ne := R.ne
 par := R.par
theorem Rst.set_val (R : Rst K c G H σ ρ) (i : Nat) (h : Rp K G d v) : Rst K c G H (σ.set i (some v)) (ρ.set i (.val d)) where
 fh := R.fh
 gh := R.gh
 fg := R.fg
 len := by rw [List.length_set, List.length_set, R.len]
 val := fun j e q => by
  by_cases hj : j = i
  · subst hj
    have hl : j < ρ.length := by
     by_cases hl : j < ρ.length
     · exact hl
     · rw [List.getElem?_eq_none (by simpa using hl)] at q; cases q
    rw [List.getElem?_set_self hl] at q
    cases q
    exact ⟨v, by rw [List.getElem?_set_self (R.len ▸ hl)], h⟩
  · rw [List.getElem?_set_ne (Ne.symm hj)] at q ⊢
    exact R.val j e q
 own := fun j e q => by
  by_cases hj : j = i
  · subst hj
    by_cases hl : j < ρ.length
    · rw [List.getElem?_set_self hl] at q; cases q
    · rw [List.getElem?_eq_none (by simpa using hl)] at q; cases q
  · rw [List.getElem?_set_ne (Ne.symm hj)] at q ⊢
    exact R.own j e q
 ne := fun j k e f a q1 q2 r1 r2 => by
  have nj : ∀ (j : Nat) (e : D), (ρ.set i (.val d))[j]? = some (.own e) → j ≠ i := fun j e q hj => by
   subst hj
   by_cases hl : j < ρ.length
   · rw [List.getElem?_set_self hl] at q; cases q
   · rw [List.getElem?_eq_none (by simpa using hl)] at q; cases q
  have hj := nj j e q1
  have hk := nj k f q2
  rw [List.getElem?_set_ne (Ne.symm hj)] at q1 r1
  rw [List.getElem?_set_ne (Ne.symm hk)] at q2 r2
  exact R.ne j k e f a q1 q2 r1 r2
 par := fun j e q hl => by
  have hj : j ≠ i := fun hj => by
   subst hj
   by_cases hl : j < ρ.length
   · rw [List.getElem?_set_self hl] at q; cases q
   · rw [List.getElem?_eq_none (by simpa using hl)] at q; cases q
  rw [List.getElem?_set_ne (Ne.symm hj)] at q ⊢
  exact R.par j e q hl
theorem Rst.freeze (R : Rst K c G H σ ρ) (h : ρ[i]? = some (.own d)) : ∃ v G', σ[i]? = some (some v) ∧ Same G G' ∧ Rst K c G' H σ (ρ.set i (.val d)) ∧ Rp K G' d v := by
 obtain ⟨a, h1, h2, h3, h4⟩ := R.own i d h
 obtain ⟨G', s1, s2, fg, r, dif⟩ := frz R.gh R.fg h2 h3 h4
 have hl : i < ρ.length := (List.getElem?_eq_some_iff.mp h).1
 have nj : ∀ (j : Nat) (e : D), (ρ.set i (.val d))[j]? = some (.own e) → j ≠ i ∧ ρ[j]? = some (.own e) := fun j e q => by
  by_cases hj : j = i
  · subst hj; rw [List.getElem?_set_self hl] at q; cases q
  · rw [List.getElem?_set_ne (Ne.symm hj)] at q; exact ⟨hj, q⟩
 have ok : ∀ (j : Nat) (e : D) (b : Addr), j ≠ i → ρ[j]? = some (.own e) → σ[j]? = some (some (.ref b)) → G' b = none ∧ ∀ b', H b' = some (.own b) → G b' = none → G' b' = none := fun j e b hj q r1 => by
  have hb : b ≠ a := fun z => by subst z; exact hj (R.ne j i e d b q h r1 h1)
  obtain ⟨b', k1, k2, k3, k4⟩ := R.own j e q
  rw [r1] at k1; cases k1
  obtain ⟨o, ho, hno⟩ := k4.at
  have same : ∀ x, G x = none → x ≠ a → H x ≠ some (.own a) → G' x = none := fun x gx xa xo => by
   by_cases z : G' x = G x
   · rw [z, gx]
   · rcases dif x z with z | z
     · exact absurd z xa
     · exact absurd z xo
  refine ⟨same b k2 hb (fun z => hno a (by rw [ho] at z; exact Option.some.inj z)), fun x hx gx => same x gx (fun z => ?_) (fun z => ?_)⟩
  · subst z
    obtain ⟨o', ho', hno'⟩ := h4.at
    rw [ho'] at hx; exact hno' b (Option.some.inj hx)
  · rw [z] at hx; cases hx; exact hb rfl
 refine ⟨.ref a, G', h1, s1, ⟨R.fh, s2, fg, by rw [List.length_set, R.len], fun j e q => ?_, fun j e q => ?_, fun j k e f b q1 q2 r1 r2 => ?_, fun j e q hl => ?_⟩, r⟩
 · by_cases hj : j = i
   · subst hj; rw [List.getElem?_set_self hl] at q; cases q; exact ⟨.ref a, h1, r⟩
   · rw [List.getElem?_set_ne (Ne.symm hj)] at q
     obtain ⟨v, k1, k2⟩ := R.val j e q
     exact ⟨v, k1, k2.mono s1⟩
 · obtain ⟨hj, q'⟩ := nj j e q
   obtain ⟨b, k1, k2, k3, k4⟩ := R.own j e q'
   obtain ⟨z1, z2⟩ := ok j e b hj q' k1
   exact ⟨b, k1, z1, k3, k4.gmono s1 z2⟩
 · exact R.ne j k e f b (nj j e q1).2 (nj k f q2).2 r1 r2
 · exact R.par j e (nj j e q).2 hl
theorem Rst.freeze_new (R : Rst K c G H σ ρ) (h : RpR K c G H σ ρ v (.own d)) : ∃ G', Same G G' ∧ Rst K c G' H σ ρ ∧ Rp K G' d v := by
 obtain ⟨a, rfl, h2, h3, h4, h5⟩ := h
 obtain ⟨G', s1, s2, fg, r, dif⟩ := frz R.gh R.fg h2 h3 h4
 refine ⟨G', s1, R.ground s1 s2 fg fun j e b q r1 => ?_, r⟩
 have hb : b ≠ a := fun z => by subst z; exact h5 j e q r1
 obtain ⟨b', k1, k2, k3, k4⟩ := R.own j e q
 rw [r1] at k1; cases k1
 obtain ⟨o, ho, hno⟩ := k4.at
 have same : ∀ x, G x = none → x ≠ a → H x ≠ some (.own a) → G' x = none := fun x gx xa xo => by
  by_cases z : G' x = G x
  · rw [z, gx]
  · rcases dif x z with z | z
    · exact absurd z xa
    · exact absurd z xo
 refine ⟨same b k2 hb (fun z => hno a (by rw [ho] at z; exact Option.some.inj z)), fun x hx gx => same x gx (fun z => ?_) (fun z => ?_)⟩
 · subst z
   obtain ⟨o', ho', hno'⟩ := h4.at
   rw [ho'] at hx; exact hno' b (Option.some.inj hx)
 · rw [z] at hx; cases hx; exact hb rfl
end
end Dl
namespace Dl
open PySem L2
structure Xn where
 c : Str
 ns : List Str := []
 ds : List D := []
inductive Ot (α : Type) where
 | ok (a : α) (ρ : List S) | ex (e : Xn) (ρ : List S)
def M (α : Type) : Type := List S → Option (Ot α)
def M.pure {α : Type} (a : α) : M α := fun ρ => some (.ok a ρ)
def M.bind {α β : Type} (f : M α) (k : α → M β) : M β := fun ρ => match f ρ with
 | some (.ok a ρ') => k a ρ'
 | some (.ex e ρ') => some (.ex e ρ')
 | none => none
instance : Monad M where
 pure := M.pure
 bind := M.bind
def M.fail {α : Type} : M α := fun _ => none
def ofO {α : Type} (o : Option α) : M α := fun ρ => o.map fun a => .ok a ρ
theorem bind_eq {α β : Type} (f : M α) (k : α → M β) (ρ : List S) : (f >>= k) ρ = (match f ρ with
 | some (.ok a ρ') => k a ρ'
 | some (.ex e ρ') => some (.ex e ρ')
 | none => none) := rfl
def wpM {α : Type} (o : Option (Ot α)) (OK : α → List S → Prop) (EX : Xn → List S → Prop) : Prop := match o with
 | some (.ok a ρ) => OK a ρ
 | some (.ex e ρ) => EX e ρ
 | none => False
theorem wpM_bind {α β : Type} {f : M α} {k : α → M β} {ρ : List S} {OK : β → List S → Prop} {EX : Xn → List S → Prop} (h : wpM ((f >>= k) ρ) OK EX) : wpM (f ρ) (fun a ρ' => wpM (k a ρ') OK EX) EX := by
 rw [bind_eq] at h
 revert h
 cases f ρ with
 | none => exact fun h => h
 | some o => cases o <;> exact fun h => h
theorem wpM_mono {α : Type} {o : Option (Ot α)} {OK OK' : α → List S → Prop} {EX EX' : Xn → List S → Prop} (h : wpM o OK EX) (h1 : ∀ a ρ, OK a ρ → OK' a ρ) (h2 : ∀ e ρ, EX e ρ → EX' e ρ) : wpM o OK' EX' := by
 revert h
 cases o with
 | none => exact fun h => h
 | some o => cases o with
  | ok a ρ => exact h1 a ρ
  | ex e ρ => exact h2 e ρ
def XAt (K : PySem.W.Frag) (G H : Hp) (e : Xn) (cls : Value) (d : Option Addr) : Prop :=
 cls = .ref (He.ga K e.c) ∧ match e.ns with
 | [] => d = none
 | ns => ∃ dx fvs, d = some dx ∧ G dx = some (.xd fvs) ∧ ∃ xs, fvs = ns.zip xs ∧ RpL K G e.ds xs ∧ ns.length = e.ds.length
abbrev WX0 : WX := fun _ _ _ _ => False
def EXk (K : PySem.W.Frag) (c : Cn) (W : WX) (σ : L2.St) (G : Hp) : Xn → List S → Prop := fun e ρ' =>
 ∀ cls d G' H', Rst K c G' H' σ ρ' → Same G G' → XAt K G' H' e cls d → W cls d σ H'
theorem EXk.mono {K : PySem.W.Frag} {c : Cn} {W : WX} {σ : L2.St} {G G1 : Hp} {e : Xn} {ρ : List S} (s : Same G G1) (h : EXk K c W σ G e ρ) : EXk K c W σ G1 e ρ :=
 fun cls d G' H' R s' x => h cls d G' H' R (s.trans s') x
def tg {α β : Type} (K : PySem.W.Frag) (W : WX) (rep : Cn → Hp → Hp → L2.St → List S → β → α → Prop) (f : M α) : L2.St → Hp → (β → Hp → Prop) → Prop := fun σ H Q =>
 ∃ c G ρ, Rst K c G H σ ρ ∧ wpM (f ρ) (fun a ρ' => ∀ b G' H', Rst K c G' H' σ ρ' → Same G G' → rep c G' H' σ ρ' b a → Q b H') (EXk K c W σ G)
abbrev repE (K : PySem.W.Frag) : Cn → Hp → Hp → L2.St → List S → V → Rv → Prop := fun c G H σ ρ v r => RpR K c G H σ ρ v r
abbrev repT : Cn → Hp → Hp → L2.St → List S → Bool → Bool → Prop := fun _ _ _ _ _ b a => b = a
def RpRs (K : PySem.W.Frag) (G : Hp) (σ : L2.St) : List V → List Rv → Prop
 | [], [] => True
 | v :: vs, .val d :: rs => Rp K G d v ∧ RpRs K G σ vs rs
 | v :: vs, .ali i :: rs => σ[i]? = some (some v) ∧ RpRs K G σ vs rs
 | _, _ => False
abbrev repA (K : PySem.W.Frag) : Cn → Hp → Hp → L2.St → List S → List V → List Rv → Prop := fun _ G _ σ _ vs rs => RpRs K G σ vs rs
abbrev tD (K : PySem.W.Frag) (W : WX) (f : M Rv) : TE := tg K W (repE K) f
abbrev tDT (K : PySem.W.Frag) (W : WX) (f : M Bool) : TT := tg K W repT f
abbrev tDA (K : PySem.W.Frag) (W : WX) (f : M (List Rv)) : TA := tg K W (repA K) f
theorem tg_step {α β γ : Type} {K : PySem.W.Frag} {W : WX} {rep : Cn → Hp → Hp → L2.St → List S → β → α → Prop} {c : Cn} {G0 G H : Hp} {σ : L2.St} {ρ : List S} {f : M α} {k : α → M γ} {OK : γ → List S → Prop} {Q : β → Hp → Prop}
  (R : Rst K c G H σ ρ) (s0 : Same G0 G) (h : wpM ((f >>= k) ρ) OK (EXk K c W σ G0))
  (next : ∀ a ρ1 b G1 H1, Rst K c G1 H1 σ ρ1 → Same G0 G1 → Same G G1 → rep c G1 H1 σ ρ1 b a → wpM (k a ρ1) OK (EXk K c W σ G0) → Q b H1) : tg K W rep f σ H Q :=
 ⟨c, G, ρ, R, wpM_mono (wpM_bind h) (fun a ρ1 hk b G1 H1 R1 s1 r => next a ρ1 b G1 H1 R1 (s0.trans s1) s1 r hk) fun _ _ x => x.mono s0⟩
structure DE (X : Cx) (W : WX) (e : Expr) (f : M Rv) : Prop where
 pe : PE X e (tD X.K W f)
structure DT (X : Cx) (W : WX) (e : Expr) (f : M Bool) : Prop where
 pt : PT X e (tDT X.K W f)
structure DW (X : Cx) (W : WX) (e : Expr) (f : M Bool) : Prop where
 pw : PW X e (tDT X.K W f)
structure DA (X : Cx) (W : WX) (es : List Expr) (f : M (List Rv)) : Prop where
 pa : PA X es (tDA X.K W f)
section
variable {X : Cx} {e : Expr} {es : List Expr} {t t' : TE}
theorem _root_.L2.PE.weak (h : PE X e t) (w : ∀ σ H Q, t' σ H Q → t σ H Q) : PE X e t' := ⟨fun pins s σ H Q I q => h.run pins s σ H Q I (w σ H Q q)⟩
theorem _root_.L2.PT.weak {t t' : TT} (h : PT X e t) (w : ∀ σ H Q, t' σ H Q → t σ H Q) : PT X e t' := ⟨fun pins s σ H Q I q => h.run pins s σ H Q I (w σ H Q q)⟩
theorem _root_.L2.PW.weak {t t' : TT} (h : PW X e t) (w : ∀ σ H Q, t' σ H Q → t σ H Q) : PW X e t' := ⟨fun wh pins s σ H Q I q => h.run wh pins s σ H Q I (w σ H Q q)⟩
theorem _root_.L2.PA.weak {t t' : TA} (h : PA X es t) (w : ∀ σ H Q, t' σ H Q → t σ H Q) : PA X es t' := ⟨fun pos pins s σ H Q I q => h.run pos pins s σ H Q I (w σ H Q q)⟩
theorem _root_.L2.PS.weak {st : Stmt} {t t' : TS} (h : PS X st t) (w : ∀ D σ H, t' D σ H → t D σ H) : PS X st t' := ⟨fun pins s σ H D I q => h.run pins s σ H D I (w D σ H q)⟩
theorem _root_.L2.PSs.weak {st : List Stmt} {t t' : TS} (h : PSs X st t) (w : ∀ D σ H, t' D σ H → t D σ H) : PSs X st t' := ⟨fun pins s σ H D I q => h.run pins s σ H D I (w D σ H q)⟩
end
def Rh (K : PySem.W.Frag) (c : Cn) (G H : Hp) (d : D) (v : V) : Prop := Rp K G d v ∨ ∃ a, v = .ref a ∧ G a = none ∧ c.F a = none ∧ Ow K c.F G H a d
def peek (r : Rv) : M D := fun ρ => match r with
 | .val d => some (.ok d ρ)
 | .own d => some (.ok d ρ)
 | .ali i => match ρ[i]? with
  | some (.val d) => some (.ok d ρ)
  | some (.own d) => some (.ok d ρ)
  | _ => none
def toV (r : Rv) : M D := fun ρ => match r with
 | .val d => some (.ok d ρ)
 | .own d => some (.ok d ρ)
 | .ali i => match ρ[i]? with
  | some (.val d) => some (.ok d ρ)
  | some (.own d) => some (.ok d (ρ.set i (.val d)))
  | _ => none
def settle : Rv → Rv
 | .own d => .val d
 | r => r
def peeks : List Rv → M (List D)
 | [] => pure []
 | r :: rs => do
  let d ← peek r
  let ds ← peeks rs
  pure (d :: ds)
def toVs : List Rv → M (List D)
 | [] => pure []
 | r :: rs => do
  let d ← toV r
  let ds ← toVs rs
  pure (d :: ds)
section
variable {K : PySem.W.Frag} {c : Cn} {G G' H H' : Hp} {σ : L2.St} {ρ ρ' : List S} {v : V} {d : D} {r : Rv} {rs : List Rv} {vs : List V}
theorem peek_ok (R : Rst K c G H σ ρ) (h : RpR K c G H σ ρ v r) (p : peek r ρ = some (.ok d ρ')) : ρ' = ρ ∧ Rh K c G H d v := by
 cases r with
 | val e => cases p; exact ⟨rfl, .inl h⟩
 | own e => cases p; obtain ⟨a, h1, h2, h3, h4, _⟩ := h; exact ⟨rfl, .inr ⟨a, h1, h2, h3, h4⟩⟩
 | ali i =>
  have h1 : σ[i]? = some (some v) := h
  unfold peek at p
  dsimp only at p
  cases q : ρ[i]? with
  | none => rw [q] at p; cases p
  | some s =>
   rw [q] at p
   cases s with
   | no => cases p
   | val e =>
    cases p
    obtain ⟨w, k1, k2⟩ := R.val i _ q
    rw [h1] at k1; cases k1
    exact ⟨rfl, .inl k2⟩
   | own e =>
    cases p
    obtain ⟨a, k1, k2, k3, k4⟩ := R.own i _ q
    rw [h1] at k1; cases k1
    exact ⟨rfl, .inr ⟨a, rfl, k2, k3, k4⟩⟩
theorem peek_wp {OK : D → List S → Prop} {EX : Xn → List S → Prop} (R : Rst K c G H σ ρ) (h : RpR K c G H σ ρ v r) (w : wpM (peek r ρ) OK EX) : ∃ d, Rh K c G H d v ∧ OK d ρ := by
 cases p : peek r ρ with
 | none => rw [p] at w; exact w.elim
 | some o =>
  rw [p] at w
  cases o with
  | ok d ρ' => obtain ⟨e, k⟩ := peek_ok R h p; subst e; exact ⟨d, k, w⟩
  | ex e ρ' =>
   exfalso
   cases r with
   | val e => cases p
   | own e => cases p
   | ali i =>
    unfold peek at p
    dsimp only at p
    cases q : ρ[i]? with
    | none => rw [q] at p; cases p
    | some s => rw [q] at p; cases s <;> cases p
theorem settle_ok (R : Rst K c G H σ ρ) (h : RpR K c G H σ ρ v r) : ∃ G', Same G G' ∧ Rst K c G' H σ ρ ∧ RpRs K G' σ [v] [settle r] := by
 cases r with
 | val e => exact ⟨G, Same.refl G, R, h, trivial⟩
 | own e => obtain ⟨G', s, R', q⟩ := R.freeze_new h; exact ⟨G', s, R', q, trivial⟩
 | ali i => exact ⟨G, Same.refl G, R, h, trivial⟩
theorem toV_wp {OK : D → List S → Prop} {EX : Xn → List S → Prop} (R : Rst K c G H σ ρ) (h : RpR K c G H σ ρ v r) (w : wpM (toV r ρ) OK EX) : ∃ d G' ρ', Same G G' ∧ Rst K c G' H σ ρ' ∧ Rp K G' d v ∧ OK d ρ' := by
 cases r with
 | val e => exact ⟨e, G, ρ, Same.refl G, R, h, w⟩
 | own e => obtain ⟨G', s, R', q⟩ := R.freeze_new h; exact ⟨e, G', ρ, s, R', q, w⟩
 | ali i =>
  have h1 : σ[i]? = some (some v) := h
  unfold toV at w
  dsimp only at w
  cases q : ρ[i]? with
  | none => rw [q] at w; exact w.elim
  | some s =>
   rw [q] at w
   cases s with
   | no => exact w.elim
   | val e =>
    obtain ⟨x, k1, k2⟩ := R.val i _ q
    rw [h1] at k1; cases k1
    exact ⟨e, G, ρ, Same.refl G, R, k2, w⟩
   | own e =>
    obtain ⟨x, G', k1, s, R', k2⟩ := R.freeze q
    rw [h1] at k1; cases k1
    exact ⟨e, G', _, s, R', k2, w⟩
theorem RpRs.mono (s : Same G G') : ∀ {vs : List V} {rs : List Rv}, RpRs K G σ vs rs → RpRs K G' σ vs rs
 | [], [], _ => trivial
 | v :: vs, .val d :: rs, ⟨h1, h2⟩ => ⟨h1.mono s, h2.mono s⟩
 | v :: vs, .ali i :: rs, ⟨h1, h2⟩ => ⟨h1, h2.mono s⟩
 | [], _ :: _, h => h.elim
 | _ :: _, [], h => h.elim
 | _ :: _, .own _ :: _, h => h.elim
theorem RpRs.one (h : RpRs K G σ [v] [r]) : ∀ {c : Cn} {H : Hp} {ρ : List S}, RpR K c G H σ ρ v r := by
 intro c H ρ
 cases r with
 | val d => exact h.1
 | own d => exact h.elim
 | ali i => exact h.1
theorem RpRs.cons (h : RpRs K G σ [v] [r]) (k : RpRs K G σ vs rs) : RpRs K G σ (v :: vs) (r :: rs) := by
 cases r with
 | val d => exact ⟨h.1, k⟩
 | own d => exact h.elim
 | ali i => exact ⟨h.1, k⟩
theorem RpRs.head (h : RpRs K G σ (v :: vs) (r :: rs)) : RpRs K G σ [v] [r] ∧ RpRs K G σ vs rs := by
 cases r with
 | val d => exact ⟨⟨h.1, trivial⟩, h.2⟩
 | own d => exact h.elim
 | ali i => exact ⟨⟨h.1, trivial⟩, h.2⟩
theorem RpRs.nil_of : ∀ {vs : List V}, RpRs K G σ vs [] → vs = []
 | [], _ => rfl
 | _ :: _, h => h.elim
theorem RpRs.cons_of : ∀ {vs : List V}, RpRs K G σ vs (r :: rs) → ∃ v vs', vs = v :: vs' ∧ RpRs K G σ [v] [r] ∧ RpRs K G σ vs' rs
 | [], h => h.elim
 | v :: vs, h => ⟨v, vs, rfl, h.head⟩
def RhL (K : PySem.W.Frag) (c : Cn) (G H : Hp) : List D → List V → Prop
 | [], vs => vs = []
 | d :: ds, vs => ∃ v r, vs = v :: r ∧ Rh K c G H d v ∧ RhL K c G H ds r
theorem peeks_wp : ∀ {rs : List Rv} {vs : List V} {OK : List D → List S → Prop} {EX : Xn → List S → Prop}, Rst K c G H σ ρ → RpRs K G σ vs rs → wpM (peeks rs ρ) OK EX → ∃ ds, RhL K c G H ds vs ∧ OK ds ρ
 | [], vs, OK, EX, R, h, w => by
  have e := h.nil_of
  subst e
  exact ⟨[], rfl, w⟩
 | r :: rs, vs, OK, EX, R, h, w => by
  obtain ⟨v, vs', rfl, h1, h2⟩ := h.cons_of
  obtain ⟨d, k1, w1⟩ := peek_wp R h1.one (wpM_bind w)
  obtain ⟨ds, k2, w2⟩ := peeks_wp R h2 (wpM_bind w1)
  exact ⟨d :: ds, ⟨v, vs', rfl, k1, k2⟩, w2⟩
theorem toVs_wp : ∀ {rs : List Rv} {vs : List V} {G : Hp} {ρ : List S} {OK : List D → List S → Prop} {EX : Xn → List S → Prop}, Rst K c G H σ ρ → RpRs K G σ vs rs → wpM (toVs rs ρ) OK EX →
  ∃ ds G' ρ', Same G G' ∧ Rst K c G' H σ ρ' ∧ RpL K G' ds vs ∧ OK ds ρ'
 | [], vs, G, ρ, OK, EX, R, h, w => by
  have e := h.nil_of
  subst e
  exact ⟨[], G, ρ, Same.refl G, R, rfl, w⟩
 | r :: rs, vs, G, ρ, OK, EX, R, h, w => by
  obtain ⟨v, vs', rfl, h1, h2⟩ := h.cons_of
  obtain ⟨d, G1, ρ1, s1, R1, k1, w1⟩ := toV_wp R h1.one (wpM_bind w)
  obtain ⟨ds, G2, ρ2, s2, R2, k2, w2⟩ := toVs_wp R1 (h2.mono s1) (wpM_bind w1)
  exact ⟨d :: ds, G2, ρ2, s1.trans s2, R2, ⟨v, vs', rfl, k1.mono s2, k2⟩, w2⟩
end
def eVar (i : Nat) : M Rv := fun ρ => match ρ[i]? with
 | some (.val d) => some (.ok (.val d) ρ)
 | some (.own _) => some (.ok (.ali i) ρ)
 | _ => none
def eC (d : D) : M Rv := pure (.val d)
section
variable {X : Cx} {W : WX} {a b e : Expr} {es : List Expr} {fa fb : M Rv} {pos : Pos}
theorem de_var (i : Nat) {x : Str} (h : PE X (.Name x pos) (tVar i)) : DE X W (.Name x pos) (eVar i) := ⟨h.weak fun σ H Q ⟨c, G, ρ, R, w⟩ => by
 unfold eVar at w
 cases q : ρ[i]? with
 | none => rw [q] at w; exact w.elim
 | some s =>
  rw [q] at w
  cases s with
  | no => exact w.elim
  | val d =>
   obtain ⟨v, k1, k2⟩ := R.val i d q
   exact ⟨v, k1, w v G H R (Same.refl G) k2⟩
  | own d =>
   obtain ⟨a, k1, k2, k3, k4⟩ := R.own i d q
   exact ⟨.ref a, k1, w (.ref a) G H R (Same.refl G) k1⟩⟩
theorem de_v (i : Nat) {x : Str} (hN : X.N[i]? = some x := by rfl) (hv : Vis X.env.scope x := by first | exact Or.inl rfl | exact Or.inr (Or.inl rfl) | exact Or.inr (Or.inr rfl)) (hd : (x == ("__debug__" : Str)) = false := by decide)
  (hcd : (x == ("__classdict__" : Str)) = false := by decide) : DE X W (.Name x pos) (eVar i) := de_var i (pe_var hN hv hd hcd)
theorem de_cv {d : D} {v : V} (h : PE X e (tC v)) (r : ∀ G, Rp X.K G d v) : DE X W e (eC d) := ⟨h.weak fun σ H Q ⟨c, G, ρ, R, w⟩ => w v G H R (Same.refl G) (r G)⟩
theorem de_int {i : Int} {j} : DE X W (.Constant (.int i) j pos) (eC (.int i)) := de_cv pe_int fun _ => rfl
theorem de_bl {b : Bool} {j} : DE X W (.Constant (.bool b) j pos) (eC (.bl b)) := de_cv pe_bl fun _ => rfl
def aNil : M (List Rv) := pure []
def aCons (f : M Rv) (g : M (List Rv)) : M (List Rv) := do
 let r ← f
 let rs ← g
 pure (settle r :: rs)
theorem da_nil : DA X W [] aNil := ⟨pa_nil.weak fun σ H Q ⟨c, G, ρ, R, w⟩ => w [] G H R (Same.refl G) trivial⟩
theorem da_cons {f : M Rv} {g : M (List Rv)} (he : DE X W e f) (hr : DA X W es g) (hs : starEach (e :: es) X.env = (false, eval e X.env) :: starEach es X.env := by rfl) : DA X W (e :: es) (aCons f g) :=
 ⟨(pa_cons he.pe hr.pa hs).weak fun σ H Q ⟨c, G, ρ, R, w⟩ => tg_step R (Same.refl G) w fun r ρ1 v G1 H1 R1 s1 _ k w1 => by
  obtain ⟨G1', s1', R1', k'⟩ := settle_ok R1 k
  exact tg_step R1' (s1.trans s1') w1 fun rs ρ2 vs G2 H2 R2 s2 s12 k2 w2 => w2 (v :: vs) G2 H2 R2 s2 (RpRs.cons (k'.mono s12) k2)⟩
end
end Dl
namespace Dl
open PySem L2
section
variable {K : PySem.W.Frag} {c : Cn} {G G' H H' : Hp} {σ : L2.St} {ρ : List S} {p : Addr} {o : HO}
theorem Rst.laid (R : Rst K c G H σ ρ) (hp : H p = none) : Rst K c G (upd H p o) σ ρ where
 fh := fun b u e => by rw [upd_ne (ne_of_none (R.fh _ _ e) hp)]; exact R.fh _ _ e
 gh := fun b u e => by rw [upd_ne (ne_of_none (R.gh _ _ e) hp)]; exact R.gh _ _ e
 fg := R.fg
 len := R.len
 val := R.val
 own := fun i d e => by
  obtain ⟨a, h1, h2, h3, h4⟩ := R.own i d e
  refine ⟨a, h1, h2, h3, ?_⟩
  have k : ∀ b u, H b = some u → upd H p o b = some u := fun b u q => by rw [upd_ne (ne_of_none q hp)]; exact q
  cases d with
  | lst ds => obtain ⟨xs, q1, q2⟩ := h4; exact ⟨xs, k _ _ q1, q2⟩
  | obj c ns ds => obtain ⟨dx, xs, q1, q2, q3, q4, q5, q6, q7⟩ := h4; exact ⟨dx, xs, k _ _ q1, k _ _ q2, q3, q4, q5, q6, q7⟩
  | dic ks vs => obtain ⟨kvs, q1, q2, q3⟩ := h4; exact ⟨kvs, k _ _ q1, q2, q3⟩
  | ndi ks vs => obtain ⟨kvs, q1, q2⟩ := h4; exact ⟨kvs, k _ _ q1, q2⟩
  | _ => exact h4.elim
 ne := R.ne
 par := R.par
theorem Rst.g_none (R : Rst K c G H σ ρ) (hp : H p = none) : G p = none := R.gh.free hp
theorem Rst.f_none (R : Rst K c G H σ ρ) (hp : H p = none) : c.F p = none := R.fh.free hp
theorem Rst.not_slot (R : Rst K c G H σ ρ) (hp : H p = none) : ∀ (i : Nat) (e : D), ρ[i]? = some (.own e) → σ[i]? ≠ some (some (.ref p)) := fun i e q z => by
 obtain ⟨a, h1, _, _, h4⟩ := R.own i e q
 rw [z] at h1; cases h1
 obtain ⟨o, ho, _⟩ := h4.at
 rw [hp] at ho; cases ho
theorem Rst.laidG (R : Rst K c G H σ ρ) (hp : H p = none) (ho : ∀ b, o ≠ .own b) : Rst K c (upd G p o) (upd H p o) σ ρ ∧ Same G (upd G p o) := by
 have R1 : Rst K c G (upd H p o) σ ρ := R.laid hp
 have s : Same G (upd G p o) := fun b u e => by rw [upd_ne (ne_of_none e (R.g_none hp))]; exact e
 refine ⟨R1.ground s (fun b u e => ?_) (fun b u e => ?_) fun i d a q r => ?_, s⟩
 · by_cases z : b = p
   · subst z; rw [upd_same] at e ⊢; exact e
   · rw [upd_ne z] at e ⊢; exact R.gh _ _ e
 · rw [upd_ne (ne_of_none e (R.f_none hp))]; exact R.fg _ _ e
 · obtain ⟨a', h1, h2, h3, h4⟩ := R.own i d q
   rw [r] at h1; cases h1
   obtain ⟨u, hu, _⟩ := h4.at
   refine ⟨by rw [upd_ne (ne_of_none hu hp)]; exact h2, fun b hb gb => ?_⟩
   by_cases z : b = p
   · subst z
     rw [upd_same] at hb
     exact absurd (Option.some.inj hb) (ho a)
   · rw [upd_ne z]; exact gb
theorem Rst.new_own {xs : List V} {ds : List D} (R : Rst K c G H σ ρ) (hp : H p = none) (r : RpL K G ds xs) : Rst K c G (upd H p (.lst xs)) σ ρ ∧ RpR K c G (upd H p (.lst xs)) σ ρ (.ref p) (.own (.lst ds)) :=
 ⟨R.laid hp, p, rfl, R.g_none hp, R.f_none hp, ⟨xs, upd_same, r⟩, R.not_slot hp⟩
theorem Rst.new_tup {xs : List V} {ds : List D} (R : Rst K c G H σ ρ) (hp : H p = none) (r : RpL K G ds xs) : ∃ G', Same G G' ∧ Rst K c G' (upd H p (.tup xs)) σ ρ ∧ Rp K G' (.tup ds) (.ref p) := by
 obtain ⟨R', s⟩ := R.laidG (o := .tup xs) hp fun b z => nomatch z
 exact ⟨_, s, R', p, xs, rfl, .inl (.inl upd_same), r.mono s⟩
end
section
variable {K : PySem.W.Frag} {c : Cn} {G H : Hp} {v : V}
theorem Rh.int {i : Int} (h : Rh K c G H (.int i) v) : v = .int i := by
 rcases h with h | ⟨a, _, _, _, h⟩
 · exact h
 · exact h.elim
theorem Rh.bl {b : Bool} (h : Rh K c G H (.bl b) v) : v = .bl b := by
 rcases h with h | ⟨a, _, _, _, h⟩
 · exact h
 · exact h.elim
theorem Rh.non (h : Rh K c G H .non v) : v = .non := by
 rcases h with h | ⟨a, _, _, _, h⟩
 · exact h
 · exact h.elim
theorem Rh.str {x : Str} (h : Rh K c G H (.str x) v) : v = .str x := by
 rcases h with h | ⟨a, _, _, _, h⟩
 · exact h
 · exact h.elim
theorem Rh.ty {n : String} (h : Rh K c G H (.ty n) v) : v = .ty n := by
 rcases h with h | ⟨a, _, _, _, h⟩
 · exact h
 · exact h.elim
theorem Rh.cls {n : Str} (h : Rh K c G H (.cls n) v) : v = .ref (He.ga K n) := by
 rcases h with h | ⟨a, _, _, _, h⟩
 · exact h
 · exact h.elim
theorem Rh.tup {ds : List D} (h : Rh K c G H (.tup ds) v) (s : Same G H) : ∃ a xs, v = .ref a ∧ SqT K G a xs ∧ SqT K H a xs ∧ RpL K G ds xs := by
 rcases h with ⟨a, xs, h1, h2, h3⟩ | ⟨a, _, _, _, h⟩
 · exact ⟨a, xs, h1, h2, Same.seqt s h2, h3⟩
 · exact h.elim
theorem Rh.lst {ds : List D} (h : Rh K c G H (.lst ds) v) (s : Same G H) : ∃ a xs, v = .ref a ∧ H a = some (.lst xs) ∧ RpL K G ds xs := by
 rcases h with ⟨a, xs, h1, h2, h3⟩ | ⟨a, h1, _, _, xs, h2, h3⟩
 · exact ⟨a, xs, h1, s _ _ h2, h3⟩
 · exact ⟨a, xs, h1, h2, h3⟩
theorem Rh.dic {ks vs : List D} (h : Rh K c G H (.dic ks vs) v) (s : Same G H) : ∃ a kvs, v = .ref a ∧ H a = some (.dK kvs) ∧ RpL K G ks (kvs.map fun p => kV p.1) ∧ RpL K G vs (kvs.map fun p => p.2) := by
 rcases h with ⟨a, xs, h1, h2, h3, h4⟩ | ⟨a, h1, _, _, xs, h2, h3, h4⟩
 · exact ⟨a, xs, h1, s _ _ h2, h3, h4⟩
 · exact ⟨a, xs, h1, h2, h3, h4⟩
theorem Rh.obj {n : Str} {ns : List Str} {ds : List D} (h : Rh K c G H (.obj n ns ds) v) (s : Same G H) : ∃ a dx xs, v = .ref a ∧ H a = some (.ins (He.ga K n) dx (ns.zip xs)) ∧ ns.length = ds.length ∧ RpL K G ds xs := by
 rcases h with ⟨a, dx, xs, h1, h2, h3, h4, h5⟩ | ⟨a, h1, _, _, dx, xs, h2, h3, h4, h5, h6, h7, h8⟩
 · exact ⟨a, dx, xs, h1, s _ _ h2, h4, h5⟩
 · exact ⟨a, dx, xs, h1, h2, h7, h8⟩
theorem Rh.brw {ds : List D} (h : Rh K c G H (.brw ds) v) (s : Same G H) : ∃ a xs, v = .ref a ∧ SqL K G a xs ∧ SqL K H a xs ∧ RpL K G ds xs := by
 rcases h with ⟨a, xs, h1, h2, h3⟩ | ⟨a, _, _, _, h⟩
 · exact ⟨a, xs, h1, h2, s.seq h2, h3⟩
 · exact h.elim
theorem Rh.scr {ns : List Int} (h : Rh K c G H (.scr ns) v) (s : Same G H) : ∃ a, v = .ref a ∧ SqL K H a (ns.map V.int) := by
 rcases h with ⟨a, h1, h2⟩ | ⟨a, _, _, _, h⟩
 · exact ⟨a, h1, s.seq h2⟩
 · exact h.elim
end
def BinR (K : PySem.W.Frag) (r : R2) (g : D → D → Option Rv) : Prop := ∀ {c : Cn} {G H : Hp} {σ : L2.St} {ρ : List S} {v w : V} {d e : D} {q : Rv} {Q : VK}, Rst K c G H σ ρ → Rh K c G H d v → Rh K c G H e w → g d e = some q →
 (∀ z G' H', Rst K c G' H' σ ρ → Same G G' → RpR K c G' H' σ ρ z q → Q z H') → r v w H Q
def mBin (g : D → D → Option Rv) (fa fb : M Rv) : M Rv := do
 let x ← fa
 let y ← fb
 let d ← peek (settle x)
 let e ← peek y
 ofO (g d e)
theorem ofO_wp {α : Type} {o : Option α} {ρ : List S} {OK : α → List S → Prop} {EX : Xn → List S → Prop} (h : wpM (ofO o ρ) OK EX) : ∃ a, o = some a ∧ OK a ρ := by
 unfold ofO at h
 cases o with
 | none => exact h.elim
 | some a => exact ⟨a, rfl, h⟩
theorem tD_bin {K : PySem.W.Frag} {W : WX} {g : D → D → Option Rv} {r : R2} {fa fb : M Rv} (hg : BinR K r g) {σ : L2.St} {H : Hp} {Q : VK} (h : tD K W (mBin g fa fb) σ H Q) : tOp r (tD K W fa) (tD K W fb) σ H Q := by
 obtain ⟨c, G, ρ, R, w⟩ := h
 refine tg_step R (Same.refl G) w fun x ρ1 v G1 H1 R1 s1 _ k1 w1 => ?_
 obtain ⟨G1', s1', R1', k1'⟩ := settle_ok R1 k1
 refine tg_step R1' (s1.trans s1') w1 fun y ρ2 u G2 H2 R2 s2 s12 k2 w2 => ?_
 obtain ⟨d, kd, w3⟩ := peek_wp R2 (RpRs.one (k1'.mono s12)) (wpM_bind w2)
 obtain ⟨e, ke, w4⟩ := peek_wp R2 k2 (wpM_bind w3)
 obtain ⟨q, eq, w5⟩ := ofO_wp w4
 exact hg R2 kd ke eq fun z G' H' R' s' kz => w5 z G' H' R' (s2.trans s') kz
section
variable {X : Cx} {W : WX} {a b e : Expr} {fa fb : M Rv} {pos : Pos} {g : D → D → Option Rv} {r : R2}
theorem de_bin {op : Operator} (ho : OpR X (binaryOp op) r) (hg : BinR X.K r g) (ha : DE X W a fa) (hb : DE X W b fb) : DE X W (.BinOp a op b pos) (mBin g fa fb) :=
 ⟨(pe_op ho ha.pe hb.pe).weak fun _ _ _ h => tD_bin hg h⟩
theorem de_cmp {op : CmpOp} (ho : OpR X (compareOp op) r) (hg : BinR X.K r g) (ha : DE X W a fa) (hb : DE X W b fb) (hm : behindInMarks op b = false := by rfl) : DE X W (.Compare a [op] [b] pos) (mBin g fa fb) :=
 ⟨(pe_cmpR ho ha.pe hb.pe hm).weak fun _ _ _ h => tD_bin hg h⟩
theorem OpR.or {f : Value → Value → Sem Value} {r r' : R2} (h : OpR X f r) (h' : OpR X f r') : OpR X f (fun x y H Q => r x y H Q ∨ r' x y H Q) := fun pins s σ H x y v u Q I rx ry q => by
 rcases q with q | q
 · exact h pins s σ H x y v u Q I rx ry q
 · exact h' pins s σ H x y v u Q I rx ry q
end
theorem BinR.or {K : PySem.W.Frag} {r r' : R2} {g g' : D → D → Option Rv} (h : BinR K r g) (h' : BinR K r' g') : BinR K (fun x y H Q => r x y H Q ∨ r' x y H Q) (fun d e => (g d e).or (g' d e)) := fun {c G H σ ρ v w d e q Q} R kd ke eq k => by
 have eq : (g d e).or (g' d e) = some q := eq
 cases z : g d e with
 | some q' => rw [z, Option.some_or] at eq; cases eq; exact .inl (h R kd ke z k)
 | none => rw [z, Option.none_or] at eq; exact .inr (h' R kd ke eq k)
def gII (g : Int → Int → D) : D → D → Option Rv
 | .int i, .int j => some (.val (g i j))
 | _, _ => none
def gIIc (C : Int → Int → Bool) (g : Int → Int → D) : D → D → Option Rv
 | .int i, .int j => if C i j then some (.val (g i j)) else none
 | _, _ => none
theorem gII_ok {K : PySem.W.Frag} {g : Int → Int → D} {gv : Int → Int → V} (hv : ∀ i j G, Rp K G (g i j) (gv i j)) : BinR K (rI0 gv) (gII g) := fun {c G H σ ρ v w d e q Q} R kd ke eq k => by
 cases d <;> cases e <;> first
  | (rename_i i j; cases eq; exact ⟨i, j, kd.int, ke.int, k _ G H R (Same.refl G) (hv i j G)⟩)
  | cases eq
theorem gIIc_ok {K : PySem.W.Frag} {C : Int → Int → Bool} {Cp : Int → Int → Prop} {g : Int → Int → D} {gv : Int → Int → V} (hc : ∀ i j, C i j = true → Cp i j) (hv : ∀ i j G, Rp K G (g i j) (gv i j)) : BinR K (rI Cp gv) (gIIc C g) := fun {c G H σ ρ v w d e q Q} R kd ke eq k => by
 cases d <;> cases e <;> first
  | (rename_i i j
     have eq' : (if C i j = true then some (Rv.val (g i j)) else none) = some q := eq
     by_cases hC : C i j = true
     · rw [if_pos hC] at eq'; cases eq'
       exact ⟨i, j, kd.int, ke.int, hc i j hC, k _ G H R (Same.refl G) (hv i j G)⟩
     · rw [if_neg hC] at eq'; cases eq')
  | cases eq
def gSS : D → D → Option Rv
 | .str x, .str y => if x.length + y.length ≤ sizeLine then some (.val (.str (x ++ y))) else none
 | _, _ => none
theorem gSS_ok {K : PySem.W.Frag} : BinR K (fun x y H Q => ∃ i j, x = .str i ∧ y = .str j ∧ i.length + j.length ≤ sizeLine ∧ Q (.str (i ++ j)) H) gSS := fun {c G H σ ρ v w d e q Q} R kd ke eq k => by
 cases d <;> cases e <;> first
  | (rename_i i j
     have eq' : (if i.length + j.length ≤ sizeLine then some (Rv.val (.str (i ++ j))) else none) = some q := eq
     by_cases hC : i.length + j.length ≤ sizeLine
     · rw [if_pos hC] at eq'; cases eq'
       exact ⟨i, j, kd.str, ke.str, hC, k _ G H R (Same.refl G) rfl⟩
     · rw [if_neg hC] at eq'; cases eq')
  | cases eq
def gTT : D → D → Option Rv
 | .tup xs, .tup ys => if xs.length + ys.length ≤ sizeLine then some (.val (.tup (xs ++ ys))) else none
 | _, _ => none
theorem gTT_ok {K : PySem.W.Frag} : BinR K (rCatA K) gTT := fun {c G H σ ρ v w d e q Q} R kd ke eq k => by
 cases d <;> cases e <;> first
  | (rename_i xs ys
     have eq' : (if xs.length + ys.length ≤ sizeLine then some (Rv.val (.tup (xs ++ ys))) else none) = some q := eq
     by_cases hC : xs.length + ys.length ≤ sizeLine
     · rw [if_pos hC] at eq'; cases eq'
       obtain ⟨a, vs, rfl, g1, h1, r1⟩ := kd.tup R.gh
       obtain ⟨b, ws, rfl, g2, h2, r2⟩ := ke.tup R.gh
       refine ⟨a, b, vs, ws, rfl, rfl, h1, h2, by rw [r1.length, r2.length]; exact hC, fun z => ?_, fun _ z => ?_, fun _ _ p hp => ?_⟩
       · subst z
         refine k _ G H R (Same.refl G) ⟨b, ws, rfl, g2, ?_⟩
         have r1' := r1.length; cases xs with
          | nil => exact r2
          | cons => cases r1'
       · subst z
         refine k _ G H R (Same.refl G) ⟨a, vs, rfl, g1, ?_⟩
         have r2' := r2.length; cases ys with
          | nil => rw [List.append_nil]; exact r1
          | cons => cases r2'
       · obtain ⟨G', s, R', rr⟩ := R.new_tup hp (r1.append r2)
         exact k _ G' _ R' s rr
     · rw [if_neg hC] at eq'; cases eq')
  | cases eq
def gLL : D → D → Option Rv
 | .lst xs, .lst ys => if xs.length + ys.length ≤ sizeLine then some (.own (.lst (xs ++ ys))) else none
 | _, _ => none
theorem gLL_ok {K : PySem.W.Frag} : BinR K rCat gLL := fun {c G H σ ρ v w d e q Q} R kd ke eq k => by
 cases d <;> cases e <;> first
  | (rename_i xs ys
     have eq' : (if xs.length + ys.length ≤ sizeLine then some (Rv.own (.lst (xs ++ ys))) else none) = some q := eq
     by_cases hC : xs.length + ys.length ≤ sizeLine
     · rw [if_pos hC] at eq'; cases eq'
       obtain ⟨a, vs, rfl, h1, r1⟩ := kd.lst R.gh
       obtain ⟨b, ws, rfl, h2, r2⟩ := ke.lst R.gh
       refine ⟨a, b, vs, ws, rfl, rfl, h1, h2, by rw [r1.length, r2.length]; exact hC, fun p hp => ?_⟩
       obtain ⟨R', rr⟩ := R.new_own hp (r1.append r2)
       exact k _ G _ R' (Same.refl G) rr
     · rw [if_neg hC] at eq'; cases eq')
  | cases eq
def dAdd : D → D → Option Rv := fun d e => ((gII fun i j => .int (i + j)) d e).or ((gTT d e).or ((gLL d e).or (gSS d e)))
theorem add_op {X : Cx} : ∃ r, OpR X (binaryOp .Add) r ∧ BinR X.K r dAdd :=
 ⟨_, op_add.or (op_catA.or (op_cat.or op_add_str)), BinR.or (gII_ok (gv := fun i j => .int (i + j)) fun _ _ _ => by exact rfl) (BinR.or gTT_ok (BinR.or gLL_ok gSS_ok))⟩
def dSub : D → D → Option Rv := gII fun i j => .int (i - j)
theorem sub_op {X : Cx} : ∃ r, OpR X (binaryOp .Sub) r ∧ BinR X.K r dSub := ⟨_, op_sub, gII_ok fun _ _ _ => by exact rfl⟩
def mulOk (i j : Int) : Bool := decide (-(2 ^ 64) < i ∧ i < 2 ^ 64) || decide (-(2 ^ 64) < j ∧ j < 2 ^ 64)
def dMul : D → D → Option Rv := gIIc mulOk fun i j => .int (i * j)
theorem mul_op {X : Cx} : ∃ r, OpR X (binaryOp .Mult) r ∧ BinR X.K r dMul := ⟨_, op_mul, gIIc_ok (fun i j h => by
 unfold mulOk at h
 rcases Bool.or_eq_true_iff.mp h with h | h
 · exact .inl (of_decide_eq_true h)
 · exact .inr (of_decide_eq_true h)) fun _ _ _ => by exact rfl⟩
def divOk (_ j : Int) : Bool := decide (0 < j ∧ j < 2 ^ 64)
def dDiv : D → D → Option Rv := gIIc divOk fun i j => .int (i / j)
theorem div_op {X : Cx} : ∃ r, OpR X (binaryOp .FloorDiv) r ∧ BinR X.K r dDiv := ⟨_, op_fdivW, gIIc_ok (fun i j h => by
 obtain ⟨h1, h2⟩ := of_decide_eq_true (p := 0 < j ∧ j < 2 ^ 64) h
 exact wide_div (b := 64) h1 (by omega) (by decide) (by decide)) fun _ _ _ => by exact rfl⟩
def modOk (_ j : Int) : Bool := decide (0 < j)
def dMod : D → D → Option Rv := gIIc modOk fun i j => .int (i % j)
theorem mod_op {X : Cx} : ∃ r, OpR X (binaryOp .Mod) r ∧ BinR X.K r dMod := ⟨_, op_mod, gIIc_ok (fun i j h => of_decide_eq_true (p := 0 < j) h) fun _ _ _ => by exact rfl⟩
def powOk (i j : Int) : Bool := decide (0 ≤ j ∧ j ≤ 1000 ∧ i.natAbs < 2 ^ 64)
def dPow : D → D → Option Rv := gIIc powOk fun i j => .int (i ^ j.toNat)
theorem pow_op {X : Cx} : ∃ r, OpR X (binaryOp .Pow) r ∧ BinR X.K r dPow := ⟨_, op_pow, gIIc_ok (fun i j h => by
 obtain ⟨h1, h2, h3⟩ := of_decide_eq_true (p := 0 ≤ j ∧ j ≤ 1000 ∧ i.natAbs < 2 ^ 64) h
 exact ⟨h1, by omega, h3⟩) fun _ _ _ => by exact rfl⟩
def dLt : D → D → Option Rv := gII fun i j => .bl (decide (i < j))
def dLe : D → D → Option Rv := gII fun i j => .bl (decide (i ≤ j))
def dGt : D → D → Option Rv := gII fun i j => .bl (decide (j < i))
def dGe : D → D → Option Rv := gII fun i j => .bl (decide (j ≤ i))
theorem lt_op {X : Cx} : ∃ r, OpR X (compareOp .Lt) r ∧ BinR X.K r dLt := ⟨_, op_lt, gII_ok fun _ _ _ => by exact rfl⟩
theorem gt_op {X : Cx} : ∃ r, OpR X (compareOp .Gt) r ∧ BinR X.K r dGt := ⟨_, op_gt, gII_ok fun _ _ _ => by exact rfl⟩
theorem ge_op {X : Cx} : ∃ r, OpR X (compareOp .GtE) r ∧ BinR X.K r dGe := ⟨_, op_ge, gII_ok fun _ _ _ => by exact rfl⟩
section
variable {X : Cx} {W : WX} {a b e : Expr} {fa fb : M Rv} {pos : Pos}
abbrev eAdd := mBin dAdd
abbrev eSub := mBin dSub
abbrev eMul := mBin dMul
abbrev eDiv := mBin dDiv
abbrev eMod := mBin dMod
abbrev ePow := mBin dPow
abbrev eLt := mBin dLt
abbrev eGt := mBin dGt
abbrev eGe := mBin dGe
theorem de_add (ha : DE X W a fa) (hb : DE X W b fb) : DE X W (.BinOp a .Add b pos) (eAdd fa fb) := let ⟨_, h1, h2⟩ := add_op; de_bin h1 h2 ha hb
theorem de_sub (ha : DE X W a fa) (hb : DE X W b fb) : DE X W (.BinOp a .Sub b pos) (eSub fa fb) := let ⟨_, h1, h2⟩ := sub_op; de_bin h1 h2 ha hb
theorem de_mul (ha : DE X W a fa) (hb : DE X W b fb) : DE X W (.BinOp a .Mult b pos) (eMul fa fb) := let ⟨_, h1, h2⟩ := mul_op; de_bin h1 h2 ha hb
theorem de_div (ha : DE X W a fa) (hb : DE X W b fb) : DE X W (.BinOp a .FloorDiv b pos) (eDiv fa fb) := let ⟨_, h1, h2⟩ := div_op; de_bin h1 h2 ha hb
theorem de_mod (ha : DE X W a fa) (hb : DE X W b fb) : DE X W (.BinOp a .Mod b pos) (eMod fa fb) := let ⟨_, h1, h2⟩ := mod_op; de_bin h1 h2 ha hb
theorem de_pow (ha : DE X W a fa) (hb : DE X W b fb) : DE X W (.BinOp a .Pow b pos) (ePow fa fb) := let ⟨_, h1, h2⟩ := pow_op; de_bin h1 h2 ha hb
theorem de_ge (ha : DE X W a fa) (hb : DE X W b fb) : DE X W (.Compare a [.GtE] [b] pos) (eGe fa fb) := let ⟨_, h1, h2⟩ := ge_op; de_cmp h1 h2 ha hb (nomark _)
end
end Dl
namespace Dl
open PySem L2
mutual
def toP : D → Option PyData
 | .non => some .none
 | .bl b => some (.bool b)
 | .int i => some (.int i)
 | .str x => some (.str x)
 | .lst ds => (toPs ds).map .list
 | .tup ds => (toPs ds).map .tuple
 | _ => none
def toPs : List D → Option (List PyData)
 | [] => some []
 | d :: ds => match toP d, toPs ds with
  | some p, some ps => some (p :: ps)
  | _, _ => none
end
section
variable {K : PySem.W.Frag} {c : Cn} {G H : Hp}
mutual
theorem dp_of (s : Same G H) : ∀ (d : D) (v : V) (p : PyData), Rp K G d v → toP d = some p → Dp K H v p
 | .non, _, _, h, e => by cases h; cases e; exact .non
 | .bl b, _, _, h, e => by cases h; cases e; exact .bl b
 | .int b, _, _, h, e => by cases h; cases e; exact .int b
 | .str b, _, _, h, e => by cases h; cases e; exact .str b
 | .lst ds, _, _, ⟨a, xs, h1, h2, h3⟩, e => by
  have e : (toPs ds).map PyData.list = some _ := e
  obtain ⟨ps, e1, e2⟩ := Option.map_eq_some_iff.mp e
  subst h1 e2
  exact .lst (.inl (.inl (s _ _ h2))) (dps_of s ds xs ps h3 e1)
 | .tup ds, _, _, ⟨a, xs, h1, h2, h3⟩, e => by
  have e : (toPs ds).map PyData.tuple = some _ := e
  obtain ⟨ps, e1, e2⟩ := Option.map_eq_some_iff.mp e
  subst h1 e2
  exact .tup (Same.seqt s h2) (dps_of s ds xs ps h3 e1)
 | .obj _ _ _, _, _, _, e => by cases e
 | .dic _ _, _, _, _, e => by cases e
 | .ndi _ _, _, _, _, e => by cases e
 | .xob _ _ _ _, _, _, _, e => by cases e
 | .gho _, _, _, _, e => by cases e
 | .brw _, _, _, _, e => by cases e
 | .tpl _, _, _, _, e => by cases e
 | .scr _, _, _, _, e => by cases e
 | .ty _, _, _, _, e => by cases e
 | .cls _, _, _, _, e => by cases e
theorem dps_of (s : Same G H) : ∀ (ds : List D) (xs : List V) (ps : List PyData), RpL K G ds xs → toPs ds = some ps → DpAll K H xs ps
 | [], _, _, h, e => by cases h; cases e; exact .nil
 | d :: ds, _, _, ⟨x, r, h1, h2, h3⟩, e => by
  have e : (match toP d, toPs ds with
   | some p, some ps => some (p :: ps)
   | _, _ => none) = some _ := e
  cases q1 : toP d with
  | none => rw [q1] at e; cases e
  | some p =>
   cases q2 : toPs ds with
   | none => rw [q1, q2] at e; cases e
   | some ps =>
    rw [q1, q2] at e
    cases e
    subst h1
    exact .cons (dp_of s d x p h2 q1) (dps_of s ds r ps h3 q2)
end
theorem Rh.dp {d : D} {v : V} {p : PyData} (h : Rh K c G H d v) (s : Same G H) (e : toP d = some p) : Dp K H v p := by
 rcases h with h | ⟨a, rfl, _, _, h⟩
 · exact dp_of s d v p h e
 · cases d with
   | lst ds =>
    obtain ⟨xs, h1, h2⟩ := h
    have e : (toPs ds).map PyData.list = some _ := e
    obtain ⟨ps, e1, e2⟩ := Option.map_eq_some_iff.mp e
    subst e2
    exact .lst (.inl (.inl h1)) (dps_of s ds xs ps h2 e1)
   | obj => cases e
   | dic => cases e
   | ndi => cases e
   | _ => exact h.elim
end
def dEqB (d e : D) : Option Bool := match toP d, toP e with
 | some p, some q => if (SeqAt.shaped p && SeqAt.shaped q) = true then some (PyData.eqv p q) else none
 | _, _ => none
def dEq (d e : D) : Option Rv := (dEqB d e).map fun b => .val (.bl b)
def dNe (d e : D) : Option Rv := (dEqB d e).map fun b => .val (.bl (!b))
theorem dEqB_some {d e : D} {b : Bool} (h : dEqB d e = some b) : ∃ p q, toP d = some p ∧ toP e = some q ∧ SeqAt.shaped p = true ∧ SeqAt.shaped q = true ∧ b = PyData.eqv p q := by
 unfold dEqB at h
 cases h1 : toP d with
 | none => rw [h1] at h; cases h
 | some p =>
  cases h2 : toP e with
  | none => rw [h1, h2] at h; cases h
  | some q =>
   rw [h1, h2] at h
   dsimp only at h
   by_cases hs : (SeqAt.shaped p && SeqAt.shaped q) = true
   · rw [if_pos hs] at h
     cases h
     obtain ⟨k1, k2⟩ := Bool.and_eq_true_iff.mp hs
     exact ⟨p, q, rfl, rfl, k1, k2, rfl⟩
   · rw [if_neg hs] at h; cases h
theorem eq_ok {K : PySem.W.Frag} : BinR K (rEqD K) dEq := fun {c G H σ ρ v w d e q Q} R kd ke eq k => by
 obtain ⟨b, h1, h2⟩ := Option.map_eq_some_iff.mp eq
 obtain ⟨p1, p2, e1, e2, s1, s2, rfl⟩ := dEqB_some h1
 subst h2
 exact ⟨p1, p2, kd.dp R.gh e1, ke.dp R.gh e2, s1, s2, k _ G H R (Same.refl G) rfl⟩
theorem ne_ok {K : PySem.W.Frag} : BinR K (rNeD K) dNe := fun {c G H σ ρ v w d e q Q} R kd ke eq k => by
 obtain ⟨b, h1, h2⟩ := Option.map_eq_some_iff.mp eq
 obtain ⟨p1, p2, e1, e2, s1, s2, rfl⟩ := dEqB_some h1
 subst h2
 exact ⟨p1, p2, kd.dp R.gh e1, ke.dp R.gh e2, s1, s2, k _ G H R (Same.refl G) rfl⟩
def flD : D → Bool
 | .non => true
 | .bl _ => true
 | .int _ => true
 | .str _ => true
 | _ => false
def feq : D → D → Bool
 | .non, .non => true
 | .bl a, .bl b => a == b
 | .bl a, .int b => (if a then 1 else 0) == b
 | .int a, .bl b => a == (if b then 1 else 0)
 | .int a, .int b => a == b
 | .str a, .str b => a == b
 | _, _ => false
theorem flat_rp {K : PySem.W.Frag} {G : Hp} {d : D} {v : V} (h : Rp K G d v) (f : flD d = true) : flatV v = true := by
 cases d <;> first | (cases h; rfl) | cases f
theorem feq_rp {K : PySem.W.Frag} {G : Hp} {d e : D} {v w : V} (h : Rp K G d v) (h' : Rp K G e w) (f : flD d = true) (f' : flD e = true) : eqV v w = feq d e := by
 cases d <;> first | (cases f; done) | (cases e <;> first | (cases f'; done) | (cases h; cases h'; rfl))
theorem flat_all {K : PySem.W.Frag} {G : Hp} : ∀ {ds : List D} {vs : List V}, RpL K G ds vs → ds.all flD = true → vs.all flatV = true
 | [], _, h, _ => by cases h; rfl
 | d :: ds, _, ⟨x, r, h1, h2, h3⟩, f => by
  obtain ⟨f1, f2⟩ := Bool.and_eq_true_iff.mp (show (flD d && ds.all flD) = true from f)
  subst h1
  show (flatV x && r.all flatV) = true
  rw [flat_rp h2 f1, flat_all h3 f2]; rfl
theorem inV_rp {K : PySem.W.Frag} {G : Hp} {d : D} {v : V} (hd : Rp K G d v) (fd : flD d = true) : ∀ {ds : List D} {vs : List V}, RpL K G ds vs → ds.all flD = true → inV v vs = ds.any fun y => feq y d
 | [], _, h, _ => by cases h; rfl
 | e :: ds, _, ⟨x, r, h1, h2, h3⟩, f => by
  obtain ⟨f1, f2⟩ := Bool.and_eq_true_iff.mp (show (flD e && ds.all flD) = true from f)
  subst h1
  show (eqV x v || inV v r) = (feq e d || ds.any fun y => feq y d)
  rw [feq_rp h2 hd f1 fd, inV_rp hd fd h3 f2]
def items : D → Option (List D)
 | .lst xs => some xs
 | .tup xs => some xs
 | .brw xs => some xs
 | _ => none
def dInB (x y : D) : Option Bool := match items y with
 | some ys => if (flD x && ys.all flD) = true then some (ys.any fun z => feq z x) else none
 | none => none
def dIn (x y : D) : Option Rv := (dInB x y).map fun b => .val (.bl b)
def dNotIn (x y : D) : Option Rv := (dInB x y).map fun b => .val (.bl (!b))
theorem dInB_some {K : PySem.W.Frag} {c : Cn} {G H : Hp} {x y : D} {b : Bool} {v w : V} (s : Same G H) (h : dInB x y = some b) (hx : Rh K c G H x v) (hy : Rh K c G H y w) :
  ∃ p xs, w = .ref p ∧ (SqL K H p xs ∨ SqT K H p xs) ∧ flatV v = true ∧ xs.all flatV = true ∧ inV v xs = b := by
 unfold dInB at h
 cases e : items y with
 | none => rw [e] at h; cases h
 | some ys =>
  rw [e] at h
  dsimp only at h
  by_cases hf : (flD x && ys.all flD) = true
  · rw [if_pos hf] at h
    cases h
    obtain ⟨f1, f2⟩ := Bool.and_eq_true_iff.mp hf
    have rx : Rp K G x v := by
     rcases hx with h | ⟨a, _, _, _, h⟩
     · exact h
     · cases x <;> first | exact h.elim | cases f1
    cases y with
    | lst zs =>
     cases e
     obtain ⟨a, xs, h1, h2, h3⟩ := hy.lst s
     exact ⟨a, xs, h1, .inl (.inl (.inl h2)), flat_rp rx f1, flat_all h3 f2, inV_rp rx f1 h3 f2⟩
    | tup zs =>
     cases e
     obtain ⟨a, xs, h1, _, h2, h3⟩ := hy.tup s
     exact ⟨a, xs, h1, .inr h2, flat_rp rx f1, flat_all h3 f2, inV_rp rx f1 h3 f2⟩
    | brw zs =>
     cases e
     obtain ⟨a, xs, h1, _, h2, h3⟩ := hy.brw s
     exact ⟨a, xs, h1, .inl h2, flat_rp rx f1, flat_all h3 f2, inV_rp rx f1 h3 f2⟩
    | _ => cases e
  · rw [if_neg hf] at h; cases h
theorem in_ok {K : PySem.W.Frag} : BinR K (rIn K false) dIn := fun {c G H σ ρ v w d e q Q} R kd ke eq k => by
 obtain ⟨b, h1, h2⟩ := Option.map_eq_some_iff.mp eq
 subst h2
 obtain ⟨p, xs, rfl, hs, f1, f2, hb⟩ := dInB_some R.gh h1 kd ke
 refine ⟨p, xs, rfl, hs, f1, f2, k _ G H R (Same.refl G) ?_⟩
 show V.bl (inV v xs) = V.bl b
 rw [hb]
theorem notIn_ok {K : PySem.W.Frag} : BinR K (rIn K true) dNotIn := fun {c G H σ ρ v w d e q Q} R kd ke eq k => by
 obtain ⟨b, h1, h2⟩ := Option.map_eq_some_iff.mp eq
 subst h2
 obtain ⟨p, xs, rfl, hs, f1, f2, hb⟩ := dInB_some R.gh h1 kd ke
 refine ⟨p, xs, rfl, hs, f1, f2, k _ G H R (Same.refl G) ?_⟩
 show V.bl (!inV v xs) = V.bl (!b)
 rw [hb]
def dIsN (d e : D) : Option Rv := match d, e with
 | .non, .non => some (.val (.bl true))
 | .obj _ _ _, .non | .int _, .non | .bl _, .non | .str _, .non | .lst _, .non | .tup _, .non | .dic _ _, .non => some (.val (.bl false))
 | .bl a, .bl b => some (.val (.bl (decide (a = b))))
 | _, _ => none
def dNotN (d e : D) : Option Rv := match d, e with
 | .non, .non => some (.val (.bl false))
 | .obj _ _ _, .non | .int _, .non | .bl _, .non | .str _, .non | .lst _, .non | .tup _, .non | .dic _ _, .non => some (.val (.bl true))
 | .bl a, .bl b => some (.val (.bl (!decide (a = b))))
 | _, _ => none
theorem Rh.nn {K : PySem.W.Frag} {c : Cn} {G H : Hp} {d : D} {v : V} (h : Rh K c G H d v) (n : d ≠ .non) : v ≠ .non := by
 intro z
 subst z
 rcases h with h | ⟨a, e, _⟩
 · cases d <;> first | (exact n rfl) | (exact nomatch h) | (obtain ⟨_, _, e, _⟩ := h; cases e) | (obtain ⟨_, e, _⟩ := h; cases e)
 · cases e
section
variable {X : Cx} {W : WX} {a b e : Expr} {fa fb : M Rv} {pos : Pos}
def dInDeep (x y : D) : Option Bool := match y with
 | .lst ys => match toP x, toPs ys with
  | some d, some ds => if (SeqAt.shaped d && SeqAt.shaped (.list ds)) = true then some (ds.any fun z => PyData.eqv z d) else none
  | _, _ => none
 | _ => none
def dInD (x y : D) : Option Rv := (dInDeep x y).map fun b => .val (.bl b)
def dNotInD (x y : D) : Option Rv := (dInDeep x y).map fun b => .val (.bl (!b))
theorem dInDeep_some {x y : D} {b : Bool} (h : dInDeep x y = some b) : ∃ d ds, toP x = some d ∧ toP y = some (.list ds) ∧ SeqAt.shaped d = true ∧ SeqAt.shaped (.list ds) = true ∧ b = (ds.any fun z => PyData.eqv z d) := by
 unfold dInDeep at h
 cases y <;> first
  | (cases h; done)
  | (rename_i ys
     dsimp only at h
     cases h1 : toP x with
     | none => rw [h1] at h; cases h
     | some d =>
      cases h2 : toPs ys with
      | none => rw [h1, h2] at h; cases h
      | some ds =>
       rw [h1, h2] at h
       dsimp only at h
       by_cases hs : (SeqAt.shaped d && SeqAt.shaped (.list ds)) = true
       · rw [if_pos hs] at h
         cases h
         obtain ⟨k1, k2⟩ := Bool.and_eq_true_iff.mp hs
         exact ⟨d, ds, rfl, by unfold toP; rw [h2]; rfl, k1, k2, rfl⟩
       · rw [if_neg hs] at h; cases h)
theorem inD_ok {K : PySem.W.Frag} : BinR K (rInD K) dInD := fun {c G H σ ρ v w d e q Q} R kd ke eq k => by
 obtain ⟨b, h1, h2⟩ := Option.map_eq_some_iff.mp eq
 obtain ⟨p1, p2, e1, e2, s1, s2, rfl⟩ := dInDeep_some h1
 subst h2
 exact ⟨p1, p2, kd.dp R.gh e1, ke.dp R.gh e2, s1, s2, k _ G H R (Same.refl G) rfl⟩
theorem notInD_ok {K : PySem.W.Frag} : BinR K (rNotInD K) dNotInD := fun {c G H σ ρ v w d e q Q} R kd ke eq k => by
 obtain ⟨b, h1, h2⟩ := Option.map_eq_some_iff.mp eq
 obtain ⟨p1, p2, e1, e2, s1, s2, rfl⟩ := dInDeep_some h1
 subst h2
 exact ⟨p1, p2, kd.dp R.gh e1, ke.dp R.gh e2, s1, s2, k _ G H R (Same.refl G) rfl⟩
def dIn2 (x y : D) : Option Rv := (dIn x y).or (dInD x y)
def dNotIn2 (x y : D) : Option Rv := (dNotIn x y).or (dNotInD x y)
abbrev eEq := mBin dEq
abbrev eNe := mBin dNe
abbrev eIn := mBin dIn2
abbrev eNotIn := mBin dNotIn2
def Rm (X : Cx) : Prop := X.A.units + 65 < cLine
theorem de_eq (hu : Rm X) (ha : DE X W a fa) (hb : DE X W b fb) : DE X W (.Compare a [.Eq] [b] pos) (eEq fa fb) := de_cmp (op_eqD (Nat.lt_of_succ_lt hu)) eq_ok ha hb (nomark _)
theorem de_in (hu : Rm X) (ha : DE X W a fa) (hb : DE X W b fb) (hm : behindInMarks .In b = false := by rfl) : DE X W (.Compare a [.In] [b] pos) (eIn fa fb) := de_cmp (op_in_seq.or (op_inD hu)) (BinR.or in_ok inD_ok) ha hb hm
end
def truD : D → Option Bool
 | .non => some false
 | .bl b => some b
 | .int i => some (i != 0)
 | .lst xs => some (!xs.isEmpty)
 | .tup xs => some (!xs.isEmpty)
 | .dic ks _ => some (!ks.isEmpty)
 | _ => none
theorem truD_ok {K : PySem.W.Frag} {c : Cn} {G H : Hp} {d : D} {v : V} {b : Bool} (s : Same G H) (h : Rh K c G H d v) (e : truD d = some b) : TruV K v H b := by
 cases d with
 | non => cases e; rw [h.non]; rfl
 | bl k => cases e; rw [h.bl]; rfl
 | int i => cases e; rw [h.int]; rfl
 | lst ds =>
  cases e
  obtain ⟨a, xs, rfl, h2, h3⟩ := h.lst s
  have hl := h3.length
  refine .inl ⟨xs, .inl (.inl h2), ?_⟩
  cases ds <;> cases xs <;> first | rfl | cases hl
 | tup ds =>
  cases e
  obtain ⟨a, xs, rfl, _, h2, h3⟩ := h.tup s
  have hl := h3.length
  refine .inr (.inl ⟨xs, h2, ?_⟩)
  cases ds <;> cases xs <;> first | rfl | cases hl
 | dic ks vs =>
  cases e
  obtain ⟨a, xs, rfl, h2, h3, _⟩ := h.dic s
  have hl := h3.length
  refine .inr (.inr ⟨xs, h2, ?_⟩)
  cases ks <;> cases xs <;> first | rfl | cases hl
 | _ => cases e
def tru (r : Rv) : M Bool := do
 let d ← peek r
 ofO (truD d)
theorem tru_wp {K : PySem.W.Frag} {c : Cn} {G H : Hp} {σ : L2.St} {ρ : List S} {v : V} {r : Rv} {OK : Bool → List S → Prop} {EX : Xn → List S → Prop} (R : Rst K c G H σ ρ) (h : RpR K c G H σ ρ v r) (w : wpM (tru r ρ) OK EX) :
  ∃ b, TruV K v H b ∧ OK b ρ := by
 obtain ⟨d, kd, w1⟩ := peek_wp R h (wpM_bind w)
 obtain ⟨b, eb, w2⟩ := ofO_wp w1
 exact ⟨b, truD_ok R.gh kd eb, w2⟩
section
variable {X : Cx} {W : WX} {a b e cc : Expr} {rest : List Expr} {fa fb : M Rv} {ga gb : M Bool} {pos : Pos}
def tVal (fa : M Rv) : M Bool := do
 let r ← fa
 tru r
theorem dt_val (ha : DE X W a fa) (he : ∀ whole, isTrue a X.env whole = (do let v ← whole; standAt a.pos; holding [v] (truthy v)) := by intro _; rfl) : DT X W a (tVal fa) :=
 ⟨(pt_truth ha.pe he).weak fun σ H Q ⟨c, G, ρ, R, w⟩ => tg_step R (Same.refl G) w fun x ρ1 v G1 H1 R1 s1 _ k1 w1 => by
  obtain ⟨b, hb, w2⟩ := tru_wp R1 k1 w1
  exact ⟨b, hb, w2 b G1 H1 R1 s1 rfl⟩⟩
def tNot (ga : M Bool) : M Bool := do
 let b ← ga
 pure (!b)
theorem dt_not (ha : DT X W a ga) : DT X W (.UnaryOp .Not a pos) (tNot ga) :=
 ⟨(pt_not ha.pt).weak fun σ H Q ⟨c, G, ρ, R, w⟩ => tg_step R (Same.refl G) w fun x ρ1 v G1 H1 R1 s1 _ k1 w1 => by
  obtain rfl : v = x := k1
  exact w1 (!v) G1 H1 R1 s1 rfl⟩
def tAnd (ga gb : M Bool) : M Bool := do
 let b ← ga
 if b = true then gb else pure false
def tOr (ga gb : M Bool) : M Bool := do
 let b ← ga
 if b = true then pure true else gb
theorem DW.t (h : DW X W e ga) : DT X W e ga := ⟨h.pw.pt⟩
theorem dw_and1 (ha : DT X W a ga) : DW X W (.BoolOp .And [a] pos) ga := ⟨pw_and1 ha.pt⟩
theorem dw_or1 (ha : DT X W a ga) : DW X W (.BoolOp .Or [a] pos) ga := ⟨pw_or1 ha.pt⟩
theorem dw_and (ha : DT X W a ga) (hb : DW X W (.BoolOp .And (b :: rest) pos) gb) : DW X W (.BoolOp .And (a :: b :: rest) pos) (tAnd ga gb) :=
 ⟨(pw_and ha.pt hb.pw).weak fun σ H Q ⟨c, G, ρ, R, w⟩ => tg_step R (Same.refl G) w fun x ρ1 v G1 H1 R1 s1 _ k1 w1 => by
  obtain rfl : v = x := k1
  cases v with
  | true =>
   rw [if_pos rfl] at w1 ⊢
   exact ⟨c, G1, ρ1, R1, wpM_mono w1 (fun y ρ2 h b' G' H' R' s' k' => h b' G' H' R' (s1.trans s') k') fun _ _ x => x.mono s1⟩
  | false =>
   rw [if_neg Bool.false_ne_true] at w1 ⊢
   exact w1 false G1 H1 R1 s1 rfl⟩
theorem dw_or (ha : DT X W a ga) (hb : DW X W (.BoolOp .Or (b :: rest) pos) gb) : DW X W (.BoolOp .Or (a :: b :: rest) pos) (tOr ga gb) :=
 ⟨(pw_or ha.pt hb.pw).weak fun σ H Q ⟨c, G, ρ, R, w⟩ => tg_step R (Same.refl G) w fun x ρ1 v G1 H1 R1 s1 _ k1 w1 => by
  obtain rfl : v = x := k1
  cases v with
  | true =>
   rw [if_pos rfl] at w1 ⊢
   exact w1 true G1 H1 R1 s1 rfl
  | false =>
   rw [if_neg Bool.false_ne_true] at w1 ⊢
   exact ⟨c, G1, ρ1, R1, wpM_mono w1 (fun y ρ2 h b' G' H' R' s' k' => h b' G' H' R' (s1.trans s') k') fun _ _ x => x.mono s1⟩⟩
def eNot (fa : M Rv) : M Rv := do
 let r ← fa
 let b ← tru r
 pure (.val (.bl (!b)))
theorem de_not (ha : DE X W a fa) : DE X W (.UnaryOp .Not a pos) (eNot fa) :=
 ⟨(pe_notT ha.pe).weak fun σ H Q ⟨c, G, ρ, R, w⟩ => tg_step R (Same.refl G) w fun x ρ1 v G1 H1 R1 s1 _ k1 w1 => by
  obtain ⟨b, hb, w2⟩ := tru_wp R1 k1 (wpM_bind w1)
  exact ⟨b, hb, w2 (.bl (!b)) G1 H1 R1 s1 rfl⟩⟩
def eAnd (fa fb : M Rv) : M Rv := do
 let r ← fa
 let b ← tru (settle r)
 if b = true then fb else pure (settle r)
def eOr (fa fb : M Rv) : M Rv := do
 let r ← fa
 let b ← tru (settle r)
 if b = true then pure (settle r) else fb
theorem de_one {op : BoolOp} (ha : DE X W a fa) : DE X W (.BoolOp op [a] pos) fa := ⟨pe_one ha.pe⟩
theorem de_and (ha : DE X W a fa) (hb : DE X W (.BoolOp .And (b :: rest) pos) fb) : DE X W (.BoolOp .And (a :: b :: rest) pos) (eAnd fa fb) :=
 ⟨(pe_andT ha.pe hb.pe).weak fun σ H Q ⟨c, G, ρ, R, w⟩ => tg_step R (Same.refl G) w fun x ρ1 v G1 H1 R1 s1 _ k1 w1 => by
  obtain ⟨G1', s1', R1', k1'⟩ := settle_ok R1 k1
  obtain ⟨b, hb, w2⟩ := tru_wp R1' k1'.one (wpM_bind w1)
  refine ⟨b, hb, ?_⟩
  cases b with
  | true =>
   rw [if_pos rfl] at w2 ⊢
   exact ⟨c, G1', ρ1, R1', wpM_mono w2 (fun y ρ2 h b' G' H' R' s' k' => h b' G' H' R' ((s1.trans s1').trans s') k') fun _ _ x => x.mono (s1.trans s1')⟩
  | false =>
   rw [if_neg Bool.false_ne_true] at w2 ⊢
   exact w2 v G1' H1 R1' (s1.trans s1') k1'.one⟩
def eIf (g : M Bool) (fa fb : M Rv) : M Rv := do
 let b ← g
 if b = true then fa else fb
def eNeg (fa : M Rv) : M Rv := do
 let r ← fa
 let d ← peek r
 match d with
 | .int i => pure (.val (.int (-i)))
 | _ => M.fail
theorem de_neg (ha : DE X W a fa) : DE X W (.UnaryOp .USub a pos) (eNeg fa) :=
 ⟨(pe_un un_neg ha.pe).weak fun σ H Q ⟨c, G, ρ, R, w⟩ => tg_step R (Same.refl G) w fun x ρ1 v G1 H1 R1 s1 _ k1 w1 => by
  obtain ⟨d, kd, w2⟩ := peek_wp R1 k1 (wpM_bind w1)
  cases d <;> first
   | exact w2.elim
   | (rename_i i; exact ⟨i, kd.int, w2 (.int (-i)) G1 H1 R1 s1 rfl⟩)⟩
end
end Dl
namespace Dl
open PySem L2
section
variable {K : PySem.W.Frag} {c : Cn} {G G' H H' : Hp} {σ : L2.St} {ρ ρ' : List S} {v : V} {d : D} {r : Rv} {rs : List Rv} {vs : List V}
theorem RpRs.vals : ∀ {ds : List D} {vs : List V}, RpL K G ds vs → RpRs K G σ vs (ds.map Rv.val)
 | [], _, h => by cases h; trivial
 | d :: ds, _, ⟨x, r, h1, h2, h3⟩ => by subst h1; exact ⟨h2, RpRs.vals h3⟩
theorem RpRs.append : ∀ {vs ws : List V} {rs qs : List Rv}, RpRs K G σ vs rs → RpRs K G σ ws qs → RpRs K G σ (vs ++ ws) (rs ++ qs)
 | [], ws, [], qs, _, k => k
 | v :: vs, ws, r :: rs, qs, h, k => let ⟨h1, h2⟩ := h.head; RpRs.cons h1 (h2.append k)
 | [], _, _ :: _, _, h, _ => h.elim
 | _ :: _, _, [], _, h, _ => h.elim
end
section
variable {X : Cx} {W : WX} {a b e : Expr} {es : List Expr} {fa fb : M Rv} {ga : M (List Rv)} {pos p : Pos}
def eTup (ga : M (List Rv)) : M Rv := do
 let rs ← ga
 let ds ← toVs rs
 if ds.length ≤ sizeLine then pure (.val (.tup ds)) else M.fail
def eLst (ga : M (List Rv)) : M Rv := do
 let rs ← ga
 let ds ← toVs rs
 if ds.length ≤ sizeLine then pure (.own (.lst ds)) else M.fail
theorem de_tup {k} (ha : DA X W es ga) : DE X W (.Tuple es k pos) (eTup ga) :=
 ⟨(pe_tup ha.pa).weak fun σ H Q ⟨c, G, ρ, R, w⟩ => tg_step R (Same.refl G) w fun rs ρ1 vs G1 H1 R1 s1 _ k1 w1 => by
  obtain ⟨ds, G2, ρ2, s2, R2, k2, w2⟩ := toVs_wp R1 k1 (wpM_bind w1)
  by_cases hl : ds.length ≤ sizeLine
  · rw [if_pos hl] at w2
    refine ⟨by rw [k2.length]; exact hl, fun p hp => ?_⟩
    obtain ⟨G3, s3, R3, k3⟩ := R2.new_tup hp k2
    exact w2 _ G3 _ R3 ((s1.trans s2).trans s3) k3
  · rw [if_neg hl] at w2; exact w2.elim⟩
theorem de_lst (ha : DA X W es ga) : DE X W (.List es pos) (eLst ga) :=
 ⟨(pe_lst ha.pa).weak fun σ H Q ⟨c, G, ρ, R, w⟩ => tg_step R (Same.refl G) w fun rs ρ1 vs G1 H1 R1 s1 _ k1 w1 => by
  obtain ⟨ds, G2, ρ2, s2, R2, k2, w2⟩ := toVs_wp R1 k1 (wpM_bind w1)
  by_cases hl : ds.length ≤ sizeLine
  · rw [if_pos hl] at w2
    refine ⟨by rw [k2.length]; exact hl, fun p hp => ?_⟩
    obtain ⟨R3, k3⟩ := R2.new_own hp k2
    exact w2 _ G2 _ R3 (s1.trans s2) k3
  · rw [if_neg hl] at w2; exact w2.elim⟩
def aStar (f : M Rv) (g : M (List Rv)) : M (List Rv) := do
 let r ← f
 let d ← peek r
 match items d with
 | some ds => do
  let rs ← g
  pure (ds.map Rv.val ++ rs)
 | none => M.fail
theorem da_star {f : M Rv} {g : M (List Rv)} (he : DE X W e f) (hr : DA X W es g) (hs : starEach (.Starred e p :: es) X.env = (true, eval e X.env) :: starEach es X.env := by rfl) : DA X W (.Starred e p :: es) (aStar f g) :=
 ⟨(StX.pa_star he.pe hr.pa hs).weak fun σ H Q ⟨c, G, ρ, R, w⟩ => tg_step R (Same.refl G) w fun r ρ1 v G1 H1 R1 s1 _ k w1 => by
  obtain ⟨d, kd, w2⟩ := peek_wp R1 k (wpM_bind w1)
  have go : ∀ (a : Addr) (xs : List V) (ds : List D), (SqT X.K H1 a xs ∨ SqL X.K H1 a xs) → RpL X.K G1 ds xs → items d = some ds → v = .ref a →
    ∃ p xs, v = V.ref p ∧ (SqT X.K H1 p xs ∨ SqL X.K H1 p xs) ∧ tDA X.K W g σ H1 fun ys H2 => Q (xs ++ ys) H2 := fun a xs ds h1 h2 h3 h4 => by
   rw [h3] at w2
   refine ⟨a, xs, h4, h1, ?_⟩
   exact tg_step R1 s1 w2 fun rs ρ2 vs G2 H2 R2 s2 s12 k2 w3 => w3 (xs ++ vs) G2 H2 R2 s2 (RpRs.append (RpRs.vals (h2.mono s12)) k2)
  cases d with
  | lst ds =>
   obtain ⟨a, xs, h1, h2, h3⟩ := kd.lst R1.gh
   exact go a xs ds (.inr (.inl (.inl h2))) h3 rfl h1
  | tup ds =>
   obtain ⟨a, xs, h1, _, h2, h3⟩ := kd.tup R1.gh
   exact go a xs ds (.inl h2) h3 rfl h1
  | brw ds =>
   obtain ⟨a, xs, h1, _, h2, h3⟩ := kd.brw R1.gh
   exact go a xs ds (.inr h2) h3 rfl h1
  | _ => exact w2.elim⟩
end
def CalR (K : PySem.W.Frag) (r : List V → Hp → VK → Prop) (g : List D → Option Rv) : Prop := ∀ {c : Cn} {G H : Hp} {σ : L2.St} {ρ : List S} {vs : List V} {ds : List D} {q : Rv} {Q : VK}, Rst K c G H σ ρ → RhL K c G H ds vs → g ds = some q →
 (∀ z G' H', Rst K c G' H' σ ρ → Same G G' → RpR K c G' H' σ ρ z q → Q z H') → r vs H Q
def eB (g : List D → Option Rv) (ga : M (List Rv)) : M Rv := do
 let rs ← ga
 let ds ← peeks rs
 ofO (g ds)
theorem CalR.or {K : PySem.W.Frag} {r r' : List V → Hp → VK → Prop} {g g' : List D → Option Rv} (h : CalR K r g) (h' : CalR K r' g') : CalR K (fun xs H Q => r xs H Q ∨ r' xs H Q) (fun ds => (g ds).or (g' ds)) := fun {c G H σ ρ vs ds q Q} R kd eq k => by
 have eq : (g ds).or (g' ds) = some q := eq
 cases z : g ds with
 | some q' => rw [z, Option.some_or] at eq; cases eq; exact .inl (h R kd z k)
 | none => rw [z, Option.none_or] at eq; exact .inr (h' R kd eq k)
theorem CallR.or {X : Cx} {f : Value} {r r' : List V → Hp → VK → Prop} (h : CallR X f r) (h' : CallR X f r') : CallR X f (fun xs H Q => r xs H Q ∨ r' xs H Q) := fun pins s σ H xs us Q I rx q => by
 rcases q with q | q
 · exact h pins s σ H xs us Q I rx q
 · exact h' pins s σ H xs us Q I rx q
theorem RhL.one {K : PySem.W.Frag} {c : Cn} {G H : Hp} {d : D} {vs : List V} (h : RhL K c G H [d] vs) : ∃ v, vs = [v] ∧ Rh K c G H d v := by
 obtain ⟨v, r, h1, h2, h3⟩ := h
 cases h3
 exact ⟨v, h1, h2⟩
theorem RhL.two {K : PySem.W.Frag} {c : Cn} {G H : Hp} {d e : D} {vs : List V} (h : RhL K c G H [d, e] vs) : ∃ v w, vs = [v, w] ∧ Rh K c G H d v ∧ Rh K c G H e w := by
 obtain ⟨v, r, h1, h2, h3⟩ := h
 obtain ⟨w, rfl, h4⟩ := h3.one
 exact ⟨v, w, h1, h2, h4⟩
section
variable {X : Cx} {W : WX} {x : Str} {e : Expr} {es : List Expr} {ga : M (List Rv)} {pos p : Pos} {id T : String} {r : List V → Hp → VK → Prop} {g : List D → Option Rv}
theorem tD_call {σ : L2.St} {H : Hp} {Q : VK} (hg : CalR X.K r g) (h : tD X.K W (eB g ga) σ H Q) : tCB r (tDA X.K W ga) σ H Q := by
 obtain ⟨c, G, ρ, R, w⟩ := h
 refine tg_step R (Same.refl G) w fun rs ρ1 vs G1 H1 R1 s1 _ k1 w1 => ?_
 obtain ⟨ds, kd, w2⟩ := peeks_wp R1 k1 (wpM_bind w1)
 obtain ⟨q, eq, w3⟩ := ofO_wp w2
 exact hg R1 kd eq fun z G' H' R' s' kz => w3 z G' H' R' (s1.trans s') kz
theorem de_B (hc : CallR X (.builtin id) r) (hq : CalR X.K r g) (hg : Gl X x) (hm : X.mg x = none) (hv : bootBuiltins x = some (.builtin id)) (ha : DA X W (e :: es) ga) (hn : x ≠ "__name__" := by decide) (hdb : (x == ("__debug__" : Str)) = false := by decide)
  (he : starEach (e :: es) X.env = (false, eval e X.env) :: starEach es X.env := by rfl) (hpl : (backTo pos (starEach es X.env)).any (·.1) = false := by rfl) : DE X W (.Call (.Name x p) (e :: es) [] pos) (eB g ga) :=
 ⟨(pe_callB hc hg hm hv ha.pa hn hdb he hpl).weak fun _ _ _ h => tD_call hq h⟩
theorem de_Ty (hc : CallR X (.type T) r) (hq : CalR X.K r g) (hg : Gl X x) (hm : X.mg x = none) (hv : bootBuiltins x = some (.type T)) (ha : DA X W (e :: es) ga) (hn : x ≠ "__name__" := by decide) (hdb : (x == ("__debug__" : Str)) = false := by decide)
  (he : starEach (e :: es) X.env = (false, eval e X.env) :: starEach es X.env := by rfl) (hpl : (backTo pos (starEach es X.env)).any (·.1) = false := by rfl) : DE X W (.Call (.Name x p) (e :: es) [] pos) (eB g ga) :=
 ⟨(pe_callTy hc hg hm hv ha.pa hn hdb he hpl).weak fun _ _ _ h => tD_call hq h⟩
end
def gLen : List D → Option Rv
 | [.lst xs] => some (.val (.int xs.length))
 | [.tup xs] => some (.val (.int xs.length))
 | [.scr xs] => some (.val (.int xs.length))
 | [.str x] => if x.length ≤ sizeLine then some (.val (.int x.length)) else none
 | [.brw xs] => some (.val (.int xs.length))
 | _ => none
theorem len_ok {K : PySem.W.Frag} : CalR K (fun xs H Q => ∃ x n, xs = [x] ∧ LenV K x H n ∧ Q (.int n) H) gLen := fun {c G H σ ρ vs ds q Q} R kd eq k => by
 unfold gLen at eq
 split at eq
 · cases eq
   obtain ⟨v, rfl, kv⟩ := kd.one
   obtain ⟨a, xs, rfl, h2, h3⟩ := kv.lst R.gh
   exact ⟨_, xs.length, rfl, .inl ⟨xs, .inl (.inl h2), rfl⟩, k _ G H R (Same.refl G) (by rw [h3.length]; rfl)⟩
 · cases eq
   obtain ⟨v, rfl, kv⟩ := kd.one
   obtain ⟨a, xs, rfl, _, h2, h3⟩ := kv.tup R.gh
   exact ⟨_, xs.length, rfl, .inr ⟨xs, h2, rfl⟩, k _ G H R (Same.refl G) (by rw [h3.length]; rfl)⟩
 · cases eq
   rename_i ns
   obtain ⟨v, rfl, kv⟩ := kd.one
   obtain ⟨a, rfl, h2⟩ := kv.scr R.gh
   exact ⟨_, _, rfl, .inl ⟨_, h2, rfl⟩, k _ G H R (Same.refl G) (by rw [List.length_map]; rfl)⟩
 · split at eq
   · cases eq
     rename_i hl
     obtain ⟨v, rfl, kv⟩ := kd.one
     have e := kv.str
     subst e
     exact ⟨_, _, rfl, ⟨hl, rfl⟩, k _ G H R (Same.refl G) rfl⟩
   · cases eq
 · cases eq
   obtain ⟨v, rfl, kv⟩ := kd.one
   obtain ⟨a, xs, rfl, _, h2, h3⟩ := kv.brw R.gh
   exact ⟨_, xs.length, rfl, .inl ⟨xs, h2, rfl⟩, k _ G H R (Same.refl G) (by rw [h3.length]; rfl)⟩
 · cases eq
def gInt : List D → Option Rv
 | [.int i] => some (.val (.int i))
 | [.bl b] => some (.val (.int (if b then 1 else 0)))
 | _ => none
theorem int_ok {K : PySem.W.Frag} : CalR K (fun xs H Q => (∃ i, xs = [.int i] ∧ Q (.int i) H) ∨ ∃ k, xs = [.bl k] ∧ Q (.int (if k then 1 else 0)) H) gInt := fun {c G H σ ρ vs ds q Q} R kd eq k => by
 unfold gInt at eq
 split at eq
 · cases eq
   obtain ⟨v, rfl, kv⟩ := kd.one
   have e := kv.int
   subst e
   exact .inl ⟨_, rfl, k _ G H R (Same.refl G) rfl⟩
 · cases eq
   obtain ⟨v, rfl, kv⟩ := kd.one
   have e := kv.bl
   subst e
   exact .inr ⟨_, rfl, k _ G H R (Same.refl G) rfl⟩
 · cases eq
def gMax2 : List D → Option Rv
 | [.int i, .int j] => some (.val (.int (if j > i then j else i)))
 | _ => none
def gMin2 : List D → Option Rv
 | [.int i, .int j] => some (.val (.int (if j < i then j else i)))
 | _ => none
theorem max2_ok {K : PySem.W.Frag} : CalR K (fun xs H Q => ∃ i j, xs = [.int i, .int j] ∧ Q (.int (if j > i then j else i)) H) gMax2 := fun {c G H σ ρ vs ds q Q} R kd eq k => by
 unfold gMax2 at eq
 split at eq
 · cases eq
   obtain ⟨v, w, rfl, kv, kw⟩ := kd.two
   have e := kv.int
   have e2 := kw.int
   subst e e2
   exact ⟨_, _, rfl, k _ G H R (Same.refl G) rfl⟩
 · cases eq
def gList : List D → Option Rv
 | [.lst xs] => some (.own (.lst xs))
 | [.tup xs] => some (.own (.lst xs))
 | [.brw xs] => some (.own (.lst xs))
 | _ => none
theorem list_ok {K : PySem.W.Frag} : CalR K (fun xs H Q => ∃ p ys, xs = [.ref p] ∧ (SqL K H p ys ∨ SqT K H p ys) ∧ ∀ l, H l = none → Q (.ref l) (upd H l (.lst ys))) gList := fun {c G H σ ρ vs ds q Q} R kd eq k => by
 unfold gList at eq
 split at eq
 · cases eq
   obtain ⟨v, rfl, kv⟩ := kd.one
   obtain ⟨a, xs, rfl, h2, h3⟩ := kv.lst R.gh
   refine ⟨a, xs, rfl, .inl (.inl (.inl h2)), fun l hl => ?_⟩
   obtain ⟨R', kk⟩ := R.new_own hl h3
   exact k _ G _ R' (Same.refl G) kk
 · cases eq
   obtain ⟨v, rfl, kv⟩ := kd.one
   obtain ⟨a, xs, rfl, _, h2, h3⟩ := kv.tup R.gh
   refine ⟨a, xs, rfl, .inr h2, fun l hl => ?_⟩
   obtain ⟨R', kk⟩ := R.new_own hl h3
   exact k _ G _ R' (Same.refl G) kk
 · cases eq
   obtain ⟨v, rfl, kv⟩ := kd.one
   obtain ⟨a, xs, rfl, _, h2, h3⟩ := kv.brw R.gh
   refine ⟨a, xs, rfl, .inl h2, fun l hl => ?_⟩
   obtain ⟨R', kk⟩ := R.new_own hl h3
   exact k _ G _ R' (Same.refl G) kk
 · cases eq
def gTuple : List D → Option Rv
 | [.lst xs] => some (.val (.tup xs))
 | [.tup xs] => some (.val (.tup xs))
 | [.brw xs] => some (.val (.tup xs))
 | _ => none
theorem tuple_ok {K : PySem.W.Frag} : CalR K (fun xs H Q => ∃ p ys, xs = [.ref p] ∧ ((SqL K H p ys ∧ ∀ l, H l = none → Q (.ref l) (upd H l (.tup ys))) ∨ (SqT K H p ys ∧ Q (.ref p) H))) gTuple := fun {c G H σ ρ vs ds q Q} R kd eq k => by
 unfold gTuple at eq
 split at eq
 · cases eq
   obtain ⟨v, rfl, kv⟩ := kd.one
   obtain ⟨a, xs, rfl, h2, h3⟩ := kv.lst R.gh
   refine ⟨a, xs, rfl, .inl ⟨.inl (.inl h2), fun l hl => ?_⟩⟩
   obtain ⟨G', s, R', kk⟩ := R.new_tup hl h3
   exact k _ G' _ R' s kk
 · cases eq
   obtain ⟨v, rfl, kv⟩ := kd.one
   obtain ⟨a, xs, rfl, h1, h2, h3⟩ := kv.tup R.gh
   exact ⟨a, xs, rfl, .inr ⟨h2, k _ G H R (Same.refl G) ⟨a, xs, rfl, h1, h3⟩⟩⟩
 · cases eq
   obtain ⟨v, rfl, kv⟩ := kd.one
   obtain ⟨a, xs, rfl, _, h2, h3⟩ := kv.brw R.gh
   refine ⟨a, xs, rfl, .inl ⟨h2, fun l hl => ?_⟩⟩
   obtain ⟨G', s, R', kk⟩ := R.new_tup hl h3
   exact k _ G' _ R' s kk
 · cases eq
def asInts : List D → Option (List Int)
 | [] => some []
 | .int i :: ds => (asInts ds).map (i :: ·)
 | _ :: _ => none
theorem asInts_map (ns : List Int) : asInts (ns.map D.int) = some ns := by
 induction ns with
 | nil => rfl
 | cons n ns ih => rw [List.map_cons]; show (asInts (ns.map D.int)).map _ = _; rw [ih]; rfl
theorem asInts_eq : ∀ {ds : List D} {ns : List Int}, asInts ds = some ns → ds = ns.map D.int
 | [], _, h => by cases h; rfl
 | d :: ds, ns, h => by
  cases d <;> first
   | (rename_i i
      obtain ⟨ms, h1, h2⟩ := Option.map_eq_some_iff.mp (show (asInts ds).map (i :: ·) = some ns from h)
      subst h2
      rw [asInts_eq h1]; rfl)
   | cases h
def asBools : List D → Option (List Bool)
 | [] => some []
 | .bl i :: ds => (asBools ds).map (i :: ·)
 | _ :: _ => none
theorem asBools_map (ns : List Bool) : asBools (ns.map D.bl) = some ns := by
 induction ns with
 | nil => rfl
 | cons n ns ih => rw [List.map_cons]; show (asBools (ns.map D.bl)).map _ = _; rw [ih]; rfl
def gI1 (f : List Int → Option Rv) : List D → Option Rv
 | [.lst ds] => (asInts ds).bind f
 | _ => none
theorem gI1_ok {K : PySem.W.Frag} {r : List V → Hp → VK → Prop} {f : List Int → Option Rv}
  (h : ∀ {c : Cn} {G H : Hp} {σ : L2.St} {ρ : List S} {a : Addr} {ns : List Int} {q : Rv} {Q : VK}, Rst K c G H σ ρ → SqL K H a (ns.map V.int) → f ns = some q → (∀ z G' H', Rst K c G' H' σ ρ → Same G G' → RpR K c G' H' σ ρ z q → Q z H') → r [.ref a] H Q) : CalR K r (gI1 f) := fun {c G H σ ρ vs ds q Q} R kd eq k => by
 unfold gI1 at eq
 split at eq
 · obtain ⟨ns, e1, e2⟩ := Option.bind_eq_some_iff.mp eq
   have e3 := asInts_eq e1
   subst e3
   obtain ⟨v, rfl, kv⟩ := kd.one
   obtain ⟨a, xs, rfl, h2, h3⟩ := kv.lst R.gh
   have e4 := h3.of_ints
   subst e4
   exact h R (.inl (.inl h2)) e2 k
 · cases eq
def lMax : List Int → Option Int
 | [] => none
 | n :: ns => some (ns.foldl (fun a b => if b > a then b else a) n)
def lMin : List Int → Option Int
 | [] => none
 | n :: ns => some (ns.foldl (fun a b => if b < a then b else a) n)
def gMaxL : List D → Option Rv := gI1 fun ns => (lMax ns).map fun m => .val (.int m)
def gMinL : List D → Option Rv := gI1 fun ns => (lMin ns).map fun m => .val (.int m)
def gSum : List D → Option Rv := gI1 fun ns => some (.val (.int ns.sum))
def sortI (ns : List Int) : List Int := ns.mergeSort (fun a b => decide (a ≤ b))
theorem sortI_perm (ns : List Int) : (sortI ns).Perm ns := List.mergeSort_perm ns _
theorem sortI_sorted (ns : List Int) : (sortI ns).Pairwise (· ≤ ·) := by
 have h := List.pairwise_mergeSort (le := fun a b : Int => decide (a ≤ b)) (fun a b c h1 h2 => by simp at *; omega) (fun a b => by simp; omega) ns
 exact h.imp fun h => by simpa using h
theorem sortI_of {ns ms : List Int} (h : ms.Perm ns) (s : ms.Pairwise (· ≤ ·)) : ms = sortI ns := PySem.W.ksm_same (h.trans (sortI_perm ns).symm) s (sortI_sorted ns)
def gSorted : List D → Option Rv := gI1 fun ns => some (.own (.lst ((sortI ns).map .int)))
theorem sorted_ok {K : PySem.W.Frag} : CalR K (rSortedI K) gSorted := gI1_ok fun {c G H σ ρ a ns q Q} R hs eq k => by
 cases eq
 refine ⟨a, ns, rfl, hs, fun ns' p hp ho hn => ?_⟩
 have e := sortI_of hp ho
 subst e
 obtain ⟨R', kk⟩ := R.new_own hn (RpL.ints (K := K) (G := G) (ns := sortI ns))
 exact k _ G _ R' (Same.refl G) kk
def gB1 (f : List Bool → Option Rv) : List D → Option Rv
 | [.lst ds] => (asBools ds).bind f
 | _ => none
def gAll : List D → Option Rv := gB1 fun ns => some (.val (.bl (ns.all id)))
def gAny : List D → Option Rv := gB1 fun ns => some (.val (.bl (ns.any id)))
def tyNm : D → Option String
 | .non => some "NoneType"
 | .bl _ => some "bool"
 | .int _ => some "int"
 | .str _ => some "str"
 | .lst _ => some "list"
 | .tup _ => some "tuple"
 | .dic _ _ => some "dict"
 | _ => none
def isTab : List (String × String × Bool) :=
 [("int", "int", true), ("bool", "bool", true), ("bool", "int", true), ("list", "list", true), ("tuple", "tuple", true), ("str", "str", true),
  ("int", "bool", false), ("int", "tuple", false), ("int", "list", false), ("int", "str", false),
  ("bool", "tuple", false), ("bool", "list", false), ("bool", "str", false),
  ("NoneType", "int", false), ("NoneType", "bool", false), ("NoneType", "list", false), ("NoneType", "tuple", false), ("NoneType", "str", false),
  ("list", "int", false), ("list", "bool", false), ("list", "tuple", false), ("list", "str", false),
  ("tuple", "int", false), ("tuple", "bool", false), ("tuple", "list", false), ("tuple", "str", false),
  ("str", "int", false), ("str", "bool", false), ("str", "list", false), ("str", "tuple", false)]
def isLook (a t : String) : Option Bool := (isTab.find? fun p => p.1 == a && p.2.1 == t).map fun p => p.2.2
theorem isTab_ok : ∀ p ∈ isTab, kitB p.1 p.2.1 = some p.2.2 := by decide +kernel
theorem isLook_ok {a t : String} {b : Bool} (h : isLook a t = some b) : kitB a t = some b := by
 obtain ⟨p, h1, h2⟩ := Option.map_eq_some_iff.mp h
 have h3 := List.find?_some h1
 have h4 := isTab_ok p (List.mem_of_find?_eq_some h1)
 simp only [Bool.and_eq_true, beq_iff_eq] at h3
 rw [h3.1, h3.2, h2] at h4
 exact h4
def gIsi : List D → Option Rv
 | [d, .ty t] => ((tyNm d).bind fun a => isLook a t).map fun b => .val (.bl b)
 | _ => none
theorem tyX_of {K : PySem.W.Frag} {c : Cn} {G H : Hp} {d : D} {v : V} {n : String} (s : Same G H) (h : Rh K c G H d v) (e : tyNm d = some n) : TyX K H v (.type n) := by
 cases d with
 | non => cases e; rw [h.non]; exact .base .non
 | bl k => cases e; rw [h.bl]; exact .base (.bl k)
 | int i => cases e; rw [h.int]; exact .base (.int i)
 | str i => cases e; rw [h.str]; exact .base (.str i)
 | lst ds => cases e; obtain ⟨a, xs, rfl, h2, _⟩ := h.lst s; exact .base (.lst h2)
 | tup ds =>
  cases e
  obtain ⟨a, xs, rfl, _, h2, _⟩ := h.tup s
  rcases h2 with (h2 | ⟨o, h2⟩) | ⟨o, its, n, h2, h3, _⟩
  · exact .base (.tup h2)
  · exact .fTuple h2
  · exact .kTuple h2 h3
 | dic ks vs => cases e; obtain ⟨a, xs, rfl, h2, _⟩ := h.dic s; exact .base (.dK h2)
 | _ => cases e
theorem isi_ok {K : PySem.W.Frag} : CalR K (rIsi K) gIsi := fun {c G H σ ρ vs ds q Q} R kd eq k => by
 unfold gIsi at eq
 split at eq
 · rename_i d t
   obtain ⟨b, e1, e2⟩ := Option.map_eq_some_iff.mp eq
   obtain ⟨a, e3, e4⟩ := Option.bind_eq_some_iff.mp e1
   subst e2
   obtain ⟨v, w, rfl, kv, kw⟩ := kd.two
   have ew := kw.ty
   subst ew
   exact ⟨v, .ty t, .type a, .type t, b, rfl, .ty t, tyX_of R.gh kv e3, kit_ty (isLook_ok e4), k _ G H R (Same.refl G) rfl⟩
 · cases eq
theorem atI_map {α β : Type} (f : α → β) (xs : List α) (i : Int) : atI (xs.map f) i = (atI xs i).map f := by
 unfold atI
 rw [List.length_map]
 cases ixN xs.length i with
 | none => rfl
 | some j => show (xs.map f)[j]? = (xs[j]?).map f; rw [List.getElem?_map]
theorem RpL.at {K : PySem.W.Frag} {G : Hp} {ds : List D} {xs : List V} {i : Int} {d : D} (h : RpL K G ds xs) (e : atI ds i = some d) : ∃ v, atI xs i = some v ∧ Rp K G d v := by
 unfold atI at e ⊢
 rw [h.length]
 obtain ⟨j, e1, e2⟩ := Option.bind_eq_some_iff.mp e
 obtain ⟨v, h1, h2⟩ := h.get e2
 exact ⟨v, by rw [e1]; exact h1, h2⟩
def dIx : D → D → Option Rv
 | .lst xs, .int i => (atI xs i).map .val
 | .tup xs, .int i => (atI xs i).map .val
 | .scr ns, .int i => (atI ns i).map fun n => .val (.int n)
 | .str z, .int i => if z.length ≤ sizeLine then (atI z.cps.toList i).map fun c => .val (.str ⟨#[c]⟩) else none
 | .brw xs, .int i => (atI xs i).map .val
 | _, _ => none
theorem ix_ok {K : PySem.W.Frag} : BinR K (rIx K) dIx := fun {c G H σ ρ v w d e q Q} R kd ke eq k => by
 unfold dIx at eq
 split at eq
 · rename_i ds i
   obtain ⟨d, e1, e2⟩ := Option.map_eq_some_iff.mp eq
   obtain ⟨a, xs, rfl, h2, h3⟩ := kd.lst R.gh
   obtain ⟨u, h4, h5⟩ := h3.at e1
   subst e2
   exact .inl ⟨a, xs, i, u, rfl, ke.int, .inl (.inl h2), h4, k _ G H R (Same.refl G) h5⟩
 · rename_i ds i
   obtain ⟨d, e1, e2⟩ := Option.map_eq_some_iff.mp eq
   obtain ⟨a, xs, rfl, _, h2, h3⟩ := kd.tup R.gh
   obtain ⟨u, h4, h5⟩ := h3.at e1
   subst e2
   exact .inr (.inl ⟨a, xs, i, u, rfl, ke.int, h2, h4, k _ G H R (Same.refl G) h5⟩)
 · rename_i ns i
   obtain ⟨n, e1, e2⟩ := Option.map_eq_some_iff.mp eq
   obtain ⟨a, rfl, h2⟩ := kd.scr R.gh
   subst e2
   exact .inl ⟨a, _, i, .int n, rfl, ke.int, h2, by rw [atI_map, e1]; rfl, k _ G H R (Same.refl G) rfl⟩
 · rename_i z i
   split at eq
   · rename_i hl
     obtain ⟨n, e1, e2⟩ := Option.map_eq_some_iff.mp eq
     subst e2
     exact .inr (.inr ⟨z, i, n, kd.str, ke.int, hl, e1, k _ G H R (Same.refl G) rfl⟩)
   · cases eq
 · rename_i ds i
   obtain ⟨d, e1, e2⟩ := Option.map_eq_some_iff.mp eq
   obtain ⟨a, xs, rfl, _, h2, h3⟩ := kd.brw R.gh
   obtain ⟨u, h4, h5⟩ := h3.at e1
   subst e2
   exact .inl ⟨a, xs, i, u, rfl, ke.int, h2, h4, k _ G H R (Same.refl G) h5⟩
 · cases eq
section
variable {X : Cx} {W : WX} {a b e : Expr} {es : List Expr} {fa fb : M Rv} {pos p p2 : Pos}
abbrev eIx := mBin dIx
theorem de_ix (ha : DE X W a fa) (hb : DE X W b fb) (hs : PlainIx b := by exact fun _ _ => rfl) : DE X W (.Subscript a b pos) (eIx fa fb) :=
 ⟨(pe_ix ix_seq ha.pe hb.pe hs).weak fun _ _ _ h => tD_bin ix_ok h⟩
structure DO (X : Cx) (W : WX) (e : Option Expr) (f : M (Option Int)) : Prop where
 po : PO X e (tg X.K W (fun _ _ _ _ _ (b a : Option Int) => b = a) f)
theorem _root_.L2.PO.weak {X : Cx} {e : Option Expr} {t t' : TO} (h : PO X e t) (w : ∀ σ H Q, t' σ H Q → t σ H Q) : PO X e t' := ⟨fun pins s σ H Q I q => h.run pins s σ H Q I (w σ H Q q)⟩
def oNo : M (Option Int) := pure none
def oSome (f : M Rv) : M (Option Int) := do
 let r ← f
 let d ← peek r
 match d with
 | .int i => pure (some i)
 | _ => M.fail
theorem do_no : DO X W none oNo := ⟨po_none.weak fun σ H Q ⟨c, G, ρ, R, w⟩ => w none G H R (Same.refl G) rfl⟩
theorem do_some (ha : DE X W a fa) : DO X W (some a) (oSome fa) := ⟨(po_some ha.pe).weak fun σ H Q ⟨c, G, ρ, R, w⟩ => tg_step R (Same.refl G) w fun x ρ1 v G1 H1 R1 s1 _ k1 w1 => by
  obtain ⟨d, kd, w2⟩ := peek_wp R1 k1 (wpM_bind w1)
  cases d <;> first
   | exact w2.elim
   | (rename_i i; exact ⟨i, kd.int, w2 (some i) G1 H1 R1 s1 rfl⟩)⟩
def cutD {α : Type} (xs : List α) (lo hi : Option Int) : List α := (xs.drop (HT.sIx xs.length 0 lo)).take (HT.sIx xs.length xs.length hi - HT.sIx xs.length 0 lo)
def dSl (d : D) (lo hi : Option Int) : Option Rv := match d with
 | .lst xs => some (.own (.lst (cutD xs lo hi)))
 | .tup xs => some (.val (.tup (cutD xs lo hi)))
 | _ => none
def eSl (fa : M Rv) (fl fh : M (Option Int)) : M Rv := do
 let x ← fa
 let l ← fl
 let h ← fh
 let d ← peek (settle x)
 ofO (dSl d l h)
theorem RpL.cut {K : PySem.W.Frag} {G : Hp} {ds : List D} {xs : List V} (h : RpL K G ds xs) (lo hi : Option Int) : RpL K G (cutD ds lo hi) (cutV xs lo hi) := by
 unfold cutD cutV
 rw [h.length]
 exact (h.drop _).take _
theorem SlR.or {r r' : V → Option Int → Option Int → Hp → VK → Prop} (h : SlR X r) (h' : SlR X r') : SlR X (fun x l u H Q => r x l u H Q ∨ r' x l u H Q) := by
 intro pins s σ H x v vl vu lo hi sl Q I rx hs pl pu q
 rcases q with q | q
 · exact h pins s σ H x v vl vu lo hi sl Q I rx hs pl pu q
 · exact h' pins s σ H x v vl vu lo hi sl Q I rx hs pl pu q
theorem de_sl {lo hi : Option Expr} {fl fh : M (Option Int)} (ha : DE X W a fa) (hl : DO X W lo fl) (hh : DO X W hi fh) : DE X W (.Subscript a (.Slice lo hi none p2) pos) (eSl fa fl fh) :=
 ⟨(pe_slice (SlR.or sl_list sl_tupA) ha.pe hl.po hh.po).weak fun σ H Q ⟨c, G, ρ, R, w⟩ => tg_step R (Same.refl G) w fun x ρ1 v G1 H1 R1 s1 _ k1 w1 => by
  obtain ⟨G1', s1', R1', k1'⟩ := settle_ok R1 k1
  refine tg_step R1' (s1.trans s1') w1 fun l ρ2 l' G2 H2 R2 s2 s12 k2 w2 => ?_
  obtain rfl : l' = l := k2
  refine tg_step R2 s2 w2 fun h ρ3 h' G3 H3 R3 s3 s23 k3 w3 => ?_
  obtain rfl : h' = h := k3
  obtain ⟨d, kd, w4⟩ := peek_wp R3 (RpRs.one ((k1'.mono s12).mono s23)) (wpM_bind w3)
  obtain ⟨q, eq, w5⟩ := ofO_wp w4
  unfold dSl at eq
  split at eq
  · cases eq
    obtain ⟨a, xs, rfl, h2, h3⟩ := kd.lst R3.gh
    refine .inl ⟨a, xs, rfl, .inl (.inl h2), fun p hp => ?_⟩
    obtain ⟨R', kk⟩ := R3.new_own hp (h3.cut l' h')
    exact w5 _ G3 _ R' s3 kk
  · cases eq
    obtain ⟨a, xs, rfl, hg, h2, h3⟩ := kd.tup R3.gh
    refine .inr ⟨a, xs, rfl, h2, fun ⟨z1, z2⟩ => ?_, fun z p hp => ?_⟩
    · refine w5 _ G3 H3 R3 s3 ⟨a, xs, rfl, hg, ?_⟩
      have e := h3.cut l' h'
      unfold cutV at e
      rw [z1, z2, List.drop_zero, Nat.sub_zero, List.take_length] at e
      exact e
    · obtain ⟨G', s', R', kk⟩ := R3.new_tup hp (h3.cut l' h')
      exact w5 _ G' _ R' (s3.trans s') kk
  · cases eq⟩
end
end Dl
namespace Dl
open PySem L2
inductive Os where
 | nx (ρ : List S) | rt (r : Rv) (ρ : List S) | bk (ρ : List S) | ct (ρ : List S) | ex (e : Xn) (ρ : List S)
abbrev MS : Type := List S → Option Os
def Po (K : PySem.W.Frag) (c : Cn) (W : WX) (G : Hp) (Dn : Ends) : Os → Prop
 | .nx ρ' => ∀ σ' G' H', Rst K c G' H' σ' ρ' → Same G G' → Dn.nx σ' H'
 | .bk ρ' => ∀ σ' G' H', Rst K c G' H' σ' ρ' → Same G G' → Dn.bk σ' H'
 | .ct ρ' => ∀ σ' G' H', Rst K c G' H' σ' ρ' → Same G G' → Dn.ct σ' H'
 | .rt r ρ' => ∀ v σ' G' H', Rst K c G' H' σ' ρ' → Same G G' → RpR K c G' H' σ' ρ' v r → Dn.rt v H'
 | .ex e ρ' => ∀ cls d σ' G' H', Rst K c G' H' σ' ρ' → Same G G' → XAt K G' H' e cls d → W cls d σ' H'
theorem Po.mono {K : PySem.W.Frag} {c : Cn} {W : WX} {G G1 : Hp} {Dn : Ends} {o : Os} (s : Same G G1) (h : Po K c W G Dn o) : Po K c W G1 Dn o := by
 cases o with
 | nx ρ => exact fun σ' G' H' R s' => h σ' G' H' R (s.trans s')
 | bk ρ => exact fun σ' G' H' R s' => h σ' G' H' R (s.trans s')
 | ct ρ => exact fun σ' G' H' R s' => h σ' G' H' R (s.trans s')
 | rt r ρ => exact fun v σ' G' H' R s' k => h v σ' G' H' R (s.trans s') k
 | ex e ρ => exact fun cls d σ' G' H' R s' x => h cls d σ' G' H' R (s.trans s') x
def tS (K : PySem.W.Frag) (W : WX) (np : Nat) (f : MS) : TS := fun Dn σ H => ∃ c G ρ o, c.s0.length = np ∧ Rst K c G H σ ρ ∧ f ρ = some o ∧ Po K c W G Dn o
structure DS (X : Cx) (W : WX) (np : Nat) (st : Stmt) (f : MS) : Prop where
 ps : PS X st (tS X.K W np f)
structure DL (X : Cx) (W : WX) (np : Nat) (st : List Stmt) (f : MS) : Prop where
 pss : PSs X st (tS X.K W np f)
def thenS {α : Type} (f : M α) (k : α → MS) : MS := fun ρ => match f ρ with
 | some (.ok a ρ') => k a ρ'
 | some (.ex e ρ') => some (.ex e ρ')
 | none => none
theorem EXk.of_po {K : PySem.W.Frag} {c : Cn} {W : WX} {σ : L2.St} {G : Hp} {Dn : Ends} {e : Xn} {ρ : List S} (h : Po K c W G Dn (.ex e ρ)) : EXk K c W σ G e ρ := fun cls d G' H' R s x => h cls d σ G' H' R s x
theorem tS_step {α β : Type} {K : PySem.W.Frag} {W : WX} {rep : Cn → Hp → Hp → L2.St → List S → β → α → Prop} {c : Cn} {G H : Hp} {σ : L2.St} {ρ : List S} {f : M α} {k : α → MS} {Dn : Ends} {o : Os} {Q : β → Hp → Prop}
  (R : Rst K c G H σ ρ) (h : thenS f k ρ = some o) (po : Po K c W G Dn o)
  (next : ∀ a ρ1 b G1 H1, Rst K c G1 H1 σ ρ1 → Same G G1 → rep c G1 H1 σ ρ1 b a → k a ρ1 = some o → Po K c W G1 Dn o → Q b H1) : tg K W rep f σ H Q := by
 refine ⟨c, G, ρ, R, ?_⟩
 unfold thenS at h
 revert h
 cases f ρ with
 | none => exact fun h => nomatch h
 | some ot => cases ot with
  | ok a ρ1 => exact fun h b G1 H1 R1 s1 r => next a ρ1 b G1 H1 R1 s1 r h (po.mono s1)
  | ex e ρ1 => exact fun h => by cases h; exact EXk.of_po po
section
variable {X : Cx} {W : WX} {np : Nat} {a b e : Expr} {es : List Expr} {fa fb : M Rv} {ga : M Bool} {pos p p2 : Pos} {st : Stmt} {rest sts sts' : List Stmt} {f g : MS}
def sNil : MS := fun ρ => some (.nx ρ)
def sSeq (f g : MS) : MS := fun ρ => match f ρ with
 | some (.nx ρ') => g ρ'
 | o => o
theorem dl_nil : DL X W np [] sNil := ⟨pss_nil.weak fun Dn σ H ⟨c, G, ρ, o, hl, R, h, po⟩ => by cases h; exact po σ G H R (Same.refl G)⟩
theorem dl_one (h : DS X W np st f) : DL X W np [st] f := ⟨pss_one h.ps⟩
theorem dl_cons (h1 : DS X W np st f) (h2 : DL X W np rest g) : DL X W np (st :: rest) (sSeq f g) := ⟨(pss_cons h1.ps h2.pss).weak fun Dn σ H ⟨c, G, ρ, o, hl, R, h, po⟩ => by
 unfold sSeq at h
 show tS X.K W np f { Dn with nx := tS X.K W np g Dn } σ H
 cases e : f ρ with
 | none => rw [e] at h; cases h
 | some o1 =>
  rw [e] at h
  refine ⟨c, G, ρ, o1, hl, R, e, ?_⟩
  cases o1 with
  | nx ρ1 => exact fun σ' G' H' R' s' => ⟨c, G', ρ1, o, hl, R', h, po.mono s'⟩
  | _ => cases h; exact po⟩
def sPass : MS := sNil
def sBreak : MS := fun ρ => some (.bk ρ)
def sCont : MS := fun ρ => some (.ct ρ)
def sNever : MS := fun _ => none
theorem dl_never : DL X W np sts sNever := ⟨pss_never.weak fun Dn σ H ⟨c, G, ρ, o, hl, R, h, po⟩ => nomatch h⟩
def sExpr (fa : M Rv) : MS := thenS fa fun _ => sNil
theorem ds_expr (ha : DE X W e fa) (hs : swapsWith e none pos.line X.env = pure false := by rfl) : DS X W np (.Expr e pos) (sExpr fa) :=
 ⟨(ps_expr ha.pe hs).weak fun Dn σ H ⟨c, G, ρ, o, hl, R, h, po⟩ => tS_step R h po fun r ρ1 v G1 H1 R1 s1 _ h1 po1 => by cases h1; exact po1 σ G1 H1 R1 (Same.refl G1)⟩
def retV (r : Rv) : MS := fun ρ => match r with
 | .ali i => match ρ[i]? with
  | some (.val d) => some (.rt (.val d) ρ)
  | some (.own d) => some (.rt (.own d) (ρ.set i .no))
  | _ => none
 | r => some (.rt r ρ)
def sRet (fa : M Rv) : MS := thenS fa retV
def sRetN : MS := fun ρ => some (.rt (.val .non) ρ)
end
section
variable {K : PySem.W.Frag} {c : Cn} {G G' H H' : Hp} {σ : L2.St} {ρ ρ' : List S} {v : V} {d : D} {r : Rv} {rs : List Rv} {vs : List V} {i : Nat}
theorem set_cases {α : Type} {l : List α} {i j : Nat} {x y : α} (h : (l.set i x)[j]? = some y) : (j = i ∧ i < l.length ∧ y = x) ∨ (j ≠ i ∧ l[j]? = some y) := by
 by_cases hj : j = i
 · subst hj
   have hl : j < l.length := by
    have := (List.getElem?_eq_some_iff.mp h).1
    rwa [List.length_set] at this
   rw [List.getElem?_set_self hl] at h
   cases h
   exact .inl ⟨rfl, hl, rfl⟩
 · rw [List.getElem?_set_ne (Ne.symm hj)] at h
   exact .inr ⟨hj, h⟩
theorem Rst.set_no (R : Rst K c G H σ ρ) (i : Nat) : Rst K c G H σ (ρ.set i .no) where
 fh := R.fh
 gh := R.gh
 fg := R.fg
 len := by rw [List.length_set, R.len]
 val := fun j d h => by
  rcases set_cases h with ⟨_, _, e⟩ | ⟨_, h⟩
  · cases e
  · exact R.val j d h
 own := fun j d h => by
  rcases set_cases h with ⟨_, _, e⟩ | ⟨_, h⟩
  · cases e
  · exact R.own j d h
 ne := fun j k d e a h1 h2 => by
  rcases set_cases h1 with ⟨_, _, e⟩ | ⟨_, h1⟩
  · cases e
  · rcases set_cases h2 with ⟨_, _, e⟩ | ⟨_, h2⟩
    · cases e
    · exact R.ne j k d e a h1 h2
 par := fun j d h => by
  rcases set_cases h with ⟨_, _, e⟩ | ⟨_, h⟩
  · cases e
  · exact R.par j d h
theorem Rst.take_own (R : Rst K c G H σ ρ) (h : ρ[i]? = some (.own d)) (hv : σ[i]? = some (some v)) : RpR K c G H σ (ρ.set i .no) v (.own d) := by
 obtain ⟨a, h1, h2, h3, h4⟩ := R.own i d h
 rw [hv] at h1; cases h1
 refine ⟨a, rfl, h2, h3, h4, fun j e q z => ?_⟩
 rcases set_cases q with ⟨_, _, e⟩ | ⟨hj, q⟩
 · cases e
 · exact hj (R.ne j i e d a q h z hv)
theorem Rst.set_own (R : Rst K c G H σ ρ) (hr : RpR K c G H σ ρ v (.own d)) (hi : c.s0.length ≤ i) : Rst K c G H (σ.set i (some v)) (ρ.set i (.own d)) := by
 obtain ⟨a, rfl, h2, h3, h4, h5⟩ := hr
 have sig : ∀ {j : Nat} {x : Option V}, (σ.set i (some (V.ref a)))[j]? = some x → (j = i ∧ x = some (V.ref a)) ∨ (j ≠ i ∧ σ[j]? = some x) := fun {j x} q => by
  rcases set_cases q with ⟨q1, _, q2⟩ | q
  · exact .inl ⟨q1, q2⟩
  · exact .inr q
 refine ⟨R.fh, R.gh, R.fg, by rw [List.length_set, List.length_set, R.len], fun j e h => ?_, fun j e h => ?_, fun j k e f b q1 q2 r1 r2 => ?_, fun j e h hl => ?_⟩
 · rcases set_cases h with ⟨_, _, e⟩ | ⟨hj, h⟩
   · cases e
   · rw [List.getElem?_set_ne (Ne.symm hj)]; exact R.val j e h
 · rcases set_cases h with ⟨hj, hl, e⟩ | ⟨hj, h⟩
   · cases e
     subst hj
     exact ⟨a, by rw [List.getElem?_set_self (R.len ▸ hl)], h2, h3, h4⟩
   · rw [List.getElem?_set_ne (Ne.symm hj)]; exact R.own j e h
 · rcases set_cases q1 with ⟨hj, hl, e1⟩ | ⟨hj, p1⟩
   · rcases set_cases q2 with ⟨hk, hl2, e2⟩ | ⟨hk, p2⟩
     · rw [hj, hk]
     · exfalso
       subst hj
       rw [List.getElem?_set_self (R.len ▸ hl)] at r1; cases r1
       rw [List.getElem?_set_ne (Ne.symm hk)] at r2
       exact h5 k f p2 r2
   · rcases set_cases q2 with ⟨hk, hl2, e2⟩ | ⟨hk, p2⟩
     · exfalso
       subst hk
       rw [List.getElem?_set_self (R.len ▸ hl2)] at r2; cases r2
       rw [List.getElem?_set_ne (Ne.symm hj)] at r1
       exact h5 j e p1 r1
     · rw [List.getElem?_set_ne (Ne.symm hj)] at r1
       rw [List.getElem?_set_ne (Ne.symm hk)] at r2
       exact R.ne j k e f b p1 p2 r1 r2
 · rcases set_cases h with ⟨hj, hl2, e1⟩ | ⟨hj, h⟩
   · omega
   · rw [List.getElem?_set_ne (Ne.symm hj)]; exact R.par j e h hl
end
section
variable {X : Cx} {W : WX} {np : Nat} {a b e : Expr} {es : List Expr} {fa fb : M Rv} {ga : M Bool} {pos p p2 : Pos} {st : Stmt} {rest sts sts' : List Stmt} {f g : MS}
theorem ds_ret (ha : DE X W e fa) : DS X W np (.Return (some e) pos) (sRet fa) :=
 ⟨(ps_ret ha.pe).weak fun Dn σ H ⟨c, G, ρ, o, hl, R, h, po⟩ => tS_step R h po fun r ρ1 v G1 H1 R1 s1 k h1 po1 => by
  unfold retV at h1
  cases r with
  | val d => cases h1; exact po1 v σ G1 H1 R1 (Same.refl G1) k
  | own d => cases h1; exact po1 v σ G1 H1 R1 (Same.refl G1) k
  | ali i =>
   have hv : σ[i]? = some (some v) := k
   dsimp only at h1
   cases q : ρ1[i]? with
   | none => rw [q] at h1; cases h1
   | some s =>
    rw [q] at h1
    cases s with
    | no => cases h1
    | val d =>
     cases h1
     obtain ⟨w, e1, e2⟩ := R1.val i d q
     rw [hv] at e1; cases e1
     exact po1 v σ G1 H1 R1 (Same.refl G1) e2
    | own d =>
     cases h1
     exact po1 v σ G1 H1 (R1.set_no i) (Same.refl G1) (R1.take_own q hv)⟩
def setV (np i : Nat) (r : Rv) : MS := fun ρ => match r with
 | .val d => some (.nx (ρ.set i (.val d)))
 | .own d => if i < np then some (.nx (ρ.set i (.val d))) else some (.nx (ρ.set i (.own d)))
 | .ali j => match ρ[j]? with
  | some (.val d) => some (.nx (ρ.set i (.val d)))
  | some (.own d) => some (.nx ((ρ.set j (.val d)).set i (.val d)))
  | _ => none
def sSet (np i : Nat) (fa : M Rv) : MS := thenS fa (setV np i)
theorem tS_set (i : Nat) {K : PySem.W.Frag} {Dn : Ends} {σ : L2.St} {H : Hp} (h : tS K W np (sSet np i fa) Dn σ H) : tD K W fa σ H (fun v H1 => Dn.nx (σ.set i (some v)) H1) :=
 let ⟨c, G, ρ, o, hl, R, h, po⟩ := h
 tS_step R h po fun r ρ1 v G1 H1 R1 s1 k h1 po1 => by
  show Dn.nx (σ.set i (some v)) H1
  unfold setV at h1
  cases r with
  | val d => cases h1; exact po1 _ G1 H1 (R1.set_val i k) (Same.refl G1)
  | own d =>
   dsimp only at h1
   by_cases hn : i < np
   · rw [if_pos hn] at h1
     cases h1
     obtain ⟨G2, s2, R2, k2⟩ := R1.freeze_new k
     exact po1 _ G2 H1 (R2.set_val i k2) s2
   · rw [if_neg hn] at h1
     cases h1
     exact po1 _ G1 H1 (R1.set_own k (by omega)) (Same.refl G1)
  | ali j =>
   have hv : σ[j]? = some (some v) := k
   dsimp only at h1
   cases q : ρ1[j]? with
   | none => rw [q] at h1; cases h1
   | some s =>
    rw [q] at h1
    cases s with
    | no => cases h1
    | val d =>
     cases h1
     obtain ⟨w, e1, e2⟩ := R1.val j d q
     rw [hv] at e1; cases e1
     exact po1 _ G1 H1 (R1.set_val i e2) (Same.refl G1)
    | own d =>
     cases h1
     obtain ⟨w, G2, e1, s2, R2, e2⟩ := R1.freeze q
     rw [hv] at e1; cases e1
     exact po1 _ G2 H1 (R2.set_val i e2) s2
theorem ds_set (i : Nat) {x : Str} {pos' : Pos} (hN : X.N.Nodup) (ha : DE X W e fa) (hi : X.N[i]? = some x := by rfl) (hx : Loc X.env.scope x := by first | exact Or.inl rfl | exact Or.inr rfl) (hs : swapsWith e (some (.Name x pos')) pos.line X.env = pure false := by rfl)
  (hf : X.fn x = true ∨ X.env.scope.names.lookup x = some .local := by first | exact .inl rfl | exact .inr rfl | assumption) : DS X W np (.Assign [.Name x pos'] e pos) (sSet np i fa) :=
 ⟨(ps_set hN hi hx ha.pe hs hf).weak fun Dn σ H h => tS_set i h⟩
def sIf (ga : M Bool) (f g : MS) : MS := thenS ga fun b => if b = true then f else g
theorem ds_if {cc : Expr} (hc : DT X W cc ga) (h1 : DL X W np sts f) (h2 : DL X W np sts' g) : DS X W np (.If cc sts sts' pos) (sIf ga f g) :=
 ⟨(ps_if hc.pt h1.pss h2.pss).weak fun Dn σ H ⟨c, G, ρ, o, hl, R, h, po⟩ => tS_step R h po fun r ρ1 v G1 H1 R1 s1 k h1 po1 => by
  obtain rfl : v = r := k
  cases v with
  | true => rw [if_pos rfl] at h1 ⊢; exact ⟨c, G1, ρ1, o, hl, R1, h1, po1⟩
  | false => rw [if_neg Bool.false_ne_true] at h1 ⊢; exact ⟨c, G1, ρ1, o, hl, R1, h1, po1⟩⟩
def Out (ts : List Nat) (σ σ' : L2.St) : Prop := σ'.length = σ.length ∧ ∀ j, j ∉ ts → σ'[j]? = σ[j]?
theorem Out.refl {ts : List Nat} (σ : L2.St) : Out ts σ σ := ⟨rfl, fun _ _ => rfl⟩
def tDG (K : PySem.W.Frag) (ts : List Nat) (g : D → List S → Option (List S)) : TG := fun v σ H Q => ∃ c G ρ d ρ', Rst K c G H σ ρ ∧ Rp K G d v ∧ g d ρ = some ρ' ∧ ∀ σ', Rst K c G H σ' ρ' → Out ts σ σ' → Q σ' H
structure DG (X : Cx) (tg : Expr) (ts : List Nat) (g : D → List S → Option (List S)) : Prop where
 pg : PG X tg (tDG X.K ts g)
def tDGs (K : PySem.W.Frag) (ts : List Nat) (g : List D → List S → Option (List S)) : TGs := fun vs σ H Q => ∃ c G ρ ds ρ', Rst K c G H σ ρ ∧ RpL K G ds vs ∧ g ds ρ = some ρ' ∧ ∀ σ', Rst K c G H σ' ρ' → Out ts σ σ' → Q σ' H
structure DGs (X : Cx) (es : List Expr) (ts : List Nat) (g : List D → List S → Option (List S)) : Prop where
 pgs : PGs X es (tDGs X.K ts g)
theorem _root_.L2.PG.weak {tg : Expr} {t t' : TG} (h : PG X tg t) (w : ∀ v σ H Q, t' v σ H Q → t v σ H Q) : PG X tg t' := ⟨fun pins s σ H v u Q I r q => h.run pins s σ H v u Q I r (w v σ H Q q)⟩
theorem _root_.L2.PGs.weak {ts : List Expr} {t t' : TGs} (h : PGs X ts t) (w : ∀ v σ H Q, t' v σ H Q → t v σ H Q) : PGs X ts t' := ⟨fun pins s σ H v u Q I r q => h.run pins s σ H v u Q I r (w v σ H Q q)⟩
def gN (i : Nat) : D → List S → Option (List S) := fun d ρ => some (ρ.set i (.val d))
theorem dg_name (i : Nat) {x : Str} (hN : X.N.Nodup) (hi : X.N[i]? = some x := by rfl) (hx : Loc X.env.scope x := by first | exact Or.inl rfl | exact Or.inr rfl)
  (hf : X.fn x = true ∨ X.env.scope.names.lookup x = some .local := by first | exact .inl rfl | exact .inr rfl | assumption) : DG X (.Name x pos) [i] (gN i) :=
 ⟨(pg_name hN hi hx hf).weak fun v σ H Q ⟨c, G, ρ, d, ρ', R, k, e, h⟩ => by
  cases e
  exact h _ (R.set_val i k) ⟨by rw [List.length_set], fun j hj => by rw [List.getElem?_set_ne (fun z => hj (by simp [z]))]⟩⟩
def gsNil : List D → List S → Option (List S)
 | [], ρ => some ρ
 | _ :: _, _ => none
def gsCons (g : D → List S → Option (List S)) (gs : List D → List S → Option (List S)) : List D → List S → Option (List S)
 | [], _ => none
 | d :: ds, ρ => (g d ρ).bind (gs ds)
theorem dgs_nil : DGs X [] [] gsNil := ⟨pgs_nil.weak fun vs σ H Q ⟨c, G, ρ, ds, ρ', R, k, e, h⟩ => by
 cases ds with
 | nil => cases e; cases k; exact ⟨rfl, h σ R (Out.refl σ)⟩
 | cons => cases e⟩
theorem dgs_cons {t : Expr} {es : List Expr} {t1 t2 : List Nat} {g : D → List S → Option (List S)} {gs : List D → List S → Option (List S)} (h1 : DG X t t1 g) (h2 : DGs X es t2 gs)
  (hs : (assignEach (t :: es) X.env).map (·.2) = assign t X.env :: (assignEach es X.env).map (·.2) := by rfl) : DGs X (t :: es) (t1 ++ t2) (gsCons g gs) :=
 ⟨(pgs_cons h1.pg h2.pgs hs).weak fun vs σ H Q ⟨c, G, ρ, ds, ρ', R, k, e, h⟩ => by
  cases ds with
  | nil => cases e
  | cons d ds =>
   obtain ⟨v, r, rfl, k1, k2⟩ := k
   obtain ⟨ρ1, e1, e2⟩ := Option.bind_eq_some_iff.mp (show (g d ρ).bind (gs ds) = some ρ' from e)
   exact ⟨v, r, rfl, c, G, ρ, d, ρ1, R, k1, e1, fun σ1 R1 o1 => ⟨c, G, ρ1, ds, ρ', R1, k2, e2, fun σ2 R2 o2 => h σ2 R2 ⟨o2.1.trans o1.1, fun j hj => by
    rw [o2.2 j (fun z => hj (List.mem_append_right _ z)), o1.2 j (fun z => hj (List.mem_append_left _ z))]⟩⟩⟩⟩
def gT (n : Nat) (gs : List D → List S → Option (List S)) : D → List S → Option (List S)
 | .tup ds, ρ => if ds.length = n then gs ds ρ else none
 | _, _ => none
theorem dg_tup {es : List Expr} {t : List Nat} {k n : Nat} {gs : List D → List S → Option (List S)} (hc : X.calm = true) (h : DGs X es t gs) (hn : (assignEach es X.env).length = n := by rfl) (hst : (assignEach es X.env).findIdx? (·.1) = none := by rfl) : DG X (.Tuple es k pos) t (gT n gs) :=
 ⟨(pg_tup hc h.pgs hn hst).weak fun v σ H Q ⟨c, G, ρ, d, ρ', R, kd, e, h⟩ => by
  cases d <;> first
   | cases e
   | (rename_i ds
      have e : (if ds.length = n then gs ds ρ else none) = some ρ' := e
      obtain ⟨a, xs, rfl, h2, h3⟩ := kd
      split at e
      · rename_i hl
        exact ⟨a, xs, rfl, Same.seqt R.gh h2, by rw [h3.length, hl], c, G, ρ, ds, ρ', R, h3, e, h⟩
      · cases e)⟩
def asgV (g : D → List S → Option (List S)) (r : Rv) : MS := thenS (toV r) fun d ρ => (g d ρ).map .nx
def sAsg (g : D → List S → Option (List S)) (fa : M Rv) : MS := thenS fa (asgV g)
theorem thenS_wp {α : Type} {f : M α} {k : α → MS} {ρ : List S} {o : Os} (h : thenS f k ρ = some o) : wpM (f ρ) (fun a ρ' => k a ρ' = some o) (fun e ρ' => o = .ex e ρ') := by
 unfold thenS at h
 revert h
 cases f ρ with
 | none => exact fun h => nomatch h
 | some ot => cases ot with
  | ok a ρ1 => exact fun h => h
  | ex e ρ1 => exact fun h => (Option.some.inj h).symm
end
structure Walks (K : PySem.W.Frag) (G0 : Hp) (J : It) (ds : List D) : Prop where
 go : ∀ {c : Cn} {G H : Hp} {σ : L2.St} {ρ : List S} {i : Nat}, Rst K c G H σ ρ → Same G0 G → i < ds.length → J.go i H
 yld : ∀ {c : Cn} {G H H' : Hp} {σ : L2.St} {ρ : List S} {i : Nat} {x : V}, Rst K c G H σ ρ → Same G0 G → J.yld i H x H' → i < ds.length → ∃ d G', ds[i]? = some d ∧ Rst K c G' H' σ ρ ∧ Same G G' ∧ Rp K G' d x
 stop : ∀ {c : Cn} {G H : Hp} {σ : L2.St} {ρ : List S}, Rst K c G H σ ρ → Same G0 G → J.stop ds.length H
 sz : ds.length ≤ sizeLine
def tDI (K : PySem.W.Frag) (W : WX) (f : M (List D)) : TI := fun σ H R => ∃ c G ρ, Rst K c G H σ ρ ∧ wpM (f ρ) (fun ds ρ' => ∀ J G' H', Rst K c G' H' σ ρ' → Same G G' → Walks K G' J ds → R J H') (EXk K c W σ G)
structure DI (X : Cx) (W : WX) (tg iter : Expr) (f : M (List D)) : Prop where
 pi : PI X tg iter (tDI X.K W f)
theorem _root_.L2.PI.weak {X : Cx} {tg iter : Expr} {t t' : TI} (h : PI X tg iter t) (w : ∀ σ H R, t' σ H R → t σ H R) : PI X tg iter t' := ⟨fun pins s σ H R I q => h.run pins s σ H R I (w σ H R q)⟩
theorem walks_list {K : PySem.W.Frag} {G0 : Hp} {a : Addr} {xs : List V} {ds : List D} (h : G0 a = some (.lst xs)) (r : RpL K G0 ds xs) (hz : xs.length ≤ sizeLine) : Walks K G0 (Itl K a) ds where
 sz := by rw [← r.length]; exact hz
 go := fun {c G H σ ρ i} R s hi => by
  have hx : H a = some (.lst xs) := R.gh _ _ (s _ _ h)
  exact ⟨xs, xs[i]'(by rw [r.length]; exact hi), .inl (.inl hx), List.getElem?_eq_getElem _⟩
 yld := fun {c G H H' σ ρ i x} R s ⟨e, q⟩ hi => by
  have e' : H = H' := e.symm
  subst e'
  have hx : H a = some (.lst xs) := R.gh _ _ (s _ _ h)
  obtain ⟨d, q1, q2⟩ := (r.mono s).get' (q xs (.inl (.inl hx)))
  exact ⟨d, G, q1, R, Same.refl G, q2⟩
 stop := fun {c G H σ ρ} R s => ⟨xs, .inl (.inl (R.gh _ _ (s _ _ h))), by rw [r.length]; exact Nat.le_refl _⟩
theorem walks_sql {K : PySem.W.Frag} {G0 : Hp} {a : Addr} {xs : List V} {ds : List D} (h : SqL K G0 a xs) (r : RpL K G0 ds xs) (hz : xs.length ≤ sizeLine) : Walks K G0 (Itl K a) ds where
 sz := by rw [← r.length]; exact hz
 go := fun {c G H σ ρ i} R s hi => ⟨xs, xs[i]'(by rw [r.length]; exact hi), (s.trans R.gh).seq h, List.getElem?_eq_getElem _⟩
 yld := fun {c G H H' σ ρ i x} R s ⟨e, q⟩ hi => by
  have e' : H = H' := e.symm
  subst e'
  obtain ⟨d, q1, q2⟩ := (r.mono s).get' (q xs ((s.trans R.gh).seq h))
  exact ⟨d, G, q1, R, Same.refl G, q2⟩
 stop := fun {c G H σ ρ} R s => ⟨xs, (s.trans R.gh).seq h, by rw [r.length]; exact Nat.le_refl _⟩
theorem walks_tup {K : PySem.W.Frag} {G0 : Hp} {a : Addr} {xs : List V} {ds : List D} (h : SqT K G0 a xs) (r : RpL K G0 ds xs) (hz : xs.length ≤ sizeLine) : Walks K G0 (Itt K a) ds where
 sz := by rw [← r.length]; exact hz
 go := fun {c G H σ ρ i} R s hi => ⟨xs, xs[i]'(by rw [r.length]; exact hi), Same.seqt (s.trans R.gh) h, List.getElem?_eq_getElem _⟩
 yld := fun {c G H H' σ ρ i x} R s ⟨e, q⟩ hi => by
  have e' : H = H' := e.symm
  subst e'
  obtain ⟨d, q1, q2⟩ := (r.mono s).get' (q xs (Same.seqt (s.trans R.gh) h))
  exact ⟨d, G, q1, R, Same.refl G, q2⟩
 stop := fun {c G H σ ρ} R s => ⟨xs, Same.seqt (s.trans R.gh) h, by rw [r.length]; exact Nat.le_refl _⟩
def rangeD (lo : Int) (n : Nat) : List D := (List.range n).map fun (k : Nat) => D.int (lo + (k : Int))
theorem walks_range {K : PySem.W.Frag} {G0 : Hp} {lo : Int} {n : Nat} (hz : n ≤ sizeLine) : Walks K G0 (Itr lo n) (rangeD lo n) where
 sz := by simpa [rangeD] using hz
 go := fun {c G H σ ρ i} R s hi => by
  show i < n
  simpa [rangeD] using hi
 yld := fun {c G H H' σ ρ i x} R s ⟨e, q⟩ hi => by
  have e' : H = H' := Eq.symm e
  have q' : x = .int (lo + (i : Int)) := q
  subst e' q'
  have hi' : i < n := by simpa [rangeD] using hi
  exact ⟨.int (lo + (i : Int)), G, by simp [rangeD, hi'], R, Same.refl G, rfl⟩
 stop := fun {c G H σ ρ} R s => by simp [rangeD, Itr]
theorem _root_.L2.PI.or {X : Cx} {tg iter : Expr} {t t' : TI} (h : PI X tg iter t) (h' : PI X tg iter t') : PI X tg iter (fun σ H R => t σ H R ∨ t' σ H R) := ⟨fun pins s σ H R I q => by
 rcases q with q | q
 · exact h.run pins s σ H R I q
 · exact h'.run pins s σ H R I q⟩
section
variable {X : Cx} {pins : List (Addr × Obj)} {σ : L2.St} {H : Hp} {s : Shared} {tg : Expr} {R : It → Hp → Prop} {a : Addr} {xs : List V}
theorem fresh_fp (I : Inv X pins σ H s) {o : Obj} (hf : H s.heap.objs.size = none) : ∀ b ∈ [s.heap.objs.size], FpOk X pins H b := fun b hb => by
 have e : b = s.heap.objs.size := by simpa using hb
 subst e
 exact I.fpOk (Nat.le_refl _) hf
theorem list_it (I : Inv X pins σ H s) (h : SqL X.K H a xs) (q : R (Itl X.K a) H) : wpAny (model X.prog X.w) X.A (pyIter (.ref a)) (PIE X pins σ tg R) X.xe s := by
 obtain ⟨its, rv, p, hz⟩ := I.list h
 exact wpAny_pyIter_list p.isList ⟨s.heap.objs.size, [s.heap.objs.size], _, _, H, rfl, I.kept (t' := s.toks) fun b o e => Heap.get?_push_of_some _ e, turn_list a _, ⟨_, Heap.get?_push_size _ rfl, rfl, rfl⟩,
  fresh_fp I (o := default) (I.hok.fresh (Nat.le_refl _)), q⟩
theorem tup_it (I : Inv X pins σ H s) (h : SqT X.K H a xs) (q : R (Itt X.K a) H) : wpAny (model X.prog X.w) X.A (pyIter (.ref a)) (PIE X pins σ tg R) X.xe s := by
 obtain ⟨its, rv, p, hz⟩ := I.tuple h
 exact wpAny_pyIter_tuple (show s.heap.IsTuple a its.toArray from p) ⟨s.heap.objs.size, [s.heap.objs.size], _, _, H, rfl, I.kept (t' := s.toks) fun b o e => Heap.get?_push_of_some _ e, turn_tuple a _, ⟨_, Heap.get?_push_size _ rfl, rfl, rfl⟩,
  fresh_fp I (o := default) (I.hok.fresh (Nat.le_refl _)), q⟩
end
section
variable {X : Cx} {W : WX} {np : Nat} {a b e tg : Expr} {es : List Expr} {fa fb : M Rv} {ga : M (List Rv)} {pos p p2 : Pos}
def iSeq (fa : M Rv) : M (List D) := do
 let r ← fa
 let d ← toV r
 ofO (items d)
theorem lst_size {pins : List (Addr × Obj)} {σ : L2.St} {H : Hp} {s : Shared} {b : Addr} {xs : List V} (I : Inv X pins σ H s) (h : SqL X.K H b xs) : xs.length ≤ sizeLine := by
 obtain ⟨its, rv, p, hz⟩ := I.list h
 exact hz
theorem tup_size {pins : List (Addr × Obj)} {σ : L2.St} {H : Hp} {s : Shared} {b : Addr} {xs : List V} (I : Inv X pins σ H s) (h : SqT X.K H b xs) : xs.length ≤ sizeLine := by
 obtain ⟨its, rv, p, hz⟩ := I.tuple h
 exact hz
theorem di_seq (ha : DE X W a fa) : DI X W tg a (iSeq fa) := ⟨⟨fun pins s σ H R I ⟨c, G, ρ, Rs, w⟩ => by
 have h0 : tD X.K W fa σ H fun x H1 => ∃ r ρ1 G1, Rst X.K c G1 H1 σ ρ1 ∧ Same G G1 ∧ RpR X.K c G1 H1 σ ρ1 x r ∧ wpM ((do let d ← toV r; ofO (items d)) ρ1) (fun ds ρ' => ∀ J G' H', Rst X.K c G' H' σ ρ' → Same G G' → Walks X.K G' J ds → R J H') (EXk X.K c W σ G) :=
  tg_step Rs (Same.refl G) w fun r ρ1 v G1 H1 R1 s1 _ k w1 => ⟨r, ρ1, G1, R1, s1, k, w1⟩
 refine thn (ha.pe.run pins s σ H _ I h0) fun u s1 ⟨x, H1, I1, ru, r, ρ1, G1, R1, sm1, k, w1⟩ => ?_
 obtain ⟨d, G2, ρ2, s2, R2, k2, w2⟩ := toV_wp R1 k (wpM_bind w1)
 obtain ⟨ds, e1, w3⟩ := ofO_wp w2
 cases d with
 | lst zs =>
  cases e1
  obtain ⟨b, xs, rfl, h2, h3⟩ := k2
  cases ru
  have hs : SqL X.K H1 b xs := .inl (.inl (R2.gh _ _ h2))
  exact list_it I1 hs (w3 _ G2 H1 R2 (sm1.trans s2) (walks_list h2 h3 (lst_size I1 hs)))
 | tup zs =>
  cases e1
  obtain ⟨b, xs, rfl, h2, h3⟩ := k2
  cases ru
  have hs : SqT X.K H1 b xs := Same.seqt R2.gh h2
  exact tup_it I1 hs (w3 _ G2 H1 R2 (sm1.trans s2) (walks_tup h2 h3 (tup_size I1 hs)))
 | brw zs =>
  cases e1
  obtain ⟨b, xs, rfl, h2, h3⟩ := k2
  cases ru
  have hs : SqL X.K H1 b xs := R2.gh.seq h2
  exact list_it I1 hs (w3 _ G2 H1 R2 (sm1.trans s2) (walks_sql h2 h3 (lst_size I1 hs)))
 | _ => cases e1⟩⟩
end
end Dl
namespace Dl
open PySem L2
section
variable {X : Cx} {W : WX} {np : Nat} {a b e tg : Expr} {es : List Expr} {fa fb : M Rv} {ga : M (List Rv)} {pos p p2 : Pos}
def rngOk (i j : Int) : Bool := decide (-(2 ^ 61) ≤ i ∧ i < 2 ^ 61 ∧ -(2 ^ 61) ≤ j ∧ j - i ≤ 16777216)
def dRng1 : List D → Option (List D)
 | [.int j] => if rngOk 0 j = true then some (rangeD 0 j.toNat) else none
 | _ => none
def dRng2 : List D → Option (List D)
 | [.int i, .int j] => if rngOk i j = true then some (rangeD i (j - i).toNat) else none
 | _ => none
def iRng1 (ga : M (List Rv)) : M (List D) := do
 let rs ← ga
 let ds ← peeks rs
 ofO (dRng1 ds)
def iRng2 (ga : M (List Rv)) : M (List D) := do
 let rs ← ga
 let ds ← peeks rs
 ofO (dRng2 ds)
theorem di_rng1 (hg : Gl X "range") (hm : X.mg "range" = none) (ha : DA X W [a] ga) (hs : starEach [a] X.env = [(false, eval a X.env)] := by rfl) : DI X W tg (.Call (.Name "range" p) [a] [] pos) (iRng1 ga) :=
 ⟨(pi_range1 hg hm ha.pa hs).weak fun σ H R ⟨c, G, ρ, Rs, w⟩ => by
  refine tg_step Rs (Same.refl G) w fun rs ρ1 vs G1 H1 R1 s1 _ k1 w1 => ?_
  obtain ⟨ds, kd, w2⟩ := peeks_wp R1 k1 (wpM_bind w1)
  obtain ⟨q, eq, w3⟩ := ofO_wp w2
  unfold dRng1 at eq
  split at eq
  · rename_i j
    by_cases hr : rngOk 0 j = true
    · rw [if_pos hr] at eq
      cases eq
      obtain ⟨v, rfl, kv⟩ := kd.one
      obtain ⟨h1, h2, h3, h4⟩ := of_decide_eq_true (p := -(2 ^ 61) ≤ (0 : Int) ∧ (0 : Int) < 2 ^ 61 ∧ -(2 ^ 61) ≤ j ∧ j - 0 ≤ 16777216) hr
      exact ⟨j, by rw [kv.int], by omega, by omega, w3 _ G1 H1 R1 s1 (walks_range (by rw [PySem.sizeLine_eq]; omega))⟩
    · rw [if_neg hr] at eq; cases eq
  · cases eq⟩
end
def forL (tg : D → List S → Option (List S)) (body : MS) : List D → MS
 | [], ρ => some (.nx ρ)
 | d :: ds, ρ => match tg d ρ with
  | none => none
  | some ρ1 => match body ρ1 with
   | some (.nx ρ') => forL tg body ds ρ'
   | some (.ct ρ') => forL tg body ds ρ'
   | some (.bk ρ') => some (.nx ρ')
   | o => o
def sFor (it : M (List D)) (tg : D → List S → Option (List S)) (body : MS) : MS := thenS it fun ds => forL tg body ds
structure Go (X : Cx) (W : WX) : Prop where
 tk : L2N.Takes X W
 po : PassesOwn (model X.prog X.w) X.A X.env X.xe
 calm : X.calm = true
 nd : X.N.Nodup
 rm : Rm X
section
variable {X : Cx} {W : WX} {np : Nat} {a b e tg iter cc : Expr} {es : List Expr} {fa fb : M Rv} {ga : M (List Rv)} {pos p p2 : Pos} {sts : List Stmt} {it : M (List D)} {g : D → List S → Option (List S)} {body : MS}
theorem ds_for {ts : List Nat} (go : Go X W) (hi : DI X W tg iter it) (hg : DG X tg ts g) (hb : DL X W np sts body) (hs : ∀ x, foldedSetIterable iter X.env x = pure x := by intro _; rfl) : DS X W np (.For tg iter sts [] pos) (sFor it g body) :=
 ⟨(ps_for go.po go.calm hi.pi hg.pg hb.pss hs).weak fun Dn σ H ⟨c, G, ρ, o, hl, R, h, po⟩ => by
  refine ⟨c, G, ρ, R, wpM_mono (thenS_wp h) (fun ds ρ1 h1 J G1 H1 R1 s1 wk => ?_) fun e ρ1 he => by subst he; exact EXk.of_po po⟩
  have po1 := po.mono s1
  refine ⟨fun i m σ2 H2 => m = ds.length - i ∧ i ≤ ds.length ∧ ∃ G2 ρ2, Rst X.K c G2 H2 σ2 ρ2 ∧ Same G1 G2 ∧ forL g body (ds.drop i) ρ2 = some o ∧ Po X.K c W G2 Dn o,
   ⟨ds.length, by omega, Nat.zero_le _, G1, ρ1, R1, Same.refl G1, h1, po1⟩, ?_⟩
  rintro i m σ2 H2 ⟨hm, hi, G2, ρ2, R2, s2, h2, po2⟩
  by_cases hlt : i < ds.length
  · refine .inr ⟨wk.go R2 s2 hlt, fun σ' H' => (i + 1 ≤ ds.length ∧ ∃ G' ρ', Rst X.K c G' H' σ' ρ' ∧ Same G1 G' ∧ forL g body (ds.drop (i + 1)) ρ' = some o ∧ Po X.K c W G' Dn o), fun σ' H' hN => ⟨ds.length - (i + 1), by omega, rfl, hN⟩, fun x H' hy => ?_⟩
    obtain ⟨d, G3, e1, R3, s3, k3⟩ := wk.yld R2 s2 hy hlt
    have hd : ds.drop i = d :: ds.drop (i + 1) := by
     rw [List.drop_eq_getElem_cons hlt]
     rw [List.getElem?_eq_getElem hlt] at e1
     rw [Option.some.inj e1]
    rw [hd] at h2
    unfold forL at h2
    cases q : g d ρ2 with
    | none => rw [q] at h2; cases h2
    | some ρ3 =>
     rw [q] at h2
     dsimp only at h2
     refine ⟨c, G3, ρ2, d, ρ3, R3, k3, q, fun σ3 R3' _ => ?_⟩
     cases q2 : body ρ3 with
     | none => rw [q2] at h2; cases h2
     | some o3 =>
      rw [q2] at h2
      refine ⟨c, G3, ρ3, o3, hl, R3', q2, ?_⟩
      cases o3 with
      | nx ρ4 => exact fun σ4 G4 H4 R4 s4 => ⟨by omega, G4, ρ4, R4, (s2.trans s3).trans s4, h2, po2.mono (s3.trans s4)⟩
      | ct ρ4 => exact fun σ4 G4 H4 R4 s4 => ⟨by omega, G4, ρ4, R4, (s2.trans s3).trans s4, h2, po2.mono (s3.trans s4)⟩
      | bk ρ4 => cases h2; exact fun σ4 G4 H4 R4 s4 => po2 σ4 G4 H4 R4 (s3.trans s4)
      | rt r ρ4 => cases h2; exact po2.mono s3
      | ex x ρ4 => cases h2; exact po2.mono s3
  · have e0 : i = ds.length := by omega
    subst e0
    rw [List.drop_length] at h2
    cases h2
    exact .inl ⟨wk.stop R2 s2, po2 σ2 G2 H2 R2 (Same.refl G2)⟩⟩
end
def whN (g : M Bool) (body : MS) : Nat → MS
 | 0, _ => none
 | n + 1, ρ => match g ρ with
  | none => none
  | some (.ex e ρ') => some (.ex e ρ')
  | some (.ok false ρ') => some (.nx ρ')
  | some (.ok true ρ1) => match body ρ1 with
   | some (.nx ρ') => whN g body n ρ'
   | some (.ct ρ') => whN g body n ρ'
   | some (.bk ρ') => some (.nx ρ')
   | o => o
open Classical in
noncomputable def whL (g : M Bool) (body : MS) : MS := fun ρ => if h : ∃ n o, whN g body n ρ = some o then some (Classical.choose (Classical.choose_spec h)) else none
section
variable {X : Cx} {W : WX} {np : Nat} {cc : Expr} {pos : Pos} {sts : List Stmt} {g : M Bool} {body : MS}
end
end Dl
namespace Dl
open PySem L2
def Cn.with (c : Cn) (p : Addr) (o : HO) : Cn := { c with F := upd c.F p o }
section
variable {K : PySem.W.Frag} {c : Cn} {G G' H H' : Hp} {σ : L2.St} {ρ ρ' : List S} {p : Addr} {o o' : HO}
theorem Ow.fmono {K : PySem.W.Frag} {F F' G H : Hp} {a : Addr} {d : D} (hd : ∀ b, H b = some (.own a) → F b = none → F' b = none) (h : Ow K F G H a d) : Ow K F' G H a d := by
 cases d with
 | lst ds => exact h
 | obj c ns ds => obtain ⟨dx, xs, h1, h2, h3, h4, h5, hl, h6⟩ := h; exact ⟨dx, xs, h1, h2, h3, hd dx h2 h4, h5, hl, h6⟩
 | dic ks vs => exact h
 | ndi ks vs => exact h
 | _ => exact h.elim
theorem Rst.keep (R : Rst K c G H σ ρ) (hp : H p = some o) (gp : G p = none) (ho : ∀ b, o ≠ .own b) (ns : ∀ (i : Nat) (e : D), ρ[i]? = some (.own e) → σ[i]? ≠ some (some (.ref p))) : Rst K (c.with p o) G H σ ρ where
 fh := fun b u e => by
  by_cases z : b = p
  · subst z; have e : upd c.F b o b = some u := e; rw [upd_same] at e; cases e; exact hp
  · have e : upd c.F p o b = some u := e; rw [upd_ne z] at e; exact R.fh b u e
 gh := R.gh
 fg := fun b u e => by
  by_cases z : b = p
  · subst z; exact gp
  · have e : upd c.F p o b = some u := e; rw [upd_ne z] at e; exact R.fg b u e
 len := R.len
 val := R.val
 own := fun i d e => by
  obtain ⟨a, h1, h2, h3, h4⟩ := R.own i d e
  refine ⟨a, h1, h2, ?_, h4.fmono fun b hb fb => ?_⟩
  · show upd c.F p o a = none
    rw [upd_ne (fun z => by subst z; exact ns i d e h1)]; exact h3
  · show upd c.F p o b = none
    rw [upd_ne (fun z => by subst z; rw [hp] at hb; exact ho a (Option.some.inj hb))]; exact fb
 ne := R.ne
 par := R.par
theorem Rst.unkeep (R : Rst K (c.with p o) G H σ ρ) (fp : c.F p = none) : Rst K c G H σ ρ where
 fh := fun b u e => R.fh b u (by show upd c.F p o b = some u; rw [upd_ne (ne_of_none e fp)]; exact e)
 gh := R.gh
 fg := fun b u e => R.fg b u (by show upd c.F p o b = some u; rw [upd_ne (ne_of_none e fp)]; exact e)
 len := R.len
 val := R.val
 own := fun i d e => by
  obtain ⟨a, h1, h2, h3, h4⟩ := R.own i d e
  have low : ∀ b, (c.with p o).F b = none → c.F b = none := fun b hb => by
   by_cases z : b = p
   · subst z; exact fp
   · have hb : upd c.F p o b = none := hb
     rw [upd_ne z] at hb; exact hb
  exact ⟨a, h1, h2, low a h3, h4.fmono fun b _ hb => low b hb⟩
 ne := R.ne
 par := R.par
theorem Rst.store (R : Rst K (c.with p o) G H σ ρ) (ho : ∀ b, o ≠ .own b) : Rst K (c.with p o') G (upd H p o') σ ρ := by
 have hF : (c.with p o).F p = some o := upd_same
 have hp : H p = some o := R.fh _ _ hF
 have gp : G p = none := R.fg _ _ hF
 refine ⟨fun b u e => ?_, fun b u e => ?_, fun b u e => ?_, R.len, R.val, fun i d e => ?_, R.ne, R.par⟩
 · have e : upd c.F p o' b = some u := e
   by_cases z : b = p
   · subst z; rw [upd_same] at e ⊢; exact e
   · rw [upd_ne z] at e ⊢; exact R.fh b u (by show upd c.F p o b = some u; rw [upd_ne z]; exact e)
 · rw [upd_ne (ne_of_none e gp)]; exact R.gh _ _ e
 · have e : upd c.F p o' b = some u := e
   by_cases z : b = p
   · subst z; exact gp
   · rw [upd_ne z] at e; exact R.fg b u (by show upd c.F p o b = some u; rw [upd_ne z]; exact e)
 · obtain ⟨a, h1, h2, h3, h4⟩ := R.own i d e
   have na : a ≠ p := fun z => by subst z; rw [hF] at h3; cases h3
   have low : ∀ b, b ≠ p → (c.with p o).F b = none → (c.with p o').F b = none := fun b z hb => by
    have hb : upd c.F p o b = none := hb
    show upd c.F p o' b = none
    rw [upd_ne z] at hb ⊢; exact hb
   refine ⟨a, h1, h2, low a na h3, ?_⟩
   cases d with
   | lst ds => obtain ⟨xs, q1, q2⟩ := h4; exact ⟨xs, by rw [upd_ne na]; exact q1, q2⟩
   | obj cc ns ds =>
    obtain ⟨dx, xs, q1, q2, q3, q4, q5, q6, q7⟩ := h4
    have nd : dx ≠ p := fun z => by subst z; rw [hp] at q2; exact ho a (Option.some.inj q2)
    exact ⟨dx, xs, by rw [upd_ne na]; exact q1, by rw [upd_ne nd]; exact q2, q3, low dx nd q4, q5, q6, q7⟩
   | dic ks vs => obtain ⟨kvs, q1, q2, q3⟩ := h4; exact ⟨kvs, by rw [upd_ne na]; exact q1, q2, q3⟩
   | ndi ks vs => obtain ⟨kvs, q1, q2⟩ := h4; exact ⟨kvs, by rw [upd_ne na]; exact q1, q2⟩
   | _ => exact h4.elim
end
def wipeS (ρ : List S) : List Nat → List S
 | [] => ρ
 | v :: vs => (wipeS ρ vs).set v .no
def backS (ρ0 ρ : List S) : List Nat → List S
 | [] => ρ
 | v :: vs => (backS ρ0 ρ vs).set v (ρ0.getD v .no)
def isOwn : Option S → Bool
 | some (.own _) => true
 | _ => false
def noOwn (ρ : List S) (vs : List Nat) : Bool := vs.all fun v => !isOwn ρ[v]?
section
variable {K : PySem.W.Frag} {c : Cn} {G G' H H' : Hp} {σ σ2 : L2.St} {ρ ρ' ρ2 : List S}
theorem wipe_in {σ : L2.St} : ∀ {vs : List Nat} {j : Nat}, j ∉ vs → (wipe σ vs)[j]? = σ[j]?
 | [], _, _ => rfl
 | v :: vs, j, h => by
  unfold wipe
  have h2 : j ≠ v ∧ j ∉ vs := by simpa using h
  rw [List.getElem?_set_ne (Ne.symm h2.1)]
  exact wipe_in h2.2
theorem wipeS_get {ρ : List S} : ∀ {vs : List Nat} {j : Nat} {s : S}, (wipeS ρ vs)[j]? = some s → s ≠ .no → ρ[j]? = some s ∧ j ∉ vs
 | [], _, _, h, _ => ⟨h, by simp⟩
 | v :: vs, j, s, h, n => by
  unfold wipeS at h
  rcases set_cases h with ⟨_, _, e⟩ | ⟨hj, h⟩
  · exact absurd e n
  · obtain ⟨h1, h2⟩ := wipeS_get h n
    exact ⟨h1, by simp [hj, h2]⟩
theorem wipeS_length (ρ : List S) : ∀ vs : List Nat, (wipeS ρ vs).length = ρ.length
 | [] => rfl
 | v :: vs => by unfold wipeS; rw [List.length_set, wipeS_length ρ vs]
theorem backS_length (ρ0 ρ : List S) : ∀ vs : List Nat, (backS ρ0 ρ vs).length = ρ.length
 | [] => rfl
 | v :: vs => by unfold backS; rw [List.length_set, backS_length ρ0 ρ vs]
theorem backS_get {ρ0 ρ : List S} (hl : ρ0.length = ρ.length) : ∀ {vs : List Nat} {j : Nat} {s : S}, (backS ρ0 ρ vs)[j]? = some s → (j ∈ vs ∧ ρ0[j]? = some s) ∨ (j ∉ vs ∧ ρ[j]? = some s)
 | [], _, _, h => .inr ⟨by simp, h⟩
 | v :: vs, j, s, h => by
  unfold backS at h
  rcases set_cases h with ⟨e1, hv, e⟩ | ⟨hj, h⟩
  · subst e1
    refine .inl ⟨by simp, ?_⟩
    rw [backS_length] at hv
    have h0 : j < ρ0.length := by omega
    rw [e, List.getD_eq_getElem?_getD, List.getElem?_eq_getElem h0]; rfl
  · rcases backS_get hl h with ⟨h1, h2⟩ | ⟨h1, h2⟩
    · exact .inl ⟨by simp [h1], h2⟩
    · exact .inr ⟨by simp [hj, h1], h2⟩
theorem Rst.wiped (R : Rst K c G H σ ρ) (vs : List Nat) : Rst K c G H (wipe σ vs) (wipeS ρ vs) where
 fh := R.fh
 gh := R.gh
 fg := R.fg
 len := by rw [wipeS_length, wipe_length, R.len]
 val := fun i d e => by
  obtain ⟨h1, h2⟩ := wipeS_get e (by intro z; cases z)
  rw [wipe_in h2]; exact R.val i d h1
 own := fun i d e => by
  obtain ⟨h1, h2⟩ := wipeS_get e (by intro z; cases z)
  rw [wipe_in h2]; exact R.own i d h1
 ne := fun i j d e a q1 q2 r1 r2 => by
  obtain ⟨h1, h2⟩ := wipeS_get q1 (by intro z; cases z)
  obtain ⟨h3, h4⟩ := wipeS_get q2 (by intro z; cases z)
  rw [wipe_in h2] at r1
  rw [wipe_in h4] at r2
  exact R.ne i j d e a h1 h3 r1 r2
 par := fun i d e hl => by
  obtain ⟨h1, h2⟩ := wipeS_get e (by intro z; cases z)
  rw [wipe_in h2]; exact R.par i d h1 hl
theorem same_of_wipe {σ σ2 : L2.St} {vs : List Nat} (h : wipe σ2 vs = wipe σ vs) {j : Nat} (hj : j ∉ vs) : σ2[j]? = σ[j]? := by
 have h1 := wipe_in (σ := σ2) hj
 have h2 := wipe_in (σ := σ) hj
 rw [← h1, ← h2, h]
theorem Rst.backed {c0 : Cn} {G0 H0 : Hp} (R0 : Rst K c0 G0 H0 σ ρ) (s : Same G0 G) (R : Rst K c G H σ2 ρ2) {vs : List Nat} (w : wipe σ2 vs = wipe σ vs) (no : noOwn ρ vs = true) : Rst K c G H σ (backS ρ ρ2 vs) := by
 have hlen : ρ.length = ρ2.length := by
  have e := congrArg List.length w
  rw [wipe_length, wipe_length] at e
  rw [R0.len, R.len, e]
 have nown : ∀ {j : Nat} {d : D}, (backS ρ ρ2 vs)[j]? = some (.own d) → j ∉ vs ∧ ρ2[j]? = some (.own d) := fun {j d} e => by
  rcases backS_get hlen e with ⟨h1, h2⟩ | h
  · exfalso
    have := List.all_eq_true.mp no j h1
    rw [h2] at this
    cases this
  · exact h
 refine ⟨R.fh, R.gh, R.fg, ?_, fun j d e => ?_, fun j d e => ?_, fun j k d e a q1 q2 r1 r2 => ?_, fun j d e hl => ?_⟩
 · rw [backS_length, ← hlen]; exact R0.len
 · rcases backS_get hlen e with ⟨h1, h2⟩ | ⟨h1, h2⟩
   · obtain ⟨v, k1, k2⟩ := R0.val j d h2
     exact ⟨v, k1, k2.mono s⟩
   · rw [← same_of_wipe w h1]; exact R.val j d h2
 · obtain ⟨h1, h2⟩ := nown e
   rw [← same_of_wipe w h1]; exact R.own j d h2
 · obtain ⟨h1, h2⟩ := nown q1
   obtain ⟨h3, h4⟩ := nown q2
   rw [← same_of_wipe w h1] at r1
   rw [← same_of_wipe w h3] at r2
   exact R.ne j k d e a h2 h4 r1 r2
 · obtain ⟨h1, h2⟩ := nown e
   rw [← same_of_wipe w h1]; exact R.par j d h2 hl
end
def lcL (tg : D → List S → Option (List S)) (tt : M Bool) (te : M Rv) (vs : List Nat) : List D → List D → M (List D)
 | [], acc, ρ => some (.ok acc ρ)
 | d :: ds, acc, ρ => match tg d (wipeS ρ vs) with
  | none => none
  | some ρ1 => match tt ρ1 with
   | some (.ok false ρ2) => lcL tg tt te vs ds acc (backS ρ ρ2 vs)
   | some (.ok true ρ2) => match (te >>= toV) ρ2 with
    | some (.ok e ρ3) => lcL tg tt te vs ds (acc ++ [e]) (backS ρ ρ3 vs)
    | _ => none
   | _ => none
def eLc (it : M (List D)) (tg : D → List S → Option (List S)) (tt : M Bool) (te : M Rv) (vs : List Nat) : M Rv := do
 let ds ← it
 let acc ← fun ρ => if noOwn ρ vs = true then lcL tg tt te vs ds [] ρ else none
 pure (.own (.lst acc))
def tYes' : M Bool := pure true
structure DTs (X : Cx) (ifs : List Expr) (f : M Bool) : Prop where
 pts : PTs X ifs (tDT X.K WX0 f)
theorem _root_.L2.PTs.weak {X : Cx} {ifs : List Expr} {t t' : TT} (h : PTs X ifs t) (w : ∀ σ H Q, t' σ H Q → t σ H Q) : PTs X ifs t' := ⟨fun pins s σ H Q I q => h.run pins s σ H Q I (w σ H Q q)⟩
theorem dts_nil {X : Cx} : DTs X [] tYes' := ⟨pts_nil.weak fun σ H Q ⟨c, G, ρ, R, w⟩ => w true G H R (Same.refl G) rfl⟩
theorem exk0 {K : PySem.W.Frag} {c : Cn} {σ : L2.St} {G : Hp} {α : Type} {o : Option (Ot α)} {OK : α → List S → Prop} (h : ∃ a ρ, o = some (.ok a ρ) ∧ OK a ρ) : wpM o OK (EXk K c WX0 σ G) := by
 obtain ⟨a, ρ, rfl, k⟩ := h
 exact k
theorem wipe_get {σ : L2.St} : ∀ {vs : List Nat} {j : Nat}, j ∈ vs → j < σ.length → (wipe σ vs)[j]? = some none
 | v :: vs, j, h, hl => by
  unfold wipe
  by_cases e : j = v
  · subst e; rw [List.getElem?_set_self (by rw [wipe_length]; exact hl)]
  · rw [List.getElem?_set_ne (Ne.symm e)]
    exact wipe_get (by simpa [e] using h) hl
theorem wipe_ext {σ σ' : L2.St} {vs : List Nat} (hl : σ'.length = σ.length) (h : ∀ j, j ∉ vs → σ'[j]? = σ[j]?) : wipe σ' vs = wipe σ vs := by
 apply List.ext_getElem?
 intro j
 by_cases hj : j ∈ vs
 · by_cases hlt : j < σ.length
   · rw [wipe_get hj hlt, wipe_get hj (by omega)]
   · rw [List.getElem?_eq_none (by rw [wipe_length]; omega), List.getElem?_eq_none (by rw [wipe_length]; omega)]
 · rw [wipe_in hj, wipe_in hj, h j hj]
theorem wipe_out {σ σ3 : L2.St} {vs ts : List Nat} (o : Out ts (wipe σ vs) σ3) (hts : ∀ t ∈ ts, t ∈ vs) : wipe σ3 vs = wipe σ vs :=
 wipe_ext (by rw [o.1, wipe_length]) fun j hj => by rw [o.2 j (fun z => hj (hts j z)), wipe_in hj]
theorem noOwn_back {ρ ρ3 : List S} {vs : List Nat} (hl : ρ.length = ρ3.length) (h : noOwn ρ vs = true) : noOwn (backS ρ ρ3 vs) vs = true := by
 refine List.all_eq_true.mpr fun v hv => ?_
 have h1 := List.all_eq_true.mp h v hv
 cases e : (backS ρ ρ3 vs)[v]? with
 | none => rfl
 | some s =>
  rcases backS_get hl e with ⟨_, h2⟩ | ⟨h2, _⟩
  · rw [h2] at h1; exact h1
  · exact absurd hv h2
theorem lcL_ex {tg : D → List S → Option (List S)} {tt : M Bool} {te : M Rv} {vs : List Nat} : ∀ {ds acc : List D} {ρ : List S} {o : Ot (List D)}, lcL tg tt te vs ds acc ρ = some o → ∃ a ρ', o = .ok a ρ'
 | [], acc, ρ, o, h => by cases h; exact ⟨_, _, rfl⟩
 | d :: ds, acc, ρ, o, h => by
  unfold lcL at h
  split at h
  · cases h
  · split at h
    · exact lcL_ex h
    · split at h
      · exact lcL_ex h
      · cases h
    · cases h
section
variable {X : Cx} {W : WX} {elt tg iter : Expr} {ifs : List Expr} {scope : Scope} {own : List (Str × Nat)} {pos : Pos} {it : M (List D)} {g : D → List S → Option (List S)} {tt : M Bool} {te : M Rv} {ts : List Nat}
theorem tD_lc {own : List (Str × Nat)} (hts : ∀ t ∈ ts, t ∈ own.map (·.2)) {σ : L2.St} {H : Hp} {Q : VK} (h : tD X.K W (eLc it g tt te (own.map (·.2))) σ H Q) : tLc (tDI X.K W it) (tDG X.K ts g) (tDT X.K WX0 tt) (tD X.K WX0 te) (own.map (·.2)) σ H Q := by
 obtain ⟨c, G, ρ, R, w⟩ := h
 refine ⟨c, G, ρ, R, wpM_mono (wpM_bind w) (fun ds ρ1 w1 J G1 H1 R1 s1 wk => ?_) fun _ _ x => x⟩
 have w2 := wpM_bind w1
 by_cases hn : noOwn ρ1 (own.map (·.2)) = true
 · rw [if_pos hn] at w2
   intro p hp
   have fp := R1.f_none hp
   cases e : lcL g tt te (own.map (·.2)) ds [] ρ1 with
   | none => rw [e] at w2; exact w2.elim
   | some o =>
    obtain ⟨out, ρe, rfl⟩ := lcL_ex e
    rw [e] at w2
    have w3 : ∀ (b : V) (G' H' : Hp), Rst X.K c G' H' σ ρe → Same G G' → RpR X.K c G' H' σ ρe b (.own (.lst out)) → Q b H' := w2
    refine ⟨fun i m H2 => m = ds.length - i ∧ i ≤ ds.length ∧ ∃ G2 ρ2 acc accV, Rst X.K (c.with p (.lst accV)) G2 H2 σ ρ2 ∧ Same G1 G2 ∧ RpL X.K G2 acc accV ∧ acc.length ≤ i ∧ noOwn ρ2 (own.map (·.2)) = true ∧ lcL g tt te (own.map (·.2)) (ds.drop i) acc ρ2 = some (.ok out ρe),
     ⟨ds.length, by omega, Nat.zero_le _, G1, ρ1, [], [], (R1.laid hp).keep upd_same (R1.g_none hp) (fun b z => nomatch z) (R1.not_slot hp), Same.refl G1, rfl, Nat.le_refl _, hn, e⟩, ?_⟩
    rintro i m H2 ⟨hm, hi2, G2, ρ2, acc, accV, R2, s2, ka, hla, hn2, e2⟩
    by_cases hlt : i < ds.length
    · refine .inr ⟨wk.go R2 s2 hlt, fun H' => i + 1 ≤ ds.length ∧ ∃ G' ρ' acc' accV', Rst X.K (c.with p (.lst accV')) G' H' σ ρ' ∧ Same G1 G' ∧ RpL X.K G' acc' accV' ∧ acc'.length ≤ i + 1 ∧ noOwn ρ' (own.map (·.2)) = true ∧ lcL g tt te (own.map (·.2)) (ds.drop (i + 1)) acc' ρ' = some (.ok out ρe),
        fun H' hN => ⟨ds.length - (i + 1), by omega, rfl, hN⟩, fun x H' hy => ?_⟩
      obtain ⟨d, G3, e1, R3, s3, k3⟩ := wk.yld R2 s2 hy hlt
      have hd : ds.drop i = d :: ds.drop (i + 1) := by
       rw [List.drop_eq_getElem_cons hlt]
       rw [List.getElem?_eq_getElem hlt] at e1
       rw [Option.some.inj e1]
      rw [hd] at e2
      unfold lcL at e2
      cases q : g d (wipeS ρ2 (own.map (·.2))) with
      | none => rw [q] at e2; cases e2
      | some ρ3 =>
       rw [q] at e2
       dsimp only at e2
       refine ⟨c.with p (.lst accV), G3, wipeS ρ2 (own.map (·.2)), d, ρ3, R3.wiped _, k3, q, fun σ3 R3' o3 => ?_⟩
       have hw := wipe_out o3 hts
       have hlen : ρ2.length = σ3.length := by
        have z := congrArg List.length hw
        rw [wipe_length, wipe_length] at z
        rw [R2.len, z]
       refine ⟨hw, ?_⟩
       refine ⟨c.with p (.lst accV), G3, ρ3, R3', exk0 ?_⟩
       cases q2 : tt ρ3 with
       | none => rw [q2] at e2; cases e2
       | some o4 =>
        cases o4 with
        | ex x ρ4 => rw [q2] at e2; cases e2
        | ok b ρ4 =>
         rw [q2] at e2
         refine ⟨b, ρ4, rfl, fun b' G4 H4 R4 s4 eb => ?_⟩
         obtain rfl : b' = b := eb
         cases b' with
         | false =>
          rw [if_neg Bool.false_ne_true]
          dsimp only at e2
          have hl4 : ρ2.length = ρ4.length := by rw [hlen, R4.len]
          exact ⟨by omega, G4, _, acc, accV, R2.backed (s3.trans s4) R4 hw hn2, (s2.trans s3).trans s4, ka.mono (s3.trans s4), by omega, noOwn_back hl4 hn2, e2⟩
         | true =>
          rw [if_pos rfl]
          dsimp only at e2
          refine ⟨c.with p (.lst accV), G4, ρ4, R4, exk0 ?_⟩
          rw [bind_eq] at e2
          cases q3 : te ρ4 with
          | none => rw [q3] at e2; cases e2
          | some o5 =>
           cases o5 with
           | ex x ρ5 => rw [q3] at e2; cases e2
           | ok r ρ5 =>
            rw [q3] at e2
            refine ⟨r, ρ5, rfl, fun y G5 H5 R5 s5 ky => ?_⟩
            dsimp only at e2
            have tw : wpM (toV r ρ5) (fun z ρ6 => lcL g tt te (own.map (·.2)) (ds.drop (i + 1)) (acc ++ [z]) (backS ρ2 ρ6 (own.map (·.2))) = some (.ok out ρe)) (fun _ _ => False) := by
             cases q5 : toV r ρ5 with
             | none => rw [q5] at e2; cases e2
             | some o6 => cases o6 with
              | ok z ρ6 => rw [q5] at e2; exact e2
              | ex x ρ6 => rw [q5] at e2; cases e2
            obtain ⟨z, G6, ρ6, s6, R6, kz, e6⟩ := toV_wp R5 ky tw
            have hl6 : ρ2.length = ρ6.length := by rw [hlen, R6.len]
            have sall := (s3.trans s4).trans (s5.trans s6)
            have hacc : accV.length < sizeLine := by rw [ka.length]; exact Nat.lt_of_lt_of_le (Nat.lt_of_le_of_lt hla hlt) wk.sz
            refine ⟨accV, R6.fh _ _ upd_same, hacc, by omega, G6, _, acc ++ [z], accV ++ [y], ?_, s2.trans sall, (ka.mono sall).append (RpL.one kz), by rw [List.length_append, List.length_singleton]; omega, noOwn_back hl6 hn2, e6⟩
            exact (R2.backed sall R6 hw hn2).store fun b z => nomatch z
    · have e0 : i = ds.length := by omega
      subst e0
      rw [List.drop_length] at e2
      cases e2
      have F2 : (c.with p (.lst accV)).F p = some (.lst accV) := upd_same
      refine .inl ⟨wk.stop R2 s2, w3 _ G2 H2 (R2.unkeep fp) (s1.trans s2) ⟨p, rfl, R2.fg _ _ F2, fp, ⟨accV, R2.fh _ _ F2, ka⟩, fun j e q z => ?_⟩⟩
      obtain ⟨a, h1, _, h3, _⟩ := R2.own j e q
      rw [z] at h1; cases h1
      rw [F2] at h3; cases h3
 · rw [if_neg hn] at w2; exact w2.elim
theorem de_lc (own : List (Str × Nat)) (go : Go X W) (hi : DI X W tg iter it) (ok : BlkOk X.N X.env.scope scope own)
  (hg : ∀ (s : Shared) (H : Hp) (C : Addr) (cl : List (Str × Addr)) (fp : List Addr), DG (X.blk s H scope (compEnvC scope cl C X.env) fp) tg ts g) (ht : ∀ (s : Shared) (H : Hp) (C : Addr) (cl : List (Str × Addr)) (fp : List Addr), DTs (X.blk s H scope (compEnvC scope cl C X.env) fp) ifs tt)
  (he : ∀ (s : Shared) (H : Hp) (C : Addr) (cl : List (Str × Addr)) (fp : List Addr), DE (X.blk s H scope (compEnvC scope cl C X.env) fp) WX0 elt te) (hts : ∀ t ∈ ts, t ∈ own.map (·.2) := by decide) (hs : ∀ x, foldedSetIterable iter X.env x = pure x := by intro _; rfl) :
  DE X W (.ListComp elt [⟨tg, iter, ifs, 0⟩] scope pos) (eLc it g tt te (own.map (·.2))) :=
 ⟨(pe_lc (g := tDG X.K ts g) (tt := tDT X.K WX0 tt) (te := tD X.K WX0 te) go.calm go.nd hi.pi ok (fun s H C cl fp => (hg s H C cl fp).pg) (fun s H C cl fp => (ht s H C cl fp).pts) (fun s H C cl fp => (he s H C cl fp).pe) hs).weak fun _ _ _ h => tD_lc hts h⟩
theorem ds_setLc {np : Nat} {y : Str} {py spos : Pos} (i : Nat) (own : List (Str × Nat)) (hy : X.N[i]? = some y) (hyl : X.env.scope.names.lookup y = some .local) (hk : X.env.scope.kind = .function) (hln : (py.line == pos.line) = true) (hnn : (scope.names.any fun (n, k) => n == y && (k == .local || k == .cell)) = false) (go : Go X W) (hi : DI X W tg iter it) (ok : BlkOk X.N X.env.scope scope own)
  (hg : ∀ (s : Shared) (H : Hp) (C : Addr) (cl : List (Str × Addr)) (fp : List Addr), DG (X.blk s H scope (compEnvC scope cl C X.env) fp) tg ts g) (ht : ∀ (s : Shared) (H : Hp) (C : Addr) (cl : List (Str × Addr)) (fp : List Addr), DTs (X.blk s H scope (compEnvC scope cl C X.env) fp) ifs tt)
  (he : ∀ (s : Shared) (H : Hp) (C : Addr) (cl : List (Str × Addr)) (fp : List Addr), DE (X.blk s H scope (compEnvC scope cl C X.env) fp) WX0 elt te) (hts : ∀ t ∈ ts, t ∈ own.map (·.2) := by decide) (hs : ∀ x, foldedSetIterable iter X.env x = pure x := by intro _; rfl) :
  DS X W np (.Assign [.Name y py] (.ListComp elt [⟨tg, iter, ifs, 0⟩] scope pos) spos) (sSet np i (eLc it g tt te (own.map (·.2)))) :=
 ⟨(ps_setLc (g := tDG X.K ts g) (tt := tDT X.K WX0 tt) (te := tD X.K WX0 te) go.calm go.nd hy hyl (sw_true hk hyl hln hnn) hi.pi ok (fun s H C cl fp => (hg s H C cl fp).pg) (fun s H C cl fp => (ht s H C cl fp).pts) (fun s H C cl fp => (he s H C cl fp).pe) hs).weak fun Dn σ H h => tD_lc hts (tS_set i h)⟩
end
end Dl
namespace Dl
open PySem L2
def lcI (tg : D → List S → Option (List S)) (tt : M Bool) (te : M Rv) (vs : List Nat) : List D → List D → M (List D)
 | [], acc, ρ => some (.ok acc ρ)
 | d :: ds, acc, ρ => match tg d (wipeS ρ vs) with
  | none => none
  | some ρ1 => match tt ρ1 with
   | some (.ok false ρ2) => lcI tg tt te vs ds acc (backS ρ ρ2 vs)
   | some (.ok true ρ2) => match (te >>= toV) ρ2 with
    | some (.ok e ρ3) => if acc.length < sizeLine then lcI tg tt te vs ds (acc ++ [e]) (backS ρ ρ3 vs) else none
    | _ => none
   | _ => none
def lcO (tg : D → List S → Option (List S)) (tt : M Bool) (it1 : M (List D)) (tg1 : D → List S → Option (List S)) (tt1 : M Bool) (te : M Rv) (vs vs1 : List Nat) : List D → List D → M (List D)
 | [], acc, ρ => some (.ok acc ρ)
 | d :: ds, acc, ρ => match tg d (wipeS ρ vs) with
  | none => none
  | some ρ1 => match tt ρ1 with
   | some (.ok false ρ2) => lcO tg tt it1 tg1 tt1 te vs vs1 ds acc (backS ρ ρ2 vs)
   | some (.ok true ρ2) => match it1 ρ2 with
    | some (.ok ds1 ρ3) => if noOwn ρ3 vs1 = true then (match lcI tg1 tt1 te vs1 ds1 acc ρ3 with
     | some (.ok acc' ρ4) => lcO tg tt it1 tg1 tt1 te vs vs1 ds acc' (backS ρ ρ4 vs)
     | _ => none) else none
    | _ => none
   | _ => none
def eLc2 (it : M (List D)) (tg : D → List S → Option (List S)) (tt : M Bool) (it1 : M (List D)) (tg1 : D → List S → Option (List S)) (tt1 : M Bool) (te : M Rv) (vs vs1 : List Nat) : M Rv := do
 let ds ← it
 let acc ← fun ρ => if noOwn ρ vs = true then lcO tg tt it1 tg1 tt1 te vs vs1 ds [] ρ else none
 pure (.own (.lst acc))
theorem lcO_ex {tg tg1 : D → List S → Option (List S)} {tt tt1 : M Bool} {it1 : M (List D)} {te : M Rv} {vs vs1 : List Nat} : ∀ {ds acc : List D} {ρ : List S} {o : Ot (List D)}, lcO tg tt it1 tg1 tt1 te vs vs1 ds acc ρ = some o → ∃ a ρ', o = .ok a ρ'
 | [], acc, ρ, o, h => by cases h; exact ⟨_, _, rfl⟩
 | d :: ds, acc, ρ, o, h => by
  unfold lcO at h
  split at h
  · cases h
  · split at h
    · exact lcO_ex h
    · split at h
      · split at h
        · split at h
          · exact lcO_ex h
          · cases h
        · cases h
      · cases h
    · cases h
section
variable {X : Cx} {W : WX} {elt tg iter tg1 iter1 : Expr} {ifs ifs1 : List Expr} {scope : Scope} {pos : Pos} {it it1 : M (List D)} {g g1 : D → List S → Option (List S)} {tt tt1 : M Bool} {te : M Rv} {ts ts1 : List Nat}
theorem tD_lc2 {own : List (Str × Nat)} {vs1 : List Nat} (hts : ∀ t ∈ ts, t ∈ own.map (·.2)) (hts1 : ∀ t ∈ ts1, t ∈ vs1) (hv : ∀ i ∈ vs1, i ∈ own.map (·.2)) {σ : L2.St} {H : Hp} {Q : VK} (h : tD X.K W (eLc2 it g tt it1 g1 tt1 te (own.map (·.2)) vs1) σ H Q) : tLc2 (tDI X.K W it) (tDG X.K ts g) (tDT X.K WX0 tt) (tDI X.K WX0 it1) (tDG X.K ts1 g1) (tDT X.K WX0 tt1) (tD X.K WX0 te) (own.map (·.2)) vs1 σ H Q := by
 obtain ⟨c, G, ρ, R, w⟩ := h
 refine ⟨c, G, ρ, R, wpM_mono (wpM_bind w) (fun ds ρ1 w1 J G1 H1 R1 s1 wk => ?_) fun _ _ x => x⟩
 have w2 := wpM_bind w1
 by_cases hn : noOwn ρ1 (own.map (·.2)) = true
 · rw [if_pos hn] at w2
   intro p hp
   have fp := R1.f_none hp
   cases e : lcO g tt it1 g1 tt1 te (own.map (·.2)) vs1 ds [] ρ1 with
   | none => rw [e] at w2; exact w2.elim
   | some o =>
    obtain ⟨out, ρe, rfl⟩ := lcO_ex e
    rw [e] at w2
    have w3 : ∀ (b : V) (G' H' : Hp), Rst X.K c G' H' σ ρe → Same G G' → RpR X.K c G' H' σ ρe b (.own (.lst out)) → Q b H' := w2
    refine ⟨fun i m H2 => m = ds.length - i ∧ i ≤ ds.length ∧ ∃ G2 ρ2 acc accV, Rst X.K (c.with p (.lst accV)) G2 H2 σ ρ2 ∧ Same G1 G2 ∧ RpL X.K G2 acc accV ∧ noOwn ρ2 (own.map (·.2)) = true ∧ lcO g tt it1 g1 tt1 te (own.map (·.2)) vs1 (ds.drop i) acc ρ2 = some (.ok out ρe),
     ⟨ds.length, by omega, Nat.zero_le _, G1, ρ1, [], [], (R1.laid hp).keep upd_same (R1.g_none hp) (fun b z => nomatch z) (R1.not_slot hp), Same.refl G1, rfl, hn, e⟩, ?_⟩
    rintro i m H2 ⟨hm, hi2, G2, ρ2, acc, accV, R2, s2, ka, hn2, e2⟩
    by_cases hlt : i < ds.length
    · refine .inr ⟨wk.go R2 s2 hlt, fun H' => i + 1 ≤ ds.length ∧ ∃ G' ρ' acc' accV', Rst X.K (c.with p (.lst accV')) G' H' σ ρ' ∧ Same G1 G' ∧ RpL X.K G' acc' accV' ∧ noOwn ρ' (own.map (·.2)) = true ∧ lcO g tt it1 g1 tt1 te (own.map (·.2)) vs1 (ds.drop (i + 1)) acc' ρ' = some (.ok out ρe),
        fun H' hN => ⟨ds.length - (i + 1), by omega, rfl, hN⟩, fun x H' hy => ?_⟩
      obtain ⟨d, G3, e1, R3, s3, k3⟩ := wk.yld R2 s2 hy hlt
      have hd : ds.drop i = d :: ds.drop (i + 1) := by
       rw [List.drop_eq_getElem_cons hlt]
       rw [List.getElem?_eq_getElem hlt] at e1
       rw [Option.some.inj e1]
      rw [hd] at e2
      unfold lcO at e2
      cases q : g d (wipeS ρ2 (own.map (·.2))) with
      | none => rw [q] at e2; cases e2
      | some ρ3 =>
       rw [q] at e2
       dsimp only at e2
       refine ⟨c.with p (.lst accV), G3, wipeS ρ2 (own.map (·.2)), d, ρ3, R3.wiped _, k3, q, fun σ3 R3' o3 => ?_⟩
       have hw := wipe_out o3 hts
       have hlen : ρ2.length = σ3.length := by
        have z := congrArg List.length hw
        rw [wipe_length, wipe_length] at z
        rw [R2.len, z]
       refine ⟨hw, ?_⟩
       refine ⟨c.with p (.lst accV), G3, ρ3, R3', exk0 ?_⟩
       cases q2 : tt ρ3 with
       | none => rw [q2] at e2; cases e2
       | some o4 =>
        cases o4 with
        | ex x ρ4 => rw [q2] at e2; cases e2
        | ok b ρ4 =>
         rw [q2] at e2
         refine ⟨b, ρ4, rfl, fun b' G4 H4 R4 s4 eb => ?_⟩
         obtain rfl : b' = b := eb
         cases b' with
         | false =>
          rw [if_neg Bool.false_ne_true]
          dsimp only at e2
          have hl4 : ρ2.length = ρ4.length := by rw [hlen, R4.len]
          exact ⟨by omega, G4, _, acc, accV, R2.backed (s3.trans s4) R4 hw hn2, (s2.trans s3).trans s4, ka.mono (s3.trans s4), noOwn_back hl4 hn2, e2⟩
         | true =>
          rw [if_pos rfl]
          dsimp only at e2
          refine ⟨c.with p (.lst accV), G4, ρ4, R4, exk0 ?_⟩
          cases q3 : it1 ρ4 with
          | none => rw [q3] at e2; cases e2
          | some o5 =>
           cases o5 with
           | ex x ρ5 => rw [q3] at e2; cases e2
           | ok ds1 ρ5 =>
            rw [q3] at e2
            dsimp only at e2
            refine ⟨ds1, ρ5, rfl, fun J1 G5 H5 R5 s5 wk1 => ?_⟩
            by_cases hn5 : noOwn ρ5 vs1 = true
            · rw [if_pos hn5] at e2
              cases q5 : lcI g1 tt1 te vs1 ds1 acc ρ5 with
              | none => rw [q5] at e2; cases e2
              | some o6 =>
               cases o6 with
               | ex x ρ6 => rw [q5] at e2; cases e2
               | ok acc' ρ6 =>
                rw [q5] at e2
                dsimp only at e2
                have s35 := (s3.trans s4).trans s5
                refine ⟨fun j k H7 => k = ds1.length - j ∧ j ≤ ds1.length ∧ ∃ G7 ρ7 ac acV, Rst X.K (c.with p (.lst acV)) G7 H7 σ3 ρ7 ∧ Same G5 G7 ∧ RpL X.K G7 ac acV ∧ noOwn ρ7 vs1 = true ∧ lcI g1 tt1 te vs1 (ds1.drop j) ac ρ7 = some (.ok acc' ρ6),
                 ⟨ds1.length, by omega, Nat.zero_le _, G5, ρ5, acc, accV, R5, Same.refl G5, ka.mono s35, hn5, q5⟩, ?_⟩
                rintro j k H7 ⟨hk, hj2, G7, ρ7, ac, acV, R7, s7, ka7, hn7, e7⟩
                by_cases hjl : j < ds1.length
                · refine .inr ⟨wk1.go R7 s7 hjl, fun H' => j + 1 ≤ ds1.length ∧ ∃ G' ρ' ac' acV', Rst X.K (c.with p (.lst acV')) G' H' σ3 ρ' ∧ Same G5 G' ∧ RpL X.K G' ac' acV' ∧ noOwn ρ' vs1 = true ∧ lcI g1 tt1 te vs1 (ds1.drop (j + 1)) ac' ρ' = some (.ok acc' ρ6),
                    fun H' hN => ⟨ds1.length - (j + 1), by omega, rfl, hN⟩, fun x1 H8 hy1 => ?_⟩
                  obtain ⟨d1, G8, e8, R8, s8, k8⟩ := wk1.yld R7 s7 hy1 hjl
                  have hd1 : ds1.drop j = d1 :: ds1.drop (j + 1) := by
                   rw [List.drop_eq_getElem_cons hjl]
                   rw [List.getElem?_eq_getElem hjl] at e8
                   rw [Option.some.inj e8]
                  rw [hd1] at e7
                  unfold lcI at e7
                  cases q8 : g1 d1 (wipeS ρ7 vs1) with
                  | none => rw [q8] at e7; cases e7
                  | some ρ8 =>
                   rw [q8] at e7
                   dsimp only at e7
                   refine ⟨c.with p (.lst acV), G8, wipeS ρ7 vs1, d1, ρ8, R8.wiped _, k8, q8, fun σ8 R8' o8 => ?_⟩
                   have hw8 := wipe_out o8 hts1
                   have hlen8 : ρ7.length = σ8.length := by
                    have z := congrArg List.length hw8
                    rw [wipe_length, wipe_length] at z
                    rw [R7.len, z]
                   refine ⟨hw8, ?_⟩
                   refine ⟨c.with p (.lst acV), G8, ρ8, R8', exk0 ?_⟩
                   cases q9 : tt1 ρ8 with
                   | none => rw [q9] at e7; cases e7
                   | some o9 =>
                    cases o9 with
                    | ex x ρ9 => rw [q9] at e7; cases e7
                    | ok b9 ρ9 =>
                     rw [q9] at e7
                     refine ⟨b9, ρ9, rfl, fun b' G9 H9 R9 s9 eb => ?_⟩
                     obtain rfl : b' = b9 := eb
                     cases b' with
                     | false =>
                      rw [if_neg Bool.false_ne_true]
                      dsimp only at e7
                      have hl9 : ρ7.length = ρ9.length := by rw [hlen8, R9.len]
                      exact ⟨by omega, G9, _, ac, acV, R7.backed (s8.trans s9) R9 hw8 hn7, (s7.trans s8).trans s9, ka7.mono (s8.trans s9), noOwn_back hl9 hn7, e7⟩
                     | true =>
                      rw [if_pos rfl]
                      dsimp only at e7
                      refine ⟨c.with p (.lst acV), G9, ρ9, R9, exk0 ?_⟩
                      rw [bind_eq] at e7
                      cases qa : te ρ9 with
                      | none => rw [qa] at e7; cases e7
                      | some oa =>
                       cases oa with
                       | ex x ρa => rw [qa] at e7; cases e7
                       | ok r ρa =>
                        rw [qa] at e7
                        refine ⟨r, ρa, rfl, fun y Ga Ha Ra sa ky => ?_⟩
                        dsimp only at e7
                        have tw : wpM (toV r ρa) (fun z ρb => ac.length < sizeLine ∧ lcI g1 tt1 te vs1 (ds1.drop (j + 1)) (ac ++ [z]) (backS ρ7 ρb vs1) = some (.ok acc' ρ6)) (fun _ _ => False) := by
                         cases qb : toV r ρa with
                         | none => rw [qb] at e7; cases e7
                         | some ob => cases ob with
                          | ok z ρb =>
                           rw [qb] at e7
                           dsimp only at e7
                           by_cases hc : ac.length < sizeLine
                           · rw [if_pos hc] at e7; exact ⟨hc, e7⟩
                           · rw [if_neg hc] at e7; cases e7
                          | ex x ρb => rw [qb] at e7; cases e7
                        obtain ⟨z, Gb, ρb, sb, Rb, kz, hacc, eb⟩ := toV_wp Ra ky tw
                        have hlb : ρ7.length = ρb.length := by rw [hlen8, Rb.len]
                        have sall := (s8.trans s9).trans (sa.trans sb)
                        refine ⟨acV, Rb.fh _ _ upd_same, by rw [ka7.length]; exact hacc, by omega, Gb, _, ac ++ [z], acV ++ [y], ?_, s7.trans sall, (ka7.mono sall).append (RpL.one kz), noOwn_back hlb hn7, eb⟩
                        exact (R7.backed sall Rb hw8 hn7).store fun b z => nomatch z
                · have e0 : j = ds1.length := by omega
                  subst e0
                  rw [List.drop_length] at e7
                  cases e7
                  have hl7 : ρ2.length = ρ6.length := by rw [hlen, R7.len]
                  refine .inl ⟨wk1.stop R7 s7, by omega, G7, _, acc', acV, ?_, s2.trans (s35.trans s7), ka7, noOwn_back hl7 hn2, e2⟩
                  have R2' : Rst X.K c G2 H2 σ ρ2 := R2.unkeep fp
                  exact R2.backed (s35.trans s7) R7 hw hn2
            · rw [if_neg hn5] at e2; cases e2
    · have e0 : i = ds.length := by omega
      subst e0
      rw [List.drop_length] at e2
      cases e2
      have F2 : (c.with p (.lst accV)).F p = some (.lst accV) := upd_same
      refine .inl ⟨wk.stop R2 s2, w3 _ G2 H2 (R2.unkeep fp) (s1.trans s2) ⟨p, rfl, R2.fg _ _ F2, fp, ⟨accV, R2.fh _ _ F2, ka⟩, fun j e q z => ?_⟩⟩
      obtain ⟨a, h1, _, h3, _⟩ := R2.own j e q
      rw [z] at h1; cases h1
      rw [F2] at h3; cases h3
 · rw [if_neg hn] at w2; exact w2.elim
theorem ds_setLc2 {np : Nat} {y : Str} {py spos : Pos} (i : Nat) (own : List (Str × Nat)) (vs1 : List Nat) (hy : X.N[i]? = some y) (hyl : X.env.scope.names.lookup y = some .local) (hk : X.env.scope.kind = .function) (hln : (py.line == pos.line) = true) (hnn : (scope.names.any fun (n, k) => n == y && (k == .local || k == .cell)) = false) (go : Go X W) (hi : DI X W tg iter it) (ok : BlkOk X.N X.env.scope scope own)
  (hg : ∀ (s : Shared) (H : Hp) (C : Addr) (cl : List (Str × Addr)) (fp : List Addr), DG (X.blk s H scope (compEnvC scope cl C X.env) fp) tg ts g) (ht : ∀ (s : Shared) (H : Hp) (C : Addr) (cl : List (Str × Addr)) (fp : List Addr), DTs (X.blk s H scope (compEnvC scope cl C X.env) fp) ifs tt)
  (hi1 : ∀ (s : Shared) (H : Hp) (C : Addr) (cl : List (Str × Addr)) (fp : List Addr), DI (X.blk s H scope (compEnvC scope cl C X.env) fp) WX0 tg1 iter1 it1)
  (hg1 : ∀ (s : Shared) (H : Hp) (C : Addr) (cl : List (Str × Addr)) (fp : List Addr), DG (X.blk s H scope (compEnvC scope cl C X.env) fp) tg1 ts1 g1) (ht1 : ∀ (s : Shared) (H : Hp) (C : Addr) (cl : List (Str × Addr)) (fp : List Addr), DTs (X.blk s H scope (compEnvC scope cl C X.env) fp) ifs1 tt1)
  (he : ∀ (s : Shared) (H : Hp) (C : Addr) (cl : List (Str × Addr)) (fp : List Addr), DE (X.blk s H scope (compEnvC scope cl C X.env) fp) WX0 elt te) (hts : ∀ t ∈ ts, t ∈ own.map (·.2) := by decide) (hts1 : ∀ t ∈ ts1, t ∈ vs1 := by decide) (hv : ∀ i ∈ vs1, i ∈ own.map (·.2) := by decide)
  (hs : ∀ x, foldedSetIterable iter X.env x = pure x := by intro _; rfl) (hs1 : ∀ env x, foldedSetIterable iter1 env x = pure x := by intro _ _; rfl) :
  DS X W np (.Assign [.Name y py] (.ListComp elt [⟨tg, iter, ifs, 0⟩, ⟨tg1, iter1, ifs1, 0⟩] scope pos) spos) (sSet np i (eLc2 it g tt it1 g1 tt1 te (own.map (·.2)) vs1)) :=
 ⟨(ps_setLc2 (g := tDG X.K ts g) (tt := tDT X.K WX0 tt) (wi1 := tDI X.K WX0 it1) (g1 := tDG X.K ts1 g1) (tt1 := tDT X.K WX0 tt1) (te := tD X.K WX0 te) go.calm go.nd hy hyl (sw_true hk hyl hln hnn) hi.pi ok hv (fun s H C cl fp => (hg s H C cl fp).pg) (fun s H C cl fp => (ht s H C cl fp).pts) (fun s H C cl fp => (hi1 s H C cl fp).pi) (fun s H C cl fp => (hg1 s H C cl fp).pg) (fun s H C cl fp => (ht1 s H C cl fp).pts) (fun s H C cl fp => (he s H C cl fp).pe) hs hs1).weak fun Dn σ H h => tD_lc2 hts hts1 hv (tS_set i h)⟩
end
end Dl
namespace Dl
open PySem L2
inductive Of where
 | ret (r : Rv) (ss : List S) | ex (e : Xn) (ss : List S)
abbrev Fn : Type := List S → Option Of
def FPo (K : PySem.W.Frag) (c : Cn) (vs : List V) (G : Hp) (Q : VK) (E : XK) : Of → Prop
 | .ret r ss' => ∀ v G' H', Rst K c G' H' (vs.map some) ss' → Same G G' → RpR K c G' H' (vs.map some) ss' v r → Q v H'
 | .ex e ss' => ∀ cls d G' H', Rst K c G' H' (vs.map some) ss' → Same G G' → XAt K G' H' e cls d → E cls d H'
def spD (K : PySem.W.Frag) (np : Nat) (fn : Fn) : Sp := fun vs H Q E => ∃ c G ss o, vs.length = np ∧ c.s0 = vs.map some ∧ Rst K c G H (vs.map some) ss ∧ fn ss = some o ∧ FPo K c vs G Q E o
def post : List S → List S → List S
 | [], _ => []
 | .own _ :: ss, .own d :: ρ => .own d :: post ss ρ
 | .own _ :: ss, _ :: ρ => .no :: post ss ρ
 | s :: ss, _ :: ρ => s :: post ss ρ
 | _ :: ss, [] => .no :: post ss []
def mkFn (np n : Nat) (f : MS) : Fn := fun ss => if ss.length = np then
  match f (ss ++ List.replicate (n - np) .no) with
  | some (.nx ρ') => some (.ret (.val .non) (post ss ρ'))
  | some (.rt (.ali _) _) => none
  | some (.rt r ρ') => some (.ret r (post ss ρ'))
  | some (.ex e ρ') => some (.ex e (post ss ρ'))
  | _ => none
 else none
theorem post_length : ∀ (ss ρ : List S), (post ss ρ).length = ss.length
 | [], _ => rfl
 | .own _ :: ss, .own d :: ρ => by unfold post; rw [List.length_cons, List.length_cons, post_length ss ρ]
 | .own _ :: ss, .no :: ρ => by unfold post; rw [List.length_cons, List.length_cons, post_length ss ρ]
 | .own _ :: ss, .val _ :: ρ => by unfold post; rw [List.length_cons, List.length_cons, post_length ss ρ]
 | .no :: ss, _ :: ρ => by unfold post; rw [List.length_cons, List.length_cons, post_length ss ρ]
 | .val _ :: ss, _ :: ρ => by unfold post; rw [List.length_cons, List.length_cons, post_length ss ρ]
 | .own _ :: ss, [] => by unfold post; rw [List.length_cons, List.length_cons, post_length ss []]
 | .no :: ss, [] => by unfold post; rw [List.length_cons, List.length_cons, post_length ss []]
 | .val _ :: ss, [] => by unfold post; rw [List.length_cons, List.length_cons, post_length ss []]
theorem post_own : ∀ {ss ρ : List S} {i : Nat} {d : D}, (post ss ρ)[i]? = some (.own d) → ρ[i]? = some (.own d) ∧ i < ss.length
 | [], _, _, _, h => by unfold post at h; cases h
 | .own _ :: ss, .own e :: ρ, 0, d, h => by unfold post at h; exact ⟨h, Nat.succ_pos _⟩
 | .own _ :: ss, .own e :: ρ, i + 1, d, h => by unfold post at h; obtain ⟨h1, h2⟩ := post_own (show (post ss ρ)[i]? = _ from h); exact ⟨h1, Nat.succ_lt_succ h2⟩
 | .own _ :: ss, .no :: ρ, 0, d, h => by unfold post at h; cases h
 | .own _ :: ss, .no :: ρ, i + 1, d, h => by unfold post at h; obtain ⟨h1, h2⟩ := post_own (show (post ss ρ)[i]? = _ from h); exact ⟨h1, Nat.succ_lt_succ h2⟩
 | .own _ :: ss, .val _ :: ρ, 0, d, h => by unfold post at h; cases h
 | .own _ :: ss, .val _ :: ρ, i + 1, d, h => by unfold post at h; obtain ⟨h1, h2⟩ := post_own (show (post ss ρ)[i]? = _ from h); exact ⟨h1, Nat.succ_lt_succ h2⟩
 | .no :: ss, _ :: ρ, 0, d, h => by unfold post at h; cases h
 | .no :: ss, _ :: ρ, i + 1, d, h => by unfold post at h; obtain ⟨h1, h2⟩ := post_own (show (post ss ρ)[i]? = _ from h); exact ⟨h1, Nat.succ_lt_succ h2⟩
 | .val _ :: ss, _ :: ρ, 0, d, h => by unfold post at h; cases h
 | .val _ :: ss, _ :: ρ, i + 1, d, h => by unfold post at h; obtain ⟨h1, h2⟩ := post_own (show (post ss ρ)[i]? = _ from h); exact ⟨h1, Nat.succ_lt_succ h2⟩
 | .own _ :: ss, [], 0, d, h => by unfold post at h; cases h
 | .own _ :: ss, [], i + 1, d, h => by unfold post at h; obtain ⟨h1, h2⟩ := post_own (show (post ss [])[i]? = _ from h); cases h1
 | .no :: ss, [], 0, d, h => by unfold post at h; cases h
 | .no :: ss, [], i + 1, d, h => by unfold post at h; obtain ⟨h1, h2⟩ := post_own (show (post ss [])[i]? = _ from h); cases h1
 | .val _ :: ss, [], 0, d, h => by unfold post at h; cases h
 | .val _ :: ss, [], i + 1, d, h => by unfold post at h; obtain ⟨h1, h2⟩ := post_own (show (post ss [])[i]? = _ from h); cases h1
theorem post_val : ∀ {ss ρ : List S} {i : Nat} {d : D}, (post ss ρ)[i]? = some (.val d) → ss[i]? = some (.val d)
 | [], _, _, _, h => by unfold post at h; cases h
 | .own _ :: ss, .own e :: ρ, 0, d, h => by unfold post at h; cases h
 | .own _ :: ss, .own e :: ρ, i + 1, d, h => by unfold post at h; show ss[i]? = _; exact post_val (show (post ss ρ)[i]? = _ from h)
 | .own _ :: ss, .no :: ρ, 0, d, h => by unfold post at h; cases h
 | .own _ :: ss, .no :: ρ, i + 1, d, h => by unfold post at h; show ss[i]? = _; exact post_val (show (post ss ρ)[i]? = _ from h)
 | .own _ :: ss, .val _ :: ρ, 0, d, h => by unfold post at h; cases h
 | .own _ :: ss, .val _ :: ρ, i + 1, d, h => by unfold post at h; show ss[i]? = _; exact post_val (show (post ss ρ)[i]? = _ from h)
 | .no :: ss, _ :: ρ, 0, d, h => by unfold post at h; cases h
 | .no :: ss, _ :: ρ, i + 1, d, h => by unfold post at h; show ss[i]? = _; exact post_val (show (post ss ρ)[i]? = _ from h)
 | .val _ :: ss, _ :: ρ, 0, d, h => by unfold post at h; exact h
 | .val _ :: ss, _ :: ρ, i + 1, d, h => by unfold post at h; show ss[i]? = _; exact post_val (show (post ss ρ)[i]? = _ from h)
 | .own _ :: ss, [], 0, d, h => by unfold post at h; cases h
 | .own _ :: ss, [], i + 1, d, h => by unfold post at h; show ss[i]? = _; exact post_val (show (post ss [])[i]? = _ from h)
 | .no :: ss, [], 0, d, h => by unfold post at h; cases h
 | .no :: ss, [], i + 1, d, h => by unfold post at h; show ss[i]? = _; exact post_val (show (post ss [])[i]? = _ from h)
 | .val _ :: ss, [], 0, d, h => by unfold post at h; cases h
 | .val _ :: ss, [], i + 1, d, h => by unfold post at h; show ss[i]? = _; exact post_val (show (post ss [])[i]? = _ from h)
section
variable {K : PySem.W.Frag} {c : Cn} {G G' H H' : Hp} {σ σ' : L2.St} {ρ ρ' ss : List S} {vs : List V}
theorem Rst.ext (R : Rst K c G H σ ρ) (k : Nat) : Rst K c G H (σ ++ List.replicate k none) (ρ ++ List.replicate k .no) := by
 have get : ∀ {j : Nat} {s : S}, (ρ ++ List.replicate k .no)[j]? = some s → s ≠ .no → ρ[j]? = some s ∧ (σ ++ List.replicate k none)[j]? = σ[j]? := fun {j s} h n => by
  by_cases hj : j < ρ.length
  · rw [List.getElem?_append_left hj] at h
    exact ⟨h, List.getElem?_append_left (R.len ▸ hj)⟩
  · rw [List.getElem?_append_right (by omega), List.getElem?_replicate] at h
    split at h
    · exact absurd (Option.some.inj h).symm n
    · cases h
 refine ⟨R.fh, R.gh, R.fg, by rw [List.length_append, List.length_append, List.length_replicate, List.length_replicate, R.len], fun j d h => ?_, fun j d h => ?_, fun j i d e a h1 h2 r1 r2 => ?_, fun j d h hl => ?_⟩
 · obtain ⟨h1, h2⟩ := get h (by intro z; cases z)
   rw [h2]; exact R.val j d h1
 · obtain ⟨h1, h2⟩ := get h (by intro z; cases z)
   rw [h2]; exact R.own j d h1
 · obtain ⟨k1, k2⟩ := get h1 (by intro z; cases z)
   obtain ⟨k3, k4⟩ := get h2 (by intro z; cases z)
   rw [k2] at r1
   rw [k4] at r2
   exact R.ne j i d e a k1 k3 r1 r2
 · obtain ⟨h1, h2⟩ := get h (by intro z; cases z)
   rw [h2]; exact R.par j d h1 hl
theorem Rst.posted (R0 : Rst K c G H (vs.map some) ss) (hs : c.s0 = vs.map some) (s : Same G G') (R : Rst K c G' H' σ' ρ') : Rst K c G' H' (vs.map some) (post ss ρ') := by
 have hlen : ss.length = vs.length := by rw [R0.len, List.length_map]
 have sl : c.s0.length = vs.length := by rw [hs, List.length_map]
 have same : ∀ {j : Nat} {d : D}, (post ss ρ')[j]? = some (.own d) → ρ'[j]? = some (.own d) ∧ σ'[j]? = (vs.map some)[j]? := fun {j d} h => by
  obtain ⟨h1, h2⟩ := post_own h
  exact ⟨h1, by rw [R.par j d h1 (by omega), hs]⟩
 refine ⟨R.fh, R.gh, R.fg, by rw [post_length, R0.len], fun j d h => ?_, fun j d h => ?_, fun j i d e a h1 h2 r1 r2 => ?_, fun j d h hl => by rw [hs]⟩
 · obtain ⟨v, h1, h2⟩ := R0.val j d (post_val h)
   exact ⟨v, h1, h2.mono s⟩
 · obtain ⟨h1, h2⟩ := same h
   rw [← h2]; exact R.own j d h1
 · obtain ⟨k1, k2⟩ := same h1
   obtain ⟨k3, k4⟩ := same h2
   rw [← k2] at r1
   rw [← k4] at r2
   exact R.ne j i d e a k1 k3 r1 r2
theorem RpR.posted {v : V} {r : Rv} (R0 : Rst K c G H (vs.map some) ss) (hs : c.s0 = vs.map some) (R : Rst K c G' H' σ' ρ') (na : ∀ i, r ≠ .ali i) (h : RpR K c G' H' σ' ρ' v r) : RpR K c G' H' (vs.map some) (post ss ρ') v r := by
 cases r with
 | val d => exact h
 | ali i => exact absurd rfl (na i)
 | own d =>
  obtain ⟨a, h1, h2, h3, h4, h5⟩ := h
  refine ⟨a, h1, h2, h3, h4, fun j e q z => ?_⟩
  obtain ⟨k1, k2⟩ := post_own q
  have hlen : ss.length = vs.length := by rw [R0.len, List.length_map]
  have sl : c.s0.length = vs.length := by rw [hs, List.length_map]
  refine h5 j e k1 ?_
  rw [R.par j e k1 (by omega), hs]; exact z
end
abbrev WB (E : XK) : WX := fun cls d _ H => E cls d H
section
variable {P : Program} {w : World} {K : PySem.W.Frag} {mg : Str → Option Value} {base : Heap} {x qual : Str} {params : Arguments} {body : List Stmt} {scope : Scope} {dvs : List V} {kws : List (Str × V)} {f : Addr} {fd : FuncData}
theorem fn_data {N ps : List Str} {k : Nat} {fb : MS} (F : FunD K x qual params body scope dvs kws f fd) (S : FnScope N ps scope)
  (hb : ∀ (cdv : Value) (A : Around) (outer : List Env) (s : Shared) (H : Hp) (E : XK), Room k (A.deeper (PyProof.Rows.envOfC qual scope s.heap.objs.size f cdv)) → DL (cxOf (L2N.CX P w) P w K mg base N qual scope f cdv A outer s H E) (WB E) ps.length body fb) :
  FnOk P w K mg base (L2N.CX P w) (k + 1) f fd ps (spD K ps.length (mkFn ps.length N.length fb)) := by
 refine F.ok S (fun vs H Q E h => ?_) fun cdv A outer s H vs Q E hr h => ⟨_, (hb cdv A outer s H E hr).pss, ?_⟩
 · obtain ⟨c, G, ss, o, hl, _⟩ := h
   exact hl
 · obtain ⟨c, G, ss, o, hl, hs, R, e, po⟩ := h
   unfold mkFn at e
   have hsl : ss.length = ps.length := by rw [R.len, List.length_map, hl]
   rw [if_pos hsl] at e
   have R1 := R.ext (N.length - ps.length)
   have est : L2.start N vs = vs.map some ++ List.replicate (N.length - ps.length) none := by unfold L2.start; rw [hl]
   rw [est]
   cases q : fb (ss ++ List.replicate (N.length - ps.length) .no) with
   | none => rw [q] at e; cases e
   | some os =>
    rw [q] at e
    refine ⟨c, G, _, os, by rw [hs, List.length_map, hl], R1, q, ?_⟩
    cases os with
    | nx ρ' =>
     cases e
     exact fun σ' G' H' R' s' => po .non G' H' (R.posted hs s' R') s' rfl
    | bk ρ' => cases e
    | ct ρ' => cases e
    | rt r ρ' =>
     cases r with
     | ali i => cases e
     | val d => cases e; exact fun v σ' G' H' R' s' k => po v G' H' (R.posted hs s' R') s' (RpR.posted R hs R' (fun i z => nomatch z) k)
     | own d => cases e; exact fun v σ' G' H' R' s' k => po v G' H' (R.posted hs s' R') s' (RpR.posted R hs R' (fun i z => nomatch z) k)
    | ex x ρ' => cases e; exact fun cls d σ' G' H' R' s' xa => po cls d G' H' (R.posted hs s' R') s' xa
theorem go_def {CX : CXT} {N : List Str} {k : Nat} {cdv : Value} {A : Around} {outer : List Env} {s : Shared} {H : Hp} {E : XK} (hN : N.Nodup) (hr : Room k (A.deeper (PyProof.Rows.envOfC qual scope s.heap.objs.size f cdv))) :
  Go (cxOf (L2N.CX P w) P w K mg base N qual scope f cdv A outer s H E) (WB E) :=
 ⟨L2N.takes_of rfl rfl rfl rfl, passes_of rfl, rfl, hN, by have h := hr.un; show (A.deeper (PyProof.Rows.envOfC qual scope s.heap.objs.size f cdv)).units + 65 < cLine; omega⟩
end
theorem takes0N {X : Cx} : L2N.Takes X (fun _ _ _ _ => False) := fun _ _ ⟨_, _, _, _, _, _, _, _, _, _, _, _, _, _, _, _, h⟩ => h.elim
theorem Go.blk {X : Cx} {W : WX} (go : Go X W) {s : Shared} {H : Hp} {scope : Scope} {C : Addr} {cl : List (Str × Addr)} {fp : List Addr} : Go (X.blk s H scope (compEnvC scope cl C X.env) fp) WX0 :=
 ⟨takes0N, PassesOwn.never, go.calm, go.nd, go.rm⟩
end Dl
namespace Dl
open PySem L2
def prep : List Bool → List Rv → M (List Rv)
 | _, [] => pure []
 | true :: ms, r :: rs => do
  let rs' ← prep ms rs
  pure (r :: rs')
 | ms, r :: rs => do
  let d ← toV r
  let rs' ← prep ms.tail rs
  pure (.val d :: rs')
def ssOf (ρ : List S) : Rv → Option S
 | .val d => some (.val d)
 | .ali i => match ρ[i]? with
  | some (.val d) => some (.val d)
  | some (.own d) => some (.own d)
  | _ => none
 | .own _ => none
def ssOfs (ρ : List S) : List Rv → Option (List S)
 | [] => some []
 | r :: rs => match ssOf ρ r, ssOfs ρ rs with
  | some s, some ss => some (s :: ss)
  | _, _ => none
def isAli (i : Nat) : Rv → Bool
 | .ali j => i == j
 | _ => false
def dist : List Rv → Bool
 | [] => true
 | .ali i :: rs => !rs.any (isAli i) && dist rs
 | _ :: rs => dist rs
def noAli : List Rv → Bool
 | [] => true
 | .ali _ :: _ => false
 | _ :: rs => noAli rs
def ownOr (s : S) : S := match s with
 | .own d => .own d
 | _ => .no
def back1 (i : Nat) (s : S) (ρ : List S) : List S := if isOwn ρ[i]? = true then ρ.set i (ownOr s) else ρ
def back : List Rv → List S → List S → List S
 | .ali i :: rs, s :: ss, ρ => back rs ss (back1 i s ρ)
 | .val _ :: rs, _ :: ss, ρ => back rs ss ρ
 | .own _ :: rs, _ :: ss, ρ => back rs ss ρ
 | _, _, ρ => ρ
def scaD : D → Bool
 | .non => true
 | .bl _ => true
 | .int _ => true
 | .str _ => true
 | _ => false
def scaR : Rv → Bool
 | .val d => scaD d
 | _ => false
def callM (mu : List Bool) (fn : Fn) (rs : List Rv) : M Rv := fun ρ => match prep mu rs ρ with
 | some (.ok rs' ρ1) => if dist rs' = true then (match ssOfs ρ1 rs' with
  | some ss => (match fn ss with
   | some (.ret q ss') => if (noAli rs' && scaR q) = true then some (.ok q ρ) else (match q with
    | .ali _ => none
    | q => some (.ok q (back rs' ss' ρ1)))
   | some (.ex e ss') => some (.ex e (back rs' ss' ρ1))
   | none => none)
  | none => none) else none
 | _ => none
section
variable {K : PySem.W.Frag} {c : Cn} {G G' H H' : Hp} {σ : L2.St} {ρ ρ' ss ss' : List S} {vs : List V} {rs : List Rv}
theorem prep_wp : ∀ {ms : List Bool} {rs : List Rv} {vs : List V} {G : Hp} {ρ : List S} {OK : List Rv → List S → Prop} {EX : Xn → List S → Prop}, Rst K c G H σ ρ → RpRs K G σ vs rs → wpM (prep ms rs ρ) OK EX →
  ∃ rs' G' ρ', Same G G' ∧ Rst K c G' H σ ρ' ∧ RpRs K G' σ vs rs' ∧ OK rs' ρ'
 | ms, [], vs, G, ρ, OK, EX, R, h, w => by
  have w : wpM ((pure [] : M (List Rv)) ρ) OK EX := by cases ms <;> first | exact w | (rename_i b _; cases b <;> exact w)
  exact ⟨[], G, ρ, Same.refl G, R, h, w⟩
 | true :: ms, r :: rs, vs, G, ρ, OK, EX, R, h, w => by
  obtain ⟨v, vs', rfl, h1, h2⟩ := h.cons_of
  obtain ⟨rs', G', ρ', s, R', k, w2⟩ := prep_wp R h2 (wpM_bind w)
  exact ⟨r :: rs', G', ρ', s, R', RpRs.cons (h1.mono s) k, w2⟩
 | false :: ms, r :: rs, vs, G, ρ, OK, EX, R, h, w => by
  obtain ⟨v, vs', rfl, h1, h2⟩ := h.cons_of
  obtain ⟨d, G1, ρ1, s1, R1, k1, w1⟩ := toV_wp R h1.one (wpM_bind w)
  obtain ⟨rs', G', ρ', s, R', k, w2⟩ := prep_wp R1 (h2.mono s1) (wpM_bind w1)
  exact ⟨.val d :: rs', G', ρ', s1.trans s, R', ⟨k1.mono s, k⟩, w2⟩
 | [], r :: rs, vs, G, ρ, OK, EX, R, h, w => by
  obtain ⟨v, vs', rfl, h1, h2⟩ := h.cons_of
  obtain ⟨d, G1, ρ1, s1, R1, k1, w1⟩ := toV_wp R h1.one (wpM_bind w)
  obtain ⟨rs', G', ρ', s, R', k, w2⟩ := prep_wp (ms := []) R1 (h2.mono s1) (wpM_bind w1)
  exact ⟨.val d :: rs', G', ρ', s1.trans s, R', ⟨k1.mono s, k⟩, w2⟩
theorem dargs_get : ∀ {rs : List Rv} {vs : List V} {ss : List S}, RpRs K G σ vs rs → ssOfs ρ rs = some ss → ss.length = vs.length ∧ rs.length = vs.length ∧ ∀ (j : Nat) (v : V), vs[j]? = some v →
  ∃ r s, rs[j]? = some r ∧ ss[j]? = some s ∧ ssOf ρ r = some s ∧ RpRs K G σ [v] [r]
 | [], vs, ss, h, e => by
  have e1 := h.nil_of
  subst e1
  cases e
  exact ⟨rfl, rfl, fun j v z => by cases z⟩
 | r :: rs, vs, ss, h, e => by
  obtain ⟨v, vs', rfl, h1, h2⟩ := h.cons_of
  unfold ssOfs at e
  cases e1 : ssOf ρ r with
  | none => rw [e1] at e; cases e
  | some s =>
   cases e2 : ssOfs ρ rs with
   | none => rw [e1, e2] at e; cases e
   | some ss2 =>
    rw [e1, e2] at e
    cases e
    obtain ⟨l1, l2, k⟩ := dargs_get h2 e2
    refine ⟨by rw [List.length_cons, List.length_cons, l1], by rw [List.length_cons, List.length_cons, l2], fun j u z => ?_⟩
    cases j with
    | zero => cases z; exact ⟨r, s, rfl, rfl, e1, h1⟩
    | succ j => exact k j u z
theorem dist_ne : ∀ {rs : List Rv} {i j k : Nat}, dist rs = true → rs[j]? = some (.ali i) → rs[k]? = some (.ali i) → j = k
 | [], _, _, _, _, h, _ => by cases h
 | r :: rs, i, 0, 0, _, _, _ => rfl
 | r :: rs, i, 0, k + 1, d, h, h' => by
  cases h
  obtain ⟨d1, _⟩ := Bool.and_eq_true_iff.mp (show (!rs.any (isAli i) && dist rs) = true from d)
  exfalso
  have hm : Rv.ali i ∈ rs := List.mem_of_getElem? (show rs[k]? = _ from h')
  have : rs.any (isAli i) = true := List.any_eq_true.mpr ⟨_, hm, by simp [isAli]⟩
  rw [this] at d1; cases d1
 | r :: rs, i, j + 1, 0, d, h, h' => by
  cases h'
  obtain ⟨d1, _⟩ := Bool.and_eq_true_iff.mp (show (!rs.any (isAli i) && dist rs) = true from d)
  exfalso
  have hm : Rv.ali i ∈ rs := List.mem_of_getElem? (show rs[j]? = _ from h)
  have : rs.any (isAli i) = true := List.any_eq_true.mpr ⟨_, hm, by simp [isAli]⟩
  rw [this] at d1; cases d1
 | r :: rs, i, j + 1, k + 1, d, h, h' => by
  have d2 : dist rs = true := by
   cases r with
   | ali n => exact (Bool.and_eq_true_iff.mp (show (!rs.any (isAli n) && dist rs) = true from d)).2
   | val n => exact d
   | own n => exact d
  rw [dist_ne d2 (show rs[j]? = _ from h) (show rs[k]? = _ from h')]
theorem noAli_not : ∀ {rs : List Rv} {i j : Nat}, noAli rs = true → rs[j]? ≠ some (.ali i)
 | [], _, _, _, h => by cases h
 | .ali n :: rs, _, _, d, _ => by cases d
 | .val n :: rs, i, 0, d, h => by cases h
 | .val n :: rs, i, j + 1, d, h => noAli_not (show noAli rs = true from d) (show rs[j]? = _ from h)
 | .own n :: rs, i, 0, d, h => by cases h
 | .own n :: rs, i, j + 1, d, h => noAli_not (show noAli rs = true from d) (show rs[j]? = _ from h)
theorem back1_get {i : Nat} {s : S} {k : Nat} {t : S} (h : (back1 i s ρ)[k]? = some t) : (k ≠ i ∧ ρ[k]? = some t) ∨ (k = i ∧ isOwn ρ[i]? = true ∧ (t = .no ∨ ∃ d : D, t = .own d ∧ s = .own d)) ∨ (k = i ∧ isOwn ρ[i]? = false ∧ ρ[k]? = some t) := by
 unfold back1 at h
 split at h
 · rename_i ho
   rcases set_cases h with ⟨e1, _, e2⟩ | ⟨e1, e2⟩
   · refine .inr (.inl ⟨e1, ho, ?_⟩)
     cases s with
     | own d => exact .inr ⟨d, e2, rfl⟩
     | no => exact .inl e2
     | val d => exact .inl e2
   · exact .inl ⟨e1, e2⟩
 · rename_i ho
   by_cases hk : k = i
   · exact .inr (.inr ⟨hk, by simpa using ho, h⟩)
   · exact .inl ⟨hk, h⟩
theorem back1_length {i : Nat} {s : S} : (back1 i s ρ).length = ρ.length := by
 unfold back1
 split
 · rw [List.length_set]
 · rfl
theorem back_length : ∀ {rs : List Rv} {ss ρ : List S}, (back rs ss ρ).length = ρ.length
 | .ali i :: rs, s :: ss, ρ => by unfold back; rw [back_length, back1_length]
 | .val _ :: rs, _ :: ss, ρ => by unfold back; exact back_length
 | .own _ :: rs, _ :: ss, ρ => by unfold back; exact back_length
 | [], _, ρ => rfl
 | .ali i :: rs, [], ρ => rfl
 | .val _ :: rs, [], ρ => rfl
 | .own _ :: rs, [], ρ => rfl
theorem back_get : ∀ {rs : List Rv} {ss ρ : List S} {k : Nat} {t : S}, (back rs ss ρ)[k]? = some t → t ≠ .no →
  (ρ[k]? = some t ∧ ((∃ d, t = .val d) ∨ ∀ j : Nat, j < ss.length → rs[j]? ≠ some (.ali k))) ∨ ∃ (j : Nat) (d : D), t = .own d ∧ rs[j]? = some (.ali k) ∧ ss[j]? = some (.own d) ∧ ∃ e, ρ[k]? = some (.own e)
 | .ali i :: rs, s :: ss, ρ, k, t, h, n => by
  unfold back at h
  rcases back_get h n with ⟨h1, h2⟩ | ⟨j, d, h1, h2, h3, e, h4⟩
  · rcases back1_get h1 with ⟨hk, h3⟩ | ⟨hk, ho, h3⟩ | ⟨hk, ho, h3⟩
    · refine .inl ⟨h3, ?_⟩
      rcases h2 with h2 | h2
      · exact .inl h2
      · refine .inr fun j hj z => ?_
        cases j with
        | zero => cases z; exact hk rfl
        | succ j => exact h2 j (Nat.lt_of_succ_lt_succ hj) z
    · rcases h3 with h3 | ⟨d, h3, h4⟩
      · exact absurd h3 n
      · subst hk
        refine .inr ⟨0, d, h3, rfl, by rw [h4]; rfl, ?_⟩
        cases q : ρ[k]? with
        | none => rw [q] at ho; cases ho
        | some x => rw [q] at ho; cases x with
         | own e => exact ⟨e, rfl⟩
         | no => cases ho
         | val e => cases ho
    · refine .inl ⟨h3, .inl ?_⟩
      subst hk
      cases t with
      | val d => exact ⟨d, rfl⟩
      | no => exact absurd rfl n
      | own d => rw [h3] at ho; cases ho
  · refine .inr ⟨j + 1, d, h1, h2, h3, ?_⟩
    rcases back1_get h4 with ⟨hk, h5⟩ | ⟨hk, ho, h5⟩ | ⟨hk, ho, h5⟩
    · exact ⟨e, h5⟩
    · subst hk
      cases q : ρ[k]? with
      | none => rw [q] at ho; cases ho
      | some x => rw [q] at ho; cases x with
       | own e => exact ⟨e, rfl⟩
       | no => cases ho
       | val e => cases ho
    · exact ⟨e, h5⟩
 | .val _ :: rs, _ :: ss, ρ, k, t, h, n => by
  unfold back at h
  rcases back_get h n with ⟨h1, h2⟩ | ⟨j, d, h1, h2, h3, h4⟩
  · refine .inl ⟨h1, ?_⟩
    rcases h2 with h2 | h2
    · exact .inl h2
    · refine .inr fun j hj z => ?_
      cases j with
      | zero => cases z
      | succ j => exact h2 j (Nat.lt_of_succ_lt_succ hj) z
  · exact .inr ⟨j + 1, d, h1, h2, h3, h4⟩
 | .own _ :: rs, _ :: ss, ρ, k, t, h, n => by
  unfold back at h
  rcases back_get h n with ⟨h1, h2⟩ | ⟨j, d, h1, h2, h3, h4⟩
  · refine .inl ⟨h1, ?_⟩
    rcases h2 with h2 | h2
    · exact .inl h2
    · refine .inr fun j hj z => ?_
      cases j with
      | zero => cases z
      | succ j => exact h2 j (Nat.lt_of_succ_lt_succ hj) z
  · exact .inr ⟨j + 1, d, h1, h2, h3, h4⟩
 | [], ss, ρ, k, t, h, n => .inl ⟨h, .inr fun j _ z => by cases z⟩
 | .ali i :: rs, [], ρ, k, t, h, n => .inl ⟨h, .inr fun j hj => absurd hj (Nat.not_lt_zero _)⟩
 | .val i :: rs, [], ρ, k, t, h, n => .inl ⟨h, .inr fun j hj => absurd hj (Nat.not_lt_zero _)⟩
 | .own i :: rs, [], ρ, k, t, h, n => .inl ⟨h, .inr fun j hj => absurd hj (Nat.not_lt_zero _)⟩
def Handed (σ : L2.St) (ρ : List S) (H : Hp) (rs : List Rv) (x : Addr) : Prop := ∃ (j i : Nat) (d : D) (a : Addr), rs[j]? = some (.ali i) ∧ ρ[i]? = some (.own d) ∧ σ[i]? = some (some (.ref a)) ∧ (x = a ∨ ∃ C fs, H a = some (.ins C x fs))
open Classical in
noncomputable def calleeF (σ : L2.St) (ρ : List S) (G H : Hp) (rs : List Rv) : Hp := fun x => if (∃ o, G x = some o) ∨ Handed σ ρ H rs x then none else H x
theorem calleeF_some {x : Addr} {o : HO} (h : calleeF σ ρ G H rs x = some o) : G x = none ∧ ¬ Handed σ ρ H rs x ∧ H x = some o := by
 unfold calleeF at h
 split at h
 · cases h
 · rename_i hn
   refine ⟨?_, fun z => hn (.inr z), h⟩
   cases q : G x with
   | none => rfl
   | some u => exact absurd (.inl ⟨u, q⟩) hn
theorem calleeF_of {x : Addr} {o : HO} (h1 : G x = none) (h2 : ¬ Handed σ ρ H rs x) (h3 : H x = some o) : calleeF σ ρ G H rs x = some o := by
 unfold calleeF
 rw [if_neg (fun z => by
  rcases z with ⟨u, z⟩ | z
  · rw [h1] at z; cases z
  · exact h2 z)]
 exact h3
theorem handed_f (R : Rst K c G H σ ρ) {x : Addr} (h : Handed σ ρ H rs x) : c.F x = none := by
 obtain ⟨j, i, d, a, h1, h2, h3, h4⟩ := h
 obtain ⟨a', k1, k2, k3, k4⟩ := R.own i d h2
 rw [h3] at k1; cases k1
 rcases h4 with rfl | ⟨C, fs, h4⟩
 · exact k3
 · cases d with
   | lst ds => obtain ⟨xs, q, _⟩ := k4; rw [h4] at q; cases q
   | dic ks vs => obtain ⟨xs, q, _⟩ := k4; rw [h4] at q; cases q
   | ndi ks vs => obtain ⟨xs, q, _⟩ := k4; rw [h4] at q; cases q
   | obj cc ns ds => obtain ⟨dx, xs, q1, q2, q3, q4, _⟩ := k4; rw [h4] at q1; cases q1; exact q4
   | _ => exact k4.elim
theorem frame_in (R : Rst K c G H σ ρ) {x : Addr} {o : HO} (h : c.F x = some o) : calleeF σ ρ G H rs x = some o :=
 calleeF_of (R.fg _ _ h) (fun z => by rw [handed_f R z] at h; cases h) (R.fh _ _ h)
theorem own_in (R : Rst K c G H σ ρ) {k : Nat} {d : D} {a : Addr} (h : ρ[k]? = some (.own d)) (hs : σ[k]? = some (some (.ref a))) (n : ∀ j : Nat, rs[j]? ≠ some (.ali k)) : ∃ o, calleeF σ ρ G H rs a = some o ∧ ∀ b, H b = some (.own a) → G b = none → calleeF σ ρ G H rs b = some (.own a) := by
 obtain ⟨a', k1, k2, k3, k4⟩ := R.own k d h
 rw [hs] at k1; cases k1
 obtain ⟨o, ho, hno⟩ := k4.at
 refine ⟨o, calleeF_of k2 (fun ⟨j, i, e, b, h1, h2, h3, h4⟩ => ?_) ho, fun b hb gb => calleeF_of gb (fun ⟨j, i, e, b', h1, h2, h3, h4⟩ => ?_) hb⟩
 · rcases h4 with rfl | ⟨C, fs, h4⟩
   · exact n j (by rw [h1, R.ne i k e d a h2 h h3 hs])
   · obtain ⟨b', q1, q2, q3, q4⟩ := R.own i e h2
     rw [h3] at q1; cases q1
     cases e with
     | lst ds => obtain ⟨xs, z, _⟩ := q4; rw [h4] at z; cases z
     | dic ks vs => obtain ⟨xs, z, _⟩ := q4; rw [h4] at z; cases z
     | ndi ks vs => obtain ⟨xs, z, _⟩ := q4; rw [h4] at z; cases z
     | obj cc ns ds =>
      obtain ⟨dx, xs, z1, z2, _⟩ := q4
      rw [h4] at z1; cases z1
      rw [ho] at z2; exact hno b (Option.some.inj z2)
     | _ => exact q4.elim
 · obtain ⟨b2, q1, q2, q3, q4⟩ := R.own i e h2
   rw [h3] at q1; cases q1
   rcases h4 with rfl | ⟨C, fs, h4⟩
   · obtain ⟨o2, ho2, hno2⟩ := q4.at
     rw [hb] at ho2; exact hno2 a (Option.some.inj ho2).symm
   · cases e with
     | lst ds => obtain ⟨xs, z, _⟩ := q4; rw [h4] at z; cases z
     | dic ks vs => obtain ⟨xs, z, _⟩ := q4; rw [h4] at z; cases z
     | ndi ks vs => obtain ⟨xs, z, _⟩ := q4; rw [h4] at z; cases z
     | obj cc ns ds =>
      obtain ⟨dx, xs, z1, z2, _⟩ := q4
      rw [h4] at z1; cases z1
      rw [hb] at z2; cases z2
      exact n j (by rw [h1, R.ne i k (.obj cc ns ds) d a h2 h h3 hs])
     | _ => exact q4.elim
theorem ow_frame {F F' : Hp} {a : Addr} {d : D} (h : Ow K F G H a d) (le : ∀ x o, F' x = some o → F x = some o) : Ow K F' G H a d := h.fmono fun b _ fb => by
 cases q : F' b with
 | none => rfl
 | some o => rw [le b o q] at fb; cases fb
theorem Rst.callee (R : Rst K c G H σ ρ) (hv : RpRs K G σ vs rs) (hd : dist rs = true) (hs : ssOfs ρ rs = some ss) : Rst K ⟨calleeF σ ρ G H rs, vs.map some⟩ G H (vs.map some) ss := by
 obtain ⟨l1, l2, get⟩ := dargs_get hv hs
 have gets : ∀ {j : Nat} {s : S}, ss[j]? = some s → ∃ v r, vs[j]? = some v ∧ rs[j]? = some r ∧ ssOf ρ r = some s ∧ RpRs K G σ [v] [r] := fun {j s} h => by
  have hj : j < vs.length := by
   have := (List.getElem?_eq_some_iff.mp h).1
   omega
  obtain ⟨r, s', k1, k2, k3, k4⟩ := get j vs[j] (List.getElem?_eq_getElem hj)
  rw [h] at k2; cases k2
  exact ⟨vs[j], r, List.getElem?_eq_getElem hj, k1, k3, k4⟩
 have own : ∀ {j : Nat} {d : D}, ss[j]? = some (.own d) → ∃ (i : Nat) (a : Addr), rs[j]? = some (.ali i) ∧ ρ[i]? = some (.own d) ∧ σ[i]? = some (some (.ref a)) ∧ vs[j]? = some (.ref a) := fun {j d} h => by
  obtain ⟨v, r, k1, k2, k3, k4⟩ := gets h
  cases r with
  | val e => cases k3
  | own e => cases k3
  | ali i =>
   unfold ssOf at k3
   dsimp only at k3
   cases q : ρ[i]? with
   | none => rw [q] at k3; cases k3
   | some x =>
    rw [q] at k3
    cases x with
    | no => cases k3
    | val e => cases k3
    | own e =>
     cases k3
     obtain ⟨a, m1, _⟩ := R.own i _ q
     have m2 : σ[i]? = some (some v) := k4.1
     rw [m1] at m2; cases m2
     exact ⟨i, a, k2, q, m1, k1⟩
 refine ⟨fun x o h => (calleeF_some h).2.2, R.gh, fun x o h => (calleeF_some h).1, by rw [List.length_map, l1], fun j d h => ?_, fun j d h => ?_, fun j k d e a h1 h2 r1 r2 => ?_, fun j d h hl => rfl⟩
 · obtain ⟨v, r, k1, k2, k3, k4⟩ := gets h
   refine ⟨v, by rw [List.getElem?_map, k1]; rfl, ?_⟩
   cases r with
   | val e => cases k3; exact k4.1
   | own e => cases k3
   | ali i =>
    unfold ssOf at k3
    dsimp only at k3
    cases q : ρ[i]? with
    | none => rw [q] at k3; cases k3
    | some x =>
     rw [q] at k3
     cases x with
     | no => cases k3
     | own e => cases k3
     | val e =>
      cases k3
      obtain ⟨u, m1, m3⟩ := R.val i _ q
      have m2 : σ[i]? = some (some v) := k4.1
      rw [m1] at m2; cases m2
      exact m3
 · obtain ⟨i, a, k1, k2, k3, k4⟩ := own h
   obtain ⟨a', m1, m2, m3, m4⟩ := R.own i d k2
   rw [k3] at m1; cases m1
   have hh : ∀ x, (x = a ∨ ∃ C fs, H a = some (.ins C x fs)) → calleeF σ ρ G H rs x = none := fun x hx => by
    unfold calleeF
    rw [if_pos (.inr ⟨j, i, d, a, k1, k2, k3, hx⟩)]
   refine ⟨a, by rw [List.getElem?_map, k4]; rfl, m2, hh a (.inl rfl), ?_⟩
   cases d with
   | lst ds => exact m4
   | dic ks vs => exact m4
   | ndi ks vs => exact m4
   | obj cc ns ds =>
    obtain ⟨dx, xs, z1, z2, z3, z4, z5⟩ := m4
    exact ⟨dx, xs, z1, z2, z3, hh dx (.inr ⟨_, _, z1⟩), z5⟩
   | _ => exact m4.elim
 · obtain ⟨i, b, k1, k2, k3, k4⟩ := own h1
   obtain ⟨i', b', m1, m2, m3, m4⟩ := own h2
   rw [List.getElem?_map, k4] at r1
   rw [List.getElem?_map, m4] at r2
   have e1 : b = a := by simpa using r1
   have e2 : b' = a := by simpa using r2
   subst e1
   subst e2
   have hi := R.ne i i' d e b' k2 m2 k3 m3
   subst hi
   exact dist_ne hd k1 m1
theorem Rst.called (R : Rst K c G H σ ρ) (hv : RpRs K G σ vs rs) (hs : ssOfs ρ rs = some ss) (s : Same G G') (R' : Rst K ⟨calleeF σ ρ G H rs, vs.map some⟩ G' H' (vs.map some) ss') : Rst K c G' H' σ (back rs ss' ρ) := by
 obtain ⟨l1, l2, get⟩ := dargs_get hv hs
 have l3 : ss'.length = vs.length := by rw [R'.len, List.length_map]
 have le : ∀ x o, c.F x = some o → calleeF σ ρ G H rs x = some o := fun x o h => frame_in R h
 have arg : ∀ {j i : Nat}, rs[j]? = some (.ali i) → ∃ v, vs[j]? = some v ∧ σ[i]? = some (some v) := fun {j i} h => by
  have hj : j < vs.length := by
   have := (List.getElem?_eq_some_iff.mp h).1
   omega
  obtain ⟨r, s', k1, k2, k3, k4⟩ := get j vs[j] (List.getElem?_eq_getElem hj)
  rw [h] at k1; cases k1
  exact ⟨vs[j], List.getElem?_eq_getElem hj, k4.1⟩
 have own : ∀ {k : Nat} {d : D}, (back rs ss' ρ)[k]? = some (.own d) → (ρ[k]? = some (.own d) ∧ ∀ j : Nat, rs[j]? ≠ some (.ali k)) ∨ ∃ (j : Nat) (e : D), rs[j]? = some (.ali k) ∧ ss'[j]? = some (.own d) ∧ ρ[k]? = some (.own e) := fun {k d} h => by
  rcases back_get h (by intro z; cases z) with ⟨h1, h2⟩ | ⟨j, d', h1, h2, h3, e, h4⟩
  · rcases h2 with ⟨d', h2⟩ | h2
    · cases h2
    · refine .inl ⟨h1, fun j z => ?_⟩
      have hj : j < ss'.length := by
       have := (List.getElem?_eq_some_iff.mp z).1
       omega
      exact h2 j hj z
  · cases h1
    exact .inr ⟨j, e, h2, h3, h4⟩
 refine ⟨fun x o h => R'.fh x o (le x o h), R'.gh, fun x o h => R'.fg x o (le x o h), by rw [back_length, R.len], fun k d h => ?_, fun k d h => ?_, fun k k' d d' a h1 h2 r1 r2 => ?_, fun k d h hl => ?_⟩
 · rcases back_get h (by intro z; cases z) with ⟨h1, _⟩ | ⟨j, d', h1, _⟩
   · obtain ⟨v, q1, q2⟩ := R.val k d h1
     exact ⟨v, q1, q2.mono s⟩
   · cases h1
 · rcases own h with ⟨h1, h2⟩ | ⟨j, e, h1, h2, h3⟩
   · obtain ⟨a, q1, q2, q3, q4⟩ := R.own k d h1
     obtain ⟨o, z1, z2⟩ := own_in R h1 q1 h2
     refine ⟨a, q1, R'.fg _ _ z1, q3, ?_⟩
     have ha : H' a = H a := by rw [R'.fh _ _ z1, (calleeF_some z1).2.2]
     cases d with
     | lst ds => obtain ⟨xs, y1, y2⟩ := q4; exact ⟨xs, by rw [ha]; exact y1, y2.mono s⟩
     | dic ks vs => obtain ⟨xs, y1, y2, y3⟩ := q4; exact ⟨xs, by rw [ha]; exact y1, y2.mono s, y3.mono s⟩
     | ndi ks vs => obtain ⟨xs, y1, y0, y2, y3⟩ := q4; exact ⟨xs, by rw [ha]; exact y1, y0, y2.mono s, y3.mono s⟩
     | obj cc ns ds =>
      obtain ⟨dx, xs, y1, y2, y3, y4, y5, y6, y7⟩ := q4
      have zd := z2 dx y2 y3
      exact ⟨dx, xs, by rw [ha]; exact y1, R'.fh _ _ zd, R'.fg _ _ zd, y4, y5, y6, y7.mono s⟩
     | _ => exact q4.elim
   · obtain ⟨v, m1, m2⟩ := arg h1
     obtain ⟨a, q1, q2, q3, q4⟩ := R'.own j d h2
     rw [List.getElem?_map, m1] at q1
     have e1 : v = .ref a := by simpa using q1
     subst e1
     refine ⟨a, m2, q2, ?_, ow_frame q4 le⟩
     cases q : c.F a with
     | none => rfl
     | some o => exact nomatch (show (none : Option HO) = some o from q3.symm.trans (le a o q))
 ·
   have hid : ∀ {k j : Nat} {d : D}, rs[j]? = some (.ali k) → ss'[j]? = some (.own d) → σ[k]? = some (some (.ref a)) → (vs.map some)[j]? = some (some (.ref a)) := fun {k j d} h1 h2 h3 => by
    obtain ⟨v, m1, m2⟩ := arg h1
    rw [h3] at m2; cases m2
    rw [List.getElem?_map, m1]; rfl
   rcases own h1 with ⟨p1, p2⟩ | ⟨j, e, p1, p2, p3⟩
   · rcases own h2 with ⟨q1, q2⟩ | ⟨j', e', q1, q2, q3⟩
     · exact R.ne k k' d d' a p1 q1 r1 r2
     · exact R.ne k k' d e' a p1 q3 r1 r2
   · rcases own h2 with ⟨q1, q2⟩ | ⟨j', e', q1, q2, q3⟩
     · exact R.ne k k' e d' a p3 q1 r1 r2
     · exact R.ne k k' e e' a p3 q3 r1 r2
 · rcases own h with ⟨h1, _⟩ | ⟨j, e, _, _, h3⟩
   · exact R.par k d h1 hl
   · exact R.par k e h3 hl
theorem RpR.called {v : V} {r : Rv} (R : Rst K c G H σ ρ) (hv : RpRs K G σ vs rs) (hs : ssOfs ρ rs = some ss) (R' : Rst K ⟨calleeF σ ρ G H rs, vs.map some⟩ G' H' (vs.map some) ss') (na : ∀ i, r ≠ .ali i) (h : RpR K ⟨calleeF σ ρ G H rs, vs.map some⟩ G' H' (vs.map some) ss' v r) : RpR K c G' H' σ (back rs ss' ρ) v r := by
 cases r with
 | val d => exact h
 | ali i => exact absurd rfl (na i)
 | own d =>
  obtain ⟨a, h1, h2, h3, h4, h5⟩ := h
  have le : ∀ x o, c.F x = some o → calleeF σ ρ G H rs x = some o := fun x o h => frame_in R h
  refine ⟨a, h1, h2, ?_, ow_frame h4 le, fun k e q z => ?_⟩
  · cases q : c.F a with
    | none => rfl
    | some o => exact nomatch (show (none : Option HO) = some o from h3.symm.trans (le a o q))
  · obtain ⟨l1, l2, get⟩ := dargs_get hv hs
    have l3 : ss'.length = vs.length := by rw [R'.len, List.length_map]
    rcases back_get q (by intro z; cases z) with ⟨p1, p2⟩ | ⟨j, d', p1, p2, p3, e', p4⟩
    · rcases p2 with ⟨d', p2⟩ | p2
      · cases p2
      · obtain ⟨o, z1, z2⟩ := own_in (rs := rs) R p1 z (fun j zz => p2 j (by
          have := (List.getElem?_eq_some_iff.mp zz).1
          omega) zz)
        exact nomatch (show (none : Option HO) = some o from h3.symm.trans z1)
    · cases p1
      have hj : j < vs.length := by
       have := (List.getElem?_eq_some_iff.mp p2).1
       omega
      obtain ⟨r, s', k1, k2, k3, k4⟩ := get j vs[j] (List.getElem?_eq_getElem hj)
      rw [p2] at k1; cases k1
      have k5 : σ[k]? = some (some vs[j]) := k4.1
      rw [z] at k5
      have e5 : vs[j] = .ref a := by simpa using k5.symm
      exact h5 j e p3 (by rw [List.getElem?_map, List.getElem?_eq_getElem hj, e5]; rfl)
theorem Rst.grown (R : Rst K c G H σ ρ) (s : Same H H') : Rst K c G H' σ ρ where
 fh := R.fh.trans s
 gh := R.gh.trans s
 fg := R.fg
 len := R.len
 val := R.val
 own := fun i d e => by
  obtain ⟨a, h1, h2, h3, h4⟩ := R.own i d e
  refine ⟨a, h1, h2, h3, ?_⟩
  cases d with
  | lst ds => obtain ⟨xs, q1, q2⟩ := h4; exact ⟨xs, s _ _ q1, q2⟩
  | obj c ns ds => obtain ⟨dx, xs, q1, q2, q3, q4, q5, q6, q7⟩ := h4; exact ⟨dx, xs, s _ _ q1, s _ _ q2, q3, q4, q5, q6, q7⟩
  | dic ks vs => obtain ⟨kvs, q1, q2, q3⟩ := h4; exact ⟨kvs, s _ _ q1, q2, q3⟩
  | ndi ks vs => obtain ⟨kvs, q1, q2⟩ := h4; exact ⟨kvs, s _ _ q1, q2⟩
  | _ => exact h4.elim
 ne := R.ne
 par := R.par
theorem sca_rp {d : D} {v : V} (h : scaD d = true) (k : Rp K G d v) : Rp K G' d v := by
 cases d <;> first | exact k | cases h
end
structure DF (P : Program) (w : World) (K : PySem.W.Frag) (mg : Str → Option Value) (base : Heap) (x : Str) (k np : Nat) (fn : Fn) : Prop where
 len : ∀ ss o, fn ss = some o → ss.length = np
 ex : ∃ (f : Addr) (fd : FuncData) (ps : List Str), mg x = some (.ref f) ∧ PySem.W.keepIn K (.ref f) = true ∧ Binds K fd ps [] ∧ FnOk P w K mg base (L2N.CX P w) k f fd ps (spD K np fn)
theorem wish_of {X : Cx} {W : WX} (tk : L2N.Takes X W) (σ : L2.St) : PassesAt (L2N.CX X.prog X.w) X σ (WE W σ) := L2N.passAt tk σ
theorem call_sp {X : Cx} {W : WX} {np : Nat} {fn : Fn} {mu : List Bool} {c : Cn} {G0 G H : Hp} {σ : L2.St} {ρ : List S} {rs : List Rv} {vs : List V} {Q : VK} (R : Rst X.K c G H σ ρ) (s0 : Same G0 G) (hv : RpRs X.K G σ vs rs) (hl : ∀ ss o, fn ss = some o → ss.length = np)
  (w : wpM (callM mu fn rs ρ) (fun r ρ' => ∀ v G' H', Rst X.K c G' H' σ ρ' → Same G0 G' → RpR X.K c G' H' σ ρ' v r → Q v H') (EXk X.K c W σ G0)) : spD X.K np fn vs H Q (WE W σ) := by
 unfold callM at w
 have wp : wpM (prep mu rs ρ) (fun rs' ρ1 => wpM (if dist rs' = true then (match ssOfs ρ1 rs' with
  | some ss => (match fn ss with
   | some (.ret q ss') => if (noAli rs' && scaR q) = true then some (.ok q ρ) else (match q with
    | .ali _ => none
    | q => some (.ok q (back rs' ss' ρ1)))
   | some (.ex e ss') => some (.ex e (back rs' ss' ρ1))
   | none => none)
  | none => none) else none) (fun r ρ' => ∀ v G' H', Rst X.K c G' H' σ ρ' → Same G0 G' → RpR X.K c G' H' σ ρ' v r → Q v H') (EXk X.K c W σ G0)) (fun _ _ => False) := by
  cases q : prep mu rs ρ with
  | none => rw [q] at w; exact w
  | some o => cases o with
   | ok a ρ1 => rw [q] at w; exact w
   | ex e ρ1 => rw [q] at w; exact w.elim
 obtain ⟨rs', G1, ρ1, s1, R1, k1, w1⟩ := prep_wp R hv wp
 by_cases hd : dist rs' = true
 · rw [if_pos hd] at w1
   cases hs : ssOfs ρ1 rs' with
   | none => rw [hs] at w1; exact w1.elim
   | some ss =>
    rw [hs] at w1
    dsimp only at w1
    cases hf : fn ss with
    | none => rw [hf] at w1; exact w1.elim
    | some o =>
     rw [hf] at w1
     refine ⟨⟨calleeF σ ρ1 G1 H rs', vs.map some⟩, G1, ss, o, by rw [← hl ss o hf]; exact (dargs_get k1 hs).1.symm, rfl, R1.callee k1 hd hs, hf, ?_⟩
     cases o with
     | ret q ss' =>
      intro v G' H' R' s' kq
      dsimp only at w1
      by_cases hc : (noAli rs' && scaR q) = true
      · rw [if_pos hc] at w1
        obtain ⟨h1, h2⟩ := Bool.and_eq_true_iff.mp hc
        have same : Same H H' := fun x o hx => by
         cases g : G1 x with
         | some u =>
          have e1 := R1.gh _ _ g
          rw [hx] at e1; cases e1
          exact R'.gh _ _ (s' _ _ g)
         | none => exact R'.fh _ _ (calleeF_of g (fun ⟨j, i, d, a, z, _⟩ => noAli_not h1 z) hx)
        have Rq : Rst X.K c G H' σ ρ := R.grown same
        cases q with
        | val d => exact w1 v G H' Rq s0 (sca_rp h2 kq)
        | own d => cases h2
        | ali i => cases h2
      · rw [if_neg hc] at w1
        cases q with
        | ali i => exact w1.elim
        | val d => exact w1 v G' H' (R1.called k1 hs s' R') ((s0.trans s1).trans s') (RpR.called R1 k1 hs R' (fun i z => nomatch z) kq)
        | own d => exact w1 v G' H' (R1.called k1 hs s' R') ((s0.trans s1).trans s') (RpR.called R1 k1 hs R' (fun i z => nomatch z) kq)
     | ex e ss' =>
      intro cls d G' H' R' s' xa
      exact w1 cls d G' H' (R1.called k1 hs s' R') ((s0.trans s1).trans s') xa
 · rw [if_neg hd] at w1; exact w1.elim
def eCall (mu : List Bool) (fn : Fn) (ga : M (List Rv)) : M Rv := do
 let rs ← ga
 callM mu fn rs
section
variable {X : Cx} {W : WX} {x : Str} {k np : Nat} {fn : Fn} {mu : List Bool} {e : Expr} {es : List Expr} {ga : M (List Rv)} {p pos : Pos}
theorem de_call (mu : List Bool) (go : Go X W) (F : DF X.prog X.w X.K X.mg X.base x k np fn) (hr : Room k X.A) (hg : Gl X x) (ha : DA X W (e :: es) ga)
  (hdb : (x == ("__debug__" : Str)) = false := by decide) (he : starEach (e :: es) X.env = (false, eval e X.env) :: starEach es X.env := by rfl) (hpl : (backTo pos (starEach es X.env)).any (·.1) = false := by rfl) :
  DE X W (.Call (.Name x p) (e :: es) [] pos) (eCall mu fn ga) := by
 obtain ⟨f, fd, ps, hm, hk, hb, FO⟩ := F.ex
 refine ⟨(pe_callSD (E := WE W) FO hr hg hm hk hb .nil (wish_of go.tk) ha.pa hdb he hpl).weak fun σ H Q ⟨c, G, ρ, R, w⟩ => ?_⟩
 refine tg_step R (Same.refl G) w fun rs ρ1 vs G1 H1 R1 s1 _ k1 w1 => ?_
 rw [List.append_nil]
 exact call_sp R1 s1 k1 F.len w1
end
end Dl
namespace Dl
open PySem L2
section
variable {K : PySem.W.Frag} {c : Cn} {G G' H H' : Hp} {σ : L2.St} {ρ : List S} {a p : Addr} {d d' : D} {o' : HO} {i : Nat} {v : V}
theorem Rst.own_store (R : Rst K c G H σ ρ) (h : ρ[i]? = some (.own d)) (hs : σ[i]? = some (some (.ref a))) (hw : Ow K c.F G (upd H a o') a d') : Rst K c G (upd H a o') σ (ρ.set i (.own d')) := by
 obtain ⟨a', k1, k2, k3, k4⟩ := R.own i d h
 rw [hs] at k1; cases k1
 obtain ⟨oa, hoa, hno⟩ := k4.at
 have hl : i < ρ.length := (List.getElem?_eq_some_iff.mp h).1
 have oth : ∀ {j : Nat} {e : D}, (ρ.set i (.own d'))[j]? = some (.own e) → (j = i ∧ e = d') ∨ (j ≠ i ∧ ρ[j]? = some (.own e)) := fun {j e} q => by
  rcases set_cases q with ⟨q1, _, q2⟩ | q
  · cases q2; exact .inl ⟨q1, rfl⟩
  · exact .inr q
 refine ⟨fun b u e => by rw [upd_ne (ne_of_none e k3)]; exact R.fh _ _ e, fun b u e => by rw [upd_ne (ne_of_none e k2)]; exact R.gh _ _ e, R.fg, by rw [List.length_set, R.len], fun j e q => ?_, fun j e q => ?_, fun j k e f b q1 q2 r1 r2 => ?_, fun j e q hlt => ?_⟩
 · rcases set_cases q with ⟨_, _, q2⟩ | ⟨_, q⟩
   · cases q2
   · exact R.val j e q
 · rcases oth q with ⟨rfl, rfl⟩ | ⟨hj, q⟩
   · exact ⟨a, hs, k2, k3, hw⟩
   · obtain ⟨b, m1, m2, m3, m4⟩ := R.own j e q
     have nb : b ≠ a := fun z => by subst z; exact hj (R.ne j i e d b q h m1 hs)
     refine ⟨b, m1, m2, m3, ?_⟩
     cases e with
     | lst ds => obtain ⟨xs, z1, z2⟩ := m4; exact ⟨xs, by rw [upd_ne nb]; exact z1, z2⟩
     | dic ks vs => obtain ⟨xs, z1, z2⟩ := m4; exact ⟨xs, by rw [upd_ne nb]; exact z1, z2⟩
     | ndi ks vs => obtain ⟨xs, z1, z2⟩ := m4; exact ⟨xs, by rw [upd_ne nb]; exact z1, z2⟩
     | obj cc ns ds =>
      obtain ⟨dx, xs, z1, z2, z3⟩ := m4
      have nd : dx ≠ a := fun z => by subst z; rw [hoa] at z2; exact hno b (Option.some.inj z2)
      exact ⟨dx, xs, by rw [upd_ne nb]; exact z1, by rw [upd_ne nd]; exact z2, z3⟩
     | _ => exact m4.elim
 · have back : ∀ {j : Nat} {e : D}, (ρ.set i (.own d'))[j]? = some (.own e) → ∃ e', ρ[j]? = some (.own e') := fun {j e} q => by
     rcases oth q with ⟨rfl, rfl⟩ | ⟨hj, q⟩
     · exact ⟨d, h⟩
     · exact ⟨e, q⟩
   obtain ⟨e', q1'⟩ := back q1
   obtain ⟨f', q2'⟩ := back q2
   exact R.ne j k e' f' b q1' q2' r1 r2
 · rcases oth q with ⟨rfl, rfl⟩ | ⟨hj, q⟩
   · exact R.par j d h hlt
   · exact R.par j e q hlt
end
def ownLst (r : Rv) (ρ : List S) : Option (Nat × List D) := match r with
 | .ali i => match ρ[i]? with
  | some (.own (.lst ds)) => some (i, ds)
  | _ => none
 | _ => none
theorem ownLst_ok {K : PySem.W.Frag} {c : Cn} {G H : Hp} {σ : L2.St} {ρ : List S} {v : V} {r : Rv} {i : Nat} {ds : List D} (R : Rst K c G H σ ρ) (k : RpRs K G σ [v] [r]) (e : ownLst r ρ = some (i, ds)) :
  ∃ a xs, v = .ref a ∧ σ[i]? = some (some (.ref a)) ∧ ρ[i]? = some (.own (.lst ds)) ∧ H a = some (.lst xs) ∧ RpL K G ds xs := by
 cases r with
 | val d => cases e
 | own d => cases e
 | ali j =>
  unfold ownLst at e
  dsimp only at e
  cases q : ρ[j]? with
  | none => rw [q] at e; cases e
  | some s =>
   rw [q] at e
   cases s with
   | no => cases e
   | val d => cases e
   | own d =>
    cases d <;> first
     | (cases e; done)
     | (cases e
        obtain ⟨a, h1, h2, h3, xs, h4, h5⟩ := R.own _ _ q
        have h6 : σ[_]? = some (some v) := k.1
        rw [h1] at h6
        have h7 : v = .ref a := by simpa using h6.symm
        exact ⟨a, xs, h7, h1, q, h4, h5⟩)
theorem Rst.lst_store {K : PySem.W.Frag} {c : Cn} {G H : Hp} {σ : L2.St} {ρ : List S} {i : Nat} {ds ds' : List D} {a : Addr} {xs' : List V} (R : Rst K c G H σ ρ) (hs : σ[i]? = some (some (.ref a))) (h : ρ[i]? = some (.own (.lst ds))) (r : RpL K G ds' xs') :
  Rst K c G (upd H a (.lst xs')) σ (ρ.set i (.own (.lst ds'))) := R.own_store h hs ⟨xs', upd_same, r⟩
def ckL (r : Rv) : M Unit := fun ρ => match ownLst r ρ with
 | some _ => some (.ok () ρ)
 | none => none
def mAppend (fo fa : M Rv) : M Rv := do
 let r ← fo
 ckL (settle r)
 let x ← fa
 let d ← toV (settle x)
 fun ρ => match ownLst (settle r) ρ with
  | some (i, ds) => if ds.length < sizeLine then some (.ok (.val .non) (ρ.set i (.own (.lst (ds ++ [d]))))) else none
  | none => none
def mExtend (fo fa : M Rv) : M Rv := do
 let r ← fo
 ckL (settle r)
 let x ← fa
 let d ← peek (settle x)
 fun ρ => match ownLst (settle r) ρ, d with
  | some (i, ds), .lst es => if ds.length + es.length ≤ sizeLine then some (.ok (.val .non) (ρ.set i (.own (.lst (ds ++ es))))) else none
  | _, _ => none
def mClear (fo : M Rv) : M Rv := do
 let r ← fo
 ckL (settle r)
 fun ρ => match ownLst (settle r) ρ with
  | some (i, ds) => some (.ok (.val .non) (ρ.set i (.own (.lst []))))
  | none => none
theorem ckL_wp {K : PySem.W.Frag} {c : Cn} {G H : Hp} {σ : L2.St} {ρ : List S} {v : V} {r : Rv} {OK : Unit → List S → Prop} {EX : Xn → List S → Prop} (R : Rst K c G H σ ρ) (k : RpRs K G σ [v] [r]) (w : wpM (ckL r ρ) OK EX) : tyV K "list" v H ∧ OK () ρ := by
 unfold ckL at w
 cases e : ownLst r ρ with
 | none => rw [e] at w; exact w.elim
 | some q =>
  rw [e] at w
  obtain ⟨a, xs, rfl, _, _, h, _⟩ := ownLst_ok (i := q.1) (ds := q.2) R k e
  exact ⟨.inl ⟨rfl, xs, .inl (.inl h)⟩, w⟩
section
variable {X : Cx} {W : WX} {np : Nat} {o e a b : Expr} {es : List Expr} {fo fa fb : M Rv} {ga : M (List Rv)} {pos apos cpos p : Pos}
theorem de_append (ho : DE X W o fo) (ha : DE X W e fa) (hbase : attributeBase o "append" X.env (eval o X.env) = eval o X.env := by rfl)
  (hfew : ((backTo cpos (starEach [e] X.env)).all (fun x => !x.1) && (backToKw cpos (keywordEach [] X.env)).all (fun x => x.1.isSome) && decide ([e].length + ([] : List Keyword).length + (if ([] : List Keyword).isEmpty then 0 else 1) < 30)) = true := by rfl)
  (hline : (apos.endLine == cpos.line) = true := by rfl) (hs : starEach [e] X.env = (false, eval e X.env) :: starEach [] X.env := by rfl) (hplain : (backTo cpos (starEach [] X.env)).any (·.1) = false := by rfl) : DE X W (.Call (.Attribute o "append" apos) [e] [] cpos) (mAppend fo fa) :=
 ⟨(pe_bm PySem.F.plainAttrs_list PySem.F.slot_list_append PySem.F.type_list_append mt_append ho.pe (pa_cons ha.pe pa_nil hs) hbase hfew hline hs hplain).weak fun σ H Q ⟨c, G, ρ, R, w⟩ => by
  refine tg_step R (Same.refl G) w fun r ρ1 v G1 H1 R1 s1 _ k1 w1 => ?_
  obtain ⟨G1', s1', R1', k1'⟩ := settle_ok R1 k1
  obtain ⟨ty, w1⟩ := ckL_wp R1' k1' (wpM_bind w1)
  refine ⟨ty, ?_⟩
  refine tg_step R1' (s1.trans s1') w1 fun x ρ2 u G2 H2 R2 s2 s12 k2 w2 => ?_
  obtain ⟨G2', s2', R2', k2'⟩ := settle_ok R2 k2
  obtain ⟨d, G3, ρ3, s3, R3, k3, w3⟩ := toV_wp R2' k2'.one (wpM_bind w2)
  cases e1 : ownLst (settle r) ρ3 with
  | none => rw [e1] at w3; exact w3.elim
  | some q =>
   obtain ⟨i, ds⟩ := q
   rw [e1] at w3
   dsimp only at w3
   obtain ⟨a, xs, rfl, hs, hr, ha, hx⟩ := ownLst_ok R3 (((k1'.mono s12).mono s2').mono s3) e1
   by_cases hz : ds.length < sizeLine
   · rw [if_pos hz] at w3
     refine ⟨a, xs, u, rfl, rfl, ha, by rw [hx.length]; exact hz, ?_⟩
     exact w3 _ G3 _ (R3.lst_store hs hr (hx.append (RpL.one k3))) ((s2.trans s2').trans s3) rfl
   · rw [if_neg hz] at w3; exact w3.elim⟩
def sSetIx (fa fo fi : M Rv) : MS := thenS fa fun x => thenS (toV x) fun d => thenS fo fun r => thenS fi fun j => thenS (peek (settle j)) fun e ρ =>
 match ownLst (settle r) ρ, e with
  | some (i, ds), .int k => (ixN ds.length k).map fun n => .nx (ρ.set i (.own (.lst (ds.set n d))))
  | _, _ => none
theorem ds_setIx (ha : DE X W e fa) (ho : DE X W o fo) (hi : DE X W a fb) (hset : ∀ v, assign (.Subscript o a pos) X.env v = (do
      let ov ← holding [v] (eval o X.env)
      let iv ← holding [v, ov] (eval a X.env)
      standAt pos
      holding [v, ov, iv] (setItem ov iv v)
      release [v, ov, iv] []) := by intro _; rfl) (hs : swapsWithSole [.Subscript o a pos] e p.line X.env = pure false := by rfl) (hw : swappedStores [.Subscript o a pos] e X.env = pure none := by rfl)
  (h1 : (assignEach [.Subscript o a pos] X.env).map (·.2) = [assign (.Subscript o a pos) X.env] := by rfl) : DS X W np (.Assign [.Subscript o a pos] e p) (sSetIx fa fo fb) :=
 ⟨(ps_asg ha.pe (pg_sub ho.pe hi.pe set_list hset) hs hw h1).weak fun Dn σ H ⟨c, G, ρ, os, hl, R, h, po⟩ => by
  refine tS_step R h po fun x ρ1 v G1 H1 R1 s1 k1 h1 po1 => ?_
  obtain ⟨d, G2, ρ2, s2, R2, k2, h2⟩ := toV_wp R1 k1 (thenS_wp h1)
  refine tS_step R2 h2 (po1.mono s2) fun r ρ3 u G3 H3 R3 s3 k3 h3 po3 => ?_
  obtain ⟨G3', s3', R3', k3'⟩ := settle_ok R3 k3
  refine tS_step R3' h3 (po3.mono s3') fun j ρ4 t G4 H4 R4 s4 k4 h4 po4 => ?_
  obtain ⟨G4', s4', R4', k4'⟩ := settle_ok R4 k4
  obtain ⟨e', ke, h5⟩ := peek_wp R4' k4'.one (thenS_wp h4)
  cases e1 : ownLst (settle r) ρ4 with
  | none => rw [e1] at h5; cases h5
  | some q =>
   obtain ⟨i, ds⟩ := q
   rw [e1] at h5
   cases e' <;> first
    | (cases h5; done)
    | (rename_i n
       dsimp only at h5
       obtain ⟨b, xs, rfl, hs, hr, hb, hx⟩ := ownLst_ok R4' ((k3'.mono s4).mono s4') e1
       cases e2 : ixN ds.length n with
       | none => rw [e2] at h5; cases h5
       | some m =>
        rw [e2] at h5
        cases h5
        refine ⟨b, xs, n, m, rfl, ke.int, hb, by rw [hx.length]; exact e2, ?_⟩
        exact po4 σ G4' _ (R4'.lst_store hs hr (hx.set m (k2.mono (((s3.trans s3').trans s4).trans s4')))) s4')⟩
end
end Dl
namespace Dl
open PySem L2
def lkF (f : Str) : List Str → List D → Option D
 | n :: ns, d :: ds => if n = f then some d else lkF f ns ds
 | _, _ => none
def putF2 (f : Str) (d : D) : List Str → List D → List Str × List D
 | n :: ns, e :: ds => if n = f then (n :: ns, d :: ds) else (n :: (putF2 f d ns ds).1, e :: (putF2 f d ns ds).2)
 | _, _ => ([f], [d])
section
variable {K : PySem.W.Frag} {G : Hp}
theorem lkF_ok {f : Str} {d : D} : ∀ {ns : List Str} {ds : List D} {xs : List V}, RpL K G ds xs → lkF f ns ds = some d → ∃ v, (ns.zip xs).lookup f = some v ∧ Rp K G d v
 | [], _, _, _, e => by cases e
 | _ :: _, [], _, _, e => by cases e
 | n :: ns, e :: ds, _, ⟨x, r, h1, h2, h3⟩, q => by
  subst h1
  unfold lkF at q
  by_cases hn : n = f
  · rw [if_pos hn] at q
    cases q
    subst hn
    exact ⟨x, by simp [List.zip_cons_cons, List.lookup], h2⟩
  · rw [if_neg hn] at q
    obtain ⟨v, k1, k2⟩ := lkF_ok h3 q
    refine ⟨v, ?_, k2⟩
    rw [List.zip_cons_cons]
    have hb : (f == n) = false := beq_eq_false_iff_ne.mpr (Ne.symm hn)
    simp only [List.lookup, hb]
    exact k1
theorem putF2_ok {f : Str} {d : D} {v : V} (hd : Rp K G d v) : ∀ {ns : List Str} {ds : List D} {xs : List V}, ns.length = ds.length → RpL K G ds xs →
  ∃ ys, putF f v (ns.zip xs) = (putF2 f d ns ds).1.zip ys ∧ (putF2 f d ns ds).1.length = (putF2 f d ns ds).2.length ∧ RpL K G (putF2 f d ns ds).2 ys
 | [], [], _, _, h => by cases h; exact ⟨[v], rfl, rfl, v, [], rfl, hd, rfl⟩
 | [], _ :: _, _, hl, _ => by cases hl
 | _ :: _, [], _, hl, _ => by cases hl
 | n :: ns, e :: ds, _, hl, ⟨x, r, h1, h2, h3⟩ => by
  subst h1
  rw [List.zip_cons_cons]
  unfold putF putF2
  by_cases hn : n = f
  · rw [if_pos hn, if_pos hn]
    exact ⟨v :: r, by rw [List.zip_cons_cons], by simpa using hl, v, r, rfl, hd, h3⟩
  · rw [if_neg hn, if_neg hn]
    obtain ⟨ys, k1, k2, k3⟩ := putF2_ok hd (ns := ns) (ds := ds) (xs := r) (by simpa using hl) h3
    exact ⟨x :: ys, by rw [List.zip_cons_cons, k1], by simpa using k2, x, ys, rfl, h2, k3⟩
end
abbrev Flds : Type := List Str
structure FldOk (K : PySem.W.Frag) (cs : Flds) (f : Str) : Prop where
 ok : ∀ n ∈ cs, Cls K (He.ga K n) ∧ NoAttr K (He.ga K n) f
def eFld (cs : Flds) (f : Str) (fa : M Rv) : M Rv := do
 let r ← fa
 let d ← peek r
 match d with
 | .obj n ns ds => if n ∈ cs then ofO ((lkF f ns ds).map .val) else M.fail
 | _ => M.fail
section
variable {X : Cx} {W : WX} {np : Nat} {o e a b : Expr} {es : List Expr} {fo fa fb : M Rv} {ga : M (List Rv)} {pos apos cpos p : Pos} {cs : Flds} {f m : Str}
theorem de_fld (hc : FldOk X.K cs f) (ha : DE X W e fa) (hb : attributeBase e f X.env (eval e X.env) = eval e X.env := by rfl) : DE X W (.Attribute e f pos) (eFld cs f fa) :=
 ⟨(pe_fld ha.pe hb).weak fun σ H Q ⟨c, G, ρ, R, w⟩ => by
  refine tg_step R (Same.refl G) w fun r ρ1 v G1 H1 R1 s1 _ k1 w1 => ?_
  obtain ⟨d, kd, w2⟩ := peek_wp R1 k1 (wpM_bind w1)
  cases d <;> first
   | exact w2.elim
   | (rename_i n ns ds
      dsimp only at w2
      by_cases hn : n ∈ cs
      · rw [if_pos hn] at w2
        obtain ⟨q, e1, w3⟩ := ofO_wp w2
        obtain ⟨d, e2, e3⟩ := Option.map_eq_some_iff.mp e1
        subst e3
        have go : ∀ {a : Addr} {dx : Addr} {xs : List V}, H1 a = some (.ins (He.ga X.K n) dx (ns.zip xs)) → RpL X.K G1 ds xs → v = .ref a → ∃ a C dx fs u, v = V.ref a ∧ H1 a = some (.ins C dx fs) ∧ Cls X.K C ∧ NoAttr X.K C f ∧ fs.lookup f = some u ∧ Q u H1 := fun {a dx xs} h1 h2 h3 => by
         obtain ⟨u, k2, k3⟩ := lkF_ok h2 e2
         exact ⟨a, _, dx, _, u, h3, h1, (hc.ok n hn).1, (hc.ok n hn).2, k2, w3 u G1 H1 R1 s1 k3⟩
        obtain ⟨a, dx, xs, h1, h2, _, h4⟩ := kd.obj R1.gh
        exact go h2 h4 h1
      · rw [if_neg hn] at w2; exact w2.elim)⟩
def ownObj (r : Rv) (ρ : List S) : Option (Nat × Str × List Str × List D) := match r with
 | .ali i => match ρ[i]? with
  | some (.own (.obj n ns ds)) => some (i, n, ns, ds)
  | _ => none
 | _ => none
def sSetF (cs : Flds) (f : Str) (fo fa : M Rv) : MS := thenS fa fun x => thenS (toV x) fun d => thenS fo fun r ρ =>
 match ownObj (settle r) ρ with
  | some (i, n, ns, ds) => if n ∈ cs ∧ ns.length < 1000 then some (.nx (ρ.set i (.own (.obj n (putF2 f d ns ds).1 (putF2 f d ns ds).2)))) else none
  | none => none
theorem ownObj_ok {K : PySem.W.Frag} {c : Cn} {G H : Hp} {σ : L2.St} {ρ : List S} {v : V} {r : Rv} {i : Nat} {n : Str} {ns : List Str} {ds : List D} (R : Rst K c G H σ ρ) (k : RpRs K G σ [v] [r]) (e : ownObj r ρ = some (i, n, ns, ds)) :
  ∃ a dx xs, v = .ref a ∧ σ[i]? = some (some (.ref a)) ∧ ρ[i]? = some (.own (.obj n ns ds)) ∧ H a = some (.ins (He.ga K n) dx (ns.zip xs)) ∧ H dx = some (.own a) ∧ G dx = none ∧ c.F dx = none ∧ dx ≠ a ∧ ns.length = ds.length ∧ RpL K G ds xs := by
 cases r with
 | val d => cases e
 | own d => cases e
 | ali j =>
  unfold ownObj at e
  dsimp only at e
  cases q : ρ[j]? with
  | none => rw [q] at e; cases e
  | some s =>
   rw [q] at e
   cases s with
   | no => cases e
   | val d => cases e
   | own d =>
    cases d <;> first
     | (cases e; done)
     | (cases e
        obtain ⟨a, h1, h2, h3, dx, xs, h4⟩ := R.own _ _ q
        have h6 : σ[_]? = some (some v) := k.1
        rw [h1] at h6
        have h7 : v = .ref a := by simpa using h6.symm
        exact ⟨a, dx, xs, h7, h1, q, h4⟩)
theorem ds_setF (hc : FldOk X.K cs f) (ho : DE X W o fo) (ha : DE X W e fa) (hs : swapsWith e (some (.Attribute o f p)) pos.line X.env = pure false := by rfl) : DS X W np (.Assign [.Attribute o f p] e pos) (sSetF cs f fo fa) :=
 ⟨(ps_fld ho.pe ha.pe hs).weak fun Dn σ H ⟨c, G, ρ, os, hl, R, h, po⟩ => by
  refine tS_step R h po fun x ρ1 v G1 H1 R1 s1 k1 h1 po1 => ?_
  obtain ⟨d, G2, ρ2, s2, R2, k2, h2⟩ := toV_wp R1 k1 (thenS_wp h1)
  refine tS_step R2 h2 (po1.mono s2) fun r ρ3 u G3 H3 R3 s3 k3 h3 po3 => ?_
  obtain ⟨G3', s3', R3', k3'⟩ := settle_ok R3 k3
  have po3' := po3.mono s3'
  cases e1 : ownObj (settle r) ρ3 with
  | none => rw [e1] at h3; cases h3
  | some q =>
   obtain ⟨i, n, ns, ds⟩ := q
   rw [e1] at h3
   dsimp only at h3
   by_cases hn : n ∈ cs ∧ ns.length < 1000
   · rw [if_pos hn] at h3
     cases h3
     obtain ⟨a, dx, xs, rfl, m1, m2, m3, m4, m5, m6, m7, m8, m9⟩ := ownObj_ok R3' k3' e1
     obtain ⟨ys, y1, y2, y3⟩ := putF2_ok (f := f) (k2.mono (s3.trans s3')) m8 m9
     refine ⟨a, _, dx, _, rfl, m3, (hc.ok n hn.1).1, (hc.ok n hn.1).2, ?_, ?_⟩
     · rw [List.length_zip]
       exact Nat.lt_of_le_of_lt (Nat.min_le_left _ _) hn.2
     · refine po3' σ G3' _ (R3'.own_store m2 m1 ⟨dx, ys, by rw [upd_same, y1], by rw [upd_ne m7]; exact m4, m5, m6, m7, y2, y3⟩) (Same.refl G3')
   · rw [if_neg hn] at h3; cases h3⟩
end
section
variable {K : PySem.W.Frag} {c : Cn} {G G' H H' : Hp} {σ : L2.St} {ρ : List S} {x dx : Addr}
theorem snoc_get {α : Type} {l : List α} {a : α} {i : Nat} {b : α} (h : (l ++ [a])[i]? = some b) : (i < l.length ∧ l[i]? = some b) ∨ (i = l.length ∧ b = a) := by
 by_cases hi : i < l.length
 · rw [List.getElem?_append_left hi] at h; exact .inl ⟨hi, h⟩
 · rw [List.getElem?_append_right (by omega)] at h
   have : i - l.length = 0 := by
    cases q : i - l.length with
    | zero => rfl
    | succ n => rw [q] at h; cases h
   rw [this] at h
   cases h
   exact .inr ⟨by omega, rfl⟩
theorem Rst.snoc {v : V} {d : D} (R : Rst K c G H σ ρ) (hp : c.s0.length ≤ σ.length) (h : RpR K c G H σ ρ v (.own d)) : Rst K c G H (σ ++ [some v]) (ρ ++ [.own d]) := by
 obtain ⟨a, rfl, h2, h3, h4, h5⟩ := h
 have hlen : (ρ ++ [S.own d]).length = (σ ++ [some (V.ref a)]).length := by rw [List.length_append, List.length_append, R.len]; rfl
 have sg : ∀ {j : Nat}, j < ρ.length → (σ ++ [some (V.ref a)])[j]? = σ[j]? := fun {j} hj => List.getElem?_append_left (R.len ▸ hj)
 have sl : (σ ++ [some (V.ref a)])[ρ.length]? = some (some (V.ref a)) := by rw [R.len, List.getElem?_append_right (Nat.le_refl _), Nat.sub_self]; rfl
 refine ⟨R.fh, R.gh, R.fg, hlen, fun j e q => ?_, fun j e q => ?_, fun j k e f b q1 q2 r1 r2 => ?_, fun j e q hl => ?_⟩
 · rcases snoc_get q with ⟨hj, q⟩ | ⟨_, q⟩
   · rw [sg hj]; exact R.val j e q
   · cases q
 · rcases snoc_get q with ⟨hj, q⟩ | ⟨hj, q⟩
   · rw [sg hj]; exact R.own j e q
   · cases q; subst hj; exact ⟨a, sl, h2, h3, h4⟩
 · rcases snoc_get q1 with ⟨hj, q1⟩ | ⟨hj, q1⟩
   · rw [sg hj] at r1
     rcases snoc_get q2 with ⟨hk, q2⟩ | ⟨hk, q2⟩
     · rw [sg hk] at r2; exact R.ne j k e f b q1 q2 r1 r2
     · subst hk; rw [sl] at r2; cases r2; exact absurd r1 (h5 j e q1)
   · rcases snoc_get q2 with ⟨hk, q2⟩ | ⟨hk, q2⟩
     · rw [sg hk] at r2; subst hj; rw [sl] at r1; cases r1; exact absurd r2 (h5 k f q2)
     · rw [hj, hk]
 · rcases snoc_get q with ⟨hj, q⟩ | ⟨hj, _⟩
   · rw [sg hj]; exact R.par j e q hl
   · have := R.len
     omega
theorem Rst.unsnoc {s : S} {v : Option V} (R : Rst K c G H (σ ++ [v]) (ρ ++ [s])) : Rst K c G H σ ρ := by
 have hl : ρ.length = σ.length := by
  have := R.len
  rw [List.length_append, List.length_append] at this
  simpa using this
 have up : ∀ {j : Nat} {t : S}, ρ[j]? = some t → (ρ ++ [s])[j]? = some t ∧ (σ ++ [v])[j]? = σ[j]? := fun {j t} h => by
  have hj := (List.getElem?_eq_some_iff.mp h).1
  exact ⟨by rw [List.getElem?_append_left hj]; exact h, List.getElem?_append_left (hl ▸ hj)⟩
 refine ⟨R.fh, R.gh, R.fg, hl, fun j e q => ?_, fun j e q => ?_, fun j k e f b q1 q2 r1 r2 => ?_, fun j e q hlt => ?_⟩
 · obtain ⟨h1, h2⟩ := up q
   rw [← h2]; exact R.val j e h1
 · obtain ⟨h1, h2⟩ := up q
   rw [← h2]; exact R.own j e h1
 · obtain ⟨h1, h2⟩ := up q1
   obtain ⟨h3, h4⟩ := up q2
   rw [← h2] at r1
   rw [← h4] at r2
   exact R.ne j k e f b h1 h3 r1 r2
 · obtain ⟨h1, h2⟩ := up q
   rw [← h2]; exact R.par j e h1 hlt
theorem Rst.last {d : D} {v : V} (R : Rst K c G H (σ ++ [some v]) (ρ ++ [.own d])) : RpR K c G H σ ρ v (.own d) := by
 have hl : ρ.length = σ.length := by
  have := R.len
  rw [List.length_append, List.length_append] at this
  simpa using this
 have l1 : (ρ ++ [S.own d])[ρ.length]? = some (.own d) := by rw [List.getElem?_append_right (Nat.le_refl _), Nat.sub_self]; rfl
 have l2 : (σ ++ [some v])[ρ.length]? = some (some v) := by rw [hl, List.getElem?_append_right (Nat.le_refl _), Nat.sub_self]; rfl
 obtain ⟨a, h1, h2, h3, h4⟩ := R.own _ _ l1
 rw [l2] at h1
 have e : v = .ref a := by simpa using h1
 subst e
 refine ⟨a, rfl, h2, h3, h4, fun j e q z => ?_⟩
 have hj := (List.getElem?_eq_some_iff.mp q).1
 have := R.ne j ρ.length e d a (by rw [List.getElem?_append_left hj]; exact q) l1 (by rw [List.getElem?_append_left (hl ▸ hj)]; exact z) l2
 omega
theorem Rst.made (R : Rst K c G H σ ρ) (hx : H x = none) (hdx : H dx = none) (ne : dx ≠ x) {n : Str} : Rst K c G (upd (upd H dx (.own x)) x (.ins (He.ga K n) dx [])) σ ρ ∧ RpR K c G (upd (upd H dx (.own x)) x (.ins (He.ga K n) dx [])) σ ρ (.ref x) (.own (.obj n [] [])) := by
 have hx1 : upd H dx (.own x) x = none := by rw [upd_ne (Ne.symm ne)]; exact hx
 have R1 := (R.laid (o := .own x) hdx).laid (o := .ins (He.ga K n) dx []) hx1
 refine ⟨R1, x, rfl, R.g_none hx, R.f_none hx, ⟨dx, [], upd_same, by rw [upd_ne ne, upd_same], R.g_none hdx, R.f_none hdx, ne, rfl, rfl⟩, R.not_slot hx⟩
theorem back1_snoc {i : Nat} {s t : S} (hi : i < ρ.length) : back1 i s (ρ ++ [t]) = back1 i s ρ ++ [t] := by
 unfold back1
 rw [List.getElem?_append_left hi]
 split
 · rw [List.set_append_left _ _ hi]
 · rfl
theorem back_snoc : ∀ {rs : List Rv} {ss : List S} {ρ : List S} {t : S}, (∀ i, Rv.ali i ∈ rs → i < ρ.length) → back rs ss (ρ ++ [t]) = back rs ss ρ ++ [t]
 | .ali i :: rs, s :: ss, ρ, t, h => by
  unfold back
  rw [back1_snoc (h i (by simp))]
  exact back_snoc fun j hj => by rw [back1_length]; exact h j (by simp [hj])
 | .val _ :: rs, _ :: ss, ρ, t, h => by unfold back; exact back_snoc fun j hj => h j (by simp [hj])
 | .own _ :: rs, _ :: ss, ρ, t, h => by unfold back; exact back_snoc fun j hj => h j (by simp [hj])
 | [], _, ρ, t, h => rfl
 | .ali i :: rs, [], ρ, t, h => rfl
 | .val _ :: rs, [], ρ, t, h => rfl
 | .own _ :: rs, [], ρ, t, h => rfl
end
def makeM (n : Str) (mu : List Bool) (fn : Fn) (rs : List Rv) : M Rv := fun ρ => match prep mu rs ρ with
 | some (.ok rs' ρ1) => if dist rs' = true then (match ssOfs ρ1 rs' with
  | some ss => (match fn (.own (.obj n [] []) :: ss) with
   | some (.ret (.val .non) (.own d :: ss')) => some (.ok (.own d) (back rs' ss' ρ1))
   | some (.ex e (_ :: ss')) => some (.ex e (back rs' ss' ρ1))
   | _ => none)
  | none => none) else none
 | _ => none
theorem ssOf_lt {ρ : List S} {i : Nat} {s : S} (h : ssOf ρ (.ali i) = some s) : i < ρ.length := by
 unfold ssOf at h
 dsimp only at h
 cases q : ρ[i]? with
 | none => rw [q] at h; cases h
 | some t => exact (List.getElem?_eq_some_iff.mp q).1
theorem ssOfs_lt {ρ : List S} : ∀ {rs : List Rv} {ss : List S}, ssOfs ρ rs = some ss → ∀ i, Rv.ali i ∈ rs → i < ρ.length
 | [], _, _, i, hi => by cases hi
 | r :: rs, ss, h, i, hi => by
  unfold ssOfs at h
  cases e1 : ssOf ρ r with
  | none => rw [e1] at h; cases h
  | some s =>
   cases e2 : ssOfs ρ rs with
   | none => rw [e1, e2] at h; cases h
   | some ss2 =>
    rcases List.mem_cons.mp hi with e | hi
    · subst e; exact ssOf_lt e1
    · exact ssOfs_lt e2 i hi
theorem ssOf_snoc {ρ : List S} {t : S} {r : Rv} {s : S} (h : ssOf ρ r = some s) : ssOf (ρ ++ [t]) r = some s := by
 cases r with
 | val d => exact h
 | own d => exact h
 | ali i =>
  have hi := ssOf_lt h
  unfold ssOf at h ⊢
  dsimp only at h ⊢
  rw [List.getElem?_append_left hi]; exact h
theorem ssOfs_snoc {ρ : List S} {t : S} : ∀ {rs : List Rv} {ss : List S}, ssOfs ρ rs = some ss → ssOfs (ρ ++ [t]) rs = some ss
 | [], _, h => h
 | r :: rs, ss, h => by
  unfold ssOfs at h ⊢
  cases e1 : ssOf ρ r with
  | none => rw [e1] at h; cases h
  | some s =>
   cases e2 : ssOfs ρ rs with
   | none => rw [e1, e2] at h; cases h
   | some ss2 =>
    rw [e1, e2] at h
    rw [ssOf_snoc e1, ssOfs_snoc e2]; exact h
theorem RpRs.snoc {K : PySem.W.Frag} {G : Hp} {σ : L2.St} {v : Option V} : ∀ {vs : List V} {rs : List Rv}, RpRs K G σ vs rs → RpRs K G (σ ++ [v]) vs rs
 | [], [], _ => trivial
 | u :: vs, .val d :: rs, ⟨h1, h2⟩ => ⟨h1, h2.snoc⟩
 | u :: vs, .ali i :: rs, ⟨h1, h2⟩ => ⟨by rw [List.getElem?_append_left (List.getElem?_eq_some_iff.mp h1).1]; exact h1, h2.snoc⟩
 | [], _ :: _, h => h.elim
 | _ :: _, [], h => h.elim
 | _ :: _, .own _ :: _, h => h.elim
section
variable {X : Cx} {W : WX} {x : Str} {k np : Nat} {fn : Fn} {mu : List Bool} {e o : Expr} {es : List Expr} {ga : M (List Rv)} {p pos : Pos}
structure DM (P : Program) (w : World) (K : PySem.W.Frag) (mg : Str → Option Value) (base : Heap) (x : Str) (k np : Nat) (fn : Fn) : Prop where
 len : ∀ ss o, fn ss = some o → ss.length = np
 ex : ∃ (f : Addr) (fd : FuncData) (ps : List Str), mg x = some (.ref (He.ga K x)) ∧ Mk K (He.ga K x) f ∧ Binds K fd ps [] ∧ FnOk P w K mg base (L2N.CX P w) k f fd ps (spD K np fn)
def tMakeS (C : Addr) (sp : Sp) (E : L2.St → XK) (t : TA) : TE := fun σ H Q => t σ H fun vs H1 => ∀ x dx, H1 x = none → H1 dx = none → dx ≠ x →
 sp (.ref x :: vs) (upd (upd H1 dx (.own x)) x (.ins C dx [])) (fun v H2 => v = .non ∧ Q (.ref x) H2) (E σ)
theorem run_makeS {C f : Addr} {fd : FuncData} {ps : List Str} {sp : Sp} {E : L2.St → XK} {CXx : CXT} {pins : List (Addr × Obj)} {σ : L2.St} {H : Hp} {s : Shared} {Q : VK} {us : List Value} {vs : List V} (Mx : Mk X.K C f) (F : FnOk X.prog X.w X.K X.mg X.base CXx k f fd ps sp) (hr : Room (k + 1) X.A) (hb : Binds X.K fd ps [])
  (hx : PassesAt CXx X σ (E σ)) (I : Inv X pins σ H s) (r : Vals vs us)
  (h : ∀ x dx, H x = none → H dx = none → dx ≠ x → sp (.ref x :: vs) (upd (upd H dx (.own x)) x (.ins C dx [])) (fun v H2 => v = .non ∧ Q (.ref x) H2) (E σ)) :
  wpAny (model X.prog X.w) X.A (call (.ref C) us) (EP X pins σ Q) X.xe s := by
 have hq := h (s.heap.objs.size + 1) s.heap.objs.size (I.hok.fresh (Nat.le_succ _)) (I.hok.fresh (Nat.le_refl _)) (Nat.ne_of_lt (Nat.lt_succ_self _))
 have I2 := Inv.made (C := C) I
 have r2 : Vals (V.ref (s.heap.objs.size + 1) :: vs) (Value.ref (s.heap.objs.size + 1) :: us) := .cons rfl r
 have hl : (Value.ref (s.heap.objs.size + 1) :: us).length = ps.length := by
  have e := r2.length
  rw [F.len _ _ _ _ hq] at e
  exact e.symm
 refine wpAny_call (make_map (f := f) I.kIn Mx.makes Mx.init (beq_iff_eq.mp Mx.fn) (codeAny_mono (F.run _ X.stack _ _ ⟨Value.ref (s.heap.objs.size + 1) :: us, []⟩ (Value.ref (s.heap.objs.size + 1) :: us) _ _ (E σ) (hr.make C us [])
  (I2.env0.make C us []) (by
   have := hb _ (Value.ref (s.heap.objs.size + 1) :: us) I2.kIn (by rw [List.append_nil]; exact hl)
   rw [List.append_nil] at this; exact this) r2 hq) fun r s' hq' => ?_))
 cases r with
 | error e => exact hx pins _ _ e s' I2 hq'
 | ok fl =>
  cases fl with
  | ret u =>
   obtain ⟨v, H', I3, rv, ev, q3⟩ := I2.after hq'
   subst ev
   exact ⟨rv, ⟨V.ref (s.heap.objs.size + 1), H', I3, rfl, q3⟩⟩
  | next => exact False.elim hq'
  | brk => exact False.elim hq'
  | cont => exact False.elim hq'
theorem pe_makeS {C f : Addr} {fd : FuncData} {ps : List Str} {sp : Sp} {E : L2.St → XK} {CXx : CXT} {t : TA} (Mx : Mk X.K C f) (F : FnOk X.prog X.w X.K X.mg X.base CXx k f fd ps sp) (hr : Room (k + 1) X.A) (hg : Gl X x) (hm : X.mg x = some (.ref C)) (hb : Binds X.K fd ps []) (hx : ∀ σ, PassesAt CXx X σ (E σ))
  (ha : PA X (e :: es) t) (hdb : (x == ("__debug__" : Str)) = false := by decide) (he : starEach (e :: es) X.env = (false, eval e X.env) :: starEach es X.env := by rfl) (hpl : (backTo pos (starEach es X.env)).any (·.1) = false := by rfl) :
  PE X (.Call (.Name x p) (e :: es) [] pos) (tMakeS C sp E t) := by
 refine ⟨fun pins s σ H Q I h => ?_⟩
 refine wpAny_Call_Name_kw (ld_glob I hg hm ?_ hdb)
 refine PySem.W.callWith_K (h₀ := X.base) I.ok.mod.kin Mx.kp (thn (ha.run pos pins s σ H _ I h) fun us s1 ⟨vs, H1, I1, r, q⟩ => ⟨I1.kIn, ?_⟩) he hpl
 exact run_makeS Mx F hr hb (hx σ) I1 r q
def eMake (n : Str) (mu : List Bool) (fn : Fn) (ga : M (List Rv)) : M Rv := do
 let rs ← ga
 makeM n mu fn rs
def Cn.cut (c : Cn) (n : Nat) : Cn := { c with s0 := c.s0.take n }
theorem Rst.cut {K : PySem.W.Frag} {c : Cn} {G H : Hp} {σ : L2.St} {ρ : List S} (R : Rst K c G H σ ρ) : Rst K (c.cut σ.length) G H σ ρ :=
 ⟨R.fh, R.gh, R.fg, R.len, R.val, R.own, R.ne, fun i d e hl => by
  have h1 : i < (c.s0.take σ.length).length := hl
  rw [List.length_take] at h1
  show σ[i]? = (c.s0.take σ.length)[i]?
  rw [List.getElem?_take_of_lt (by omega)]
  exact R.par i d e (by omega)⟩
theorem Rst.uncut {K : PySem.W.Frag} {c : Cn} {G H : Hp} {σ : L2.St} {ρ : List S} (R : Rst K (c.cut σ.length) G H σ ρ) : Rst K c G H σ ρ :=
 ⟨R.fh, R.gh, R.fg, R.len, R.val, R.own, R.ne, fun i d e hl => by
  have hi : i < σ.length := by
   rw [← R.len]; exact (List.getElem?_eq_some_iff.mp e).1
  have h2 : i < (c.cut σ.length).s0.length := by
   show i < (c.s0.take σ.length).length
   rw [List.length_take]; omega
  have h3 : σ[i]? = (c.s0.take σ.length)[i]? := R.par i d e h2
  rw [h3, List.getElem?_take_of_lt hi]⟩
theorem make_sp {c : Cn} {G0 G H : Hp} {σ : L2.St} {ρ : List S} {rs : List Rv} {vs : List V} {Q : VK} {n : Str} {a dx : Addr} (R : Rst X.K c G H σ ρ) (s0 : Same G0 G) (hv : RpRs X.K G σ vs rs) (hl : ∀ ss o, fn ss = some o → ss.length = np)
  (w : wpM (makeM n mu fn rs ρ) (fun r ρ' => ∀ v G' H', Rst X.K c G' H' σ ρ' → Same G0 G' → RpR X.K c G' H' σ ρ' v r → Q v H') (EXk X.K c W σ G0)) (hx : H a = none) (hdx : H dx = none) (ne : dx ≠ a) :
  spD X.K np fn (.ref a :: vs) (upd (upd H dx (.own a)) a (.ins (He.ga X.K n) dx [])) (fun v H2 => v = .non ∧ Q (.ref a) H2) (WE W σ) := by
 unfold makeM at w
 have wp : wpM (prep mu rs ρ) (fun rs' ρ1 => wpM (if dist rs' = true then (match ssOfs ρ1 rs' with
  | some ss => (match fn (.own (.obj n [] []) :: ss) with
   | some (.ret (.val .non) (.own d :: ss')) => some (.ok (.own d) (back rs' ss' ρ1))
   | some (.ex e (_ :: ss')) => some (.ex e (back rs' ss' ρ1))
   | _ => none)
  | none => none) else none) (fun r ρ' => ∀ v G' H', Rst X.K c G' H' σ ρ' → Same G0 G' → RpR X.K c G' H' σ ρ' v r → Q v H') (EXk X.K c W σ G0)) (fun _ _ => False) := by
  cases q : prep mu rs ρ with
  | none => rw [q] at w; exact w
  | some o => cases o with
   | ok a ρ1 => rw [q] at w; exact w
   | ex e ρ1 => rw [q] at w; exact w.elim
 obtain ⟨rs', G1, ρ1, s1, R1, k1, w1⟩ := prep_wp R hv wp
 by_cases hd : dist rs' = true
 · rw [if_pos hd] at w1
   cases hs : ssOfs ρ1 rs' with
   | none => rw [hs] at w1; exact w1.elim
   | some ss =>
    rw [hs] at w1
    dsimp only at w1
    obtain ⟨R2, k2⟩ := R1.cut.made (n := n) hx hdx ne
    have R3 := R2.snoc (by show (c.s0.take σ.length).length ≤ σ.length; rw [List.length_take]; omega) k2
    have hlen : ρ1.length = σ.length := R1.len
    have get0 : (ρ1 ++ [S.own (.obj n [] [])])[ρ1.length]? = some (.own (.obj n [] [])) := by rw [List.getElem?_append_right (Nat.le_refl _), Nat.sub_self]; rfl
    have gets : (σ ++ [some (V.ref a)])[ρ1.length]? = some (some (V.ref a)) := by rw [hlen, List.getElem?_append_right (Nat.le_refl _), Nat.sub_self]; rfl
    have lt := ssOfs_lt hs
    have hd3 : dist (.ali ρ1.length :: rs') = true := by
     show (!rs'.any (isAli ρ1.length) && dist rs') = true
     rw [hd, Bool.and_true]
     have : rs'.any (isAli ρ1.length) = false := by
      rw [List.any_eq_false]
      intro r hr z
      cases r with
      | ali j =>
       have : ρ1.length = j := by simpa [isAli] using z
       have h2 := lt j hr
       omega
      | val d => cases z
      | own d => cases z
     rw [this]; rfl
    have hs3 : ssOfs (ρ1 ++ [S.own (.obj n [] [])]) (.ali ρ1.length :: rs') = some (.own (.obj n [] []) :: ss) := by
     unfold ssOfs
     rw [ssOfs_snoc hs]
     have : ssOf (ρ1 ++ [S.own (.obj n [] [])]) (.ali ρ1.length) = some (.own (.obj n [] [])) := by
      unfold ssOf
      dsimp only
      rw [get0]
     rw [this]
    have hv3 : RpRs X.K G1 (σ ++ [some (V.ref a)]) (V.ref a :: vs) (.ali ρ1.length :: rs') := ⟨gets, k1.snoc⟩
    cases hf : fn (.own (.obj n [] []) :: ss) with
    | none => rw [hf] at w1; exact w1.elim
    | some o =>
     rw [hf] at w1
     refine ⟨⟨calleeF (σ ++ [some (V.ref a)]) (ρ1 ++ [S.own (.obj n [] [])]) G1 _ (.ali ρ1.length :: rs'), (V.ref a :: vs).map some⟩, G1, _, o, by rw [← hl _ o hf]; exact (dargs_get hv3 hs3).1.symm, rfl, R3.callee hv3 hd3 hs3, hf, ?_⟩
     have fin : ∀ {s0' : S} {ss' : List S} {G' H' : Hp}, Same G1 G' → Rst X.K ⟨calleeF (σ ++ [some (V.ref a)]) (ρ1 ++ [S.own (.obj n [] [])]) G1 _ (.ali ρ1.length :: rs'), (V.ref a :: vs).map some⟩ G' H' ((V.ref a :: vs).map some) (s0' :: ss') →
       ∃ t, Rst X.K (c.cut σ.length) G' H' (σ ++ [some (V.ref a)]) (back rs' ss' ρ1 ++ [t]) ∧ ∀ d, s0' = .own d → t = .own d := fun {s0' ss' G' H'} sm R' => by
      have R4 := R3.called hv3 hs3 sm R'
      have e : back (.ali ρ1.length :: rs') (s0' :: ss') (ρ1 ++ [S.own (.obj n [] [])]) = back rs' ss' ρ1 ++ [ownOr s0'] := by
       conv => lhs; unfold back
       have e1 : back1 ρ1.length s0' (ρ1 ++ [S.own (.obj n [] [])]) = ρ1 ++ [ownOr s0'] := by
        unfold back1
        rw [get0]
        show (if true = true then _ else _) = _
        rw [if_pos rfl, List.set_append_right _ _ (Nat.le_refl _), Nat.sub_self]
        rfl
       rw [e1]
       exact back_snoc lt
      rw [e] at R4
      exact ⟨_, R4, fun d hd => by rw [hd]; rfl⟩
     cases o with
     | ret q ss' =>
      intro v G' H' R' s' kq
      cases q with
      | val d =>
       cases d <;> first
        | exact w1.elim
        | (cases ss' with
         | nil => exact w1.elim
         | cons s0' ss' =>
          cases s0' with
          | no => exact w1.elim
          | val _ => exact w1.elim
          | own d =>
           obtain ⟨t, R5, ht⟩ := fin s' R'
           rw [ht d rfl] at R5
           exact ⟨kq, w1 (.ref a) G' H' R5.unsnoc.uncut ((s0.trans s1).trans s') R5.last⟩)
      | own d => exact w1.elim
      | ali i => exact w1.elim
     | ex e ss' =>
      intro cls d G' H' R' s' xa
      cases ss' with
      | nil => exact w1.elim
      | cons s0' ss' =>
       obtain ⟨t, R5, _⟩ := fin s' R'
       exact w1 cls d G' H' R5.unsnoc.uncut ((s0.trans s1).trans s') xa
 · rw [if_neg hd] at w1; exact w1.elim
theorem de_make (mu : List Bool) (go : Go X W) (F : DM X.prog X.w X.K X.mg X.base x k np fn) (hr : Room (k + 1) X.A) (hg : Gl X x) (ha : DA X W (e :: es) ga)
  (hdb : (x == ("__debug__" : Str)) = false := by decide) (he : starEach (e :: es) X.env = (false, eval e X.env) :: starEach es X.env := by rfl) (hpl : (backTo pos (starEach es X.env)).any (·.1) = false := by rfl) :
  DE X W (.Call (.Name x p) (e :: es) [] pos) (eMake x mu fn ga) := by
 obtain ⟨f, fd, ps, hm, hk, hb, FO⟩ := F.ex
 refine ⟨(pe_makeS (E := WE W) hk FO hr hg hm hb (wish_of go.tk) ha.pa hdb he hpl).weak fun σ H Q ⟨c, G, ρ, R, w⟩ => ?_⟩
 refine tg_step R (Same.refl G) w fun rs ρ1 vs G1 H1 R1 s1 _ k1 w1 => ?_
 exact fun x dx hx hdx ne => make_sp R1 s1 k1 F.len w1 hx hdx ne
structure DMeth (P : Program) (w : World) (K : PySem.W.Frag) (mg : Str → Option Value) (base : Heap) (n m : Str) (k np : Nat) (fn : Fn) : Prop where
 len : ∀ ss o, fn ss = some o → ss.length = np
 cl : Cls K (He.ga K n)
 ex : ∃ (f : Addr) (fd : FuncData) (ps : List Str), Meth K (He.ga K n) m f ∧ Binds K fd ps [] ∧ FnOk P w K mg base (L2N.CX P w) k f fd ps (spD K np fn)
def ckO (n m : Str) (r : Rv) : M Unit := do
 let d ← peek r
 match d with
 | .obj n' ns _ => if n' = n ∧ m ∉ ns then pure () else M.fail
 | _ => M.fail
def eMeth (n m : Str) (mu : List Bool) (fn : Fn) (fo : M Rv) (ga : M (List Rv)) : M Rv := do
 let r ← fo
 ckO n m (settle r)
 let rs ← ga
 callM mu fn (settle r :: rs)
end
end Dl
namespace Dl
open PySem L2
def zipD (as bs : List D) : List D := List.zipWith (fun a b => D.tup [a, b]) as bs
theorem zipD_get {as bs : List D} {i : Nat} {a b : D} (h1 : as[i]? = some a) (h2 : bs[i]? = some b) : (zipD as bs)[i]? = some (.tup [a, b]) := by
 unfold zipD
 rw [List.getElem?_zipWith, h1, h2]
theorem zipD_len {as bs : List D} : (zipD as bs).length = min as.length bs.length := by
 unfold zipD; rw [List.length_zipWith]
theorem walks_zip {K : PySem.W.Frag} {G0 : Hp} {a b : Addr} {xs ys : List V} {as bs : List D} (h : G0 a = some (.lst xs)) (h2 : G0 b = some (.lst ys)) (r : RpL K G0 as xs) (r2 : RpL K G0 bs ys) (hz : (zipD as bs).length ≤ sizeLine) : Walks K G0 (Itz K a b) (zipD as bs) where
 sz := hz
 go := fun {c G H σ ρ i} R s hi => by
  rw [zipD_len] at hi
  exact ⟨xs, ys, xs[i]'(by rw [r.length]; omega), ys[i]'(by rw [r2.length]; omega), .inl (.inl (R.gh _ _ (s _ _ h))), .inl (.inl (R.gh _ _ (s _ _ h2))), List.getElem?_eq_getElem _, List.getElem?_eq_getElem _⟩
 yld := fun {c G H H' σ ρ i v} R s ⟨T, x, y, ev, hT, eH, f1, f2⟩ hi => by
  subst ev eH
  obtain ⟨d, q1, q2⟩ := (r.mono s).get' (f1 xs (.inl (.inl (R.gh _ _ (s _ _ h)))))
  obtain ⟨e, q3, q4⟩ := (r2.mono s).get' (f2 ys (.inl (.inl (R.gh _ _ (s _ _ h2)))))
  obtain ⟨G', s', R', k⟩ := R.new_tup (xs := [x, y]) (ds := [d, e]) hT ⟨x, [y], rfl, q2, y, [], rfl, q4, rfl⟩
  exact ⟨_, G', zipD_get q1 q3, R', s', k⟩
 stop := fun {c G H σ ρ} R s => ⟨xs, ys, .inl (.inl (R.gh _ _ (s _ _ h))), .inl (.inl (R.gh _ _ (s _ _ h2))), by rw [zipD_len, r.length, r2.length]; omega⟩
theorem walks_zipT {K : PySem.W.Frag} {G0 : Hp} {a b : Addr} {xs ys : List V} {as bs : List D} (h : SqT K G0 a xs) (h2 : SqT K G0 b ys) (r : RpL K G0 as xs) (r2 : RpL K G0 bs ys) (hz : (zipD as bs).length ≤ sizeLine) : Walks K G0 (RZ.ItzT K a b) (zipD as bs) where
 sz := hz
 go := fun {c G H σ ρ i} R s hi => by
  rw [zipD_len] at hi
  exact ⟨xs, ys, xs[i]'(by rw [r.length]; omega), ys[i]'(by rw [r2.length]; omega), Same.seqt (s.trans R.gh) h, Same.seqt (s.trans R.gh) h2, List.getElem?_eq_getElem _, List.getElem?_eq_getElem _⟩
 yld := fun {c G H H' σ ρ i v} R s ⟨T, x, y, ev, hT, eH, f1, f2⟩ hi => by
  subst ev eH
  obtain ⟨d, q1, q2⟩ := (r.mono s).get' (f1 xs (Same.seqt (s.trans R.gh) h))
  obtain ⟨e, q3, q4⟩ := (r2.mono s).get' (f2 ys (Same.seqt (s.trans R.gh) h2))
  obtain ⟨G', s', R', k⟩ := R.new_tup (xs := [x, y]) (ds := [d, e]) hT ⟨x, [y], rfl, q2, y, [], rfl, q4, rfl⟩
  exact ⟨_, G', zipD_get q1 q3, R', s', k⟩
 stop := fun {c G H σ ρ} R s => ⟨xs, ys, Same.seqt (s.trans R.gh) h, Same.seqt (s.trans R.gh) h2, by rw [zipD_len, r.length, r2.length]; omega⟩
def dZip : List D → Option (List D)
 | [.lst as, .lst bs] => if (zipD as bs).length ≤ 16777216 then some (zipD as bs) else none
 | [.tup as, .tup bs] => if (zipD as bs).length ≤ 16777216 then some (zipD as bs) else none
 | _ => none
def iZip (ga : M (List Rv)) : M (List D) := do
 let rs ← ga
 let ds ← toVs rs
 ofO (dZip ds)
section
variable {X : Cx} {W : WX} {np : Nat} {a b e tg : Expr} {es : List Expr} {fa fb : M Rv} {ga : M (List Rv)} {p p2 pos tpos : Pos}
theorem di_zip {elts : List Expr} {kk : Nat} (hg : Gl X "zip") (hm : X.mg "zip" = none) (ha : DA X W [a, b] ga) (hs : starEach [a, b] X.env = (false, eval a X.env) :: starEach [b] X.env := by rfl) (hpl : (backTo pos (starEach [b] X.env)).any (·.1) = false := by rfl) :
  DI X W (.Tuple elts kk tpos) (.Call (.Name "zip" p) [a, b] [] pos) (iZip ga) :=
 ⟨(RZ.pi_zipA hg hm ha.pa hs hpl).weak fun σ H R ⟨c, G, ρ, Rs, w⟩ => by
  refine tg_step Rs (Same.refl G) w fun rs ρ1 vs G1 H1 R1 s1 _ k1 w1 => ?_
  obtain ⟨ds, G2, ρ2, s2, R2, kd, w2⟩ := toVs_wp R1 k1 (wpM_bind w1)
  obtain ⟨q, eq, w3⟩ := ofO_wp w2
  unfold dZip at eq
  split at eq
  · rename_i as bs
    by_cases hz : (zipD as bs).length ≤ 16777216
    · rw [if_pos hz] at eq
      cases eq
      obtain ⟨x, r, rfl, ⟨a1, xs, rfl, h1, h2⟩, y, r', rfl, ⟨b1, ys, rfl, h3, h4⟩, rfl⟩ := kd
      exact ⟨a1, b1, xs, ys, rfl, .inl ⟨.inl (.inl (R2.gh _ _ h1)), .inl (.inl (R2.gh _ _ h3)), w3 _ G2 H1 R2 (s1.trans s2) (walks_zip h1 h3 h2 h4 (by rw [PySem.sizeLine_eq]; omega))⟩⟩
    · rw [if_neg hz] at eq; cases eq
  · rename_i as bs
    by_cases hz : (zipD as bs).length ≤ 16777216
    · rw [if_pos hz] at eq
      cases eq
      obtain ⟨x, r, rfl, ⟨a1, xs, rfl, h1, h2⟩, y, r', rfl, ⟨b1, ys, rfl, h3, h4⟩, rfl⟩ := kd
      exact ⟨a1, b1, xs, ys, rfl, .inr ⟨Same.seqt R2.gh h1, Same.seqt R2.gh h3, w3 _ G2 H1 R2 (s1.trans s2) (walks_zipT h1 h3 h2 h4 (by rw [PySem.sizeLine_eq]; omega))⟩⟩
    · rw [if_neg hz] at eq; cases eq
  · cases eq⟩
end
section
variable {X : Cx} {W : WX} {a b e o : Expr} {fa fb : M Rv} {p p2 pos : Pos} {k np : Nat} {fn : Fn}
theorem inst_of {K : PySem.W.Frag} {pins : List (Addr × Obj)} {σ : L2.St} {H : Hp} {s : Shared} {a1 C dx : Addr} {fs : List (Str × V)} (I : Inv X pins σ H s) (e : H a1 = some (.ins C dx fs)) : ∃ ox od, PySem.W.InstAt s.heap a1 ox C od := by
 obtain ⟨mA, O, _⟩ := ins_get I.hok e
 obtain ⟨od, J, _⟩ := O.look
 exact ⟨_, some od, J⟩
def ckC (n : Str) (r : Rv) : M Unit := do
 let d ← peek r
 match d with
 | .obj n' _ _ => if n' = n then pure () else M.fail
 | _ => M.fail
def eOwn2 (n : Str) (mu : List Bool) (fn : Fn) (fo fb : M Rv) : M Rv := do
 let r ← fo
 let q ← fb
 ckC n (settle r)
 ckC n (settle q)
 callM mu fn [settle r, settle q]
theorem ckC_wp {K : PySem.W.Frag} {c : Cn} {G H : Hp} {σ : L2.St} {ρ : List S} {v : V} {r : Rv} {n : Str} {OK : Unit → List S → Prop} {EX : Xn → List S → Prop} (R : Rst K c G H σ ρ) (k : RpR K c G H σ ρ v r) (w : wpM (ckC n r ρ) OK EX) :
  (∃ a dx fs, v = V.ref a ∧ H a = some (.ins (He.ga K n) dx fs)) ∧ OK () ρ := by
 obtain ⟨d, kd, w2⟩ := peek_wp R k (wpM_bind w)
 cases d <;> first
  | exact w2.elim
  | (rename_i n' ns ds
     dsimp only at w2
     by_cases hn : n' = n
     · rw [if_pos hn] at w2
       obtain ⟨a, dx, xs, h1, h2, _, _⟩ := kd.obj R.gh
       rw [hn] at h2
       exact ⟨⟨a, dx, _, h1, h2⟩, w2⟩
     · rw [if_neg hn] at w2; exact w2.elim)
end
end Dl
namespace Dl
open PySem L2
def tCmp (f : M Rv) : M Bool := do
 let r ← f
 match r with
 | .val (.bl b) => pure b
 | _ => M.fail
section
variable {X : Cx} {W : WX} {a b : Expr} {fa fb : M Rv} {pos : Pos} {r : R2} {g : D → D → Option Rv}
theorem tD_cmp {K : PySem.W.Frag} {f : M Rv} {σ : L2.St} {H : Hp} {Q : Bool → Hp → Prop} (h : tDT K W (tCmp f) σ H Q) : tD K W f σ H (fun x H' => ∃ k, x = V.bl k ∧ Q k H') := by
 obtain ⟨c, G, ρ, R, w⟩ := h
 refine tg_step R (Same.refl G) w fun x ρ1 v G1 H1 R1 s1 _ k1 w1 => ?_
 cases x with
 | val d => cases d with
  | bl b => exact ⟨b, k1, w1 b G1 H1 R1 s1 rfl⟩
  | _ => exact w1.elim
 | _ => exact w1.elim
theorem dt_cmp {op : CmpOp} (ho : OpR X (compareOp op) r) (hg : BinR X.K r g) (ha : DE X W a fa) (hb : DE X W b fb) (hm : behindInMarks op b = false := by rfl) : DT X W (.Compare a [op] [b] pos) (tCmp (mBin g fa fb)) :=
 ⟨(pt_cmpR ho ha.pe hb.pe hm).weak fun _ _ _ h => tD_bin hg (tD_cmp h)⟩
theorem dt_lt (ha : DE X W a fa) (hb : DE X W b fb) : DT X W (.Compare a [.Lt] [b] pos) (tCmp (eLt fa fb)) := let ⟨_, h1, h2⟩ := lt_op; dt_cmp h1 h2 ha hb (nomark _)
theorem dt_gt (ha : DE X W a fa) (hb : DE X W b fb) : DT X W (.Compare a [.Gt] [b] pos) (tCmp (eGt fa fb)) := let ⟨_, h1, h2⟩ := gt_op; dt_cmp h1 h2 ha hb (nomark _)
theorem dt_ge (ha : DE X W a fa) (hb : DE X W b fb) : DT X W (.Compare a [.GtE] [b] pos) (tCmp (eGe fa fb)) := let ⟨_, h1, h2⟩ := ge_op; dt_cmp h1 h2 ha hb (nomark _)
theorem dt_eq (hu : Rm X) (ha : DE X W a fa) (hb : DE X W b fb) : DT X W (.Compare a [.Eq] [b] pos) (tCmp (eEq fa fb)) := dt_cmp (op_eqD (Nat.lt_of_succ_lt hu)) eq_ok ha hb (nomark _)
theorem dt_ne (hu : Rm X) (ha : DE X W a fa) (hb : DE X W b fb) : DT X W (.Compare a [.NotEq] [b] pos) (tCmp (eNe fa fb)) := dt_cmp (op_neD (Nat.lt_of_succ_lt hu)) ne_ok ha hb (nomark _)
theorem dt_notIn (hu : Rm X) (ha : DE X W a fa) (hb : DE X W b fb) (hm : behindInMarks .NotIn b = false := by rfl) : DT X W (.Compare a [.NotIn] [b] pos) (tCmp (eNotIn fa fb)) := dt_cmp (op_notIn_seq.or (op_notInD hu)) (BinR.or notIn_ok notInD_ok) ha hb hm
theorem de_tyN {x : Str} {n : String} (hm : X.mg x = none) (hv : bootBuiltins x = some (.type n)) (hg : Gl X x := by exact rfl) (hn : x ≠ "__name__" := by decide) (hd : (x == ("__debug__" : Str)) = false := by decide) : DE X W (.Name x pos) (eC (.ty n)) :=
 de_cv (v := .ty n) (pe_bltn hg hm hv rfl hn hd) fun _ => rfl
theorem de_len {x : Expr} {ga : M (List Rv)} {p : Pos} (hm : X.mg "len" = none) (ha : DA X W [x] ga) (hg : Gl X "len" := by exact rfl) (he : starEach [x] X.env = (false, eval x X.env) :: starEach [] X.env := by rfl) (hpl : (backTo pos (starEach [] X.env)).any (·.1) = false := by rfl) :
  DE X W (.Call (.Name "len" p) [x] [] pos) (eB gLen ga) := de_B call_len len_ok hg hm boot_len ha (by decide) (by decide) he hpl
theorem de_int1 {x : Expr} {ga : M (List Rv)} {p : Pos} (hm : X.mg "int" = none) (ha : DA X W [x] ga) (hg : Gl X "int" := by exact rfl) (he : starEach [x] X.env = (false, eval x X.env) :: starEach [] X.env := by rfl) (hpl : (backTo pos (starEach [] X.env)).any (·.1) = false := by rfl) :
  DE X W (.Call (.Name "int" p) [x] [] pos) (eB gInt ga) := de_Ty call_int1 int_ok hg hm PyProof.Rows.boot_int ha (by decide) (by decide) he hpl
theorem de_list {x : Expr} {ga : M (List Rv)} {p : Pos} (hm : X.mg "list" = none) (ha : DA X W [x] ga) (hg : Gl X "list" := by exact rfl) (he : starEach [x] X.env = (false, eval x X.env) :: starEach [] X.env := by rfl) (hpl : (backTo pos (starEach [] X.env)).any (·.1) = false := by rfl) :
  DE X W (.Call (.Name "list" p) [x] [] pos) (eB gList ga) := de_Ty call_list_of list_ok hg hm PyProof.Rows.boot_list ha (by decide) (by decide) he hpl
theorem de_tuple {x : Expr} {ga : M (List Rv)} {p : Pos} (hm : X.mg "tuple" = none) (ha : DA X W [x] ga) (hg : Gl X "tuple" := by exact rfl) (he : starEach [x] X.env = (false, eval x X.env) :: starEach [] X.env := by rfl) (hpl : (backTo pos (starEach [] X.env)).any (·.1) = false := by rfl) :
  DE X W (.Call (.Name "tuple" p) [x] [] pos) (eB gTuple ga) := de_Ty call_tuple_of tuple_ok hg hm PyProof.Rows.boot_tuple ha (by decide) (by decide) he hpl
theorem de_max2 {x y : Expr} {ga : M (List Rv)} {p : Pos} (go : Go X W) (hm : X.mg "max" = none) (ha : DA X W [x, y] ga) (hg : Gl X "max" := by exact rfl) (he : starEach [x, y] X.env = (false, eval x X.env) :: starEach [y] X.env := by rfl) (hpl : (backTo pos (starEach [y] X.env)).any (·.1) = false := by rfl) :
  DE X W (.Call (.Name "max" p) [x, y] [] pos) (eB gMax2 ga) := de_B (call_max2 go.calm) max2_ok hg hm PyProof.Rows.boot_max ha (by decide) (by decide) he hpl
theorem de_sorted {x : Expr} {ga : M (List Rv)} {p : Pos} (hm : X.mg "sorted" = none) (ha : DA X W [x] ga) (hg : Gl X "sorted" := by exact rfl) (he : starEach [x] X.env = (false, eval x X.env) :: starEach [] X.env := by rfl) (hpl : (backTo pos (starEach [] X.env)).any (·.1) = false := by rfl) :
  DE X W (.Call (.Name "sorted" p) [x] [] pos) (eB gSorted ga) := de_B cr_sortedI sorted_ok hg hm PyProof.Rows.boot_sorted ha (by decide) (by decide) he hpl
theorem de_isi {x y : Expr} {ga : M (List Rv)} {p : Pos} (hm : X.mg "isinstance" = none) (ha : DA X W [x, y] ga) (hg : Gl X "isinstance" := by exact rfl) (he : starEach [x, y] X.env = (false, eval x X.env) :: starEach [y] X.env := by rfl) (hpl : (backTo pos (starEach [y] X.env)).any (·.1) = false := by rfl) :
  DE X W (.Call (.Name "isinstance" p) [x, y] [] pos) (eB gIsi ga) := de_B call_isi isi_ok hg hm PyProof.Rows.boot_isinstance ha (by decide) (by decide) he hpl
end
section
variable {P : Program} {w : World} {K : PySem.W.Frag} {mg : Str → Option Value} {base : Heap} {x m : Str} {j k np : Nat} {fn fn' : Fn}
theorem DF.up (F : DF P w K mg base x j np fn) (h : j ≤ k) : DF P w K mg base x k np fn := let ⟨f, fd, ps, h1, h2, h3, h4⟩ := F.ex; ⟨F.len, f, fd, ps, h1, h2, h3, h4.mono h⟩
theorem DM.up (F : DM P w K mg base x j np fn) (h : j ≤ k) : DM P w K mg base x k np fn := let ⟨f, fd, ps, h1, h2, h3, h4⟩ := F.ex; ⟨F.len, f, fd, ps, h1, h2, h3, h4.mono h⟩
theorem DMeth.up (F : DMeth P w K mg base x m j np fn) (h : j ≤ k) : DMeth P w K mg base x m k np fn := let ⟨f, fd, ps, h1, h2, h3⟩ := F.ex; ⟨F.len, F.cl, f, fd, ps, h1, h2, h3.mono h⟩
def Fn.le (fn' fn : Fn) : Prop := ∀ ss o, fn' ss = some o → fn ss = some o
theorem spD_imp {vs : List V} {H : Hp} {Q : VK} {E : XK} (h : Fn.le fn' fn) (q : spD K np fn' vs H Q E) : spD K np fn vs H Q E := let ⟨c, G, ss, o, h1, h2, h3, h4, h5⟩ := q; ⟨c, G, ss, o, h1, h2, h3, h _ _ h4, h5⟩
theorem DF.imp (F : DF P w K mg base x k np fn) (h : Fn.le fn' fn) : DF P w K mg base x k np fn' := let ⟨f, fd, ps, h1, h2, h3, h4⟩ := F.ex; ⟨fun ss o e => F.len ss o (h _ _ e), f, fd, ps, h1, h2, h3, h4.imp fun _ _ _ _ q => spD_imp h q⟩
theorem DM.imp (F : DM P w K mg base x k np fn) (h : Fn.le fn' fn) : DM P w K mg base x k np fn' := let ⟨f, fd, ps, h1, h2, h3, h4⟩ := F.ex; ⟨fun ss o e => F.len ss o (h _ _ e), f, fd, ps, h1, h2, h3, h4.imp fun _ _ _ _ q => spD_imp h q⟩
theorem DMeth.imp (F : DMeth P w K mg base x m k np fn) (h : Fn.le fn' fn) : DMeth P w K mg base x m k np fn' := let ⟨f, fd, ps, h1, h2, h3⟩ := F.ex; ⟨fun ss o e => F.len ss o (h _ _ e), F.cl, f, fd, ps, h1, h2, h3.imp fun _ _ _ _ q => spD_imp h q⟩
theorem mkFn_len {np n : Nat} {f : MS} : ∀ ss o, mkFn np n f ss = some o → ss.length = np := fun ss o e => by
 unfold mkFn at e
 by_cases h : ss.length = np
 · exact h
 · rw [if_neg h] at e; cases e
def Body (P : Program) (w : World) (K : PySem.W.Frag) (mg : Str → Option Value) (base : Heap) (N : List Str) (qual : Str) (scope : Scope) (f : Addr) (body : List Stmt) (np k : Nat) (fb : MS) : Prop :=
 ∀ (cdv : Value) (A : Around) (outer : List Env) (s : Shared) (H : Hp) (E : XK), Room k (A.deeper (PyProof.Rows.envOfC qual scope s.heap.objs.size f cdv)) → DL (cxOf (L2N.CX P w) P w K mg base N qual scope f cdv A outer s H E) (WB E) np body fb
theorem df_of {ps N : List Str} {f : Addr} {fd : FuncData} {qual : Str} {params : Arguments} {body : List Stmt} {scope : Scope} {fb : MS} (F : FunD K x qual params body scope [] [] f fd) (S : FnScope N ps scope) (hm : mg x = some (.ref f)) (hb : Binds K fd ps [])
  (h : Body P w K mg base N qual scope f body ps.length k fb) : DF P w K mg base x (k + 1) ps.length (mkFn ps.length N.length fb) :=
 ⟨mkFn_len, f, fd, ps, hm, F.kp, hb, fn_data F S h⟩
theorem dm_of {ps N : List Str} {f : Addr} {fd : FuncData} {qual y : Str} {params : Arguments} {body : List Stmt} {scope : Scope} {fb : MS} (F : FunD K y qual params body scope [] [] f fd) (S : FnScope N ps scope) (hm : mg x = some (.ref (He.ga K x))) (hk : Mk K (He.ga K x) f) (hb : Binds K fd ps [])
  (h : Body P w K mg base N qual scope f body ps.length k fb) : DM P w K mg base x (k + 1) ps.length (mkFn ps.length N.length fb) :=
 ⟨mkFn_len, f, fd, ps, hm, hk, hb, fn_data F S h⟩
theorem dmeth_of {ps N : List Str} {f : Addr} {fd : FuncData} {qual y : Str} {params : Arguments} {body : List Stmt} {scope : Scope} {fb : MS} (F : FunD K y qual params body scope [] [] f fd) (S : FnScope N ps scope) (c : Cls K (He.ga K x)) (hk : Meth K (He.ga K x) m f) (hb : Binds K fd ps [])
  (h : Body P w K mg base N qual scope f body ps.length k fb) : DMeth P w K mg base x m (k + 1) ps.length (mkFn ps.length N.length fb) :=
 ⟨mkFn_len, c, f, fd, ps, hk, hb, fn_data F S h⟩
end
end Dl
namespace Dl
open PySem L2
abbrev Ar : Type := List (Addr × List D)
abbrev keys (A : Ar) : List Addr := A.map (·.1)
structure RepA (K : PySem.W.Frag) (G FA : Hp) (A : Ar) : Prop where
 nd : (keys A).Nodup
 at_ : ∀ a ds, (a, ds) ∈ A → ∃ xs, FA a = some (.lst xs) ∧ RpL K G ds xs
 dom : ∀ a o, FA a = some o → a ∈ keys A
theorem RepA.mono {K : PySem.W.Frag} {G G' FA : Hp} {A : Ar} (h : RepA K G FA A) (s : Same G G') : RepA K G' FA A :=
 ⟨h.nd, fun a ds m => let ⟨xs, h1, h2⟩ := h.at_ a ds m; ⟨xs, h1, h2.mono s⟩, h.dom⟩
def plus (F FA : Hp) : Hp := fun a => match FA a with
 | some o => some o
 | none => F a
abbrev Cn.pl (c : Cn) (FA : Hp) : Cn := { c with F := plus c.F FA }
structure RstA (K : PySem.W.Frag) (c : Cn) (FA G H : Hp) (σ : L2.St) (ρ : List S) (A : Ar) : Prop where
 rst : Rst K (c.pl FA) G H σ ρ
 rep : RepA K G FA A
 dis : ∀ a o, c.F a = some o → FA a = none
inductive OA where
 | nx (ρ : List S) (A : Ar) | rt (r : Rv) (ρ : List S) (A : Ar) | bk (ρ : List S) (A : Ar) | ct (ρ : List S) (A : Ar) | ex (e : Xn) (ρ : List S) (A : Ar)
def Os.wA (A : Ar) : Os → OA
 | .nx ρ => .nx ρ A
 | .rt r ρ => .rt r ρ A
 | .bk ρ => .bk ρ A
 | .ct ρ => .ct ρ A
 | .ex e ρ => .ex e ρ A
abbrev MA : Type := List S → Ar → (OA → Prop) → Prop
def PoA (K : PySem.W.Frag) (c : Cn) (W : WX) (G : Hp) (Dn : Ends) : OA → Prop
 | .nx ρ' A' => ∀ σ' FA' G' H', RstA K c FA' G' H' σ' ρ' A' → Same G G' → Dn.nx σ' H'
 | .bk ρ' A' => ∀ σ' FA' G' H', RstA K c FA' G' H' σ' ρ' A' → Same G G' → Dn.bk σ' H'
 | .ct ρ' A' => ∀ σ' FA' G' H', RstA K c FA' G' H' σ' ρ' A' → Same G G' → Dn.ct σ' H'
 | .rt r ρ' A' => ∀ v σ' FA' G' H', RstA K c FA' G' H' σ' ρ' A' → Same G G' → RpR K (c.pl FA') G' H' σ' ρ' v r → Dn.rt v H'
 | .ex e ρ' A' => ∀ cls d σ' FA' G' H', RstA K c FA' G' H' σ' ρ' A' → Same G G' → XAt K G' H' e cls d → W cls d σ' H'
theorem PoA.mono {K : PySem.W.Frag} {c : Cn} {W : WX} {G G1 : Hp} {Dn : Ends} {o : OA} (s : Same G G1) (h : PoA K c W G Dn o) : PoA K c W G1 Dn o := by
 cases o with
 | nx ρ A => exact fun σ' FA' G' H' R s' => h σ' FA' G' H' R (s.trans s')
 | bk ρ A => exact fun σ' FA' G' H' R s' => h σ' FA' G' H' R (s.trans s')
 | ct ρ A => exact fun σ' FA' G' H' R s' => h σ' FA' G' H' R (s.trans s')
 | rt r ρ A => exact fun v σ' FA' G' H' R s' k => h v σ' FA' G' H' R (s.trans s') k
 | ex e ρ A => exact fun cls d σ' FA' G' H' R s' x => h cls d σ' FA' G' H' R (s.trans s') x
theorem PoA.lift {K : PySem.W.Frag} {c : Cn} {W : WX} {FA G : Hp} {Dn : Ends} {A : Ar} {o : Os} (rep : RepA K G FA A) (dis : ∀ a o, c.F a = some o → FA a = none) (h : PoA K c W G Dn (o.wA A)) : Po K (c.pl FA) W G Dn o := by
 cases o with
 | nx ρ => exact fun σ' G' H' R s' => h σ' FA G' H' ⟨R, rep.mono s', dis⟩ s'
 | bk ρ => exact fun σ' G' H' R s' => h σ' FA G' H' ⟨R, rep.mono s', dis⟩ s'
 | ct ρ => exact fun σ' G' H' R s' => h σ' FA G' H' ⟨R, rep.mono s', dis⟩ s'
 | rt r ρ => exact fun v σ' G' H' R s' k => h v σ' FA G' H' ⟨R, rep.mono s', dis⟩ s' k
 | ex e ρ => exact fun cls d σ' G' H' R s' x => h cls d σ' FA G' H' ⟨R, rep.mono s', dis⟩ s' x
def tA (K : PySem.W.Frag) (W : WX) (np : Nat) (w : MA) : TS := fun Dn σ H => ∃ c FA G ρ A Φ, c.s0.length = np ∧ RstA K c FA G H σ ρ A ∧ w ρ A Φ ∧ ∀ o, Φ o → PoA K c W G Dn o
structure DSA (X : Cx) (W : WX) (np : Nat) (st : Stmt) (w : MA) : Prop where
 ps : PS X st (tA X.K W np w)
structure DLA (X : Cx) (W : WX) (np : Nat) (st : List Stmt) (w : MA) : Prop where
 pss : PSs X st (tA X.K W np w)
def zLift (f : MS) : MA := fun ρ A Φ => ∃ o, f ρ = some o ∧ Φ (o.wA A)
def zSeq (w1 w2 : MA) : MA := fun ρ A Φ => w1 ρ A fun o => match o with
 | .nx ρ' A' => w2 ρ' A' Φ
 | o => Φ o
def zNil : MA := fun ρ A Φ => Φ (.nx ρ A)
section
variable {X : Cx} {W : WX} {np : Nat} {a b e tg iter : Expr} {pos p : Pos} {st : Stmt} {rest sts sts' : List Stmt} {f : MS} {w w' w1 w2 : MA} {ga : M Bool} {it : M (List D)} {g : D → List S → Option (List S)}
theorem dsa_lift (h : DS X W np st f) : DSA X W np st (zLift f) := ⟨h.ps.weak fun Dn σ H ⟨c, FA, G, ρ, A, Φ, hl, R, ⟨o, e, hΦ⟩, po⟩ => ⟨c.pl FA, G, ρ, o, hl, R.rst, e, (po _ hΦ).lift R.rep R.dis⟩⟩
theorem dla_lift (h : DL X W np sts f) : DLA X W np sts (zLift f) := ⟨h.pss.weak fun Dn σ H ⟨c, FA, G, ρ, A, Φ, hl, R, ⟨o, e, hΦ⟩, po⟩ => ⟨c.pl FA, G, ρ, o, hl, R.rst, e, (po _ hΦ).lift R.rep R.dis⟩⟩
theorem dla_nil : DLA X W np [] zNil := ⟨pss_nil.weak fun Dn σ H ⟨c, FA, G, ρ, A, Φ, hl, R, h, po⟩ => po _ h σ FA G H R (Same.refl G)⟩
theorem dla_one (h : DSA X W np st w) : DLA X W np [st] w := ⟨pss_one h.ps⟩
theorem dla_cons (h1 : DSA X W np st w1) (h2 : DLA X W np rest w2) : DLA X W np (st :: rest) (zSeq w1 w2) := ⟨(pss_cons h1.ps h2.pss).weak fun Dn σ H ⟨c, FA, G, ρ, A, Φ, hl, R, h, po⟩ => by
 show tA X.K W np w1 { Dn with nx := tA X.K W np w2 Dn } σ H
 refine ⟨c, FA, G, ρ, A, _, hl, R, h, fun o ho => ?_⟩
 cases o with
 | nx ρ1 A1 => exact fun σ' FA' G' H' R' s' => ⟨c, FA', G', ρ1, A1, Φ, hl, R', ho, fun o h => (po o h).mono s'⟩
 | _ => exact po _ ho⟩
theorem dla_pre (h : DLA X W np sts w) (hw : ∀ Dn σ H, tA X.K W np w' Dn σ H → tA X.K W np w Dn σ H) : DLA X W np sts w' := ⟨h.pss.weak hw⟩
end
end Dl
namespace Dl
open PySem L2
abbrev MEA (α : Type) : Type := List S → Ar → (α → List S → Ar → Prop) → Prop
def tgA {α β : Type} (K : PySem.W.Frag) (rep : Cn → Hp → Hp → L2.St → List S → β → α → Prop) (w : MEA α) : L2.St → Hp → (β → Hp → Prop) → Prop := fun σ H Q =>
 ∃ c FA G ρ A Φ, RstA K c FA G H σ ρ A ∧ w ρ A Φ ∧ ∀ a ρ' A', Φ a ρ' A' → ∀ b FA' G' H', RstA K c FA' G' H' σ ρ' A' → Same G G' → rep (c.pl FA') G' H' σ ρ' b a → Q b H'
structure DEA (X : Cx) (e : Expr) (w : MEA Rv) : Prop where
 pe : PE X e (tgA X.K (repE X.K) w)
def zE {α : Type} (f : M α) : MEA α := fun ρ A Φ => ∃ r ρ', f ρ = some (.ok r ρ') ∧ Φ r ρ' A
def Ar.put (A : Ar) (a : Addr) (ds : List D) : Ar := A.map fun p => if p.1 = a then (a, ds) else p
theorem Ar.put_keys (a : Addr) (ds : List D) : ∀ A : Ar, keys (Ar.put A a ds) = keys A
 | [] => rfl
 | p :: A => by
  show (if p.1 = a then (a, ds) else p).1 :: keys (Ar.put A a ds) = p.1 :: keys A
  rw [Ar.put_keys a ds A]
  split
  · rename_i h; rw [h]
  · rfl
theorem Ar.mem_put {A : Ar} {a b : Addr} {ds es : List D} (h : (b, es) ∈ Ar.put A a ds) : (b = a ∧ es = ds) ∨ (b ≠ a ∧ (b, es) ∈ A) := by
 obtain ⟨p, hp, e⟩ := List.mem_map.mp h
 split at e
 · cases e; exact .inl ⟨rfl, rfl⟩
 · rename_i hn; subst e; exact .inr ⟨hn, hp⟩
section
variable {K : PySem.W.Frag} {c : Cn} {FA G H : Hp} {σ : L2.St} {ρ : List S} {A : Ar} {a : Addr} {ds ds' : List D} {xs' : List V}
theorem RstA.node (R : RstA K c FA G H σ ρ A) (h : (a, ds) ∈ A) : ∃ xs, FA a = some (.lst xs) ∧ H a = some (.lst xs) ∧ RpL K G ds xs := by
 obtain ⟨xs, h1, h2⟩ := R.rep.at_ a ds h
 exact ⟨xs, h1, R.rst.fh a _ (by show plus c.F FA a = _; unfold plus; rw [h1]), h2⟩
theorem RstA.store (R : RstA K c FA G H σ ρ A) (h : (a, ds) ∈ A) (r : RpL K G ds' xs') : RstA K c (upd FA a (.lst xs')) G (upd H a (.lst xs')) σ ρ (Ar.put A a ds') := by
 obtain ⟨xs, h1, h2, h3⟩ := R.node h
 have hF : plus c.F FA a = some (.lst xs) := by unfold plus; rw [h1]
 have hG : G a = none := R.rst.fg a _ hF
 have hP : ∀ b, b ≠ a → plus c.F (upd FA a (.lst xs')) b = plus c.F FA b := fun b hb => by unfold plus; rw [upd_ne hb]
 have hPa : plus c.F (upd FA a (.lst xs')) a = some (.lst xs') := by unfold plus; rw [upd_same]
 refine ⟨⟨fun b o e => ?_, fun b o e => ?_, fun b o e => ?_, R.rst.len, R.rst.val, fun i d e => ?_, R.rst.ne, R.rst.par⟩, ⟨by rw [Ar.put_keys]; exact R.rep.nd, fun b es hm => ?_, fun b o e => ?_⟩, fun b o e => ?_⟩
 · have e : plus c.F (upd FA a (.lst xs')) b = some o := e
   by_cases hb : b = a
   · subst hb; rw [hPa] at e; cases e; exact upd_same
   · rw [hP b hb] at e; rw [upd_ne hb]; exact R.rst.fh b o e
 · by_cases hb : b = a
   · subst hb; rw [hG] at e; cases e
   · rw [upd_ne hb]; exact R.rst.gh b o e
 · have e : plus c.F (upd FA a (.lst xs')) b = some o := e
   by_cases hb : b = a
   · subst hb; exact hG
   · rw [hP b hb] at e; exact R.rst.fg b o e
 · obtain ⟨b, e1, e2, e3, e4⟩ := R.rst.own i d e
   have e3' : plus c.F FA b = none := e3
   have hb : b ≠ a := fun z => by rw [z, hF] at e3'; cases e3'
   refine ⟨b, e1, e2, (hP b hb).trans e3', ?_⟩
   cases d with
   | lst es => obtain ⟨ys, q1, q2⟩ := e4; exact ⟨ys, by rw [upd_ne hb]; exact q1, q2⟩
   | obj n ns es =>
    obtain ⟨dx, ys, q1, q2, q3, q4, q5, q6, q7⟩ := e4
    have q4' : plus c.F FA dx = none := q4
    have hx : dx ≠ a := fun z => by rw [z, hF] at q4'; cases q4'
    exact ⟨dx, ys, by rw [upd_ne hb]; exact q1, by rw [upd_ne hx]; exact q2, q3, (hP dx hx).trans q4', q5, q6, q7⟩
   | dic ks vs => obtain ⟨kvs, q1, q2, q3⟩ := e4; exact ⟨kvs, by rw [upd_ne hb]; exact q1, q2, q3⟩
   | ndi ks vs => obtain ⟨kvs, q1, q2⟩ := e4; exact ⟨kvs, by rw [upd_ne hb]; exact q1, q2⟩
   | _ => exact e4.elim
 · rcases Ar.mem_put hm with ⟨rfl, rfl⟩ | ⟨hb, hm⟩
   · exact ⟨xs', upd_same, r⟩
   · obtain ⟨ys, q1, q2⟩ := R.rep.at_ b es hm
     exact ⟨ys, by rw [upd_ne hb]; exact q1, q2⟩
 · rw [Ar.put_keys]
   by_cases hb : b = a
   · subst hb; exact R.rep.dom _ _ h1
   · rw [upd_ne hb] at e; exact R.rep.dom b o e
 · have hb : b ≠ a := fun z => by rw [z] at e; have := R.dis a o e; rw [h1] at this; cases this
   rw [upd_ne hb]; exact R.dis b o e
end
def zApp (wo : MEA Rv) (fe : M Rv) : MEA Rv := fun ρ A Φ => wo ρ A fun r ρ1 A1 => ∃ p, r = .val (.loc p) ∧ ∃ q ρ2, (do let x ← fe; toV x) ρ1 = some (.ok q ρ2) ∧ ∃ ds, (p, ds) ∈ A1 ∧ ds.length < sizeLine ∧ Φ (.val .non) ρ2 (Ar.put A1 p (ds ++ [q]))
def zExpr (we : MEA Rv) : MA := fun ρ A Φ => we ρ A fun r ρ' A' => Φ (.nx ρ' A')
section
variable {X : Cx} {W : WX} {np : Nat} {a b o e : Expr} {es : List Expr} {fa fb fe : M Rv} {wa wo we : MEA Rv} {pos apos cpos p : Pos}
theorem dea_lift (h : DE X W e fa) : DEA X e (zE fa) := ⟨h.pe.weak fun σ H Q ⟨c, FA, G, ρ, A, Φ, R, ⟨r, ρ', e1, hΦ⟩, post⟩ => ⟨c.pl FA, G, ρ, R.rst, by
 rw [e1]
 exact fun v G' H' R' s' k => post r ρ' A hΦ v FA G' H' ⟨R', R.rep.mono s', R.dis⟩ s' k⟩⟩
theorem dea_append (ho : DEA X o wo) (he : DE X W e fe) (hbase : attributeBase o "append" X.env (eval o X.env) = eval o X.env := by rfl)
  (hfew : ((backTo cpos (starEach [e] X.env)).all (fun x => !x.1) && (backToKw cpos (keywordEach [] X.env)).all (fun x => x.1.isSome) && decide ([e].length + ([] : List Keyword).length + (if ([] : List Keyword).isEmpty then 0 else 1) < 30)) = true := by rfl)
  (hline : (apos.endLine == cpos.line) = true := by rfl) (hs : starEach [e] X.env = (false, eval e X.env) :: starEach [] X.env := by rfl) (hplain : (backTo cpos (starEach [] X.env)).any (·.1) = false := by rfl) : DEA X (.Call (.Attribute o "append" apos) [e] [] cpos) (zApp wo fe) :=
 ⟨(pe_bm PySem.F.plainAttrs_list PySem.F.slot_list_append PySem.F.type_list_append mt_append ho.pe (pa_cons he.pe pa_nil hs) hbase hfew hline hs hplain).weak fun σ H Q ⟨c, FA, G, ρ, A, Φ, R, h, post⟩ => by
  refine ⟨c, FA, G, ρ, A, _, R, h, fun r ρ1 A1 ⟨p, er, q, ρ2, e2, ds, hm, hz, hΦ⟩ x FA1 G1 H1 R1 s1 k1 => ?_⟩
  subst er
  obtain rfl : x = .ref p := k1
  obtain ⟨xs0, h0, h1, _⟩ := R1.node hm
  refine ⟨.inl ⟨rfl, xs0, .inl (.inl h1)⟩, ?_⟩
  have e2' : wpM ((fe >>= fun x => toV x) ρ1) (fun a ρ' => a = q ∧ ρ' = ρ2) (EXk X.K (c.pl FA1) W σ G1) := by
   have : (fe >>= fun x => toV x) ρ1 = some (.ok q ρ2) := e2
   rw [this]; exact ⟨rfl, rfl⟩
  refine tg_step R1.rst (Same.refl G1) e2' fun y ρ3 u G3 H3 R3 s3 _ k3 w3 => ?_
  obtain ⟨d, G4, ρ4, s4, R4, k4, hq, hρ⟩ := toV_wp R3 k3 w3
  subst hq; subst hρ
  have R5 : RstA X.K c FA1 G4 H3 σ ρ4 A1 := ⟨R4, R1.rep.mono (s3.trans s4), R1.dis⟩
  obtain ⟨xs, h2, h3, h4⟩ := R5.node hm
  refine ⟨p, xs, u, rfl, rfl, h3, by rw [h4.length]; exact hz, ?_⟩
  exact post _ _ _ hΦ .non _ G4 _ (R5.store hm (h4.append (RpL.one k4))) (s1.trans (s3.trans s4)) rfl⟩
theorem dsa_expr (ha : DEA X e we) (hs : swapsWith e none pos.line X.env = pure false := by rfl) : DSA X W np (.Expr e pos) (zExpr we) :=
 ⟨(ps_expr ha.pe hs).weak fun Dn σ H ⟨c, FA, G, ρ, A, Φ, hl, R, h, po⟩ => ⟨c, FA, G, ρ, A, _, R, h, fun r ρ1 A1 hΦ v FA1 G1 H1 R1 s1 k1 => po _ hΦ _ FA1 G1 H1 R1 s1⟩⟩
end
end Dl
namespace Dl
open PySem L2
def zOwn (j : Nat) (w : MA) : MA := fun ρ A Φ => ∃ ds, ρ[j]? = some (.own (.lst ds)) ∧ ∀ b, b ∉ keys A → w (ρ.set j (.val (.loc b))) ((b, ds) :: A) Φ
def unl (A : Ar) : Nat → D → D
 | 0, d => d
 | n + 1, .loc a => match A.lookup a with
  | some ds => .lst (ds.map (unl A n))
  | none => .loc a
 | _ + 1, d => d
def unlS (A : Ar) (n : Nat) : S → S
 | .val d => .val (unl A n d)
 | s => s
def zStill (n : Nat) (w : MA) : MA := fun ρ A Φ => w (ρ.map (unlS A n)) [] Φ
section
variable {K : PySem.W.Frag} {c : Cn} {FA G H : Hp} {σ : L2.St} {ρ : List S} {A : Ar} {ds : List D}
theorem lookup_mem {a : Addr} : ∀ {A : Ar} {ds : List D}, A.lookup a = some ds → (a, ds) ∈ A
 | (b, es) :: A, ds, h => by
  rw [List.lookup_cons] at h
  by_cases e : a = b
  · subst e
    rw [beq_self_eq_true] at h
    cases h
    exact List.mem_cons_self
  · rw [show (a == b) = false from beq_eq_false_iff_ne.mpr e] at h
    exact List.mem_cons_of_mem _ (lookup_mem h)
theorem RstA.of_own (R : RstA K c FA G H σ ρ A) {j : Nat} (hj : ρ[j]? = some (.own (.lst ds))) : ∃ b FA', b ∉ keys A ∧ RstA K c FA' G H σ (ρ.set j (.val (.loc b))) ((b, ds) :: A) := by
 obtain ⟨b, e1, e2, e3, xs, q1, q2⟩ := R.rst.own j _ hj
 have e3 : plus c.F FA b = none := e3
 have f1 : FA b = none := by
  cases q : FA b with
  | none => rfl
  | some o => unfold plus at e3; rw [q] at e3; cases e3
 have f2 : c.F b = none := by unfold plus at e3; rw [f1] at e3; exact e3
 have hk : b ∉ keys A := fun hm => by
  obtain ⟨p, hp, rfl⟩ := List.mem_map.mp hm
  obtain ⟨ys, h1, _⟩ := R.rep.at_ p.1 p.2 hp
  rw [f1] at h1; cases h1
 have hP : ∀ x, x ≠ b → plus c.F (upd FA b (.lst xs)) x = plus c.F FA x := fun x hx => by unfold plus; rw [upd_ne hx]
 have hPb : plus c.F (upd FA b (.lst xs)) b = some (.lst xs) := by unfold plus; rw [upd_same]
 refine ⟨b, upd FA b (.lst xs), hk, ⟨fun x o e => ?_, R.rst.gh, fun x o e => ?_, by rw [List.length_set]; exact R.rst.len, fun i d h => ?_, fun i d h => ?_, fun i k d e a h1 h2 => ?_, fun i d h => ?_⟩, ⟨?_, fun a es hm => ?_, fun a o e => ?_⟩, fun a o e => ?_⟩
 · have e : plus c.F (upd FA b (.lst xs)) x = some o := e
   by_cases hx : x = b
   · subst hx; rw [hPb] at e; cases e; exact q1
   · rw [hP x hx] at e; exact R.rst.fh x o e
 · have e : plus c.F (upd FA b (.lst xs)) x = some o := e
   by_cases hx : x = b
   · subst hx; exact e2
   · rw [hP x hx] at e; exact R.rst.fg x o e
 · rcases set_cases h with ⟨hi, _, e⟩ | ⟨_, h⟩
   · cases e; subst hi; exact ⟨.ref b, e1, rfl⟩
   · exact R.rst.val i d h
 · rcases set_cases h with ⟨_, _, e⟩ | ⟨hi, h⟩
   · cases e
   · obtain ⟨r, g1, g2, g3, g4⟩ := R.rst.own i d h
     have hr : r ≠ b := fun z => hi (R.rst.ne i j d _ b h hj (by rw [g1, z]) e1)
     refine ⟨r, g1, g2, (hP r hr).trans g3, ?_⟩
     cases d with
     | lst es => exact g4
     | obj n ns es =>
      obtain ⟨dx, ys, p1, p2, p3, p4, p5⟩ := g4
      have hx : dx ≠ b := fun z => by rw [z, q1] at p2; cases p2
      exact ⟨dx, ys, p1, p2, p3, (hP dx hx).trans p4, p5⟩
     | dic ks vs => exact g4
     | ndi ks vs => exact g4
     | _ => exact g4.elim
 · rcases set_cases h1 with ⟨_, _, e'⟩ | ⟨_, h1⟩
   · cases e'
   · rcases set_cases h2 with ⟨_, _, e'⟩ | ⟨_, h2⟩
     · cases e'
     · exact R.rst.ne i k d e a h1 h2
 · rcases set_cases h with ⟨_, _, e⟩ | ⟨_, h⟩
   · cases e
   · exact R.rst.par i d h
 · exact List.nodup_cons.mpr ⟨hk, R.rep.nd⟩
 · rcases List.mem_cons.mp hm with e | hm
   · cases e; exact ⟨xs, upd_same, q2⟩
   · obtain ⟨ys, h1, h2⟩ := R.rep.at_ a es hm
     have ha : a ≠ b := fun z => by rw [z, f1] at h1; cases h1
     exact ⟨ys, by rw [upd_ne ha]; exact h1, h2⟩
 · by_cases ha : a = b
   · subst ha; exact List.mem_cons_self
   · rw [upd_ne ha] at e; exact List.mem_cons_of_mem _ (R.rep.dom a o e)
 · have ha : a ≠ b := fun z => by rw [z, f2] at e; cases e
   rw [upd_ne ha]; exact R.dis a o e
theorem unl_rp (R : RstA K c FA G H σ ρ A) {G' : Hp} (s : Same G G') (sa : Same FA G') : ∀ (n : Nat) (d : D) (v : V), Rp K G d v → Rp K G' (unl A n d) v
 | 0, d, v, h => h.mono s
 | n + 1, .loc a, v, h => by
  unfold unl
  cases q : A.lookup a with
  | none => exact h
  | some ds =>
   obtain ⟨xs, h1, h0, h3⟩ := R.node (lookup_mem q)
   refine ⟨a, xs, h, sa _ _ h1, ?_⟩
   clear q h1 h0
   induction ds generalizing xs with
   | nil => exact h3
   | cons d ds ih =>
    obtain ⟨x, r, e, k1, k2⟩ := h3
    exact ⟨x, r, e, unl_rp R s sa n d x k1, ih r k2⟩
 | n + 1, .non, v, h => h.mono s
 | n + 1, .bl _, v, h => h.mono s
 | n + 1, .int _, v, h => h.mono s
 | n + 1, .str _, v, h => h.mono s
 | n + 1, .lst _, v, h => h.mono s
 | n + 1, .tup _, v, h => h.mono s
 | n + 1, .obj _ _ _, v, h => h.mono s
 | n + 1, .dic _ _, v, h => h.mono s
 | n + 1, .ndi _ _, v, h => h.mono s
 | n + 1, .xob _ _ _ _, v, h => h.mono s
 | n + 1, .gho _, v, h => h.mono s
 | n + 1, .brw _, v, h => h.mono s
 | n + 1, .tpl _, v, h => h.mono s
 | n + 1, .scr _, v, h => h.mono s
 | n + 1, .ty _, v, h => h.mono s
 | n + 1, .cls _, v, h => h.mono s
theorem RstA.still (R : RstA K c FA G H σ ρ A) (n : Nat) : Same G (plus G FA) ∧ RstA K c (fun _ => none) (plus G FA) H σ (ρ.map (unlS A n)) [] := by
 have fa : ∀ a o, FA a = some o → plus c.F FA a = some o := fun a o e => by unfold plus; rw [e]
 have s : Same G (plus G FA) := fun a o e => by
  unfold plus
  cases q : FA a with
  | none => exact e
  | some o' => rw [R.rst.fg a _ (fa a o' q)] at e; cases e
 have sa : Same FA (plus G FA) := fun a o e => by unfold plus; rw [e]
 have nF : ∀ a, plus c.F FA a = none → FA a = none ∧ c.F a = none := fun a e => by
  cases q : FA a with
  | none => unfold plus at e; rw [q] at e; exact ⟨rfl, e⟩
  | some o => rw [fa a o q] at e; cases e
 have getS : ∀ {i : Nat} {y : S}, (ρ.map (unlS A n))[i]? = some y → ∃ x, ρ[i]? = some x ∧ unlS A n x = y := fun {i y} h => by
  rw [List.getElem?_map] at h
  exact Option.map_eq_some_iff.mp h
 have getO : ∀ {i : Nat} {d : D}, (ρ.map (unlS A n))[i]? = some (.own d) → ρ[i]? = some (.own d) := fun {i d} h => by
  obtain ⟨x, h1, h2⟩ := getS h
  cases x with
  | own e => cases h2; exact h1
  | _ => cases h2
 refine ⟨s, ⟨fun a o e => ?_, fun a o e => ?_, fun a o e => ?_, by rw [List.length_map]; exact R.rst.len, fun i d h => ?_, fun i d h => ?_, fun i j d e a h1 h2 => R.rst.ne i j d e a (getO h1) (getO h2), fun i d h => R.rst.par i d (getO h)⟩, ⟨List.nodup_nil, fun a es hm => (nomatch hm), fun a o e => (nomatch e)⟩, fun _ _ _ => rfl⟩
 · have e : c.F a = some o := e
   have := R.dis a o e
   exact R.rst.fh a o (by show plus c.F FA a = some o; unfold plus; rw [this]; exact e)
 · unfold plus at e
   cases q : FA a with
   | none => rw [q] at e; exact R.rst.gh a o e
   | some o' => rw [q] at e; cases e; exact R.rst.fh a _ (fa a _ q)
 · have e : c.F a = some o := e
   have hn := R.dis a o e
   have hg := R.rst.fg a o (by show plus c.F FA a = some o; unfold plus; rw [hn]; exact e)
   unfold plus; rw [hn]; exact hg
 · obtain ⟨x, h1, h2⟩ := getS h
   cases x with
   | val e =>
    cases h2
    obtain ⟨v, k1, k2⟩ := R.rst.val i e h1
    exact ⟨v, k1, unl_rp R s sa n e v k2⟩
   | _ => cases h2
 · obtain ⟨r, g1, g2, g3, g4⟩ := R.rst.own i d (getO h)
   obtain ⟨n1, n2⟩ := nF r g3
   have hG : ∀ x, G x = none → FA x = none → plus G FA x = none := fun x p q => by unfold plus; rw [q]; exact p
   refine ⟨r, g1, hG r g2 n1, n2, ?_⟩
   cases d with
   | lst es => obtain ⟨ys, p1, p2⟩ := g4; exact ⟨ys, p1, p2.mono s⟩
   | obj nn ns es =>
    obtain ⟨dx, ys, p1, p2, p3, p4, p5, p6, p7⟩ := g4
    obtain ⟨m1, m2⟩ := nF dx p4
    exact ⟨dx, ys, p1, p2, hG dx p3 m1, m2, p5, p6, p7.mono s⟩
   | dic ks vs => obtain ⟨kvs, p1, p2, p3⟩ := g4; exact ⟨kvs, p1, p2.mono s, p3.mono s⟩
   | ndi ks vs => obtain ⟨kvs, p1, p0, p2, p3⟩ := g4; exact ⟨kvs, p1, p0, p2.mono s, p3.mono s⟩
   | _ => exact g4.elim
end
section
variable {X : Cx} {W : WX} {np : Nat} {st : Stmt} {sts : List Stmt} {w : MA}
theorem tA_own {K : PySem.W.Frag} {j : Nat} {Dn : Ends} {σ : L2.St} {H : Hp} (h : tA K W np (zOwn j w) Dn σ H) : tA K W np w Dn σ H := by
 obtain ⟨c, FA, G, ρ, A, Φ, hl, R, ⟨ds, hj, hw⟩, po⟩ := h
 obtain ⟨b, FA', hk, R'⟩ := R.of_own hj
 exact ⟨c, FA', G, _, _, Φ, hl, R', hw b hk, po⟩
theorem tA_still {K : PySem.W.Frag} {n : Nat} {Dn : Ends} {σ : L2.St} {H : Hp} (h : tA K W np (zStill n w) Dn σ H) : tA K W np w Dn σ H := by
 obtain ⟨c, FA, G, ρ, A, Φ, hl, R, hw, po⟩ := h
 obtain ⟨s, R'⟩ := R.still n
 exact ⟨c, _, _, _, _, Φ, hl, R', hw, fun o ho => (po o ho).mono s⟩
theorem dla_own (j : Nat) (h : DLA X W np sts w) : DLA X W np sts (zOwn j w) := dla_pre h fun _ _ _ => tA_own
theorem dla_still (n : Nat) (h : DLA X W np sts w) : DLA X W np sts (zStill n w) := dla_pre h fun _ _ _ => tA_still
end
end Dl
namespace Dl
open PySem L2
section
variable {K : PySem.W.Frag} {c : Cn} {G G' H H' : Hp} {σ σ' : L2.St} {ρ ρ' ss ss' : List S} {vs : List V} {rs : List Rv}
end
abbrev FnA : Type := List S → (D → List S → Ar → Prop) → Prop
def spA (K : PySem.W.Frag) (np : Nat) (fn : FnA) : Sp := fun vs H Q E => ∃ c G ss Φ, vs.length = np ∧ c.s0 = vs.map some ∧ Rst K c G H (vs.map some) ss ∧ fn ss Φ ∧
 ∀ d ss' A', Φ d ss' A' → ∀ v FA' G' H', RstA K c FA' G' H' (vs.map some) ss' A' → Same G G' → Rp K G' d v → Q v H'
section
variable {P : Program} {w : World} {K : PySem.W.Frag} {mg : Str → Option Value} {base : Heap} {x qual : Str} {params : Arguments} {body : List Stmt} {scope : Scope} {dvs : List V} {kws : List (Str × V)} {f : Addr} {fd : FuncData}
end
structure DFA (P : Program) (w : World) (K : PySem.W.Frag) (mg : Str → Option Value) (base : Heap) (x : Str) (k np : Nat) (fn : FnA) : Prop where
 len : ∀ ss Φ, fn ss Φ → ss.length = np
 ex : ∃ (f : Addr) (fd : FuncData) (ps : List Str), mg x = some (.ref f) ∧ PySem.W.keepIn K (.ref f) = true ∧ Binds K fd ps [] ∧ FnOk P w K mg base (L2N.CX P w) k f fd ps (spA K np fn)
theorem DFA.up {P : Program} {w : World} {K : PySem.W.Frag} {mg : Str → Option Value} {base : Heap} {x : Str} {j k np : Nat} {fn : FnA} (F : DFA P w K mg base x j np fn) (h : j ≤ k) : DFA P w K mg base x k np fn :=
 let ⟨f, fd, ps, h1, h2, h3, h4⟩ := F.ex; ⟨F.len, f, fd, ps, h1, h2, h3, h4.mono h⟩
section
variable {X : Cx} {W : WX} {x : Str} {k np : Nat} {fn : FnA} {e : Expr} {es : List Expr} {la : M (List Rv)} {p pos : Pos}
end
end Dl
namespace Dl
open PySem L2
structure DTA (X : Cx) (e : Expr) (w : MEA Bool) : Prop where
 pt : PT X e (tgA X.K repT w)
def zIfA (wc : MEA Bool) (w1 w2 : MA) : MA := fun ρ A Φ => wc ρ A fun b ρ' A' => if b = true then w1 ρ' A' Φ else w2 ρ' A' Φ
section
variable {X : Cx} {W : WX} {np : Nat} {a b e : Expr} {pos : Pos} {sts sts' : List Stmt} {fe : M Rv} {wo : MEA Rv} {wc : MEA Bool} {w1 w2 : MA}
theorem dsa_ifA {cc : Expr} (hc : DTA X cc wc) (h1 : DLA X W np sts w1) (h2 : DLA X W np sts' w2) : DSA X W np (.If cc sts sts' pos) (zIfA wc w1 w2) :=
 ⟨(ps_if hc.pt h1.pss h2.pss).weak fun Dn σ H ⟨c, FA, G, ρ, A, Φ, hl, R, h, po⟩ => ⟨c, FA, G, ρ, A, _, R, h, fun v ρ' A' h v' FA1 G1 H1 R1 s1 k => by
  obtain rfl : v' = v := k
  cases v' with
  | true => rw [if_pos rfl] at h ⊢; exact ⟨c, FA1, G1, ρ', A', Φ, hl, R1, h, fun o ho => (po o ho).mono s1⟩
  | false => rw [if_neg Bool.false_ne_true] at h ⊢; exact ⟨c, FA1, G1, ρ', A', Φ, hl, R1, h, fun o ho => (po o ho).mono s1⟩⟩⟩
theorem RstA.lst {K : PySem.W.Frag} {c : Cn} {FA G H : Hp} {σ : L2.St} {ρ : List S} {A : Ar} {p : Addr} {ds : List D} (R : RstA K c FA G H σ ρ A) (hm : (p, ds) ∈ A) : Same G (plus G FA) ∧ Same (plus G FA) H ∧ Rp K (plus G FA) (.lst ds) (.ref p) := by
 have fa : ∀ a o, FA a = some o → plus c.F FA a = some o := fun a o e => by unfold plus; rw [e]
 have s : Same G (plus G FA) := fun a o e => by
  unfold plus
  cases q : FA a with
  | none => exact e
  | some o' => rw [R.rst.fg a _ (fa a o' q)] at e; cases e
 refine ⟨s, fun a o e => ?_, ?_⟩
 · unfold plus at e
   cases q : FA a with
   | none => rw [q] at e; exact R.rst.gh a o e
   | some o' => rw [q] at e; cases e; exact R.rst.fh a _ (fa a _ q)
 · obtain ⟨xs, h1, _, h3⟩ := R.node hm
   exact ⟨p, xs, rfl, by unfold plus; rw [h1], h3.mono s⟩
end
end Dl
namespace Dl
open PySem L2
theorem RstA.bare {K : PySem.W.Frag} {c : Cn} {FA G H : Hp} {σ : L2.St} {ρ : List S} (R : RstA K c FA G H σ ρ []) : Rst K c G H σ ρ ∧ c.pl FA = c := by
 have e : plus c.F FA = c.F := funext fun a => by
  unfold plus
  cases q : FA a with
  | none => rfl
  | some o => exact nomatch R.rep.dom a o q
 have e2 : c.pl FA = c := by show ({ c with F := plus c.F FA } : Cn) = c; rw [e]
 exact ⟨by have := R.rst; rw [e2] at this; exact this, e2⟩
def StillFn (np n : Nat) (w : MA) (fn : Fn) : Prop := ∀ ss o, fn ss = some o → ss.length = np ∧ w (ss ++ List.replicate (n - np) .no) [] fun o' => ∃ r ρ', o' = .rt r ρ' [] ∧ (∀ i, r ≠ .ali i) ∧ o = .ret r (post ss ρ')
section
variable {P : Program} {w : World} {K : PySem.W.Frag} {mg : Str → Option Value} {base : Heap} {x qual : Str} {params : Arguments} {body : List Stmt} {scope : Scope} {dvs : List V} {kws : List (Str × V)} {f : Addr} {fd : FuncData}
theorem fn_dataZ {N ps : List Str} {k : Nat} {fb : MA} {fn : Fn} (hfn : StillFn ps.length N.length fb fn) (F : FunD K x qual params body scope dvs kws f fd) (S : FnScope N ps scope)
  (hb : ∀ (cdv : Value) (A : Around) (outer : List Env) (s : Shared) (H : Hp) (E : XK), Room k (A.deeper (PyProof.Rows.envOfC qual scope s.heap.objs.size f cdv)) → DLA (cxOf (L2N.CX P w) P w K mg base N qual scope f cdv A outer s H E) (WB E) ps.length body fb) :
  FnOk P w K mg base (L2N.CX P w) (k + 1) f fd ps (spD K ps.length fn) := by
 refine F.ok S (fun vs H Q E h => ?_) fun cdv A outer s H vs Q E hr h => ⟨_, (hb cdv A outer s H E hr).pss, ?_⟩
 · obtain ⟨c, G, ss, o, hl, _⟩ := h
   exact hl
 · obtain ⟨c, G, ss, o, hl, hs, R, e, po⟩ := h
   obtain ⟨hsl, hw⟩ := hfn ss o e
   have R1 := R.ext (N.length - ps.length)
   have est : L2.start N vs = vs.map some ++ List.replicate (N.length - ps.length) none := by unfold L2.start; rw [hl]
   rw [est]
   refine ⟨c, fun _ => none, G, _, [], _, by rw [hs, List.length_map, hl], ⟨R1, ⟨List.nodup_nil, fun a es hm => (nomatch hm), fun a o e => (nomatch e)⟩, fun _ _ _ => rfl⟩, hw, fun o' ho => ?_⟩
   obtain ⟨r, ρ', e1, na, e2⟩ := ho
   subst e1; subst e2
   intro v σ' FA' G' H' R' s' k
   obtain ⟨R2, e3⟩ := R'.bare
   rw [e3] at k
   exact po v G' H' (R.posted hs s' R2) s' (RpR.posted R hs R2 na k)
end
end Dl
namespace Dl
open PySem L2
section
variable {K : PySem.W.Frag} {c : Cn} {G H : Hp} {σ : L2.St} {ρ : List S} {v : V} {ds : List D}
theorem ap_get {α : Type} {l : List α} {x y : α} {i : Nat} (h : (l ++ [x])[i]? = some y) : l[i]? = some y ∨ (i = l.length ∧ y = x) := by
 by_cases hi : i < l.length
 · rw [List.getElem?_append_left hi] at h; exact .inl h
 · rw [List.getElem?_append_right (Nat.le_of_not_lt hi)] at h
   cases q : i - l.length with
   | zero => rw [q] at h; cases h; exact .inr ⟨by omega, rfl⟩
   | succ n => rw [q] at h; cases h
theorem ap_old {α : Type} {l : List α} {x y : α} {i : Nat} (h : l[i]? = some y) : (l ++ [x])[i]? = some y := by
 rw [List.getElem?_append_left (List.getElem?_eq_some_iff.mp h).1]; exact h
theorem tk_get {l : List S} {n i : Nat} {s : S} (h : (l.take n)[i]? = some s) : l[i]? = some s ∧ i < n := by
 rw [List.getElem?_take] at h
 split at h
 · rename_i hn; exact ⟨h, hn⟩
 · cases h
theorem Rst.drop {x : Option V} {ρ2 : List S} (hl : ρ.length = σ.length) (par : ∀ (i : Nat) (d : D), ρ2[i]? = some (.own d) → i < ρ.length → i < c.s0.length → σ[i]? = c.s0[i]?) (R : Rst K ⟨c.F, []⟩ G H (σ ++ [x]) ρ2) : Rst K c G H σ (ρ2.take ρ.length) := by
 have old : ∀ {i : Nat} {y : Option V}, i < ρ.length → (σ ++ [x])[i]? = some y → σ[i]? = some y := fun {i y} hi q => by
  rw [List.getElem?_append_left (by omega)] at q; exact q
 have l2 := R.len
 rw [List.length_append] at l2
 refine ⟨R.fh, R.gh, R.fg, by rw [List.length_take, l2, ← hl]; simp, fun i d e => ?_, fun i d e => ?_, fun i j d e b h1 h2 r1 r2 => R.ne i j d e b (tk_get h1).1 (tk_get h2).1 (ap_old r1) (ap_old r2), fun i d e h => par i d (tk_get e).1 (tk_get e).2 h⟩
 · obtain ⟨e, hi⟩ := tk_get e
   obtain ⟨v, q1, q2⟩ := R.val i d e
   exact ⟨v, old hi q1, q2⟩
 · obtain ⟨e, hi⟩ := tk_get e
   obtain ⟨b, g1, g2⟩ := R.own i d e
   exact ⟨b, old hi g1, g2⟩
theorem RpR.drop {x : Option V} {ρ2 : List S} {c' : Cn} {r : Rv} {n : Nat} (hc : c'.F = c.F) (na : ∀ i, r ≠ .ali i) (h : RpR K c' G H (σ ++ [x]) ρ2 v r) : RpR K c G H σ (ρ2.take n) v r := by
 cases r with
 | val d => exact h
 | ali i => exact absurd rfl (na i)
 | own d =>
  obtain ⟨a, h1, h2, h3, h4, h5⟩ := h
  rw [hc] at h3 h4
  exact ⟨a, h1, h2, h3, h4, fun i e q z => h5 i e (tk_get q).1 (ap_old z)⟩
end
abbrev repAT (K : PySem.W.Frag) : Cn → Hp → Hp → L2.St → List S → List V → List Rv × List D → Prop := fun c G H σ ρ vs p => ∃ a, Rst K ⟨c.F, []⟩ G H (σ ++ [some (.ref a)]) (ρ ++ [.own (.lst p.2)]) ∧ RpRs K G (σ ++ [some (.ref a)]) vs p.1
structure DAT (X : Cx) (W : WX) (es : List Expr) (f : M (List Rv × List D)) : Prop where
 pa : PA X es (tg X.K W (repAT X.K) f)
def lstOf1 : Rv → Option (List D)
 | .own (.lst ds) => some ds
 | _ => none
def aTmpR (rs : List Rv) (ds : List D) : M (List Rv × List D) := fun ρ => some (.ok (.ali ρ.length :: rs, ds) ρ)
def aTmp (fa : M Rv) (ga : M (List Rv)) : M (List Rv × List D) := do
 let r ← fa
 let ds ← ofO (lstOf1 r)
 let rs ← ga
 aTmpR rs ds
def aConsT (fa : M Rv) (ga : M (List Rv × List D)) : M (List Rv × List D) := do
 let r ← fa
 let p ← ga
 pure (settle r :: p.1, p.2)
section
variable {X : Cx} {W : WX} {e : Expr} {es : List Expr} {fa : M Rv}
end
def callT (mu : List Bool) (fn : Fn) (p : List Rv × List D) : M Rv := fun ρ => match callM mu fn p.1 (ρ ++ [.own (.lst p.2)]) with
 | some (.ok (.ali _) _) => none
 | some (.ok r ρ') => some (.ok r (ρ'.take ρ.length))
 | some (.ex e ρ') => some (.ex e (ρ'.take ρ.length))
 | none => none
def eCallT (mu : List Bool) (fn : Fn) (ga : M (List Rv × List D)) : M Rv := do
 let p ← ga
 callT mu fn p
section
variable {X : Cx} {W : WX} {x : Str} {k np : Nat} {fn : Fn} {mu : List Bool} {e : Expr} {es : List Expr} {ga : M (List Rv × List D)} {p pos : Pos}
end
end Dl
namespace Dl
open PySem L2
section
variable {X : Cx} {W : WX} {x : Str} {k np : Nat} {fn : FnA} {e : Expr} {es : List Expr} {la : M (List Rv × List D)} {p pos : Pos}
end
def BodyA (P : Program) (w : World) (K : PySem.W.Frag) (mg : Str → Option Value) (base : Heap) (N : List Str) (qual : Str) (scope : Scope) (f : Addr) (body : List Stmt) (np k : Nat) (z : MA) : Prop :=
 ∀ (cdv : Value) (A : Around) (outer : List Env) (s : Shared) (H : Hp) (E : XK), Room k (A.deeper (PyProof.Rows.envOfC qual scope s.heap.objs.size f cdv)) → DLA (cxOf (L2N.CX P w) P w K mg base N qual scope f cdv A outer s H E) (WB E) np body z
end Dl
namespace Dl
open PySem L2
open PyProof.Rows hiding St
section
variable {X : Cx} {CX : CXT} {k n : Nat} {f : Addr} {fd : FuncData} {ps ks : List Str} {sp : Sp} {E : St → XK} {x : Str} {p pos : Pos} {e : Expr} {es : List Expr} {kws : List Keyword} {t tk : TA} {g : List Value → List Value → List Value} {gV : List V → List V → List V}
theorem _root_.L2.PK.weak {t t' : TA} (h : PK X kws t) (w : ∀ σ H Q, t' σ H Q → t σ H Q) : PK X kws t' := ⟨fun pos pins s σ H Q I q => h.run pos pins s σ H Q I (w σ H Q q)⟩
end
structure DK (X : Cx) (W : WX) (kws : List Keyword) (f : M (List Rv)) : Prop where
 pk : PK X kws (tDA X.K W f)
section
variable {X : Cx} {W : WX} {e : Expr} {kws : List Keyword} {nm : Option Str} {kpos : Pos} {f : M Rv} {g : M (List Rv)}
end
structure DFK (P : Program) (w : World) (K : PySem.W.Frag) (mg : Str → Option Value) (base : Heap) (x : Str) (k np n : Nat) (ks : List Str) (fn : Fn) : Prop where
 len : ∀ ss o, fn ss = some o → ss.length = np
 ex : ∃ (f : Addr) (fd : FuncData) (ps : List Str), mg x = some (.ref f) ∧ PySem.W.keepIn K (.ref f) = true ∧ KBn K fd ps n ks (fun us ws => us ++ ws) (fun vs zs => vs ++ zs) ∧ FnOk P w K mg base (L2N.CX P w) k f fd ps (spD K np fn)
theorem DFK.up {P : Program} {w : World} {K : PySem.W.Frag} {mg : Str → Option Value} {base : Heap} {x : Str} {j k np n : Nat} {ks : List Str} {fn : Fn} (F : DFK P w K mg base x j np n ks fn) (h : j ≤ k) : DFK P w K mg base x k np n ks fn :=
 let ⟨f, fd, ps, h1, h2, h3, h4⟩ := F.ex; ⟨F.len, f, fd, ps, h1, h2, h3, h4.mono h⟩
def eCallK (n m : Nat) (mu : List Bool) (fn : Fn) (ga gk : M (List Rv)) : M Rv := do
 let rs ← ga
 let zs ← gk
 if rs.length = n ∧ zs.length = m then callM mu fn (rs ++ zs) else M.fail
theorem RpRs.len {K : PySem.W.Frag} {G : Hp} {σ : L2.St} : ∀ {vs : List V} {rs : List Rv}, RpRs K G σ vs rs → vs.length = rs.length
 | [], [], _ => rfl
 | v :: vs, .val d :: rs, ⟨_, h2⟩ => by rw [List.length_cons, List.length_cons, h2.len]
 | v :: vs, .ali i :: rs, ⟨_, h2⟩ => by rw [List.length_cons, List.length_cons, h2.len]
 | [], _ :: _, h => h.elim
 | _ :: _, [], h => h.elim
 | _ :: _, .own _ :: _, h => h.elim
section
variable {X : Cx} {W : WX} {x : Str} {k np n : Nat} {ks : List Str} {fn : Fn} {mu : List Bool} {e : Expr} {es : List Expr} {kws : List Keyword} {ga gk : M (List Rv)} {p pos : Pos}
end
end Dl
namespace Dl
open PySem L2
section
variable {K : PySem.W.Frag} {c : Cn} {FA G H : Hp} {σ : L2.St} {ρ : List S} {A : Ar} {D0 b : Addr} {o : HO}
structure RstD (K : PySem.W.Frag) (c : Cn) (FA G H : Hp) (σ : L2.St) (ρ : List S) (A : Ar) (D0 : Addr) (o : HO) : Prop where
 rst : Rst K ((c.pl FA).with D0 o) G H σ ρ
 rep : RepA K G FA A
 dis : ∀ a o, c.F a = some o → FA a = none
 no : plus c.F FA D0 = none
theorem RstD.init (R : RstA K c FA G H σ ρ A) (hp : H D0 = none) (ho : ∀ b, o ≠ .own b) : RstD K c FA G (upd H D0 o) σ ρ A D0 o :=
 ⟨(R.rst.laid hp).keep upd_same (R.rst.g_none hp) ho (R.rst.not_slot hp), R.rep, R.dis, R.rst.f_none hp⟩
theorem RstD.store {o' : HO} (R : RstD K c FA G H σ ρ A D0 o) (ho : ∀ b, o ≠ .own b) : RstD K c FA G (upd H D0 o') σ ρ A D0 o' := ⟨R.rst.store ho, R.rep, R.dis, R.no⟩
theorem RstD.ground {G' : Hp} (R : RstD K c FA G H σ ρ A D0 o) {H' : Hp} (R' : Rst K ((c.pl FA).with D0 o) G' H' σ ρ) (s : Same G G') : RstD K c FA G' H' σ ρ A D0 o := ⟨R', R.rep.mono s, R.dis, R.no⟩
theorem RstD.node (R : RstD K c FA G H σ ρ A D0 o) (hb : H b = none) : b ∉ keys A ∧ RstD K c (upd FA b (.lst [])) G (upd H b (.lst [])) σ ρ ((b, []) :: A) D0 o := by
 have hFb : ((c.pl FA).with D0 o).F b = none := R.rst.f_none hb
 have hbD : b ≠ D0 := fun z => by
  have : upd (plus c.F FA) D0 o b = none := hFb
  rw [z, upd_same] at this; cases this
 have hpl : plus c.F FA b = none := by
  have : upd (plus c.F FA) D0 o b = none := hFb
  rw [upd_ne hbD] at this; exact this
 have hFA : FA b = none := by
  cases q : FA b with
  | none => rfl
  | some u => unfold plus at hpl; rw [q] at hpl; cases hpl
 have hcF : c.F b = none := by unfold plus at hpl; rw [hFA] at hpl; exact hpl
 have hk : b ∉ keys A := fun hm => by
  obtain ⟨p, hp, rfl⟩ := List.mem_map.mp hm
  obtain ⟨ys, h1, _⟩ := R.rep.at_ p.1 p.2 hp
  rw [hFA] at h1; cases h1
 have R2 : Rst K (((c.pl FA).with D0 o).with b (.lst [])) G (upd H b (.lst [])) σ ρ := (R.rst.laid hb).keep upd_same (R.rst.g_none hb) (fun b z => nomatch z) (R.rst.not_slot hb)
 have eF : ((c.pl FA).with D0 o).with b (.lst []) = (c.pl (upd FA b (.lst []))).with D0 o := by
  have : upd (upd (plus c.F FA) D0 o) b (.lst []) = upd (plus c.F (upd FA b (.lst []))) D0 o := funext fun x => by
   by_cases xb : x = b
   · subst xb
     rw [upd_same, upd_ne hbD]; unfold plus; rw [upd_same]
   · rw [upd_ne xb]
     by_cases xD : x = D0
     · subst xD; rw [upd_same, upd_same]
     · rw [upd_ne xD, upd_ne xD]; unfold plus; rw [upd_ne xb]
  show ({ c with F := upd (upd (plus c.F FA) D0 o) b (.lst []) } : Cn) = { c with F := upd (plus c.F (upd FA b (.lst []))) D0 o }
  rw [this]
 rw [eF] at R2
 refine ⟨hk, R2, ⟨List.nodup_cons.mpr ⟨hk, R.rep.nd⟩, fun a ds hm => ?_, fun a u e => ?_⟩, fun a u e => ?_, ?_⟩
 · rcases List.mem_cons.mp hm with e | hm
   · cases e; exact ⟨[], upd_same, rfl⟩
   · obtain ⟨xs, h1, h2⟩ := R.rep.at_ a ds hm
     have ha : a ≠ b := fun z => by rw [z, hFA] at h1; cases h1
     exact ⟨xs, by rw [upd_ne ha]; exact h1, h2⟩
 · by_cases ha : a = b
   · subst ha; exact List.mem_cons_self
   · rw [upd_ne ha] at e; exact List.mem_cons_of_mem _ (R.rep.dom a u e)
 · have ha : a ≠ b := fun z => by rw [z, hcF] at e; cases e
   rw [upd_ne ha]; exact R.dis a u e
 · show plus c.F (upd FA b (.lst [])) D0 = none
   have := R.no
   unfold plus at this ⊢
   rw [upd_ne (Ne.symm hbD)]; exact this
end
section
variable {X : Cx} {W : WX} {kx tg iter : Expr} {scope : Scope} {own : List (Str × Nat)} {pos lpos : Pos} {it : M (List D)} {v : Nat}
end
def lkD : List D → List D → Int → Option D
 | .int k :: ks, v :: vs, i => if k = i then some v else lkD ks vs i
 | _, _, _ => none
def dGetI (d e : D) : Option D := match d, e with
 | .dic ks vs, .int i => lkD ks vs i
 | _, _ => none
def eDIx (fa fb : M Rv) : M Rv := do
 let x ← fa
 let y ← fb
 let d ← peek (settle x)
 let e ← peek y
 let z ← ofO (dGetI d e)
 pure (.val z)
section
variable {X : Cx} {W : WX} {a b : Expr} {fa fb : M Rv} {pos : Pos}
end
def zSetO (i : Nat) (we : MEA Rv) : MA := fun ρ A Φ => we ρ A fun r ρ' A' => ∃ d, r = .own d ∧ Φ (.nx (ρ'.set i (.own d)) A')
section
variable {K : PySem.W.Frag} {c : Cn} {FA G H : Hp} {σ : L2.St} {ρ : List S} {A : Ar}
end
section
variable {X : Cx} {W : WX} {np : Nat} {sts : List Stmt} {w : MA} {e : Expr} {we : MEA Rv} {pos : Pos}
theorem dsa_setO (i : Nat) {x : Str} {pos' : Pos} (hN : X.N.Nodup) (ha : DEA X e we) (hp : np ≤ i := by decide) (hi : X.N[i]? = some x := by rfl) (hx : Loc X.env.scope x := by first | exact Or.inl rfl | exact Or.inr rfl) (hs : swapsWith e (some (.Name x pos')) pos.line X.env = pure false := by rfl)
  (hf : X.fn x = true ∨ X.env.scope.names.lookup x = some .local := by first | exact .inl rfl | exact .inr rfl | assumption) : DSA X W np (.Assign [.Name x pos'] e pos) (zSetO i we) :=
 ⟨(ps_set hN hi hx ha.pe hs hf).weak fun Dn σ H ⟨c, FA, G, ρ, A, Φ, hl, R, h, po⟩ => ⟨c, FA, G, ρ, A, _, R, h, fun r ρ1 A1 ⟨d, er, hΦ⟩ v FA1 G1 H1 R1 s1 k1 => by
  subst er
  exact po _ hΦ _ FA1 G1 H1 ⟨R1.rst.set_own k1 (by show c.s0.length ≤ i; omega), R1.rep, R1.dis⟩ s1⟩⟩
end
end Dl
namespace Dl
open PySem L2
section
variable {K : PySem.W.Frag} {c : Cn} {FA G H : Hp} {σ : L2.St} {ρ : List S} {A : Ar}
theorem RstA.drop (R : RstA K c FA G H σ ρ A) : RstA K c (fun _ => none) G H σ ρ [] := by
 have low : ∀ b, (c.pl FA).F b = none → c.F b = none := fun b hb => by
  have hb : plus c.F FA b = none := hb
  unfold plus at hb
  cases q : FA b with
  | none => rw [q] at hb; exact hb
  | some u => rw [q] at hb; cases hb
 have up : ∀ b u, c.F b = some u → (c.pl FA).F b = some u := fun b u e => by
  show plus c.F FA b = some u
  unfold plus
  rw [R.dis b u e]; exact e
 refine ⟨⟨fun b u e => R.rst.fh b u (up b u e), R.rst.gh, fun b u e => R.rst.fg b u (up b u e), R.rst.len, R.rst.val, fun i d e => ?_, R.rst.ne, R.rst.par⟩, ⟨List.nodup_nil, fun a ds hm => absurd hm List.not_mem_nil, fun a u e => nomatch e⟩, fun a u _ => rfl⟩
 obtain ⟨a, h1, h2, h3, h4⟩ := R.rst.own i d e
 exact ⟨a, h1, h2, low a h3, h4.fmono fun b _ hb => low b hb⟩
variable {X : Cx} {W : WX} {np : Nat} {e : Expr} {we : MEA Rv} {pos : Pos}
end
end Dl
namespace Dl
open PySem L2 PySem.Spec PyProof.Rows
abbrev PF : Type := D → Option (Option (List D))
abbrev PFs : Type := List D → Option (Option (List D))
def MatchR (K : PySem.W.Frag) (G : Hp) (ns : List Str) : Option (List D) → Option (List (Str × Value)) → Prop
 | none, none => True
 | some ds, some bs => bs.map (·.1) = ns ∧ ∃ vs, RpL K G ds vs ∧ Vals vs (bs.map (·.2))
 | _, _ => False
structure DPat (X : Cx) (p : Pattern) (ns : List Str) (f : PF) : Prop where
 star : p.isStar = false
 run : ∀ {pins : List (Addr × Obj)} {s : Shared} {σ : L2.St} {H : Hp} {c : Cn} {G : Hp} {ρ : List S} {d : D} {v : V} {u : Value} {r : Option (List D)}, Inv X pins σ H s → Rst X.K c G H σ ρ → Rp X.K G d v → RelV v u → f d = some r →
  ∀ {Q : Option (List (Str × Value)) → Shared → Prop}, (∀ s' G' H' bs, Inv X pins σ H' s' → Rst X.K c G' H' σ ρ → Same G G' → MatchR X.K G' ns r bs → Q bs s') → wpAny (model X.prog X.w) X.A (matchPattern p X.env u) Q X.xe s
structure DPats (X : Cx) (ps : List Pattern) (ns : List Str) (f : PFs) : Prop where
 run : ∀ {pins : List (Addr × Obj)} {s : Shared} {σ : L2.St} {H : Hp} {c : Cn} {G : Hp} {ρ : List S} {ds : List D} {vs : List V} {us : List Value} {r : Option (List D)}, Inv X pins σ H s → Rst X.K c G H σ ρ → RpL X.K G ds vs → Vals vs us → f ds = some r →
  ∀ {Q : Option (List (Str × Value)) → Shared → Prop}, (∀ s' G' H' bs, Inv X pins σ H' s' → Rst X.K c G' H' σ ρ → Same G G' → MatchR X.K G' ns r bs → Q bs s') → wpAny (model X.prog X.w) X.A (matchEach ps X.env us) Q X.xe s
section
variable {X : Cx} {W : WX} {np : Nat} {pos : Pos}
end
end Dl
namespace Dl
open PySem L2 PySem.Spec PyProof.Rows
section
variable {prog : Program} {w : World} {A : Around} {E : Value → Shared → Prop} {s : Shared}
end
end Dl
namespace Dl
open PySem L2 PySem.Spec PyProof.Rows
section
variable {X : Cx} {W : WX} {np : Nat} {pos : Pos}
def setD : List Nat → List D → List S → List S
 | i :: is, d :: ds, ρ => setD is ds (ρ.set i (.val d))
 | _, _, ρ => ρ
abbrev CF : Type := D → MS
def kNil : CF := fun _ ρ => some (.nx ρ)
def sMatch (fe : M Rv) (r : CF) : MS := thenS (do let x ← fe; toV x) r
structure DCs (X : Cx) (W : WX) (np : Nat) (cs : List MatchCase) (f : CF) : Prop where
 run : ∀ {pins : List (Addr × Obj)} {s : Shared} {σ : L2.St} {H : Hp} {c : Cn} {G : Hp} {ρ : List S} {d : D} {v : V} {u : Value} {o : Os} {Dn : Ends} {first : Bool}, c.s0.length = np → Inv X pins σ H s → Rst X.K c G H σ ρ → Rp X.K G d v → RelV v u → f d ρ = some o → Po X.K c W G Dn o →
  wpAny (model X.prog X.w) X.A (matchCases cs X.env u first) (SP X pins Dn) X.xe s
inductive Nms (X : Cx) : List Str → List Nat → Prop
 | nil : Nms X [] []
 | cons {x : Str} {i : Nat} {ns : List Str} {is : List Nat} (hi : X.N[i]? = some x) (hx : Loc X.env.scope x) (hf : X.fn x = true ∨ X.env.scope.names.lookup x = some .local) (h : Nms X ns is) : Nms X (x :: ns) (i :: is)
end
end Dl
namespace Dl
open PySem L2
abbrev P2 : Type := List Rv × List D × List D
abbrev repAT2 (K : PySem.W.Frag) : Cn → Hp → Hp → L2.St → List S → List V → P2 → Prop := fun c G H σ ρ vs p => ∃ a b, Rst K ⟨c.F, []⟩ G H (σ ++ [some (.ref b)] ++ [some (.ref a)]) (ρ ++ [.own (.lst p.2.2)] ++ [.own (.lst p.2.1)]) ∧ RpRs K G (σ ++ [some (.ref b)] ++ [some (.ref a)]) vs p.1
structure DAT2 (X : Cx) (W : WX) (es : List Expr) (f : M P2) : Prop where
 pa : PA X es (tg X.K W (repAT2 X.K) f)
def aTmp2R (p : List Rv × List D) (ds : List D) : M P2 := fun ρ => some (.ok (.ali (ρ.length + 1) :: p.1, ds, p.2) ρ)
def aTmp2 (fa : M Rv) (ga : M (List Rv × List D)) : M P2 := do
 let r ← fa
 let ds ← ofO (lstOf1 r)
 let p ← ga
 aTmp2R p ds
def aConsT2 (fa : M Rv) (ga : M P2) : M P2 := do
 let r ← fa
 let p ← ga
 pure (settle r :: p.1, p.2)
section
variable {X : Cx} {W : WX} {e : Expr} {es : List Expr} {fa : M Rv}
end
def callT2 (mu : List Bool) (fn : Fn) (p : P2) : M Rv := fun ρ => match callM mu fn p.1 (ρ ++ [.own (.lst p.2.2)] ++ [.own (.lst p.2.1)]) with
 | some (.ok (.ali _) _) => none
 | some (.ok r ρ') => some (.ok r (ρ'.take ρ.length))
 | some (.ex e ρ') => some (.ex e (ρ'.take ρ.length))
 | none => none
def eCallT2 (mu : List Bool) (fn : Fn) (ga : M P2) : M Rv := do
 let p ← ga
 callT2 mu fn p
section
variable {X : Cx} {W : WX} {x : Str} {k np : Nat} {fn : Fn} {mu : List Bool} {e : Expr} {es : List Expr} {ga : M P2} {p pos : Pos}
end
end Dl
namespace Dl
open PySem L2 PySem.Spec PyProof.Rows
open PySem.AutoSeq1 in
theorem list_extend_tup (l : Addr) (items : Array Value) (n : Nat) (b : Addr) (items2 : Array Value) (n2 : Nat) (dv : Option Addr) (sl : Array (Option Value)) (hs0 : ¬(!items.isEmpty && Builtin.List.listTooLong (items.size + items2.size)) = true) (hs1 : items.size ≤ sizeLine) (hs2 : items.size + items2.size ≤ sizeLine + 1) :
  Meets (Builtin.«list.extend» ⟨[.ref l, .ref b], []⟩) (fun _ R s => s.heap.get? l = some { cls := .type "list", dict := none, data := .seq items n, slots := #[] } ∧ s.heap.get? b = some { cls := .type "tuple", dict := dv, data := .seq items2 n2, slots := sl } ∧ R (.ok (.ret Value.none)) { s with heap := s.heap.update l (Obj.mapSeq fun x => x ++ items2), toks := s.toks }) :=
 .of_wp fun prog w A R s h => by
  obtain ⟨hp, g, d, tk, os⟩ := s; obtain ⟨hl, hb, h⟩ := h; have f1 := idx_int; have f2 := AutoSeq1.sub_tuple_tuple; have f3 := AutoSeq1.sub_list_list; have f4 := AutoSeq1.sub_tuple_list; have f5 := AutoSeq1.sub_list_tuple;
  have hz' : (items ++ items2).size ≤ sizeLine + 1 := by rw [Array.size_append]; exact hs2
  wp_walk using (wpAny_updateSeq hl rfl (hz := hs1) (_hz' := hz')), wpAny_loadPart' hl, wpAny_loadPart' hb; exact ⟨_, rfl, h⟩
section
variable {X : Cx}
end
def mExtendT (fo fa : M Rv) : M Rv := do
 let r ← fo
 ckL (settle r)
 let x ← fa
 let d ← peek (settle x)
 fun ρ => match ownLst (settle r) ρ, d with
  | some (i, ds), .tup es => if ds.length + es.length ≤ sizeLine then some (.ok (.val .non) (ρ.set i (.own (.lst (ds ++ es))))) else none
  | _, _ => none
section
variable {X : Cx} {W : WX} {o e : Expr} {fo fa : M Rv} {apos cpos : Pos}
end
end Dl
namespace Dl
open PySem L2 Dn
def intO : D → Option Int
 | .int i => some i
 | _ => none
def intsO : List D → Option (List Int)
 | [] => some []
 | d :: ds => (intO d).bind fun i => (intsO ds).map (i :: ·)
def rowO : D → Option (List Int)
 | .tup ds => intsO ds
 | _ => none
def rowsO : List D → Option K2
 | [] => some []
 | d :: ds => (rowO d).bind fun r => (rowsO ds).map (r :: ·)
def keyO : D → Option K2
 | .tup ds => rowsO ds
 | _ => none
theorem intO_is {d : D} {i : Int} (h : intO d = some i) : d = .int i := by cases d <;> cases h; rfl
theorem intsO_is : ∀ {ds : List D} {l : List Int}, intsO ds = some l → ds = l.map .int
 | [], l, h => by cases h; rfl
 | d :: ds, l, h => by
  obtain ⟨i, h1, h2⟩ := Option.bind_eq_some_iff.mp h
  obtain ⟨r, h3, rfl⟩ := Option.map_eq_some_iff.mp h2
  rw [intO_is h1, intsO_is h3]; rfl
theorem rowO_is {d : D} {r : List Int} (h : rowO d = some r) : d = .tup (r.map .int) := by
 cases d <;> try (cases h; done)
 rw [intsO_is h]
theorem rowsO_is : ∀ {ds : List D} {l : K2}, rowsO ds = some l → ds = l.map fun r => .tup (r.map .int)
 | [], l, h => by cases h; rfl
 | d :: ds, l, h => by
  obtain ⟨i, h1, h2⟩ := Option.bind_eq_some_iff.mp h
  obtain ⟨r, h3, rfl⟩ := Option.map_eq_some_iff.mp h2
  rw [rowO_is h1, rowsO_is h3]; rfl
theorem keyO_is {d : D} {k : K2} (h : keyO d = some k) : d = keyD k := by
 cases d <;> try (cases h; done)
 rw [rowsO_is h]; rfl
theorem intsO_map : ∀ l : List Int, intsO (l.map .int) = some l
 | [] => rfl
 | i :: l => by show (some i).bind _ = _; rw [Option.bind_some, intsO_map l]; rfl
theorem rowsO_map : ∀ l : K2, rowsO (l.map fun r => .tup (r.map .int)) = some l
 | [] => rfl
 | r :: l => by
  show (intsO (r.map .int)).bind _ = _
  rw [intsO_map r, Option.bind_some, rowsO_map l]; rfl
theorem keyO_keyD (k : K2) : keyO (keyD k) = some k := rowsO_map k
def KeyAt (K : PySem.W.Frag) (H : Hp) (k : K2) (b : Addr) : Prop := ∃ bs : List Addr, SqT K H b (bs.map V.ref) ∧ Paired (fun (r : List Int) c => SqT K H c (r.map V.int)) k bs
section
variable {K : PySem.W.Frag} {G H : Hp}
theorem KeyAt.mono {k : K2} {b : Addr} (s : Same G H) (h : KeyAt K G k b) : KeyAt K H k b := by
 obtain ⟨bs, h1, h2⟩ := h
 exact ⟨bs, Same.seqt s h1, Paired.mapP h2 fun _ _ z => Same.seqt s z⟩
def KeysAt (K : PySem.W.Frag) (H : Hp) (kvs : List (K2 × Addr × V)) : Prop := ∀ p ∈ kvs, KeyAt K H p.1 p.2.1
end
section
variable {X : Cx} {pins : List (Addr × Obj)} {σ : L2.St} {H : Hp} {s : Shared}
theorem items_int : ∀ {r : List Int} {us : List Value}, Vals (r.map V.int) us → ItemsAre (PySem.intKind X.prog X.w) r us
 | [], us, h => by cases h; exact .nil
 | i :: r, us, h => by
  cases h with
  | cons h1 h2 =>
   obtain ⟨t, rfl⟩ := h1
   exact .cons (by show Value.isInt i (.int i t) = true; simp [Value.isInt]) (items_int h2)
theorem KeyAt.is (I : Inv X pins σ H s) {k : K2} {b : Addr} (h : KeyAt X.K H k b) : IsTup2 (PySem.intKind X.prog X.w) s.heap k b := by
 obtain ⟨bs, h1, h2⟩ := h
 obtain ⟨its, r, ⟨o, e1, e2, n, e3⟩, hsz⟩ := I.tuple h1
 clear hsz
 refine ⟨o, its.toArray, n, e1, e2, e3, ?_⟩
 show TuplesAre _ _ k its
 clear e1 e2 e3 h1
 induction h2 generalizing its with
 | nil => cases r; exact .nil
 | @cons x c k bs hc _ ih =>
  cases r with
  | cons r1 r2 =>
   cases r1
   obtain ⟨its', r', ⟨o', d1, d2, n', d3⟩, _⟩ := I.tuple hc
   exact .cons ⟨o', its'.toArray, n', d1, d2, d3, items_int r'⟩ (ih _ r2)
theorem KeysAt.is (I : Inv X pins σ H s) {kvs : List (K2 × Addr × V)} (h : KeysAt X.K H kvs) : Keys X.prog X.w s.heap kvs := fun p hp => (h p hp).is I
end
def lkN : List D → List D → K2 → Option D
 | k' :: ks, v :: vs, k => if keyO k' = some k then some v else lkN ks vs k
 | _, _, _ => none
theorem Rh.ndi {K : PySem.W.Frag} {c : Cn} {G H : Hp} {ks vs : List D} {v : V} (h : Rh K c G H (.ndi ks vs) v) (s : Same G H) : ∃ a kvs, v = .ref a ∧ H a = some (NDo a kvs) ∧ ks = kvs.map (fun p => keyD p.1) ∧ RpL K G ks (kvs.map fun p => V.ref p.2.1) ∧ RpL K G vs (kvs.map fun p => p.2.2) := by
 rcases h with ⟨a, xs, h1, h2, h0, h3, h4⟩ | ⟨a, h1, _, _, xs, h2, h0, h3, h4⟩
 · exact ⟨a, xs, h1, s _ _ h2, h0, h3, h4⟩
 · exact ⟨a, xs, h1, h2, h0, h3, h4⟩
theorem Rh.key {K : PySem.W.Frag} {c : Cn} {G H : Hp} {d : D} {k : K2} {v : V} (h : Rh K c G H d v) (e : keyO d = some k) : Rp K G (keyD k) v := by
 have e := keyO_is e
 subst e
 rcases h with h | ⟨a, _, _, _, h⟩
 · exact h
 · exact h.elim
def dInN (d e : D) : Option Rv := match keyO d, e with
 | some k, .ndi ks vs => some (.val (.bl (lkN ks vs k).isSome))
 | _, _ => none
section
variable {X : Cx} {W : WX} {a b e o : Expr} {fa fb fo : M Rv} {pos p : Pos} {np : Nat}
def eInN (fa fb : M Rv) : M Rv := mBin dInN fa fb
def dGetN (d e : D) : Option D := match keyO e, d with
 | some k, .ndi ks vs => lkN ks vs k
 | _, _ => none
def eGetN (fa fb : M Rv) : M Rv := do
 let x ← fa
 let y ← fb
 let d ← peek (settle x)
 let e ← peek y
 let z ← ofO (dGetN d e)
 pure (.val z)
end
end Dl
namespace Dl
open PySem L2 Dn
section
variable {X : Cx} {W : WX} {pos : Pos}
def eDicN : M Rv := pure (.own (.ndi [] []))
end
def replV : List D → List D → K2 → D → List D
 | k' :: ks, v :: vs, k, d => (if keyO k' = some k then d else v) :: replV ks vs k d
 | _, _, _, _ => []
def putVs (ks vs : List D) (k : K2) (d : D) : List D := if (lkN ks vs k).isSome = true then replV ks vs k d else vs ++ [d]
def putKs (ks vs : List D) (k : K2) : List D := if (lkN ks vs k).isSome = true then ks else ks ++ [keyD k]
section
variable {K : PySem.W.Frag} {G : Hp}
end
def ownNdi (r : Rv) (ρ : List S) : Option (Nat × List D × List D) := match r with
 | .ali i => match ρ[i]? with
  | some (.own (.ndi ks vs)) => some (i, ks, vs)
  | _ => none
 | _ => none
def sSetN (fa fo fi : M Rv) : MS := thenS fa fun x => thenS (toV x) fun d => thenS fo fun r => thenS fi fun j => thenS (peek (settle j)) fun e ρ =>
 match ownNdi (settle r) ρ, keyO e with
  | some (i, ks, vs), some k => if vs.length < sizeLine then some (.nx (ρ.set i (.own (.ndi (putKs ks vs k) (putVs ks vs k d))))) else none
  | _, _ => none
section
variable {X : Cx} {W : WX} {a e o : Expr} {fa fb fo : M Rv} {pos p : Pos} {np : Nat}
end
end Dl
namespace Dl
open PySem L2
section
variable {K : PySem.W.Frag} {c : Cn} {G H : Hp} {σ : L2.St} {ρ : List S} {v : V} {ks vs : List D}
end
abbrev repATN (K : PySem.W.Frag) : Cn → Hp → Hp → L2.St → List S → List V → List Rv × List D × List D → Prop := fun c G H σ ρ vs p => ∃ a, Rst K ⟨c.F, []⟩ G H (σ ++ [some (.ref a)]) (ρ ++ [.own (.ndi p.2.1 p.2.2)]) ∧ RpRs K G (σ ++ [some (.ref a)]) vs p.1
structure DATN (X : Cx) (W : WX) (es : List Expr) (f : M (List Rv × List D × List D)) : Prop where
 pa : PA X es (tg X.K W (repATN X.K) f)
def lstOf1N : Rv → Option (List D × List D)
 | .own (.ndi ks vs) => some (ks, vs)
 | _ => none
def aTmpRN (rs : List Rv) (ds : List D × List D) : M (List Rv × List D × List D) := fun ρ => some (.ok (.ali ρ.length :: rs, ds) ρ)
def aTmpN (fa : M Rv) (ga : M (List Rv)) : M (List Rv × List D × List D) := do
 let r ← fa
 let ds ← ofO (lstOf1N r)
 let rs ← ga
 aTmpRN rs ds
def aConsTN (fa : M Rv) (ga : M (List Rv × List D × List D)) : M (List Rv × List D × List D) := do
 let r ← fa
 let p ← ga
 pure (settle r :: p.1, p.2)
section
variable {X : Cx} {W : WX} {e : Expr} {es : List Expr} {fa : M Rv}
end
def callTN (mu : List Bool) (fn : Fn) (p : List Rv × List D × List D) : M Rv := fun ρ => match callM mu fn p.1 (ρ ++ [.own (.ndi p.2.1 p.2.2)]) with
 | some (.ok (.ali _) _) => none
 | some (.ok r ρ') => some (.ok r (ρ'.take ρ.length))
 | some (.ex e ρ') => some (.ex e (ρ'.take ρ.length))
 | none => none
def eCallTN (mu : List Bool) (fn : Fn) (ga : M (List Rv × List D × List D)) : M Rv := do
 let p ← ga
 callTN mu fn p
section
variable {X : Cx} {W : WX} {x : Str} {k np : Nat} {fn : Fn} {mu : List Bool} {e : Expr} {es : List Expr} {ga : M (List Rv × List D × List D)} {p pos : Pos}
end
end Dl
namespace Dn
open PySem L2 Dl
section
variable {X : Cx} {ke ve : Expr} {pos : Pos} {tk tv : TE}
end
end Dn
namespace Dl
open PySem L2 Dn
def eDic1 (fa fb : M Rv) : M Rv := do
 let r ← fa
 let q ← fb
 let e ← peek (settle r)
 let d ← toV q
 match keyO e with
 | some k => pure (.own (.ndi [keyD k] [d]))
 | none => M.fail
section
variable {X : Cx} {W : WX} {ke ve : Expr} {fa fb : M Rv} {pos : Pos}
end
end Dl
namespace Dn
open PySem L2 Dl
section
variable {X : Cx} {pins : List (Addr × Obj)} {σ : St} {H : Hp} {s : Shared} {a b : Addr} {k : K2} {kvs : List (K2 × Addr × V)} {A : Around} {E : Value → Shared → Prop}
end
end Dn
namespace Dl
open PySem L2 Dn
def dNotInN (d e : D) : Option Rv := match keyO d, e with
 | some k, .ndi ks vs => some (.val (.bl (!(lkN ks vs k).isSome)))
 | _, _ => none
section
variable {X : Cx} {W : WX} {a b e o : Expr} {fa fb fo : M Rv} {pos p : Pos} {np : Nat}
def eNotInN (fa fb : M Rv) : M Rv := mBin dNotInN fa fb
end
end Dl
namespace Dn
open PySem L2 Dl PyProof.Rows
section
variable {X : Cx} {kx vx tg iter : Expr} {scope : Scope} {own : List (Str × Nat)} {pos spos : Pos} {wi : TI} {g : TG} {tk tv : TE}
end
end Dn
namespace Dl
open PySem L2 Dn
def kvM (fk fv : M Rv) : M (D × D) := do
 let r ← fk
 let q ← fv
 let e ← peek (settle r)
 let z ← toV q
 pure (e, z)
def dcL (tg : D → List S → Option (List S)) (fk fv : M Rv) (vs : List Nat) : List D → List D × List D → M (List D × List D)
 | [], acc, ρ => some (.ok acc ρ)
 | d :: ds, acc, ρ => match tg d (wipeS ρ vs) with
  | none => none
  | some ρ1 => match kvM fk fv ρ1 with
   | some (.ok a ρ2) => match keyO a.1 with
    | some k => if acc.2.length < sizeLine then dcL tg fk fv vs ds (putKs acc.1 acc.2 k, putVs acc.1 acc.2 k a.2) (backS ρ ρ2 vs) else none
    | none => none
   | _ => none
def eDcN (it : M (List D)) (tg : D → List S → Option (List S)) (fk fv : M Rv) (vs : List Nat) : M Rv := do
 let ds ← it
 let acc ← fun ρ => if noOwn ρ vs = true then dcL tg fk fv vs ds ([], []) ρ else none
 pure (.own (.ndi acc.1 acc.2))
section
variable {X : Cx} {W : WX} {kx vx tg iter : Expr} {scope : Scope} {own : List (Str × Nat)} {pos : Pos} {it : M (List D)} {g : D → List S → Option (List S)} {fk fv : M Rv} {ts : List Nat}
end
end Dl
namespace Dl
open PySem L2
open PyProof.Rows hiding St
structure DFD (P : Program) (w : World) (K : PySem.W.Frag) (mg : Str → Option Value) (base : Heap) (x : Str) (k np : Nat) (ns : List Int) (fn : Fn) : Prop where
 len : ∀ ss o, fn ss = some o → ss.length = np
 ex : ∃ (f : Addr) (fd : FuncData) (ps : List Str) (ds : List Value), mg x = some (.ref f) ∧ PySem.W.keepIn K (.ref f) = true ∧ Vals (ns.map fun n => V.int n) ds ∧ Binds K fd ps ds ∧ FnOk P w K mg base (L2N.CX P w) k f fd ps (spD K np fn)
theorem DFD.up {P : Program} {w : World} {K : PySem.W.Frag} {mg : Str → Option Value} {base : Heap} {x : Str} {j k np : Nat} {ns : List Int} {fn : Fn} (F : DFD P w K mg base x j np ns fn) (h : j ≤ k) : DFD P w K mg base x k np ns fn :=
 let ⟨f, fd, ps, ds, h1, h2, h3, h4, h5⟩ := F.ex; ⟨F.len, f, fd, ps, ds, h1, h2, h3, h4, h5.mono h⟩
def eCallD (mu : List Bool) (fn : Fn) (ns : List Int) (ga : M (List Rv)) : M Rv := do
 let rs ← ga
 callM mu fn (rs ++ ns.map fun n => Rv.val (.int n))
section
variable {X : Cx} {W : WX} {x : Str} {k np : Nat} {ns : List Int} {fn : Fn} {mu : List Bool} {e : Expr} {es : List Expr} {ga : M (List Rv)} {p pos : Pos}
end
end Dl
namespace Dl
open PySem L2
section
variable {X : Cx} {W : WX} {a b e o : Expr} {fa fb : M Rv} {p p2 pos : Pos} {k np : Nat} {fn : Fn}
def tInS (K : PySem.W.Frag) (C : Addr) (sp : Sp) (E : L2.St → XK) (ta tb : TE) : TE := fun σ H Q => ta σ H fun x H1 => tb σ H1 fun y H2 => ∃ b1 dy gs, y = .ref b1 ∧ H2 b1 = some (.ins C dy gs) ∧ sp [y, x] H2 (fun z H' => ∃ q, z = .bl q ∧ Q (.bl q) H') (E σ)
theorem pe_inS {C f : Addr} {fd : FuncData} {ps : List Str} {sp : Sp} {E : L2.St → XK} {CXx : CXT} {ta tb : TE} (ha : PE X a ta) (hb : PE X b tb) (hm : Meth X.K C "__contains__" f) (F : FnOk X.prog X.w X.K X.mg X.base CXx k f fd ps sp) (hr : Room k X.A) (hbi : Binds X.K fd ps []) (hx : ∀ σ, PassesAt CXx X σ (E σ))
  (hmk : behindInMarks .In b = false := by rfl) : PE X (.Compare a [.In] [b] pos) (tInS X.K C sp E ta tb) := by
 refine ⟨fun pins s σ H Q I h => ?_⟩
 refine wpAny_Compare1 (binT ha hb I h fun v u s2 x y H2 I2 rx ry q => ?_) hmk
 obtain ⟨b1, dy, gs, rfl, h2, q⟩ := q
 cases (show u = Value.ref b1 from ry)
 obtain ⟨oy, od', J'⟩ := inst_of (K := X.K) I2 h2
 obtain ⟨m', hF⟩ := I2.fr
 refine PySem.W.in_K hF I2.ok.mod.kin J' hm.at_ hm.fn ?_
 refine wpAny_mono (run_fnSD (us := [.ref b1, v]) (vs := [.ref b1, x]) (dvs := []) (ds := []) (E := E) F hr hbi .nil (hx σ) I2 (.cons rfl (.cons rx .nil)) (by rw [List.append_nil]; exact q)) (fun w s' z => ?_) fun _ _ x => x
 obtain ⟨z', H', I', rz, qq, rfl, qz⟩ := z
 cases (show w = Value.bool qq from rz)
 exact wpAny_pure ⟨.bl qq, H', I', rfl, qz⟩
def eOwnIn (n : Str) (mu : List Bool) (fn : Fn) (fa fb : M Rv) : M Rv := do
 let r ← fa
 let q ← fb
 ckC n (settle q)
 let z ← callM mu fn [settle q, settle r]
 match z with
 | .val (.bl k) => pure (.val (.bl k))
 | _ => M.fail
theorem ownIn_sp {n : Str} {mu : List Bool} {σ : L2.St} {H : Hp} {Q : VK} (F : ∀ ss o, fn ss = some o → ss.length = np) (h : tD X.K W (eOwnIn n mu fn fa fb) σ H Q) : tInS X.K (He.ga X.K n) (spD X.K np fn) (WE W) (tD X.K W fa) (tD X.K W fb) σ H Q := by
 obtain ⟨c, G, ρ, R, w⟩ := h
 refine tg_step R (Same.refl G) w fun r ρ1 v G1 H1 R1 s1 _ k1 w1 => ?_
 obtain ⟨G1', s1', R1', k1'⟩ := settle_ok R1 k1
 refine tg_step R1' (s1.trans s1') w1 fun q ρ2 u G2 H2 R2 s2 s12 k2 w3 => ?_
 obtain ⟨G2', s2', R2', k2'⟩ := settle_ok R2 k2
 have k1'' := (k1'.mono s12).mono s2'
 obtain ⟨⟨b1, dy, gs, e2, h2⟩, w5⟩ := ckC_wp R2' k2'.one (wpM_bind w3)
 refine ⟨b1, dy, gs, e2, h2, call_sp R2' (s2.trans s2') (RpRs.cons (vs := [v]) (rs := [settle r]) k2' k1'') F (wpM_mono (wpM_bind w5) (fun z ρ3 hz v' G' H' R' s' kz => ?_) fun _ _ x => x)⟩
 cases z with
 | val d => cases d with
  | bl b => exact ⟨b, kz, hz _ G' H' R' s' rfl⟩
  | _ => exact hz.elim
 | _ => exact hz.elim
theorem de_own_in {n : Str} (mu : List Bool) (go : Go X W) (F : DMeth X.prog X.w X.K X.mg X.base n "__contains__" k np fn) (hr : Room k X.A) (ha : DE X W a fa) (hb : DE X W b fb) (hmk : behindInMarks .In b = false := by rfl) : DE X W (.Compare a [.In] [b] pos) (eOwnIn n mu fn fa fb) := by
 obtain ⟨f, fd, ps, hm, hbi, FO⟩ := F.ex
 exact ⟨(pe_inS (E := WE W) ha.pe hb.pe hm FO hr hbi (wish_of go.tk) hmk).weak fun σ H Q h => ownIn_sp F.len h⟩
theorem pt_inS {C f : Addr} {fd : FuncData} {ps : List Str} {sp : Sp} {E : L2.St → XK} {CXx : CXT} {ta tb : TE} (ha : PE X a ta) (hb : PE X b tb) (hm : Meth X.K C "__contains__" f) (F : FnOk X.prog X.w X.K X.mg X.base CXx k f fd ps sp) (hr : Room k X.A) (hbi : Binds X.K fd ps []) (hx : ∀ σ, PassesAt CXx X σ (E σ))
  (hmk : behindInMarks .In b = false := by rfl) : PT X (.Compare a [.In] [b] pos) (tTest (tInS X.K C sp E ta tb)) := by
 refine ⟨fun pins s σ H Q I h => ?_⟩
 refine wpAny_isTrue_Compare1 (thn (ha.run pins s σ H _ I h) fun v s1 ⟨x, H1, I1, rx, q1⟩ => thn (hb.run pins s1 σ H1 _ I1 q1) fun u s2 ⟨y, H2, I2, ry, q⟩ => ?_) hmk
 obtain ⟨b1, dy, gs, rfl, h2, q⟩ := q
 cases (show u = Value.ref b1 from ry)
 obtain ⟨oy, od', J'⟩ := inst_of (K := X.K) I2 h2
 obtain ⟨m', hF⟩ := I2.fr
 refine PySem.W.in_K hF I2.ok.mod.kin J' hm.at_ hm.fn ?_
 refine wpAny_mono (run_fnSD (us := [.ref b1, v]) (vs := [.ref b1, x]) (dvs := []) (ds := []) (E := E) F hr hbi .nil (hx σ) I2 (.cons rfl (.cons rx .nil)) (by rw [List.append_nil]; exact q)) (fun w s' z => ?_) fun _ _ x => x
 obtain ⟨z', H', I', rz, qq, rfl, k', ek, qz⟩ := z
 cases ek
 cases (show w = Value.bool qq from rz)
 exact wpAny_pure (wpAny_truthy_bool ⟨H', I', qz⟩)
theorem dt_own_in {n : Str} (mu : List Bool) (go : Go X W) (F : DMeth X.prog X.w X.K X.mg X.base n "__contains__" k np fn) (hr : Room k X.A) (ha : DE X W a fa) (hb : DE X W b fb) (hmk : behindInMarks .In b = false := by rfl) : DT X W (.Compare a [.In] [b] pos) (tCmp (eOwnIn n mu fn fa fb)) := by
 obtain ⟨f, fd, ps, hm, hbi, FO⟩ := F.ex
 exact ⟨(pt_inS (E := WE W) ha.pe hb.pe hm FO hr hbi (wish_of go.tk) hmk).weak fun σ H Q h => ownIn_sp F.len (tD_cmp h)⟩
end
end Dl
namespace Dl
open PySem L2
open PyProof.Rows hiding St
structure DProp (P : Program) (w : World) (K : PySem.W.Frag) (mg : Str → Option Value) (base : Heap) (n m : Str) (k np : Nat) (fn : Fn) : Prop where
 len : ∀ ss o, fn ss = some o → ss.length = np
 cl : Cls K (He.ga K n)
 ex : ∃ (p g : Addr) (fd : FuncData) (ps : List Str), L2.PropOf K (He.ga K n) m p g ∧ Binds K fd ps [] ∧ FnOk P w K mg base (L2N.CX P w) k g fd ps (spD K np fn)
theorem DProp.up {P : Program} {w : World} {K : PySem.W.Frag} {mg : Str → Option Value} {base : Heap} {n m : Str} {j k np : Nat} {fn : Fn} (F : DProp P w K mg base n m j np fn) (h : j ≤ k) : DProp P w K mg base n m k np fn :=
 let ⟨p, g, fd, ps, h1, h2, h3⟩ := F.ex; ⟨F.len, F.cl, p, g, fd, ps, h1, h2, h3.mono h⟩
theorem DProp.imp {P : Program} {w : World} {K : PySem.W.Frag} {mg : Str → Option Value} {base : Heap} {n m : Str} {k np : Nat} {fn fn' : Fn} (F : DProp P w K mg base n m k np fn) (h : Fn.le fn' fn) : DProp P w K mg base n m k np fn' :=
 let ⟨p, g, fd, ps, h1, h2, h3⟩ := F.ex; ⟨fun ss o e => F.len ss o (h _ _ e), F.cl, p, g, fd, ps, h1, h2, h3.imp fun _ _ _ _ q => spD_imp h q⟩
def nxO : Of → Option Of
 | .ret r s => some (.ret r s)
 | .ex _ _ => none
def nx (fn : Fn) : Fn := fun ss => (fn ss).bind nxO
def eProp (n : Str) (mu : List Bool) (fn : Fn) (fo : M Rv) : M Rv := do
 let r ← fo
 ckC n (settle r)
 callM mu (nx fn) [settle r]
section
variable {X : Cx} {W : WX} {o : Expr} {fo : M Rv} {pos : Pos} {k np : Nat} {fn : Fn}
end
end Dl
namespace Dl
open PySem L2
open PyProof.Rows hiding St
section
variable {X : Cx} {CX : CXT} {k n : Nat} {f C : Addr} {fd : FuncData} {ps ks : List Str} {sp : Sp} {E : St → XK} {x : Str} {p pos : Pos} {e : Expr} {es : List Expr} {kws : List Keyword} {t tk : TA} {g : List Value → List Value → List Value} {gV : List V → List V → List V}
end
abbrev Pl : Type := List (Nat ⊕ Int)
def fillV (pl : Pl) (zs : List V) : List V := pl.map fun q => match q with
 | .inl i => zs.getD i .non
 | .inr n => .int n
def fillR (pl : Pl) (zs : List Rv) : List Rv := pl.map fun q => match q with
 | .inl i => zs.getD i (.val .non)
 | .inr n => .val (.int n)
structure DMK (P : Program) (w : World) (K : PySem.W.Frag) (mg : Str → Option Value) (base : Heap) (x : Str) (k np n : Nat) (ks : List Str) (pl : Pl) (fn : Fn) : Prop where
 len : ∀ ss o, fn ss = some o → ss.length = np
 ex : ∃ (f : Addr) (fd : FuncData) (ps : List Str) (g : List Value → List Value → List Value) (gV : List V → List V → List V), mg x = some (.ref (He.ga K x)) ∧ Mk K (He.ga K x) f ∧ KBn K fd ps (n + 1) ks g gV ∧ (∀ vs zs : List V, vs.length = n + 1 → zs.length = ks.length → gV vs zs = vs ++ fillV pl zs) ∧ FnOk P w K mg base (L2N.CX P w) k f fd ps (spD K np fn)
theorem DMK.up {P : Program} {w : World} {K : PySem.W.Frag} {mg : Str → Option Value} {base : Heap} {x : Str} {j k np n : Nat} {ks : List Str} {pl : Pl} {fn : Fn} (F : DMK P w K mg base x j np n ks pl fn) (h : j ≤ k) : DMK P w K mg base x k np n ks pl fn :=
 let ⟨f, fd, ps, g, gV, h1, h2, h3, h4, h5⟩ := F.ex; ⟨F.len, f, fd, ps, g, gV, h1, h2, h3, h4, h5.mono h⟩
def eMakeK (x : Str) (n m : Nat) (pl : Pl) (mu : List Bool) (fn : Fn) (ga gk : M (List Rv)) : M Rv := do
 let rs ← ga
 let zs ← gk
 if rs.length = n ∧ zs.length = m then makeM x mu fn (rs ++ fillR pl zs) else M.fail
section
variable {X : Cx} {W : WX} {x : Str} {k np n : Nat} {ks : List Str} {pl : Pl} {fn : Fn} {mu : List Bool} {e : Expr} {es : List Expr} {kws : List Keyword} {ga gk : M (List Rv)} {p pos : Pos}
end
end Dl
namespace Dl
open PySem L2
def intOf : Option D → Option Int
 | some (.int k) => some k
 | _ => none
def sAugF (cs : Flds) (f : Str) (h : Int → Int) (fo : M Rv) : MS := thenS fo fun r ρ => match ownObj (settle r) ρ with
  | some (i, n, ns, ds) => if n ∈ cs ∧ ns.length < 1000 then (intOf (lkF f ns ds)).map fun k => .nx (ρ.set i (.own (.obj n (putF2 f (.int (h k)) ns ds).1 (putF2 f (.int (h k)) ns ds).2))) else none
  | none => none
section
variable {X : Cx} {W : WX} {np : Nat} {o : Expr} {fo : M Rv} {pos pos' tpos : Pos} {cs : Flds} {f : Str} {op : Operator} {jn : Bool}
end
end Dl
namespace Dl
open PySem L2
structure OwnC (K : PySem.W.Frag) (n : Str) : Prop where
 cl : Cls K (He.ga K n)
 ha : PySem.W.findIn K (.ref (He.ga K n)) "__class__" = some (some (.builtin "object.__class__"))
 hn : PySem.W.specialIn K (.builtin "object.__class__") "__get__" = some (some (.builtin "getset_descriptor.__get__"))
 htk : PySem.W.takesIn K (.builtin "object.__class__") = some true
 hm : PySem.W.mroIn K (He.ga K n) (.type "object") = some true
 sf : PySem.W.selfFirst K (He.ga K n) = true
 nolen : PySem.W.findIn K (.ref (He.ga K n)) "__len__" = some none
 nohint : PySem.W.findIn K (.ref (He.ga K n)) "__length_hint__" = some none
section
variable {X : Cx} {W : WX} {pos : Pos} {cs : List Str}
end
theorem ownB_ok {K : PySem.W.Frag} {n : Str} (c : Cls K (He.ga K n)) (h : ownB K (He.ga K n) = true) : OwnC K n := by
 obtain ⟨h1, h⟩ := He.ba h
 obtain ⟨h2, h⟩ := He.ba h
 obtain ⟨h3, h⟩ := He.ba h
 obtain ⟨h4, h⟩ := He.ba h
 obtain ⟨h5, h⟩ := He.ba h
 obtain ⟨h6, h7⟩ := He.ba h
 exact ⟨c, He.eqO_ok h1, He.eqO_ok h2, of_decide_eq_true h3, of_decide_eq_true h4, h5, He.eqO_ok h6, He.eqO_ok h7⟩
end Dl
namespace Dl
open PySem L2
open PyProof.Rows hiding St
structure RaC (K : PySem.W.Frag) (n : Str) : Prop where
 q : PySem.W.excIn K (He.ga K n) He.veBase "ValueError.__new__" = true
 kp : PySem.W.keepIn K (.ref (He.ga K n)) = true
 sub : PySem.W.subIn K (.ref (He.ga K n)) (.type "BaseException") = some true
 ty : PySem.W.typeIn K (.ref (He.ga K n)) = some (.type "type")
def sRaise (C : Str) : MS := fun ρ => some (.ex ⟨C, [], []⟩ ρ)
section
variable {X : Cx} {W : WX} {np : Nat} {pos p p2 pos' : Pos}
end
structure IsT (K : PySem.W.Frag) (C : Str) (tc : List (Str × Bool)) (tt : List (String × Bool)) : Prop where
 ex : L2.ExcC K (He.ga K C)
 own : ∀ n b, tc.lookup n = some b → PySem.W.kitOne K (.ref (He.ga K C)) (.ref (He.ga K n)) = some b
 blt : ∀ n b, tt.lookup n = some b → PySem.W.kitOne K (.ref (He.ga K C)) (.type n) = some b
structure HotX (X : Cx) (C : Str) (a : Addr) : Prop where
 ex : ∃ oe, (a, oe) ∈ X.pn ∧ L2N.Zn (.ref (He.ga X.K C)) none oe ∧ ∃ vs, oe.data = .fields vs
section
variable {X : Cx} {W : WX} {pos p : Pos} {C : Str} {a : Addr} {tc : List (Str × Bool)} {tt : List (String × Bool)} {x y : Expr} {ga : M (List Rv)}
end
structure FnP (P : Program) (w : World) (K : PySem.W.Frag) (mg : Str → Option Value) (base : Heap) (CX : CXT) (k : Nat) (f : Addr) (ps : List Str) (fd : FuncData) (sp : Addr × Obj → Sp) : Prop where
 len : ∀ p vs H Q E, sp p vs H Q E → vs.length = ps.length
 run : ∀ (A : Around) (outer : List Env) (s : Shared) (H : Hp) (args : Args) (us : List Value) (vs : List V) (Q : VK) (E : XK) (p : Addr × Obj), L2H.RoomH k A → L2H.Hot1 A p → L2H.PinOk outer H s p → Env0 P w K mg base A outer s H → BindsTo s fd args (ps.zip us) → Vals vs us → sp p vs H Q E →
  codeAny (model P w) A (.call (.ref f) args) (CR CX outer P w H s Q E) s
structure DFP (P : Program) (w : World) (K : PySem.W.Frag) (mg : Str → Option Value) (base : Heap) (x : Str) (k np : Nat) (C : Str) (fn : Addr → Fn) : Prop where
 len : ∀ a ss o, fn a ss = some o → ss.length = np
 ex : ∃ (f : Addr) (fd : FuncData) (ps : List Str), mg x = some (.ref f) ∧ PySem.W.keepIn K (.ref f) = true ∧ Binds K fd ps [] ∧ FnP P w K mg base (L2N.CX P w) k f ps fd (fun p vs H Q E => L2N.Zn (.ref (He.ga K C)) none p.2 ∧ spD K np (fn p.1) vs H Q E)
theorem DFP.up {P : Program} {w : World} {K : PySem.W.Frag} {mg : Str → Option Value} {base : Heap} {x C : Str} {j k np : Nat} {fn : Addr → Fn} (F : DFP P w K mg base x j np C fn) (h : j ≤ k) : DFP P w K mg base x k np C fn :=
 let ⟨f, fd, ps, h1, h2, h3, h4⟩ := F.ex; ⟨F.len, f, fd, ps, h1, h2, h3, h4.len, fun A outer s H args us vs Q E p hr => h4.run A outer s H args us vs Q E p (hr.mono h)⟩
section
variable {X : Cx} {W : WX} {x C : Str} {k np : Nat} {fn : Addr → Fn} {mu : List Bool} {e : Expr} {es : List Expr} {ga : M (List Rv)} {p pos : Pos} {a : Addr}
structure HotZ (X : Cx) (C : Str) (a : Addr) : Prop where
 ex : ∃ oe, (a, oe) ∈ X.pn ∧ L2N.Zn (.ref (He.ga X.K C)) none oe ∧ L2H.Hot1 X.A (a, oe)
end
end Dl
namespace Dl
open PySem L2
open PyProof.Rows hiding St
def sTry (hit : Str → Option Bool) (body : MS) (su : Xn → List S → Option Os) : MS := fun ρ => match body ρ with
 | some (.ex e ρ1) => (match hit e.c with
  | some true => su e ρ1
  | some false => some (.ex e ρ1)
  | none => none)
 | some o => some o
 | none => none
section
variable {X : Cx} {W : WX} {np i : Nat} {x n : Str} {pos pos' p : Pos} {body suite : List Stmt} {b₀ : Stmt} {fb : MS} {hit : Str → Option Bool} {su : Xn → List S → Option Os} {fsu : Addr → Str → MS}
end
end Dl
namespace Dl
open PySem L2 PySem.W PySem.Calls
open PyProof.Rows hiding St
structure XiF (K : PySem.W.Frag) (C : Addr) (fI : Addr) (file : Str) (name qual : Str) (params : Arguments) (body : List Stmt) (scope : Scope) (fld : Str) (fd : FuncData) : Prop where
 T : L2.OexC K C
 ex : ∃ (oc : Value) (od : Option Addr) (dV kV doc pm ct : Value) (an : Option Addr) (osl : Array (Option Value)) (cc cda : Addr) (ccl cl : Value) (cdd cld : Option Addr) (ccs csl : Array (Option Value)) (vs : Array Value) (tf : Tok),
  fd = ksFn name qual params body scope dV kV doc pm an (.ref cda) ct cc ∧ K.lookup fI = some ⟨oc, od, .func fd, osl⟩ ∧ PySem.W.codeIn K (.ref cda) qual = true ∧
  K.lookup cda = some ⟨ccl, cdd, .fields vs, ccs⟩ ∧ vs[2]? = some (.str file tf) ∧ K.lookup cc = some ⟨cl, cld, .cell (some (.ref C)), csl⟩
 sub : PySem.W.mroIn K C (.ref C) = some true
 opq : PySem.W.nsIn K cStatics "thirdparty.any" = some none
 sup : ks_superIn K C C "__init__" = some (some (.builtin "ValueError.__init__"))
 ve : PySem.W.subIn K (.ref C) (.type "ValueError") = some true
 nof : PySem.W.findIn K (.ref C) fld = some none
def spXi (C : Addr) (fld : Str) : Sp := fun vs H Q _ => ∃ (a : Addr) (v : V), vs = [.ref a, v] ∧ H a = some (L2.exo a C none) ∧ ∀ dx, H dx = none → dx ≠ a → Q .non (upd (upd H dx (L2.exd dx [(fld, v)])) a (L2.exo a C (some dx)))
section
variable {P : Program} {w : World} {K : PySem.W.Frag} {mg : Str → Option Value} {base : Heap} {C fI : Addr} {file name qual fld self par : Str} {params : Arguments} {body : List Stmt} {scope : Scope} {fd : FuncData} {ar : Arg}
end
end Dl
namespace Dl
open PySem L2
open PyProof.Rows hiding St
def raF (C fld : Str) : List Rv → MS
 | [.val d] => fun ρ => some (.ex ⟨C, [fld], [d]⟩ ρ)
 | _ => fun _ => none
def sRaiseF (C fld : Str) (ga : M (List Rv)) : MS := thenS ga (raF C fld)
structure RaF (P : Program) (w : World) (K : PySem.W.Frag) (mg : Str → Option Value) (base : Heap) (x fld : Str) (k : Nat) : Prop where
 at_ : mg x = some (.ref (He.ga K x))
 T : OexC K (He.ga K x)
 ex : ∃ (fI : Addr) (fd : FuncData) (self par : Str), PySem.W.findIn K (.ref (He.ga K x)) "__init__" = some (some (.ref fI)) ∧ PySem.W.typeIn K (.ref fI) = some (.type "function") ∧ Binds K fd [self, par] [] ∧ FnOk P w K mg base (L2N.CX P w) k fI fd [self, par] (spXi (He.ga K x) fld)
section
variable {X : Cx} {W : WX} {np : Nat} {pos p pos' : Pos} {e : Expr} {ga : M (List Rv)}
end
end Dl
open HotX (HotAt pyNext_range_end_hot)
namespace Dl
open PySem L2
open PyProof.Rows hiding St
structure HotW (X : Cx) : Prop where
 ex : ∃ q : Addr × Obj, L2H.Hot1 X.A q ∧ ∀ (pl : List (Addr × Obj)) (ρ : L2.St) (G : Hp) (t : Shared), Inv X pl ρ G t → L2H.PinOk X.stack G t q
theorem hot_out {X : Cx} {pl : List (Addr × Obj)} {ρ : L2.St} {G : Hp} {t : Shared} {q : Addr × Obj} (I : Inv X pl ρ G t) (hq : q ∈ X.pn) : L2H.PinOk X.stack G t q := by
 obtain ⟨get, free, nl, nf, nc⟩ := I.pin q (List.mem_append_left _ hq)
 refine ⟨get, free, fun z => ?_, nc⟩
 rcases List.mem_cons.mp (I.stkSub q.1 z) with y | y
 · exact nl y
 · exact nf y
theorem HotW.of {X : Cx} (h : L2H.HotC X) : HotW X :=
 let ⟨q, hq, mq⟩ := h
 ⟨q, hq, fun _ _ _ _ I => hot_out I mq⟩
structure Btw (B : Cx) (ρ : L2.St) (it : Addr) (n : Nat) (V : Nat → Nat → Hp → Prop) (m : Nat) (t : Shared) : Prop where
 ex : ∃ (j : Nat) (G : Hp), Inv B [] ρ G t ∧ IsRangeIter t.heap it (j : Int) ((n : Int) - (j : Int)) 1 ∧ G it = none ∧ V j m G
section
variable {B : Cx} {ρ : L2.St} {vs : List Nat} {it L : Addr} {n : Nat} {tg elt iter : Expr} {ifs : List Expr} {scope : Scope} {pos : Pos} {g : TG} {tt : TT} {te : TE} {V : Nat → Nat → Hp → Prop} {R : Result → Shared → Prop} {fin : Hp → Prop}
end
section
variable {X : Cx}
abbrev bAt (X : Cx) (scope : Scope) (t : Shared) (G : Hp) (it : Addr) : Cx :=
 X.blk t G scope (compEnvC scope (cellsFrom (t.heap.objs.size + 1) scope.names (cloFrom X.env.cells scope.names [])) t.heap.objs.size X.env) [it]
structure BlkW (X : Cx) (scope : Scope) (tg elt : Expr) (ifs : List Expr) (g : TG) (tt : TT) (te : TE) : Prop where
 all : ∀ (t : Shared) (G : Hp) (it : Addr), HotW (bAt X scope t G it) → PG (bAt X scope t G it) tg g ∧ PTs (bAt X scope t G it) ifs tt ∧ PE (bAt X scope t G it) elt te
end
end Dl
namespace Dl
open PySem L2
open PyProof.Rows hiding St
section
variable {X : Cx} {W : WX} {np : Nat} {a elt tg : Expr} {ga : M (List Rv)} {pos p rp : Pos} {ifs : List Expr} {scope : Scope} {g : D → List S → Option (List S)} {ts : List Nat} {tt : M Bool} {te : M Rv}
end
structure DFW (P : Program) (w : World) (K : PySem.W.Frag) (mg : Str → Option Value) (base : Heap) (x : Str) (k np : Nat) (fn : Fn) : Prop where
 len : ∀ ss o, fn ss = some o → ss.length = np
 ex : ∃ (f : Addr) (fd : FuncData) (ps : List Str), mg x = some (.ref f) ∧ PySem.W.keepIn K (.ref f) = true ∧ Binds K fd ps [] ∧ FnP P w K mg base (L2N.CX P w) k f ps fd (fun _ vs H Q E => spD K np fn vs H Q E)
theorem DFW.up {P : Program} {w : World} {K : PySem.W.Frag} {mg : Str → Option Value} {base : Heap} {x : Str} {j k np : Nat} {fn : Fn} (F : DFW P w K mg base x j np fn) (h : j ≤ k) : DFW P w K mg base x k np fn :=
 let ⟨f, fd, ps, h1, h2, h3, h4⟩ := F.ex; ⟨F.len, f, fd, ps, h1, h2, h3, h4.len, fun A outer s H args us vs Q E p hr => h4.run A outer s H args us vs Q E p (hr.mono h)⟩
section
variable {X : Cx} {W : WX} {x C : Str} {k np : Nat} {fn : Fn} {mu : List Bool} {e : Expr} {es : List Expr} {ga : M (List Rv)} {p pos : Pos} {a : Addr}
end
structure HotF (X : Cx) (C : Str) (a dx : Addr) : Prop where
 ex : ∃ oe, (a, oe) ∈ X.pn ∧ L2N.Zn (.ref (He.ga X.K C)) (some dx) oe ∧ L2H.Hot1 X.A (a, oe)
theorem HotF.c {X : Cx} {C : Str} {a dx : Addr} (h : HotF X C a dx) : L2H.HotC X := let ⟨oe, h1, _, h3⟩ := h.ex; ⟨(a, oe), h3, h1⟩
theorem HotF.w {X : Cx} {C : Str} {a dx : Addr} (h : HotF X C a dx) : HotW X := HotW.of h.c
theorem Rh.xob {K : PySem.W.Frag} {c : Cn} {G H : Hp} {a dx : Addr} {ns : List Str} {ds : List D} {v : V} (h : Rh K c G H (.xob a dx ns ds) v) : v = .ref a ∧ ∃ xs, G dx = some (.xd (ns.zip xs)) ∧ ns.length = ds.length ∧ RpL K G ds xs := by
 rcases h with h | ⟨_, _, _, _, z⟩
 · exact h
 · exact z.elim
section
variable {X : Cx} {W : WX} {pos p : Pos} {C fld : Str} {a dx : Addr} {tc : List (Str × Bool)} {tt : List (String × Bool)} {x y e : Expr} {ga : M (List Rv)} {ge : M Rv}
def xfO (a dx : Addr) (fld : Str) : D → Option D
 | .xob b d2 [f] [v] => if b = a ∧ d2 = dx ∧ f = fld then some v else none
 | _ => none
def gXf (a dx : Addr) (fld : Str) (ge : M Rv) : M Rv := do
 let r ← ge
 let d ← peek r
 let v ← ofO (xfO a dx fld d)
 pure (.val v)
end
end Dl
namespace Dl
open PySem L2
open PyProof.Rows hiding St
theorem DFW.imp {P : Program} {w : World} {K : PySem.W.Frag} {mg : Str → Option Value} {base : Heap} {x : Str} {k np : Nat} {fn fn' : Fn} (F : DFW P w K mg base x k np fn) (h : Fn.le fn' fn) : DFW P w K mg base x k np fn' :=
 let ⟨f, fd, ps, h1, h2, h3, h4⟩ := F.ex
 ⟨fun ss o e => F.len ss o (h _ _ e), f, fd, ps, h1, h2, h3, fun p vs H Q E z => h4.len p vs H Q E (spD_imp h z), fun A outer s H args us vs Q E p hr hot hp e0 b r z => h4.run A outer s H args us vs Q E p hr hot hp e0 b r (spD_imp h z)⟩
structure DFE (P : Program) (w : World) (K : PySem.W.Frag) (mg : Str → Option Value) (base : Heap) (x : Str) (k np : Nat) (C : Str) (fn : Addr → Addr → Fn) : Prop where
 len : ∀ a dx ss o, fn a dx ss = some o → ss.length = np
 ex : ∃ (f : Addr) (fd : FuncData) (ps : List Str), mg x = some (.ref f) ∧ PySem.W.keepIn K (.ref f) = true ∧ Binds K fd ps [] ∧ FnP P w K mg base (L2N.CX P w) k f ps fd (fun p vs H Q E => ∃ dx, L2N.Zn (.ref (He.ga K C)) (some dx) p.2 ∧ spD K np (fn p.1 dx) vs H Q E)
theorem DFE.up {P : Program} {w : World} {K : PySem.W.Frag} {mg : Str → Option Value} {base : Heap} {x C : Str} {j k np : Nat} {fn : Addr → Addr → Fn} (F : DFE P w K mg base x j np C fn) (h : j ≤ k) : DFE P w K mg base x k np C fn :=
 let ⟨f, fd, ps, h1, h2, h3, h4⟩ := F.ex; ⟨F.len, f, fd, ps, h1, h2, h3, h4.len, fun A outer s H args us vs Q E p hr => h4.run A outer s H args us vs Q E p (hr.mono h)⟩
section
variable {X : Cx} {W : WX} {x C : Str} {k np : Nat} {fn : Addr → Addr → Fn} {mu : List Bool} {e : Expr} {es : List Expr} {ga : M (List Rv)} {p pos : Pos} {a dx : Addr}
end
end Dl
namespace Dl
open PySem L2 PySem.Spec PyProof.Rows
section
variable {prog : Program} {w : World} {A : Around} {E : Value → Shared → Prop} {s : Shared}
end
def numD (ds : List D) : List D := ds.zipIdx.map fun p => .tup [.int (p.2 : Nat), p.1]
def dEnum : List D → Option (List D)
 | [.lst ds] => if ds.length ≤ 16777216 then some (numD ds) else none
 | [.tup ds] => if ds.length ≤ 16777216 then some (numD ds) else none
 | _ => none
def iEnu (ga : M (List Rv)) : M (List D) := do
 let rs ← ga
 let ds ← toVs rs
 ofO (dEnum ds)
end Dl
namespace Dl
open PySem L2
def frz1 (i : Nat) (s : Option S) (ρ : List S) : List S := match s with
 | some (.own d) => ρ.set i (.val d)
 | _ => ρ
def nrm : List (Nat × Bool) → List S → List S
 | [], ρ => ρ
 | (i, true) :: l, ρ => nrm l (ρ.set i .no)
 | (i, false) :: l, ρ => nrm l (frz1 i ρ[i]? ρ)
def kil : List Nat → List S → List S
 | [], ρ => ρ
 | i :: l, ρ => kil l (ρ.set i .no)
def aftO (l : List (Nat × Bool)) : Os → Os
 | .nx ρ => .nx (nrm l ρ)
 | .bk ρ => .bk (nrm l ρ)
 | .ct ρ => .ct (nrm l ρ)
 | o => o
def sAft (l : List (Nat × Bool)) (f : MS) : MS := fun ρ => (f ρ).map (aftO l)
def sFore (l : List (Nat × Bool)) (f : MS) : MS := fun ρ => f (nrm l ρ)
def retO (l : List Nat) : Os → Os
 | .rt r ρ => .rt r (kil l ρ)
 | .ex e ρ => .ex e (kil l ρ)
 | o => o
section
variable {K : PySem.W.Frag} {c : Cn} {G H : Hp} {σ : L2.St} {ρ : List S}
theorem Rst.nrm (R : Rst K c G H σ ρ) : ∀ (l : List (Nat × Bool)), ∃ G', Same G G' ∧ Rst K c G' H σ (Dl.nrm l ρ) := by
 intro l
 induction l generalizing G ρ with
 | nil => exact ⟨G, Same.refl G, R⟩
 | cons p l ih =>
  obtain ⟨i, b⟩ := p
  cases b with
  | true => exact ih (R.set_no i)
  | false =>
   show ∃ G', Same G G' ∧ Rst K c G' H σ (Dl.nrm l (frz1 i ρ[i]? ρ))
   cases q : ρ[i]? with
   | none => exact ih R
   | some s =>
    cases s with
    | no => exact ih R
    | val d => exact ih R
    | own d =>
     obtain ⟨v, G1, _, s1, R1, _⟩ := R.freeze q
     obtain ⟨G2, s2, R2⟩ := ih R1
     exact ⟨G2, s1.trans s2, R2⟩
theorem kil_get : ∀ {l : List Nat} {ρ : List S} {j : Nat} {s : S}, (kil l ρ)[j]? = some s → s ≠ .no → ρ[j]? = some s
 | [], _, _, _, h, _ => h
 | i :: l, ρ, j, s, h, n => by
  have h := kil_get (l := l) h n
  rcases set_cases h with ⟨_, _, e⟩ | ⟨_, h⟩
  · exact absurd e n
  · exact h
theorem Rst.kil (R : Rst K c G H σ ρ) : ∀ (l : List Nat), Rst K c G H σ (Dl.kil l ρ) := by
 intro l
 induction l generalizing ρ with
 | nil => exact R
 | cons i l ih => exact ih (R.set_no i)
theorem RpR.kil {v : V} {r : Rv} {l : List Nat} (na : ∀ i, r ≠ .ali i) (h : RpR K c G H σ ρ v r) : RpR K c G H σ (Dl.kil l ρ) v r := by
 cases r with
 | val d => exact h
 | ali i => exact absurd rfl (na i)
 | own d =>
  obtain ⟨a, h1, h2, h3, h4, h5⟩ := h
  exact ⟨a, h1, h2, h3, h4, fun i e q => h5 i e (kil_get q (by intro z; cases z))⟩
end
section
variable {X : Cx} {W : WX} {np : Nat} {st : Stmt} {sts : List Stmt} {f : MS} {e : Expr} {fa : M Rv} {pos : Pos}
theorem tS_aft {K : PySem.W.Frag} {l : List (Nat × Bool)} {Dn : Ends} {σ : L2.St} {H : Hp} (h : tS K W np (sAft l f) Dn σ H) : tS K W np f Dn σ H := by
 obtain ⟨c, G, ρ, o, hl, R, h, po⟩ := h
 obtain ⟨o1, h1, h2⟩ := Option.map_eq_some_iff.mp (show (f ρ).map (aftO l) = some o from h)
 subst h2
 refine ⟨c, G, ρ, o1, hl, R, h1, ?_⟩
 cases o1 with
 | nx ρ1 => exact fun σ' G' H' R' s' => let ⟨G2, s2, R2⟩ := R'.nrm l; po σ' G2 H' R2 (s'.trans s2)
 | bk ρ1 => exact fun σ' G' H' R' s' => let ⟨G2, s2, R2⟩ := R'.nrm l; po σ' G2 H' R2 (s'.trans s2)
 | ct ρ1 => exact fun σ' G' H' R' s' => let ⟨G2, s2, R2⟩ := R'.nrm l; po σ' G2 H' R2 (s'.trans s2)
 | rt r ρ1 => exact po
 | ex e ρ1 => exact po
def noAli1 : Os → Bool
 | .rt (.ali _) _ => false
 | _ => true
def sRtA (l : List Nat) (f : MS) : MS := fun ρ => (f ρ).bind fun o => if noAli1 o = true then some (retO l o) else none
theorem tS_rtA {K : PySem.W.Frag} {l : List Nat} {Dn : Ends} {σ : L2.St} {H : Hp} (h : tS K W np (sRtA l f) Dn σ H) : tS K W np f Dn σ H := by
 obtain ⟨c, G, ρ, o, hl, R, h, po⟩ := h
 obtain ⟨o1, h1, h2⟩ := Option.bind_eq_some_iff.mp (show (f ρ).bind _ = some o from h)
 by_cases na : noAli1 o1 = true
 · rw [if_pos na] at h2
   cases h2
   refine ⟨c, G, ρ, o1, hl, R, h1, ?_⟩
   cases o1 with
   | nx ρ1 => exact po
   | bk ρ1 => exact po
   | ct ρ1 => exact po
   | rt r ρ1 => exact fun v σ' G' H' R' s' k => po v σ' G' H' (R'.kil l) s' (k.kil fun i z => by subst z; cases na)
   | ex e ρ1 => exact fun cls d σ' G' H' R' s' x => po cls d σ' G' H' (R'.kil l) s' x
 · rw [if_neg na] at h2; cases h2
theorem ds_aft (l : List (Nat × Bool)) (h : DS X W np st f) : DS X W np st (sAft l f) := ⟨h.ps.weak fun _ _ _ q => tS_aft q⟩
theorem dl_aft (l : List (Nat × Bool)) (h : DL X W np sts f) : DL X W np sts (sAft l f) := ⟨h.pss.weak fun _ _ _ q => tS_aft q⟩
theorem ds_rtA (l : List Nat) (h : DS X W np st f) : DS X W np st (sRtA l f) := ⟨h.ps.weak fun _ _ _ q => tS_rtA q⟩
def sFz (i : Nat) (f : MS) : MS := sAft [(i, false)] f
theorem ds_fz (i : Nat) (h : DS X W np st f) : DS X W np st (sFz i f) := ds_aft _ h
def eFrz (fa : M Rv) : M Rv := do
 let r ← fa
 let d ← toV r
 pure (.val d)
end
end Dl
namespace Tl
open PySem Dl
open L2 (ixN atI)
theorem ob_some {α β : Type} (a : α) (f : α → Option β) : (some a).bind f = f a := rfl
theorem ob_none {α β : Type} (f : α → Option β) : (none : Option α).bind f = none := rfl
theorem ob_assoc {α β γ : Type} (o : Option α) (f : α → Option β) (g : β → Option γ) : (o.bind f).bind g = o.bind fun a => (f a).bind g := by cases o <;> rfl
theorem om_eq {α β : Type} (o : Option α) (f : α → β) : o.map f = o.bind fun a => some (f a) := by cases o <;> rfl
theorem ob_ite {α β : Type} (c : Prop) [Decidable c] (a b : Option α) (f : α → Option β) : (if c then a else b).bind f = if c then a.bind f else b.bind f := by split <;> rfl
def gz (n : Nat) : Option Unit := if n ≤ sizeLine then some () else none
def gb (c : Bool) : Option Unit := if c = true then some () else none
theorem sz_big : (100000 : Nat) ≤ sizeLine := by rw [PySem.sizeLine_eq]; decide
theorem gz_small {n : Nat} (h : n ≤ 1000) : gz n = some () := if_pos (by have := sz_big; omega)
theorem gb_true : gb true = some () := rfl
theorem tt_true : (true = true) = True := eq_self true
theorem ft_false : (false = true) = False := eq_false Bool.false_ne_true
theorem ite_T {α : Type} (a b : α) : (if True then a else b) = a := rfl
theorem ite_F {α : Type} (a b : α) : (if False then a else b) = b := rfl
theorem ite_fun {α β : Type} (c : Prop) [Decidable c] (f g : α → β) (a : α) : (if c then f else g) a = if c then f a else g a := by split <;> rfl
theorem b_not_t : (!true) = false := rfl
theorem b_not_f : (!false) = true := rfl
theorem b_at (a : Bool) : (true && a) = a := rfl
theorem b_af (a : Bool) : (false && a) = false := rfl
theorem b_ot (a : Bool) : (true || a) = true := rfl
theorem b_of (a : Bool) : (false || a) = a := rfl
theorem b_ta (a : Bool) : (a && true) = a := Bool.and_true a
theorem b_fa (a : Bool) : (a && false) = false := Bool.and_false a
theorem g_zero {α : Type} (a : α) (l : List α) : (a :: l)[0]? = some a := rfl
theorem g_succ {α : Type} (a : α) (l : List α) (i : Nat) : (a :: l)[i + 1]? = l[i]? := rfl
theorem s_zero {α : Type} (a b : α) (l : List α) : (a :: l).set 0 b = b :: l := rfl
theorem s_succ {α : Type} (a b : α) (l : List α) (i : Nat) : (a :: l).set (i + 1) b = a :: l.set i b := rfl
theorem gd_zero {α : Type} (a b : α) (l : List α) : (a :: l).getD 0 b = a := rfl
theorem gd_succ {α : Type} (a b : α) (l : List α) (i : Nat) : (a :: l).getD (i + 1) b = l.getD i b := rfl
theorem a_cons {α : Type} (a : α) (l m : List α) : (a :: l) ++ m = a :: (l ++ m) := rfl
theorem a_nil {α : Type} (m : List α) : ([] : List α) ++ m = m := rfl
theorem a_nil2 {α : Type} (m : List α) : m ++ [] = m := List.append_nil m
theorem m_cons {α β : Type} (f : α → β) (a : α) (l : List α) : (a :: l).map f = f a :: l.map f := rfl
theorem m_nil {α β : Type} (f : α → β) : ([] : List α).map f = [] := rfl
theorem m_app {α β : Type} (f : α → β) (l m : List α) : (l ++ m).map f = l.map f ++ m.map f := List.map_append
theorem m_map {α β γ : Type} (f : α → β) (g : β → γ) (l : List α) : (l.map f).map g = l.map fun a => g (f a) := List.map_map
theorem m_idf {α : Type} (l : List α) : l.map (fun x => x) = l := List.map_id' l
theorem l_cons {α : Type} (a : α) (l : List α) : (a :: l).length = l.length + 1 := rfl
theorem l_nil {α : Type} : ([] : List α).length = 0 := rfl
theorem l_map {α β : Type} (f : α → β) (l : List α) : (l.map f).length = l.length := List.length_map _
theorem l_app {α : Type} (l m : List α) : (l ++ m).length = l.length + m.length := List.length_append
theorem e_map {α β : Type} (f : α → β) (l : List α) : (l.map f).isEmpty = l.isEmpty := by cases l <;> rfl
theorem e_cons {α : Type} (a : α) (l : List α) : (a :: l).isEmpty = false := rfl
theorem e_nil {α : Type} : ([] : List α).isEmpty = true := rfl
theorem r_zero {α : Type} (a : α) : List.replicate 0 a = [] := rfl
theorem r_succ {α : Type} (n : Nat) (a : α) : List.replicate (n + 1) a = a :: List.replicate n a := rfl
theorem tl_cons {α : Type} (a : α) (l : List α) : (a :: l).tail = l := rfl
theorem tl_nil {α : Type} : ([] : List α).tail = [] := rfl
theorem any_cons' {α : Type} (p : α → Bool) (a : α) (l : List α) : (a :: l).any p = (p a || l.any p) := rfl
theorem any_nil' {α : Type} (p : α → Bool) : ([] : List α).any p = false := rfl
theorem all_cons' {α : Type} (p : α → Bool) (a : α) (l : List α) : (a :: l).all p = (p a && l.all p) := rfl
theorem all_nil' {α : Type} (p : α → Bool) : ([] : List α).all p = true := rfl
theorem mem_one {α : Type} (a : α) : (a ∈ [a]) = True := eq_true (List.mem_singleton.mpr rfl)
theorem eqs_self {α : Type} (a : α) : (a = a) = True := eq_self a
theorem tt_and (p : Prop) : (True ∧ p) = p := true_and p
def cps {α γ : Type} (f : M α) (ρ : List S) (kx : Xn → List S → Option γ) (k : α → List S → Option γ) : Option γ := match f ρ with
 | some (.ok a ρ') => k a ρ'
 | some (.ex e ρ') => kx e ρ'
 | none => none
section
variable {α β γ : Type} {ρ : List S} {kx : Xn → List S → Option γ}
theorem eq_cps {f : M α} {a : α} {ρ' : List S} (h : ∀ (γ : Type) (kx : Xn → List S → Option γ) (k : α → List S → Option γ), cps f ρ kx k = k a ρ') : f ρ = some (.ok a ρ') := by
 have h1 := h (Ot α) (fun e ρ => some (.ex e ρ)) (fun a ρ => some (.ok a ρ))
 rw [← h1]
 unfold cps
 cases f ρ with
 | none => rfl
 | some o => cases o <;> rfl
theorem cps_bind (f : M α) (g : α → M β) (k : β → List S → Option γ) : cps (f >>= g) ρ kx k = cps f ρ kx fun a ρ1 => cps (g a) ρ1 kx k := by
 unfold cps
 rw [bind_eq]
 cases f ρ with
 | none => rfl
 | some o => cases o <;> rfl
theorem cps_pure (a : α) (k : α → List S → Option γ) : cps (pure a) ρ kx k = k a ρ := rfl
theorem cps_fail (k : α → List S → Option γ) : cps M.fail ρ kx k = none := rfl
theorem cps_ofO (o : Option α) (k : α → List S → Option γ) : cps (ofO o) ρ kx k = o.bind fun a => k a ρ := by
 unfold cps ofO
 cases o <;> rfl
theorem cps_ite (c : Prop) [Decidable c] (f g : M α) (k : α → List S → Option γ) : cps (if c then f else g) ρ kx k = if c then cps f ρ kx k else cps g ρ kx k := by split <;> rfl
def varK (i : Nat) (ρ : List S) (k : Rv → List S → Option γ) : Option S → Option γ
 | some (.val d) => k (.val d) ρ
 | some (.own _) => k (.ali i) ρ
 | _ => none
theorem cps_var (i : Nat) (k : Rv → List S → Option γ) : cps (eVar i) ρ kx k = varK i ρ k ρ[i]? := by
 unfold cps eVar varK
 cases ρ[i]? with
 | none => rfl
 | some s => cases s <;> rfl
theorem varK_v (i : Nat) (k : Rv → List S → Option γ) (d : D) : varK i ρ k (some (.val d)) = k (.val d) ρ := rfl
theorem varK_o (i : Nat) (k : Rv → List S → Option γ) (d : D) : varK i ρ k (some (.own d)) = k (.ali i) ρ := rfl
theorem cps_C (d : D) (k : Rv → List S → Option γ) : cps (eC d) ρ kx k = k (.val d) ρ := rfl
theorem set_v (d : D) : Dl.settle (.val d) = .val d := rfl
theorem set_o (d : D) : Dl.settle (.own d) = .val d := rfl
theorem set_a (i : Nat) : Dl.settle (.ali i) = .ali i := rfl
def peekK (ρ : List S) (k : D → List S → Option γ) : Option S → Option γ
 | some (.val d) => k d ρ
 | some (.own d) => k d ρ
 | _ => none
theorem cps_peek_v (d : D) (k : D → List S → Option γ) : cps (peek (.val d)) ρ kx k = k d ρ := rfl
theorem cps_peek_o (d : D) (k : D → List S → Option γ) : cps (peek (.own d)) ρ kx k = k d ρ := rfl
theorem cps_peek_a (i : Nat) (k : D → List S → Option γ) : cps (peek (.ali i)) ρ kx k = peekK ρ k ρ[i]? := by
 unfold cps peek peekK
 dsimp only
 all_goals cases ρ[i]? with
 | none => rfl
 | some s => cases s <;> rfl
theorem peekK_v (k : D → List S → Option γ) (d : D) : peekK ρ k (some (.val d)) = k d ρ := rfl
theorem peekK_o (k : D → List S → Option γ) (d : D) : peekK ρ k (some (.own d)) = k d ρ := rfl
def toVK (i : Nat) (ρ : List S) (k : D → List S → Option γ) : Option S → Option γ
 | some (.val d) => k d ρ
 | some (.own d) => k d (ρ.set i (.val d))
 | _ => none
theorem cps_toV_v (d : D) (k : D → List S → Option γ) : cps (toV (.val d)) ρ kx k = k d ρ := rfl
theorem cps_toV_o (d : D) (k : D → List S → Option γ) : cps (toV (.own d)) ρ kx k = k d ρ := rfl
theorem cps_toV_a (i : Nat) (k : D → List S → Option γ) : cps (toV (.ali i)) ρ kx k = toVK i ρ k ρ[i]? := by
 unfold cps toV toVK
 dsimp only
 all_goals cases ρ[i]? with
 | none => rfl
 | some s => cases s <;> rfl
theorem toVK_v (i : Nat) (k : D → List S → Option γ) (d : D) : toVK i ρ k (some (.val d)) = k d ρ := rfl
theorem toVK_o (i : Nat) (k : D → List S → Option γ) (d : D) : toVK i ρ k (some (.own d)) = k d (ρ.set i (.val d)) := rfl
theorem peeks_n : peeks [] = pure [] := rfl
theorem peeks_c (r : Rv) (rs : List Rv) : peeks (r :: rs) = (peek r >>= fun d => peeks rs >>= fun ds => pure (d :: ds)) := rfl
theorem toVs_n : toVs [] = pure [] := rfl
theorem toVs_c (r : Rv) (rs : List Rv) : toVs (r :: rs) = (toV r >>= fun d => toVs rs >>= fun ds => pure (d :: ds)) := rfl
theorem toVs_vals (ds : List D) (rs : List Rv) (k : List D → List S → Option γ) : cps (toVs (ds.map Rv.val ++ rs)) ρ kx k = cps (toVs rs) ρ kx fun es => k (ds ++ es) := by
 induction ds generalizing k with
 | nil => rfl
 | cons d ds ih =>
  rw [List.map_cons, List.cons_append, toVs_c, cps_bind, cps_toV_v, cps_bind, ih]; rfl
theorem toVs_vals0 (ds : List D) (k : List D → List S → Option γ) : cps (toVs (ds.map Rv.val)) ρ kx k = k ds ρ := by
 have h := toVs_vals (ρ := ρ) (kx := kx) ds [] k
 rw [List.append_nil, toVs_n, cps_pure, List.append_nil] at h; exact h
theorem toVs_mv {α : Type} (e : α → D) (xs : List α) (rs : List Rv) (k : List D → List S → Option γ) : cps (toVs (xs.map (fun x => Rv.val (e x)) ++ rs)) ρ kx k = cps (toVs rs) ρ kx fun es => k (xs.map e ++ es) := by
 have h := toVs_vals (ρ := ρ) (kx := kx) (xs.map e) rs k
 rw [List.map_map] at h; exact h
theorem toVs_mv0 {α : Type} (e : α → D) (xs : List α) (k : List D → List S → Option γ) : cps (toVs (xs.map (fun x => Rv.val (e x)))) ρ kx k = k (xs.map e) ρ := by
 have h := toVs_vals0 (ρ := ρ) (kx := kx) (xs.map e) k
 rw [List.map_map] at h; exact h
variable {fa fb : M Rv} {ga gb' : M Bool} {la : M (List Rv)} {g : D → D → Option Rv}
theorem cps_bin (k : Rv → List S → Option γ) : cps (mBin g fa fb) ρ kx k = cps fa ρ kx fun x ρ1 => cps fb ρ1 kx fun y ρ2 => cps (peek (Dl.settle x)) ρ2 kx fun d ρ3 => cps (peek y) ρ3 kx fun e ρ4 => (g d e).bind fun r => k r ρ4 := by
 unfold mBin; simp only [Tl.ob_some, Tl.ob_none, Tl.ob_assoc, Tl.om_eq, Tl.ob_ite, Tl.gz_small, Tl.gb_true, Tl.tt_true, Tl.ft_false, Tl.ite_T, Tl.ite_F, Tl.ite_fun, Tl.b_not_t, Tl.b_not_f, Tl.b_at, Tl.b_af, Tl.b_ot, Tl.b_of, Tl.b_ta, Tl.b_fa, Tl.g_zero, Tl.g_succ, Tl.s_zero, Tl.s_succ, Tl.gd_zero, Tl.gd_succ, Tl.a_cons, Tl.a_nil, Tl.a_nil2, Tl.m_cons, Tl.m_nil, Tl.m_app, Tl.m_map, Tl.m_idf, Tl.l_cons, Tl.l_nil, Tl.l_map, Tl.l_app, Tl.e_map, Tl.e_cons, Tl.e_nil, Tl.r_zero, Tl.r_succ, Tl.tl_cons, Tl.tl_nil, Tl.any_cons', Tl.any_nil', Tl.all_cons', Tl.all_nil', Tl.mem_one, Tl.eqs_self, Tl.tt_and, Tl.cps_bind, Tl.cps_pure, Tl.cps_fail, Tl.cps_ofO, Tl.cps_ite, Tl.cps_var, Tl.varK_v, Tl.varK_o, Tl.cps_C, Tl.set_v, Tl.set_o, Tl.set_a, Tl.cps_peek_v, Tl.cps_peek_o, Tl.cps_peek_a, Tl.peekK_v, Tl.peekK_o, Tl.cps_toV_v, Tl.cps_toV_o, Tl.cps_toV_a, Tl.toVK_v, Tl.toVK_o, Tl.peeks_n, Tl.peeks_c, Tl.toVs_n, Tl.toVs_c, Tl.toVs_vals, Tl.toVs_vals0, Tl.toVs_mv, Tl.toVs_mv0, reduceIte, Nat.reduceAdd, Nat.reduceSub, Nat.reduceMul, Nat.reduceLT, Nat.reduceGT, Nat.reduceLeDiff, Nat.reduceEqDiff, Nat.reduceBEq, Nat.reduceBNe, Int.reduceNeg, Int.reduceAdd, Int.reduceSub, Int.reduceMul, Int.reduceLT, Int.reduceLE, Int.reduceGT, Int.reduceGE, Int.reduceEq, Int.reduceNe, Int.reduceBEq, Int.reduceBNe, Int.reducePow]
theorem cps_aNil (k : List Rv → List S → Option γ) : cps aNil ρ kx k = k [] ρ := rfl
theorem cps_aCons (k : List Rv → List S → Option γ) : cps (aCons fa la) ρ kx k = cps fa ρ kx fun r ρ1 => cps la ρ1 kx fun rs ρ2 => k (Dl.settle r :: rs) ρ2 := by
 unfold aCons; simp only [Tl.ob_some, Tl.ob_none, Tl.ob_assoc, Tl.om_eq, Tl.ob_ite, Tl.gz_small, Tl.gb_true, Tl.tt_true, Tl.ft_false, Tl.ite_T, Tl.ite_F, Tl.ite_fun, Tl.b_not_t, Tl.b_not_f, Tl.b_at, Tl.b_af, Tl.b_ot, Tl.b_of, Tl.b_ta, Tl.b_fa, Tl.g_zero, Tl.g_succ, Tl.s_zero, Tl.s_succ, Tl.gd_zero, Tl.gd_succ, Tl.a_cons, Tl.a_nil, Tl.a_nil2, Tl.m_cons, Tl.m_nil, Tl.m_app, Tl.m_map, Tl.m_idf, Tl.l_cons, Tl.l_nil, Tl.l_map, Tl.l_app, Tl.e_map, Tl.e_cons, Tl.e_nil, Tl.r_zero, Tl.r_succ, Tl.tl_cons, Tl.tl_nil, Tl.any_cons', Tl.any_nil', Tl.all_cons', Tl.all_nil', Tl.mem_one, Tl.eqs_self, Tl.tt_and, Tl.cps_bind, Tl.cps_pure, Tl.cps_fail, Tl.cps_ofO, Tl.cps_ite, Tl.cps_var, Tl.varK_v, Tl.varK_o, Tl.cps_C, Tl.set_v, Tl.set_o, Tl.set_a, Tl.cps_peek_v, Tl.cps_peek_o, Tl.cps_peek_a, Tl.peekK_v, Tl.peekK_o, Tl.cps_toV_v, Tl.cps_toV_o, Tl.cps_toV_a, Tl.toVK_v, Tl.toVK_o, Tl.peeks_n, Tl.peeks_c, Tl.toVs_n, Tl.toVs_c, Tl.toVs_vals, Tl.toVs_vals0, Tl.toVs_mv, Tl.toVs_mv0, Tl.cps_bin, Tl.cps_aNil, reduceIte, Nat.reduceAdd, Nat.reduceSub, Nat.reduceMul, Nat.reduceLT, Nat.reduceGT, Nat.reduceLeDiff, Nat.reduceEqDiff, Nat.reduceBEq, Nat.reduceBNe, Int.reduceNeg, Int.reduceAdd, Int.reduceSub, Int.reduceMul, Int.reduceLT, Int.reduceLE, Int.reduceGT, Int.reduceGE, Int.reduceEq, Int.reduceNe, Int.reduceBEq, Int.reduceBNe, Int.reducePow]
theorem it_l (ds : List D) : items (.lst ds) = some ds := rfl
theorem it_t (ds : List D) : items (.tup ds) = some ds := rfl
theorem cps_aStar (k : List Rv → List S → Option γ) : cps (aStar fa la) ρ kx k = cps fa ρ kx fun r ρ1 => cps (peek r) ρ1 kx fun d ρ2 => (items d).bind fun ds => cps la ρ2 kx fun rs ρ3 => k (ds.map Rv.val ++ rs) ρ3 := by
 unfold aStar; simp only [cps_bind]
 congr 1; funext r ρ1; congr 1; funext d ρ2
 cases items d with
 | none => rfl
 | some ds => simp only [Tl.ob_some, Tl.ob_none, Tl.ob_assoc, Tl.om_eq, Tl.ob_ite, Tl.gz_small, Tl.gb_true, Tl.tt_true, Tl.ft_false, Tl.ite_T, Tl.ite_F, Tl.ite_fun, Tl.b_not_t, Tl.b_not_f, Tl.b_at, Tl.b_af, Tl.b_ot, Tl.b_of, Tl.b_ta, Tl.b_fa, Tl.g_zero, Tl.g_succ, Tl.s_zero, Tl.s_succ, Tl.gd_zero, Tl.gd_succ, Tl.a_cons, Tl.a_nil, Tl.a_nil2, Tl.m_cons, Tl.m_nil, Tl.m_app, Tl.m_map, Tl.m_idf, Tl.l_cons, Tl.l_nil, Tl.l_map, Tl.l_app, Tl.e_map, Tl.e_cons, Tl.e_nil, Tl.r_zero, Tl.r_succ, Tl.tl_cons, Tl.tl_nil, Tl.any_cons', Tl.any_nil', Tl.all_cons', Tl.all_nil', Tl.mem_one, Tl.eqs_self, Tl.tt_and, Tl.cps_bind, Tl.cps_pure, Tl.cps_fail, Tl.cps_ofO, Tl.cps_ite, Tl.cps_var, Tl.varK_v, Tl.varK_o, Tl.cps_C, Tl.set_v, Tl.set_o, Tl.set_a, Tl.cps_peek_v, Tl.cps_peek_o, Tl.cps_peek_a, Tl.peekK_v, Tl.peekK_o, Tl.cps_toV_v, Tl.cps_toV_o, Tl.cps_toV_a, Tl.toVK_v, Tl.toVK_o, Tl.peeks_n, Tl.peeks_c, Tl.toVs_n, Tl.toVs_c, Tl.toVs_vals, Tl.toVs_vals0, Tl.toVs_mv, Tl.toVs_mv0, Tl.cps_bin, Tl.cps_aNil, Tl.cps_aCons, Tl.it_l, Tl.it_t, reduceIte, Nat.reduceAdd, Nat.reduceSub, Nat.reduceMul, Nat.reduceLT, Nat.reduceGT, Nat.reduceLeDiff, Nat.reduceEqDiff, Nat.reduceBEq, Nat.reduceBNe, Int.reduceNeg, Int.reduceAdd, Int.reduceSub, Int.reduceMul, Int.reduceLT, Int.reduceLE, Int.reduceGT, Int.reduceGE, Int.reduceEq, Int.reduceNe, Int.reduceBEq, Int.reduceBNe, Int.reducePow]
theorem cps_eB (g : List D → Option Rv) (k : Rv → List S → Option γ) : cps (eB g la) ρ kx k = cps la ρ kx fun rs ρ1 => cps (peeks rs) ρ1 kx fun ds ρ2 => (g ds).bind fun r => k r ρ2 := by
 unfold eB; simp only [Tl.ob_some, Tl.ob_none, Tl.ob_assoc, Tl.om_eq, Tl.ob_ite, Tl.gz_small, Tl.gb_true, Tl.tt_true, Tl.ft_false, Tl.ite_T, Tl.ite_F, Tl.ite_fun, Tl.b_not_t, Tl.b_not_f, Tl.b_at, Tl.b_af, Tl.b_ot, Tl.b_of, Tl.b_ta, Tl.b_fa, Tl.g_zero, Tl.g_succ, Tl.s_zero, Tl.s_succ, Tl.gd_zero, Tl.gd_succ, Tl.a_cons, Tl.a_nil, Tl.a_nil2, Tl.m_cons, Tl.m_nil, Tl.m_app, Tl.m_map, Tl.m_idf, Tl.l_cons, Tl.l_nil, Tl.l_map, Tl.l_app, Tl.e_map, Tl.e_cons, Tl.e_nil, Tl.r_zero, Tl.r_succ, Tl.tl_cons, Tl.tl_nil, Tl.any_cons', Tl.any_nil', Tl.all_cons', Tl.all_nil', Tl.mem_one, Tl.eqs_self, Tl.tt_and, Tl.cps_bind, Tl.cps_pure, Tl.cps_fail, Tl.cps_ofO, Tl.cps_ite, Tl.cps_var, Tl.varK_v, Tl.varK_o, Tl.cps_C, Tl.set_v, Tl.set_o, Tl.set_a, Tl.cps_peek_v, Tl.cps_peek_o, Tl.cps_peek_a, Tl.peekK_v, Tl.peekK_o, Tl.cps_toV_v, Tl.cps_toV_o, Tl.cps_toV_a, Tl.toVK_v, Tl.toVK_o, Tl.peeks_n, Tl.peeks_c, Tl.toVs_n, Tl.toVs_c, Tl.toVs_vals, Tl.toVs_vals0, Tl.toVs_mv, Tl.toVs_mv0, Tl.cps_bin, Tl.cps_aNil, Tl.cps_aCons, Tl.it_l, Tl.it_t, Tl.cps_aStar, reduceIte, Nat.reduceAdd, Nat.reduceSub, Nat.reduceMul, Nat.reduceLT, Nat.reduceGT, Nat.reduceLeDiff, Nat.reduceEqDiff, Nat.reduceBEq, Nat.reduceBNe, Int.reduceNeg, Int.reduceAdd, Int.reduceSub, Int.reduceMul, Int.reduceLT, Int.reduceLE, Int.reduceGT, Int.reduceGE, Int.reduceEq, Int.reduceNe, Int.reduceBEq, Int.reduceBNe, Int.reducePow]
theorem cps_tup (k : Rv → List S → Option γ) : cps (eTup la) ρ kx k = cps la ρ kx fun rs ρ1 => cps (toVs rs) ρ1 kx fun ds ρ2 => (gz ds.length).bind fun _ => k (.val (.tup ds)) ρ2 := by
 unfold eTup; simp only [Tl.ob_some, Tl.ob_none, Tl.ob_assoc, Tl.om_eq, Tl.ob_ite, Tl.gz_small, Tl.gb_true, Tl.tt_true, Tl.ft_false, Tl.ite_T, Tl.ite_F, Tl.ite_fun, Tl.b_not_t, Tl.b_not_f, Tl.b_at, Tl.b_af, Tl.b_ot, Tl.b_of, Tl.b_ta, Tl.b_fa, Tl.g_zero, Tl.g_succ, Tl.s_zero, Tl.s_succ, Tl.gd_zero, Tl.gd_succ, Tl.a_cons, Tl.a_nil, Tl.a_nil2, Tl.m_cons, Tl.m_nil, Tl.m_app, Tl.m_map, Tl.m_idf, Tl.l_cons, Tl.l_nil, Tl.l_map, Tl.l_app, Tl.e_map, Tl.e_cons, Tl.e_nil, Tl.r_zero, Tl.r_succ, Tl.tl_cons, Tl.tl_nil, Tl.any_cons', Tl.any_nil', Tl.all_cons', Tl.all_nil', Tl.mem_one, Tl.eqs_self, Tl.tt_and, Tl.cps_bind, Tl.cps_pure, Tl.cps_fail, Tl.cps_ofO, Tl.cps_ite, Tl.cps_var, Tl.varK_v, Tl.varK_o, Tl.cps_C, Tl.set_v, Tl.set_o, Tl.set_a, Tl.cps_peek_v, Tl.cps_peek_o, Tl.cps_peek_a, Tl.peekK_v, Tl.peekK_o, Tl.cps_toV_v, Tl.cps_toV_o, Tl.cps_toV_a, Tl.toVK_v, Tl.toVK_o, Tl.peeks_n, Tl.peeks_c, Tl.toVs_n, Tl.toVs_c, Tl.toVs_vals, Tl.toVs_vals0, Tl.toVs_mv, Tl.toVs_mv0, Tl.cps_bin, Tl.cps_aNil, Tl.cps_aCons, Tl.it_l, Tl.it_t, Tl.cps_aStar, Tl.cps_eB, reduceIte, Nat.reduceAdd, Nat.reduceSub, Nat.reduceMul, Nat.reduceLT, Nat.reduceGT, Nat.reduceLeDiff, Nat.reduceEqDiff, Nat.reduceBEq, Nat.reduceBNe, Int.reduceNeg, Int.reduceAdd, Int.reduceSub, Int.reduceMul, Int.reduceLT, Int.reduceLE, Int.reduceGT, Int.reduceGE, Int.reduceEq, Int.reduceNe, Int.reduceBEq, Int.reduceBNe, Int.reducePow, gz, ob_ite]
theorem cps_lst (k : Rv → List S → Option γ) : cps (eLst la) ρ kx k = cps la ρ kx fun rs ρ1 => cps (toVs rs) ρ1 kx fun ds ρ2 => (gz ds.length).bind fun _ => k (.own (.lst ds)) ρ2 := by
 unfold eLst; simp only [Tl.ob_some, Tl.ob_none, Tl.ob_assoc, Tl.om_eq, Tl.ob_ite, Tl.gz_small, Tl.gb_true, Tl.tt_true, Tl.ft_false, Tl.ite_T, Tl.ite_F, Tl.ite_fun, Tl.b_not_t, Tl.b_not_f, Tl.b_at, Tl.b_af, Tl.b_ot, Tl.b_of, Tl.b_ta, Tl.b_fa, Tl.g_zero, Tl.g_succ, Tl.s_zero, Tl.s_succ, Tl.gd_zero, Tl.gd_succ, Tl.a_cons, Tl.a_nil, Tl.a_nil2, Tl.m_cons, Tl.m_nil, Tl.m_app, Tl.m_map, Tl.m_idf, Tl.l_cons, Tl.l_nil, Tl.l_map, Tl.l_app, Tl.e_map, Tl.e_cons, Tl.e_nil, Tl.r_zero, Tl.r_succ, Tl.tl_cons, Tl.tl_nil, Tl.any_cons', Tl.any_nil', Tl.all_cons', Tl.all_nil', Tl.mem_one, Tl.eqs_self, Tl.tt_and, Tl.cps_bind, Tl.cps_pure, Tl.cps_fail, Tl.cps_ofO, Tl.cps_ite, Tl.cps_var, Tl.varK_v, Tl.varK_o, Tl.cps_C, Tl.set_v, Tl.set_o, Tl.set_a, Tl.cps_peek_v, Tl.cps_peek_o, Tl.cps_peek_a, Tl.peekK_v, Tl.peekK_o, Tl.cps_toV_v, Tl.cps_toV_o, Tl.cps_toV_a, Tl.toVK_v, Tl.toVK_o, Tl.peeks_n, Tl.peeks_c, Tl.toVs_n, Tl.toVs_c, Tl.toVs_vals, Tl.toVs_vals0, Tl.toVs_mv, Tl.toVs_mv0, Tl.cps_bin, Tl.cps_aNil, Tl.cps_aCons, Tl.it_l, Tl.it_t, Tl.cps_aStar, Tl.cps_eB, Tl.cps_tup, reduceIte, Nat.reduceAdd, Nat.reduceSub, Nat.reduceMul, Nat.reduceLT, Nat.reduceGT, Nat.reduceLeDiff, Nat.reduceEqDiff, Nat.reduceBEq, Nat.reduceBNe, Int.reduceNeg, Int.reduceAdd, Int.reduceSub, Int.reduceMul, Int.reduceLT, Int.reduceLE, Int.reduceGT, Int.reduceGE, Int.reduceEq, Int.reduceNe, Int.reduceBEq, Int.reduceBNe, Int.reducePow, gz, ob_ite]
def ofI : D → Option Int
 | .int i => some i
 | _ => none
theorem ofI_i (i : Int) : ofI (.int i) = some i := rfl
theorem cps_oNo (k : Option Int → List S → Option γ) : cps oNo ρ kx k = k none ρ := rfl
theorem cps_oSome (k : Option Int → List S → Option γ) : cps (oSome fa) ρ kx k = cps fa ρ kx fun r ρ1 => cps (peek r) ρ1 kx fun d ρ2 => (ofI d).bind fun i => k (some i) ρ2 := by
 unfold oSome; simp only [cps_bind]
 congr 1; funext r ρ1; congr 1; funext d ρ2
 cases d <;> simp only [Tl.ob_some, Tl.ob_none, Tl.ob_assoc, Tl.om_eq, Tl.ob_ite, Tl.gz_small, Tl.gb_true, Tl.tt_true, Tl.ft_false, Tl.ite_T, Tl.ite_F, Tl.ite_fun, Tl.b_not_t, Tl.b_not_f, Tl.b_at, Tl.b_af, Tl.b_ot, Tl.b_of, Tl.b_ta, Tl.b_fa, Tl.g_zero, Tl.g_succ, Tl.s_zero, Tl.s_succ, Tl.gd_zero, Tl.gd_succ, Tl.a_cons, Tl.a_nil, Tl.a_nil2, Tl.m_cons, Tl.m_nil, Tl.m_app, Tl.m_map, Tl.m_idf, Tl.l_cons, Tl.l_nil, Tl.l_map, Tl.l_app, Tl.e_map, Tl.e_cons, Tl.e_nil, Tl.r_zero, Tl.r_succ, Tl.tl_cons, Tl.tl_nil, Tl.any_cons', Tl.any_nil', Tl.all_cons', Tl.all_nil', Tl.mem_one, Tl.eqs_self, Tl.tt_and, Tl.cps_bind, Tl.cps_pure, Tl.cps_fail, Tl.cps_ofO, Tl.cps_ite, Tl.cps_var, Tl.varK_v, Tl.varK_o, Tl.cps_C, Tl.set_v, Tl.set_o, Tl.set_a, Tl.cps_peek_v, Tl.cps_peek_o, Tl.cps_peek_a, Tl.peekK_v, Tl.peekK_o, Tl.cps_toV_v, Tl.cps_toV_o, Tl.cps_toV_a, Tl.toVK_v, Tl.toVK_o, Tl.peeks_n, Tl.peeks_c, Tl.toVs_n, Tl.toVs_c, Tl.toVs_vals, Tl.toVs_vals0, Tl.toVs_mv, Tl.toVs_mv0, Tl.cps_bin, Tl.cps_aNil, Tl.cps_aCons, Tl.it_l, Tl.it_t, Tl.cps_aStar, Tl.cps_eB, Tl.cps_tup, Tl.cps_lst, Tl.ofI_i, Tl.cps_oNo, reduceIte, Nat.reduceAdd, Nat.reduceSub, Nat.reduceMul, Nat.reduceLT, Nat.reduceGT, Nat.reduceLeDiff, Nat.reduceEqDiff, Nat.reduceBEq, Nat.reduceBNe, Int.reduceNeg, Int.reduceAdd, Int.reduceSub, Int.reduceMul, Int.reduceLT, Int.reduceLE, Int.reduceGT, Int.reduceGE, Int.reduceEq, Int.reduceNe, Int.reduceBEq, Int.reduceBNe, Int.reducePow] <;> rfl
theorem cps_sl (fl fh : M (Option Int)) (k : Rv → List S → Option γ) : cps (eSl fa fl fh) ρ kx k = cps fa ρ kx fun x ρ1 => cps fl ρ1 kx fun l ρ2 => cps fh ρ2 kx fun h ρ3 => cps (peek (Dl.settle x)) ρ3 kx fun d ρ4 => (dSl d l h).bind fun r => k r ρ4 := by
 unfold eSl; simp only [Tl.ob_some, Tl.ob_none, Tl.ob_assoc, Tl.om_eq, Tl.ob_ite, Tl.gz_small, Tl.gb_true, Tl.tt_true, Tl.ft_false, Tl.ite_T, Tl.ite_F, Tl.ite_fun, Tl.b_not_t, Tl.b_not_f, Tl.b_at, Tl.b_af, Tl.b_ot, Tl.b_of, Tl.b_ta, Tl.b_fa, Tl.g_zero, Tl.g_succ, Tl.s_zero, Tl.s_succ, Tl.gd_zero, Tl.gd_succ, Tl.a_cons, Tl.a_nil, Tl.a_nil2, Tl.m_cons, Tl.m_nil, Tl.m_app, Tl.m_map, Tl.m_idf, Tl.l_cons, Tl.l_nil, Tl.l_map, Tl.l_app, Tl.e_map, Tl.e_cons, Tl.e_nil, Tl.r_zero, Tl.r_succ, Tl.tl_cons, Tl.tl_nil, Tl.any_cons', Tl.any_nil', Tl.all_cons', Tl.all_nil', Tl.mem_one, Tl.eqs_self, Tl.tt_and, Tl.cps_bind, Tl.cps_pure, Tl.cps_fail, Tl.cps_ofO, Tl.cps_ite, Tl.cps_var, Tl.varK_v, Tl.varK_o, Tl.cps_C, Tl.set_v, Tl.set_o, Tl.set_a, Tl.cps_peek_v, Tl.cps_peek_o, Tl.cps_peek_a, Tl.peekK_v, Tl.peekK_o, Tl.cps_toV_v, Tl.cps_toV_o, Tl.cps_toV_a, Tl.toVK_v, Tl.toVK_o, Tl.peeks_n, Tl.peeks_c, Tl.toVs_n, Tl.toVs_c, Tl.toVs_vals, Tl.toVs_vals0, Tl.toVs_mv, Tl.toVs_mv0, Tl.cps_bin, Tl.cps_aNil, Tl.cps_aCons, Tl.it_l, Tl.it_t, Tl.cps_aStar, Tl.cps_eB, Tl.cps_tup, Tl.cps_lst, Tl.ofI_i, Tl.cps_oNo, Tl.cps_oSome, reduceIte, Nat.reduceAdd, Nat.reduceSub, Nat.reduceMul, Nat.reduceLT, Nat.reduceGT, Nat.reduceLeDiff, Nat.reduceEqDiff, Nat.reduceBEq, Nat.reduceBNe, Int.reduceNeg, Int.reduceAdd, Int.reduceSub, Int.reduceMul, Int.reduceLT, Int.reduceLE, Int.reduceGT, Int.reduceGE, Int.reduceEq, Int.reduceNe, Int.reduceBEq, Int.reduceBNe, Int.reducePow]
theorem cps_neg (k : Rv → List S → Option γ) : cps (eNeg fa) ρ kx k = cps fa ρ kx fun r ρ1 => cps (peek r) ρ1 kx fun d ρ2 => (ofI d).bind fun i => k (.val (.int (-i))) ρ2 := by
 unfold eNeg; simp only [cps_bind]
 congr 1; funext r ρ1; congr 1; funext d ρ2
 cases d <;> simp only [Tl.ob_some, Tl.ob_none, Tl.ob_assoc, Tl.om_eq, Tl.ob_ite, Tl.gz_small, Tl.gb_true, Tl.tt_true, Tl.ft_false, Tl.ite_T, Tl.ite_F, Tl.ite_fun, Tl.b_not_t, Tl.b_not_f, Tl.b_at, Tl.b_af, Tl.b_ot, Tl.b_of, Tl.b_ta, Tl.b_fa, Tl.g_zero, Tl.g_succ, Tl.s_zero, Tl.s_succ, Tl.gd_zero, Tl.gd_succ, Tl.a_cons, Tl.a_nil, Tl.a_nil2, Tl.m_cons, Tl.m_nil, Tl.m_app, Tl.m_map, Tl.m_idf, Tl.l_cons, Tl.l_nil, Tl.l_map, Tl.l_app, Tl.e_map, Tl.e_cons, Tl.e_nil, Tl.r_zero, Tl.r_succ, Tl.tl_cons, Tl.tl_nil, Tl.any_cons', Tl.any_nil', Tl.all_cons', Tl.all_nil', Tl.mem_one, Tl.eqs_self, Tl.tt_and, Tl.cps_bind, Tl.cps_pure, Tl.cps_fail, Tl.cps_ofO, Tl.cps_ite, Tl.cps_var, Tl.varK_v, Tl.varK_o, Tl.cps_C, Tl.set_v, Tl.set_o, Tl.set_a, Tl.cps_peek_v, Tl.cps_peek_o, Tl.cps_peek_a, Tl.peekK_v, Tl.peekK_o, Tl.cps_toV_v, Tl.cps_toV_o, Tl.cps_toV_a, Tl.toVK_v, Tl.toVK_o, Tl.peeks_n, Tl.peeks_c, Tl.toVs_n, Tl.toVs_c, Tl.toVs_vals, Tl.toVs_vals0, Tl.toVs_mv, Tl.toVs_mv0, Tl.cps_bin, Tl.cps_aNil, Tl.cps_aCons, Tl.it_l, Tl.it_t, Tl.cps_aStar, Tl.cps_eB, Tl.cps_tup, Tl.cps_lst, Tl.ofI_i, Tl.cps_oNo, Tl.cps_oSome, Tl.cps_sl, reduceIte, Nat.reduceAdd, Nat.reduceSub, Nat.reduceMul, Nat.reduceLT, Nat.reduceGT, Nat.reduceLeDiff, Nat.reduceEqDiff, Nat.reduceBEq, Nat.reduceBNe, Int.reduceNeg, Int.reduceAdd, Int.reduceSub, Int.reduceMul, Int.reduceLT, Int.reduceLE, Int.reduceGT, Int.reduceGE, Int.reduceEq, Int.reduceNe, Int.reduceBEq, Int.reduceBNe, Int.reducePow] <;> rfl
theorem cps_tru (r : Rv) (k : Bool → List S → Option γ) : cps (tru r) ρ kx k = cps (peek r) ρ kx fun d ρ1 => (truD d).bind fun b => k b ρ1 := by
 unfold tru; simp only [Tl.ob_some, Tl.ob_none, Tl.ob_assoc, Tl.om_eq, Tl.ob_ite, Tl.gz_small, Tl.gb_true, Tl.tt_true, Tl.ft_false, Tl.ite_T, Tl.ite_F, Tl.ite_fun, Tl.b_not_t, Tl.b_not_f, Tl.b_at, Tl.b_af, Tl.b_ot, Tl.b_of, Tl.b_ta, Tl.b_fa, Tl.g_zero, Tl.g_succ, Tl.s_zero, Tl.s_succ, Tl.gd_zero, Tl.gd_succ, Tl.a_cons, Tl.a_nil, Tl.a_nil2, Tl.m_cons, Tl.m_nil, Tl.m_app, Tl.m_map, Tl.m_idf, Tl.l_cons, Tl.l_nil, Tl.l_map, Tl.l_app, Tl.e_map, Tl.e_cons, Tl.e_nil, Tl.r_zero, Tl.r_succ, Tl.tl_cons, Tl.tl_nil, Tl.any_cons', Tl.any_nil', Tl.all_cons', Tl.all_nil', Tl.mem_one, Tl.eqs_self, Tl.tt_and, Tl.cps_bind, Tl.cps_pure, Tl.cps_fail, Tl.cps_ofO, Tl.cps_ite, Tl.cps_var, Tl.varK_v, Tl.varK_o, Tl.cps_C, Tl.set_v, Tl.set_o, Tl.set_a, Tl.cps_peek_v, Tl.cps_peek_o, Tl.cps_peek_a, Tl.peekK_v, Tl.peekK_o, Tl.cps_toV_v, Tl.cps_toV_o, Tl.cps_toV_a, Tl.toVK_v, Tl.toVK_o, Tl.peeks_n, Tl.peeks_c, Tl.toVs_n, Tl.toVs_c, Tl.toVs_vals, Tl.toVs_vals0, Tl.toVs_mv, Tl.toVs_mv0, Tl.cps_bin, Tl.cps_aNil, Tl.cps_aCons, Tl.it_l, Tl.it_t, Tl.cps_aStar, Tl.cps_eB, Tl.cps_tup, Tl.cps_lst, Tl.ofI_i, Tl.cps_oNo, Tl.cps_oSome, Tl.cps_sl, Tl.cps_neg, reduceIte, Nat.reduceAdd, Nat.reduceSub, Nat.reduceMul, Nat.reduceLT, Nat.reduceGT, Nat.reduceLeDiff, Nat.reduceEqDiff, Nat.reduceBEq, Nat.reduceBNe, Int.reduceNeg, Int.reduceAdd, Int.reduceSub, Int.reduceMul, Int.reduceLT, Int.reduceLE, Int.reduceGT, Int.reduceGE, Int.reduceEq, Int.reduceNe, Int.reduceBEq, Int.reduceBNe, Int.reducePow]
theorem cps_tVal (k : Bool → List S → Option γ) : cps (tVal fa) ρ kx k = cps fa ρ kx fun r ρ1 => cps (tru r) ρ1 kx k := by
 unfold tVal; simp only [cps_bind]
theorem cps_tNot (k : Bool → List S → Option γ) : cps (tNot ga) ρ kx k = cps ga ρ kx fun b ρ1 => k (!b) ρ1 := by
 unfold tNot; simp only [Tl.ob_some, Tl.ob_none, Tl.ob_assoc, Tl.om_eq, Tl.ob_ite, Tl.gz_small, Tl.gb_true, Tl.tt_true, Tl.ft_false, Tl.ite_T, Tl.ite_F, Tl.ite_fun, Tl.b_not_t, Tl.b_not_f, Tl.b_at, Tl.b_af, Tl.b_ot, Tl.b_of, Tl.b_ta, Tl.b_fa, Tl.g_zero, Tl.g_succ, Tl.s_zero, Tl.s_succ, Tl.gd_zero, Tl.gd_succ, Tl.a_cons, Tl.a_nil, Tl.a_nil2, Tl.m_cons, Tl.m_nil, Tl.m_app, Tl.m_map, Tl.m_idf, Tl.l_cons, Tl.l_nil, Tl.l_map, Tl.l_app, Tl.e_map, Tl.e_cons, Tl.e_nil, Tl.r_zero, Tl.r_succ, Tl.tl_cons, Tl.tl_nil, Tl.any_cons', Tl.any_nil', Tl.all_cons', Tl.all_nil', Tl.mem_one, Tl.eqs_self, Tl.tt_and, Tl.cps_bind, Tl.cps_pure, Tl.cps_fail, Tl.cps_ofO, Tl.cps_ite, Tl.cps_var, Tl.varK_v, Tl.varK_o, Tl.cps_C, Tl.set_v, Tl.set_o, Tl.set_a, Tl.cps_peek_v, Tl.cps_peek_o, Tl.cps_peek_a, Tl.peekK_v, Tl.peekK_o, Tl.cps_toV_v, Tl.cps_toV_o, Tl.cps_toV_a, Tl.toVK_v, Tl.toVK_o, Tl.peeks_n, Tl.peeks_c, Tl.toVs_n, Tl.toVs_c, Tl.toVs_vals, Tl.toVs_vals0, Tl.toVs_mv, Tl.toVs_mv0, Tl.cps_bin, Tl.cps_aNil, Tl.cps_aCons, Tl.it_l, Tl.it_t, Tl.cps_aStar, Tl.cps_eB, Tl.cps_tup, Tl.cps_lst, Tl.ofI_i, Tl.cps_oNo, Tl.cps_oSome, Tl.cps_sl, Tl.cps_neg, Tl.cps_tru, Tl.cps_tVal, reduceIte, Nat.reduceAdd, Nat.reduceSub, Nat.reduceMul, Nat.reduceLT, Nat.reduceGT, Nat.reduceLeDiff, Nat.reduceEqDiff, Nat.reduceBEq, Nat.reduceBNe, Int.reduceNeg, Int.reduceAdd, Int.reduceSub, Int.reduceMul, Int.reduceLT, Int.reduceLE, Int.reduceGT, Int.reduceGE, Int.reduceEq, Int.reduceNe, Int.reduceBEq, Int.reduceBNe, Int.reducePow]
theorem cps_tAnd (k : Bool → List S → Option γ) : cps (tAnd ga gb') ρ kx k = cps ga ρ kx fun b ρ1 => if b = true then cps gb' ρ1 kx k else k false ρ1 := by
 unfold tAnd; simp only [Tl.ob_some, Tl.ob_none, Tl.ob_assoc, Tl.om_eq, Tl.ob_ite, Tl.gz_small, Tl.gb_true, Tl.tt_true, Tl.ft_false, Tl.ite_T, Tl.ite_F, Tl.ite_fun, Tl.b_not_t, Tl.b_not_f, Tl.b_at, Tl.b_af, Tl.b_ot, Tl.b_of, Tl.b_ta, Tl.b_fa, Tl.g_zero, Tl.g_succ, Tl.s_zero, Tl.s_succ, Tl.gd_zero, Tl.gd_succ, Tl.a_cons, Tl.a_nil, Tl.a_nil2, Tl.m_cons, Tl.m_nil, Tl.m_app, Tl.m_map, Tl.m_idf, Tl.l_cons, Tl.l_nil, Tl.l_map, Tl.l_app, Tl.e_map, Tl.e_cons, Tl.e_nil, Tl.r_zero, Tl.r_succ, Tl.tl_cons, Tl.tl_nil, Tl.any_cons', Tl.any_nil', Tl.all_cons', Tl.all_nil', Tl.mem_one, Tl.eqs_self, Tl.tt_and, Tl.cps_bind, Tl.cps_pure, Tl.cps_fail, Tl.cps_ofO, Tl.cps_ite, Tl.cps_var, Tl.varK_v, Tl.varK_o, Tl.cps_C, Tl.set_v, Tl.set_o, Tl.set_a, Tl.cps_peek_v, Tl.cps_peek_o, Tl.cps_peek_a, Tl.peekK_v, Tl.peekK_o, Tl.cps_toV_v, Tl.cps_toV_o, Tl.cps_toV_a, Tl.toVK_v, Tl.toVK_o, Tl.peeks_n, Tl.peeks_c, Tl.toVs_n, Tl.toVs_c, Tl.toVs_vals, Tl.toVs_vals0, Tl.toVs_mv, Tl.toVs_mv0, Tl.cps_bin, Tl.cps_aNil, Tl.cps_aCons, Tl.it_l, Tl.it_t, Tl.cps_aStar, Tl.cps_eB, Tl.cps_tup, Tl.cps_lst, Tl.ofI_i, Tl.cps_oNo, Tl.cps_oSome, Tl.cps_sl, Tl.cps_neg, Tl.cps_tru, Tl.cps_tVal, Tl.cps_tNot, reduceIte, Nat.reduceAdd, Nat.reduceSub, Nat.reduceMul, Nat.reduceLT, Nat.reduceGT, Nat.reduceLeDiff, Nat.reduceEqDiff, Nat.reduceBEq, Nat.reduceBNe, Int.reduceNeg, Int.reduceAdd, Int.reduceSub, Int.reduceMul, Int.reduceLT, Int.reduceLE, Int.reduceGT, Int.reduceGE, Int.reduceEq, Int.reduceNe, Int.reduceBEq, Int.reduceBNe, Int.reducePow]
theorem cps_tOr (k : Bool → List S → Option γ) : cps (tOr ga gb') ρ kx k = cps ga ρ kx fun b ρ1 => if b = true then k true ρ1 else cps gb' ρ1 kx k := by
 unfold tOr; simp only [Tl.ob_some, Tl.ob_none, Tl.ob_assoc, Tl.om_eq, Tl.ob_ite, Tl.gz_small, Tl.gb_true, Tl.tt_true, Tl.ft_false, Tl.ite_T, Tl.ite_F, Tl.ite_fun, Tl.b_not_t, Tl.b_not_f, Tl.b_at, Tl.b_af, Tl.b_ot, Tl.b_of, Tl.b_ta, Tl.b_fa, Tl.g_zero, Tl.g_succ, Tl.s_zero, Tl.s_succ, Tl.gd_zero, Tl.gd_succ, Tl.a_cons, Tl.a_nil, Tl.a_nil2, Tl.m_cons, Tl.m_nil, Tl.m_app, Tl.m_map, Tl.m_idf, Tl.l_cons, Tl.l_nil, Tl.l_map, Tl.l_app, Tl.e_map, Tl.e_cons, Tl.e_nil, Tl.r_zero, Tl.r_succ, Tl.tl_cons, Tl.tl_nil, Tl.any_cons', Tl.any_nil', Tl.all_cons', Tl.all_nil', Tl.mem_one, Tl.eqs_self, Tl.tt_and, Tl.cps_bind, Tl.cps_pure, Tl.cps_fail, Tl.cps_ofO, Tl.cps_ite, Tl.cps_var, Tl.varK_v, Tl.varK_o, Tl.cps_C, Tl.set_v, Tl.set_o, Tl.set_a, Tl.cps_peek_v, Tl.cps_peek_o, Tl.cps_peek_a, Tl.peekK_v, Tl.peekK_o, Tl.cps_toV_v, Tl.cps_toV_o, Tl.cps_toV_a, Tl.toVK_v, Tl.toVK_o, Tl.peeks_n, Tl.peeks_c, Tl.toVs_n, Tl.toVs_c, Tl.toVs_vals, Tl.toVs_vals0, Tl.toVs_mv, Tl.toVs_mv0, Tl.cps_bin, Tl.cps_aNil, Tl.cps_aCons, Tl.it_l, Tl.it_t, Tl.cps_aStar, Tl.cps_eB, Tl.cps_tup, Tl.cps_lst, Tl.ofI_i, Tl.cps_oNo, Tl.cps_oSome, Tl.cps_sl, Tl.cps_neg, Tl.cps_tru, Tl.cps_tVal, Tl.cps_tNot, Tl.cps_tAnd, reduceIte, Nat.reduceAdd, Nat.reduceSub, Nat.reduceMul, Nat.reduceLT, Nat.reduceGT, Nat.reduceLeDiff, Nat.reduceEqDiff, Nat.reduceBEq, Nat.reduceBNe, Int.reduceNeg, Int.reduceAdd, Int.reduceSub, Int.reduceMul, Int.reduceLT, Int.reduceLE, Int.reduceGT, Int.reduceGE, Int.reduceEq, Int.reduceNe, Int.reduceBEq, Int.reduceBNe, Int.reducePow]
theorem cps_eNot (k : Rv → List S → Option γ) : cps (eNot fa) ρ kx k = cps fa ρ kx fun r ρ1 => cps (tru r) ρ1 kx fun b ρ2 => k (.val (.bl (!b))) ρ2 := by
 unfold eNot; simp only [cps_bind, cps_pure]
theorem cps_eAnd (k : Rv → List S → Option γ) : cps (eAnd fa fb) ρ kx k = cps fa ρ kx fun r ρ1 => cps (tru (Dl.settle r)) ρ1 kx fun b ρ2 => if b = true then cps fb ρ2 kx k else k (Dl.settle r) ρ2 := by
 unfold eAnd; simp only [cps_bind, cps_pure, cps_ite]
theorem cps_eOr (k : Rv → List S → Option γ) : cps (eOr fa fb) ρ kx k = cps fa ρ kx fun r ρ1 => cps (tru (Dl.settle r)) ρ1 kx fun b ρ2 => if b = true then k (Dl.settle r) ρ2 else cps fb ρ2 kx k := by
 unfold eOr; simp only [cps_bind, cps_pure, cps_ite]
theorem cps_eIf (k : Rv → List S → Option γ) : cps (eIf ga fa fb) ρ kx k = cps ga ρ kx fun b ρ1 => if b = true then cps fa ρ1 kx k else cps fb ρ1 kx k := by
 unfold eIf; simp only [cps_bind, cps_ite]
def ofBl : Rv → Option Bool
 | .val (.bl b) => some b
 | _ => none
theorem ofBl_b (b : Bool) : ofBl (.val (.bl b)) = some b := rfl
theorem cps_tCmp (k : Bool → List S → Option γ) : cps (tCmp fa) ρ kx k = cps fa ρ kx fun r ρ1 => (ofBl r).bind fun b => k b ρ1 := by
 unfold tCmp; simp only [cps_bind]
 congr 1; funext r ρ1
 cases r with
 | val d => cases d <;> rfl
 | _ => rfl
theorem cps_yes (k : Bool → List S → Option γ) : cps tYes' ρ kx k = k true ρ := rfl
def fldO (cs : List Str) (f : Str) : D → Option D
 | .obj n ns ds => if n ∈ cs then lkF f ns ds else none
 | _ => none
theorem cps_fld (cs : List Str) (f : Str) (k : Rv → List S → Option γ) : cps (eFld cs f fa) ρ kx k = cps fa ρ kx fun r ρ1 => cps (peek r) ρ1 kx fun d ρ2 => (fldO cs f d).bind fun e => k (.val e) ρ2 := by
 unfold eFld; simp only [cps_bind]
 congr 1; funext r ρ1; congr 1; funext d ρ2
 cases d with
 | obj n ns ds =>
  unfold fldO
  dsimp only
  by_cases h : n ∈ cs
  · rw [if_pos h, if_pos h, cps_ofO]; cases lkF f ns ds <;> rfl
  · rw [if_neg h, if_neg h]; rfl
 | _ => rfl
theorem cps_frz (k : Rv → List S → Option γ) : cps (eFrz fa) ρ kx k = cps fa ρ kx fun r ρ1 => cps (toV r) ρ1 kx fun d ρ2 => k (.val d) ρ2 := by
 unfold eFrz; simp only [cps_bind, cps_pure]
theorem prep_n (ms : List Bool) : prep ms [] = pure [] := by cases ms with
 | nil => rfl
 | cons b ms => cases b <;> rfl
theorem prep_t (ms : List Bool) (r : Rv) (rs : List Rv) : prep (true :: ms) (r :: rs) = (prep ms rs >>= fun rs' => pure (r :: rs')) := rfl
theorem prep_f (ms : List Bool) (r : Rv) (rs : List Rv) : prep (false :: ms) (r :: rs) = (toV r >>= fun d => prep ms rs >>= fun rs' => pure (.val d :: rs')) := rfl
theorem prep_z (r : Rv) (rs : List Rv) : prep [] (r :: rs) = (toV r >>= fun d => prep [] rs >>= fun rs' => pure (.val d :: rs')) := rfl
def notAli : Rv → Bool
 | .ali _ => false
 | _ => true
def callO (rs' : List Rv) (ρ ρ1 : List S) (kx : Xn → List S → Option γ) (k : Rv → List S → Option γ) : Of → Option γ
 | .ret q ss' => if (noAli rs' && scaR q) = true then k q ρ else if notAli q = true then k q (back rs' ss' ρ1) else none
 | .ex e ss' => kx e (back rs' ss' ρ1)
theorem cps_call (mu : List Bool) (fn : Fn) (rs : List Rv) (k : Rv → List S → Option γ) : cps (callM mu fn rs) ρ kx k = cps (prep mu rs) ρ (fun _ _ => none) fun rs' ρ1 => if dist rs' = true then (ssOfs ρ1 rs').bind fun ss => (fn ss).bind (callO rs' ρ ρ1 kx k) else none := by
 unfold callM cps
 dsimp only
 cases q : prep mu rs ρ with
 | none => rfl
 | some o =>
  cases o with
  | ex e ρ' => rfl
  | ok rs' ρ1 =>
   dsimp only
   by_cases hd : dist rs' = true
   · rw [if_pos hd, if_pos hd]
     cases ssOfs ρ1 rs' with
     | none => rfl
     | some ss =>
      dsimp only [Option.bind]
      cases fn ss with
      | none => rfl
      | some o2 =>
       cases o2 with
       | ex e ss' => rfl
       | ret q ss' =>
        dsimp only [callO]
        by_cases hn : (noAli rs' && scaR q) = true
        · rw [if_pos hn, if_pos hn]
        · rw [if_neg hn, if_neg hn]
          cases q <;> rfl
   · rw [if_neg hd, if_neg hd]
theorem callO_ret (rs' : List Rv) (ρ ρ1 : List S) (kx : Xn → List S → Option γ) (k : Rv → List S → Option γ) (q : Rv) (ss' : List S) : callO rs' ρ ρ1 kx k (.ret q ss') = if (noAli rs' && scaR q) = true then k q ρ else if notAli q = true then k q (back rs' ss' ρ1) else none := rfl
theorem callO_ex (rs' : List Rv) (ρ ρ1 : List S) (kx : Xn → List S → Option γ) (k : Rv → List S → Option γ) (e : Xn) (ss' : List S) : callO rs' ρ ρ1 kx k (.ex e ss') = kx e (back rs' ss' ρ1) := rfl
theorem na_v (d : D) : notAli (.val d) = true := rfl
theorem na_o (d : D) : notAli (.own d) = true := rfl
theorem cps_eCall (mu : List Bool) (fn : Fn) (k : Rv → List S → Option γ) : cps (eCall mu fn la) ρ kx k = cps la ρ kx fun rs ρ1 => cps (callM mu fn rs) ρ1 kx k := by
 unfold eCall; simp only [cps_bind]
theorem ssOfs_n (ρ : List S) : ssOfs ρ [] = some [] := rfl
theorem ssOfs_c (ρ : List S) (r : Rv) (rs : List Rv) : ssOfs ρ (r :: rs) = (ssOf ρ r).bind fun s => (ssOfs ρ rs).bind fun ss => some (s :: ss) := by
 show (match ssOf ρ r, ssOfs ρ rs with
  | some s, some ss => some (s :: ss)
  | _, _ => none) = _
 cases ssOf ρ r with
 | none => rfl
 | some s => cases ssOfs ρ rs <;> rfl
def ssK : Option S → Option S
 | some (.val d) => some (.val d)
 | some (.own d) => some (.own d)
 | _ => none
theorem ssOf_v (ρ : List S) (d : D) : ssOf ρ (.val d) = some (.val d) := rfl
theorem ssOf_a (ρ : List S) (i : Nat) : ssOf ρ (.ali i) = ssK ρ[i]? := by
 unfold ssOf ssK
 dsimp only
 all_goals cases ρ[i]? with
 | none => rfl
 | some s => cases s <;> rfl
theorem ssK_v (d : D) : ssK (some (.val d)) = some (.val d) := rfl
theorem ssK_o (d : D) : ssK (some (.own d)) = some (.own d) := rfl
theorem dist_n : dist [] = true := rfl
theorem dist_v (d : D) (rs : List Rv) : dist (.val d :: rs) = dist rs := rfl
theorem dist_a (i : Nat) (rs : List Rv) : dist (.ali i :: rs) = (!rs.any (isAli i) && dist rs) := rfl
theorem isAli_v (i : Nat) (d : D) : isAli i (.val d) = false := rfl
theorem isAli_a (i j : Nat) : isAli i (.ali j) = (i == j) := rfl
theorem noAli_n : noAli [] = true := rfl
theorem noAli_v (d : D) (rs : List Rv) : noAli (.val d :: rs) = noAli rs := rfl
theorem noAli_a (i : Nat) (rs : List Rv) : noAli (.ali i :: rs) = false := rfl
theorem scaR_o (d : D) : scaR (.own d) = false := rfl
theorem scaR_v (d : D) : scaR (.val d) = scaD d := rfl
theorem sca_n : scaD .non = true := rfl
theorem sca_b (b : Bool) : scaD (.bl b) = true := rfl
theorem sca_i (i : Int) : scaD (.int i) = true := rfl
theorem sca_s (x : Str) : scaD (.str x) = true := rfl
theorem sca_l (x : List D) : scaD (.lst x) = false := rfl
theorem sca_t (x : List D) : scaD (.tup x) = false := rfl
theorem sca_ob (c : Str) (ns : List Str) (x : List D) : scaD (.obj c ns x) = false := rfl
theorem back_n (ss ρ : List S) : back [] ss ρ = ρ := rfl
theorem back_v (d : D) (rs : List Rv) (s : S) (ss ρ : List S) : back (.val d :: rs) (s :: ss) ρ = back rs ss ρ := rfl
theorem back_a (i : Nat) (rs : List Rv) (s : S) (ss ρ : List S) : back (.ali i :: rs) (s :: ss) ρ = back rs ss (back1 i s ρ) := rfl
def b1K (i : Nat) (s : S) (ρ : List S) : Option S → List S
 | some (.own _) => ρ.set i (ownOr s)
 | _ => ρ
theorem back1_eq (i : Nat) (s : S) (ρ : List S) : back1 i s ρ = b1K i s ρ ρ[i]? := by
 unfold back1 b1K isOwn
 cases ρ[i]? with
 | none => rfl
 | some s => cases s <;> rfl
theorem b1K_o (i : Nat) (s : S) (ρ : List S) (d : D) : b1K i s ρ (some (.own d)) = ρ.set i (ownOr s) := rfl
theorem b1K_v (i : Nat) (s : S) (ρ : List S) (d : D) : b1K i s ρ (some (.val d)) = ρ := rfl
theorem ownOr_o (d : D) : ownOr (.own d) = .own d := rfl
def makeO (rs' : List Rv) (ρ1 : List S) (kx : Xn → List S → Option γ) (k : Rv → List S → Option γ) : Of → Option γ
 | .ret (.val .non) (.own d :: ss') => k (.own d) (back rs' ss' ρ1)
 | .ex e (_ :: ss') => kx e (back rs' ss' ρ1)
 | _ => none
theorem cps_makeM (n : Str) (mu : List Bool) (fn : Fn) (rs : List Rv) (k : Rv → List S → Option γ) : cps (makeM n mu fn rs) ρ kx k = cps (prep mu rs) ρ (fun _ _ => none) fun rs' ρ1 => if dist rs' = true then (ssOfs ρ1 rs').bind fun ss => (fn (.own (.obj n [] []) :: ss)).bind (makeO rs' ρ1 kx k) else none := by
 unfold makeM cps
 dsimp only
 cases q : prep mu rs ρ with
 | none => rfl
 | some o =>
  cases o with
  | ex e ρ' => rfl
  | ok rs' ρ1 =>
   dsimp only
   by_cases hd : dist rs' = true
   · rw [if_pos hd, if_pos hd]
     cases ssOfs ρ1 rs' with
     | none => rfl
     | some ss =>
      dsimp only [Option.bind]
      cases fn (.own (.obj n [] []) :: ss) with
      | none => rfl
      | some o2 =>
       cases o2 with
       | ex e ss' => cases ss' <;> rfl
       | ret q ss' =>
        cases q with
        | val d => cases d <;> first | rfl | (cases ss' with
         | nil => rfl
         | cons s ss' => cases s <;> rfl)
        | _ => rfl
   · rw [if_neg hd, if_neg hd]
theorem makeO_ret (rs' : List Rv) (ρ1 : List S) (kx : Xn → List S → Option γ) (k : Rv → List S → Option γ) (d : D) (ss' : List S) : makeO rs' ρ1 kx k (.ret (.val .non) (.own d :: ss')) = k (.own d) (back rs' ss' ρ1) := rfl
theorem makeO_ex (rs' : List Rv) (ρ1 : List S) (kx : Xn → List S → Option γ) (k : Rv → List S → Option γ) (e : Xn) (s : S) (ss' : List S) : makeO rs' ρ1 kx k (.ex e (s :: ss')) = kx e (back rs' ss' ρ1) := rfl
theorem cps_eMake (n : Str) (mu : List Bool) (fn : Fn) (k : Rv → List S → Option γ) : cps (eMake n mu fn la) ρ kx k = cps la ρ kx fun rs ρ1 => cps (makeM n mu fn rs) ρ1 kx k := by
 unfold eMake; simp only [cps_bind]
def isObj (n : Str) : D → Bool
 | .obj n' _ _ => decide (n' = n)
 | _ => false
def isObjM (n m : Str) : D → Bool
 | .obj n' ns _ => decide (n' = n ∧ m ∉ ns)
 | _ => false
theorem cps_ckC (n : Str) (r : Rv) (k : Unit → List S → Option γ) : cps (ckC n r) ρ kx k = cps (peek r) ρ kx fun d ρ1 => (gb (isObj n d)).bind fun _ => k () ρ1 := by
 unfold ckC; simp only [cps_bind]
 congr 1; funext d ρ1
 cases d with
 | obj n' ns ds =>
  dsimp only [isObj]
  by_cases h : n' = n
  · rw [if_pos h, decide_eq_true h]; rfl
  · rw [if_neg h, decide_eq_false h]; rfl
 | _ => rfl
theorem cps_ckO (n m : Str) (r : Rv) (k : Unit → List S → Option γ) : cps (ckO n m r) ρ kx k = cps (peek r) ρ kx fun d ρ1 => (gb (isObjM n m d)).bind fun _ => k () ρ1 := by
 unfold ckO; simp only [cps_bind]
 congr 1; funext d ρ1
 cases d with
 | obj n' ns ds =>
  dsimp only [isObjM]
  by_cases h : n' = n ∧ m ∉ ns
  · rw [if_pos h, decide_eq_true h]; rfl
  · rw [if_neg h, decide_eq_false h]; rfl
 | _ => rfl
theorem cps_meth (n m : Str) (mu : List Bool) (fn : Fn) (k : Rv → List S → Option γ) : cps (eMeth n m mu fn fa la) ρ kx k = cps fa ρ kx fun r ρ1 => cps (ckO n m (Dl.settle r)) ρ1 kx fun _ ρ2 => cps la ρ2 kx fun rs ρ3 => cps (callM mu fn (Dl.settle r :: rs)) ρ3 kx k := by
 unfold eMeth; simp only [cps_bind]
theorem cps_own2 (n : Str) (mu : List Bool) (fn : Fn) (k : Rv → List S → Option γ) : cps (eOwn2 n mu fn fa fb) ρ kx k = cps fa ρ kx fun r ρ1 => cps fb ρ1 kx fun q ρ2 => cps (ckC n (Dl.settle r)) ρ2 kx fun _ ρ3 => cps (ckC n (Dl.settle q)) ρ3 kx fun _ ρ4 => cps (callM mu fn [Dl.settle r, Dl.settle q]) ρ4 kx k := by
 unfold eOwn2; simp only [cps_bind]
theorem cps_ownIn (n : Str) (mu : List Bool) (fn : Fn) (k : Rv → List S → Option γ) : cps (eOwnIn n mu fn fa fb) ρ kx k = cps fa ρ kx fun r ρ1 => cps fb ρ1 kx fun q ρ2 => cps (ckC n (Dl.settle q)) ρ2 kx fun _ ρ3 => cps (callM mu fn [Dl.settle q, Dl.settle r]) ρ3 kx fun z ρ4 => (ofBl z).bind fun b => k (.val (.bl b)) ρ4 := by
 unfold eOwnIn; simp only [cps_bind]
 congr 1; funext r ρ1; congr 1; funext q ρ2; congr 1; funext _ ρ3; congr 1; funext z ρ4
 cases z with
 | val d => cases d <;> rfl
 | _ => rfl
def ownK (i : Nat) : Option S → Option (Nat × List D)
 | some (.own (.lst ds)) => some (i, ds)
 | _ => none
theorem ownLst_a (i : Nat) (ρ : List S) : ownLst (.ali i) ρ = ownK i ρ[i]? := by
 unfold ownLst ownK
 dsimp only
 all_goals cases ρ[i]? with
 | none => rfl
 | some s => cases s with
  | own d => cases d <;> rfl
  | _ => rfl
theorem ownK_o (i : Nat) (ds : List D) : ownK i (some (.own (.lst ds))) = some (i, ds) := rfl
theorem cps_append (k : Rv → List S → Option γ) : cps (mAppend fa fb) ρ kx k = cps fa ρ kx fun r ρ1 => (ownLst (Dl.settle r) ρ1).bind fun _ => cps fb ρ1 kx fun x ρ2 => cps (toV (Dl.settle x)) ρ2 kx fun d ρ3 => (ownLst (Dl.settle r) ρ3).bind fun p => (gz (p.2.length + 1)).bind fun _ => k (.val .non) (ρ3.set p.1 (.own (.lst (p.2 ++ [d])))) := by
 unfold mAppend; refine (cps_bind _ _ k).trans ?_
 congr 1; funext r ρ1
 have e1 : ∀ (h : Unit → List S → Option γ), cps (ckL (Dl.settle r)) ρ1 kx h = (ownLst (Dl.settle r) ρ1).bind fun _ => h () ρ1 := fun h => by
  unfold cps ckL; cases ownLst (Dl.settle r) ρ1 <;> rfl
 refine (cps_bind _ _ k).trans ?_
 rw [e1]
 congr 1; funext _
 refine (cps_bind _ _ k).trans ?_
 congr 1; funext x ρ2
 refine (cps_bind _ _ k).trans ?_
 congr 1; funext d ρ3
 unfold cps gz
 dsimp only
 cases ownLst (Dl.settle r) ρ3 with
 | none => rfl
 | some p =>
  obtain ⟨i, ds⟩ := p
  dsimp only [Option.bind]
  by_cases h : ds.length < sizeLine
  · rw [if_pos h, if_pos (by omega)]
  · rw [if_neg h, if_neg (by omega)]
def ofL : D → Option (List D)
 | .lst xs => some xs
 | _ => none
theorem ofL_l (xs : List D) : ofL (.lst xs) = some xs := rfl
theorem cps_extend (k : Rv → List S → Option γ) : cps (mExtend fa fb) ρ kx k = cps fa ρ kx fun r ρ1 => (ownLst (Dl.settle r) ρ1).bind fun _ => cps fb ρ1 kx fun x ρ2 => cps (peek (Dl.settle x)) ρ2 kx fun d ρ3 => (ownLst (Dl.settle r) ρ3).bind fun p => (ofL d).bind fun es => (gz (p.2.length + es.length)).bind fun _ => k (.val .non) (ρ3.set p.1 (.own (.lst (p.2 ++ es)))) := by
 unfold mExtend; refine (cps_bind _ _ k).trans ?_
 congr 1; funext r ρ1
 have e1 : ∀ (h : Unit → List S → Option γ), cps (ckL (Dl.settle r)) ρ1 kx h = (ownLst (Dl.settle r) ρ1).bind fun _ => h () ρ1 := fun h => by
  unfold cps ckL; cases ownLst (Dl.settle r) ρ1 <;> rfl
 refine (cps_bind _ _ k).trans ?_
 rw [e1]
 congr 1; funext _
 refine (cps_bind _ _ k).trans ?_
 congr 1; funext x ρ2
 refine (cps_bind _ _ k).trans ?_
 congr 1; funext d ρ3
 unfold cps gz
 dsimp only
 cases ownLst (Dl.settle r) ρ3 with
 | none => cases d <;> rfl
 | some p =>
  obtain ⟨i, ds⟩ := p
  dsimp only [Option.bind]
  cases d with
  | lst es =>
   dsimp only [ofL]
   by_cases h : ds.length + es.length ≤ sizeLine
   · rw [if_pos h, if_pos h]
   · rw [if_neg h, if_neg h]
  | _ => rfl
theorem cps_clear (k : Rv → List S → Option γ) : cps (mClear fa) ρ kx k = cps fa ρ kx fun r ρ1 => (ownLst (Dl.settle r) ρ1).bind fun p => k (.val .non) (ρ1.set p.1 (.own (.lst []))) := by
 unfold mClear; refine (cps_bind _ _ k).trans ?_
 congr 1; funext r ρ1
 have e1 : ∀ (h : Unit → List S → Option γ), cps (ckL (Dl.settle r)) ρ1 kx h = (ownLst (Dl.settle r) ρ1).bind fun _ => h () ρ1 := fun h => by
  unfold cps ckL; cases ownLst (Dl.settle r) ρ1 <;> rfl
 refine (cps_bind _ _ k).trans ?_
 rw [e1]
 unfold cps
 dsimp only
 cases ownLst (Dl.settle r) ρ1 <;> rfl
theorem cps_iSeq (k : List D → List S → Option γ) : cps (iSeq fa) ρ kx k = cps fa ρ kx fun r ρ1 => cps (toV r) ρ1 kx fun d ρ2 => (items d).bind fun ds => k ds ρ2 := by
 unfold iSeq; simp only [cps_bind, cps_ofO]
theorem cps_rng1 (k : List D → List S → Option γ) : cps (iRng1 la) ρ kx k = cps la ρ kx fun rs ρ1 => cps (peeks rs) ρ1 kx fun ds ρ2 => (dRng1 ds).bind fun ds => k ds ρ2 := by
 unfold iRng1; simp only [cps_bind, cps_ofO]
theorem cps_rng2 (k : List D → List S → Option γ) : cps (iRng2 la) ρ kx k = cps la ρ kx fun rs ρ1 => cps (peeks rs) ρ1 kx fun ds ρ2 => (dRng2 ds).bind fun ds => k ds ρ2 := by
 unfold iRng2; simp only [cps_bind, cps_ofO]
theorem cps_zip (k : List D → List S → Option γ) : cps (iZip la) ρ kx k = cps la ρ kx fun rs ρ1 => cps (toVs rs) ρ1 kx fun ds ρ2 => (dZip ds).bind fun ds => k ds ρ2 := by
 unfold iZip; simp only [cps_bind, cps_ofO]
theorem cps_enu (k : List D → List S → Option γ) : cps (iEnu la) ρ kx k = cps la ρ kx fun rs ρ1 => cps (toVs rs) ρ1 kx fun ds ρ2 => (dEnum ds).bind fun ds => k ds ρ2 := by
 unfold iEnu; simp only [cps_bind, cps_ofO]
def rngI (lo : Int) (n : Nat) : List Int := (List.range n).map fun (k : Nat) => lo + (k : Int)
theorem rangeD_eq (lo : Int) (n : Nat) : rangeD lo n = (rngI lo n).map D.int := by unfold rangeD rngI; rw [List.map_map]; rfl
def rngT (j : Int) : Option (List Int) := if rngOk 0 j = true then some (rngI 0 j.toNat) else none
def rngT2 (i j : Int) : Option (List Int) := if rngOk i j = true then some (rngI i (j - i).toNat) else none
theorem dRng1_eq (j : Int) : dRng1 [.int j] = (rngT j).bind fun xs => some (xs.map D.int) := by
 show (if rngOk 0 j = true then some (rangeD 0 j.toNat) else none) = _
 unfold rngT; rw [rangeD_eq]; split <;> rfl
theorem dRng2_eq (i j : Int) : dRng2 [.int i, .int j] = (rngT2 i j).bind fun xs => some (xs.map D.int) := by
 show (if rngOk i j = true then some (rangeD i (j - i).toNat) else none) = _
 unfold rngT2; rw [rangeD_eq]; split <;> rfl
def zipT {α β : Type} (as : List α) (bs : List β) : Option (List (α × β)) := if (List.zip as bs).length ≤ 16777216 then some (List.zip as bs) else none
theorem zipD_map {α β : Type} (e : α → D) (e' : β → D) : ∀ (as : List α) (bs : List β), zipD (as.map e) (bs.map e') = (List.zip as bs).map fun p => D.tup [e p.1, e' p.2]
 | [], bs => by cases bs <;> rfl
 | a :: as, [] => rfl
 | a :: as, b :: bs => by
  have := zipD_map e e' as bs
  unfold zipD at this ⊢
  rw [List.map_cons, List.map_cons, List.zipWith_cons_cons, this]; rfl
theorem dZip_l {α β : Type} (e : α → D) (e' : β → D) (as : List α) (bs : List β) : dZip [.lst (as.map e), .lst (bs.map e')] = (zipT as bs).bind fun ps => some (ps.map fun p => D.tup [e p.1, e' p.2]) := by
 show (if (zipD (as.map e) (bs.map e')).length ≤ 16777216 then some (zipD (as.map e) (bs.map e')) else none) = _
 unfold zipT; rw [zipD_map, List.length_map]
 split <;> rfl
theorem dZip_t {α β : Type} (e : α → D) (e' : β → D) (as : List α) (bs : List β) : dZip [.tup (as.map e), .tup (bs.map e')] = (zipT as bs).bind fun ps => some (ps.map fun p => D.tup [e p.1, e' p.2]) := by
 show (if (zipD (as.map e) (bs.map e')).length ≤ 16777216 then some (zipD (as.map e) (bs.map e')) else none) = _
 unfold zipT; rw [zipD_map, List.length_map]
 split <;> rfl
def numT {α : Type} (xs : List α) : List (Int × α) := xs.zipIdx.map fun p => ((p.2 : Nat), p.1)
def enuT {α : Type} (xs : List α) : Option (List (Int × α)) := if xs.length ≤ 16777216 then some (numT xs) else none
theorem numD_map {α : Type} (e : α → D) (xs : List α) : numD (xs.map e) = (numT xs).map fun p => D.tup [.int p.1, e p.2] := by
 unfold numD numT
 rw [List.zipIdx_map, List.map_map, List.map_map]; rfl
theorem dEnum_l {α : Type} (e : α → D) (as : List α) : dEnum [.lst (as.map e)] = (enuT as).bind fun ps => some (ps.map fun p => D.tup [.int p.1, e p.2]) := by
 show (if (as.map e).length ≤ 16777216 then some (numD (as.map e)) else none) = _
 unfold enuT; rw [numD_map, List.length_map]
 split <;> rfl
theorem dEnum_t {α : Type} (e : α → D) (as : List α) : dEnum [.tup (as.map e)] = (enuT as).bind fun ps => some (ps.map fun p => D.tup [.int p.1, e p.2]) := by
 show (if (as.map e).length ≤ 16777216 then some (numD (as.map e)) else none) = _
 unfold enuT; rw [numD_map, List.length_map]
 split <;> rfl
end
end Tl
namespace Tl
open PySem Dl
open L2 (ixN atI)
def sq (o : Option Os) (g : MS) : Option Os := o.bind fun x => match x with
 | .nx ρ => g ρ
 | x => some x
section
variable {ρ : List S} {f g : MS} {fa fb fo : M Rv} {ga : M Bool}
theorem sSeq_eq : sSeq f g ρ = sq (f ρ) g := by
 unfold sSeq sq
 cases f ρ with
 | none => rfl
 | some o => cases o <;> rfl
theorem sq_none : sq none g = none := rfl
theorem sq_nx : sq (some (.nx ρ)) g = g ρ := rfl
theorem sq_rt (r : Rv) : sq (some (.rt r ρ)) g = some (.rt r ρ) := rfl
theorem sq_ct : sq (some (.ct ρ)) g = some (.ct ρ) := rfl
theorem sq_bk : sq (some (.bk ρ)) g = some (.bk ρ) := rfl
theorem sq_ex (e : Xn) : sq (some (.ex e ρ)) g = some (.ex e ρ) := rfl
theorem sq_bind {α : Type} (o : Option α) (h : α → Option Os) : sq (o.bind h) g = o.bind fun a => sq (h a) g := by cases o <;> rfl
theorem sq_ite (c : Prop) [Decidable c] (a b : Option Os) : sq (if c then a else b) g = if c then sq a g else sq b g := by split <;> rfl
theorem thenS_eq {α : Type} (f : M α) (k : α → MS) : thenS f k ρ = cps f ρ (fun e ρ => some (.ex e ρ)) k := by
 unfold thenS cps
 cases f ρ with
 | none => rfl
 | some o => cases o <;> rfl
theorem sNil_eq : sNil ρ = some (.nx ρ) := rfl
theorem sPass_eq : sPass ρ = some (.nx ρ) := rfl
theorem sBreak_eq : sBreak ρ = some (.bk ρ) := rfl
theorem sCont_eq : sCont ρ = some (.ct ρ) := rfl
theorem sNever_eq : sNever ρ = none := rfl
theorem sRetN_eq : sRetN ρ = some (.rt (.val .non) ρ) := rfl
theorem sExpr_eq : sExpr fa ρ = cps fa ρ (fun e ρ => some (.ex e ρ)) fun _ ρ => some (.nx ρ) := by unfold sExpr; rw [thenS_eq]; rfl
def retK (i : Nat) (ρ : List S) : Option S → Option Os
 | some (.val d) => some (.rt (.val d) ρ)
 | some (.own d) => some (.rt (.own d) (ρ.set i .no))
 | _ => none
theorem retV_v (d : D) : retV (.val d) ρ = some (.rt (.val d) ρ) := rfl
theorem retV_o (d : D) : retV (.own d) ρ = some (.rt (.own d) ρ) := rfl
theorem retV_a (i : Nat) : retV (.ali i) ρ = retK i ρ ρ[i]? := by
 unfold retV retK
 dsimp only
 all_goals cases ρ[i]? with
 | none => rfl
 | some s => cases s <;> rfl
theorem retK_v (i : Nat) (d : D) : retK i ρ (some (.val d)) = some (.rt (.val d) ρ) := rfl
theorem retK_o (i : Nat) (d : D) : retK i ρ (some (.own d)) = some (.rt (.own d) (ρ.set i .no)) := rfl
theorem sRet_eq : sRet fa ρ = cps fa ρ (fun e ρ => some (.ex e ρ)) retV := by unfold sRet; rw [thenS_eq]
def setK (i j : Nat) (ρ : List S) : Option S → Option Os
 | some (.val d) => some (.nx (ρ.set i (.val d)))
 | some (.own d) => some (.nx ((ρ.set j (.val d)).set i (.val d)))
 | _ => none
theorem setV_v (np i : Nat) (d : D) : setV np i (.val d) ρ = some (.nx (ρ.set i (.val d))) := rfl
theorem setV_o (np i : Nat) (d : D) : setV np i (.own d) ρ = if i < np then some (.nx (ρ.set i (.val d))) else some (.nx (ρ.set i (.own d))) := rfl
theorem setV_a (np i j : Nat) : setV np i (.ali j) ρ = setK i j ρ ρ[j]? := by
 unfold setV setK
 dsimp only
 all_goals cases ρ[j]? with
 | none => rfl
 | some s => cases s <;> rfl
theorem setK_v (i j : Nat) (d : D) : setK i j ρ (some (.val d)) = some (.nx (ρ.set i (.val d))) := rfl
theorem setK_o (i j : Nat) (d : D) : setK i j ρ (some (.own d)) = some (.nx ((ρ.set j (.val d)).set i (.val d))) := rfl
theorem sSet_eq (np i : Nat) : sSet np i fa ρ = cps fa ρ (fun e ρ => some (.ex e ρ)) (setV np i) := by unfold sSet; rw [thenS_eq]
theorem sIf_eq : sIf ga f g ρ = cps ga ρ (fun e ρ => some (.ex e ρ)) fun b ρ => if b = true then f ρ else g ρ := by
 unfold sIf; rw [thenS_eq]
 congr 1; funext b ρ; split <;> rfl
theorem sFor_eq (it : M (List D)) (tg : D → List S → Option (List S)) (body : MS) : sFor it tg body ρ = cps it ρ (fun e ρ => some (.ex e ρ)) fun ds ρ => forL tg body ds ρ := by unfold sFor; rw [thenS_eq]
theorem asg_eq (tg : D → List S → Option (List S)) (r : Rv) : asgV tg r ρ = cps (toV r) ρ (fun e ρ => some (.ex e ρ)) fun d ρ => (tg d ρ).bind fun ρ => some (.nx ρ) := by
 unfold asgV; rw [thenS_eq]
 congr 1; funext d ρ; cases tg d ρ <;> rfl
theorem sAsg_eq (tg : D → List S → Option (List S)) : sAsg tg fa ρ = cps fa ρ (fun e ρ => some (.ex e ρ)) fun r ρ => asgV tg r ρ := by unfold sAsg; rw [thenS_eq]
theorem sSetIx_eq : sSetIx fa fo fb ρ = cps fa ρ (fun e ρ => some (.ex e ρ)) fun x ρ => cps (toV x) ρ (fun e ρ => some (.ex e ρ)) fun d ρ => cps fo ρ (fun e ρ => some (.ex e ρ)) fun r ρ => cps fb ρ (fun e ρ => some (.ex e ρ)) fun j ρ => cps (peek (Dl.settle j)) ρ (fun e ρ => some (.ex e ρ)) fun e ρ =>
  (ownLst (Dl.settle r) ρ).bind fun p => (ofI e).bind fun k => (ixN p.2.length k).bind fun n => some (.nx (ρ.set p.1 (.own (.lst (p.2.set n d))))) := by
 unfold sSetIx
 rw [thenS_eq]; congr 1; funext x ρ
 rw [thenS_eq]; congr 1; funext d ρ
 rw [thenS_eq]; congr 1; funext r ρ
 rw [thenS_eq]; congr 1; funext j ρ
 rw [thenS_eq]; congr 1; funext e ρ
 cases ownLst (Dl.settle r) ρ with
 | none => rfl
 | some p =>
  cases e <;> first | rfl | (rename_i i; show (ixN p.2.length i).map _ = (ixN p.2.length i).bind _; cases ixN p.2.length i <;> rfl)
def ownObK (i : Nat) : Option S → Option (Nat × Str × List Str × List D)
 | some (.own (.obj n ns ds)) => some (i, n, ns, ds)
 | _ => none
theorem ownObj_a (i : Nat) (ρ : List S) : ownObj (.ali i) ρ = ownObK i ρ[i]? := by
 unfold ownObj ownObK
 dsimp only
 all_goals cases ρ[i]? with
 | none => rfl
 | some s => cases s with
  | own d => cases d <;> rfl
  | _ => rfl
theorem ownObK_o (i : Nat) (n : Str) (ns : List Str) (ds : List D) : ownObK i (some (.own (.obj n ns ds))) = some (i, n, ns, ds) := rfl
theorem sSetF_eq (cs : Flds) (f : Str) : sSetF cs f fo fa ρ = cps fa ρ (fun e ρ => some (.ex e ρ)) fun x ρ => cps (toV x) ρ (fun e ρ => some (.ex e ρ)) fun d ρ => cps fo ρ (fun e ρ => some (.ex e ρ)) fun r ρ =>
  (ownObj (Dl.settle r) ρ).bind fun p => if p.2.1 ∈ cs ∧ p.2.2.1.length < 1000 then some (.nx (ρ.set p.1 (.own (.obj p.2.1 (putF2 f d p.2.2.1 p.2.2.2).1 (putF2 f d p.2.2.1 p.2.2.2).2)))) else none := by
 unfold sSetF
 rw [thenS_eq]; congr 1; funext x ρ
 rw [thenS_eq]; congr 1; funext d ρ
 rw [thenS_eq]; congr 1; funext r ρ
 cases ownObj (Dl.settle r) ρ <;> rfl
theorem putF2_n (f : Str) (d : D) : putF2 f d [] [] = ([f], [d]) := rfl
theorem putF2_c (f : Str) (d : D) (n : Str) (ns : List Str) (e : D) (ds : List D) : putF2 f d (n :: ns) (e :: ds) = if n = f then (n :: ns, d :: ds) else (n :: (putF2 f d ns ds).1, e :: (putF2 f d ns ds).2) := rfl
theorem lkF_c (f : Str) (n : Str) (ns : List Str) (e : D) (ds : List D) : lkF f (n :: ns) (e :: ds) = if n = f then some e else lkF f ns ds := rfl
theorem fldO_eq (cs : List Str) (f n : Str) (ns : List Str) (ds : List D) : fldO cs f (.obj n ns ds) = if n ∈ cs then lkF f ns ds else none := rfl
theorem nrm_n : nrm [] ρ = ρ := rfl
theorem nrm_k (i : Nat) (l : List (Nat × Bool)) : nrm ((i, true) :: l) ρ = nrm l (ρ.set i .no) := rfl
theorem nrm_f (i : Nat) (l : List (Nat × Bool)) : nrm ((i, false) :: l) ρ = nrm l (frz1 i ρ[i]? ρ) := rfl
theorem frz1_o (i : Nat) (d : D) : frz1 i (some (.own d)) ρ = ρ.set i (.val d) := rfl
theorem frz1_v (i : Nat) (d : D) : frz1 i (some (.val d)) ρ = ρ := rfl
theorem frz1_n (i : Nat) : frz1 i (some .no) ρ = ρ := rfl
theorem kil_n : kil [] ρ = ρ := rfl
theorem kil_c (i : Nat) (l : List Nat) : kil (i :: l) ρ = kil l (ρ.set i .no) := rfl
theorem sFore_eq (l : List (Nat × Bool)) : sFore l f ρ = f (nrm l ρ) := rfl
def aq (l : List (Nat × Bool)) (o : Option Os) : Option Os := o.bind fun x => some (aftO l x)
theorem sAft_eq (l : List (Nat × Bool)) : sAft l f ρ = aq l (f ρ) := by
 show (f ρ).map _ = (f ρ).bind _
 cases f ρ <;> rfl
theorem sFz_eq (i : Nat) : sFz i f ρ = aq [(i, false)] (f ρ) := sAft_eq _
theorem aq_bind {α : Type} (l : List (Nat × Bool)) (o : Option α) (h : α → Option Os) : aq l (o.bind h) = o.bind fun a => aq l (h a) := by cases o <;> rfl
theorem aq_ite (l : List (Nat × Bool)) (c : Prop) [Decidable c] (a b : Option Os) : aq l (if c then a else b) = if c then aq l a else aq l b := by split <;> rfl
theorem aq_none (l : List (Nat × Bool)) : aq l none = none := rfl
theorem aq_nx (l : List (Nat × Bool)) : aq l (some (.nx ρ)) = some (.nx (nrm l ρ)) := rfl
theorem aq_ct (l : List (Nat × Bool)) : aq l (some (.ct ρ)) = some (.ct (nrm l ρ)) := rfl
theorem aq_bk (l : List (Nat × Bool)) : aq l (some (.bk ρ)) = some (.bk (nrm l ρ)) := rfl
theorem aq_rt (l : List (Nat × Bool)) (r : Rv) : aq l (some (.rt r ρ)) = some (.rt r ρ) := rfl
theorem aq_ex (l : List (Nat × Bool)) (e : Xn) : aq l (some (.ex e ρ)) = some (.ex e ρ) := rfl
def rq (l : List Nat) (o : Option Os) : Option Os := o.bind fun o => if noAli1 o = true then some (retO l o) else none
theorem sRtA_eq (l : List Nat) : sRtA l f ρ = rq l (f ρ) := rfl
theorem rq_bind {α : Type} (l : List Nat) (o : Option α) (h : α → Option Os) : rq l (o.bind h) = o.bind fun a => rq l (h a) := by cases o <;> rfl
theorem rq_ite (l : List Nat) (c : Prop) [Decidable c] (a b : Option Os) : rq l (if c then a else b) = if c then rq l a else rq l b := by split <;> rfl
theorem rq_none (l : List Nat) : rq l none = none := rfl
theorem rq_rtv (l : List Nat) (d : D) : rq l (some (.rt (.val d) ρ)) = some (.rt (.val d) (kil l ρ)) := rfl
theorem rq_rto (l : List Nat) (d : D) : rq l (some (.rt (.own d) ρ)) = some (.rt (.own d) (kil l ρ)) := rfl
theorem rq_ex (l : List Nat) (e : Xn) : rq l (some (.ex e ρ)) = some (.ex e (kil l ρ)) := rfl
theorem gN_eq (i : Nat) (d : D) : gN i d ρ = some (ρ.set i (.val d)) := rfl
theorem gT_eq (n : Nat) (gs : List D → List S → Option (List S)) (ds : List D) : gT n gs (.tup ds) ρ = if ds.length = n then gs ds ρ else none := rfl
theorem gsN_eq : gsNil [] ρ = some ρ := rfl
theorem gsC_eq (h : D → List S → Option (List S)) (gs : List D → List S → Option (List S)) (d : D) (ds : List D) : gsCons h gs (d :: ds) ρ = (h d ρ).bind fun ρ => gs ds ρ := rfl
def rtn (ss : List S) (o : Option Os) : Option Of := o.bind fun x => match x with
 | .nx ρ' => some (.ret (.val .non) (post ss ρ'))
 | .rt (.ali _) _ => none
 | .rt r ρ' => some (.ret r (post ss ρ'))
 | .ex e ρ' => some (.ex e (post ss ρ'))
 | _ => none
theorem mkFn_eq (np n : Nat) (f : MS) (ss : List S) : mkFn np n f ss = if ss.length = np then rtn ss (f (ss ++ List.replicate (n - np) .no)) else none := by
 unfold mkFn rtn
 split
 · cases f (ss ++ List.replicate (n - np) S.no) with
   | none => rfl
   | some o => cases o with
    | rt r ρ => cases r <;> rfl
    | _ => rfl
 · rfl
theorem rtn_bind {α : Type} (ss : List S) (o : Option α) (h : α → Option Os) : rtn ss (o.bind h) = o.bind fun a => rtn ss (h a) := by cases o <;> rfl
theorem rtn_ite (ss : List S) (c : Prop) [Decidable c] (a b : Option Os) : rtn ss (if c then a else b) = if c then rtn ss a else rtn ss b := by split <;> rfl
theorem rtn_none (ss : List S) : rtn ss none = none := rfl
theorem rtn_nx (ss : List S) : rtn ss (some (.nx ρ)) = some (.ret (.val .non) (post ss ρ)) := rfl
theorem rtn_rtv (ss : List S) (d : D) : rtn ss (some (.rt (.val d) ρ)) = some (.ret (.val d) (post ss ρ)) := rfl
theorem rtn_rto (ss : List S) (d : D) : rtn ss (some (.rt (.own d) ρ)) = some (.ret (.own d) (post ss ρ)) := rfl
theorem rtn_ex (ss : List S) (e : Xn) : rtn ss (some (.ex e ρ)) = some (.ex e (post ss ρ)) := rfl
theorem post_n : post [] ρ = [] := by cases ρ <;> rfl
theorem post_v (d : D) (ss : List S) (s : S) : post (.val d :: ss) (s :: ρ) = .val d :: post ss ρ := by cases s <;> rfl
theorem post_o (d e : D) (ss : List S) : post (.own d :: ss) (.own e :: ρ) = .own e :: post ss ρ := rfl
end
inductive Cf (E R : Type) where
 | nx (e : E) | ct (e : E) | bk (e : E) | rt (r : R)
def Cf.k {E R α : Type} (o : Cf E R) (f : E → α) (g : R → α) : α := match o with
 | .nx e => f e
 | .ct e => f e
 | .bk e => f e
 | .rt r => g r
def forT {α E R : Type} (body : α → E → Option (Cf E R)) : List α → E → Option (Cf E R)
 | [], e => some (.nx e)
 | x :: xs, e => (body x e).bind fun o => match o with
  | .nx e' => forT body xs e'
  | .ct e' => forT body xs e'
  | .bk e' => some (.nx e')
  | .rt r => some (.rt r)
def foldT {α E : Type} (body : α → E → Option E) : List α → E → Option E
 | [], e => some e
 | x :: xs, e => (body x e).bind fun e' => foldT body xs e'
def cfO {E R : Type} (st : E → List S) (rv : R → Rv) (rs : R → List S) : Cf E R → Os
 | .nx e => .nx (st e)
 | .ct e => .ct (st e)
 | .bk e => .bk (st e)
 | .rt r => .rt (rv r) (rs r)
def lpO {E R : Type} (st : E → List S) (rv : R → Rv) (rs : R → List S) (o : Cf E R) : Os := o.k (fun e => .nx (st e)) (fun r => .rt (rv r) (rs r))
section
variable {α E R : Type} {e : α → D} {st : E → List S} {rv : R → Rv} {rs : R → List S} {tg : D → List S → Option (List S)} {body : MS}
theorem forL_cf {tb : α → E → Option (Cf E R)} : ∀ (xs : List α) (env : E), (∀ x ∈ xs, ∀ env, (tg (e x) (st env)).bind body = (tb x env).bind fun o => some (cfO st rv rs o)) →
  forL tg body (xs.map e) (st env) = (forT tb xs env).bind fun o => some (lpO st rv rs o)
 | [], env, _ => rfl
 | x :: xs, env, h => by
  have h1 := h x List.mem_cons_self env
  have ih := fun env => forL_cf (tb := tb) xs env fun y hy => h y (List.mem_cons_of_mem _ hy)
  rw [List.map_cons]
  unfold forL forT
  cases q : tg (e x) (st env) with
  | none =>
   rw [q] at h1
   cases q2 : tb x env with
   | none => rfl
   | some o => rw [q2] at h1; cases h1
  | some ρ1 =>
   rw [q] at h1
   dsimp only [Option.bind] at h1 ⊢
   rw [h1]
   cases q2 : tb x env with
   | none => rfl
   | some o => cases o with
    | nx e' => exact ih e'
    | ct e' => exact ih e'
    | bk e' => rfl
    | rt r => rfl
theorem forL_fold {tb : α → E → Option E} : ∀ (xs : List α) (env : E), (∀ x ∈ xs, ∀ env, (tg (e x) (st env)).bind body = (tb x env).bind fun o => some (.nx (st o))) →
  forL tg body (xs.map e) (st env) = (foldT tb xs env).bind fun o => some (.nx (st o))
 | [], env, _ => rfl
 | x :: xs, env, h => by
  have h1 := h x List.mem_cons_self env
  have ih := fun env => forL_fold (tb := tb) xs env fun y hy => h y (List.mem_cons_of_mem _ hy)
  rw [List.map_cons]
  unfold forL foldT
  cases q : tg (e x) (st env) with
  | none =>
   rw [q] at h1
   cases q2 : tb x env with
   | none => rfl
   | some o => rw [q2] at h1; cases h1
  | some ρ1 =>
   rw [q] at h1
   dsimp only [Option.bind] at h1 ⊢
   rw [h1]
   cases q2 : tb x env with
   | none => rfl
   | some o => exact ih o
theorem sq_lpO (o : Cf E R) (g : MS) : sq (some (lpO st rv rs o)) g = o.k (fun e => g (st e)) (fun r => some (.rt (rv r) (rs r))) := by cases o <;> rfl
theorem aq_lpO (o : Cf E R) (l : List (Nat × Bool)) : aq l (some (lpO st rv rs o)) = o.k (fun e => some (.nx (nrm l (st e)))) (fun r => some (.rt (rv r) (rs r))) := by cases o <;> rfl
theorem sq_k (o : Cf E R) (f : E → Option Os) (h : R → Option Os) (g : MS) : sq (o.k f h) g = o.k (fun e => sq (f e) g) (fun r => sq (h r) g) := by cases o <;> rfl
theorem aq_k (o : Cf E R) (f : E → Option Os) (h : R → Option Os) (l : List (Nat × Bool)) : aq l (o.k f h) = o.k (fun e => aq l (f e)) (fun r => aq l (h r)) := by cases o <;> rfl
theorem rq_k (o : Cf E R) (f : E → Option Os) (h : R → Option Os) (l : List Nat) : rq l (o.k f h) = o.k (fun e => rq l (f e)) (fun r => rq l (h r)) := by cases o <;> rfl
theorem rtn_k (o : Cf E R) (f : E → Option Os) (h : R → Option Os) (ss : List S) : rtn ss (o.k f h) = o.k (fun e => rtn ss (f e)) (fun r => rtn ss (h r)) := by cases o <;> rfl
theorem ob_k {β γ : Type} (o : Cf E R) (f : E → Option β) (h : R → Option β) (g : β → Option γ) : (o.k f h).bind g = o.k (fun e => (f e).bind g) (fun r => (h r).bind g) := by cases o <;> rfl
theorem cfO_nx (x : E) : cfO st rv rs (.nx x) = .nx (st x) := rfl
theorem cfO_ct (x : E) : cfO st rv rs (.ct x) = .ct (st x) := rfl
theorem cfO_bk (x : E) : cfO st rv rs (.bk x) = .bk (st x) := rfl
theorem cfO_rt (x : R) : cfO st rv rs (.rt x) = .rt (rv x) (rs x) := rfl
end
def whF {E R : Type} (test : E → Option Bool) (body : E → Option (Cf E R)) : Nat → E → Option (Cf E R)
 | 0, _ => none
 | n + 1, e => (test e).bind fun b => if b = true then (body e).bind fun o => match o with
  | .nx e' => whF test body n e'
  | .ct e' => whF test body n e'
  | .bk e' => some (.nx e')
  | .rt r => some (.rt r) else some (.nx e)
section
variable {E R : Type} {test : E → Option Bool} {body : E → Option (Cf E R)}
open Classical in
noncomputable def whT (test : E → Option Bool) (body : E → Option (Cf E R)) (e : E) : Option (Cf E R) := if h : ∃ n o, whF test body n e = some o then some (Classical.choose (Classical.choose_spec h)) else none
end
def lcS (tg : D → List S → Option (List S)) (tt : M Bool) (te : M Rv) (vs : List Nat) (d : D) (ρ : List S) : Option (Option D × List S) :=
 (tg d (wipeS ρ vs)).bind fun ρ1 => cps tt ρ1 (fun _ _ => none) fun b ρ2 => if b = true then cps te ρ2 (fun _ _ => none) fun r ρ3 => cps (toV r) ρ3 (fun _ _ => none) fun e ρ4 => some (some e, backS ρ ρ4 vs) else some (none, backS ρ ρ2 vs)
theorem lcS_eq (tg : D → List S → Option (List S)) (tt : M Bool) (te : M Rv) (vs : List Nat) (d : D) (ds acc : List D) (ρ : List S) :
  lcL tg tt te vs (d :: ds) acc ρ = (lcS tg tt te vs d ρ).bind fun p => lcL tg tt te vs ds (match p.1 with | some e => acc ++ [e] | none => acc) p.2 := by
 have e1 : lcL tg tt te vs (d :: ds) acc ρ = (match tg d (wipeS ρ vs) with
  | none => none
  | some ρ1 => match tt ρ1 with
   | some (.ok false ρ2) => lcL tg tt te vs ds acc (backS ρ ρ2 vs)
   | some (.ok true ρ2) => match (te >>= toV) ρ2 with
    | some (.ok e ρ3) => lcL tg tt te vs ds (acc ++ [e]) (backS ρ ρ3 vs)
    | _ => none
   | _ => none) := rfl
 rw [e1]
 unfold lcS
 cases tg d (wipeS ρ vs) with
 | none => rfl
 | some ρ1 =>
  dsimp only [Option.bind]
  unfold cps
  cases tt ρ1 with
  | none => rfl
  | some o =>
   cases o with
   | ex e ρ' => rfl
   | ok b ρ2 =>
    cases b with
    | false => rfl
    | true =>
     dsimp only
     rw [if_pos rfl, bind_eq]
     cases te ρ2 with
     | none => rfl
     | some o =>
      cases o with
      | ex e ρ' => rfl
      | ok r ρ3 =>
       dsimp only
       cases toV r ρ3 with
       | none => rfl
       | some o => cases o <;> rfl
def mapT {α β : Type} (f : α → Option β) : List α → Option (List β)
 | [] => some []
 | x :: xs => (f x).bind fun y => (mapT f xs).bind fun ys => some (y :: ys)
def mapE {α β E : Type} (f : α → E → Option (β × E)) : List α → E → Option (List β × E)
 | [], e => some ([], e)
 | x :: xs, e => (f x e).bind fun y => (mapE f xs y.2).bind fun ys => some (y.1 :: ys.1, ys.2)
section
variable {α β E γ : Type} {e : α → D} {e' : β → D} {st : E → List S} {tg : D → List S → Option (List S)} {tt : M Bool} {te : M Rv} {vs : List Nat} {ρ : List S} {it : M (List D)} {kx : Xn → List S → Option γ} {k : Rv → List S → Option γ}
theorem lcL_T {f : α → Option β} : ∀ (xs : List α) (acc : List D), (∀ x, lcS tg tt te vs (e x) ρ = (f x).bind fun y => some (some (e' y), ρ)) → lcL tg tt te vs (xs.map e) acc ρ = (mapT f xs).bind fun ys => some (.ok (acc ++ ys.map e') ρ)
 | [], acc, _ => by rw [List.map_nil]; show some _ = some _; rw [List.map_nil, List.append_nil]
 | x :: xs, acc, h => by
  rw [List.map_cons, lcS_eq, h x]
  unfold mapT
  cases f x with
  | none => rfl
  | some y =>
   dsimp only [Option.bind]
   rw [lcL_T xs _ h]
   cases mapT f xs with
   | none => rfl
   | some ys => dsimp only [Option.bind]; rw [List.map_cons, List.append_assoc]; rfl
theorem lcL_P {f : α → β} (xs : List α) (acc : List D) (h : ∀ x, lcS tg tt te vs (e x) ρ = some (some (e' (f x)), ρ)) : lcL tg tt te vs (xs.map e) acc ρ = some (.ok (acc ++ (xs.map f).map e') ρ) := by
 induction xs generalizing acc with
 | nil => rw [List.map_nil, List.map_nil, List.map_nil, List.append_nil]; rfl
 | cons x xs ih =>
  rw [List.map_cons, lcS_eq, h x]
  dsimp only [Option.bind]
  rw [ih, List.map_cons, List.map_cons, List.append_assoc]; rfl
theorem lcL_E {f : α → E → Option (β × E)} : ∀ (xs : List α) (acc : List D) (env : E), (∀ x env, lcS tg tt te vs (e x) (st env) = (f x env).bind fun y => some (some (e' y.1), st y.2)) → lcL tg tt te vs (xs.map e) acc (st env) = (mapE f xs env).bind fun ys => some (.ok (acc ++ ys.1.map e') (st ys.2))
 | [], acc, env, _ => by rw [List.map_nil]; show some _ = some _; rw [List.map_nil, List.append_nil]
 | x :: xs, acc, env, h => by
  rw [List.map_cons, lcS_eq, h x]
  unfold mapE
  cases f x env with
  | none => rfl
  | some y =>
   dsimp only [Option.bind]
   rw [lcL_E xs _ _ h]
   cases mapE f xs y.2 with
   | none => rfl
   | some ys => dsimp only [Option.bind]; rw [List.map_cons, List.append_assoc]; rfl
theorem cps_no {α : Type} {f : M α} {k : α → List S → Option γ} : cps (fun ρ => if noOwn ρ vs = true then f ρ else none) ρ kx k = if noOwn ρ vs = true then cps f ρ kx k else none := by
 have e : (fun ρ => if noOwn ρ vs = true then f ρ else none : M α) ρ = if noOwn ρ vs = true then f ρ else none := rfl
 unfold cps
 rw [e]
 by_cases h : noOwn ρ vs = true
 · rw [if_pos h, if_pos h]
 · rw [if_neg h, if_neg h]
theorem cps_lc : cps (eLc it tg tt te vs) ρ kx k = cps it ρ kx fun ds ρ1 => if noOwn ρ1 vs = true then cps (lcL tg tt te vs ds []) ρ1 kx fun acc ρ2 => k (.own (.lst acc)) ρ2 else none := by
 unfold eLc; refine (cps_bind _ _ k).trans ?_
 congr 1; funext ds ρ1
 refine (cps_bind _ _ k).trans ?_
 exact cps_no (f := lcL tg tt te vs ds [])
theorem noOwn_n : noOwn ρ [] = true := rfl
theorem noOwn_c (v : Nat) : noOwn ρ (v :: vs) = (!isOwn ρ[v]? && noOwn ρ vs) := rfl
theorem isOwn_o (d : D) : isOwn (some (.own d)) = true := rfl
theorem isOwn_v (d : D) : isOwn (some (.val d)) = false := rfl
theorem isOwn_n : isOwn (some .no) = false := rfl
theorem wipe_n : wipeS ρ [] = ρ := rfl
theorem wipe_c (v : Nat) : wipeS ρ (v :: vs) = (wipeS ρ vs).set v .no := rfl
theorem back_n' (ρ0 : List S) : backS ρ0 ρ [] = ρ := rfl
theorem back_c' (ρ0 : List S) (v : Nat) : backS ρ0 ρ (v :: vs) = (backS ρ0 ρ vs).set v (ρ0.getD v .no) := rfl
theorem cps_lcT {f : α → Option β} (xs : List α) (h : ∀ x, lcS tg tt te vs (e x) ρ = (f x).bind fun y => some (some (e' y), ρ)) (h' : List D → List S → Option γ) : cps (lcL tg tt te vs (xs.map e) []) ρ kx h' = (mapT f xs).bind fun ys => h' (ys.map e') ρ := by
 unfold cps; rw [lcL_T xs [] h]; cases mapT f xs <;> rfl
theorem cps_lcP {f : α → β} (xs : List α) (h : ∀ x, lcS tg tt te vs (e x) ρ = some (some (e' (f x)), ρ)) (h' : List D → List S → Option γ) : cps (lcL tg tt te vs (xs.map e) []) ρ kx h' = h' ((xs.map f).map e') ρ := by
 unfold cps; rw [lcL_P xs [] h]; rfl
theorem cps_lcE {f : α → E → Option (β × E)} (xs : List α) (env : E) (h : ∀ x env, lcS tg tt te vs (e x) (st env) = (f x env).bind fun y => some (some (e' y.1), st y.2)) (h' : List D → List S → Option γ) : cps (lcL tg tt te vs (xs.map e) []) (st env) kx h' = (mapE f xs env).bind fun ys => h' (ys.1.map e') (st ys.2) := by
 unfold cps; rw [lcL_E xs [] env h]; cases mapE f xs env <;> rfl
end
end Tl
namespace Tl
open PySem Dl
open L2 (ixN atI)
theorem add_ii (i j : Int) : dAdd (.int i) (.int j) = some (.val (.int (i + j))) := rfl
theorem add_tt (xs ys : List D) : dAdd (.tup xs) (.tup ys) = (gz (xs.length + ys.length)).bind fun _ => some (.val (.tup (xs ++ ys))) := by
 show ((none : Option Rv).or ((if xs.length + ys.length ≤ sizeLine then some (Rv.val (.tup (xs ++ ys))) else none).or (none.or none))) = _
 unfold gz; split <;> rfl
theorem add_ll (xs ys : List D) : dAdd (.lst xs) (.lst ys) = (gz (xs.length + ys.length)).bind fun _ => some (.own (.lst (xs ++ ys))) := by
 show ((none : Option Rv).or ((none : Option Rv).or ((if xs.length + ys.length ≤ sizeLine then some (Rv.own (.lst (xs ++ ys))) else none).or none))) = _
 unfold gz; split <;> rfl
theorem sub_ii (i j : Int) : dSub (.int i) (.int j) = some (.val (.int (i - j))) := rfl
theorem mul_ii (i j : Int) : dMul (.int i) (.int j) = (gb (mulOk i j)).bind fun _ => some (.val (.int (i * j))) := by
 show (if mulOk i j = true then some (Rv.val (.int (i * j))) else none) = _
 unfold gb; split <;> rfl
theorem div_ii (i j : Int) : dDiv (.int i) (.int j) = (gb (divOk i j)).bind fun _ => some (.val (.int (i / j))) := by
 show (if divOk i j = true then some (Rv.val (.int (i / j))) else none) = _
 unfold gb; split <;> rfl
theorem mod_ii (i j : Int) : dMod (.int i) (.int j) = (gb (modOk i j)).bind fun _ => some (.val (.int (i % j))) := by
 show (if modOk i j = true then some (Rv.val (.int (i % j))) else none) = _
 unfold gb; split <;> rfl
theorem pow_ii (i j : Int) : dPow (.int i) (.int j) = (gb (powOk i j)).bind fun _ => some (.val (.int (i ^ j.toNat))) := by
 show (if powOk i j = true then some (Rv.val (.int (i ^ j.toNat))) else none) = _
 unfold gb; split <;> rfl
theorem mulOk_r {i j : Int} (h : decide (-(2 ^ 64) < j ∧ j < 2 ^ 64) = true) : mulOk i j = true := by unfold mulOk; rw [h, Bool.or_true]
theorem mulOk_l {i j : Int} (h : decide (-(2 ^ 64) < i ∧ i < 2 ^ 64) = true) : mulOk i j = true := by unfold mulOk; rw [h, Bool.true_or]
theorem divOk_l {i j : Int} (h : decide (0 < j ∧ j < 2 ^ 64) = true) : divOk i j = true := h
theorem modOk_l {i j : Int} (h : decide (0 < j) = true) : modOk i j = true := h
theorem lt_ii (i j : Int) : dLt (.int i) (.int j) = some (.val (.bl (decide (i < j)))) := rfl
theorem le_ii (i j : Int) : dLe (.int i) (.int j) = some (.val (.bl (decide (i ≤ j)))) := rfl
theorem gt_ii (i j : Int) : dGt (.int i) (.int j) = some (.val (.bl (decide (j < i)))) := rfl
theorem ge_ii (i j : Int) : dGe (.int i) (.int j) = some (.val (.bl (decide (j ≤ i)))) := rfl
def eO {α : Type} (e : α → D) : Option α → D
 | none => .non
 | some a => e a
theorem eO_none {α : Type} (e : α → D) : eO e none = .non := rfl
theorem eO_some {α : Type} (e : α → D) (a : α) : eO e (some a) = e a := rfl
theorem lt_io (i : Int) (o : Option Int) : dLt (.int i) (eO D.int o) = o.bind fun j => some (.val (.bl (decide (i < j)))) := by cases o <;> rfl
theorem gt_io (i : Int) (o : Option Int) : dGt (.int i) (eO D.int o) = o.bind fun j => some (.val (.bl (decide (j < i)))) := by cases o <;> rfl
theorem lt_oi (i : Int) (o : Option Int) : dLt (eO D.int o) (.int i) = o.bind fun j => some (.val (.bl (decide (j < i)))) := by cases o <;> rfl
theorem gt_oi (i : Int) (o : Option Int) : dGt (eO D.int o) (.int i) = o.bind fun j => some (.val (.bl (decide (i < j)))) := by cases o <;> rfl
theorem is_oi (o : Option Int) : dIsN (eO D.int o) .non = some (.val (.bl o.isNone)) := by cases o <;> rfl
theorem isn_oi (o : Option Int) : dNotN (eO D.int o) .non = some (.val (.bl (!o.isNone))) := by cases o <;> rfl
theorem is_ot {α : Type} (f : α → List D) (o : Option α) : dIsN (eO (fun x => .tup (f x)) o) .non = some (.val (.bl o.isNone)) := by cases o <;> rfl
theorem isn_ot {α : Type} (f : α → List D) (o : Option α) : dNotN (eO (fun x => .tup (f x)) o) .non = some (.val (.bl (!o.isNone))) := by cases o <;> rfl
theorem sca_oi (o : Option Int) : scaD (eO D.int o) = true := by cases o <;> rfl
theorem sca_ob' (o : Option Bool) : scaD (eO D.bl o) = true := by cases o <;> rfl
theorem is_bb (a b : Bool) : dIsN (.bl a) (.bl b) = some (.val (.bl (decide (a = b)))) := rfl
theorem isn_bb (a b : Bool) : dNotN (.bl a) (.bl b) = some (.val (.bl (!decide (a = b)))) := rfl
theorem is_nn : dIsN .non .non = some (.val (.bl true)) := rfl
theorem is_in (i : Int) : dIsN (.int i) .non = some (.val (.bl false)) := rfl
theorem is_ln (i : List D) : dIsN (.lst i) .non = some (.val (.bl false)) := rfl
theorem is_tn (i : List D) : dIsN (.tup i) .non = some (.val (.bl false)) := rfl
theorem is_on (c : Str) (ns : List Str) (i : List D) : dIsN (.obj c ns i) .non = some (.val (.bl false)) := rfl
theorem isn_nn : dNotN .non .non = some (.val (.bl false)) := rfl
theorem isn_in (i : Int) : dNotN (.int i) .non = some (.val (.bl true)) := rfl
theorem isn_ln (i : List D) : dNotN (.lst i) .non = some (.val (.bl true)) := rfl
theorem isn_tn (i : List D) : dNotN (.tup i) .non = some (.val (.bl true)) := rfl
theorem isn_on (c : Str) (ns : List Str) (i : List D) : dNotN (.obj c ns i) .non = some (.val (.bl true)) := rfl
def eSq {α : Type} (e : α → D) (s : Bool × List α) : D := if s.1 = true then .tup (s.2.map e) else .lst (s.2.map e)
theorem it_sq {α : Type} (e : α → D) (s : Bool × List α) : items (eSq e s) = some (s.2.map e) := by
 unfold eSq; split <;> rfl
theorem eSq_t {α : Type} (e : α → D) (xs : List α) : eSq e (true, xs) = .tup (xs.map e) := rfl
theorem eSq_l {α : Type} (e : α → D) (xs : List α) : eSq e (false, xs) = .lst (xs.map e) := rfl
theorem len_sq {α : Type} (e : α → D) (s : Bool × List α) : gLen [eSq e s] = some (.val (.int s.2.length)) := by
 unfold eSq
 split <;> (show some (Rv.val (D.int ((s.2.map e).length : Nat))) = _; rw [List.length_map])
structure PD {α : Type} [DecidableEq α] (e : α → D) (p : α → PyData) (n : Nat) : Prop where
 to : ∀ a, toP (e a) = some (p a)
 lay : ∀ a, PyData.canLay0 (p a) = true
 dep : ∀ a, PyData.depth (p a) ≤ n
 eqv : ∀ a b, PyData.eqv (p a) (p b) = decide (a = b)
section
variable {α β : Type} [DecidableEq α] [DecidableEq β] {e : α → D} {p : α → PyData} {e' : β → D} {p' : β → PyData} {n m : Nat}
theorem pd_int : PD D.int PyData.int 0 := ⟨fun a => by unfold toP; rfl, fun a => by simp [PyData.canLay0], fun a => by simp [PyData.depth], fun a b => by simp only [PyData.eqv]; rw [Bool.eq_iff_iff, beq_iff_eq, decide_eq_true_eq]⟩
theorem pd_bl : PD D.bl PyData.bool 0 := ⟨fun a => by unfold toP; rfl, fun a => by simp [PyData.canLay0], fun a => by simp [PyData.depth], fun a b => by simp only [PyData.eqv]; rw [Bool.eq_iff_iff, beq_iff_eq, decide_eq_true_eq]⟩
theorem PD.tos (h : PD e p n) : ∀ xs : List α, toPs (xs.map e) = some (xs.map p)
 | [] => by simp [toPs]
 | x :: xs => by
  rw [List.map_cons]
  unfold toPs
  rw [h.to x, PD.tos h xs]; rfl
theorem PD.lays (h : PD e p n) : ∀ xs : List α, PyData.canLayAll0 (xs.map p) = true
 | [] => by simp [PyData.canLayAll0]
 | x :: xs => by rw [List.map_cons]; unfold PyData.canLayAll0; rw [h.lay x, PD.lays h xs]; rfl
theorem PD.deps (h : PD e p n) : ∀ xs : List α, PyData.depthAll (xs.map p) ≤ n
 | [] => by simp [PyData.depthAll]
 | x :: xs => by
  have h1 := h.dep x
  have h2 := PD.deps h xs
  rw [List.map_cons]; unfold PyData.depthAll; omega
theorem PD.eqvs (h : PD e p n) : ∀ xs ys : List α, PyData.eqvAll (xs.map p) (ys.map p) = decide (xs = ys)
 | [], [] => by simp [PyData.eqvAll]
 | [], y :: ys => by simp [PyData.eqvAll]
 | x :: xs, [] => by simp [PyData.eqvAll]
 | x :: xs, y :: ys => by
  rw [List.map_cons, List.map_cons]
  unfold PyData.eqvAll
  rw [h.eqv x y, PD.eqvs h xs ys, Bool.eq_iff_iff]
  simp
theorem PD.lst (h : PD e p n) : PD (fun xs : List α => .lst (xs.map e)) (fun xs => .list (xs.map p)) (n + 1) := ⟨fun a => by unfold toP; rw [h.tos]; rfl, fun a => by unfold PyData.canLay0; exact h.lays a, fun a => by unfold PyData.depth; have := h.deps a; omega, fun a b => by unfold PyData.eqv; exact h.eqvs a b⟩
theorem PD.tup (h : PD e p n) : PD (fun xs : List α => .tup (xs.map e)) (fun xs => .tuple (xs.map p)) (n + 1) := ⟨fun a => by unfold toP; rw [h.tos]; rfl, fun a => by unfold PyData.canLay0; exact h.lays a, fun a => by unfold PyData.depth; have := h.deps a; omega, fun a b => by unfold PyData.eqv; exact h.eqvs a b⟩
theorem PD.shaped (h : PD e p n) (hn : n ≤ 64) (a : α) : SeqAt.shaped (p a) = true := by
 unfold SeqAt.shaped
 rw [h.lay a, decide_eq_true (Nat.le_trans (h.dep a) hn)]; rfl
theorem PD.eq (h : PD e p n) (hn : n ≤ 64) (a b : α) : dEq (e a) (e b) = some (.val (.bl (decide (a = b)))) := by
 unfold dEq dEqB
 rw [h.to a, h.to b]
 dsimp only
 rw [h.shaped hn a, h.shaped hn b, h.eqv]; rfl
theorem PD.ne (h : PD e p n) (hn : n ≤ 64) (a b : α) : dNe (e a) (e b) = some (.val (.bl (!decide (a = b)))) := by
 unfold dNe dEqB
 rw [h.to a, h.to b]
 dsimp only
 rw [h.shaped hn a, h.shaped hn b, h.eqv]; rfl
theorem PD.any (h : PD e p n) (a : α) : ∀ xs : List α, ((xs.map p).any fun z => PyData.eqv z (p a)) = decide (a ∈ xs)
 | [] => by simp
 | x :: xs => by
  rw [List.map_cons, List.any_cons, PD.any h a xs, h.eqv, Bool.eq_iff_iff]
  simp only [Bool.or_eq_true, decide_eq_true_eq, List.mem_cons]
  constructor
  · rintro (z | z)
    · exact .inl z.symm
    · exact .inr z
  · rintro (z | z)
    · exact .inl z.symm
    · exact .inr z
theorem PD.deep (h : PD e p n) (hn : n < 64) (a : α) (xs : List α) : dInDeep (e a) (.lst (xs.map e)) = some (decide (a ∈ xs)) := by
 unfold dInDeep
 dsimp only
 rw [h.to a, h.tos xs]
 dsimp only
 rw [h.shaped (by omega) a, show SeqAt.shaped (.list (xs.map p)) = true from h.lst.shaped (by omega) xs, h.any]; rfl
theorem PD.inL (h : PD e p n) (hn : n < 64) (hf : ∀ a, flD (e a) = false) (a : α) (xs : List α) : dIn2 (e a) (.lst (xs.map e)) = some (.val (.bl (decide (a ∈ xs)))) := by
 have h1 : dIn (e a) (.lst (xs.map e)) = none := by unfold dIn dInB; simp only [items, hf, Bool.false_and]; rfl
 unfold dIn2 dInD; rw [h1, h.deep hn]; rfl
theorem PD.notInL (h : PD e p n) (hn : n < 64) (hf : ∀ a, flD (e a) = false) (a : α) (xs : List α) : dNotIn2 (e a) (.lst (xs.map e)) = some (.val (.bl (!decide (a ∈ xs)))) := by
 have h1 : dNotIn (e a) (.lst (xs.map e)) = none := by unfold dNotIn dInB; simp only [items, hf, Bool.false_and]; rfl
 unfold dNotIn2 dNotInD; rw [h1, h.deep hn]; rfl
end
theorem eq_ii (a b : Int) : dEq (.int a) (.int b) = some (.val (.bl (decide (a = b)))) := pd_int.eq (by decide) a b
theorem ne_ii (a b : Int) : dNe (.int a) (.int b) = some (.val (.bl (!decide (a = b)))) := pd_int.ne (by decide) a b
theorem eq_bb (a b : Bool) : dEq (.bl a) (.bl b) = some (.val (.bl (decide (a = b)))) := pd_bl.eq (by decide) a b
theorem ne_bb (a b : Bool) : dNe (.bl a) (.bl b) = some (.val (.bl (!decide (a = b)))) := pd_bl.ne (by decide) a b
theorem eq_li (a b : List Int) : dEq (.lst (a.map .int)) (.lst (b.map .int)) = some (.val (.bl (decide (a = b)))) := pd_int.lst.eq (by decide) a b
theorem ne_li (a b : List Int) : dNe (.lst (a.map .int)) (.lst (b.map .int)) = some (.val (.bl (!decide (a = b)))) := pd_int.lst.ne (by decide) a b
theorem eq_ti (a b : List Int) : dEq (.tup (a.map .int)) (.tup (b.map .int)) = some (.val (.bl (decide (a = b)))) := pd_int.tup.eq (by decide) a b
theorem ne_ti (a b : List Int) : dNe (.tup (a.map .int)) (.tup (b.map .int)) = some (.val (.bl (!decide (a = b)))) := pd_int.tup.ne (by decide) a b
theorem eq_l0 (a : List Int) : dEq (.lst (a.map .int)) (.lst []) = some (.val (.bl (decide (a = [])))) := pd_int.lst.eq (by decide) a []
theorem ne_l0 (a : List Int) : dNe (.lst (a.map .int)) (.lst []) = some (.val (.bl (!decide (a = [])))) := pd_int.lst.ne (by decide) a []
theorem fl_ints : ∀ ns : List Int, (ns.map D.int).all flD = true
 | [] => rfl
 | n :: ns => by rw [List.map_cons, List.all_cons, fl_ints ns]; rfl
theorem any_ints (n : Int) : ∀ ns : List Int, ((ns.map D.int).any fun z => feq z (.int n)) = decide (n ∈ ns)
 | [] => by simp
 | m :: ns => by
  rw [List.map_cons, List.any_cons, any_ints n ns]
  show ((m == n) || _) = _
  rw [Bool.eq_iff_iff]
  simp only [Bool.or_eq_true, beq_iff_eq, decide_eq_true_eq, List.mem_cons]
  constructor
  · rintro (h | h)
    · exact .inl h.symm
    · exact .inr h
  · rintro (h | h)
    · exact .inl h.symm
    · exact .inr h
theorem inB_i (n : Int) (ns : List Int) {d : D} (h : items d = some (ns.map .int)) : dInB (.int n) d = some (decide (n ∈ ns)) := by
 unfold dInB
 rw [h]
 dsimp only
 rw [fl_ints, any_ints]; rfl
theorem in_i (n : Int) (ns : List Int) {d : D} (h : items d = some (ns.map .int)) : dIn2 (.int n) d = some (.val (.bl (decide (n ∈ ns)))) := by
 unfold dIn2 dIn; rw [inB_i n ns h]; rfl
theorem notIn_i (n : Int) (ns : List Int) {d : D} (h : items d = some (ns.map .int)) : dNotIn2 (.int n) d = some (.val (.bl (!decide (n ∈ ns)))) := by
 unfold dNotIn2 dNotIn; rw [inB_i n ns h]; rfl
theorem in_il (n : Int) (ns : List Int) : dIn2 (.int n) (.lst (ns.map .int)) = some (.val (.bl (decide (n ∈ ns)))) := in_i n ns rfl
theorem in_it (n : Int) (ns : List Int) : dIn2 (.int n) (.tup (ns.map .int)) = some (.val (.bl (decide (n ∈ ns)))) := in_i n ns rfl
theorem in_is (n : Int) (ns : Bool × List Int) : dIn2 (.int n) (eSq D.int ns) = some (.val (.bl (decide (n ∈ ns.2)))) := in_i n ns.2 (it_sq _ _)
theorem notIn_il (n : Int) (ns : List Int) : dNotIn2 (.int n) (.lst (ns.map .int)) = some (.val (.bl (!decide (n ∈ ns)))) := notIn_i n ns rfl
theorem notIn_it (n : Int) (ns : List Int) : dNotIn2 (.int n) (.tup (ns.map .int)) = some (.val (.bl (!decide (n ∈ ns)))) := notIn_i n ns rfl
theorem notIn_is (n : Int) (ns : Bool × List Int) : dNotIn2 (.int n) (eSq D.int ns) = some (.val (.bl (!decide (n ∈ ns.2)))) := notIn_i n ns.2 (it_sq _ _)
theorem in_rl (r : List Int) (rs : List (List Int)) : dIn2 (.tup (r.map .int)) (.lst (rs.map fun r => .tup (r.map .int))) = some (.val (.bl (decide (r ∈ rs)))) := (pd_int.tup.inL (by decide) (fun _ => rfl) r rs).trans (by congr)
theorem notIn_rl (r : List Int) (rs : List (List Int)) : dNotIn2 (.tup (r.map .int)) (.lst (rs.map fun r => .tup (r.map .int))) = some (.val (.bl (!decide (r ∈ rs)))) := (pd_int.tup.notInL (by decide) (fun _ => rfl) r rs).trans (by congr)
theorem tru_n : truD .non = some false := rfl
theorem tru_b (b : Bool) : truD (.bl b) = some b := rfl
theorem tru_i (i : Int) : truD (.int i) = some (i != 0) := rfl
theorem tru_l (xs : List D) : truD (.lst xs) = some (!xs.isEmpty) := rfl
theorem tru_t (xs : List D) : truD (.tup xs) = some (!xs.isEmpty) := rfl
theorem ix_l (ds : List D) (i : Int) : dIx (.lst ds) (.int i) = (atI ds i).bind fun d => some (.val d) := by
 show (atI ds i).map Rv.val = _; cases atI ds i <;> rfl
theorem ix_t (ds : List D) (i : Int) : dIx (.tup ds) (.int i) = (atI ds i).bind fun d => some (.val d) := by
 show (atI ds i).map Rv.val = _; cases atI ds i <;> rfl
theorem ix_lc (d : D) (ds : List D) (i : Int) : dIx (.lst (d :: ds)) (.int i) = (atI (d :: ds) i).bind fun d => some (.val d) := ix_l _ i
theorem ix_tc (d : D) (ds : List D) (i : Int) : dIx (.tup (d :: ds)) (.int i) = (atI (d :: ds) i).bind fun d => some (.val d) := ix_t _ i
theorem ix_lm {α : Type} (e : α → D) (xs : List α) (i : Int) : dIx (.lst (xs.map e)) (.int i) = (atI xs i).bind fun a => some (.val (e a)) := by
 rw [ix_l, atI_map]; cases atI xs i <;> rfl
theorem ix_tm {α : Type} (e : α → D) (xs : List α) (i : Int) : dIx (.tup (xs.map e)) (.int i) = (atI xs i).bind fun a => some (.val (e a)) := by
 rw [ix_t, atI_map]; cases atI xs i <;> rfl
theorem ix_sm {α : Type} (e : α → D) (xs : Bool × List α) (i : Int) : dIx (eSq e xs) (.int i) = (atI xs.2 i).bind fun a => some (.val (e a)) := by
 unfold eSq; split
 · exact ix_tm e xs.2 i
 · exact ix_lm e xs.2 i
theorem ix_sc (ns : List Int) (i : Int) : dIx (.scr ns) (.int i) = (atI ns i).bind fun n => some (.val (.int n)) := by
 show (atI ns i).map _ = _; cases atI ns i <;> rfl
theorem atI_map' {α β : Type} (f : α → β) (xs : List α) (i : Int) : atI (xs.map f) i = (atI xs i).bind fun a => some (f a) := by
 rw [atI_map]; cases atI xs i <;> rfl
theorem atI_nat {α : Type} {xs : List α} {k : Nat} : atI xs (k : Int) = xs[k]? := by
 unfold atI ixN
 rw [if_pos (Int.natCast_nonneg k)]
 by_cases h : k < xs.length
 · rw [if_pos (by omega), Int.toNat_natCast]; rfl
 · rw [if_neg (by omega), List.getElem?_eq_none (by omega)]; rfl
theorem at0 {α : Type} (x : α) (xs : List α) : atI (x :: xs) 0 = some x := atI_nat (k := 0)
theorem at1 {α : Type} (x y : α) (xs : List α) : atI (x :: y :: xs) 1 = some y := atI_nat (k := 1)
theorem at2 {α : Type} (x y z : α) (xs : List α) : atI (x :: y :: z :: xs) 2 = some z := atI_nat (k := 2)
theorem at3 {α : Type} (x y z w : α) (xs : List α) : atI (x :: y :: z :: w :: xs) 3 = some w := atI_nat (k := 3)
def setT {α : Type} (xs : List α) (i : Int) (a : α) : Option (List α) := (ixN xs.length i).bind fun n => some (xs.set n a)
theorem set_map {α : Type} (e : α → D) (xs : List α) (n : Nat) (a : α) : (xs.map e).set n (e a) = (xs.set n a).map e := List.map_set.symm
theorem cutD_map {α : Type} (e : α → D) (xs : List α) (lo hi : Option Int) : cutD (xs.map e) lo hi = (cutD xs lo hi).map e := by
 unfold cutD; rw [List.length_map, List.map_take, List.map_drop]
theorem sl_l {α : Type} (e : α → D) (xs : List α) (lo hi : Option Int) : dSl (.lst (xs.map e)) lo hi = some (.own (.lst ((cutD xs lo hi).map e))) := by
 show some (Rv.own (.lst (cutD (xs.map e) lo hi))) = _; rw [cutD_map]
theorem sl_t {α : Type} (e : α → D) (xs : List α) (lo hi : Option Int) : dSl (.tup (xs.map e)) lo hi = some (.val (.tup ((cutD xs lo hi).map e))) := by
 show some (Rv.val (.tup (cutD (xs.map e) lo hi))) = _; rw [cutD_map]
theorem len_l (xs : List D) : gLen [.lst xs] = some (.val (.int xs.length)) := rfl
theorem len_t (xs : List D) : gLen [.tup xs] = some (.val (.int xs.length)) := rfl
theorem len_s (xs : List Int) : gLen [.scr xs] = some (.val (.int xs.length)) := rfl
theorem int_i (i : Int) : gInt [.int i] = some (.val (.int i)) := rfl
theorem int_b (b : Bool) : gInt [.bl b] = some (.val (.int (if b then 1 else 0))) := rfl
theorem max_ii (i j : Int) : gMax2 [.int i, .int j] = some (.val (.int (if j > i then j else i))) := rfl
theorem min_ii (i j : Int) : gMin2 [.int i, .int j] = some (.val (.int (if j < i then j else i))) := rfl
theorem list_l (xs : List D) : gList [.lst xs] = some (.own (.lst xs)) := rfl
theorem list_t (xs : List D) : gList [.tup xs] = some (.own (.lst xs)) := rfl
theorem list_s {α : Type} (e : α → D) (xs : Bool × List α) : gList [eSq e xs] = some (.own (.lst (xs.2.map e))) := by unfold eSq; split <;> rfl
theorem tuple_l (xs : List D) : gTuple [.lst xs] = some (.val (.tup xs)) := rfl
theorem tuple_t (xs : List D) : gTuple [.tup xs] = some (.val (.tup xs)) := rfl
theorem tuple_s {α : Type} (e : α → D) (xs : Bool × List α) : gTuple [eSq e xs] = some (.val (.tup (xs.2.map e))) := by unfold eSq; split <;> rfl
theorem sorted_i (ns : List Int) : gSorted [.lst (ns.map .int)] = some (.own (.lst ((sortI ns).map .int))) := by
 show (asInts (ns.map D.int)).bind _ = _; rw [asInts_map]; rfl
theorem maxL_i (ns : List Int) : gMaxL [.lst (ns.map .int)] = (lMax ns).bind fun m => some (.val (.int m)) := by
 show (asInts (ns.map D.int)).bind _ = _; rw [asInts_map]; show (lMax ns).map _ = _; cases lMax ns <;> rfl
theorem minL_i (ns : List Int) : gMinL [.lst (ns.map .int)] = (lMin ns).bind fun m => some (.val (.int m)) := by
 show (asInts (ns.map D.int)).bind _ = _; rw [asInts_map]; show (lMin ns).map _ = _; cases lMin ns <;> rfl
theorem sum_i (ns : List Int) : gSum [.lst (ns.map .int)] = some (.val (.int ns.sum)) := by
 show (asInts (ns.map D.int)).bind _ = _; rw [asInts_map]; rfl
theorem all_b (ns : List Bool) : gAll [.lst (ns.map .bl)] = some (.val (.bl (ns.all id))) := by
 show (asBools (ns.map D.bl)).bind _ = _; rw [asBools_map]; rfl
theorem any_b (ns : List Bool) : gAny [.lst (ns.map .bl)] = some (.val (.bl (ns.any id))) := by
 show (asBools (ns.map D.bl)).bind _ = _; rw [asBools_map]; rfl
theorem isi_eq (d : D) (t : String) : gIsi [d, .ty t] = ((tyNm d).bind fun a => isLook a t).bind fun b => some (.val (.bl b)) := by
 show ((tyNm d).bind fun a => isLook a t).map _ = _; cases ((tyNm d).bind fun a => isLook a t) <;> rfl
theorem ty_n : tyNm .non = some "NoneType" := rfl
theorem ty_b (b : Bool) : tyNm (.bl b) = some "bool" := rfl
theorem ty_i (b : Int) : tyNm (.int b) = some "int" := rfl
theorem ty_s (b : Str) : tyNm (.str b) = some "str" := rfl
theorem ty_l (b : List D) : tyNm (.lst b) = some "list" := rfl
theorem ty_t (b : List D) : tyNm (.tup b) = some "tuple" := rfl
theorem il_ii : isLook "int" "int" = some true := by decide +kernel
theorem il_ib : isLook "int" "bool" = some false := by decide +kernel
theorem il_it : isLook "int" "tuple" = some false := by decide +kernel
theorem il_il : isLook "int" "list" = some false := by decide +kernel
theorem il_bb : isLook "bool" "bool" = some true := by decide +kernel
theorem il_bi : isLook "bool" "int" = some true := by decide +kernel
theorem il_bl : isLook "bool" "list" = some false := by decide +kernel
theorem il_bt : isLook "bool" "tuple" = some false := by decide +kernel
theorem il_ll : isLook "list" "list" = some true := by decide +kernel
theorem il_lt : isLook "list" "tuple" = some false := by decide +kernel
theorem il_li : isLook "list" "int" = some false := by decide +kernel
theorem il_lb : isLook "list" "bool" = some false := by decide +kernel
theorem il_tt : isLook "tuple" "tuple" = some true := by decide +kernel
theorem il_tl : isLook "tuple" "list" = some false := by decide +kernel
theorem il_ti : isLook "tuple" "int" = some false := by decide +kernel
theorem il_tb : isLook "tuple" "bool" = some false := by decide +kernel
theorem il_ss : isLook "str" "str" = some true := by decide +kernel
theorem il_si : isLook "str" "int" = some false := by decide +kernel
theorem il_sb : isLook "str" "bool" = some false := by decide +kernel
theorem il_ni : isLook "NoneType" "int" = some false := by decide +kernel
theorem il_nb : isLook "NoneType" "bool" = some false := by decide +kernel
theorem il_nl : isLook "NoneType" "list" = some false := by decide +kernel
theorem il_nt : isLook "NoneType" "tuple" = some false := by decide +kernel
def lc2I {β δ : Type} (g : β → Option δ) : List β → List δ → Option (List δ)
 | [], acc => some acc
 | y :: ys, acc => (g y).bind fun z => (gz (acc.length + 1)).bind fun _ => lc2I g ys (acc ++ [z])
def lc2O {α β δ : Type} (it : α → Option (List β)) (g : α → β → Option δ) : List α → List δ → Option (List δ)
 | [], acc => some acc
 | x :: xs, acc => (it x).bind fun ys => (lc2I (g x) ys acc).bind fun acc' => lc2O it g xs acc'
section
variable {α β δ : Type} {ea : α → D} {eb : β → D} {ed : δ → D} {tg tg1 : D → List S → Option (List S)} {it1 : M (List D)} {te : M Rv} {vs vs1 : List Nat} {ρ : List S}
theorem lcI_T {g : β → Option δ} : ∀ (ys : List β) (acc : List δ), (∀ y, lcS tg1 tYes' te vs1 (eb y) ρ = (g y).bind fun z => some (some (ed z), ρ)) → lcI tg1 tYes' te vs1 (ys.map eb) (acc.map ed) ρ = (lc2I g ys acc).bind fun zs => some (.ok (zs.map ed) ρ)
 | [], acc, _ => rfl
 | y :: ys, acc, h => by
  have h1 := h y
  rw [List.map_cons]
  unfold lc2I
  have e1 : lcI tg1 tYes' te vs1 (eb y :: ys.map eb) (acc.map ed) ρ = (match tg1 (eb y) (wipeS ρ vs1) with
   | none => none
   | some ρ1 => match (te >>= toV) ρ1 with
    | some (.ok e ρ3) => if (acc.map ed).length < sizeLine then lcI tg1 tYes' te vs1 (ys.map eb) (acc.map ed ++ [e]) (backS ρ ρ3 vs1) else none
    | _ => none) := rfl
  rw [e1]
  unfold lcS at h1
  cases q : tg1 (eb y) (wipeS ρ vs1) with
  | none =>
   rw [q] at h1
   cases q2 : g y with
   | none => rfl
   | some z => rw [q2] at h1; cases h1
  | some ρ1 =>
   rw [q] at h1
   dsimp only [Option.bind] at h1 ⊢
   rw [cps_yes, if_pos rfl] at h1
   rw [bind_eq]
   unfold cps at h1
   cases q3 : te ρ1 with
   | none =>
    rw [q3] at h1
    cases q2 : g y with
    | none => rfl
    | some z => rw [q2] at h1; cases h1
   | some o =>
    rw [q3] at h1
    cases o with
    | ex e ρ' =>
     cases q2 : g y with
     | none => rfl
     | some z => rw [q2] at h1; cases h1
    | ok r ρ3 =>
     dsimp only at h1 ⊢
     cases q4 : toV r ρ3 with
     | none =>
      rw [q4] at h1
      cases q2 : g y with
      | none => rfl
      | some z => rw [q2] at h1; cases h1
     | some o =>
      rw [q4] at h1
      cases o with
      | ex e ρ' =>
       cases q2 : g y with
       | none => rfl
       | some z => rw [q2] at h1; cases h1
      | ok d ρ4 =>
       dsimp only at h1 ⊢
       cases q2 : g y with
       | none => rw [q2] at h1; cases h1
       | some z =>
        rw [q2] at h1
        dsimp only at h1 ⊢
        have e3 := Option.some.inj h1
        have e4 : d = ed z := Option.some.inj (congrArg Prod.fst e3)
        have e2 : backS ρ ρ4 vs1 = ρ := congrArg Prod.snd e3
        subst e4
        rw [List.length_map]
        unfold gz
        by_cases hl : acc.length < sizeLine
        · rw [if_pos hl, if_pos (by omega)]
          have ih := lcI_T (g := g) ys (acc ++ [z]) h
          rw [List.map_append] at ih
          rw [e2]
          exact ih
        · rw [if_neg hl, if_neg (by omega)]
def lc2S (tg : D → List S → Option (List S)) (it1 : M (List D)) (tg1 : D → List S → Option (List S)) (te : M Rv) (vs vs1 : List Nat) (d : D) (acc : List D) (ρ : List S) : Option (List D × List S) :=
 (tg d (wipeS ρ vs)).bind fun ρ1 => cps it1 ρ1 (fun _ _ => none) fun ds1 ρ3 => if noOwn ρ3 vs1 = true then cps (lcI tg1 tYes' te vs1 ds1 acc) ρ3 (fun _ _ => none) fun acc' ρ4 => some (acc', backS ρ ρ4 vs) else none
theorem lcO_T {it : α → Option (List β)} {g : α → β → Option δ} : ∀ (xs : List α) (acc : List δ), (∀ x acc, lc2S tg it1 tg1 te vs vs1 (ea x) (acc.map ed) ρ = (it x).bind fun ys => (lc2I (g x) ys acc).bind fun zs => some (zs.map ed, ρ)) →
  lcO tg tYes' it1 tg1 tYes' te vs vs1 (xs.map ea) (acc.map ed) ρ = (lc2O it g xs acc).bind fun zs => some (.ok (zs.map ed) ρ)
 | [], acc, _ => rfl
 | x :: xs, acc, h => by
  have h1 := h x acc
  rw [List.map_cons]
  unfold lc2O
  have e1 : lcO tg tYes' it1 tg1 tYes' te vs vs1 (ea x :: xs.map ea) (acc.map ed) ρ = (match tg (ea x) (wipeS ρ vs) with
   | none => none
   | some ρ1 => match it1 ρ1 with
    | some (.ok ds1 ρ3) => if noOwn ρ3 vs1 = true then (match lcI tg1 tYes' te vs1 ds1 (acc.map ed) ρ3 with
     | some (.ok acc' ρ4) => lcO tg tYes' it1 tg1 tYes' te vs vs1 (xs.map ea) acc' (backS ρ ρ4 vs)
     | _ => none) else none
    | _ => none) := rfl
  have e2 : lcO tg tYes' it1 tg1 tYes' te vs vs1 (ea x :: xs.map ea) (acc.map ed) ρ = (lc2S tg it1 tg1 te vs vs1 (ea x) (acc.map ed) ρ).bind fun p => lcO tg tYes' it1 tg1 tYes' te vs vs1 (xs.map ea) p.1 p.2 := by
   rw [e1]
   unfold lc2S
   cases tg (ea x) (wipeS ρ vs) with
   | none => rfl
   | some ρ1 =>
    dsimp only [Option.bind]
    unfold cps
    cases it1 ρ1 with
    | none => rfl
    | some o =>
     cases o with
     | ex e ρ' => rfl
     | ok ds1 ρ3 =>
      dsimp only
      by_cases hn : noOwn ρ3 vs1 = true
      · rw [if_pos hn, if_pos hn]
        cases lcI tg1 tYes' te vs1 ds1 (acc.map ed) ρ3 with
        | none => rfl
        | some o => cases o <;> rfl
      · rw [if_neg hn, if_neg hn]
  rw [e2, h1]
  cases it x with
  | none => rfl
  | some ys =>
   dsimp only [Option.bind]
   cases lc2I (g x) ys acc with
   | none => rfl
   | some zs => exact lcO_T xs zs h
theorem cps_lc2 {γ : Type} {it it1 : M (List D)} {tt tt1 : M Bool} {kx : Xn → List S → Option γ} {k : Rv → List S → Option γ} : cps (eLc2 it tg tt it1 tg1 tt1 te vs vs1) ρ kx k = cps it ρ kx fun ds ρ1 => if noOwn ρ1 vs = true then cps (lcO tg tt it1 tg1 tt1 te vs vs1 ds []) ρ1 kx fun acc ρ2 => k (.own (.lst acc)) ρ2 else none := by
 unfold eLc2; refine (cps_bind _ _ k).trans ?_
 congr 1; funext ds ρ1
 refine (cps_bind _ _ k).trans ?_
 exact cps_no (f := lcO tg tt it1 tg1 tt1 te vs vs1 ds [])
theorem cps_lcI {γ : Type} {g : β → Option δ} {kx : Xn → List S → Option γ} (ys : List β) (acc : List δ) (h : ∀ y, lcS tg1 tYes' te vs1 (eb y) ρ = (g y).bind fun z => some (some (ed z), ρ)) (h' : List D → List S → Option γ) : cps (lcI tg1 tYes' te vs1 (ys.map eb) (acc.map ed)) ρ kx h' = (lc2I g ys acc).bind fun zs => h' (zs.map ed) ρ := by
 unfold cps; rw [lcI_T ys acc h]; cases lc2I g ys acc <;> rfl
theorem cps_lcO {γ : Type} {it : α → Option (List β)} {g : α → β → Option δ} {kx : Xn → List S → Option γ} (xs : List α) (h : ∀ x acc, lc2S tg it1 tg1 te vs vs1 (ea x) (acc.map ed) ρ = (it x).bind fun ys => (lc2I (g x) ys acc).bind fun zs => some (zs.map ed, ρ)) (h' : List D → List S → Option γ) :
  cps (lcO tg tYes' it1 tg1 tYes' te vs vs1 (xs.map ea) []) ρ kx h' = (lc2O it g xs []).bind fun zs => h' (zs.map ed) ρ := by
 unfold cps
 have := lcO_T (ρ := ρ) xs [] h
 rw [List.map_nil] at this
 rw [this]; cases lc2O it g xs [] <;> rfl
end
end Tl
namespace Dl
open PySem L2
open PySem.Spec PyProof.Rows
section
variable {X : Cx} {W : WX} {np : Nat} {a b e tg : Expr} {es : List Expr} {fa fb fe : M Rv} {la : M (List Rv)} {pos p p2 tpos : Pos} {k nq : Nat} {fn : Fn}
def sAug (i : Nat) (g : D → D → Option Rv) (fe : M Rv) : MS := thenS (eVar i) fun x => thenS fe fun y => thenS (peek (settle x)) fun d => thenS (peek y) fun e => thenS (ofO (g d e)) fun r => match r with
 | .val d => fun ρ => some (.nx (ρ.set i (.val d)))
 | _ => sNever
structure DDun (P : Program) (w : World) (K : PySem.W.Frag) (mg : Str → Option Value) (base : Heap) (n m : Str) (k np : Nat) (fn : Fn) : Prop where
 len : ∀ ss o, fn ss = some o → ss.length = np
 cl : Cls K (He.ga K n)
 ex : ∃ (f : Addr) (fd : FuncData) (ps : List Str), Meth K (He.ga K n) m f ∧ PySem.W.fnIn K f = true ∧ Binds K fd ps [] ∧ FnOk P w K mg base (L2N.CX P w) k f fd ps (spD K np fn)
theorem DDun.up {P : Program} {w : World} {K : PySem.W.Frag} {mg : Str → Option Value} {base : Heap} {n m : Str} {j k np : Nat} {fn : Fn} (F : DDun P w K mg base n m j np fn) (h : j ≤ k) : DDun P w K mg base n m k np fn :=
 let ⟨f, fd, ps, h1, h2, h3, h4⟩ := F.ex; ⟨F.len, F.cl, f, fd, ps, h1, h2, h3, h4.mono h⟩
theorem ddun_of {P : Program} {w : World} {K : PySem.W.Frag} {mg : Str → Option Value} {base : Heap} {x m : Str} {ps N : List Str} {f : Addr} {fd : FuncData} {qual y : Str} {params : Arguments} {body : List Stmt} {scope : Scope} {fb : MS} {k : Nat} (F : FunD K y qual params body scope [] [] f fd) (S : FnScope N ps scope) (c : Cls K (He.ga K x)) (hk : Meth K (He.ga K x) m f) (hb : Binds K fd ps [])
  (h : Body P w K mg base N qual scope f body ps.length k fb) : DDun P w K mg base x m (k + 1) ps.length (mkFn ps.length N.length fb) := by
 obtain ⟨oc, od, dV, kV, doc, pm, an, cdv, ct, osl, _, lk, _⟩ := F.ex
 exact ⟨mkFn_len, c, f, fd, ps, hk, by unfold PySem.W.fnIn; rw [lk], hb, fn_data F S h⟩
theorem run_fnS1 {CXx : CXT} {f : Addr} {fd : FuncData} {ps : List Str} {sp : Sp} {E : L2.St → XK} {pins : List (Addr × Obj)} {σ : L2.St} {H : Hp} {s : Shared} {Q : VK} {us : List Value} {vs : List V} (F : FnOk X.prog X.w X.K X.mg X.base CXx k f fd ps sp) (hr : Room k X.A.in1) (hb : Binds X.K fd ps []) (hx : PassesAt CXx X σ (E σ))
  (I : Inv X pins σ H s) (r : Vals vs us) (h : sp vs H Q (E σ)) : wpAny (model X.prog X.w) X.A.in1 (call (.ref f) us) (EP X pins σ Q) X.xe s := by
 have hl : us.length = ps.length := by rw [← r.length]; exact F.len _ _ _ _ h
 refine wpAny_call (codeAny_mono (F.run X.A.in1 X.stack s H ⟨us, []⟩ us vs Q (E σ) hr I.env0.in1 (by
  have := hb s us I.kIn (by simpa using hl)
  simpa using this) r h) fun r s' hq => ?_)
 cases r with
 | error e => exact hx pins H s e s' I hq
 | ok fl =>
  cases fl with
  | ret u => exact I.after hq
  | next => exact False.elim hq
  | brk => exact False.elim hq
  | cont => exact False.elim hq
theorem pe_ixS {C f : Addr} {fd : FuncData} {ps : List Str} {sp : Sp} {E : L2.St → XK} {CXx : CXT} {ta tb : TE} (ha : PE X a ta) (hb : PE X b tb) (hm : Meth X.K C "__getitem__" f) (hfi : PySem.W.fnIn X.K f = true) (F : FnOk X.prog X.w X.K X.mg X.base CXx k f fd ps sp) (hr : Room k X.A.in1) (hbi : Binds X.K fd ps []) (hx : ∀ σ, PassesAt CXx X σ (E σ))
  (hsl : ∀ o i, subscripted b true o i = PySem.runValue (.builtin "lifetime.subscript" ⟨[o, i], []⟩) := by intros; rfl) : PE X (.Subscript a b pos) (fun σ H Q => ta σ H fun x H1 => tb σ H1 fun y H2 => ∃ a1 dx fs, x = .ref a1 ∧ H2 a1 = some (.ins C dx fs) ∧ sp [x, y] H2 Q (E σ)) := by
 refine ⟨fun pins s σ H Q I h => ?_⟩
 refine Subscript_ (binT ha hb I h fun v u s2 x y H2 I2 rx ry q => ?_)
 obtain ⟨a1, dx, fs, rfl, h1, q⟩ := q
 cases (show v = Value.ref a1 from rx)
 obtain ⟨ox, od, J⟩ := inst_of (K := X.K) I2 h1
 obtain ⟨m', hF⟩ := I2.fr
 refine PySem.W.sub_K hF I2.ok.mod.kin J hm.at_ hfi hm.fn ?_ (hsl _ _)
 exact run_fnS1 (us := [.ref a1, u]) (vs := [.ref a1, y]) F hr hbi (hx σ) I2 (.cons rfl (.cons ry .nil)) q
def eOwnIx (n : Str) (mu : List Bool) (fn : Fn) (fo fb : M Rv) : M Rv := do
 let r ← fo
 let q ← fb
 ckC n (settle r)
 callM mu fn [settle r, settle q]
theorem de_own_ix {n : Str} (mu : List Bool) (go : Go X W) (F : DDun X.prog X.w X.K X.mg X.base n "__getitem__" k nq fn) (hr : Room (k + 1) X.A) (ha : DE X W a fa) (hb : DE X W b fb)
  (hsl : ∀ o i, subscripted b true o i = PySem.runValue (.builtin "lifetime.subscript" ⟨[o, i], []⟩) := by intros; rfl) : DE X W (.Subscript a b pos) (eOwnIx n mu fn fa fb) := by
 obtain ⟨f, fd, ps, hm, hfi, hbi, FO⟩ := F.ex
 refine ⟨(pe_ixS (E := WE W) ha.pe hb.pe hm hfi FO hr.in1 hbi (wish_of go.tk) hsl).weak fun σ H Q ⟨c, G, ρ, R, w⟩ => ?_⟩
 refine tg_step R (Same.refl G) w fun r ρ1 v G1 H1 R1 s1 _ k1 w1 => ?_
 obtain ⟨G1', s1', R1', k1'⟩ := settle_ok R1 k1
 refine tg_step R1' (s1.trans s1') w1 fun q ρ2 u G2 H2 R2 s2 s12 k2 w3 => ?_
 obtain ⟨G2', s2', R2', k2'⟩ := settle_ok R2 k2
 have k1'' := (k1'.mono s12).mono s2'
 obtain ⟨⟨a1, dx, fs, e1, h1⟩, w4⟩ := ckC_wp R2' k1''.one (wpM_bind w3)
 exact ⟨a1, dx, fs, e1, h1, call_sp R2' (s2.trans s2') (RpRs.cons (vs := [u]) (rs := [settle q]) k1'' k2') F.len w4⟩
def eOwnCall (n : Str) (mu : List Bool) (fn : Fn) (fo : M Rv) (la : M (List Rv)) : M Rv := do
 let r ← fo
 ckC n (settle r)
 let rs ← la
 ckC n (settle r)
 callM mu fn (settle r :: rs)
def eLRg (fo : M Rv) : M Rv := do
 let r ← fo
 let d ← peek r
 match d with
 | .int n => if rngOk 0 n = true then pure (.own (.lst (rangeD 0 n.toNat))) else M.fail
 | _ => M.fail
theorem rgV_rp {K : PySem.W.Frag} {G : Hp} {n : Int} : RpL K G (rangeD 0 n.toNat) (rgV 0 n) := by
 have e1 : rgV 0 n = ((List.range n.toNat).map fun (k : Nat) => (0 : Int) + (k : Int)).map V.int := by
  unfold rgV; rw [List.map_map, Int.sub_zero]; rfl
 have e2 : rangeD 0 n.toNat = ((List.range n.toNat).map fun (k : Nat) => (0 : Int) + (k : Int)).map D.int := by
  unfold rangeD; rw [List.map_map]; rfl
 rw [e1, e2]; exact RpL.ints
theorem de_lrg (go : Go X W) (hg : Gl X "list" := by exact rfl) (hm : X.mg "list" = none) (hg2 : Gl X "range" := by exact rfl) (hm2 : X.mg "range" = none) (ha : DE X W a fa)
  (na : starEach [a] X.env = (false, eval a X.env) :: starEach [] X.env := by rfl) (nb : starEach [.Call (.Name "range" p2) [a] [] tpos] X.env = (false, eval (.Call (.Name "range" p2) [a] [] tpos) X.env) :: starEach [] X.env := by rfl) :
  DE X W (.Call (.Name "list" p) [.Call (.Name "range" p2) [a] [] tpos] [] pos) (eLRg fa) :=
 ⟨(pe_listRg go.calm hg hm (prg_1 hg2 hm2 ha.pe na) nb).weak fun σ H Q ⟨c, G, ρ, R, w⟩ => by
  refine tg_step R (Same.refl G) w fun r ρ1 v G1 H1 R1 s1 _ k1 w1 => ?_
  obtain ⟨d, kd, w2⟩ := peek_wp R1 k1 (wpM_bind w1)
  cases d with
  | int n =>
   dsimp only at w2
   by_cases ho : rngOk 0 n = true
   · rw [if_pos ho] at w2
     obtain ⟨h1, h2, h3, h4⟩ := of_decide_eq_true ho
     refine ⟨n, kd.int, ⟨by omega, by omega, by omega, ?_, by omega⟩, fun q hq => ?_⟩
     · omega
     · obtain ⟨R', kk⟩ := R1.new_own hq (rgV_rp (K := X.K) (G := G1) (n := n))
       exact w2 _ G1 _ R' s1 kk
   · rw [if_neg ho] at w2; exact w2.elim
  | _ => exact w2.elim⟩
end
def spIt (K : PySem.W.Frag) (n fld : Str) : Nat → Sp := fun m vs H Q _ => ∃ a dx fs b xs, vs = [.ref a] ∧ H a = some (.ins (He.ga K n) dx fs) ∧ fs.lookup fld = some (.ref b) ∧ SqL K H b xs ∧ ∀ p, H p = none → m ≤ p → Q (.ref p) (upd H p (ItO b p 0))
structure DIter (P : Program) (w : World) (K : PySem.W.Frag) (mg : Str → Option Value) (base : Heap) (n fld : Str) (k : Nat) : Prop where
 cl : Cls K (He.ga K n)
 ex : ∃ f : Addr, Meth K (He.ga K n) "__iter__" f ∧ ∀ (A : Around) (outer : List Env) (s : Shared) (H : Hp) (a : Addr) (Q : VK) (E : XK), Room k A → Env0 P w K mg base A outer s H → spIt K n fld s.heap.objs.size [.ref a] H Q E →
  codeAny (model P w) A (.call (.ref f) ⟨[.ref a], []⟩) (CR (L2N.CX P w) outer P w H s Q E) s
theorem DIter.up {P : Program} {w : World} {K : PySem.W.Frag} {mg : Str → Option Value} {base : Heap} {n fld : Str} {j k : Nat} (F : DIter P w K mg base n fld j) (h : j ≤ k) : DIter P w K mg base n fld k :=
 let ⟨f, h1, h2⟩ := F.ex; ⟨F.cl, f, h1, fun A outer s H a Q E hr => h2 A outer s H a Q E (hr.mono h)⟩
section
variable {X : Cx} {W : WX} {np : Nat} {a b e tg : Expr} {es : List Expr} {fa fb fe : M Rv} {la : M (List Rv)} {pos p p2 tpos : Pos} {k nq : Nat} {fn : Fn}
def lstOf : D → Option (List D)
 | .lst xs => some xs
 | _ => none
def itFld (n fld : Str) : D → Option (List D)
 | .obj n' ns ds => if n' = n then (lkF fld ns ds).bind lstOf else none
 | _ => none
def iOwn (n fld : Str) (fa : M Rv) : M (List D) := do
 let r ← fa
 let d ← toV r
 ofO (itFld n fld d)
theorem di_own {n fld : Str} (go : Go X W) (F : DIter X.prog X.w X.K X.mg X.base n fld k) (hr : Room k X.A) (ha : DE X W a fa) : DI X W tg a (iOwn n fld fa) := by
 obtain ⟨f, hm, run⟩ := F.ex
 refine ⟨⟨fun pins s σ H R I ⟨c, G, ρ, Rs, w⟩ => ?_⟩⟩
 have h0 : tD X.K W fa σ H fun x H1 => ∃ r ρ1 G1, Rst X.K c G1 H1 σ ρ1 ∧ Same G G1 ∧ RpR X.K c G1 H1 σ ρ1 x r ∧ wpM ((do let d ← toV r; ofO (itFld n fld d)) ρ1) (fun ds ρ' => ∀ J G' H', Rst X.K c G' H' σ ρ' → Same G G' → Walks X.K G' J ds → R J H') (EXk X.K c W σ G) :=
  tg_step Rs (Same.refl G) w fun r ρ1 v G1 H1 R1 s1 _ k w1 => ⟨r, ρ1, G1, R1, s1, k, w1⟩
 refine thn (ha.pe.run pins s σ H _ I h0) fun u s1 ⟨x, H1, I1, ru, r, ρ1, G1, R1, sm1, k, w1⟩ => ?_
 obtain ⟨d, G2, ρ2, s2, R2, k2, w2⟩ := toV_wp R1 k (wpM_bind w1)
 obtain ⟨ds, e1, w3⟩ := ofO_wp w2
 cases d with
 | obj n' ns es =>
  have e9 : (if n' = n then (lkF fld ns es).bind lstOf else none) = some ds := e1
  by_cases hn : n' = n
  · rw [if_pos hn] at e9
    subst hn
    obtain ⟨l, el, e2⟩ := Option.bind_eq_some_iff.mp e9
    cases l with
    | lst zs =>
     cases e2
     obtain ⟨a1, dx, xs, rfl, h2, h3, hl, h4⟩ := k2
     cases ru
     obtain ⟨v, lv, b1, ys, rfl, hy, hr2⟩ := lkF_ok h4 el
     have hb : SqL X.K H1 b1 ys := .inl (.inl (R2.gh _ _ hy))
     have ha1 : H1 a1 = some (.ins (He.ga X.K n') dx (ns.zip xs)) := R2.gh _ _ h2
     obtain ⟨ox, od, J⟩ := inst_of (K := X.K) I1 ha1
     obtain ⟨m', hF⟩ := I1.fr
     refine PySem.W.owit_iter hF I1.ok.mod.kin J hm.at_ hm.fn ?_
     refine wpAny_call (codeAny_mono (run X.A X.stack s1 H1 a1 (fun v H' => ∃ p, v = .ref p ∧ H1 p = none ∧ s1.heap.objs.size ≤ p ∧ H' = upd H1 p (ItO b1 p 0)) (WE W σ) hr I1.env0 ⟨a1, dx, _, b1, ys, rfl, ha1, lv, hb, fun p hp hle => ⟨p, rfl, hp, hle, rfl⟩⟩) fun rr s' hq => ?_)
     cases rr with
     | error er => exact wish_of go.tk σ pins H1 s1 er s' I1 hq
     | ok fl =>
      cases fl with
      | ret u =>
       obtain ⟨v, H', I2, rv, p, rfl, hp, hle, rfl⟩ := I1.after hq
       cases rv
       have hi : (upd H1 p (ItO b1 p 0)) p = some (ItO b1 p 0) := upd_same
       have eo := itO_get I2 hi
       have hT : s'.TypeIs (.ref p) "list_iterator" := ⟨_, eo, rfl⟩
       unfold PySem.W.OwitIt
       refine wpAny_specialOf (name := Str.ofString "__next__") hT slot_listiter_next.lookup ?_
       have hi' := hi
       unfold ItO at hi'
       have I3 := ItX.inv_drop I2 hi'
       have eH : ItX.dropH (upd H1 p (ItO b1 p 0)) p = H1 := ItX.dropH_upd hp
       have hn : X.s_0.heap.objs.size ≤ p := Nat.le_trans I1.sz hle
       have fp : FpOk X pins (ItX.dropH (upd H1 p (ItO b1 p 0)) p) p := ItX.inv_fp I2 hi hn
       rw [eH] at I3 fp
       refine ⟨p, [p], _, Itl X.K b1, H1, rfl, I3, turn_list b1 p, ⟨_, eo, rfl, rfl⟩, fun b hb => ?_, w3 _ G2 H1 R2 (sm1.trans s2) (walks_list hy hr2 (lst_size I1 hb))⟩
       have e : b = p := by simpa using hb
       rw [e]; exact fp
      | next => exact False.elim hq
      | brk => exact False.elim hq
      | cont => exact False.elim hq
    | _ => cases e2
  · rw [if_neg hn] at e9; cases e9
 | _ => cases e1
end
abbrev tIter (K : PySem.W.Frag) (n : Nat) (fld : Str) : TS := tRet (tCB (ItX.rIterN K n) (tCons (tFld K (tVar 0) fld) tNil))
theorem diter_of {P : Program} {w : World} {K : PySem.W.Frag} {mg : Str → Option Value} {base : Heap} {x fld : Str} {N : List Str} {f : Addr} {fd : FuncData} {qual y : Str} {params : Arguments} {scope : Scope} {body : List Stmt} (F : FunD K y qual params body scope [] [] f fd)
  (S : FnScope ["self"] ["self"] scope) (c : Cls K (He.ga K x)) (na : NoAttr K (He.ga K x) fld) (hk : Meth K (He.ga K x) "__iter__" f) (hb : Binds K fd ["self"] [])
  (hw : ∀ (cdv : Value) (A : Around) (outer : List Env) (s : Shared) (H : Hp) (E : XK), PSs (cxOf (L2N.CX P w) P w K mg base ["self"] qual scope f cdv A outer s H E) body (tIter K s.heap.objs.size fld)) : DIter P w K mg base x fld 1 := by
 obtain ⟨oc, od, dV, kV, doc, pm, an, cdv, ct, osl, rfl, lk, hcd, _, _⟩ := F.ex
 refine ⟨c, f, hk, fun A outer s H a Q E hr e0 hsp => ?_⟩
 have r : Vals [V.ref a] [Value.ref a] := .cons rfl .nil
 have hl : ([V.ref a] : List V).length = (["self"] : List Str).length := rfl
 have KX : K.In s.heap := e0.mod.kin.keeps fun b o e => (e0.bs b o e).1
 have lim : s.heap.NoLimit := e0.mod.nolimit.keeps fun b o e => (e0.bs b o e).1
 have hkind : ∀ y ∈ (["self"] : List Str).zip [Value.ref a], scope.names.lookup y.1 = some .local ∨ (scope.names.lookup y.1 = some .cell ∧ ((cellsFrom (s.heap.objs.size + 1) scope.names []).lookup y.1).isSome = true) := fun ⟨n, v⟩ hy => by
  rcases S.par n (List.of_mem_zip hy).1 with q | q
  · exact .inl q
  · exact .inr ⟨q, PySem.W.cellsFrom_some _ _ _ (.inl q)⟩
 have hbb := hb s [.ref a] KX rfl
 rw [List.append_nil] at hbb
 refine codeAny_call_function hr.depth (KX _ _ lk) rfl S.co S.gen rfl (PySem.W.codeRec_of KX hcd) (hbb _ _ _ _ ?_)
 refine wpAny_newFunctionEnv_cells S.kind hkind fun env he s1 xx => ?_
 subst he
 refine ⟨lim.keeps xx.toInCall.keep, codeAny_func ?_⟩
 have I : Inv (cxOf (L2N.CX P w) P w K mg base ["self"] qual scope f cdv A outer s H E) [] (start ["self"] [V.ref a]) H s1 := inv_start S hr.hd e0 hl r xx
 have hq : tIter K s.heap.objs.size fld { nx := fun _ H' => Q .non H', rt := Q } (start ["self"] [V.ref a]) H := by
  obtain ⟨a1, dx, fs, b, xs, e1, h1, h2, h3, h4⟩ := hsp
  cases e1
  exact ⟨.ref a, rfl, a, _, dx, fs, .ref b, rfl, h1, c, na, h2, b, xs, rfl, h3, h4⟩
 refine wpAny_mono ((hw cdv A outer s H E).run [] s1 (start ["self"] [V.ref a]) H _ I hq) (fun fl s' hs => ?_) fun e s' hs => hs
 have fin : ∀ {σ' : L2.St} {H' : Hp} {v : V} {u : Value}, Inv (cxOf (L2N.CX P w) P w K mg base ["self"] qual scope f cdv A outer s H E) [] σ' H' s' → RelV v u → Q v H' → CE outer P w H s Q u s' :=
  fun {σ' H' v u} J rv q => ⟨v, H', J.os, J.bare, J.base, J.hok, rv, q⟩
 cases fl with
 | ret u =>
  obtain ⟨v, σ', H', J, rv, q⟩ := hs
  exact fin J rv q
 | next =>
  obtain ⟨σ', H', J, q⟩ := hs
  exact fin (v := V.non) (u := Value.none) J rfl q
 | brk =>
  obtain ⟨_, _, _, q⟩ := hs
  exact False.elim q
 | cont =>
  obtain ⟨_, _, _, q⟩ := hs
  exact False.elim q
end Dl
namespace Dl
open PySem L2
open PySem.Spec PyProof.Rows
section
variable {X : Cx} {pins : List (Addr × Obj)} {σ : L2.St} {H : Hp} {s : Shared} {p b q : Addr} {ys : List V} {A1 : Around}
theorem lst_loop {Rs : Result → Shared → Prop} (hh : A1.in1.handled = none) (hz : ys.length ≤ sizeLine) (hdone : ∀ s, Inv X pins σ (upd H q (.lst ys)) s → Rs (.ok (.ret .none)) s) (hqb : q ≠ b) :
  ∀ (k i : Nat) (s : Shared), i + k = ys.length → Inv X pins σ (upd H q (.lst (ys.take i))) s → SqL X.K H b ys → s.heap.IsListIter p b i → FpOk X pins (upd H q (.lst (ys.take i))) p →
   codeAny (model X.prog X.w) A1 (.builtin "list.extend.loop" ⟨[.ref q, .ref p, .none], []⟩) Rs s := by
 intro k
 induction k with
 | zero =>
  intro i s hi I hb st fp
  have e0 : ys.take i = ys := List.take_of_length_le (by omega)
  refine codeAny_builtin PySem.F.entry_extend_loop ?_
  rw [Around.under_plainId PySem.F.plain_extend_loop _]
  show wpAny _ A1.in1 (pyNext (.ref p) >>= _) _ _ s
  have hb' : SqL X.K (upd H q (.lst (ys.take i))) b ys := by
   unfold SqL Rd at hb ⊢
   simp only [upd_ne (Ne.symm hqb)]
   exact hb
  obtain ⟨its, rv, pl, hz2⟩ := I.list hb'
  obtain ⟨f0, f1, f2, f3, f4, f5⟩ := fp
  have hl := rv.length
  refine wpAny_bind (wpAny_pyNext_list_end hh st pl.isList (by simp; omega) fun h' eb => ?_)
  have I2 : Inv X pins σ (upd H q (.lst (ys.take i))) { s with heap := h' } := I.turned (t' := s.toks) (fun b o hb e => eb b o hb e) f0 f1 f3 f4 f5
  rw [e0] at I2
  exact wpAny_pure (hdone _ I2)
 | succ k ih =>
  intro i s hi I hb st fp
  refine codeAny_builtin PySem.F.entry_extend_loop ?_
  rw [Around.under_plainId PySem.F.plain_extend_loop _]
  show wpAny _ A1.in1 (pyNext (.ref p) >>= _) _ _ s
  have hb' : SqL X.K (upd H q (.lst (ys.take i))) b ys := by
   unfold SqL Rd at hb ⊢
   simp only [upd_ne (Ne.symm hqb)]
   exact hb
  obtain ⟨its, rv, pl, hz2⟩ := I.list hb'
  have hi2 : i < ys.length := by omega
  obtain ⟨u, hu, ru⟩ := rv.get (List.getElem?_eq_getElem hi2)
  obtain ⟨f0, f1, f2, f3, f4, f5⟩ := fp
  have hpq : p ≠ q := fun z => by rw [z, upd_same] at f0; cases f0
  refine wpAny_bind (wpAny_pyNext_list_item st pl.isList (x := u) (by simpa using hu) fun h' st' sb => ?_)
  have I1 : Inv X pins σ (upd H q (.lst (ys.take i))) { s with heap := h' } := I.turned (t' := s.toks) (fun b o hb e => (sb.2 b hb).trans e) f0 f1 f3 f4 f5
  show wpAny _ A1.in1 (updateSeq q (·.push u) >>= _) _ _ _
  obtain ⟨z, its2, k2, r2, hl, e⟩ := I1.lstM upd_same
  have lt : (ys.take i).length = i := by rw [List.length_take]; omega
  have hlen : its2.length = i := by rw [← r2.length, lt]
  have hil : i < sizeLine := Nat.lt_of_lt_of_le hi2 hz
  refine wpAny_bind (wpAny_updateSeq e rfl (wpAny_pure ⟨plainId_quiet PySem.F.plain_extend_loop _, ?_⟩) (by rw [List.size_toArray]; omega) (by show (its2.toArray.push u).size ≤ sizeLine + 1; rw [Array.size_push, List.size_toArray]; omega))
  have I2 := I1.lset (f := (·.push u)) (its' := its2 ++ [u]) (t' := s.toks) upd_same e (by simp) (r2.append (.cons ru .nil)) (by rw [List.length_append, List.length_singleton]; omega)
  rw [upd_upd] at I2
  have et : ys.take i ++ [ys[i]] = ys.take (i + 1) := by rw [List.take_succ, List.getElem?_eq_getElem hi2]; rfl
  rw [et] at I2
  refine ih (i + 1) _ (by omega) I2 hb ?_ ⟨?_, f1, f2, f3, f4, f5⟩
  · exact st'.at fun o e' => ((Heap.SameBut.update _ _ _).2 p hpq).trans e'
  · rw [upd_ne hpq] at f0 ⊢; exact f0
def rOwnIt (K : PySem.W.Frag) (n fld : Str) : List V → Hp → VK → Prop := fun xs H Q => ∃ a dx fs b ys, xs = [.ref a] ∧ H a = some (.ins (He.ga K n) dx fs) ∧ fs.lookup fld = some (.ref b) ∧ SqL K H b ys ∧ ∀ q, H q = none → Q (.ref q) (upd H q (.lst ys))
theorem call_listOwnS {n fld : Str} {k : Nat} {E0 : XK} (F : DIter X.prog X.w X.K X.mg X.base n fld k) (NL : OwnC X.K n) (hr : Room (k + 2) X.A) (hx : PassesAt (L2N.CX X.prog X.w) X σ E0) :
  ∀ {us : List Value} {xs : List V} {Q : VK}, Inv X pins σ H s → Vals xs us → rOwnIt X.K n fld xs H Q → wpAny (model X.prog X.w) X.A (call (.type "list") us) (EP X pins σ Q) X.xe s := by
 intro us xs Q I rv h
 obtain ⟨f, hm, run⟩ := F.ex
 obtain ⟨a, dx, fs, b, ys, rfl, ha, hl, hb, hQ⟩ := h
 obtain ⟨u, rfl, ru⟩ := rv.one
 cases ru
 refine callType_codes (Q₁ := fun obj s₁ => obj = .ref s.heap.objs.size ∧ s₁ = { s with heap := s.heap.push { cls := .type "list", data := .seq #[] } }) PySem.F.called_list (PySem.F.typeCall_list_1 _) PySem.F.entry_list_init
  (code_list_new _ ⟨rfl, rfl⟩) fun obj s₁ h₁ => ?_
 obtain ⟨rfl, rfl⟩ := h₁
 have hS : (s.heap.push { cls := .type "list", data := .seq #[] }).get? s.heap.objs.size = some { cls := .type "list", data := .seq #[] } := Heap.get?_push_size _ rfl
 refine ⟨⟨_, hS, rfl⟩, PySem.F.args_list_init_2 _ _, ?_⟩
 have fr : H s.heap.objs.size = none := I.hok.fresh (Nat.le_refl _)
 have I1 : Inv X pins σ (upd H s.heap.objs.size (.lst [])) { s with heap := s.heap.push { cls := .type "list", data := .seq #[] } } := I.lnew (its := []) (t' := s.toks) .nil (Nat.zero_le _)
 show wpAny _ _ (do let old ← Builtin.List.listItems (.ref s.heap.objs.size); Builtin.List.listUpdate (.ref s.heap.objs.size) (fun _ => #[]); letGo old.toList.reverse; Builtin.List.listExtendWith (.ref s.heap.objs.size) (.ref a) .none) _ _ _
 refine wpAny_bind ?_
 unfold Builtin.List.listItems
 refine wpAny_bind (wpAny_seqItems hS rfl (wpAny_pure ?_))
 show wpAny _ _ (updateSeq s.heap.objs.size (fun _ => #[]) >>= fun _ => letGo (#[] : Array Value).toList.reverse >>= fun _ => Builtin.List.listExtendWith (.ref s.heap.objs.size) (.ref a) .none) _ _ _
 refine wpAny_bind (wpAny_updateSeq hS rfl ?_)
 have I2 := I1.lset (f := fun _ => #[]) (its := []) (its' := []) (ys := []) (t' := s.toks) upd_same hS rfl .nil (Nat.zero_le _)
 rw [upd_upd] at I2
 refine wpAny_bind (wpAny_letGo ?_)
 have hlt : s.heap.objs.size ≠ b := by
  obtain ⟨its, rv, pl, hz⟩ := I.list hb
  obtain ⟨o, eo, _⟩ := pl.isList
  exact Ne.symm (Nat.ne_of_lt (Heap.lt_size eo))
 generalize hq : s.heap.objs.size = q at *
 have ha2 : upd H q (.lst []) a = some (.ins (He.ga X.K n) dx fs) := by rw [upd_ne (ne_of_none ha fr)]; exact ha
 have hqa : q ≠ a := fun z => by rw [← z, fr] at ha; cases ha
 have hz : ys.length ≤ sizeLine := by obtain ⟨its, rv, pl, hz⟩ := I.list hb; exact hz
 have hqb : q ≠ b := hlt
 have hb2 : SqL X.K (upd H q (.lst [])) b ys := by
  unfold SqL Rd at hb ⊢
  simp only [upd_ne (Ne.symm hqb)]
  exact hb
 generalize hs2 : ({ s with heap := (s.heap.push { cls := .type "list", data := .seq #[] }).update q (Obj.mapSeq fun _ => #[]) } : Shared) = s2 at *
 obtain ⟨ox, od, J⟩ := inst_of (K := X.K) I2 ha2
 obtain ⟨m', hF⟩ := I2.fr
 unfold Builtin.List.listExtendWith
 refine wpAny_bind (J.type.here ?_)
 have h1 : Builtin.List.listSameRef (.ref q) (.ref a) = false := by simp [Builtin.List.listSameRef, hqa]
 have h2 : (Value.ref (He.ga X.K n) == Value.type "list") = false := rfl
 have h3 : (Value.ref (He.ga X.K n) == Value.type "tuple") = false := rfl
 simp only [h1, h2, h3, Bool.or_false, Bool.false_eq_true, if_false]
 refine wpAny_bind (PySem.W.owit_iter hF I2.ok.mod.kin J hm.at_ hm.fn ?_)
 have rr : Room k X.A.in1.in1 := (Room.in1 (Room.in1 hr))
 refine wpAny_call (codeAny_mono (run X.A.in1.in1 X.stack s2 (upd H q (.lst [])) a (fun v H' => ∃ p, v = .ref p ∧ upd H q (.lst []) p = none ∧ s2.heap.objs.size ≤ p ∧ H' = upd (upd H q (.lst [])) p (ItO b p 0)) E0 rr I2.env0.in1.in1 ⟨a, dx, fs, b, ys, rfl, ha2, hl, hb2, fun p hp hle => ⟨p, rfl, hp, hle, rfl⟩⟩) fun r s' hq' => ?_)
 cases r with
 | error e => exact hx pins (upd H q (.lst [])) s2 e s' I2 hq'
 | ok fl =>
  cases fl with
  | next => exact False.elim hq'
  | brk => exact False.elim hq'
  | cont => exact False.elim hq'
  | ret u =>
   obtain ⟨v, H', I3, rv, p, rfl, hp, hle, rfl⟩ := I2.after hq'
   cases rv
   have hi : (upd (upd H q (.lst [])) p (ItO b p 0)) p = some (ItO b p 0) := upd_same
   have eo := itO_get I3 hi
   have hT : s'.TypeIs (.ref p) "list_iterator" := ⟨_, eo, rfl⟩
   unfold PySem.W.OwitIt
   refine wpAny_specialOf (name := Str.ofString "__next__") hT slot_listiter_next.lookup ?_
   have hi' := hi
   unfold ItO at hi'
   have I4 := ItX.inv_drop I3 hi'
   have eH : ItX.dropH (upd (upd H q (.lst [])) p (ItO b p 0)) p = upd H q (.lst []) := ItX.dropH_upd hp
   have hn : X.s_0.heap.objs.size ≤ p := Nat.le_trans I2.sz hle
   have fp : FpOk X pins (ItX.dropH (upd (upd H q (.lst [])) p (ItO b p 0)) p) p := ItX.inv_fp I3 hi hn
   rw [eH] at I4 fp
   obtain ⟨ox', od', J'⟩ := inst_of (K := X.K) I4 ha2
   refine wpAny_bind (wpAny_holding ?_)
   unfold Builtin.List.listLengthHint
   refine wpAny_bind (wpAny_bind (J'.type.here ((PySem.W.looks_findIn I4.kIn NL.nolen).here ?_)))
   refine PySem.W.KFB.if_not rfl ?_
   refine PySem.W.KFB.if_not rfl ?_
   refine wpAny_bind (wpAny_bind (J'.type.here ((PySem.W.looks_findIn I4.kIn NL.nohint).here ?_)))
   refine wpAny_pure ?_
   have hd : ∀ s, Inv X pins σ (upd H q (.lst ys)) s → wants (fun r s₂ => r = .none ∧ EP X pins σ Q (.ref q) s₂) X.xe (.ok (.ret .none)) s := fun s I => ⟨rfl, .ref q, _, I, rfl, hQ q fr⟩
   have st : s'.heap.IsListIter p b 0 := ⟨_, eo, rfl, rfl⟩
   obtain ⟨z, its, k2, r3, hl3, e3⟩ := I4.lstM upd_same
   cases r3
   refine wpAny_ite_split (fun _ => ?_) (fun _ => wpAny_pure ⟨plainId_quiet PySem.F.plain_extend_loop _, lst_loop (A1 := X.A.in1) hr.hd hz hd hqb ys.length 0 s' (by omega) I4 hb st fp⟩)
   refine wpAny_bind (wpAny_rule ?_)
   refine wpAny_bind ?_
   show wpAny _ _ (updateSeq q (·.push .none) >>= fun _ => updateSeq q (·.pop)) _ _ _
   refine wpAny_bind (wpAny_updateSeq e3 rfl ?_)
   have I5 := I4.lset (f := (·.push Value.none)) (its' := [Value.none]) (ys := [.non]) (t' := s'.toks) upd_same e3 (by simp) (.cons rfl .nil) (by rw [List.length_singleton, sizeLine_eq]; decide)
   obtain ⟨z4, its4, k4, r4, hl4, e4⟩ := I5.lstM upd_same
   obtain ⟨u4, rfl, ru4⟩ := r4.one
   refine wpAny_updateSeq e4 rfl ?_ (by show 1 ≤ sizeLine; rw [sizeLine_eq]; decide) (by show 0 ≤ sizeLine + 1; exact Nat.zero_le _)
   have I6 := I5.lset (f := (·.pop)) (its := [u4]) (its' := []) (ys := []) (t' := s'.toks) upd_same e4 (by rfl) .nil (Nat.zero_le _)
   rw [upd_upd, upd_upd] at I6
   have hpq : p ≠ q := fun z => by rw [z, upd_same] at hp; cases hp
   refine wpAny_pure ⟨plainId_quiet PySem.F.plain_extend_loop _, lst_loop (A1 := X.A.in1) hr.hd hz hd hqb ys.length 0 _ (by omega) I6 hb ?_ fp⟩
   exact (st.at fun o e' => ((Heap.SameBut.update _ _ _).2 p hpq).trans e').at fun o e' => ((Heap.SameBut.update _ _ _).2 p hpq).trans e'
end
section
variable {X : Cx} {W : WX} {np : Nat} {a : Expr} {fa : M Rv} {pos p : Pos} {k : Nat}
def eLOwn (n fld : Str) (fa : M Rv) : M Rv := do
 let r ← fa
 let d ← toV r
 let ds ← ofO (itFld n fld d)
 pure (.own (.lst ds))
theorem de_listOwn {n fld : Str} (go : Go X W) (F : DIter X.prog X.w X.K X.mg X.base n fld k) (NL : OwnC X.K n) (hr : Room (k + 2) X.A) (hm : X.mg "list" = none) (ha : DE X W a fa) (hg : Gl X "list" := by exact rfl)
  (he : starEach [a] X.env = (false, eval a X.env) :: starEach [] X.env := by rfl) (hpl : (backTo pos (starEach [] X.env)).any (·.1) = false := by rfl) : DE X W (.Call (.Name "list" p) [a] [] pos) (eLOwn n fld fa) := by
 have hc : CallR X (.type "list") (rOwnIt X.K n fld) := fun pins s σ H vs us Q I rv h => call_listOwnS F NL hr (wish_of go.tk σ) I rv h
 refine ⟨(pe_callTy hc hg hm PyProof.Rows.boot_list (pa_cons ha.pe pa_nil he) (by decide) (by decide) he hpl).weak fun σ H Q ⟨c, G, ρ, R, w⟩ => ?_⟩
 unfold tCB
 refine tg_step R (Same.refl G) w fun r ρ1 v G1 H1 R1 s1 _ k w1 => ?_
 obtain ⟨d, G2, ρ2, s2, R2, k2, w2⟩ := toV_wp R1 k (wpM_bind w1)
 obtain ⟨ds, e1, w3⟩ := ofO_wp (wpM_bind w2)
 cases d with
 | obj n' ns es =>
  have e9 : (if n' = n then (lkF fld ns es).bind lstOf else none) = some ds := e1
  by_cases hn : n' = n
  · rw [if_pos hn] at e9
    subst hn
    obtain ⟨l, el, e2⟩ := Option.bind_eq_some_iff.mp e9
    cases l with
    | lst zs =>
     cases e2
     obtain ⟨a1, dx, xs, rfl, h2, h3, hl, h4⟩ := k2
     obtain ⟨v, lv, b1, ys, rfl, hy, hr2⟩ := lkF_ok h4 el
     have hb : SqL X.K H1 b1 ys := .inl (.inl (R2.gh _ _ hy))
     have ha1 : H1 a1 = some (.ins (He.ga X.K n') dx (ns.zip xs)) := R2.gh _ _ h2
     refine ⟨a1, dx, _, b1, ys, rfl, ha1, lv, hb, fun q hq => ?_⟩
     obtain ⟨R', kk⟩ := R2.new_own hq hr2
     exact w3 _ G2 _ R' (s1.trans s2) kk
    | _ => cases e2
  · rw [if_neg hn] at e9; cases e9
 | _ => cases e1
end
end Dl
namespace Dl
open PySem L2
def fzS : S → S
 | .own d => .val d
 | s => s
def frzA (ρ : List S) : List S := ρ.map fzS
def okS : S → Bool
 | .own (.lst _) => true
 | .own _ => false
 | _ => true
def ownL (ρ : List S) : Bool := ρ.all okS
def scaRv : Rv → Bool
 | .val (.int _) => true
 | .val (.bl _) => true
 | .val (.str _) => true
 | .val .non => true
 | _ => false
open Classical in
noncomputable def lent {α : Type} (ok : α → Bool) (f : M α) : M α := fun ρ => if ownL ρ = true then match f (frzA ρ) with
 | some (.ok b ρ') => if ρ' = frzA ρ ∧ ok b = true then some (.ok b ρ) else none
 | _ => none
 else none
open Classical in
noncomputable def lentG (G H : Hp) (σ : L2.St) (ρ : List S) : Hp := fun b => if ∃ (i : Nat) (d : D), ρ[i]? = some (S.own d) ∧ σ[i]? = some (some (V.ref b)) then H b else G b
section
variable {K : PySem.W.Frag} {c : Cn} {G G2 H H2 : Hp} {σ : L2.St} {ρ : List S}
theorem lentG_own (R : Rst K c G H σ ρ) {i : Nat} {d : D} {a : Addr} (h1 : ρ[i]? = some (.own d)) (h2 : σ[i]? = some (some (.ref a))) : lentG G H σ ρ a = H a := if_pos ⟨i, d, h1, h2⟩
theorem lentG_same (R : Rst K c G H σ ρ) : Same G (lentG G H σ ρ) := fun a o e => by
 unfold lentG
 split
 · rename_i h
   obtain ⟨i, d, h1, h2⟩ := h
   obtain ⟨b, e1, e2, _⟩ := R.own i d h1
   rw [h2] at e1; cases e1
   rw [e2] at e; cases e
 · exact e
theorem Rst.back (R : Rst K c G H σ ρ) (hl : ownL ρ = true) (R2 : Rst K c G2 H2 σ (frzA ρ)) (s : Same (lentG G H σ ρ) G2) : Rst K c G H2 σ ρ := by
 refine ⟨R2.fh, fun a o e => R2.gh _ _ (s _ _ (lentG_same R _ _ e)), R.fg, R.len, R.val, fun i d h => ?_, R.ne, R.par⟩
 obtain ⟨a, e1, e2, e3, e4⟩ := R.own i d h
 refine ⟨a, e1, e2, e3, ?_⟩
 have ok : okS (.own d) = true := List.all_eq_true.mp hl _ (List.mem_of_getElem? h)
 cases d with
 | lst ds =>
  obtain ⟨xs, h3, h4⟩ := e4
  exact ⟨xs, R2.gh _ _ (s _ _ ((lentG_own R h e1).trans h3)), h4⟩
 | _ => cases ok
end
section
variable {X : Cx} {W : WX} {e : Expr} {f : M Bool} {g : M Rv}
end
end Dl
namespace Dl
open PySem L2
open Classical in
noncomputable def forLO (i : Nat) (all : List D) (tg : D → List S → Option (List S)) (body : MS) : List D → MS
 | [], ρ => if ρ[i]? = some (.own (.lst all)) then some (.nx ρ) else none
 | d :: ds, ρ => if ρ[i]? = some (.own (.lst all)) then match tg d ρ with
  | none => none
  | some ρ1 => match body ρ1 with
   | some (.nx ρ') => forLO i all tg body ds ρ'
   | some (.ct ρ') => forLO i all tg body ds ρ'
   | some (.bk ρ') => some (.nx ρ')
   | o => o
  else none
section
variable {X : Cx} {W : WX} {np : Nat} {tg : Expr} {sts : List Stmt} {pos p : Pos} {x : Str} {g : D → List S → Option (List S)} {body : MS}
end
def Os.st : Os → List S
 | .nx ρ => ρ
 | .bk ρ => ρ
 | .ct ρ => ρ
 | .rt _ ρ => ρ
 | .ex _ ρ => ρ
section
variable {K : PySem.W.Frag} {c : Cn} {G H : Hp} {σ : L2.St} {ρ : List S}
variable {X : Cx} {W : WX} {np np' : Nat} {s : Stmt} {f : MS}
end
end Dl
namespace Dl
open PySem L2
def zForNL (p : Addr) (all : List D) (g : D → List S → Option (List S)) (w : MA) : List D → MA
 | [] => fun ρ A Φ => (p, all) ∈ A ∧ Φ (.nx ρ A)
 | d :: ds => fun ρ A Φ => (p, all) ∈ A ∧ ∃ ρ1, g d ρ = some ρ1 ∧ w ρ1 A fun o => match o with
  | .nx ρ' A' => zForNL p all g w ds ρ' A' Φ
  | .ct ρ' A' => zForNL p all g w ds ρ' A' Φ
  | .bk ρ' A' => Φ (.nx ρ' A')
  | o => Φ o
def zForN (wo : MEA Rv) (g : D → List S → Option (List S)) (w : MA) : MA := fun ρ A Φ => wo ρ A fun r ρ' A' => ∃ p ds, r = .val (.loc p) ∧ (p, ds) ∈ A' ∧ zForNL p ds g w ds ρ' A' Φ
theorem zForNL_mem {p : Addr} {all : List D} {g : D → List S → Option (List S)} {w : MA} {ds : List D} {ρ : List S} {A : Ar} {Φ : OA → Prop} (h : zForNL p all g w ds ρ A Φ) : (p, all) ∈ A := by
 cases ds with
 | nil => exact h.1
 | cons d ds => exact h.1
def scD : D → Bool
 | .int _ => true
 | .bl _ => true
 | .non => true
 | .str _ => true
 | _ => false
def scS : S → Bool
 | .own (.lst ds) => ds.all scD
 | .own _ => false
 | _ => true
theorem scD_rp {K : PySem.W.Frag} {G G' : Hp} : ∀ {d : D} {v : V}, scD d = true → Rp K G d v → Rp K G' d v := fun {d v} h k => by
 cases d with
 | int i => exact k
 | bl b => exact k
 | non => exact k
 | str s => exact k
 | _ => cases h
theorem scL_rp {K : PySem.W.Frag} {G G' : Hp} : ∀ {ds : List D} {vs : List V}, ds.all scD = true → RpL K G ds vs → RpL K G' ds vs
 | [], _, _, h => h
 | d :: ds, _, hs, ⟨x, r, e, h1, h2⟩ => by
  rw [List.all_cons, Bool.and_eq_true] at hs
  exact ⟨x, r, e, scD_rp hs.1 h1, scL_rp hs.2 h2⟩
section
variable {K : PySem.W.Frag} {c : Cn} {FA G H : Hp} {σ : L2.St} {ρ : List S} {A : Ar}
theorem RstA.peeked (R : RstA K c FA G H σ ρ A) (n : Nat) (hs : ρ.all scS = true) {G' H' : Hp} (R' : Rst K (c.pl fun _ => none) G' H' σ (ρ.map (unlS A n))) (s' : Same (plus G FA) G') :
  ∃ G1, Same G G1 ∧ RstA K c FA G1 H' σ ρ A := by
 have gf : ∀ a o, G a = some o → FA a = none := fun a o e => by
  cases q : FA a with
  | none => rfl
  | some u =>
   have := R.rst.fg a u (by show plus c.F FA a = some u; unfold plus; rw [q])
   rw [this] at e; cases e
 refine ⟨fun a => match FA a with
  | some _ => none
  | none => G' a, fun a o e => ?_, ?_⟩
 · have hf := gf a o e
   show (match FA a with
    | some _ => none
    | none => G' a) = some o
   rw [hf]
   exact s' a o (by unfold plus; rw [hf]; exact e)
 have sG : Same G (fun a => match FA a with
  | some _ => none
  | none => G' a) := fun a o e => by
  have hf := gf a o e
  show (match FA a with
   | some _ => none
   | none => G' a) = some o
  rw [hf]
  exact s' a o (by unfold plus; rw [hf]; exact e)
 have g1 : ∀ a o, (match FA a with
  | some _ => none
  | none => G' a) = some o → G' a = some o ∧ FA a = none := fun a o e => by
  cases q : FA a with
  | none => rw [q] at e; exact ⟨e, rfl⟩
  | some u => rw [q] at e; cases e
 have mo : ∀ {i : Nat} {d : D}, ρ[i]? = some (.own d) → (ρ.map (unlS A n))[i]? = some (.own d) := fun {i d} h => by rw [List.getElem?_map, h]; rfl
 refine ⟨⟨fun a o e => ?_, fun a o e => R'.gh a o (g1 a o e).1, fun a o e => ?_, R.rst.len, fun i d h => ?_, fun i d h => ?_, R.rst.ne, R.rst.par⟩, R.rep.mono sG, R.dis⟩
 · have e : plus c.F FA a = some o := e
   cases q : FA a with
   | none =>
    have e : c.F a = some o := by unfold plus at e; rw [q] at e; exact e
    exact R'.fh a o e
   | some u =>
    have e : u = o := by unfold plus at e; rw [q] at e; exact Option.some.inj e
    subst e
    exact R'.gh a _ (s' a _ (by unfold plus; rw [q]))
 · have e : plus c.F FA a = some o := e
   show (match FA a with
    | some _ => none
    | none => G' a) = none
   cases q : FA a with
   | none =>
    have e : c.F a = some o := by unfold plus at e; rw [q] at e; exact e
    exact R'.fg a o e
   | some u => rfl
 · obtain ⟨v, k1, k2⟩ := R.rst.val i d h
   exact ⟨v, k1, k2.mono sG⟩
 · obtain ⟨r, k1, k2, k3, k4⟩ := R.rst.own i d h
   obtain ⟨r', l1, l2, l3, l4⟩ := R'.own i d (mo h)
   rw [k1] at l1; cases l1
   refine ⟨r, k1, ?_, k3, ?_⟩
   · show (match FA r with
       | some _ => none
       | none => G' r) = none
     cases q : FA r with
     | none => exact l2
     | some u => rfl
   · have hsi := List.all_eq_true.mp hs _ (List.mem_of_getElem? h)
     cases d with
     | lst es => obtain ⟨ys, p1, p2⟩ := l4; exact ⟨ys, p1, scL_rp hsi p2⟩
     | _ => cases hsi
end
section
variable {X : Cx} {W : WX} {np : Nat} {a b o e tg : Expr} {es : List Expr} {fa fb fe : M Rv} {wa wo we : MEA Rv} {pos apos cpos p p2 : Pos} {sts : List Stmt} {g : D → List S → Option (List S)} {w : MA} {f : M Rv}
theorem dsa_forN {ts : List Nat} (go : Go X W) (ho : DEA X o wo) (hg : DG X tg ts g) (hb : DLA X W np sts w) (hs : ∀ v, foldedSetIterable o X.env v = pure v := by intro _; rfl) : DSA X W np (.For tg o sts [] pos) (zForN wo g w) :=
 ⟨(ps_for go.po go.calm (pi_list ho.pe) hg.pg hb.pss hs).weak fun Dn σ H ⟨c, FA, G, ρ, A, Φ, hl, R, h, po⟩ => by
  refine ⟨c, FA, G, ρ, A, _, R, h, fun r ρ1 A1 ⟨p, ds, er, hm, h1⟩ v FA1 G1 H1 R1 s1 k1 => ?_⟩
  subst er
  obtain rfl : v = .ref p := k1
  obtain ⟨xs0, _, q2, _⟩ := R1.node hm
  refine ⟨p, rfl, ⟨xs0, .inl (.inl q2)⟩, ?_⟩
  refine ⟨fun k m σ2 H2 => m = ds.length - k ∧ k ≤ ds.length ∧ ∃ FA2 G2 ρ2 A2, RstA X.K c FA2 G2 H2 σ2 ρ2 A2 ∧ Same G1 G2 ∧ zForNL p ds g w (ds.drop k) ρ2 A2 Φ,
   ⟨ds.length, by omega, Nat.zero_le _, FA1, G1, ρ1, A1, R1, Same.refl G1, h1⟩, ?_⟩
  rintro k m σ2 H2 ⟨hmm, hk, FA2, G2, ρ2, A2, R2, s2, h2⟩
  obtain ⟨xs, _, l2, l3⟩ := R2.node (zForNL_mem h2)
  have q1 : SqL X.K H2 p xs := .inl (.inl l2)
  by_cases hlt : k < ds.length
  · have hkx : k < xs.length := by rw [l3.length]; exact hlt
    refine .inr ⟨⟨xs, xs[k], q1, List.getElem?_eq_getElem hkx⟩, fun σ' H' => (k + 1 ≤ ds.length ∧ ∃ FA' G' ρ' A', RstA X.K c FA' G' H' σ' ρ' A' ∧ Same G1 G' ∧ zForNL p ds g w (ds.drop (k + 1)) ρ' A' Φ), fun σ' H' hN => ⟨ds.length - (k + 1), by omega, rfl, hN⟩, fun x H' hy => ?_⟩
    obtain ⟨rfl, hy⟩ := hy
    have ex := hy xs q1
    have kx : Rp X.K G2 ds[k] x := by
     obtain ⟨y, y1, y2⟩ := l3.get (List.getElem?_eq_getElem hlt)
     rw [ex] at y1; cases y1; exact y2
    have hd : ds.drop k = ds[k] :: ds.drop (k + 1) := List.drop_eq_getElem_cons hlt
    rw [hd] at h2
    unfold zForNL at h2
    obtain ⟨_, ρ3, q, h2⟩ := h2
    refine ⟨c.pl FA2, G2, ρ2, ds[k], ρ3, R2.rst, kx, q, fun σ3 R3' _ => ?_⟩
    refine ⟨c, FA2, G2, ρ3, A2, _, hl, ⟨R3', R2.rep, R2.dis⟩, h2, fun o ho => ?_⟩
    cases o with
    | nx ρ4 A4 => exact fun σ4 FA4 G4 H4 R4 s4 => ⟨by omega, FA4, G4, ρ4, A4, R4, s2.trans s4, ho⟩
    | ct ρ4 A4 => exact fun σ4 FA4 G4 H4 R4 s4 => ⟨by omega, FA4, G4, ρ4, A4, R4, s2.trans s4, ho⟩
    | bk ρ4 A4 => exact fun σ4 FA4 G4 H4 R4 s4 => po _ ho σ4 FA4 G4 H4 R4 ((s1.trans s2).trans s4)
    | rt r ρ4 A4 => exact (po _ ho).mono (s1.trans s2)
    | ex x ρ4 A4 => exact (po _ ho).mono (s1.trans s2)
  · have e0 : k = ds.length := by omega
    subst e0
    rw [List.drop_length] at h2
    exact .inl ⟨⟨xs, q1, by rw [l3.length]; exact Nat.le_refl _⟩, po _ h2.2 σ2 FA2 G2 H2 R2 (s1.trans s2)⟩⟩
end
end Dl
namespace Dl
open PySem L2
section
variable {K : PySem.W.Frag} {c : Cn} {FA G H : Hp} {σ : L2.St} {ρ : List S} {A : Ar} {v : V} {ds : List D}
end
structure DAA (X : Cx) (es : List Expr) (w : MEA (List Rv)) : Prop where
 pa : PA X es (tgA X.K (repA X.K) w)
section
variable {X : Cx} {W : WX} {np k : Nat} {x : Str} {a b o e : Expr} {es : List Expr} {fa fe f : M Rv} {wa wo we wi : MEA Rv} {wr : MEA (List Rv)} {pos p : Pos} {fn : Fn}
end
end Dl
namespace Dl
open PySem L2
def popAtD (p : Nat × List D) (d : D) (ρ : List S) : Option (Ot Rv) := match d with
 | .int n => if 0 ≤ n ∧ n < 2 ^ 62 then match p.2[n.toNat]? with
   | some e => some (.ok (.val e) (ρ.set p.1 (.own (.lst (p.2.eraseIdx n.toNat)))))
   | none => none
  else none
 | _ => none
def mPopAt (fo fa : M Rv) : M Rv := do
 let r ← fo
 ckL (settle r)
 let x ← fa
 let d ← peek (settle x)
 fun ρ => match ownLst (settle r) ρ with
  | some p => popAtD p d ρ
  | none => none
def insD (p : Nat × List D) (d e : D) (ρ : List S) : Option (Ot Rv) := match d with
 | .int n => if 0 ≤ n ∧ n < 2 ^ 62 ∧ p.2.length < sizeLine then some (.ok (.val .non) (ρ.set p.1 (.own (.lst (p.2.take n.toNat ++ [e] ++ p.2.drop n.toNat))))) else none
 | _ => none
def insK (r x y : Rv) : M Rv := do
 let d ← peek (settle x)
 let e ← toV (settle y)
 fun ρ => match ownLst (settle r) ρ with
  | some p => insD p d e ρ
  | none => none
def insA (r : Rv) : List Rv → M Rv
 | [x, y] => insK r x y
 | _ => M.fail
def mInsert (fo : M Rv) (ga : M (List Rv)) : M Rv := do
 let r ← fo
 ckL (settle r)
 let xs ← ga
 insA r xs
def isLst : D → Bool
 | .lst _ => true
 | _ => false
def gIndex (d e : D) : Option Rv := match d with
 | .lst ds => if ds.all flD = true ∧ flD e = true then (ds.findIdx? fun z => feq z e).map fun j => .val (.int (j : Nat)) else none
 | _ => none
def ckLv (r : Rv) : M Unit := do
 let d ← peek r
 if isLst d = true then pure () else M.fail
def mIndex (fo fa : M Rv) : M Rv := do
 let r ← fo
 ckLv (settle r)
 let x ← fa
 let e ← peek (settle x)
 let d ← peek (settle r)
 ofO (gIndex d e)
theorem RpL.eraseIdx {K : PySem.W.Frag} {G : Hp} : ∀ {ds : List D} {xs : List V} (i : Nat), RpL K G ds xs → RpL K G (ds.eraseIdx i) (xs.eraseIdx i)
 | [], _, i, h => by cases h; simp [RpL]
 | d :: ds, _, 0, ⟨x, r, h1, h2, h3⟩ => by subst h1; exact h3
 | d :: ds, _, i + 1, ⟨x, r, h1, h2, h3⟩ => by subst h1; exact ⟨x, r.eraseIdx i, rfl, h2, h3.eraseIdx i⟩
section
variable {X : Cx} {W : WX} {np : Nat} {o e e2 a b : Expr} {fo fa fb : M Rv} {ga : M (List Rv)} {pos apos cpos p : Pos}
end
end Dl
namespace Dl
open PySem L2
def lcN (tg : D → List S → Option (List S)) (tt : M Bool) (te : M Rv) (vs : List Nat) : List D → List (List D) → M (List (List D))
 | [], acc, ρ => some (.ok acc ρ)
 | d :: ds, acc, ρ => match tg d (wipeS ρ vs) with
  | none => none
  | some ρ1 => match tt ρ1 with
   | some (.ok false ρ2) => lcN tg tt te vs ds acc (backS ρ ρ2 vs)
   | some (.ok true ρ2) => match te ρ2 with
    | some (.ok (.own (.lst e)) ρ3) => lcN tg tt te vs ds (acc ++ [e]) (backS ρ ρ3 vs)
    | _ => none
   | _ => none
def nodesL (bs : List Addr) (L : List (List D)) : Ar := (bs.zip L).reverse
theorem nodesL_snoc {bs : List Addr} {L : List (List D)} (h : bs.length = L.length) (b : Addr) (e : List D) : nodesL (bs ++ [b]) (L ++ [e]) = (b, e) :: nodesL bs L := by
 unfold nodesL
 rw [List.zip_append h, List.reverse_append]; rfl
theorem locs_rp {K : PySem.W.Frag} {G : Hp} : ∀ bs : List Addr, RpL K G (bs.map D.loc) (bs.map V.ref)
 | [] => rfl
 | b :: bs => ⟨_, _, rfl, rfl, locs_rp bs⟩
def zLc (it : M (List D)) (tg : D → List S → Option (List S)) (tt : M Bool) (te : M Rv) (vs : List Nat) : MEA Rv := fun ρ A Φ => ∃ ds ρ1 L ρe, it ρ = some (.ok ds ρ1) ∧ noOwn ρ1 vs = true ∧ lcN tg tt te vs ds [] ρ1 = some (.ok L ρe) ∧
 ∀ bs : List Addr, bs.length = L.length → bs.Nodup → (∀ b ∈ bs, b ∉ keys A) → Φ (.own (.lst (bs.map D.loc))) ρe (nodesL bs L ++ A)
section
variable {K : PySem.W.Frag} {c : Cn} {FA G H : Hp} {σ : L2.St} {ρ : List S} {A : Ar} {D0 b : Addr} {o : HO} {es : List D} {xs : List V}
theorem RstD.nodeO (R : RstD K c FA G H σ ρ A D0 o) (gb : G b = none) (hFb : ((c.pl FA).with D0 o).F b = none) (hb : H b = some (.lst xs)) (kx : RpL K G es xs) (ns : ∀ (i : Nat) (e : D), ρ[i]? = some (.own e) → σ[i]? ≠ some (some (.ref b))) :
  b ∉ keys A ∧ RstD K c (upd FA b (.lst xs)) G H σ ρ ((b, es) :: A) D0 o := by
 have hbD : b ≠ D0 := fun z => by
  have : upd (plus c.F FA) D0 o b = none := hFb
  rw [z, upd_same] at this; cases this
 have hpl : plus c.F FA b = none := by
  have : upd (plus c.F FA) D0 o b = none := hFb
  rw [upd_ne hbD] at this; exact this
 have hFA : FA b = none := by
  cases q : FA b with
  | none => rfl
  | some u => unfold plus at hpl; rw [q] at hpl; cases hpl
 have hcF : c.F b = none := by unfold plus at hpl; rw [hFA] at hpl; exact hpl
 have hk : b ∉ keys A := fun hm => by
  obtain ⟨p, hp, rfl⟩ := List.mem_map.mp hm
  obtain ⟨ys, h1, _⟩ := R.rep.at_ p.1 p.2 hp
  rw [hFA] at h1; cases h1
 have R2 : Rst K (((c.pl FA).with D0 o).with b (.lst xs)) G H σ ρ := R.rst.keep hb gb (fun b z => nomatch z) ns
 have eF : ((c.pl FA).with D0 o).with b (.lst xs) = (c.pl (upd FA b (.lst xs))).with D0 o := by
  have : upd (upd (plus c.F FA) D0 o) b (.lst xs) = upd (plus c.F (upd FA b (.lst xs))) D0 o := funext fun x => by
   by_cases xb : x = b
   · subst xb
     rw [upd_same, upd_ne hbD]; unfold plus; rw [upd_same]
   · rw [upd_ne xb]
     by_cases xD : x = D0
     · subst xD; rw [upd_same, upd_same]
     · rw [upd_ne xD, upd_ne xD]; unfold plus; rw [upd_ne xb]
  show ({ c with F := upd (upd (plus c.F FA) D0 o) b (.lst xs) } : Cn) = { c with F := upd (plus c.F (upd FA b (.lst xs))) D0 o }
  rw [this]
 rw [eF] at R2
 refine ⟨hk, R2, ⟨List.nodup_cons.mpr ⟨hk, R.rep.nd⟩, fun a ds hm => ?_, fun a u e => ?_⟩, fun a u e => ?_, ?_⟩
 · rcases List.mem_cons.mp hm with e | hm
   · cases e; exact ⟨xs, upd_same, kx⟩
   · obtain ⟨ys, h1, h2⟩ := R.rep.at_ a ds hm
     have ha : a ≠ b := fun z => by rw [z, hFA] at h1; cases h1
     exact ⟨ys, by rw [upd_ne ha]; exact h1, h2⟩
 · by_cases ha : a = b
   · subst ha; exact List.mem_cons_self
   · rw [upd_ne ha] at e; exact List.mem_cons_of_mem _ (R.rep.dom a u e)
 · have ha : a ≠ b := fun z => by rw [z, hcF] at e; cases e
   rw [upd_ne ha]; exact R.dis a u e
 · show plus c.F (upd FA b (.lst xs)) D0 = none
   have := R.no
   unfold plus at this ⊢
   rw [upd_ne (Ne.symm hbD)]; exact this
end
theorem keys_nodesL {bs : List Addr} {L : List (List D)} (h : bs.length = L.length) {a : Addr} (ha : a ∈ bs) : a ∈ keys (nodesL bs L) := by
 have : (bs.zip L).map (·.1) = bs := List.map_fst_zip (by omega)
 unfold nodesL
 show a ∈ List.map (·.1) (bs.zip L).reverse
 rw [List.map_reverse, this]
 exact List.mem_reverse.mpr ha
section
variable {X : Cx} {W : WX} {elt tg iter : Expr} {ifs : List Expr} {scope : Scope} {pos spos : Pos} {it : M (List D)} {g : D → List S → Option (List S)} {tt : M Bool} {te : M Rv} {ts vs : List Nat}
theorem tlcN_of (hts : ∀ t ∈ ts, t ∈ vs) {σ : L2.St} {H : Hp} {Q : V → Hp → Prop} (h : tgA X.K (repE X.K) (zLc it g tt te vs) σ H Q) :
  tLc (tDI X.K W it) (tDG X.K ts g) (tDT X.K WX0 tt) (tD X.K WX0 te) vs σ H Q := by
 obtain ⟨c, FA, G, ρ, A, Φ, R, ⟨ds, ρ1, L, ρe, e1, hn, e, hΦ⟩, post⟩ := h
 refine ⟨c.pl FA, G, ρ, R.rst, ?_⟩
 rw [e1]
 intro J G1 H1 R1 s1 wk p hp
 have RA1 : RstA X.K c FA G1 H1 σ ρ1 A := ⟨R1, R.rep.mono s1, R.dis⟩
 refine ⟨fun i m H2 => m = ds.length - i ∧ i ≤ ds.length ∧ ∃ G2 FA2 ρ2 acc bs, bs.length = acc.length ∧ bs.Nodup ∧ (∀ b ∈ bs, b ∉ keys A) ∧ RstD X.K c FA2 G2 H2 σ ρ2 (nodesL bs acc ++ A) p (.lst (bs.map V.ref)) ∧ Same G1 G2 ∧ acc.length ≤ i ∧ noOwn ρ2 vs = true ∧ lcN g tt te vs (ds.drop i) acc ρ2 = some (.ok L ρe),
  ⟨ds.length, by omega, Nat.zero_le _, G1, FA, ρ1, [], [], rfl, List.nodup_nil, (fun b hb => absurd hb List.not_mem_nil), RstD.init RA1 hp (fun b z => nomatch z), Same.refl _, Nat.le_refl _, hn, e⟩, ?_⟩
 rintro i m H2 ⟨hm, hi2, G2, FA2, ρ2, acc, bs, hbl, hbn, hbk, R2, s2, hla, hn2, e2⟩
 by_cases hlt : i < ds.length
 · refine .inr ⟨wk.go R2.rst s2 hlt, fun H' => i + 1 ≤ ds.length ∧ ∃ G2 FA2 ρ2 acc bs, bs.length = acc.length ∧ bs.Nodup ∧ (∀ b ∈ bs, b ∉ keys A) ∧ RstD X.K c FA2 G2 H' σ ρ2 (nodesL bs acc ++ A) p (.lst (bs.map V.ref)) ∧ Same G1 G2 ∧ acc.length ≤ i + 1 ∧ noOwn ρ2 vs = true ∧ lcN g tt te vs (ds.drop (i + 1)) acc ρ2 = some (.ok L ρe),
     fun H' hN => ⟨ds.length - (i + 1), by omega, rfl, hN⟩, fun x H' hy => ?_⟩
   obtain ⟨d, G3, ed, R3, s3, k3⟩ := wk.yld R2.rst s2 hy hlt
   have hd : ds.drop i = d :: ds.drop (i + 1) := by
    rw [List.drop_eq_getElem_cons hlt]
    rw [List.getElem?_eq_getElem hlt] at ed
    rw [Option.some.inj ed]
   rw [hd] at e2
   unfold lcN at e2
   cases q : g d (wipeS ρ2 vs) with
   | none => rw [q] at e2; cases e2
   | some ρ3 =>
    rw [q] at e2
    dsimp only at e2
    refine ⟨(c.pl FA2).with p (.lst (bs.map V.ref)), G3, wipeS ρ2 vs, d, ρ3, R3.wiped _, k3, q, fun σ3 R3' o3 => ?_⟩
    have hw := wipe_out o3 hts
    have hlen : ρ2.length = σ3.length := by
     have z := congrArg List.length hw
     rw [wipe_length, wipe_length] at z
     rw [R2.rst.len, z]
    refine ⟨hw, ?_⟩
    refine ⟨(c.pl FA2).with p (.lst (bs.map V.ref)), G3, ρ3, R3', exk0 ?_⟩
    cases q2 : tt ρ3 with
    | none => rw [q2] at e2; cases e2
    | some o4 =>
     cases o4 with
     | ex x ρ4 => rw [q2] at e2; cases e2
     | ok b ρ4 =>
      rw [q2] at e2
      refine ⟨b, ρ4, rfl, fun b' G4 H4 R4 s4 eb => ?_⟩
      obtain rfl : b' = b := eb
      cases b' with
      | false =>
       rw [if_neg Bool.false_ne_true]
       dsimp only at e2
       have hl4 : ρ2.length = ρ4.length := by rw [hlen, R4.len]
       have sall := s3.trans s4
       exact ⟨by omega, G4, FA2, _, acc, bs, hbl, hbn, hbk, ⟨R2.rst.backed sall R4 hw hn2, R2.rep.mono sall, R2.dis, R2.no⟩, s2.trans sall, by omega, noOwn_back hl4 hn2, e2⟩
      | true =>
       rw [if_pos rfl]
       dsimp only at e2
       refine ⟨(c.pl FA2).with p (.lst (bs.map V.ref)), G4, ρ4, R4, exk0 ?_⟩
       cases q3 : te ρ4 with
       | none => rw [q3] at e2; cases e2
       | some o5 =>
        cases o5 with
        | ex x ρ5 => rw [q3] at e2; cases e2
        | ok r ρ5 =>
         rw [q3] at e2
         cases r with
         | val _ => cases e2
         | ali _ => cases e2
         | own dd =>
         cases dd with
         | lst es =>
          dsimp only at e2
          refine ⟨.own (.lst es), ρ5, rfl, fun y G5 H5 R5 s5 ⟨b, ey, gb, fb, ⟨xs, hb, kx⟩, ns⟩ => ?_⟩
          subst ey
          have hl6 : ρ2.length = ρ5.length := by rw [hlen, R5.len]
          have sall := (s3.trans s4).trans s5
          have RB := R2.rst.backed sall R5 hw hn2
          have RD : RstD X.K c FA2 G5 H5 σ (backS ρ2 ρ5 vs) (nodesL bs acc ++ A) p (.lst (bs.map V.ref)) := ⟨RB, R2.rep.mono sall, R2.dis, R2.no⟩
          obtain ⟨hbk2, R6⟩ := RD.nodeO gb fb hb kx (fun j e q z => by
           rcases backS_get hl6 q with ⟨h1, h2⟩ | ⟨h1, h2⟩
           · have := List.all_eq_true.mp hn2 j h1
             rw [h2] at this
             cases this
           · rw [← same_of_wipe hw h1] at z
             exact ns j e h2 z)
          have hacc : (bs.map V.ref).length < sizeLine := by rw [List.length_map, hbl]; exact Nat.lt_of_lt_of_le (Nat.lt_of_le_of_lt hla hlt) wk.sz
          have hp6 : H5 p = some (.lst (bs.map V.ref)) := R6.rst.fh _ _ (show upd (plus c.F _) p _ p = _ from upd_same)
          refine ⟨bs.map V.ref, hp6, hacc, by omega, G5, upd FA2 b (.lst xs), _, acc ++ [es], bs ++ [b], by rw [List.length_append, List.length_append, hbl]; rfl, ?_, fun b' hb' => ?_, ?_, s2.trans sall, by rw [List.length_append, List.length_singleton]; omega, noOwn_back hl6 hn2, e2⟩
          · refine List.nodup_append.mpr ⟨hbn, List.pairwise_singleton _ _, fun a ha b' hb' e => ?_⟩
            rw [List.mem_singleton.mp hb'] at e
            subst e
            exact hbk2 (by
             show a ∈ List.map (·.1) (nodesL bs acc ++ A)
             rw [List.map_append]
             exact List.mem_append_left _ (keys_nodesL hbl ha))
          · rcases List.mem_append.mp hb' with h | h
            · exact hbk b' h
            · rw [List.mem_singleton.mp h]
              intro z
              exact hbk2 (by
               show b ∈ List.map (·.1) (nodesL bs acc ++ A)
               rw [List.map_append]
               exact List.mem_append_right _ z)
          · rw [nodesL_snoc hbl, List.map_append]
            exact R6.store fun b z => nomatch z
         | _ => cases e2
 · have e0 : i = ds.length := by omega
   subst e0
   rw [List.drop_length] at e2
   cases e2
   have hF : ((c.pl FA2).with p (.lst (bs.map V.ref))).F p = some (.lst (bs.map V.ref)) := upd_same
   refine .inl ⟨wk.stop R2.rst s2, ?_⟩
   refine post _ _ _ (hΦ bs hbl hbn hbk) (.ref p) FA2 G2 H2 ⟨R2.rst.unkeep R2.no, R2.rep, R2.dis⟩ (s1.trans s2) ⟨p, rfl, R2.rst.fg _ _ hF, R2.no, ⟨_, R2.rst.fh _ _ hF, locs_rp bs⟩, fun j e hj z => ?_⟩
   obtain ⟨a, g1, g2, g3, g4⟩ := R2.rst.own j e hj
   rw [z] at g1; cases g1
   rw [hF] at g3; cases g3
theorem dsa_setLcN {np : Nat} {y : Str} {py : Pos} (i : Nat) (own : List (Str × Nat)) (hy : X.N[i]? = some y) (hyl : X.env.scope.names.lookup y = some .local) (hk : X.env.scope.kind = .function) (hln : (py.line == pos.line) = true) (hnn : (scope.names.any fun (n, k) => n == y && (k == .local || k == .cell)) = false) (go : Go X W) (hi : DI X W tg iter it) (ok : BlkOk X.N X.env.scope scope own)
  (hg : ∀ (s : Shared) (H : Hp) (C : Addr) (cl : List (Str × Addr)) (fp : List Addr), DG (X.blk s H scope (compEnvC scope cl C X.env) fp) tg ts g) (ht : ∀ (s : Shared) (H : Hp) (C : Addr) (cl : List (Str × Addr)) (fp : List Addr), DTs (X.blk s H scope (compEnvC scope cl C X.env) fp) ifs tt)
  (he : ∀ (s : Shared) (H : Hp) (C : Addr) (cl : List (Str × Addr)) (fp : List Addr), DE (X.blk s H scope (compEnvC scope cl C X.env) fp) WX0 elt te) (hp : np ≤ i := by decide) (hts : ∀ t ∈ ts, t ∈ own.map (·.2) := by decide) (hs : ∀ x, foldedSetIterable iter X.env x = pure x := by intro _; rfl) :
  DSA X W np (.Assign [.Name y py] (.ListComp elt [⟨tg, iter, ifs, 0⟩] scope pos) spos) (zSetO i (zLc it g tt te (own.map (·.2)))) :=
 ⟨(ps_setLc (g := tDG X.K ts g) (tt := tDT X.K WX0 tt) (te := tD X.K WX0 te) go.calm go.nd hy hyl (sw_true hk hyl hln hnn) hi.pi ok (fun s H C cl fp => (hg s H C cl fp).pg) (fun s H C cl fp => (ht s H C cl fp).pts) (fun s H C cl fp => (he s H C cl fp).pe) hs).weak fun Dn σ H ⟨c, FA, G, ρ, A, Φ, hl, R, h, po⟩ => tlcN_of hts ⟨c, FA, G, ρ, A, _, R, h, fun r ρ1 A1 ⟨d, er, hΦ⟩ vv FA1 G1 H1 R1 s1 k1 => by
  subst er
  exact po _ hΦ _ FA1 G1 H1 ⟨R1.rst.set_own k1 (by show c.s0.length ≤ i; omega), R1.rep, R1.dis⟩ s1⟩⟩
end
end Dl
namespace Dl
open PySem L2
def zPeekT (n : Nat) (f : M Bool) : MEA Bool := fun ρ A Φ => ∃ b, f (ρ.map (unlS A n)) = some (.ok b (ρ.map (unlS A n))) ∧ ρ.all scS = true ∧ Φ b ρ A
theorem dta_peek {X : Cx} {W : WX} {e : Expr} {f : M Bool} (n : Nat) (h : DT X W e f) : DTA X e (zPeekT n f) := ⟨h.pt.weak fun σ H Q ⟨c, FA, G, ρ, A, Φ, R, ⟨i, e1, hs, hΦ⟩, post⟩ => by
 obtain ⟨s0, R0⟩ := R.still n
 refine ⟨c.pl (fun _ => none), plus G FA, ρ.map (unlS A n), R0.rst, ?_⟩
 rw [e1]
 intro v G' H' R' s' k
 obtain ⟨G1, sG, R1⟩ := R.peeked n hs R' s'
 exact post _ ρ A hΦ v FA G1 H' R1 sG k⟩
end Dl
namespace Dl
open PySem L2
section
variable {X : Cx} {W : WX} {a b e o : Expr} {fa fb : M Rv} {p p2 pos : Pos} {k np : Nat} {fn : Fn}
theorem pt_notInS {C f : Addr} {fd : FuncData} {ps : List Str} {sp : Sp} {E : L2.St → XK} {CXx : CXT} {ta tb : TE} (ha : PE X a ta) (hb : PE X b tb) (hm : Meth X.K C "__contains__" f) (F : FnOk X.prog X.w X.K X.mg X.base CXx k f fd ps sp) (hr : Room k X.A) (hbi : Binds X.K fd ps []) (hx : ∀ σ, PassesAt CXx X σ (E σ))
  (hmk : behindInMarks .NotIn b = false := by rfl) : PT X (.Compare a [.NotIn] [b] pos) (fun σ H Q => tInS X.K C sp E ta tb σ H fun x H' => ∃ k, x = V.bl k ∧ Q (!k) H') := by
 refine ⟨fun pins s σ H Q I h => ?_⟩
 refine wpAny_isTrue_Compare1 (thn (ha.run pins s σ H _ I h) fun v s1 ⟨x, H1, I1, rx, q1⟩ => thn (hb.run pins s1 σ H1 _ I1 q1) fun u s2 ⟨y, H2, I2, ry, q⟩ => ?_) hmk
 obtain ⟨b1, dy, gs, rfl, h2, q⟩ := q
 cases (show u = Value.ref b1 from ry)
 obtain ⟨oy, od', J'⟩ := inst_of (K := X.K) I2 h2
 obtain ⟨m', hF⟩ := I2.fr
 refine PySem.W.notIn_K hF I2.ok.mod.kin J' hm.at_ hm.fn ?_
 refine wpAny_mono (run_fnSD (us := [.ref b1, v]) (vs := [.ref b1, x]) (dvs := []) (ds := []) (E := E) F hr hbi .nil (hx σ) I2 (.cons rfl (.cons rx .nil)) (by rw [List.append_nil]; exact q)) (fun w s' z => ?_) fun _ _ x => x
 obtain ⟨z', H', I', rz, qq, rfl, k', ek, qz⟩ := z
 cases ek
 cases (show w = Value.bool qq from rz)
 exact wpAny_pure (wpAny_truthy_bool ⟨H', I', qz⟩)
theorem tDT_not {K : PySem.W.Frag} {f : M Bool} {σ : L2.St} {H : Hp} {Q : Bool → Hp → Prop} (h : tDT K W (tNot f) σ H Q) : tDT K W f σ H (fun x H' => Q (!x) H') := by
 obtain ⟨c, G, ρ, R, w⟩ := h
 exact tg_step R (Same.refl G) w fun x ρ1 v G1 H1 R1 s1 _ k1 w1 => by
  obtain rfl : v = x := k1
  exact w1 (!v) G1 H1 R1 s1 rfl
theorem dt_own_notIn {n : Str} (mu : List Bool) (go : Go X W) (F : DMeth X.prog X.w X.K X.mg X.base n "__contains__" k np fn) (hr : Room k X.A) (ha : DE X W a fa) (hb : DE X W b fb) (hmk : behindInMarks .NotIn b = false := by rfl) : DT X W (.Compare a [.NotIn] [b] pos) (tNot (tCmp (eOwnIn n mu fn fa fb))) := by
 obtain ⟨f, fd, ps, hm, hbi, FO⟩ := F.ex
 exact ⟨(pt_notInS (E := WE W) ha.pe hb.pe hm FO hr hbi (wish_of go.tk) hmk).weak fun σ H Q h => ownIn_sp F.len (tD_cmp (tDT_not h))⟩
end
end Dl
namespace Dl
open PySem L2
mutual
def brD : D → D
 | .lst ds => .brw (brL ds)
 | .tup ds => .tup (brL ds)
 | .brw ds => .brw (brL ds)
 | d => d
def brL : List D → List D
 | [] => []
 | d :: ds => brD d :: brL ds
end
section
variable {K : PySem.W.Frag} {G : Hp}
mutual
theorem Rp.br : ∀ (d : D) (v : V), Rp K G d v → Rp K G (brD d) v
 | .lst ds, _, ⟨a, xs, h1, h2, h3⟩ => ⟨a, xs, h1, .inl (.inl h2), RpL.br ds xs h3⟩
 | .tup ds, _, ⟨a, xs, h1, h2, h3⟩ => ⟨a, xs, h1, h2, RpL.br ds xs h3⟩
 | .brw ds, _, ⟨a, xs, h1, h2, h3⟩ => ⟨a, xs, h1, h2, RpL.br ds xs h3⟩
 | .non, _, h => h
 | .bl _, _, h => h
 | .int _, _, h => h
 | .str _, _, h => h
 | .obj _ _ _, _, h => h
 | .dic _ _, _, h => h
 | .scr _, _, h => h
 | .ty _, _, h => h
 | .cls _, _, h => h
 | .loc _, _, h => h
 | .ndi _ _, _, h => h
 | .xob _ _ _ _, _, h => h
 | .gho _, _, h => h
 | .tpl _, _, h => h
theorem RpL.br : ∀ (ds : List D) (xs : List V), RpL K G ds xs → RpL K G (brL ds) xs
 | [], _, h => h
 | d :: ds, _, ⟨x, r, h1, h2, h3⟩ => ⟨x, r, h1, Rp.br d x h2, RpL.br ds r h3⟩
end
end
def eBrw (fa : M Rv) : M Rv := do
 let r ← fa
 let d ← toV r
 pure (.val (brD d))
theorem de_brw {X : Cx} {W : WX} {e : Expr} {fa : M Rv} (h : DE X W e fa) : DE X W e (eBrw fa) :=
 ⟨h.pe.weak fun σ H Q ⟨c, G, ρ, R, w⟩ => tg_step R (Same.refl G) w fun r ρ1 v G1 H1 R1 s1 _ k1 w1 => by
  obtain ⟨d, G2, ρ2, s2, R2, k2, w2⟩ := toV_wp R1 k1 (wpM_bind w1)
  exact w2 v G2 H1 R2 (s1.trans s2) (k2.br d v)⟩
mutual
def noB : D → Bool
 | .lst ds => noBL ds
 | .tup ds => noBL ds
 | .obj _ _ ds => noBL ds
 | .dic ks vs => noBL ks && noBL vs
 | .tpl ds => noBL ds
 | .non | .bl _ | .int _ | .str _ | .ty _ | .cls _ | .loc _ | .gho _ => true
 | _ => false
def noBL : List D → Bool
 | [] => true
 | d :: ds => noB d && noBL ds
end
def wo (G : Hp) (a : Addr) : Hp := fun b => if b = a then none else G b
theorem wo_ne {G : Hp} {a b : Addr} (h : b ≠ a) : wo G a b = G b := if_neg h
theorem wo_same {G : Hp} {a : Addr} : wo G a a = none := if_pos rfl
section
variable {K : PySem.W.Frag} {G : Hp} {a : Addr} {o : Obj} {xs : List V}
theorem wo_at (ha : G a = some (.frz o (.lst xs))) {b : Addr} {u : HO} (h : G b = some u) (hu : u ≠ .frz o (.lst xs)) : wo G a b = some u := by
 rw [wo_ne fun z => ?_]
 · exact h
 · subst z
   rw [ha] at h
   exact hu (Option.some.inj h).symm
theorem wo_tup (ha : G a = some (.frz o (.lst xs))) {b : Addr} {ys : List V} (h : SqT K G b ys) : SqT K (wo G a) b ys := by
 rcases h with (h | ⟨o', h⟩) | h
 · exact .inl (.inl (wo_at ha h fun z => nomatch z))
 · exact .inl (.inr ⟨o', wo_at ha h fun z => nomatch z⟩)
 · exact .inr h
mutual
theorem Rp.wo_ (ha : G a = some (.frz o (.lst xs))) : ∀ (d : D) (v : V), noB d = true → Rp K G d v → Rp K (wo G a) d v
 | .lst ds, _, n, ⟨b, ys, h1, h2, h3⟩ => ⟨b, ys, h1, wo_at ha h2 (fun z => nomatch z), RpL.wo_ ha ds ys n h3⟩
 | .tup ds, _, n, ⟨b, ys, h1, h2, h3⟩ => ⟨b, ys, h1, wo_tup ha h2, RpL.wo_ ha ds ys n h3⟩
 | .obj c ns ds, _, n, ⟨b, dx, ys, h1, h2, h3, hl, h4⟩ => ⟨b, dx, ys, h1, wo_at ha h2 (fun z => nomatch z), wo_at ha h3 (fun z => nomatch z), hl, RpL.wo_ ha ds ys n h4⟩
 | .dic ks vs, _, n, ⟨b, kvs, h1, h2, h3, h4⟩ => by
  obtain ⟨n1, n2⟩ := Bool.and_eq_true_iff.mp (show (noBL ks && noBL vs) = true from n)
  exact ⟨b, kvs, h1, wo_at ha h2 (fun z => nomatch z), RpL.wo_ ha ks _ n1 h3, RpL.wo_ ha vs _ n2 h4⟩
 | .tpl ds, _, n, ⟨b, h1, o', ys, h2, h3, h4⟩ => ⟨b, h1, o', ys, wo_at ha h2 (fun z => nomatch z), h3, RpL.wo_ ha ds ys n h4⟩
 | .non, _, _, h => h
 | .bl _, _, _, h => h
 | .int _, _, _, h => h
 | .str _, _, _, h => h
 | .ty _, _, _, h => h
 | .cls _, _, _, h => h
 | .loc _, _, _, h => h
 | .gho _, _, _, h => h
 | .scr _, _, n, _ => nomatch n
 | .ndi _ _, _, n, _ => nomatch n
 | .xob _ _ _ _, _, n, _ => nomatch n
 | .brw _, _, n, _ => nomatch n
theorem RpL.wo_ (ha : G a = some (.frz o (.lst xs))) : ∀ (ds : List D) (ys : List V), noBL ds = true → RpL K G ds ys → RpL K (wo G a) ds ys
 | [], _, _, h => h
 | d :: ds, _, n, ⟨x, r, h1, h2, h3⟩ => by
  obtain ⟨n1, n2⟩ := Bool.and_eq_true_iff.mp (show (noB d && noBL ds) = true from n)
  exact ⟨x, r, h1, Rp.wo_ ha d x n1 h2, RpL.wo_ ha ds r n2 h3⟩
end
theorem Ow.wo_ {F H : Hp} {b : Addr} {u : HO} (ha : G a = some (.frz o (.lst xs))) (hh : H a = some (.frz o (.lst xs))) (d : D) (n : noB d = true) (h : Ow K F G H b d) : Ow K F (wo G a) (upd H a u) b d := by
 have ne : ∀ {b : Addr} {w : HO}, H b = some w → w ≠ .frz o (.lst xs) → b ≠ a := fun {b w} e hw z => by
  subst z
  rw [hh] at e
  exact hw (Option.some.inj e).symm
 have wn : ∀ {b : Addr}, G b = none → wo G a b = none := fun {b} e => by
  unfold Dl.wo
  split
  · rfl
  · exact e
 cases d with
 | lst ds => obtain ⟨ys, h1, h2⟩ := h; exact ⟨ys, by rw [upd_ne (ne h1 fun z => nomatch z)]; exact h1, h2.wo_ ha ds ys n⟩
 | obj c ns ds =>
  obtain ⟨dx, ys, h1, h2, h3, h4, h5, hl, h6⟩ := h
  exact ⟨dx, ys, by rw [upd_ne (ne h1 fun z => nomatch z)]; exact h1, by rw [upd_ne (ne h2 fun z => nomatch z)]; exact h2, wn h3, h4, h5, hl, h6.wo_ ha ds ys n⟩
 | dic ks vs =>
  obtain ⟨n1, n2⟩ := Bool.and_eq_true_iff.mp (show (noBL ks && noBL vs) = true from n)
  obtain ⟨kvs, h1, h2, h3⟩ := h
  exact ⟨kvs, by rw [upd_ne (ne h1 fun z => nomatch z)]; exact h1, h2.wo_ ha ks _ n1, h3.wo_ ha vs _ n2⟩
 | ndi ks vs => cases n
 | _ => exact h.elim
end
def noBS : List S → Bool
 | [] => true
 | .own d :: l => noB d && noBS l
 | _ :: l => noBS l
theorem noBS_get : ∀ {ρ : List S} {i : Nat} {d : D}, noBS ρ = true → ρ[i]? = some (.own d) → noB d = true
 | [], _, _, _, e => by cases e
 | s :: ρ, 0, d, h, e => by
  rw [List.getElem?_cons_zero] at e
  cases e
  exact (Bool.and_eq_true_iff.mp (show (noB d && noBS ρ) = true from h)).1
 | s :: ρ, i + 1, d, h, e => by
  rw [List.getElem?_cons_succ] at e
  refine noBS_get (ρ := ρ) ?_ e
  cases s with
  | own d' => exact (Bool.and_eq_true_iff.mp (show (noB d' && noBS ρ) = true from h)).2
  | _ => exact h
def lnR : Rv → Option Rv
 | .val d => if noB d = true then some (.val d) else none
 | .own d => if noB d = true then some (.own d) else none
 | .ali _ => none
open Classical in
noncomputable def eLoan (j : Nat) (fa : M Rv) : M Rv := fun ρ => match ρ[j]? with
 | some (.own (.lst ds)) => match fa (ρ.set j (.val (.brw (brL ds)))) with
  | some (.ok r ρ') => if ρ' = ρ.set j (.val (.brw (brL ds))) ∧ noBS (ρ.set j (.val .non)) = true then (lnR r).map fun q => .ok q ρ else none
  | _ => none
 | _ => none
section
variable {K : PySem.W.Frag} {c : Cn} {G H : Hp} {σ : L2.St} {ρ : List S} {a : Addr} {xs : List V} {ds : List D} {j : Nat}
theorem Ow.lk {F G1 H1 : Hp} {b : Addr} {d : D} (h : Ow K F G H b d) (s : Same G G1) (hb : H1 b = H b) (hx : ∀ x, H x = some (.own b) → H1 x = H x ∧ (G x = none → G1 x = none)) : Ow K F G1 H1 b d := by
 cases d with
 | lst ds => obtain ⟨ys, h1, h2⟩ := h; exact ⟨ys, hb.trans h1, h2.mono s⟩
 | obj c ns ds =>
  obtain ⟨dx, ys, h1, h2, h3, h4, h5, hl, h6⟩ := h
  obtain ⟨z1, z2⟩ := hx dx h2
  exact ⟨dx, ys, hb.trans h1, z1.trans h2, z2 h3, h4, h5, hl, h6.mono s⟩
 | dic ks vs => obtain ⟨kvs, h1, h2, h3⟩ := h; exact ⟨kvs, hb.trans h1, h2.mono s, h3.mono s⟩
 | ndi ks vs => obtain ⟨kvs, h1, h0, h2, h3⟩ := h; exact ⟨kvs, hb.trans h1, h0, h2.mono s, h3.mono s⟩
 | _ => exact h.elim
end
end Dl
namespace Dl
open PySem L2
theorem pe_exL {X : Cx} {e : Expr} {ι : Type} {t : ι → TE} (h : ∀ i, PE X e (t i)) : PE X e (fun σ H Q => ∃ i, t i σ H Q) := ⟨fun pins s σ H Q I ⟨i, hi⟩ => (h i).run pins s σ H Q I hi⟩
def lockL (t : TE) : List (Addr × List V) → TE
 | [] => t
 | p :: l => fun σ H Q => H p.1 = some (.lst p.2) ∧ ∀ od, lockL t l σ (upd H p.1 (.frz od (.lst p.2))) fun v H' => H' p.1 = some (.frz od (.lst p.2)) ∧ Q v (upd H' p.1 (.lst p.2))
theorem pe_lockL {X : Cx} {e : Expr} {t : TE} (h : PE X e t) : ∀ l, PE X e (lockL t l)
 | [] => h
 | p :: l => (pe_lock (pe_lockL h l)).weak fun σ H Q ⟨h1, h2⟩ => ⟨p.1, .lst p.2, h1, trivial, h2⟩
def unlB (A : Ar) : Nat → D → D
 | 0, d => d
 | n + 1, .loc a => match A.lookup a with
  | some ds => .brw (ds.map (unlB A n))
  | none => .loc a
 | _ + 1, d => d
def unlBS (A : Ar) (n : Nat) : S → S
 | .val d => .val (unlB A n d)
 | s => s
def nbR : Rv → Bool
 | .val d => noB d
 | .own d => noB d
 | .ali _ => false
def contV (F : Hp) (b : Addr) : List V := match F b with
 | some (.lst xs) => xs
 | _ => []
def Ls (F : Hp) (A : Ar) : List (Addr × List V) := A.map fun p => (p.1, contV F p.1)
section
variable {K : PySem.W.Frag} {c : Cn} {FA G H G2 H2 : Hp} {σ : L2.St} {ρ : List S} {A : Ar} {b : Addr} {ds : List D} {xs : List V} {od : Obj}
theorem plus_wo {F : Hp} {x : Addr} (h : x ≠ b) : plus F (wo FA b) x = plus F FA x := by unfold plus; rw [wo_ne h]
theorem plus_at (h : FA b = some (.lst xs)) {F : Hp} : plus F FA b = some (.lst xs) := by unfold plus; rw [h]
theorem RstA.lockN (R : RstA K c FA G H σ ρ ((b, ds) :: A)) (hF : FA b = some (.lst xs)) (hH : H b = some (.lst xs)) (od : Obj) :
  Same G (upd G b (.frz od (.lst xs))) ∧ RstA K c (wo FA b) (upd G b (.frz od (.lst xs))) (upd H b (.frz od (.lst xs))) σ ρ A := by
 have gb : G b = none := R.rst.fg b _ (plus_at hF)
 have s1 : Same G (upd G b (.frz od (.lst xs))) := fun a o e => by rw [upd_ne (ne_of_none e gb)]; exact e
 have nd : b ∉ keys A ∧ (keys A).Nodup := List.nodup_cons.mp R.rep.nd
 have cb : c.F b = none := by
  cases q : c.F b with
  | none => rfl
  | some o => have := R.dis b o q; rw [hF] at this; cases this
 have pb : plus c.F (wo FA b) b = none := by unfold plus; rw [wo_same]; exact cb
 have ne1 : ∀ {x : Addr} {u : HO}, plus c.F (wo FA b) x = some u → x ≠ b := fun {x u} e z => by rw [z, pb] at e; cases e
 refine ⟨s1, ⟨fun x u e => ?_, fun x u e => ?_, fun x u e => ?_, R.rst.len, fun i d e => ?_, fun i d e => ?_, R.rst.ne, R.rst.par⟩, ⟨nd.2, fun a es hm => ?_, fun a o e => ?_⟩, fun a o e => ?_⟩
 · have hx := ne1 e
   rw [upd_ne hx]
   exact R.rst.fh x u ((plus_wo hx).symm.trans e)
 · by_cases hx : x = b
   · subst hx; rw [upd_same] at e ⊢; exact e
   · rw [upd_ne hx] at e ⊢; exact R.rst.gh x u e
 · have hx := ne1 e
   rw [upd_ne hx]
   exact R.rst.fg x u ((plus_wo hx).symm.trans e)
 · obtain ⟨v, k1, k2⟩ := R.rst.val i d e
   exact ⟨v, k1, k2.mono s1⟩
 · obtain ⟨a, k1, k2, k3, k4⟩ := R.rst.own i d e
   have k3 : plus c.F FA a = none := k3
   have ab : a ≠ b := fun z => by rw [z, plus_at hF] at k3; cases k3
   refine ⟨a, k1, by rw [upd_ne ab]; exact k2, (plus_wo ab).trans k3, ?_⟩
   refine Ow.fmono (F := plus c.F FA) (fun x hx hn => ?_) (k4.lk s1 (upd_ne ab) fun x hx => ?_)
   · have xb : x ≠ b := fun z => by rw [z, plus_at hF] at hn; cases hn
     exact (plus_wo xb).trans hn
   · have xb : x ≠ b := fun z => by rw [z, hH] at hx; cases hx
     exact ⟨upd_ne xb, fun z => by rw [upd_ne xb]; exact z⟩
 · obtain ⟨ys, h1, h2⟩ := R.rep.at_ a es (List.mem_cons_of_mem _ hm)
   have ab : a ≠ b := fun z => nd.1 (List.mem_map.mpr ⟨(a, es), hm, z⟩)
   exact ⟨ys, by rw [wo_ne ab]; exact h1, h2.mono s1⟩
 · have ab : a ≠ b := fun z => by rw [z, wo_same] at e; cases e
   rw [wo_ne ab] at e
   rcases List.mem_cons.mp (R.rep.dom a o e) with z | z
   · exact absurd z ab
   · exact z
 · unfold wo
   split
   · rfl
   · exact R.dis a o e
theorem Ow.unl_ {a : Addr} {d : D} (hF : FA b = some (.lst xs)) (g2 : G2 b = some (.frz od (.lst xs))) (h2 : H2 b = some (.frz od (.lst xs))) (nb : noB d = true) (k4 : Ow K (plus c.F (wo FA b)) G2 H2 a d) : Ow K (plus c.F FA) (wo G2 b) (upd H2 b (.lst xs)) a d :=
 Ow.fmono (F := plus c.F (wo FA b)) (fun x hx hn => by
  have xb : x ≠ b := fun z => by rw [z, upd_same] at hx; cases hx
  exact (plus_wo xb).symm.trans hn) (k4.wo_ g2 h2 d nb)
theorem RstA.unlockN (R : RstA K c FA G H σ ρ ((b, ds) :: A)) (hF : FA b = some (.lst xs)) (R2 : RstA K c (wo FA b) G2 H2 σ ρ A) (s : Same (upd G b (.frz od (.lst xs))) G2) (hn : noBS ρ = true) :
  G2 b = some (.frz od (.lst xs)) ∧ H2 b = some (.frz od (.lst xs)) ∧ Same G (wo G2 b) ∧ RstA K c FA (wo G2 b) (upd H2 b (.lst xs)) σ ρ ((b, ds) :: A) := by
 have gb : G b = none := R.rst.fg b _ (plus_at hF)
 have g2 : G2 b = some (.frz od (.lst xs)) := s _ _ upd_same
 have h2 : H2 b = some (.frz od (.lst xs)) := R2.rst.gh _ _ g2
 have s3 : Same G (wo G2 b) := fun a o e => by
  have ab := ne_of_none e gb
  rw [wo_ne ab]
  exact s a o (by rw [upd_ne ab]; exact e)
 refine ⟨g2, h2, s3, ⟨fun x u e => ?_, fun x u e => ?_, fun x u e => ?_, R.rst.len, fun i d e => ?_, fun i d e => ?_, R.rst.ne, R.rst.par⟩, ⟨R.rep.nd, fun a es hm => ?_, R.rep.dom⟩, R.dis⟩
 · by_cases hx : x = b
   · subst hx
     have e : plus c.F FA x = some u := e
     rw [plus_at hF] at e
     cases e
     exact upd_same
   · rw [upd_ne hx]
     exact R2.rst.fh x u ((plus_wo hx).trans e)
 · have hx : x ≠ b := fun z => by rw [z, wo_same] at e; cases e
   rw [wo_ne hx] at e
   rw [upd_ne hx]; exact R2.rst.gh x u e
 · by_cases hx : x = b
   · subst hx; exact wo_same
   · rw [wo_ne hx]
     exact R2.rst.fg x u ((plus_wo hx).trans e)
 · obtain ⟨v, k1, k2⟩ := R.rst.val i d e
   exact ⟨v, k1, k2.mono s3⟩
 · obtain ⟨a, k1, k2, k3, k4⟩ := R2.rst.own i d e
   have ab : a ≠ b := fun z => by rw [z, g2] at k2; cases k2
   refine ⟨a, k1, by rw [wo_ne ab]; exact k2, (plus_wo ab).symm.trans k3, k4.unl_ hF g2 h2 (noBS_get hn e)⟩
 · obtain ⟨ys, q1, q2⟩ := R.rep.at_ a es hm
   exact ⟨ys, q1, q2.mono s3⟩
theorem RpR.unl_ {v : V} {r : Rv} (hF : FA b = some (.lst xs)) (g2 : G2 b = some (.frz od (.lst xs))) (h2 : H2 b = some (.frz od (.lst xs))) (hr : nbR r = true) (k : RpR K (c.pl (wo FA b)) G2 H2 σ ρ v r) : RpR K (c.pl FA) (wo G2 b) (upd H2 b (.lst xs)) σ ρ v r := by
 cases r with
 | val d => exact Rp.wo_ g2 d v hr k
 | own d =>
  obtain ⟨a, z1, z2, z3, z4, z5⟩ := k
  have ab : a ≠ b := fun z => by rw [z, g2] at z2; cases z2
  exact ⟨a, z1, by rw [wo_ne ab]; exact z2, (plus_wo ab).symm.trans z3, z4.unl_ hF g2 h2 hr, z5⟩
 | ali i => cases hr
theorem lockA (hn : noBS ρ = true) {r : Rv} (hr : nbR r = true) {F0 : Hp} {t : TE} : ∀ (A : Ar) (FA G H : Hp) (Q : VK), (∀ a ∈ keys A, FA a = F0 a) → RstA K c FA G H σ ρ A →
  (∀ v G2 H2, RstA K c FA G2 H2 σ ρ A → Same G G2 → RpR K (c.pl FA) G2 H2 σ ρ v r → Q v H2) →
  (∀ Gn Hn (Qn : VK), Rst K c Gn Hn σ ρ → Same G Gn → (∀ b ds, (b, ds) ∈ A → ∃ od xs, Gn b = some (.frz od (.lst xs)) ∧ RpL K Gn ds xs) → (∀ v G2 H2, Rst K c G2 H2 σ ρ → Same Gn G2 → RpR K c G2 H2 σ ρ v r → Qn v H2) → t σ Hn Qn) →
  lockL t (Ls F0 A) σ H Q
 | [], FA, G, H, Q, _, R, hQ, hin => by
  obtain ⟨R1, e1⟩ := R.bare
  refine hin G H Q R1 (Same.refl G) (fun b ds h => nomatch h) fun v G2 H2 R2 s2 k2 => hQ v G2 H2 ⟨by rw [e1]; exact R2, ⟨List.nodup_nil, fun a es hm => (nomatch hm), R.rep.dom⟩, R.dis⟩ s2 (by rw [e1]; exact k2)
 | (b, ds) :: A, FA, G, H, Q, ag, R, hQ, hin => by
  obtain ⟨xs, hF, hH, kx⟩ := R.node List.mem_cons_self
  have ec : contV F0 b = xs := by
   unfold contV
   rw [← ag b List.mem_cons_self, hF]
  have nd : b ∉ keys A := (List.nodup_cons.mp R.rep.nd).1
  show H b = some (.lst (contV F0 b)) ∧ ∀ od, lockL t (Ls F0 A) σ (upd H b (.frz od (.lst (contV F0 b)))) fun v H' => H' b = some (.frz od (.lst (contV F0 b))) ∧ Q v (upd H' b (.lst (contV F0 b)))
  rw [ec]
  refine ⟨hH, fun od => ?_⟩
  obtain ⟨s1, R1⟩ := R.lockN hF hH od
  refine lockA hn hr A (wo FA b) _ _ _ (fun a ha => (wo_ne (fun (z : a = b) => nd (by rw [← z]; exact ha))).trans (ag a (List.mem_cons_of_mem _ ha))) R1 (fun v G2 H2 R2 s2 k2 => ?_) fun Gn Hn Qn Rn sn lk hq => ?_
  · obtain ⟨g2, h2, s3, R3⟩ := R.unlockN hF R2 s2 hn
    exact ⟨h2, hQ v _ _ R3 s3 (k2.unl_ hF g2 h2 hr)⟩
  · refine hin Gn Hn Qn Rn (s1.trans sn) (fun b' ds' hm => ?_) hq
    rcases List.mem_cons.mp hm with e | hm
    · cases e; exact ⟨od, xs, sn _ _ upd_same, kx.mono (s1.trans sn)⟩
    · exact lk b' ds' hm
theorem unlB_rp (lk : ∀ b ds, (b, ds) ∈ A → ∃ od xs, G b = some (.frz od (.lst xs)) ∧ RpL K G ds xs) : ∀ (n : Nat) (d : D) (v : V), Rp K G d v → Rp K G (unlB A n d) v
 | 0, d, v, h => h
 | n + 1, .loc a, v, h => by
  unfold unlB
  cases q : A.lookup a with
  | none => exact h
  | some ds =>
   obtain ⟨od, xs, h1, h3⟩ := lk a ds (lookup_mem q)
   refine ⟨a, xs, h, .inl (.inr ⟨od, h1⟩), ?_⟩
   clear q h1
   induction ds generalizing xs with
   | nil => exact h3
   | cons d ds ih =>
    obtain ⟨x, r, e, k1, k2⟩ := h3
    exact ⟨x, r, e, unlB_rp lk n d x k1, ih r k2⟩
 | n + 1, .non, v, h => h
 | n + 1, .bl _, v, h => h
 | n + 1, .int _, v, h => h
 | n + 1, .str _, v, h => h
 | n + 1, .lst _, v, h => h
 | n + 1, .tup _, v, h => h
 | n + 1, .obj _ _ _, v, h => h
 | n + 1, .dic _ _, v, h => h
 | n + 1, .ndi _ _, v, h => h
 | n + 1, .xob _ _ _ _, v, h => h
 | n + 1, .gho _, v, h => h
 | n + 1, .brw _, v, h => h
 | n + 1, .tpl _, v, h => h
 | n + 1, .scr _, v, h => h
 | n + 1, .ty _, v, h => h
 | n + 1, .cls _, v, h => h
theorem ownLB {n : Nat} {i : Nat} {d : D} : (ρ.map (unlBS A n))[i]? = some (.own d) ↔ ρ[i]? = some (.own d) := by
 rw [List.getElem?_map]
 cases ρ[i]? with
 | none => exact Iff.rfl
 | some s =>
  cases s with
  | no => exact ⟨fun h => (nomatch h), fun h => (nomatch h)⟩
  | val e => exact ⟨fun h => (nomatch h), fun h => (nomatch h)⟩
  | own e => exact ⟨fun h => h, fun h => h⟩
theorem Rst.viewB {n : Nat} (R : Rst K c G H σ ρ) (lk : ∀ b ds, (b, ds) ∈ A → ∃ od xs, G b = some (.frz od (.lst xs)) ∧ RpL K G ds xs) : Rst K c G H σ (ρ.map (unlBS A n)) :=
 have hv : ∀ (i : Nat) (d : D), (ρ.map (unlBS A n))[i]? = some (.val d) → ∃ v, σ[i]? = some (some v) ∧ Rp K G d v := fun i d e => by
  rw [List.getElem?_map] at e
  obtain ⟨x, h1, h2⟩ := Option.map_eq_some_iff.mp e
  cases x with
  | val z =>
   cases h2
   obtain ⟨v, k1, k2⟩ := R.val i z h1
   exact ⟨v, k1, unlB_rp lk n z v k2⟩
  | no => cases h2
  | own z => cases h2
 ⟨R.fh, R.gh, R.fg, by rw [List.length_map]; exact R.len, hv, fun i d e => R.own i d (ownLB.mp e), fun i j d e a h1 h2 => R.ne i j d e a (ownLB.mp h1) (ownLB.mp h2), fun i d e => R.par i d (ownLB.mp e)⟩
end
def zLoan (n : Nat) (fa : M Rv) : MEA Rv := fun ρ A Φ => ∃ r, fa (ρ.map (unlBS A n)) = some (.ok r (ρ.map (unlBS A n))) ∧ noBS ρ = true ∧ nbR r = true ∧ Φ r ρ A
theorem dea_loan {X : Cx} {W : WX} {e : Expr} {fa : M Rv} (n : Nat) (h : DE X W e fa) : DEA X e (zLoan n fa) :=
 ⟨(pe_exL fun l => pe_lockL h.pe l).weak fun σ H Q ⟨c, FA, G, ρ, A, Φ, R, ⟨r, e1, hn, hr, hΦ⟩, post⟩ => ⟨Ls FA A, lockA hn hr A FA G H Q (fun _ _ => rfl) R (fun v G2 H2 R2 s2 k2 => post r ρ A hΦ v FA G2 H2 R2 s2 k2) fun Gn Hn Qn Rn sn lk hq => ⟨c, Gn, ρ.map (unlBS A n), Rn.viewB lk, by
  rw [e1]
  intro v G2 H2 R2 s2 k2
  refine hq v G2 H2 ⟨R2.fh, R2.gh, R2.fg, Rn.len, fun i d e => ?_, fun i d e => R2.own i d (ownLB.mpr e), Rn.ne, Rn.par⟩ s2 ?_
  · obtain ⟨u, k1, k2⟩ := Rn.val i d e
    exact ⟨u, k1, k2.mono s2⟩
  · cases r with
    | val d => exact k2
    | own d =>
     obtain ⟨a, z1, z2, z3, z4, z5⟩ := k2
     exact ⟨a, z1, z2, z3, z4, fun i e hi => z5 i e (ownLB.mpr hi)⟩
    | ali i => cases hr⟩⟩⟩
end Dl
namespace Tl
open PySem Dl
open L2 (ixN atI)
section
variable {γ : Type} {ρ : List S} {kx : Xn → List S → Option γ} {fa fb fe : M Rv} {la : M (List Rv)}
def augK (i : Nat) : Rv → MS
 | .val d => fun ρ => some (.nx (ρ.set i (.val d)))
 | _ => sNever
theorem augK_v (i : Nat) (d : D) : augK i (.val d) ρ = some (.nx (ρ.set i (.val d))) := rfl
theorem sAug_eq (i : Nat) (g : D → D → Option Rv) : sAug i g fe ρ = cps (eVar i) ρ (fun e ρ => some (.ex e ρ)) fun x ρ => cps fe ρ (fun e ρ => some (.ex e ρ)) fun y ρ => cps (peek (Dl.settle x)) ρ (fun e ρ => some (.ex e ρ)) fun d ρ => cps (peek y) ρ (fun e ρ => some (.ex e ρ)) fun e ρ => (g d e).bind fun r => augK i r ρ := by
 unfold sAug
 rw [thenS_eq]; congr 1; funext x ρ
 rw [thenS_eq]; congr 1; funext y ρ
 rw [thenS_eq]; congr 1; funext d ρ
 rw [thenS_eq]; congr 1; funext e ρ
 rw [thenS_eq, cps_ofO]
 congr 1
theorem gadd_ii (i j : Int) : (gII fun i j => .int (i + j)) (.int i) (.int j) = some (.val (.int (i + j))) := rfl
theorem gsub_ii (i j : Int) : (gII fun i j => .int (i - j)) (.int i) (.int j) = some (.val (.int (i - j))) := rfl
theorem gmul_ii (i j : Int) : (gIIc mulOk fun i j => .int (i * j)) (.int i) (.int j) = (gb (mulOk i j)).bind fun _ => some (.val (.int (i * j))) := mul_ii i j
theorem cps_ownIx (n : Str) (mu : List Bool) (fn : Fn) (k : Rv → List S → Option γ) : cps (eOwnIx n mu fn fa fb) ρ kx k = cps fa ρ kx fun r ρ1 => cps fb ρ1 kx fun q ρ2 => cps (ckC n (Dl.settle r)) ρ2 kx fun _ ρ3 => cps (callM mu fn [Dl.settle r, Dl.settle q]) ρ3 kx k := by
 unfold eOwnIx; simp only [cps_bind]
theorem cps_ownCall (n : Str) (mu : List Bool) (fn : Fn) (k : Rv → List S → Option γ) : cps (eOwnCall n mu fn fa la) ρ kx k = cps fa ρ kx fun r ρ1 => cps (ckC n (Dl.settle r)) ρ1 kx fun _ ρ2 => cps la ρ2 kx fun rs ρ3 => cps (ckC n (Dl.settle r)) ρ3 kx fun _ ρ4 => cps (callM mu fn (Dl.settle r :: rs)) ρ4 kx k := by
 unfold eOwnCall; simp only [cps_bind]
theorem cps_lrg (k : Rv → List S → Option γ) : cps (eLRg fa) ρ kx k = cps fa ρ kx fun r ρ1 => cps (peek r) ρ1 kx fun d ρ2 => (ofI d).bind fun n => (rngT n).bind fun xs => k (.own (.lst (xs.map D.int))) ρ2 := by
 unfold eLRg; simp only [cps_bind]
 congr 1; funext r ρ1; congr 1; funext d ρ2
 cases d with
 | int n =>
  dsimp only [ofI, Option.bind]
  unfold rngT
  by_cases h : rngOk 0 n = true
  · rw [if_pos h, if_pos h, cps_pure, rangeD_eq]
  · rw [if_neg h, if_neg h]; rfl
 | _ => rfl
theorem cps_iOwn (n fld : Str) (k : List D → List S → Option γ) : cps (iOwn n fld fa) ρ kx k = cps fa ρ kx fun r ρ1 => cps (toV r) ρ1 kx fun d ρ2 => (itFld n fld d).bind fun ds => k ds ρ2 := by
 unfold iOwn; simp only [cps_bind, cps_ofO]
theorem cps_lOwn (n fld : Str) (k : Rv → List S → Option γ) : cps (eLOwn n fld fa) ρ kx k = cps fa ρ kx fun r ρ1 => cps (toV r) ρ1 kx fun d ρ2 => (itFld n fld d).bind fun ds => k (.own (.lst ds)) ρ2 := by
 unfold eLOwn; simp only [cps_bind, cps_ofO, cps_pure]
open Classical in
noncomputable def lentK {α : Type} (ok : α → Bool) (ρ : List S) (b : α) (ρ' : List S) (k : α → List S → Option γ) : Option γ := if ρ' = frzA ρ ∧ ok b = true then k b ρ else none
theorem cps_lent {α : Type} (ok : α → Bool) (f : M α) (k : α → List S → Option γ) : cps (lent ok f) ρ kx k = (gb (ownL ρ)).bind fun _ => cps f (frzA ρ) (fun _ _ => none) fun b ρ' => lentK ok ρ b ρ' k := by
 unfold lent gb cps lentK
 dsimp only
 by_cases h : ownL ρ = true
 · rw [if_pos h, if_pos h, Option.bind_some]
   cases f (frzA ρ) with
   | none => rfl
   | some o =>
    cases o with
    | ex e ρ' => rfl
    | ok b ρ' =>
     dsimp only
     by_cases he : ρ' = frzA ρ ∧ ok b = true
     · rw [if_pos he, if_pos he]
     · rw [if_neg he, if_neg he]
 · rw [if_neg h, if_neg h]; rfl
open Classical in
theorem lentK_eq {α : Type} (ok : α → Bool) (ρ ρ' : List S) (b : α) (k : α → List S → Option γ) : lentK ok ρ b ρ' k = if ρ' = frzA ρ ∧ ok b = true then k b ρ else none := rfl
theorem lent_and : (True ∧ True) = True := and_self True
theorem scaRv_i (i : Int) : scaRv (.val (.int i)) = true := rfl
theorem scaRv_b (b : Bool) : scaRv (.val (.bl b)) = true := rfl
theorem frzA_n : frzA [] = [] := rfl
theorem frzA_c (s : S) (ρ : List S) : frzA (s :: ρ) = fzS s :: frzA ρ := rfl
theorem fzS_n : fzS .no = .no := rfl
theorem fzS_v (d : D) : fzS (.val d) = .val d := rfl
theorem fzS_o (d : D) : fzS (.own d) = .val d := rfl
theorem ownL_n : ownL [] = true := rfl
theorem ownL_no (ρ : List S) : ownL (.no :: ρ) = ownL ρ := rfl
theorem ownL_v (d : D) (ρ : List S) : ownL (.val d :: ρ) = ownL ρ := rfl
theorem ownL_o (xs : List D) (ρ : List S) : ownL (.own (.lst xs) :: ρ) = ownL ρ := rfl
theorem itFld_of {n fld : Str} {d : D} {xs : List D} (h1 : isObj n d = true) (h2 : fldO [n] fld d = some (.lst xs)) : itFld n fld d = some xs := by
 cases d with
 | obj n' ns ds =>
  have h1 : n' = n := of_decide_eq_true h1
  subst h1
  have h2 : (if n' ∈ [n'] then lkF fld ns ds else none) = some (.lst xs) := h2
  rw [if_pos (List.mem_singleton.mpr rfl)] at h2
  show (if n' = n' then (lkF fld ns ds).bind lstOf else none) = some xs
  rw [if_pos rfl, h2]; rfl
 | _ => cases h1
end
end Tl
namespace Tl
open PySem Dl
open L2 (ixN atI)
mutual
inductive QT where
 | fin (n : Int) | ask (p : Int) (bs : QTs)
inductive QTs where
 | nil | cons (c : List Int) (t : QT) (r : QTs)
end
def QTs.l : QTs → List (List Int × QT)
 | .nil => []
 | .cons c t r => (c, t) :: r.l
def QTs.of : List (List Int × QT) → QTs
 | [] => .nil
 | p :: r => .cons p.1 p.2 (QTs.of r)
theorem QTs.l_of : ∀ bs, (QTs.of bs).l = bs
 | [] => rfl
 | p :: r => by unfold QTs.of QTs.l; rw [QTs.l_of r]
mutual
def e_tree : QT → D
 | .fin n => .tup [.str "end", .int n]
 | .ask p bs => .tup [.str "ask", .int p, .tup (e_trees bs)]
def e_trees : QTs → List D
 | .nil => []
 | .cons c t r => .tup [.tup (List.map D.int c), e_tree t] :: e_trees r
end
theorem e_trees_l : ∀ bs : QTs, e_trees bs = List.map (fun x => D.tup [D.tup (List.map D.int x.1), e_tree x.2]) bs.l
 | .nil => rfl
 | .cons c t r => by unfold e_trees QTs.l; rw [List.map_cons, e_trees_l r]
def QT.tag : QT → Str
 | .fin _ => "end"
 | .ask _ _ => "ask"
def QT.num : QT → Int
 | .fin n => n
 | .ask p _ => p
def QT.brs : QT → Option (List (List Int × QT))
 | .fin _ => none
 | .ask _ bs => some bs.l
section
theorem e_tree_fin (n : Int) : e_tree (.fin n) = .tup [.str "end", .int n] := by unfold e_tree; rfl
theorem e_tree_a (p : Int) (bs : QTs) : e_tree (.ask p bs) = .tup [.str "ask", .int p, .tup (e_trees bs)] := by rw [e_tree]
theorem e_tree_ask (p : Int) (bs : List (List Int × QT)) : e_tree (.ask p (QTs.of bs)) = .tup [.str "ask", .int p, .tup (List.map (fun x => D.tup [D.tup (List.map D.int x.1), e_tree x.2]) bs)] := by
 rw [e_tree_a, e_trees_l, QTs.l_of]
theorem ix_tree0 (t : QT) : dIx (e_tree t) (.int 0) = some (.val (.str t.tag)) := by
 cases t <;> unfold e_tree <;> rfl
theorem ix_tree1 (t : QT) : dIx (e_tree t) (.int 1) = some (.val (.int t.num)) := by
 cases t <;> unfold e_tree <;> rfl
theorem ix_tree2 (t : QT) : dIx (e_tree t) (.int 2) = t.brs.bind fun bs => some (.val (.tup (List.map (fun x => D.tup [D.tup (List.map D.int x.1), e_tree x.2]) bs))) := by
 cases t with
 | fin n => unfold e_tree; rfl
 | ask p bs => rw [e_tree_a, e_trees_l]; rfl
theorem len_tree (t : QT) : scaD (e_tree t) = false := by cases t <;> unfold e_tree <;> rfl
end
mutual
def QT.dec : (a b : QT) → Decidable (a = b)
 | .fin n, .fin m => if h : n = m then .isTrue (by rw [h]) else .isFalse (by intro z; cases z; exact h rfl)
 | .fin _, .ask _ _ => .isFalse (by intro z; cases z)
 | .ask _ _, .fin _ => .isFalse (by intro z; cases z)
 | .ask p bs, .ask q cs => if h : p = q then (match QTs.dec bs cs with
  | .isTrue h2 => .isTrue (by rw [h, h2])
  | .isFalse h2 => .isFalse (by intro z; cases z; exact h2 rfl)) else .isFalse (by intro z; cases z; exact h rfl)
def QTs.dec : (a b : QTs) → Decidable (a = b)
 | .nil, .nil => .isTrue rfl
 | .nil, .cons _ _ _ => .isFalse (by intro z; cases z)
 | .cons _ _ _, .nil => .isFalse (by intro z; cases z)
 | .cons c t r, .cons c' t' r' => if h : c = c' then (match QT.dec t t', QTs.dec r r' with
  | .isTrue h2, .isTrue h3 => .isTrue (by rw [h, h2, h3])
  | .isFalse h2, _ => .isFalse (by intro z; cases z; exact h2 rfl)
  | _, .isFalse h3 => .isFalse (by intro z; cases z; exact h3 rfl)) else .isFalse (by intro z; cases z; exact h rfl)
end
instance : DecidableEq QT := QT.dec
end Tl
namespace Tl
open PySem Dl
open L2 (ixN atI)
section
variable {α β : Type} [DecidableEq α] {e : α → D} {p : α → PyData} {n : Nat}
theorem eqS {a b : Str} (ha : PyData.strOk a = true) (hb : PyData.strOk b = true) : dEqB (.str a) (.str b) = some (decide (a = b)) := by
 have e : PyData.eqv (.str a) (.str b) = decide (a = b) := by simp only [PyData.eqv]; rw [Bool.eq_iff_iff, beq_iff_eq, decide_eq_true_eq]
 unfold dEqB; simp [toP, SeqAt.shaped, PyData.canLay0, PyData.depth, ha, hb, e]
theorem eq_ok' {a b : Str} (ha : PyData.strOk a = true) (hb : PyData.strOk b = true) : dEq (.str a) (.str b) = some (.val (.bl (decide (a = b)))) := by unfold dEq; rw [eqS ha hb]; rfl
theorem ne_ok' {a b : Str} (ha : PyData.strOk a = true) (hb : PyData.strOk b = true) : dNe (.str a) (.str b) = some (.val (.bl (!decide (a = b)))) := by unfold dNe; rw [eqS ha hb]; rfl
theorem ok_end : PyData.strOk "end" = true := by decide +kernel
theorem ok_ask : PyData.strOk "ask" = true := by decide +kernel
theorem ok_tag (t : QT) : PyData.strOk t.tag = true := by cases t <;> first | exact ok_end | exact ok_ask
theorem eq_tag_end (t : QT) : dEq (.str (QT.tag t)) (.str "end") = some (.val (.bl (decide (QT.tag t = "end")))) := eq_ok' (ok_tag t) ok_end
theorem eq_tag_ask (t : QT) : dEq (.str (QT.tag t)) (.str "ask") = some (.val (.bl (decide (QT.tag t = "ask")))) := eq_ok' (ok_tag t) ok_ask
theorem ne_tag_end (t : QT) : dNe (.str (QT.tag t)) (.str "end") = some (.val (.bl (!decide (QT.tag t = "end")))) := ne_ok' (ok_tag t) ok_end
theorem ne_tag_ask (t : QT) : dNe (.str (QT.tag t)) (.str "ask") = some (.val (.bl (!decide (QT.tag t = "ask")))) := ne_ok' (ok_tag t) ok_ask
def optP (p : α → PyData) : Option α → PyData
 | none => .none
 | some a => p a
def NotN (p : α → PyData) : Prop := ∀ a, PyData.eqv .none (p a) = false ∧ PyData.eqv (p a) .none = false
theorem PD.opt (h : PD e p n) (hn : NotN p) : PD (eO e) (optP p) n := ⟨fun a => by cases a <;> first | exact h.to _ | (unfold eO toP; rfl), fun a => by cases a <;> first | exact h.lay _ | (unfold optP; simp [PyData.canLay0]), fun a => by cases a <;> first | exact h.dep _ | (unfold optP; simp [PyData.depth]), fun a b => by
 cases a with
 | none => cases b with
  | none => unfold optP; simp [PyData.eqv]
  | some b => unfold optP; rw [(hn b).1]; simp
 | some a => cases b with
  | none => unfold optP; rw [(hn a).2]; simp
  | some b => unfold optP; rw [h.eqv]; simp⟩
theorem nn_lst {q : β → PyData} : NotN (fun xs : List β => PyData.list (xs.map q)) := fun a => ⟨by simp [PyData.eqv], by simp [PyData.eqv]⟩
theorem PD.eqO (h : PD e p n) (hn : NotN p) (hs : n ≤ 64) (a : Option α) (b : α) : dEq (eO e a) (e b) = some (.val (.bl (decide (a = some b)))) := (h.opt hn).eq hs a (some b)
theorem so_t (x : Option α) : (x.isSome && true) = x.isSome := Bool.and_true _
theorem so_f (x : Option α) : (x.isSome && false) = false := Bool.and_false _
end
section
variable {α β E γ : Type} {e : α → D} {e' : β → D} {st : E → List S} {tg : D → List S → Option (List S)} {tt : M Bool} {te : M Rv} {vs : List Nat} {kx : Xn → List S → Option γ}
end
theorem ite_same {α : Type} (c : Prop) [Decidable c] (a : α) : (if c then a else a) = a := ite_self a
def isNon : D → Bool
 | .non => true
 | _ => false
def unR : Rv → Bool
 | .val d => !isNon d
 | _ => false
def eUn (fa : M Rv) : M Rv := do
 let r ← fa
 if unR r = true then pure r else M.fail
section
variable {γ : Type} {ρ : List S} {kx : Xn → List S → Option γ} {fa : M Rv} {la : M (List Rv)} {lt : M (List Rv × List D)}
def unO : Rv → Option D
 | .val d => if isNon d = true then none else some d
 | _ => none
theorem cps_un (k : Rv → List S → Option γ) : cps (eUn fa) ρ kx k = cps fa ρ kx fun r ρ1 => (unO r).bind fun d => k (.val d) ρ1 := by
 unfold eUn; simp only [cps_bind, cps_ite, cps_pure, cps_fail]
 congr 1; funext r ρ1
 cases r with
 | val d =>
  by_cases h : isNon d = true
  · simp [unR, unO, h]
  · simp [unR, unO, h]
 | _ => rfl
theorem l1_o (ds : List D) : lstOf1 (.own (.lst ds)) = some ds := rfl
theorem cps_aTmpR (k : (List Rv × List D) → List S → Option γ) (rs : List Rv) (ds : List D) : cps (aTmpR rs ds) ρ kx k = k (.ali ρ.length :: rs, ds) ρ := rfl
theorem cps_aTmp (k : (List Rv × List D) → List S → Option γ) : cps (aTmp fa la) ρ kx k = cps fa ρ kx fun r ρ1 => (lstOf1 r).bind fun ds => cps la ρ1 kx fun rs ρ2 => k (.ali ρ2.length :: rs, ds) ρ2 := by
 unfold aTmp; simp only [cps_bind, cps_ofO, cps_aTmpR]
theorem cps_aConsT (k : (List Rv × List D) → List S → Option γ) : cps (aConsT fa lt) ρ kx k = cps fa ρ kx fun r ρ1 => cps lt ρ1 kx fun p ρ2 => k (Dl.settle r :: p.1, p.2) ρ2 := by
 unfold aConsT; simp only [cps_bind, cps_pure]
def tkK (r : Rv) (k : Rv → Option γ) : Option γ := match r with
 | .ali _ => none
 | r => k r
theorem tkK_v (d : D) (k : Rv → Option γ) : tkK (.val d) k = k (.val d) := rfl
theorem tkK_o (d : D) (k : Rv → Option γ) : tkK (.own d) k = k (.own d) := rfl
theorem tk_z (l : List S) : l.take 0 = [] := rfl
theorem tk_s (s : S) (l : List S) (n : Nat) : (s :: l).take (n + 1) = s :: l.take n := rfl
theorem cps_callT (mu : List Bool) (fn : Fn) (p : List Rv × List D) (k : Rv → List S → Option γ) : cps (callT mu fn p) ρ kx k = cps (callM mu fn p.1) (ρ ++ [.own (.lst p.2)]) (fun e ρ' => kx e (ρ'.take ρ.length)) fun r ρ' => tkK r fun r => k r (ρ'.take ρ.length) := by
 unfold callT cps
 dsimp only
 cases callM mu fn p.1 (ρ ++ [.own (.lst p.2)]) with
 | none => rfl
 | some o =>
  cases o with
  | ex e ρ' => rfl
  | ok r ρ' => cases r <;> rfl
theorem cps_eCallT (mu : List Bool) (fn : Fn) (k : Rv → List S → Option γ) : cps (eCallT mu fn lt) ρ kx k = cps lt ρ kx fun p ρ1 => cps (callT mu fn p) ρ1 kx k := by
 unfold eCallT; simp only [cps_bind]
end
section
variable {γ : Type} {ρ : List S} {kx : Xn → List S → Option γ} {la lk : M (List Rv)}
theorem cps_eCallK (n m : Nat) (mu : List Bool) (fn : Fn) (k : Rv → List S → Option γ) : cps (eCallK n m mu fn la lk) ρ kx k = cps la ρ kx fun rs ρ1 => cps lk ρ1 kx fun zs ρ2 => if rs.length = n ∧ zs.length = m then cps (callM mu fn (rs ++ zs)) ρ2 kx k else none := by
 unfold eCallK; simp only [cps_bind, cps_ite, cps_fail]
end
section
variable {γ : Type} {ρ : List S} {kx : Xn → List S → Option γ} {fa fb : M Rv}
theorem cps_dix (k : Rv → List S → Option γ) : cps (eDIx fa fb) ρ kx k = cps fa ρ kx fun x ρ1 => cps fb ρ1 kx fun y ρ2 => cps (peek (Dl.settle x)) ρ2 kx fun d ρ3 => cps (peek y) ρ3 kx fun e ρ4 => (dGetI d e).bind fun z => k (.val z) ρ4 := by
 unfold eDIx; simp only [cps_bind, cps_ofO, cps_pure]
end
end Tl
namespace Tl
open PySem Dl
open L2 (ixN atI)
abbrev W3 : Type := List (List (List Int))
def locs (n : Nat) (f : Nat → Addr) : List D := (List.range n).map fun j => D.loc (f j)
theorem locs_len (n : Nat) (f : Nat → Addr) : (locs n f).length = n := by unfold locs; rw [List.length_map, List.length_range]
theorem locs_get {n j : Nat} {f : Nat → Addr} (h : j < n) : (locs n f)[j]? = some (.loc (f j)) := by unfold locs; rw [List.getElem?_map, List.getElem?_range h]; rfl
structure Row2 (A : Ar) (f : Nat → Addr) (rs : List (List Int)) : Prop where
 row : ∀ j r, rs[j]? = some r → (f j, r.map D.int) ∈ A
 inj : ∀ j j', j < rs.length → j' < rs.length → f j = f j' → j = j'
structure Nest (A : Ar) (k : Nat → Addr) (f : Nat → Nat → Addr) (W : W3) : Prop where
 node : ∀ i rs, W[i]? = some rs → (k i, locs rs.length (f i)) ∈ A
 row : ∀ i rs, W[i]? = some rs → ∀ j r, rs[j]? = some r → (f i j, r.map D.int) ∈ A
 inj : ∀ i rs j i' rs' j', W[i]? = some rs → j < rs.length → W[i']? = some rs' → j' < rs'.length → f i j = f i' j' → i = i' ∧ j = j'
 sep : ∀ i rs j i', W[i]? = some rs → j < rs.length → i' < W.length → f i j ≠ k i'
theorem Nest.nil (A : Ar) (k : Nat → Addr) (f : Nat → Nat → Addr) : Nest A k f [] := ⟨fun i rs h => by simp at h, fun i rs h => by simp at h, fun i rs j i' rs' j' h => by simp at h, fun i rs j i' h => by simp at h⟩
theorem mem_key {A : Ar} {a : Addr} {ds : List D} (h : (a, ds) ∈ A) : a ∈ keys A := List.mem_map.mpr ⟨_, h, rfl⟩
theorem Nest.more {A : Ar} {k : Nat → Addr} {f : Nat → Nat → Addr} {W : W3} (h : Nest A k f W) (B : Ar) : Nest (B ++ A) k f W := ⟨fun i rs e => List.mem_append_right _ (h.node i rs e), fun i rs e j r e' => List.mem_append_right _ (h.row i rs e j r e'), h.inj, h.sep⟩
theorem Row2.more {A : Ar} {f : Nat → Addr} {rs : List (List Int)} (h : Row2 A f rs) (B : Ar) : Row2 (B ++ A) f rs := ⟨fun j r e => List.mem_append_right _ (h.row j r e), h.inj⟩
theorem Row2.snoc {A : Ar} {f : Nat → Addr} {rs : List (List Int)} {b : Addr} {r : List Int} (h : Row2 A f rs) (hb : b ∉ keys A) : Row2 ((b, r.map D.int) :: A) (fun j => if j = rs.length then b else f j) (rs ++ [r]) := by
 have key : ∀ j, j < rs.length → f j ∈ keys A := fun j hj => mem_key (h.row j rs[j] (List.getElem?_eq_getElem hj))
 refine ⟨fun j r' e => ?_, fun j j' hj hj' e => ?_⟩
 · rcases ap_get e with e | ⟨e1, e2⟩
   · have hj := (List.getElem?_eq_some_iff.mp e).1
     rw [if_neg (by omega)]
     exact List.mem_cons_of_mem _ (h.row j r' e)
   · rw [if_pos e1, e2]; exact List.mem_cons_self
 · rw [List.length_append] at hj hj'
   have hj : j < rs.length + 1 := hj
   have hj' : j' < rs.length + 1 := hj'
   by_cases h1 : j = rs.length
   · by_cases h2 : j' = rs.length
     · omega
     · rw [if_pos h1, if_neg h2] at e
       exact absurd (key j' (by omega)) (e ▸ hb)
   · by_cases h2 : j' = rs.length
     · rw [if_neg h1, if_pos h2] at e
       exact absurd (key j (by omega)) (e ▸ hb)
     · rw [if_neg h1, if_neg h2] at e
       exact h.inj j j' (by omega) (by omega) e
theorem Nest.snoc {A : Ar} {k : Nat → Addr} {f : Nat → Nat → Addr} {W : W3} {g : Nat → Addr} {rs : List (List Int)} {b : Addr} (h : Nest A k f W) (hr : Row2 A g rs) (hb : b ∉ keys A)
  (s1 : ∀ i rs' j' j, W[i]? = some rs' → j' < rs'.length → j < rs.length → f i j' ≠ g j) (s2 : ∀ i j, i < W.length → j < rs.length → g j ≠ k i) :
  Nest ((b, locs rs.length g) :: A) (fun i => if i = W.length then b else k i) (fun i => if i = W.length then g else f i) (W ++ [rs]) := by
 have kg : ∀ j, j < rs.length → g j ∈ keys A := fun j hj => mem_key (hr.row j rs[j] (List.getElem?_eq_getElem hj))
 have kf : ∀ i rs' j, W[i]? = some rs' → j < rs'.length → f i j ∈ keys A := fun i rs' j e hj => mem_key (h.row i rs' e j rs'[j] (List.getElem?_eq_getElem hj))
 have get : ∀ {i : Nat} {rs' : List (List Int)}, (W ++ [rs])[i]? = some rs' → (i ≠ W.length ∧ W[i]? = some rs') ∨ (i = W.length ∧ rs' = rs) := fun {i rs'} e => by
  rcases ap_get e with e | e
  · exact .inl ⟨by have := (List.getElem?_eq_some_iff.mp e).1; omega, e⟩
  · exact .inr e
 refine ⟨fun i rs' e => ?_, fun i rs' e j r e' => ?_, fun i rs1 j i' rs2 j' e1 l1 e2 l2 q => ?_, fun i rs1 j i' e l l' => ?_⟩
 · rcases get e with ⟨hi, e⟩ | ⟨hi, e⟩
   · rw [if_neg hi, if_neg hi]; exact List.mem_cons_of_mem _ (h.node i rs' e)
   · subst e; rw [if_pos hi, if_pos hi]; exact List.mem_cons_self
 · rcases get e with ⟨hi, e⟩ | ⟨hi, e⟩
   · rw [if_neg hi]; exact List.mem_cons_of_mem _ (h.row i rs' e j r e')
   · subst e; rw [if_pos hi]; exact List.mem_cons_of_mem _ (hr.row j r e')
 · rcases get e1 with ⟨hi, d1⟩ | ⟨hi, d1⟩ <;> rcases get e2 with ⟨hi', d2⟩ | ⟨hi', d2⟩
   · rw [if_neg hi, if_neg hi'] at q; exact h.inj i rs1 j i' rs2 j' d1 l1 d2 l2 q
   · rw [d2] at l2; rw [if_neg hi, if_pos hi'] at q; exact absurd q (s1 i rs1 j j' d1 l1 l2)
   · rw [d1] at l1; rw [if_pos hi, if_neg hi'] at q; exact absurd q.symm (s1 i' rs2 j' j d2 l2 l1)
   · rw [d1] at l1; rw [d2] at l2; rw [if_pos hi, if_pos hi'] at q
     exact ⟨by omega, hr.inj j j' l1 l2 q⟩
 · rw [List.length_append] at l'
   have l' : i' < W.length + 1 := l'
   rcases get e with ⟨hi, e⟩ | ⟨hi, e⟩
   · by_cases h' : i' = W.length
     · rw [if_neg hi, if_pos h']; exact fun z => hb (z ▸ kf i rs1 j e l)
     · rw [if_neg hi, if_neg h']; exact h.sep i rs1 j i' e l (by omega)
   · subst e
     by_cases h' : i' = W.length
     · rw [if_pos hi, if_pos h']; exact fun z => hb (z ▸ kg j l)
     · rw [if_pos hi, if_neg h']; exact s2 i' j (by omega) l
theorem put_ne {A : Ar} {a b : Addr} {ds es : List D} (h : (b, es) ∈ A) (hn : b ≠ a) : (b, es) ∈ Ar.put A a ds := List.mem_map.mpr ⟨_, h, if_neg hn⟩
theorem put_eq {A : Ar} {a : Addr} {ds es : List D} (h : (a, es) ∈ A) : (a, ds) ∈ Ar.put A a ds := List.mem_map.mpr ⟨_, h, if_pos rfl⟩
theorem Nest.put {A : Ar} {k : Nat → Addr} {f : Nat → Nat → Addr} {W : W3} {p s : Nat} {rs : List (List Int)} {r r' : List Int} (h : Nest A k f W) (hp : W[p]? = some rs) (hs : rs[s]? = some r) : Nest (Ar.put A (f p s) (r'.map D.int)) k f (W.set p (rs.set s r')) := by
 have lp := (List.getElem?_eq_some_iff.mp hp).1
 have ls := (List.getElem?_eq_some_iff.mp hs).1
 have get : ∀ {i : Nat} {rs' : List (List Int)}, (W.set p (rs.set s r'))[i]? = some rs' → (i ≠ p ∧ W[i]? = some rs') ∨ (i = p ∧ rs' = rs.set s r') := fun {i rs'} e => by
  rw [List.getElem?_set] at e
  by_cases hi : p = i
  · rw [if_pos hi, if_pos lp] at e; exact .inr ⟨hi.symm, (Option.some.inj e).symm⟩
  · rw [if_neg hi] at e; exact .inl ⟨fun z => hi z.symm, e⟩
 have old : ∀ {i : Nat} {rs' : List (List Int)}, (W.set p (rs.set s r'))[i]? = some rs' → ∃ rs0, W[i]? = some rs0 ∧ rs0.length = rs'.length := fun {i rs'} e => by
  rcases get e with ⟨_, d⟩ | ⟨hi, d⟩
  · exact ⟨rs', d, rfl⟩
  · rw [hi, d]; exact ⟨rs, hp, by rw [List.length_set]⟩
 refine ⟨fun i rs' e => ?_, fun i rs' e j r1 e' => ?_, fun i rs1 j i' rs2 j' e1 l1 e2 l2 q => ?_, fun i rs1 j i' e l l' => ?_⟩
 · obtain ⟨rs0, e0, l0⟩ := old e
   rw [← l0]
   have li := (List.getElem?_eq_some_iff.mp e0).1
   exact put_ne (h.node i rs0 e0) fun z => h.sep p rs s i hp ls li z.symm
 · rcases get e with ⟨hi, d⟩ | ⟨hi, d⟩
   · have lj := (List.getElem?_eq_some_iff.mp e').1
     exact put_ne (h.row i rs' d j r1 e') fun z => hi (h.inj i rs' j p rs s d lj hp ls z).1
   · rw [d] at e'; clear d e; subst hi
     rw [List.getElem?_set] at e'
     by_cases hj : s = j
     · subst hj
       rw [if_pos rfl, if_pos ls] at e'
       cases e'
       exact put_eq (h.row i rs hp s r hs)
     · rw [if_neg hj] at e'
       have lj := (List.getElem?_eq_some_iff.mp e').1
       exact put_ne (h.row i rs hp j r1 e') fun z => hj (h.inj i rs j i rs s hp lj hp ls z).2.symm
 · obtain ⟨q1, a1, b1⟩ := old e1
   obtain ⟨q2, a2, b2⟩ := old e2
   exact h.inj i q1 j i' q2 j' a1 (by omega) a2 (by omega) q
 · obtain ⟨q1, a1, b1⟩ := old e
   rw [List.length_set] at l'
   exact h.sep i q1 j i' a1 (by omega) l'
theorem lookup_of {A : Ar} (nd : (keys A).Nodup) {a : Addr} {ds : List D} (h : (a, ds) ∈ A) : A.lookup a = some ds := by
 induction A with
 | nil => cases h
 | cons p A ih =>
  obtain ⟨b, es⟩ := p
  have nd : (b :: keys A).Nodup := nd
  obtain ⟨n1, n2⟩ := List.nodup_cons.mp nd
  rw [List.lookup_cons]
  rcases List.mem_cons.mp h with e | h
  · cases e; rw [beq_self_eq_true]
  · have hab : (a == b) = false := beq_eq_false_iff_ne.mpr fun z => n1 (z ▸ mem_key h)
    rw [hab]; exact ih n2 h
theorem unl_loc {A : Ar} (nd : (keys A).Nodup) {a : Addr} {ds : List D} (h : (a, ds) ∈ A) (n : Nat) : unl A (n + 1) (.loc a) = .lst (ds.map (unl A n)) := by
 unfold unl; rw [lookup_of nd h]
theorem unl_ints (A : Ar) (n : Nat) (r : List Int) : (r.map D.int).map (unl A n) = r.map D.int := by
 rw [List.map_map]
 exact List.map_congr_left fun i _ => by cases n <;> rfl
theorem map_locs {α : Type} {e : α → D} {A : Ar} {n : Nat} {f : Nat → Addr} {xs : List α} (h : ∀ j x, xs[j]? = some x → unl A n (.loc (f j)) = e x) : (locs xs.length f).map (unl A n) = xs.map e := by
 apply List.ext_getElem?
 intro j
 rw [List.getElem?_map, List.getElem?_map]
 by_cases hj : j < xs.length
 · rw [locs_get hj, List.getElem?_eq_getElem hj]
   exact congrArg some (h j _ (List.getElem?_eq_getElem hj))
 · rw [List.getElem?_eq_none (by rw [locs_len]; omega), List.getElem?_eq_none (by omega)]; rfl
theorem Nest.unl {A : Ar} {k : Nat → Addr} {f : Nat → Nat → Addr} {W : W3} {b : Addr} (h : Nest A k f W) (nd : (keys A).Nodup) (hb : (b, locs W.length k) ∈ A) : Dl.unl A 3 (.loc b) = .lst (W.map fun rs => D.lst (rs.map fun r => D.lst (r.map D.int))) := by
 rw [unl_loc nd hb 2]
 congr 1
 refine map_locs fun i rs e => ?_
 rw [unl_loc nd (h.node i rs e) 1]
 congr 1
 refine map_locs fun j r e' => ?_
 rw [unl_loc nd (h.row i rs e j r e') 0]
 rw [unl_ints]
def zBlk : List MS → MA → MA
 | [], w => w
 | f :: fs, w => zSeq (zLift f) (zBlk fs w)
def sBlk : List MS → MS
 | [] => sNil
 | [f] => f
 | f :: g :: fs => sSeq f (sBlk (g :: fs))
def contA (w : MA) (A : Ar) (Φ : OA → Prop) : Os → Prop
 | .nx ρ => w ρ A Φ
 | o => Φ (o.wA A)
theorem zBlk_of {w : MA} {A : Ar} {Φ : OA → Prop} {o : Os} : ∀ {fs : List MS} {ρ : List S}, sBlk fs ρ = some o → contA w A Φ o → zBlk fs w ρ A Φ
 | [], ρ, h, k => by
  have h : some (Os.nx ρ) = some o := h
  cases h; exact k
 | [f], ρ, h, k => by
  have h : f ρ = some o := h
  refine ⟨o, h, ?_⟩
  cases o <;> exact k
 | f :: g :: fs, ρ, h, k => by
  have h : sSeq f (sBlk (g :: fs)) ρ = some o := h
  rw [sSeq_eq] at h
  cases q : f ρ with
  | none => rw [q] at h; cases h
  | some o1 =>
   rw [q] at h
   refine ⟨o1, q, ?_⟩
   cases o1 with
   | nx ρ1 => exact zBlk_of (fs := g :: fs) h k
   | rt r ρ1 => cases h; exact k
   | bk ρ1 => cases h; exact k
   | ct ρ1 => cases h; exact k
   | ex e ρ1 => cases h; exact k
theorem zBlk_nx {w : MA} {A : Ar} {Φ : OA → Prop} {ρ ρ' : List S} {fs : List MS} (h : sBlk fs ρ = some (.nx ρ')) (k : w ρ' A Φ) : zBlk fs w ρ A Φ := zBlk_of h k
def zNrm (l : List (Nat × Bool)) (w : MA) : MA := fun ρ A Φ => w (nrm l ρ) A Φ
theorem dla_nrm {X : L2.Cx} {W : L2.WX} {np : Nat} {sts : List Stmt} {w : MA} (l : List (Nat × Bool)) (h : DLA X W np sts w) : DLA X W np sts (zNrm l w) := dla_pre h fun Dn σ H ⟨c, FA, G, ρ, A, Φ, hl, R, hw, po⟩ => by
 obtain ⟨G2, s2, R2⟩ := R.rst.nrm l
 exact ⟨c, FA, G2, _, A, Φ, hl, ⟨R2, R.rep.mono s2, R.dis⟩, hw, fun o ho => (po o ho).mono s2⟩
end Tl
namespace My
open PySem Dl Tl
open L2 (ixN atI)
theorem sz20 : 2 ^ 20 < sizeLine := by rw [PySem.sizeLine_eq]; decide
theorem gz_ok {n : Nat} (h : n ≤ 2 ^ 20) : gz n = some () := if_pos (by have := sz20; omega)
theorem gb_ok {b : Bool} (h : b = true) : gb b = some () := if_pos h
theorem foldT_foldl {α E : Type} {body : α → E → Option E} {f : E → α → E} (μ : E → Nat) (N : Nat) (h : ∀ x e, μ e < N → body x e = some (f e x)) (hm : ∀ x e, μ (f e x) ≤ μ e + 1) : ∀ (xs : List α) (e : E), μ e + xs.length ≤ N → foldT body xs e = some (xs.foldl f e)
 | [], e, _ => rfl
 | x :: xs, e, hz => by
  rw [List.length_cons] at hz
  have := hm x e
  unfold foldT
  rw [h x e (by omega)]
  exact foldT_foldl μ N h hm xs (f e x) (by omega)
theorem forT_all {α E R : Type} {body : α → E → Option (Cf E R)} {e : E} : ∀ (xs : List α), (∀ x ∈ xs, body x e = some (.nx e)) → forT body xs e = some (.nx e)
 | [], _ => rfl
 | x :: xs, h => by
  unfold forT
  rw [h x List.mem_cons_self]
  exact forT_all xs fun y hy => h y (List.mem_cons_of_mem _ hy)
theorem mapT_map {α β : Type} {f : α → Option β} {g : α → β} : ∀ (xs : List α), (∀ x ∈ xs, f x = some (g x)) → mapT f xs = some (xs.map g)
 | [], _ => rfl
 | x :: xs, h => by
  unfold mapT
  rw [h x List.mem_cons_self, mapT_map xs fun y hy => h y (List.mem_cons_of_mem _ hy)]; rfl
theorem rngT_ok {n : Nat} (h : n ≤ 2 ^ 20) : rngT (n : Int) = some (rngI 0 n) := by
 unfold rngT
 have e : rngOk 0 (n : Int) = true := decide_eq_true ⟨by omega, by omega, by omega, by omega⟩
 rw [if_pos e, Int.toNat_natCast]
theorem rngT_ok' {j : Int} (h0 : 0 ≤ j) (h : j ≤ 2 ^ 20) : rngT j = some (rngI 0 j.toNat) := by
 obtain ⟨n, rfl⟩ := Int.eq_ofNat_of_zero_le h0
 exact rngT_ok (by omega)
theorem rngI_len (n : Nat) : (rngI 0 n).length = n := by simp [rngI]
theorem mem_rngI {n : Nat} {x : Int} : x ∈ rngI 0 n ↔ 0 ≤ x ∧ x < n := by
 unfold rngI
 rw [List.mem_map]
 constructor
 · rintro ⟨k, hk, rfl⟩
   have := List.mem_range.mp hk
   omega
 · rintro ⟨h1, h2⟩
   exact ⟨x.toNat, List.mem_range.mpr (by omega), by omega⟩
theorem atI_i {α : Type} {xs : List α} {i : Int} (h0 : 0 ≤ i) (h1 : i < xs.length) : ∃ x, atI xs i = some x ∧ xs[i.toNat]? = some x := by
 obtain ⟨n, rfl⟩ := Int.eq_ofNat_of_zero_le h0
 have hn : n < xs.length := by omega
 exact ⟨xs[n], by rw [atI_nat, List.getElem?_eq_getElem hn], by rw [Int.toNat_natCast, List.getElem?_eq_getElem hn]⟩
theorem atI_last {α : Type} {l : List α} {d : α} : atI (l ++ [d]) (-1) = some d := by
 unfold atI ixN
 rw [if_neg (by decide), List.length_append, List.length_singleton, if_pos (by omega)]
 have : (-1 + ((l.length + 1 : Nat) : Int)).toNat = l.length := by omega
 rw [Option.bind_some, this, List.getElem?_append_right (Nat.le_refl _), Nat.sub_self]; rfl
def gridS (rows : List (List Int)) (side : List Int) : List (List Int) := rows.flatMap fun r => side.map fun x => r ++ [x]
def grid (sides : List (List Int)) : List (List Int) := sides.foldl gridS [[]]
def combos : List (List Int) → List (List Int)
 | [] => [[]]
 | s :: ss => s.flatMap fun x => (combos ss).map fun r => x :: r
def vol : List (List Int) → Nat
 | [] => 1
 | s :: ss => max 1 s.length * vol ss
theorem vol_pos : ∀ ss, 0 < vol ss
 | [] => by unfold vol; omega
 | s :: ss => by unfold vol; exact Nat.mul_pos (by omega) (vol_pos ss)
theorem flatMap_len {α β : Type} (f : α → List β) (k : Nat) : ∀ l : List α, (∀ a ∈ l, (f a).length = k) → (l.flatMap f).length = l.length * k
 | [], _ => by simp
 | a :: l, h => by
  rw [List.flatMap_cons, List.length_append, h a List.mem_cons_self, flatMap_len f k l fun b hb => h b (List.mem_cons_of_mem _ hb), List.length_cons, Nat.succ_mul, Nat.add_comm]
theorem gridS_len (rows : List (List Int)) (side : List Int) : (gridS rows side).length = rows.length * side.length :=
 flatMap_len _ _ rows fun r _ => List.length_map _
theorem combos_len : ∀ ss, (combos ss).length ≤ vol ss
 | [] => by simp [combos, vol]
 | s :: ss => by
  unfold combos vol
  rw [flatMap_len _ (combos ss).length s fun x _ => List.length_map _]
  exact Nat.mul_le_mul (by omega) (combos_len ss)
theorem grid_eq' : ∀ (sides rows : List (List Int)), sides.foldl gridS rows = rows.flatMap fun r => (combos sides).map fun q => r ++ q
 | [], rows => by simp [combos]
 | s :: ss, rows => by
  rw [List.foldl_cons, grid_eq' ss]
  have ec : combos (s :: ss) = s.flatMap fun x => (combos ss).map fun r => x :: r := rfl
  rw [ec]
  unfold gridS
  rw [List.flatMap_assoc]
  congr 1
  funext r
  rw [List.map_flatMap, List.flatMap_map]
  congr 1
  funext x
  rw [List.map_map]
  congr 1
  funext q
  simp
theorem grid_combos (sides : List (List Int)) : grid sides = combos sides := by
 unfold grid
 rw [grid_eq']
 simp
def inC : List Int → List (List Int) → Prop
 | [], [] => True
 | x :: r, s :: ss => x ∈ s ∧ inC r ss
 | _, _ => False
theorem mem_combos : ∀ {sides : List (List Int)} {r : List Int}, r ∈ combos sides ↔ inC r sides
 | [], r => by
  unfold combos
  cases r with
  | nil => simp [inC]
  | cons x r => simp [inC]
 | s :: ss, r => by
  unfold combos
  rw [List.mem_flatMap]
  cases r with
  | nil => simp [inC]
  | cons x r =>
   show _ ↔ x ∈ s ∧ inC r ss
   rw [← mem_combos (sides := ss)]
   constructor
   · rintro ⟨y, hy, h⟩
     obtain ⟨q, hq, e⟩ := List.mem_map.mp h
     cases e
     exact ⟨hy, hq⟩
   · rintro ⟨h1, h2⟩
     exact ⟨x, h1, List.mem_map.mpr ⟨r, h2, rfl⟩⟩
theorem inC_len : ∀ {r : List Int} {ss : List (List Int)}, inC r ss → r.length = ss.length
 | [], [], _ => rfl
 | x :: r, s :: ss, h => by rw [List.length_cons, List.length_cons, inC_len h.2]
 | [], _ :: _, h => h.elim
 | _ :: _, [], h => h.elim
def ascS (acc : List Int) (x : Int) : List Int := if acc.getLast? = some x then acc else acc ++ [x]
def asc (ns : List Int) : List Int := (sortI ns).foldl ascS []
theorem ascS_snoc (l : List Int) (y x : Int) : ascS (l ++ [y]) x = if y = x then l ++ [y] else l ++ [y] ++ [x] := by
 unfold ascS
 rw [List.getLast?_concat]
 by_cases h : y = x
 · rw [if_pos (by rw [h]), if_pos h]
 · rw [if_neg (fun z => h (Option.some.inj z)), if_neg h]
theorem ascS_len (acc : List Int) (x : Int) : (ascS acc x).length ≤ acc.length + 1 := by
 unfold ascS
 split <;> simp
theorem gridS_row {rows : List (List Int)} {side : List Int} {k : Nat} (h : ∀ r ∈ rows, r.length = k) : ∀ r ∈ gridS rows side, r.length = k + 1 := by
 intro r hr
 obtain ⟨q, hq, h2⟩ := List.mem_flatMap.mp hr
 obtain ⟨x, _, rfl⟩ := List.mem_map.mp h2
 rw [List.length_append, h q hq]; rfl
theorem cut1 {α : Type} (x : α) (xs : List α) : cutD (x :: xs) (some 1) none = xs := by
 unfold cutD
 rw [show HT.sIx (x :: xs).length 0 (some 1) = 1 from by
  have := HT.sIx_nat (x :: xs).length 0 1
  rw [List.length_cons] at this ⊢
  exact this.trans (by omega)]
 rw [HT.sIx_none, List.drop_one, List.tail_cons, List.length_cons, Nat.add_sub_cancel, List.take_length]
theorem foldl_asc_len : ∀ (xs acc : List Int), (xs.foldl ascS acc).length ≤ acc.length + xs.length
 | [], acc => by simp
 | x :: xs, acc => by
  have h1 := ascS_len acc x
  have h2 := foldl_asc_len xs (ascS acc x)
  rw [List.foldl_cons, List.length_cons]
  omega
theorem asc_len (ns : List Int) : (asc ns).length ≤ ns.length := by
 have h := foldl_asc_len (sortI ns) []
 rw [(sortI_perm ns).length_eq] at h
 simpa [asc] using h
theorem vol_asc : ∀ ss : List (List Int), vol (ss.map asc) ≤ vol ss
 | [] => Nat.le_refl _
 | s :: ss => by
  have := asc_len s
  show max 1 (asc s).length * vol (ss.map asc) ≤ max 1 s.length * vol ss
  exact Nat.mul_le_mul (by omega) (vol_asc ss)
theorem vol_app : ∀ (ss : List (List Int)) (s : List Int), vol (ss ++ [s]) = vol ss * max 1 s.length
 | [], s => by simp [vol]
 | t :: ss, s => by
  rw [List.cons_append]
  show max 1 t.length * vol (ss ++ [s]) = max 1 t.length * vol ss * max 1 s.length
  rw [vol_app ss s, Nat.mul_assoc]
abbrev Asc (l : List Int) : Prop := l.Pairwise (· < ·)
theorem fold_asc : ∀ (xs acc : List Int), Asc (acc ++ xs) → xs.foldl ascS acc = acc ++ xs
 | [], acc, _ => by simp
 | x :: xs, acc, h => by
  have e : ascS acc x = acc ++ [x] := by
   unfold ascS
   refine if_neg fun z => ?_
   have hm : x ∈ acc := List.mem_of_getLast? z
   have := (List.pairwise_append.mp h).2.2 x hm x List.mem_cons_self
   omega
  rw [List.foldl_cons, e, fold_asc xs (acc ++ [x]) (by simpa using h)]
  simp
theorem asc_self {l : List Int} (h : Asc l) : asc l = l := by
 unfold asc
 rw [← sortI_of (List.Perm.refl l) (h.imp fun z => Int.le_of_lt z)]
 exact fold_asc l [] h
theorem fold_is : ∀ (xs acc : List Int), Asc acc → xs.Pairwise (· ≤ ·) → (∀ a ∈ acc, ∀ x ∈ xs, a ≤ x) → Asc (xs.foldl ascS acc)
 | [], acc, h, _, _ => h
 | x :: xs, acc, h, hx, hb => by
  obtain ⟨p1, p2⟩ := List.pairwise_cons.mp hx
  rw [List.foldl_cons]
  have hA : Asc (ascS acc x) ∧ ∀ a ∈ ascS acc x, a ≤ x := by
   unfold ascS
   split
   · exact ⟨h, fun a ha => hb a ha x List.mem_cons_self⟩
   · rename_i hn
     refine ⟨List.pairwise_append.mpr ⟨h, List.pairwise_singleton _ _, fun a ha y hy => ?_⟩, fun a ha => ?_⟩
     · rw [List.mem_singleton.mp hy]
       rcases List.eq_nil_or_concat acc with rfl | ⟨l, z, rfl⟩
       · cases ha
       · rw [List.concat_eq_append] at *
         rw [List.getLast?_concat] at hn
         have hz : z ≠ x := fun q => hn (by rw [q])
         have hz2 := hb z (by simp) x List.mem_cons_self
         rcases List.mem_append.mp ha with ha | ha
         · have := (List.pairwise_append.mp h).2.2 a ha z (by simp)
           omega
         · rw [List.mem_singleton.mp ha]; omega
     · rcases List.mem_append.mp ha with ha | ha
       · exact hb a ha x List.mem_cons_self
       · rw [List.mem_singleton.mp ha]; exact Int.le_refl _
  exact fold_is xs (ascS acc x) hA.1 p2 fun a ha y hy => Int.le_trans (hA.2 a ha) (p1 y hy)
theorem asc_asc (l : List Int) : Asc (asc l) := fold_is (sortI l) [] List.Pairwise.nil (sortI_sorted l) (fun a ha => nomatch ha)
theorem mem_fold : ∀ (xs acc : List Int) (y : Int), y ∈ xs.foldl ascS acc → y ∈ acc ∨ y ∈ xs
 | [], acc, y, h => .inl h
 | x :: xs, acc, y, h => by
  rw [List.foldl_cons] at h
  rcases mem_fold xs (ascS acc x) y h with h | h
  · unfold ascS at h
    split at h
    · exact .inl h
    · rcases List.mem_append.mp h with h | h
      · exact .inl h
      · exact .inr (by rw [List.mem_singleton.mp h]; exact List.mem_cons_self)
  · exact .inr (List.mem_cons_of_mem _ h)
theorem mem_asc {l : List Int} {y : Int} (h : y ∈ asc l) : y ∈ l := by
 rcases mem_fold (sortI l) [] y h with h | h
 · cases h
 · exact (sortI_perm l).mem_iff.mp h
theorem cutT {α : Type} (xs : List α) {k : Nat} (h : k ≤ xs.length) : cutD xs none (some (k : Int)) = xs.take k := by
 unfold cutD
 rw [HT.sIx_nat, HT.sIx_none, List.drop_zero, Nat.sub_zero, Nat.min_eq_left h]
structure SideOk (s : List Int) : Prop where
 asc : Asc s
 nn : ∀ x ∈ s, 0 ≤ x
end My
namespace My
open PySem Dl Tl
open L2 (ixN atI)
inductive All2 {α β : Type} (P : α → β → Prop) : List α → List β → Prop where
 | nil : All2 P [] []
 | cons {x : α} {y : β} {xs : List α} {ys : List β} (h : P x y) (t : All2 P xs ys) : All2 P (x :: xs) (y :: ys)
def OkP {α : Type} (o : Option α) (P : α → Prop) : Prop := ∃ a, o = some a ∧ P a
section
variable {α β γ E R : Type}
theorem OkP.ret {a : α} {P : α → Prop} (h : P a) : OkP (some a) P := ⟨a, rfl, h⟩
theorem OkP.bind {o : Option α} {f : α → Option β} {Q : α → Prop} {P : β → Prop} (h : OkP o Q) (k : ∀ a, Q a → OkP (f a) P) : OkP (o.bind f) P := by
 obtain ⟨a, rfl, q⟩ := h
 exact k a q
theorem OkP.bindEq {o : Option α} {f : α → Option β} {a : α} {P : β → Prop} (h : o = some a) (k : OkP (f a) P) : OkP (o.bind f) P := by
 subst h; exact k
theorem OkP.mono {o : Option α} {P Q : α → Prop} (h : OkP o P) (k : ∀ a, P a → Q a) : OkP o Q := by
 obtain ⟨a, e, q⟩ := h
 exact ⟨a, e, k a q⟩
theorem OkP.gz {n : Nat} {f : Unit → Option β} {P : β → Prop} (h : n ≤ 2 ^ 20) (k : OkP (f ()) P) : OkP ((Tl.gz n).bind f) P := by rw [gz_ok h]; exact k
theorem OkP.gb {b : Bool} {f : Unit → Option β} {P : β → Prop} (h : b = true) (k : OkP (f ()) P) : OkP ((Tl.gb b).bind f) P := by rw [gb_ok h]; exact k
theorem OkP.eq {o : Option α} {P : α → Prop} (h : OkP o P) {a : α} (k : ∀ b, P b → b = a) : o = some a := by
 obtain ⟨b, e, q⟩ := h
 rw [e, k b q]
theorem OkP.fold {body : α → E → Option E} (P : List α → E → Prop) : ∀ (pre xs : List α) (e : E), P pre e → (∀ p x q e, pre ++ xs = p ++ x :: q → P p e → OkP (body x e) (P (p ++ [x]))) → OkP (foldT body xs e) (P (pre ++ xs))
 | pre, [], e, h, _ => by rw [List.append_nil]; exact OkP.ret h
 | pre, x :: xs, e, h, k => by
  refine OkP.bind (f := fun e' => foldT body xs e') (k pre x xs e rfl h) fun e' h' => ?_
  have := OkP.fold P (pre ++ [x]) xs e' h' fun p y q e2 eq h2 => k p y q e2 (by rw [← eq, List.append_assoc]; rfl) h2
  rw [List.append_assoc] at this
  exact this
theorem OkP.forAll {body : α → E → Option (Cf E R)} (P : List α → E → Prop) : ∀ (pre xs : List α) (e : E), P pre e → (∀ p x q e, pre ++ xs = p ++ x :: q → P p e → OkP (body x e) fun o => ∃ e', o = .nx e' ∧ P (p ++ [x]) e') → OkP (forT body xs e) fun o => ∃ e', o = .nx e' ∧ P (pre ++ xs) e'
 | pre, [], e, h, _ => by rw [List.append_nil]; exact OkP.ret ⟨e, rfl, h⟩
 | pre, x :: xs, e, h, k => by
  obtain ⟨o, e1, e', rfl, h'⟩ := k pre x xs e rfl h
  have := OkP.forAll P (pre ++ [x]) xs e' h' fun p y q e2 eq h2 => k p y q e2 (by rw [← eq, List.append_assoc]; rfl) h2
  rw [List.append_assoc] at this
  unfold forT
  rw [e1]
  exact this
theorem OkP.forI {body : α → E → Option (Cf E R)} (P : E → Prop) (xs : List α) (e : E) (h : P e) (k : ∀ x ∈ xs, ∀ e, P e → OkP (body x e) fun o => ∃ e', o = .nx e' ∧ P e') : OkP (forT body xs e) fun o => ∃ e', o = .nx e' ∧ P e' :=
 OkP.forAll (fun _ => P) [] xs e h fun p x q e eq h' => k x (by rw [show xs = p ++ x :: q from eq]; simp) e h'
theorem OkP.kNx {o : Option (Cf E R)} {P : E → Prop} {f : E → Option β} {g : R → Option β} {Q : β → Prop} (h : OkP o fun o => ∃ e', o = .nx e' ∧ P e') (k : ∀ e, P e → OkP (f e) Q) : OkP (o.bind fun v => v.k f g) Q := by
 obtain ⟨a, rfl, e', rfl, p⟩ := h
 exact k e' p
theorem OkP.mapT {f : α → Option β} (P : α → β → Prop) : ∀ (xs : List α), (∀ x ∈ xs, OkP (f x) (P x)) → OkP (Tl.mapT f xs) fun ys => All2 P xs ys
 | [], _ => OkP.ret .nil
 | x :: xs, h => by
  refine OkP.bind (f := fun y => (Tl.mapT f xs).bind fun ys => some (y :: ys)) (h x List.mem_cons_self) fun y hy => ?_
  refine OkP.bind (OkP.mapT P xs fun z hz => h z (List.mem_cons_of_mem _ hz)) fun ys hys => ?_
  exact OkP.ret (.cons hy hys)
theorem OkP.mapE {f : α → E → Option (β × E)} (P : E → Prop) (Q : α → β → Prop) : ∀ (xs : List α) (e : E), P e → (∀ x ∈ xs, ∀ e, P e → OkP (f x e) fun r => Q x r.1 ∧ P r.2) → OkP (Tl.mapE f xs e) fun r => All2 Q xs r.1 ∧ P r.2
 | [], e, h, _ => OkP.ret ⟨.nil, h⟩
 | x :: xs, e, h, k => by
  refine OkP.bind (f := fun y => (Tl.mapE f xs y.2).bind fun ys => some (y.1 :: ys.1, ys.2)) (k x List.mem_cons_self e h) fun y hy => ?_
  refine OkP.bind (OkP.mapE P Q xs y.2 hy.2 fun z hz => k z (List.mem_cons_of_mem _ hz)) fun ys hys => ?_
  exact OkP.ret ⟨.cons hy.1 hys.1, hys.2⟩
theorem OkP.at {xs : List α} {i : Int} {f : α → Option β} {P : β → Prop} (h0 : 0 ≤ i) (h1 : i < xs.length) (k : ∀ x, xs[i.toNat]? = some x → OkP (f x) P) : OkP ((atI xs i).bind f) P := by
 obtain ⟨x, e1, e2⟩ := atI_i h0 h1
 rw [e1]; exact k x e2
end
end My
namespace Tl
open PySem Dl
open L2 (ixN atI)
open Classical in
noncomputable def relFn {α : Type} (enc : α → List S) (t : α → Option Of) : Fn := fun ss => if h : ∃ a, ss = enc a then t (Classical.choose h) else none
noncomputable section
theorem il_ns : isLook "NoneType" "str" = some false := by decide +kernel
theorem il_bs : isLook "bool" "str" = some false := by decide +kernel
theorem il_is : isLook "int" "str" = some false := by decide +kernel
theorem il_ls : isLook "list" "str" = some false := by decide +kernel
theorem il_ts : isLook "tuple" "str" = some false := by decide +kernel
theorem il_sl : isLook "str" "list" = some false := by decide +kernel
theorem il_st : isLook "str" "tuple" = some false := by decide +kernel
open Classical in
noncomputable def sameB (a b : D) : Bool := decide (a = b)
theorem ints_inj : ∀ {a b : List Int}, a.map D.int = b.map D.int → a = b
 | [], [], _ => rfl
 | [], _ :: _, h => by cases h
 | _ :: _, [], h => by cases h
 | x :: a, y :: b, h => by
  obtain ⟨h1, h2⟩ := List.cons.inj h
  rw [D.int.inj h1, ints_inj h2]
mutual
theorem tree_inj : ∀ {a b : QT}, e_tree a = e_tree b → a = b
 | .fin n, .fin m, h => by
  rw [e_tree_fin, e_tree_fin] at h
  have h := (List.cons.inj (List.cons.inj (D.tup.inj h)).2).1
  rw [D.int.inj h]
 | .fin n, .ask p bs, h => by
  rw [e_tree_fin, e_tree_a] at h
  have h := (List.cons.inj (List.cons.inj (D.tup.inj h)).2).2
  cases h
 | .ask p bs, .fin n, h => by
  rw [e_tree_fin, e_tree_a] at h
  have h := (List.cons.inj (List.cons.inj (D.tup.inj h)).2).2
  cases h
 | .ask p bs, .ask q cs, h => by
  rw [e_tree_a, e_tree_a] at h
  have h1 := (List.cons.inj (D.tup.inj h)).2
  have h2 := (List.cons.inj h1).1
  have h3 := (List.cons.inj (List.cons.inj h1).2).1
  rw [D.int.inj h2, trees_inj (D.tup.inj h3)]
theorem trees_inj : ∀ {a b : QTs}, e_trees a = e_trees b → a = b
 | .nil, .nil, _ => rfl
 | .nil, .cons c t r, h => by unfold e_trees at h; cases h
 | .cons c t r, .nil, h => by unfold e_trees at h; cases h
 | .cons c t r, .cons c' t' r', h => by
  unfold e_trees at h
  obtain ⟨h1, h2⟩ := List.cons.inj h
  obtain ⟨h3, h4⟩ := List.cons.inj (D.tup.inj h1)
  obtain ⟨h5, _⟩ := List.cons.inj h4
  rw [ints_inj (D.tup.inj h3), tree_inj h5, trees_inj h2]
end
section
variable {ρ : List S} {f : PF} {is : List Nat} {t : M Bool} {b : MS} {r : CF} {d : D} {ds : List D} {fe : M Rv}
theorem sMatch_eq : sMatch fe r ρ = cps fe ρ (fun e ρ => some (.ex e ρ)) fun x ρ => cps (toV x) ρ (fun e ρ => some (.ex e ρ)) r := by
 unfold sMatch
 rw [thenS_eq]
 simp only [cps_bind]
theorem setD_n (ds : List D) : setD [] ds ρ = ρ := by cases ds <;> rfl
theorem setD_c (i : Nat) (is : List Nat) (d : D) (ds : List D) : setD (i :: is) (d :: ds) ρ = setD is ds (ρ.set i (.val d)) := rfl
theorem kNil_eq : kNil d ρ = some (.nx ρ) := rfl
end
section
variable {Fnum Fasc : Fn} {tasc : Bool × List Int → Option (List Int)}
end
end
end Tl
namespace Tl
open PySem Dl
open L2 (ixN atI)
section
variable {γ : Type} {ρ : List S} {kx : Xn → List S → Option γ} {fa : M Rv} {lt : M (List Rv × List D)} {lt2 : M P2}
theorem cps_aTmp2R (k : P2 → List S → Option γ) (p : List Rv × List D) (ds : List D) : cps (aTmp2R p ds) ρ kx k = k (.ali (ρ.length + 1) :: p.1, ds, p.2) ρ := rfl
theorem cps_aTmp2 (k : P2 → List S → Option γ) : cps (aTmp2 fa lt) ρ kx k = cps fa ρ kx fun r ρ1 => (lstOf1 r).bind fun ds => cps lt ρ1 kx fun p ρ2 => k (.ali (ρ2.length + 1) :: p.1, ds, p.2) ρ2 := by
 unfold aTmp2; simp only [cps_bind, cps_ofO, cps_aTmp2R]
theorem cps_aConsT2 (k : P2 → List S → Option γ) : cps (aConsT2 fa lt2) ρ kx k = cps fa ρ kx fun r ρ1 => cps lt2 ρ1 kx fun p ρ2 => k (Dl.settle r :: p.1, p.2) ρ2 := by
 unfold aConsT2; simp only [cps_bind, cps_pure]
theorem cps_callT2 (mu : List Bool) (fn : Fn) (p : P2) (k : Rv → List S → Option γ) : cps (callT2 mu fn p) ρ kx k = cps (callM mu fn p.1) (ρ ++ [.own (.lst p.2.2)] ++ [.own (.lst p.2.1)]) (fun e ρ' => kx e (ρ'.take ρ.length)) fun r ρ' => tkK r fun r => k r (ρ'.take ρ.length) := by
 unfold callT2 cps
 dsimp only
 cases callM mu fn p.1 (ρ ++ [.own (.lst p.2.2)] ++ [.own (.lst p.2.1)]) with
 | none => rfl
 | some o =>
  cases o with
  | ex e ρ' => rfl
  | ok r ρ' => cases r <;> rfl
theorem cps_eCallT2 (mu : List Bool) (fn : Fn) (k : Rv → List S → Option γ) : cps (eCallT2 mu fn lt2) ρ kx k = cps lt2 ρ kx fun p ρ1 => cps (callT2 mu fn p) ρ1 kx k := by
 unfold eCallT2; simp only [cps_bind]
end
def ofTp : D → Option (List D)
 | .tup xs => some xs
 | _ => none
theorem ofTp_t (xs : List D) : ofTp (.tup xs) = some xs := rfl
section
variable {γ : Type} {ρ : List S} {kx : Xn → List S → Option γ} {fa fb : M Rv}
theorem cps_extendT (k : Rv → List S → Option γ) : cps (mExtendT fa fb) ρ kx k = cps fa ρ kx fun r ρ1 => (ownLst (Dl.settle r) ρ1).bind fun _ => cps fb ρ1 kx fun x ρ2 => cps (peek (Dl.settle x)) ρ2 kx fun d ρ3 => (ownLst (Dl.settle r) ρ3).bind fun p => (ofTp d).bind fun es => (gz (p.2.length + es.length)).bind fun _ => k (.val .non) (ρ3.set p.1 (.own (.lst (p.2 ++ es)))) := by
 unfold mExtendT; refine (cps_bind _ _ k).trans ?_
 congr 1; funext r ρ1
 have e1 : ∀ (h : Unit → List S → Option γ), cps (ckL (Dl.settle r)) ρ1 kx h = (ownLst (Dl.settle r) ρ1).bind fun _ => h () ρ1 := fun h => by
  unfold cps ckL; cases ownLst (Dl.settle r) ρ1 <;> rfl
 refine (cps_bind _ _ k).trans ?_
 rw [e1]
 congr 1; funext _
 refine (cps_bind _ _ k).trans ?_
 congr 1; funext x ρ2
 refine (cps_bind _ _ k).trans ?_
 congr 1; funext d ρ3
 unfold cps gz
 dsimp only
 cases ownLst (Dl.settle r) ρ3 with
 | none => cases d <;> rfl
 | some p =>
  obtain ⟨i, ds⟩ := p
  dsimp only [Option.bind]
  cases d with
  | tup es =>
   dsimp only [ofTp]
   by_cases h : ds.length + es.length ≤ sizeLine
   · rw [if_pos h, if_pos h]
   · rw [if_neg h, if_neg h]
  | _ => rfl
end
theorem any_bm {α : Type} (f : α → Bool) (xs : List α) : gAny [.lst (xs.map fun a => D.bl (f a))] = some (.val (.bl ((xs.map f).any id))) := by
 have := any_b (xs.map f)
 rw [List.map_map] at this
 exact this
theorem all_bm {α : Type} (f : α → Bool) (xs : List α) : gAll [.lst (xs.map fun a => D.bl (f a))] = some (.val (.bl ((xs.map f).all id))) := by
 have := all_b (xs.map f)
 rw [List.map_map] at this
 exact this
theorem is_otree (o : Option QT) : dIsN (eO e_tree o) .non = some (.val (.bl o.isNone)) := by
 cases o with
 | none => rfl
 | some t => cases t <;> (show dIsN (e_tree _) .non = _) <;> unfold e_tree <;> rfl
theorem isn_otree (o : Option QT) : dNotN (eO e_tree o) .non = some (.val (.bl (!o.isNone))) := by
 cases o with
 | none => rfl
 | some t => cases t <;> (show dNotN (e_tree _) .non = _) <;> unfold e_tree <;> rfl
theorem ne_lt0 (a : List (List Int)) : dNe (.lst (a.map fun x => .tup (x.map .int))) (.lst []) = some (.val (.bl (!decide (a = [])))) := pd_int.tup.lst.ne (by decide) a []
theorem eq_ll0 (a : List (List Int)) : dNe (.lst (a.map fun x => .lst (x.map .int))) (.lst []) = some (.val (.bl (!decide (a = [])))) := pd_int.lst.lst.ne (by decide) a []
theorem int_o (o : Option Int) : gInt [eO D.int o] = o.bind fun i => some (.val (.int i)) := by cases o <;> rfl
theorem ge_oi (i : Int) (o : Option Int) : dGe (eO D.int o) (.int i) = o.bind fun j => some (.val (.bl (decide (i ≤ j)))) := by cases o <;> rfl
theorem le_oi (i : Int) (o : Option Int) : dLe (eO D.int o) (.int i) = o.bind fun j => some (.val (.bl (decide (j ≤ i)))) := by cases o <;> rfl
theorem lpO_E {E : Type} (st : E → List S) (rv : Empty → Rv) (rs : Empty → List S) (o : Cf E Empty) : (some (lpO st rv rs o) : Option Os) = o.k (fun e => some (.nx (st e))) (fun _ => none) := by
 cases o with
 | rt r => exact nomatch r
 | _ => rfl
end Tl
namespace Tl
open PySem Dl
open L2 (ixN atI)
abbrev K2 := Dn.K2
def lkT2 {β : Type} (m : List (K2 × β)) (k : K2) : Option β := (m.find? fun p => decide (p.1 = k)).map (·.2)
def hasT2 {β : Type} (m : List (K2 × β)) (k : K2) : Bool := (lkT2 m k).isSome
def putT2 {β : Type} (m : List (K2 × β)) (k : K2) (v : β) : List (K2 × β) := if hasT2 m k = true then m.map (fun p => if p.1 = k then (p.1, v) else p) else m ++ [(k, v)]
section
variable {β : Type} (e : β → D)
theorem lkN_T : ∀ (m : List (K2 × β)) (k : K2), lkN (List.map (fun x => keyD x.1) m) (List.map (fun x => e x.2) m) k = (lkT2 m k).bind fun v => some (e v)
 | [], k => rfl
 | p :: m, k => by
  show (if keyO (keyD p.1) = some k then some (e p.2) else lkN (List.map (fun x => keyD x.1) m) (List.map (fun x => e x.2) m) k) = _
  rw [keyO_keyD]
  by_cases q : p.1 = k
  · have b : lkT2 (p :: m) k = some p.2 := by simp [lkT2, List.find?_cons, q]
    rw [if_pos (by rw [q]), b]; rfl
  · have b : lkT2 (p :: m) k = lkT2 m k := by simp [lkT2, List.find?_cons, q]
    rw [if_neg (fun z => q (Option.some.inj z)), b]
    exact lkN_T m k
theorem lkN_T_some (m : List (K2 × β)) (k : K2) : (lkN (List.map (fun x => keyD x.1) m) (List.map (fun x => e x.2) m) k).isSome = hasT2 m k := by
 rw [lkN_T]; unfold hasT2; cases lkT2 m k <;> rfl
theorem inN_T (m : List (K2 × β)) (k : K2) : dInN (D.tup (List.map (fun x => D.tup (List.map D.int x)) k)) (.ndi (List.map (fun x => D.tup (List.map (fun x => D.tup (List.map D.int x)) x.1)) m) (List.map (fun x => e x.2) m)) = some (.val (.bl (hasT2 m k))) := by
 show dInN (keyD k) (.ndi (List.map (fun x => keyD x.1) m) _) = _
 unfold dInN
 rw [keyO_keyD]
 dsimp only
 rw [lkN_T_some]
theorem getN_T (m : List (K2 × β)) (k : K2) : dGetN (.ndi (List.map (fun x => D.tup (List.map (fun x => D.tup (List.map D.int x)) x.1)) m) (List.map (fun x => e x.2) m)) (D.tup (List.map (fun x => D.tup (List.map D.int x)) k)) = (lkT2 m k).bind fun v => some (e v) := by
 show dGetN (.ndi (List.map (fun x => keyD x.1) m) _) (keyD k) = _
 unfold dGetN
 rw [keyO_keyD]
 exact lkN_T e m k
theorem replV_T (k : K2) (v : β) : ∀ m : List (K2 × β), replV (List.map (fun x => keyD x.1) m) (List.map (fun x => e x.2) m) k (e v) = (m.map fun p => if p.1 = k then (p.1, v) else p).map (fun x => e x.2)
 | [] => rfl
 | p :: m => by
  show (if keyO (keyD p.1) = some k then e v else e p.2) :: replV (List.map (fun x => keyD x.1) m) (List.map (fun x => e x.2) m) k (e v) = _
  rw [keyO_keyD, replV_T k v m, List.map_cons, List.map_cons]
  by_cases q : p.1 = k
  · rw [if_pos (by rw [q]), if_pos q]
  · rw [if_neg (fun z => q (Option.some.inj z)), if_neg q]
theorem replK_T (k : K2) (v : β) : ∀ m : List (K2 × β), (m.map fun p => if p.1 = k then (p.1, v) else p).map (fun x => keyD x.1) = m.map fun x => keyD x.1
 | [] => rfl
 | p :: m => by
  rw [List.map_cons, List.map_cons, List.map_cons, replK_T k v m]
  by_cases q : p.1 = k
  · rw [if_pos q]
  · rw [if_neg q]
theorem putN_T (m : List (K2 × β)) (k : K2) (v : β) : D.ndi (putKs (List.map (fun x => D.tup (List.map (fun x => D.tup (List.map D.int x)) x.1)) m) (List.map (fun x => e x.2) m) k) (putVs (List.map (fun x => D.tup (List.map (fun x => D.tup (List.map D.int x)) x.1)) m) (List.map (fun x => e x.2) m) k (e v)) =
  .ndi (List.map (fun x => D.tup (List.map (fun x => D.tup (List.map D.int x)) x.1)) (putT2 m k v)) (List.map (fun x => e x.2) (putT2 m k v)) := by
 show D.ndi (putKs (List.map (fun x => keyD x.1) m) _ k) (putVs (List.map (fun x => keyD x.1) m) _ k (e v)) = .ndi (List.map (fun x => keyD x.1) (putT2 m k v)) _
 unfold putKs putVs putT2
 rw [lkN_T_some]
 by_cases q : hasT2 m k = true
 · rw [if_pos q, if_pos q, if_pos q, replK_T, replV_T]
 · rw [if_neg q, if_neg q, if_neg q, List.map_append, List.map_append]; rfl
end
theorem keyO_T (k : K2) : keyO (D.tup (List.map (fun x => D.tup (List.map D.int x)) k)) = some k := keyO_keyD k
abbrev Fnd := Option Int × Option Int
theorem inN_f (m : List (K2 × Fnd)) (k : K2) : dInN (D.tup (List.map (fun x => D.tup (List.map D.int x)) k)) (.ndi (List.map (fun x => D.tup (List.map (fun x => D.tup (List.map D.int x)) x.1)) m) (List.map (fun x => D.tup [eO D.int x.2.1, eO D.int x.2.2]) m)) = some (.val (.bl (hasT2 m k))) := inN_T (fun p : Fnd => D.tup [eO D.int p.1, eO D.int p.2]) m k
theorem getN_f (m : List (K2 × Fnd)) (k : K2) : dGetN (.ndi (List.map (fun x => D.tup (List.map (fun x => D.tup (List.map D.int x)) x.1)) m) (List.map (fun x => D.tup [eO D.int x.2.1, eO D.int x.2.2]) m)) (D.tup (List.map (fun x => D.tup (List.map D.int x)) k)) = (lkT2 m k).bind fun v => some (D.tup [eO D.int v.1, eO D.int v.2]) := getN_T (fun p : Fnd => D.tup [eO D.int p.1, eO D.int p.2]) m k
theorem putN_f (m : List (K2 × Fnd)) (k : K2) (a b : Option Int) : D.ndi (putKs (List.map (fun x => D.tup (List.map (fun x => D.tup (List.map D.int x)) x.1)) m) (List.map (fun x => D.tup [eO D.int x.2.1, eO D.int x.2.2]) m) k) (putVs (List.map (fun x => D.tup (List.map (fun x => D.tup (List.map D.int x)) x.1)) m) (List.map (fun x => D.tup [eO D.int x.2.1, eO D.int x.2.2]) m) k (D.tup [eO D.int a, eO D.int b])) =
  .ndi (List.map (fun x => D.tup (List.map (fun x => D.tup (List.map D.int x)) x.1)) (putT2 m k (a, b))) (List.map (fun x => D.tup [eO D.int x.2.1, eO D.int x.2.2]) (putT2 m k (a, b))) := putN_T (fun p : Fnd => D.tup [eO D.int p.1, eO D.int p.2]) m k (a, b)
section
variable {γ : Type} {ρ : List S} {kx : Xn → List S → Option γ} {fa fb fo : M Rv}
theorem cps_dicN (k : Rv → List S → Option γ) : cps eDicN ρ kx k = k (.own (.ndi [] [])) ρ := by
 unfold eDicN; simp only [cps_pure]
theorem cps_getN (k : Rv → List S → Option γ) : cps (eGetN fa fb) ρ kx k = cps fa ρ kx fun x ρ1 => cps fb ρ1 kx fun y ρ2 => cps (peek (Dl.settle x)) ρ2 kx fun d ρ3 => cps (peek y) ρ3 kx fun e ρ4 => (dGetN d e).bind fun z => k (.val z) ρ4 := by
 unfold eGetN; simp only [cps_bind, cps_ofO, cps_pure]
theorem eInN_eq : eInN fa fb = mBin dInN fa fb := rfl
def ownNK (i : Nat) : Option S → Option (Nat × List D × List D)
 | some (.own (.ndi ks vs)) => some (i, ks, vs)
 | _ => none
theorem ownNdi_a (i : Nat) (ρ : List S) : ownNdi (.ali i) ρ = ownNK i ρ[i]? := by
 unfold ownNdi ownNK
 dsimp only
 all_goals cases ρ[i]? with
 | none => rfl
 | some s => cases s with
  | no => rfl
  | val d => rfl
  | own d => cases d <;> rfl
theorem ownNK_n (i : Nat) (ks vs : List D) : ownNK i (some (.own (.ndi ks vs))) = some (i, ks, vs) := rfl
theorem sSetN_eq : sSetN fa fo fb ρ = cps fa ρ (fun e ρ => some (.ex e ρ)) fun x ρ => cps (toV x) ρ (fun e ρ => some (.ex e ρ)) fun d ρ => cps fo ρ (fun e ρ => some (.ex e ρ)) fun r ρ => cps fb ρ (fun e ρ => some (.ex e ρ)) fun j ρ => cps (peek (Dl.settle j)) ρ (fun e ρ => some (.ex e ρ)) fun e ρ =>
  (ownNdi (Dl.settle r) ρ).bind fun p => (keyO e).bind fun k => (gz (p.2.2.length + 1)).bind fun _ => some (.nx (ρ.set p.1 (.own (.ndi (putKs p.2.1 p.2.2 k) (putVs p.2.1 p.2.2 k d))))) := by
 unfold sSetN
 rw [thenS_eq]; congr 1; funext x ρ
 rw [thenS_eq]; congr 1; funext d ρ
 rw [thenS_eq]; congr 1; funext r ρ
 rw [thenS_eq]; congr 1; funext j ρ
 rw [thenS_eq]; congr 1; funext e ρ
 cases ownNdi (Dl.settle r) ρ with
 | none => rfl
 | some p =>
  cases keyO e with
  | none => rfl
  | some k =>
   show (if p.2.2.length < sizeLine then _ else none) = (gz (p.2.2.length + 1)).bind _
   unfold gz
   by_cases q : p.2.2.length < sizeLine
   · rw [if_pos q, if_pos (by omega)]; rfl
   · rw [if_neg q, if_neg (by omega)]; rfl
end
section
variable {γ : Type} {ρ : List S} {kx : Xn → List S → Option γ} {fa : M Rv} {la : M (List Rv)} {lt : M (List Rv × List D × List D)}
theorem l1N_o (ks vs : List D) : lstOf1N (.own (.ndi ks vs)) = some (ks, vs) := rfl
theorem cps_aTmpRN (k : (List Rv × List D × List D) → List S → Option γ) (rs : List Rv) (ds : List D × List D) : cps (aTmpRN rs ds) ρ kx k = k (.ali ρ.length :: rs, ds) ρ := rfl
theorem cps_aTmpN (k : (List Rv × List D × List D) → List S → Option γ) : cps (aTmpN fa la) ρ kx k = cps fa ρ kx fun r ρ1 => (lstOf1N r).bind fun ds => cps la ρ1 kx fun rs ρ2 => k (.ali ρ2.length :: rs, ds) ρ2 := by
 unfold aTmpN; simp only [cps_bind, cps_ofO, cps_aTmpRN]
theorem cps_aConsTN (k : (List Rv × List D × List D) → List S → Option γ) : cps (aConsTN fa lt) ρ kx k = cps fa ρ kx fun r ρ1 => cps lt ρ1 kx fun p ρ2 => k (Dl.settle r :: p.1, p.2) ρ2 := by
 unfold aConsTN; simp only [cps_bind, cps_pure]
theorem cps_callTN (mu : List Bool) (fn : Fn) (p : List Rv × List D × List D) (k : Rv → List S → Option γ) : cps (callTN mu fn p) ρ kx k = cps (callM mu fn p.1) (ρ ++ [.own (.ndi p.2.1 p.2.2)]) (fun e ρ' => kx e (ρ'.take ρ.length)) fun r ρ' => tkK r fun r => k r (ρ'.take ρ.length) := by
 unfold callTN cps
 dsimp only
 cases callM mu fn p.1 (ρ ++ [.own (.ndi p.2.1 p.2.2)]) with
 | none => rfl
 | some o =>
  cases o with
  | ex e ρ' => rfl
  | ok r ρ' => cases r <;> rfl
theorem cps_eCallTN (mu : List Bool) (fn : Fn) (k : Rv → List S → Option γ) : cps (eCallTN mu fn lt) ρ kx k = cps lt ρ kx fun p ρ1 => cps (callTN mu fn p) ρ1 kx k := by
 unfold eCallTN; simp only [cps_bind]
end
end Tl
namespace Tl
open PySem Dl
open L2 (ixN atI)
theorem inN_i (m : List (K2 × Int)) (k : K2) : dInN (D.tup (List.map (fun x => D.tup (List.map D.int x)) k)) (.ndi (List.map (fun x => D.tup (List.map (fun x => D.tup (List.map D.int x)) x.1)) m) (List.map (fun x => D.int x.2) m)) = some (.val (.bl (hasT2 m k))) := inN_T D.int m k
theorem getN_i (m : List (K2 × Int)) (k : K2) : dGetN (.ndi (List.map (fun x => D.tup (List.map (fun x => D.tup (List.map D.int x)) x.1)) m) (List.map (fun x => D.int x.2) m)) (D.tup (List.map (fun x => D.tup (List.map D.int x)) k)) = (lkT2 m k).bind fun v => some (D.int v) := getN_T D.int m k
theorem putN_i (m : List (K2 × Int)) (k : K2) (a : Int) : D.ndi (putKs (List.map (fun x => D.tup (List.map (fun x => D.tup (List.map D.int x)) x.1)) m) (List.map (fun x => D.int x.2) m) k) (putVs (List.map (fun x => D.tup (List.map (fun x => D.tup (List.map D.int x)) x.1)) m) (List.map (fun x => D.int x.2) m) k (D.int a)) =
  .ndi (List.map (fun x => D.tup (List.map (fun x => D.tup (List.map D.int x)) x.1)) (putT2 m k a)) (List.map (fun x => D.int x.2) (putT2 m k a)) := putN_T D.int m k a
end Tl
namespace Tl
open PySem Dl
open L2 (ixN atI)
section
variable {β : Type} (e : β → D)
theorem notInN_T (m : List (K2 × β)) (k : K2) : dNotInN (D.tup (List.map (fun x => D.tup (List.map D.int x)) k)) (.ndi (List.map (fun x => D.tup (List.map (fun x => D.tup (List.map D.int x)) x.1)) m) (List.map (fun x => e x.2) m)) = some (.val (.bl (!hasT2 m k))) := by
 have h := inN_T e m k
 unfold dInN at h
 unfold dNotInN
 rw [keyO_T] at h ⊢
 dsimp only at h ⊢
 have h2 := Option.some.inj h
 injection h2 with h3
 injection h3 with h4
 rw [h4]
end
theorem inN_b (m : List (K2 × Bool)) (k : K2) : dInN (D.tup (List.map (fun x => D.tup (List.map D.int x)) k)) (.ndi (List.map (fun x => D.tup (List.map (fun x => D.tup (List.map D.int x)) x.1)) m) (List.map (fun x => D.bl x.2) m)) = some (.val (.bl (hasT2 m k))) := inN_T D.bl m k
theorem notInN_b (m : List (K2 × Bool)) (k : K2) : dNotInN (D.tup (List.map (fun x => D.tup (List.map D.int x)) k)) (.ndi (List.map (fun x => D.tup (List.map (fun x => D.tup (List.map D.int x)) x.1)) m) (List.map (fun x => D.bl x.2) m)) = some (.val (.bl (!hasT2 m k))) := notInN_T D.bl m k
theorem putN_b (m : List (K2 × Bool)) (k : K2) (a : Bool) : D.ndi (putKs (List.map (fun x => D.tup (List.map (fun x => D.tup (List.map D.int x)) x.1)) m) (List.map (fun x => D.bl x.2) m) k) (putVs (List.map (fun x => D.tup (List.map (fun x => D.tup (List.map D.int x)) x.1)) m) (List.map (fun x => D.bl x.2) m) k (D.bl a)) =
  .ndi (List.map (fun x => D.tup (List.map (fun x => D.tup (List.map D.int x)) x.1)) (putT2 m k a)) (List.map (fun x => D.bl x.2) (putT2 m k a)) := putN_T D.bl m k a
abbrev eK2 (x : K2) : D := D.tup (List.map (fun x => D.tup (List.map D.int x)) x)
theorem inN_k (m : List (K2 × K2)) (k : K2) : dInN (D.tup (List.map (fun x => D.tup (List.map D.int x)) k)) (.ndi (List.map (fun x => D.tup (List.map (fun x => D.tup (List.map D.int x)) x.1)) m) (List.map (fun x => D.tup (List.map (fun x => D.tup (List.map D.int x)) x.2)) m)) = some (.val (.bl (hasT2 m k))) := inN_T eK2 m k
theorem getN_k (m : List (K2 × K2)) (k : K2) : dGetN (.ndi (List.map (fun x => D.tup (List.map (fun x => D.tup (List.map D.int x)) x.1)) m) (List.map (fun x => D.tup (List.map (fun x => D.tup (List.map D.int x)) x.2)) m)) (D.tup (List.map (fun x => D.tup (List.map D.int x)) k)) = (lkT2 m k).bind fun v => some (D.tup (List.map (fun x => D.tup (List.map D.int x)) v)) := getN_T eK2 m k
section
variable {γ : Type} {ρ : List S} {kx : Xn → List S → Option γ} {fa fb : M Rv}
def dicOne (e d : D) : Option D := (keyO e).map fun k => .ndi [keyD k] [d]
theorem dicOne_b (k : K2) (b : Bool) : dicOne (D.tup (List.map (fun x => D.tup (List.map D.int x)) k)) (.bl b) = some (.ndi (List.map (fun x => D.tup (List.map (fun x => D.tup (List.map D.int x)) x.1)) [(k, b)]) (List.map (fun x => D.bl x.2) [(k, b)])) := by
 unfold dicOne; rw [keyO_T]; rfl
theorem cps_dic1 (k : Rv → List S → Option γ) : cps (eDic1 fa fb) ρ kx k = cps fa ρ kx fun r ρ1 => cps fb ρ1 kx fun q ρ2 => cps (peek (Dl.settle r)) ρ2 kx fun e ρ3 => cps (toV q) ρ3 kx fun d ρ4 => (dicOne e d).bind fun x => k (.own x) ρ4 := by
 unfold eDic1
 simp only [cps_bind]
 congr 1; funext r ρ1
 congr 1; funext q ρ2
 congr 1; funext e ρ3
 congr 1; funext d ρ4
 unfold dicOne
 cases keyO e <;> rfl
theorem eNotInN_eq : eNotInN fa fb = mBin dNotInN fa fb := rfl
end
theorem or_tt (a : Bool) : (a || true) = true := Bool.or_true a
def oRv {α : Type} (e : α → D) : Option α → Rv
 | none => .val .non
 | some a => .own (e a)
section
variable {α γ : Type} {e : α → D} {ρ : List S} {kx : Xn → List S → Option γ}
theorem oRv_n : oRv e none = .val .non := rfl
theorem oRv_s (a : α) : oRv e (some a) = .own (e a) := rfl
theorem oRv_na (v : Option α) : notAli (oRv e v) = true := by cases v <;> rfl
theorem rtn_oo (ss : List S) (v : Option α) : rtn ss (some (.rt (oRv e v) ρ)) = some (.ret (oRv e v) (post ss ρ)) := by cases v <;> rfl
theorem oRv_toV (v : Option α) (k : D → List S → Option γ) : cps (toV (oRv e v)) ρ kx k = k (eO e v) ρ := by cases v <;> rfl
end
theorem PD.prod3 {α β γ : Type} [DecidableEq α] [DecidableEq β] [DecidableEq γ] {e1 : α → D} {e2 : β → D} {e3 : γ → D} {p1 : α → PyData} {p2 : β → PyData} {p3 : γ → PyData} {n1 n2 n3 n : Nat} (h1 : PD e1 p1 n1) (h2 : PD e2 p2 n2) (h3 : PD e3 p3 n3) (l1 : n1 ≤ n) (l2 : n2 ≤ n) (l3 : n3 ≤ n) :
  PD (fun x : α × β × γ => D.tup [e1 x.1, e2 x.2.1, e3 x.2.2]) (fun x => .tuple [p1 x.1, p2 x.2.1, p3 x.2.2]) (n + 1) := ⟨fun a => by unfold toP; simp only [toPs, h1.to, h2.to, h3.to]; rfl, fun a => by unfold PyData.canLay0; simp only [PyData.canLayAll0, h1.lay, h2.lay, h3.lay]; rfl, fun a => by
 have d1 := h1.dep a.1
 have d2 := h2.dep a.2.1
 have d3 := h3.dep a.2.2
 unfold PyData.depth
 simp only [PyData.depthAll]
 omega, fun a b => by
 obtain ⟨a1, a2, a3⟩ := a
 obtain ⟨b1, b2, b3⟩ := b
 unfold PyData.eqv
 simp only [PyData.eqvAll, h1.eqv, h2.eqv, h3.eqv]
 rw [Bool.eq_iff_iff]
 simp⟩
theorem pd_row : PD (fun x : K2 × Int × K2 => D.tup [D.tup (List.map (fun x => D.tup (List.map D.int x)) x.1), D.int x.2.1, D.tup (List.map (fun x => D.tup (List.map D.int x)) x.2.2)]) (fun x => .tuple [.tuple (x.1.map fun x => .tuple (x.map .int)), .int x.2.1, .tuple (x.2.2.map fun x => .tuple (x.map .int))]) 3 :=
 PD.prod3 (pd_int.tup).tup pd_int (pd_int.tup).tup (by decide) (by decide) (by decide)
theorem is_ol {α : Type} (e : α → D) (v : Option (List α)) : dIsN (eO (fun x => D.lst (List.map e x)) v) .non = some (.val (.bl v.isNone)) := by cases v <;> rfl
theorem isn_ol {α : Type} (e : α → D) (v : Option (List α)) : dNotN (eO (fun x => D.lst (List.map e x)) v) .non = some (.val (.bl (!v.isNone))) := by cases v <;> rfl
theorem eq_rn (a : Option (List (K2 × Int × K2))) : dEq (eO (fun x => D.lst (List.map (fun x : K2 × Int × K2 => D.tup [D.tup (List.map (fun x => D.tup (List.map D.int x)) x.1), D.int x.2.1, D.tup (List.map (fun x => D.tup (List.map D.int x)) x.2.2)]) x)) a) (D.lst []) = some (.val (.bl (decide (a = some [])))) := (pd_row.lst).eqO nn_lst (by decide) a []
end Tl
namespace Tl
open PySem Dl
open L2 (ixN atI)
section
variable {γ : Type} {ρ : List S} {kx : Xn → List S → Option γ} {it : M (List D)} {tg : D → List S → Option (List S)} {fk fv : M Rv} {vs : List Nat}
variable {α β : Type} {e : α → D} {ev : β → D}
theorem cps_eDcN (k : Rv → List S → Option γ) : cps (eDcN it tg fk fv vs) ρ kx k = cps it ρ kx fun ds ρ1 => if noOwn ρ1 vs = true then cps (dcL tg fk fv vs ds ([], [])) ρ1 kx fun acc ρ2 => k (.own (.ndi acc.1 acc.2)) ρ2 else none := by
 unfold eDcN
 refine (cps_bind _ _ k).trans ?_
 congr 1; funext ds ρ1
 refine (cps_bind _ _ k).trans ?_
 rw [cps_no]
 rfl
end
theorem eq_l0t (a : List (List Int)) : dEq (.lst (List.map (fun x => D.tup (List.map D.int x)) a)) (.lst []) = some (.val (.bl (decide (a = [])))) := pd_int.tup.lst.eq (by decide) a []
theorem ne_l0t (a : List (List Int)) : dNe (.lst (List.map (fun x => D.tup (List.map D.int x)) a)) (.lst []) = some (.val (.bl (!decide (a = [])))) := pd_int.tup.lst.ne (by decide) a []
end Tl
namespace Tl
open PySem Dl
open L2 (ixN atI)
def eBq {α : Type} (e : α → D) (s : Bool × List α) : D := if s.1 = true then .tup (s.2.map e) else .brw (s.2.map e)
theorem it_bq {α : Type} (e : α → D) (s : Bool × List α) : items (eBq e s) = some (s.2.map e) := by
 unfold eBq; split <;> rfl
theorem eBq_t {α : Type} (e : α → D) (xs : List α) : eBq e (true, xs) = .tup (xs.map e) := rfl
theorem eBq_l {α : Type} (e : α → D) (xs : List α) : eBq e (false, xs) = .brw (xs.map e) := rfl
theorem it_b (ds : List D) : items (.brw ds) = some ds := rfl
theorem len_b {α : Type} (e : α → D) (xs : List α) : gLen [.brw (xs.map e)] = some (.val (.int xs.length)) := by
 show some (Rv.val (D.int ((xs.map e).length : Nat))) = _
 rw [List.length_map]
theorem len_bq {α : Type} (e : α → D) (s : Bool × List α) : gLen [eBq e s] = some (.val (.int s.2.length)) := by
 unfold eBq
 split <;> (show some (Rv.val (D.int ((s.2.map e).length : Nat))) = _; rw [List.length_map])
theorem ix_bq {α : Type} (e : α → D) (xs : Bool × List α) (i : Int) : dIx (eBq e xs) (.int i) = (atI xs.2 i).bind fun a => some (.val (e a)) := by
 have h : ∀ (l : List α), (atI (l.map e) i).map Rv.val = (atI l i).bind fun a => some (.val (e a)) := fun l => by
  rw [atI_map]
  cases atI l i <;> rfl
 unfold eBq
 split <;> exact h _
theorem list_bq {α : Type} (e : α → D) (xs : Bool × List α) : gList [eBq e xs] = some (.own (.lst (xs.2.map e))) := by unfold eBq; split <;> rfl
theorem tuple_bq {α : Type} (e : α → D) (xs : Bool × List α) : gTuple [eBq e xs] = some (.val (.tup (xs.2.map e))) := by unfold eBq; split <;> rfl
theorem brL_map {α : Type} (e : α → D) : ∀ xs : List α, brL (xs.map e) = xs.map fun x => brD (e x)
 | [] => rfl
 | x :: xs => by
  show brD (e x) :: brL (xs.map e) = _
  rw [brL_map e xs]; rfl
theorem br_l (ds : List D) : brD (.lst ds) = .brw (brL ds) := rfl
theorem br_t (ds : List D) : brD (.tup ds) = .tup (brL ds) := rfl
theorem br_b (ds : List D) : brD (.brw ds) = .brw (brL ds) := rfl
theorem br_i (i : Int) : brD (.int i) = .int i := rfl
theorem br_bl (i : Bool) : brD (.bl i) = .bl i := rfl
theorem br_s (i : Str) : brD (.str i) = .str i := rfl
theorem br_no : brD .non = .non := rfl
theorem brL_n : brL [] = [] := rfl
theorem brL_c (d : D) (ds : List D) : brL (d :: ds) = brD d :: brL ds := rfl
theorem brL_a : ∀ (as bs : List D), brL (as ++ bs) = brL as ++ brL bs
 | [], _ => rfl
 | a :: as, bs => by
  show brD a :: brL (as ++ bs) = brD a :: (brL as ++ brL bs)
  rw [brL_a as bs]
theorem brL_i (xs : List Int) : brL (xs.map D.int) = xs.map D.int := (brL_map D.int xs).trans (List.map_congr_left fun _ _ => rfl)
theorem br_bqi (s : Bool × List Int) : brD (eBq D.int s) = eBq D.int s := by
 unfold eBq
 split
 · show D.tup (brL _) = _; rw [brL_i]
 · show D.brw (brL _) = _; rw [brL_i]
theorem brL_bqi (xs : List (Bool × List Int)) : brL (xs.map fun x => eBq D.int x) = xs.map fun x => eBq D.int x := (brL_map _ xs).trans (List.map_congr_left fun x _ => br_bqi x)
theorem brL_ti (xs : List (List Int)) : brL (xs.map fun x => D.tup (x.map D.int)) = xs.map fun x => D.tup (x.map D.int) := (brL_map _ xs).trans (List.map_congr_left fun x _ => by
 show D.tup (brL (x.map D.int)) = _; rw [brL_i])
theorem brL_li (xs : List (List Int)) : brL (xs.map fun x => D.lst (x.map D.int)) = xs.map fun x => D.brw (x.map D.int) := (brL_map _ xs).trans (List.map_congr_left fun x _ => by
 show D.brw (brL (x.map D.int)) = _; rw [brL_i])
local macro_rules | `(tactic| simp? only [$as,*] $[$lo]?) => `(tactic| simp only [Tl.ob_some, Tl.ob_none, Tl.ob_assoc, Tl.om_eq, Tl.ob_ite, Tl.gz_small, Tl.gb_true, Tl.tt_true, Tl.ft_false, Tl.ite_T, Tl.ite_F, Tl.ite_fun, Tl.b_not_t, Tl.b_not_f, Tl.b_at, Tl.b_af, Tl.b_ot, Tl.b_of, Tl.b_ta, Tl.b_fa, Tl.g_zero, Tl.g_succ, Tl.s_zero, Tl.s_succ, Tl.gd_zero, Tl.gd_succ, Tl.a_cons, Tl.a_nil, Tl.a_nil2, Tl.m_cons, Tl.m_nil, Tl.m_app, Tl.m_map, Tl.m_idf, Tl.l_cons, Tl.l_nil, Tl.l_map, Tl.l_app, Tl.e_map, Tl.e_cons, Tl.e_nil, Tl.r_zero, Tl.r_succ, Tl.tl_cons, Tl.tl_nil, Tl.any_cons', Tl.any_nil', Tl.all_cons', Tl.all_nil', Tl.mem_one, Tl.eqs_self, Tl.tt_and, Tl.cps_bind, Tl.cps_pure, Tl.cps_fail, Tl.cps_ofO, Tl.cps_ite, Tl.cps_var, Tl.varK_v, Tl.varK_o, Tl.cps_C, Tl.set_v, Tl.set_o, Tl.set_a, Tl.cps_peek_v, Tl.cps_peek_o, Tl.cps_peek_a, Tl.peekK_v, Tl.peekK_o, Tl.cps_toV_v, Tl.cps_toV_o, Tl.cps_toV_a, Tl.toVK_v, Tl.toVK_o, Tl.peeks_n, Tl.peeks_c, Tl.toVs_n, Tl.toVs_c, Tl.toVs_vals, Tl.toVs_vals0, Tl.toVs_mv, Tl.toVs_mv0, Tl.cps_bin, Tl.cps_aNil, Tl.cps_aCons, Tl.it_l, Tl.it_t, Tl.cps_aStar, Tl.cps_eB, Tl.cps_tup, Tl.cps_lst, Tl.ofI_i, Tl.cps_oNo, Tl.cps_oSome, Tl.cps_sl, Tl.cps_neg, Tl.cps_tru, Tl.cps_tVal, Tl.cps_tNot, Tl.cps_tAnd, Tl.cps_tOr, Tl.cps_eNot, Tl.cps_eAnd, Tl.cps_eOr, Tl.cps_eIf, Tl.ofBl_b, Tl.cps_tCmp, Tl.cps_yes, Tl.cps_fld, Tl.cps_frz, Tl.prep_n, Tl.prep_t, Tl.prep_f, Tl.prep_z, Tl.cps_call, Tl.callO_ret, Tl.callO_ex, Tl.na_v, Tl.na_o, Tl.cps_eCall, Tl.ssOfs_n, Tl.ssOfs_c, Tl.ssOf_v, Tl.ssOf_a, Tl.ssK_v, Tl.ssK_o, Tl.dist_n, Tl.dist_v, Tl.dist_a, Tl.isAli_v, Tl.isAli_a, Tl.noAli_n, Tl.noAli_v, Tl.noAli_a, Tl.scaR_o, Tl.scaR_v, Tl.sca_n, Tl.sca_b, Tl.sca_i, Tl.sca_s, Tl.sca_l, Tl.sca_t, Tl.sca_ob, Tl.back_n, Tl.back_v, Tl.back_a, Tl.back1_eq, Tl.b1K_o, Tl.b1K_v, Tl.ownOr_o, Tl.cps_makeM, Tl.makeO_ret, Tl.makeO_ex, Tl.cps_eMake, Tl.cps_ckC, Tl.cps_ckO, Tl.cps_meth, Tl.cps_own2, Tl.cps_ownIn, Tl.ownLst_a, Tl.ownK_o, Tl.cps_append, Tl.ofL_l, Tl.cps_extend, Tl.cps_clear, Tl.cps_iSeq, Tl.cps_rng1, Tl.cps_rng2, Tl.cps_zip, Tl.cps_enu, Tl.rangeD_eq, Tl.dRng1_eq, Tl.dRng2_eq, Tl.dZip_l, Tl.dZip_t, Tl.dEnum_l, Tl.dEnum_t, Tl.sSeq_eq, Tl.sq_none, Tl.sq_nx, Tl.sq_rt, Tl.sq_ct, Tl.sq_bk, Tl.sq_ex, Tl.sq_bind, Tl.sq_ite, Tl.thenS_eq, Tl.sNil_eq, Tl.sPass_eq, Tl.sBreak_eq, Tl.sCont_eq, Tl.sNever_eq, Tl.sRetN_eq, Tl.sExpr_eq, Tl.retV_v, Tl.retV_o, Tl.retV_a, Tl.retK_v, Tl.retK_o, Tl.sRet_eq, Tl.setV_v, Tl.setV_o, Tl.setV_a, Tl.setK_v, Tl.setK_o, Tl.sSet_eq, Tl.sIf_eq, Tl.sFor_eq, Tl.asg_eq, Tl.sAsg_eq, Tl.sSetIx_eq, Tl.ownObj_a, Tl.ownObK_o, Tl.sSetF_eq, Tl.putF2_n, Tl.putF2_c, Tl.lkF_c, Tl.fldO_eq, Tl.nrm_n, Tl.nrm_k, Tl.nrm_f, Tl.frz1_o, Tl.frz1_v, Tl.frz1_n, Tl.kil_n, Tl.kil_c, Tl.sFore_eq, Tl.sAft_eq, Tl.sFz_eq, Tl.aq_bind, Tl.aq_ite, Tl.aq_none, Tl.aq_nx, Tl.aq_ct, Tl.aq_bk, Tl.aq_rt, Tl.aq_ex, Tl.sRtA_eq, Tl.rq_bind, Tl.rq_ite, Tl.rq_none, Tl.rq_rtv, Tl.rq_rto, Tl.rq_ex, Tl.gN_eq, Tl.gT_eq, Tl.gsN_eq, Tl.gsC_eq, Tl.rtn_bind, Tl.rtn_ite, Tl.rtn_none, Tl.rtn_nx, Tl.rtn_rtv, Tl.rtn_rto, Tl.rtn_ex, Tl.post_n, Tl.post_v, Tl.post_o, Tl.sq_lpO, Tl.aq_lpO, Tl.sq_k, Tl.aq_k, Tl.rq_k, Tl.rtn_k, Tl.ob_k, Tl.cfO_nx, Tl.cfO_ct, Tl.cfO_bk, Tl.cfO_rt, Tl.cps_lc, Tl.noOwn_n, Tl.noOwn_c, Tl.isOwn_o, Tl.isOwn_v, Tl.isOwn_n, Tl.wipe_n, Tl.wipe_c, Tl.back_n', Tl.back_c', Tl.add_ii, Tl.add_tt, Tl.add_ll, Tl.sub_ii, Tl.mul_ii, Tl.div_ii, Tl.mod_ii, Tl.pow_ii, Tl.lt_ii, Tl.le_ii, Tl.gt_ii, Tl.ge_ii, Tl.eO_none, Tl.eO_some, Tl.lt_io, Tl.gt_io, Tl.lt_oi, Tl.gt_oi, Tl.is_oi, Tl.isn_oi, Tl.is_ot, Tl.isn_ot, Tl.sca_oi, Tl.sca_ob', Tl.is_bb, Tl.isn_bb, Tl.is_nn, Tl.is_in, Tl.is_ln, Tl.is_tn, Tl.is_on, Tl.isn_nn, Tl.isn_in, Tl.isn_ln, Tl.isn_tn, Tl.isn_on, Tl.it_sq, Tl.eSq_t, Tl.eSq_l, Tl.len_sq, Tl.eq_ii, Tl.ne_ii, Tl.eq_bb, Tl.ne_bb, Tl.eq_li, Tl.ne_li, Tl.eq_ti, Tl.ne_ti, Tl.eq_l0, Tl.ne_l0, Tl.in_il, Tl.in_it, Tl.in_is, Tl.notIn_il, Tl.notIn_it, Tl.notIn_is, Tl.in_rl, Tl.notIn_rl, Tl.tru_n, Tl.tru_b, Tl.tru_i, Tl.tru_l, Tl.tru_t, Tl.ix_lc, Tl.ix_tc, Tl.ix_lm, Tl.ix_tm, Tl.ix_sm, Tl.ix_sc, Tl.atI_map', Tl.at0, Tl.at1, Tl.at2, Tl.at3, Tl.set_map, Tl.sl_l, Tl.sl_t, Tl.len_l, Tl.len_t, Tl.len_s, Tl.int_i, Tl.int_b, Tl.max_ii, Tl.min_ii, Tl.list_l, Tl.list_t, Tl.list_s, Tl.tuple_l, Tl.tuple_t, Tl.tuple_s, Tl.sorted_i, Tl.maxL_i, Tl.minL_i, Tl.sum_i, Tl.all_b, Tl.any_b, Tl.isi_eq, Tl.ty_n, Tl.ty_b, Tl.ty_i, Tl.ty_s, Tl.ty_l, Tl.ty_t, Tl.il_ii, Tl.il_ib, Tl.il_it, Tl.il_il, Tl.il_bb, Tl.il_bi, Tl.il_bl, Tl.il_bt, Tl.il_ll, Tl.il_lt, Tl.il_li, Tl.il_lb, Tl.il_tt, Tl.il_tl, Tl.il_ti, Tl.il_tb, Tl.il_ss, Tl.il_si, Tl.il_sb, Tl.il_ni, Tl.il_nb, Tl.il_nl, Tl.il_nt, Tl.cps_lc2, Tl.augK_v, Tl.sAug_eq, Tl.gadd_ii, Tl.gsub_ii, Tl.gmul_ii, Tl.cps_ownIx, Tl.cps_ownCall, Tl.cps_lrg, Tl.cps_iOwn, Tl.cps_lOwn, Tl.cps_lent, Tl.lentK_eq, Tl.lent_and, Tl.scaRv_i, Tl.scaRv_b, Tl.frzA_n, Tl.frzA_c, Tl.fzS_n, Tl.fzS_v, Tl.fzS_o, Tl.ownL_n, Tl.ownL_no, Tl.ownL_v, Tl.ownL_o, Tl.e_tree_fin, Tl.e_tree_ask, Tl.ix_tree0, Tl.ix_tree1, Tl.ix_tree2, Tl.len_tree, Tl.eq_tag_end, Tl.eq_tag_ask, Tl.ne_tag_end, Tl.ne_tag_ask, Tl.so_t, Tl.so_f, Tl.ite_same, Tl.cps_un, Tl.l1_o, Tl.cps_aTmpR, Tl.cps_aTmp, Tl.cps_aConsT, Tl.tkK_v, Tl.tkK_o, Tl.tk_z, Tl.tk_s, Tl.cps_callT, Tl.cps_eCallT, Tl.cps_eCallK, Tl.cps_dix, Tl.il_ns, Tl.il_bs, Tl.il_is, Tl.il_ls, Tl.il_ts, Tl.il_sl, Tl.il_st, Tl.sMatch_eq, Tl.setD_n, Tl.setD_c, Tl.kNil_eq, Tl.cps_aTmp2R, Tl.cps_aTmp2, Tl.cps_aConsT2, Tl.cps_callT2, Tl.cps_eCallT2, Tl.ofTp_t, Tl.cps_extendT, Tl.any_bm, Tl.all_bm, Tl.is_otree, Tl.isn_otree, Tl.ne_lt0, Tl.eq_ll0, Tl.int_o, Tl.ge_oi, Tl.le_oi, Tl.lpO_E, Tl.keyO_T, Tl.inN_f, Tl.getN_f, Tl.putN_f, Tl.cps_dicN, Tl.cps_getN, Tl.eInN_eq, Tl.ownNdi_a, Tl.ownNK_n, Tl.sSetN_eq, Tl.l1N_o, Tl.cps_aTmpRN, Tl.cps_aTmpN, Tl.cps_aConsTN, Tl.cps_callTN, Tl.cps_eCallTN, Tl.inN_i, Tl.getN_i, Tl.putN_i, Tl.inN_b, Tl.notInN_b, Tl.putN_b, Tl.inN_k, Tl.getN_k, Tl.dicOne_b, Tl.cps_dic1, Tl.eNotInN_eq, Tl.or_tt, Tl.oRv_n, Tl.oRv_s, Tl.oRv_na, Tl.rtn_oo, Tl.oRv_toV, Tl.is_ol, Tl.isn_ol, Tl.eq_rn, Tl.cps_eDcN, Tl.eq_l0t, Tl.ne_l0t, Tl.it_bq, Tl.eBq_t, Tl.eBq_l, Tl.it_b, Tl.len_b, Tl.len_bq, Tl.ix_bq, Tl.list_bq, Tl.tuple_bq, Tl.br_l, Tl.br_t, Tl.br_b, Tl.br_i, Tl.br_bl, Tl.br_s, Tl.br_no, Tl.brL_n, Tl.brL_c, Tl.brL_a, Tl.brL_i, Tl.br_bqi, Tl.brL_bqi, Tl.brL_ti, Tl.brL_li, reduceIte, Nat.reduceAdd, Nat.reduceSub, Nat.reduceMul, Nat.reduceLT, Nat.reduceGT, Nat.reduceLeDiff, Nat.reduceEqDiff, Nat.reduceBEq, Nat.reduceBNe, Int.reduceNeg, Int.reduceAdd, Int.reduceSub, Int.reduceMul, Int.reduceLT, Int.reduceLE, Int.reduceGT, Int.reduceGE, Int.reduceEq, Int.reduceNe, Int.reduceBEq, Int.reduceBNe, Int.reducePow, $as,*] $[$lo]?)
theorem cps_brw {γ : Type} {ρ : List S} {kx : Xn → List S → Option γ} {fa : M Rv} (k : Rv → List S → Option γ) : cps (eBrw fa) ρ kx k = cps fa ρ kx fun r ρ1 => cps (toV r) ρ1 kx fun d ρ2 => k (.val (brD d)) ρ2 := by
 unfold eBrw; simp? only [Tl.ob_some]
theorem noBL_map {α : Type} {e : α → D} (h : ∀ x, noB (e x) = true) : ∀ xs : List α, noBL (xs.map e) = true
 | [] => rfl
 | x :: xs => by
  show (noB (e x) && noBL (xs.map e)) = true
  rw [h x, noBL_map h xs]; rfl
theorem nb_l (ds : List D) : noB (.lst ds) = noBL ds := rfl
theorem nb_t (ds : List D) : noB (.tup ds) = noBL ds := rfl
theorem nb_o (c : Str) (ns : List Str) (ds : List D) : noB (.obj c ns ds) = noBL ds := rfl
theorem nb_p (ds : List D) : noB (.tpl ds) = noBL ds := rfl
theorem nb_i (i : Int) : noB (.int i) = true := rfl
theorem nb_b (i : Bool) : noB (.bl i) = true := rfl
theorem nb_n : noB .non = true := rfl
theorem nb_s (i : Str) : noB (.str i) = true := rfl
theorem nbL_n : noBL [] = true := rfl
theorem nbL_c (d : D) (ds : List D) : noBL (d :: ds) = (noB d && noBL ds) := rfl
theorem nbL_i (xs : List Int) : noBL (xs.map D.int) = true := noBL_map (fun _ => rfl) xs
theorem nbL_ti (xs : List (List Int)) : noBL (xs.map fun x => D.tup (x.map D.int)) = true := noBL_map (e := fun x : List Int => D.tup (x.map D.int)) (fun x => nbL_i x) xs
theorem nbL_pi (xs : List (List Int)) : noBL (xs.map fun x => D.tpl (x.map D.int)) = true := noBL_map (e := fun x : List Int => D.tpl (x.map D.int)) (fun x => nbL_i x) xs
theorem nbL_li (xs : List (List Int)) : noBL (xs.map fun x => D.lst (x.map D.int)) = true := noBL_map (e := fun x : List Int => D.lst (x.map D.int)) (fun x => nbL_i x) xs
theorem nbL_lli (xs : List (List (List Int))) : noBL (xs.map fun x => D.lst (x.map fun y => D.lst (y.map D.int))) = true := noBL_map (e := fun x : List (List Int) => D.lst (x.map fun y : List Int => D.lst (y.map D.int))) (fun x => show noBL (x.map fun y : List Int => D.lst (y.map D.int)) = true from nbL_li x) xs
theorem nbL_lti (xs : List (List (List Int))) : noBL (xs.map fun x => D.lst (x.map fun y => D.tup (y.map D.int))) = true := noBL_map (e := fun x : List (List Int) => D.lst (x.map fun y : List Int => D.tup (y.map D.int))) (fun x => show noBL (x.map fun y : List Int => D.tup (y.map D.int)) = true from nbL_ti x) xs
theorem nbS_n : noBS [] = true := rfl
theorem nbS_no (l : List S) : noBS (.no :: l) = noBS l := rfl
theorem nbS_v (d : D) (l : List S) : noBS (.val d :: l) = noBS l := rfl
theorem nbS_o (d : D) (l : List S) : noBS (.own d :: l) = (noB d && noBS l) := rfl
open Classical in
noncomputable def gEq {γ : Type} (a b : List S) (x : Option γ) : Option γ := if a = b then x else none
theorem gEq_self {γ : Type} (a : List S) (x : Option γ) : gEq a a x = x := if_pos rfl
def lnK {γ : Type} (ρ : List S) (k : Rv → List S → Option γ) : Rv → Option γ
 | .val d => (gb (noB d)).bind fun _ => k (.val d) ρ
 | .own d => (gb (noB d)).bind fun _ => k (.own d) ρ
 | .ali _ => none
theorem lnK_v {γ : Type} (ρ : List S) (k : Rv → List S → Option γ) (d : D) : lnK ρ k (.val d) = (gb (noB d)).bind fun _ => k (.val d) ρ := rfl
theorem lnK_o {γ : Type} (ρ : List S) (k : Rv → List S → Option γ) (d : D) : lnK ρ k (.own d) = (gb (noB d)).bind fun _ => k (.own d) ρ := rfl
noncomputable def loanK {γ : Type} (j : Nat) (fa : M Rv) (ρ : List S) (k : Rv → List S → Option γ) : Option S → Option γ
 | some (.own (.lst ds)) => (gb (noBS (ρ.set j (.val .non)))).bind fun _ => cps fa (ρ.set j (.val (.brw (brL ds)))) (fun _ _ => none) fun r ρ' => gEq ρ' (ρ.set j (.val (.brw (brL ds)))) (lnK ρ k r)
 | _ => none
theorem loanK_o {γ : Type} (j : Nat) (fa : M Rv) (ρ : List S) (k : Rv → List S → Option γ) (ds : List D) : loanK j fa ρ k (some (.own (.lst ds))) = (gb (noBS (ρ.set j (.val .non)))).bind fun _ => cps fa (ρ.set j (.val (.brw (brL ds)))) (fun _ _ => none) fun r ρ' => gEq ρ' (ρ.set j (.val (.brw (brL ds)))) (lnK ρ k r) := rfl
theorem cps_loan {γ : Type} {ρ : List S} {kx : Xn → List S → Option γ} (j : Nat) (fa : M Rv) (k : Rv → List S → Option γ) : cps (eLoan j fa) ρ kx k = loanK j fa ρ k ρ[j]? := by
 unfold cps eLoan loanK
 cases hj : ρ[j]? with
 | none => rfl
 | some sj =>
  cases sj with
  | no => rfl
  | val d => rfl
  | own d =>
   cases d with
   | lst ds =>
    dsimp only
    unfold gb
    by_cases hn : noBS (ρ.set j (.val .non)) = true
    · rw [if_pos hn, Option.bind_some]
      unfold cps
      cases fa (ρ.set j (.val (.brw (brL ds)))) with
      | none => rfl
      | some o =>
       cases o with
       | ex e ρ' => rfl
       | ok r ρ' =>
        dsimp only
        unfold gEq
        by_cases he : ρ' = ρ.set j (.val (.brw (brL ds)))
        · rw [if_pos ⟨he, hn⟩, if_pos he]
          cases r with
          | val d =>
           unfold lnR lnK gb
           dsimp only
           by_cases nb : noB d = true
           · rw [if_pos nb, if_pos nb]; rfl
           · rw [if_neg nb, if_neg nb]; rfl
          | own d =>
           unfold lnR lnK gb
           dsimp only
           by_cases nb : noB d = true
           · rw [if_pos nb, if_pos nb]; rfl
           · rw [if_neg nb, if_neg nb]; rfl
          | ali i => rfl
        · rw [if_neg (fun z => he z.1), if_neg he]
    · rw [if_neg hn]
      cases fa (ρ.set j (.val (.brw (brL ds)))) with
      | none => rfl
      | some o =>
       cases o with
       | ex e ρ' => rfl
       | ok r ρ' =>
        dsimp only
        rw [if_neg (fun z => hn z.2)]; rfl
   | _ => rfl
end Tl
namespace Tl
open PySem Dl
open L2 (ixN atI)
section
variable {γ : Type} {la : M (List Rv)} {ρ : List S} {kx : Xn → List S → Option γ}
theorem cps_eCallD (mu : List Bool) (fn : Fn) (ns : List Int) (k : Rv → List S → Option γ) : cps (eCallD mu fn ns la) ρ kx k = cps la ρ kx fun rs ρ1 => cps (callM mu fn (rs ++ ns.map fun n => Rv.val (.int n))) ρ1 kx k := by
 unfold eCallD; simp only [cps_bind]
end
theorem gt_oo (a b : Option Int) : dGt (eO D.int a) (eO D.int b) = a.bind fun i => b.bind fun j => some (.val (.bl (decide (j < i)))) := by cases a <;> cases b <;> rfl
theorem unO_i (i : Int) : unO (.val (.int i)) = some (.int i) := rfl
end Tl
namespace Tl
open PySem Dl
open L2 (ixN atI)
def QT.len : QT → Int
 | .fin _ => 2
 | .ask _ _ => 3
theorem ty_tree (t : QT) : tyNm (e_tree t) = some "tuple" := by
 cases t with
 | fin n => rw [e_tree_fin]; rfl
 | ask p bs => rw [e_tree_a]; rfl
theorem glen_tree (t : QT) : gLen [e_tree t] = some (.val (.int (QT.len t))) := by
 cases t with
 | fin n => rw [e_tree_fin]; rfl
 | ask p bs => rw [e_tree_a]; rfl
theorem eq_ll0g (a : List (List Int)) : dEq (.lst (a.map fun x => D.lst (x.map D.int))) (.lst []) = some (.val (.bl (decide (a = [])))) := pd_int.lst.lst.eq (by decide) a []
theorem or_f0 (b : Bool) : (b || false) = b := Bool.or_false b
theorem cast_2 : ((2 : Nat) : Int) = 2 := rfl
theorem cast_3 : ((3 : Nat) : Int) = 3 := rfl
end Tl
namespace Tl
open PySem Dl
open L2 (ixN atI)
def popT {α : Type} (xs : List α) (n : Int) : Option (α × List α) := if 0 ≤ n ∧ n < 2 ^ 62 then (xs[n.toNat]?).bind fun a => some (a, xs.eraseIdx n.toNat) else none
def insT {α : Type} (xs : List α) (n : Int) (a : α) : List α := xs.take n.toNat ++ [a] ++ xs.drop n.toNat
def idxT (xs : List Int) (y : Int) : Option Int := (xs.findIdx? fun z => z == y).bind fun j => some ((j : Nat) : Int)
def intD : D → Option Int
 | .int n => some n
 | _ => none
theorem intD_i (n : Int) : intD (.int n) = some n := rfl
theorem eraseIdx_mapD {α β : Type} (f : α → β) : ∀ (xs : List α) (i : Nat), (xs.map f).eraseIdx i = (xs.eraseIdx i).map f
 | [], i => by simp
 | x :: xs, 0 => rfl
 | x :: xs, i + 1 => by
  show f x :: (xs.map f).eraseIdx i = f x :: (xs.eraseIdx i).map f
  rw [eraseIdx_mapD f xs i]
theorem popT_map {α β : Type} (f : α → β) (xs : List α) (n : Int) : popT (xs.map f) n = (popT xs n).bind fun r => some (f r.1, r.2.map f) := by
 unfold popT
 split
 · rw [List.getElem?_map]
   cases xs[n.toNat]? with
   | none => rfl
   | some a => dsimp only [Option.map, Option.bind]; rw [eraseIdx_mapD]
 · rfl
theorem insT_map {α β : Type} (f : α → β) (xs : List α) (n : Int) (a : α) : List.map f (insT xs n a) = insT (List.map f xs) n (f a) := by
 unfold insT
 rw [List.map_append, List.map_append, List.map_take, List.map_drop]; rfl
theorem index_i (xs : List Int) (y : Int) : gIndex (.lst (xs.map D.int)) (.int y) = (idxT xs y).bind fun j => some (.val (.int j)) := by
 unfold gIndex idxT
 dsimp only
 have h1 : (xs.map D.int).all flD = true := List.all_eq_true.mpr fun d hd => by
  obtain ⟨x, _, rfl⟩ := List.mem_map.mp hd
  rfl
 rw [if_pos ⟨h1, rfl⟩, List.findIdx?_map]
 show (xs.findIdx? fun z => z == y).map _ = _
 cases xs.findIdx? fun z => z == y <;> rfl
theorem isLst_l (xs : List D) : isLst (.lst xs) = true := rfl
theorem in_ll (r : List Int) (rs : List (List Int)) : dIn2 (.lst (r.map D.int)) (.lst (rs.map fun r => D.lst (r.map D.int))) = some (.val (.bl (decide (r ∈ rs)))) := (pd_int.lst.inL (by decide) (fun _ => rfl) r rs).trans (by congr)
theorem notIn_ll (r : List Int) (rs : List (List Int)) : dNotIn2 (.lst (r.map D.int)) (.lst (rs.map fun r => D.lst (r.map D.int))) = some (.val (.bl (!decide (r ∈ rs)))) := (pd_int.lst.notInL (by decide) (fun _ => rfl) r rs).trans (by congr)
section
variable {γ : Type} {ρ : List S} {kx : Xn → List S → Option γ} {fa fb : M Rv} {la : M (List Rv)}
theorem cps_ckL (r : Rv) (h : Unit → List S → Option γ) : cps (ckL r) ρ kx h = (ownLst r ρ).bind fun _ => h () ρ := by
 unfold cps ckL; cases ownLst r ρ <;> rfl
theorem cps_popAt (k : Rv → List S → Option γ) : cps (mPopAt fa fb) ρ kx k = cps fa ρ kx fun r ρ1 => (ownLst (Dl.settle r) ρ1).bind fun _ => cps fb ρ1 kx fun x ρ2 => cps (peek (Dl.settle x)) ρ2 kx fun d ρ3 => (ownLst (Dl.settle r) ρ3).bind fun p => (intD d).bind fun n => (popT p.2 n).bind fun q => k (.val q.1) (ρ3.set p.1 (.own (.lst q.2))) := by
 unfold mPopAt; refine (cps_bind _ _ k).trans ?_
 congr 1; funext r ρ1
 refine (cps_bind _ _ k).trans ?_
 rw [cps_ckL]
 congr 1; funext _
 refine (cps_bind _ _ k).trans ?_
 congr 1; funext x ρ2
 refine (cps_bind _ _ k).trans ?_
 congr 1; funext d ρ3
 unfold cps
 dsimp only
 cases ownLst (Dl.settle r) ρ3 with
 | none => rfl
 | some p =>
  obtain ⟨i, ds⟩ := p
  dsimp only [Option.bind]
  unfold popAtD
  cases d with
  | int n =>
   dsimp only [intD]
   unfold popT
   by_cases h : 0 ≤ n ∧ n < 2 ^ 62
   · rw [if_pos h, if_pos h]
     cases ds[n.toNat]? <;> rfl
   · rw [if_neg h, if_neg h]
  | _ => rfl
theorem cps_insK (r x y : Rv) (k : Rv → List S → Option γ) : cps (insK r x y) ρ kx k = cps (peek (Dl.settle x)) ρ kx fun d ρ1 => cps (toV (Dl.settle y)) ρ1 kx fun e ρ2 => (ownLst (Dl.settle r) ρ2).bind fun p => (intD d).bind fun n => (gb (decide (0 ≤ n ∧ n < 2 ^ 62))).bind fun _ => (gz (p.2.length + 1)).bind fun _ => k (.val .non) (ρ2.set p.1 (.own (.lst (insT p.2 n e)))) := by
 unfold insK; refine (cps_bind _ _ k).trans ?_
 congr 1; funext d ρ1
 refine (cps_bind _ _ k).trans ?_
 congr 1; funext e ρ2
 unfold cps
 dsimp only
 cases ownLst (Dl.settle r) ρ2 with
 | none => rfl
 | some p =>
  obtain ⟨i, ds⟩ := p
  dsimp only [Option.bind]
  unfold insD
  cases d with
  | int n =>
   dsimp only [intD]
   unfold gb gz insT
   by_cases h : 0 ≤ n ∧ n < 2 ^ 62
   · by_cases h2 : ds.length < sizeLine
     · rw [if_pos ⟨h.1, h.2, h2⟩, if_pos (decide_eq_true h), if_pos (by omega)]
     · rw [if_neg (fun z => h2 z.2.2), if_pos (decide_eq_true h), if_neg (by omega)]
   · rw [if_neg (fun z => h ⟨z.1, z.2.1⟩), if_neg (fun z => h (of_decide_eq_true z))]
  | _ => rfl
theorem cps_insA (r x y : Rv) (k : Rv → List S → Option γ) : cps (insA r [x, y]) ρ kx k = cps (insK r x y) ρ kx k := rfl
theorem cps_insert (k : Rv → List S → Option γ) : cps (mInsert fa la) ρ kx k = cps fa ρ kx fun r ρ1 => (ownLst (Dl.settle r) ρ1).bind fun _ => cps la ρ1 kx fun xs ρ2 => cps (insA r xs) ρ2 kx k := by
 unfold mInsert; refine (cps_bind _ _ k).trans ?_
 congr 1; funext r ρ1
 refine (cps_bind _ _ k).trans ?_
 rw [cps_ckL]
 congr 1; funext _
 exact cps_bind _ _ k
theorem cps_ckLv (r : Rv) (k : Unit → List S → Option γ) : cps (ckLv r) ρ kx k = cps (peek r) ρ kx fun d ρ1 => (gb (isLst d)).bind fun _ => k () ρ1 := by
 unfold ckLv; refine (cps_bind _ _ k).trans ?_
 congr 1; funext d ρ1
 cases isLst d <;> rfl
theorem cps_index (k : Rv → List S → Option γ) : cps (mIndex fa fb) ρ kx k = cps fa ρ kx fun r ρ1 => cps (ckLv (Dl.settle r)) ρ1 kx fun _ ρ2 => cps fb ρ2 kx fun x ρ3 => cps (peek (Dl.settle x)) ρ3 kx fun e ρ4 => cps (peek (Dl.settle r)) ρ4 kx fun d ρ5 => (gIndex d e).bind fun q => k q ρ5 := by
 unfold mIndex; simp only [cps_bind, cps_ofO]
theorem le_oo (o p : Option Int) : dLe (eO D.int o) (eO D.int p) = o.bind fun i => p.bind fun j => some (.val (.bl (decide (i ≤ j)))) := by cases o <;> cases p <;> rfl
end
end Tl
namespace Tl
open PySem Dl
open L2 (ixN atI)
section
variable {γ : Type} {la lk : M (List Rv)} {fa : M Rv} {ρ : List S} {kx : Xn → List S → Option γ}
theorem cps_prop (n : Str) (mu : List Bool) (fn : Fn) (k : Rv → List S → Option γ) : cps (eProp n mu fn fa) ρ kx k = cps fa ρ kx fun r ρ1 => cps (ckC n (Dl.settle r)) ρ1 kx fun _ ρ2 => cps (callM mu (nx fn) [Dl.settle r]) ρ2 kx k := by
 unfold eProp; simp only [cps_bind]
theorem nx_eq (fn : Fn) (ss : List S) : nx fn ss = (fn ss).bind nxO := rfl
theorem nxO_ret (r : Rv) (ss : List S) : nxO (.ret r ss) = some (.ret r ss) := rfl
theorem cps_eMakeK (x : Str) (n m : Nat) (pl : Pl) (mu : List Bool) (fn : Fn) (k : Rv → List S → Option γ) : cps (eMakeK x n m pl mu fn la lk) ρ kx k = cps la ρ kx fun rs ρ1 => cps lk ρ1 kx fun zs ρ2 => if rs.length = n ∧ zs.length = m then cps (makeM x mu fn (rs ++ fillR pl zs)) ρ2 kx k else none := by
 unfold eMakeK; simp only [cps_bind, cps_ite, cps_fail]
theorem fillR_n (zs : List Rv) : fillR [] zs = [] := rfl
theorem fillR_d (n : Int) (pl : Pl) (zs : List Rv) : fillR (.inr n :: pl) zs = .val (.int n) :: fillR pl zs := rfl
theorem fillR_0 (pl : Pl) (z : Rv) (zs : List Rv) : fillR (.inl 0 :: pl) (z :: zs) = z :: fillR pl (z :: zs) := rfl
theorem fillR_1 (pl : Pl) (y z : Rv) (zs : List Rv) : fillR (.inl 1 :: pl) (y :: z :: zs) = z :: fillR pl (y :: z :: zs) := rfl
theorem sAugF_eq (cs : Flds) (f : Str) (h : Int → Int) : sAugF cs f h fa ρ = cps fa ρ (fun e ρ => some (.ex e ρ)) fun r ρ =>
  (ownObj (Dl.settle r) ρ).bind fun p => if p.2.1 ∈ cs ∧ p.2.2.1.length < 1000 then (intOf (lkF f p.2.2.1 p.2.2.2)).bind fun k => some (.nx (ρ.set p.1 (.own (.obj p.2.1 (putF2 f (.int (h k)) p.2.2.1 p.2.2.2).1 (putF2 f (.int (h k)) p.2.2.1 p.2.2.2).2)))) else none := by
 unfold sAugF
 rw [thenS_eq]; congr 1; funext r ρ
 cases ownObj (Dl.settle r) ρ with
 | none => rfl
 | some p =>
  show (if p.2.1 ∈ cs ∧ p.2.2.1.length < 1000 then _ else none) = if p.2.1 ∈ cs ∧ p.2.2.1.length < 1000 then _ else none
  by_cases h1 : p.2.1 ∈ cs ∧ p.2.2.1.length < 1000
  · rw [if_pos h1, if_pos h1]
    cases intOf (lkF f p.2.2.1 p.2.2.2) <;> rfl
  · rw [if_neg h1, if_neg h1]
theorem intOf_i (k : Int) : intOf (some (.int k)) = some k := rfl
end
theorem le_io (i : Int) (o : Option Int) : dLe (.int i) (eO D.int o) = o.bind fun j => some (.val (.bl (decide (i ≤ j)))) := by cases o <;> rfl
theorem ge_io (i : Int) (o : Option Int) : dGe (.int i) (eO D.int o) = o.bind fun j => some (.val (.bl (decide (j ≤ i)))) := by cases o <;> rfl
end Tl
namespace Tl
open PySem Dl
open L2 (ixN atI)
section
variable {ρ : List S}
theorem sRaise_eq (C : Str) : sRaise C ρ = some (.ex ⟨C, [], []⟩ ρ) := rfl
def suH (C : Str) (B : Bool) (i : Nat) (ks : List Nat) : Xn → List S → Option Os := fun e ρ => if e.c = C ∧ e.ns = [] ∧ i < ρ.length then some (.rt (.val (.bl B)) (kil ks ρ)) else none
def hit1 (C : Str) : Str → Option Bool := fun c => if c = C then some true else none
def tryQ (hit : Str → Option Bool) (su : Xn → List S → Option Os) (o : Option Os) : Option Os := o.bind fun o => match o with
 | .ex e ρ1 => (match hit e.c with
  | some true => su e ρ1
  | some false => some (.ex e ρ1)
  | none => none)
 | o => some o
theorem sTry_eq (hit : Str → Option Bool) (body : MS) (su : Xn → List S → Option Os) : sTry hit body su ρ = tryQ hit su (body ρ) := by
 unfold sTry tryQ
 cases body ρ with
 | none => rfl
 | some o => cases o <;> rfl
theorem tryQ_bind {α : Type} (hit : Str → Option Bool) (su : Xn → List S → Option Os) (o : Option α) (h : α → Option Os) : tryQ hit su (o.bind h) = o.bind fun a => tryQ hit su (h a) := by cases o <;> rfl
theorem tryQ_ite (hit : Str → Option Bool) (su : Xn → List S → Option Os) (c : Prop) [Decidable c] (a b : Option Os) : tryQ hit su (if c then a else b) = if c then tryQ hit su a else tryQ hit su b := by split <;> rfl
theorem tryQ_none (hit : Str → Option Bool) (su : Xn → List S → Option Os) : tryQ hit su none = none := rfl
theorem tryQ_ex (C : Str) (su : Xn → List S → Option Os) : tryQ (hit1 C) su (some (.ex ⟨C, [], []⟩ ρ)) = su ⟨C, [], []⟩ ρ := by
 show (match hit1 C C with
  | some true => su ⟨C, [], []⟩ ρ
  | some false => some (.ex ⟨C, [], []⟩ ρ)
  | none => none) = _
 unfold hit1
 rw [if_pos rfl]
theorem suH_eq (C : Str) (B : Bool) (i : Nat) (ks : List Nat) : suH C B i ks ⟨C, [], []⟩ ρ = if i < ρ.length then some (.rt (.val (.bl B)) (kil ks ρ)) else none := by
 unfold suH
 by_cases h : i < ρ.length
 · rw [if_pos ⟨rfl, rfl, h⟩, if_pos h]
 · rw [if_neg (fun z => h z.2.2), if_neg h]
end
def DHelp (P : Program) (w : World) (K : PySem.W.Frag) (mg : Str → Option Value) (base : Heap) (x : Str) (k : Nat) (C : Str) (B : Bool) : Prop :=
 ∃ fnA : Addr → Fn, (∀ a, fnA a [.val (.loc a)] = some (.ret (.val (.bl B)) [.val (.loc a)])) ∧ DFP P w K mg base x k 1 C fnA
theorem DHelp.up {P : Program} {w : World} {K : PySem.W.Frag} {mg : Str → Option Value} {base : Heap} {x C : Str} {j k : Nat} {B : Bool} (F : DHelp P w K mg base x j C B) (h : j ≤ k) : DHelp P w K mg base x k C B :=
 let ⟨fnA, h1, h2⟩ := F; ⟨fnA, h1, h2.up h⟩
section
open L2 PyProof.Rows
variable {X : Cx} {W : WX} {np i k : Nat} {x n hp : Str} {pos pos' p p2 p3 p4 p5 : Pos} {body : List Stmt} {fb : MS} {B : Bool} {ks : List Nat}
end
end Tl
namespace Tl
open PySem Dl
open L2 (ixN atI)
inductive An where
 | n | b (x : Bool) | i (k : Int) | s (x : Str) | t (xs : List Int) | l (xs : List Int)
 deriving DecidableEq
def e_an : An → D
 | .n => .non
 | .b x => .bl x
 | .i k => .int k
 | .s x => .str x
 | .t xs => .tup (xs.map D.int)
 | .l xs => .lst (xs.map D.int)
theorem e_an_n : e_an .n = .non := rfl
theorem e_an_b (x : Bool) : e_an (.b x) = .bl x := rfl
theorem e_an_i (x : Int) : e_an (.i x) = .int x := rfl
theorem e_an_s (x : Str) : e_an (.s x) = .str x := rfl
theorem e_an_t (x : List Int) : e_an (.t x) = .tup (x.map D.int) := rfl
theorem e_an_l (x : List Int) : e_an (.l x) = .lst (x.map D.int) := rfl
def anI : An → Bool
 | .b _ => true
 | .i _ => true
 | _ => false
def anB : An → Bool
 | .b _ => true
 | _ => false
def anN : An → Option Int
 | .i k => some k
 | _ => none
theorem isi_an_int (v : An) : gIsi [e_an v, .ty "int"] = some (.val (.bl (anI v))) := by
 cases v with
 | n => rw [e_an_n, isi_eq]; rfl
 | b x => rw [e_an_b, isi_eq]; rfl
 | i x => rw [e_an_i, isi_eq]; rfl
 | s x => rw [e_an_s, isi_eq]; rfl
 | t x => rw [e_an_t, isi_eq]; rfl
 | l x => rw [e_an_l, isi_eq]; rfl
theorem isi_an_bool (v : An) : gIsi [e_an v, .ty "bool"] = some (.val (.bl (anB v))) := by
 cases v with
 | n => rw [e_an_n, isi_eq]; rfl
 | b x => rw [e_an_b, isi_eq]; rfl
 | i x => rw [e_an_i, isi_eq]; rfl
 | s x => rw [e_an_s, isi_eq]; rfl
 | t x => rw [e_an_t, isi_eq]; rfl
 | l x => rw [e_an_l, isi_eq]; rfl
theorem ty_an {α : Type} (t : String) (q : An → Bool) (h : ∀ v, gIsi [e_an v, .ty t] = some (.val (.bl (q v)))) (v : An) (K : Bool → Option α) : ((tyNm (e_an v)).bind fun a => (isLook a t).bind K) = K (q v) := by
 have h := h v
 rw [isi_eq] at h
 cases z : (tyNm (e_an v)).bind fun a => isLook a t with
 | none => rw [z] at h; cases h
 | some b =>
  rw [z] at h
  have e : b = q v := by injection h with h; injection h with h; injection h
  subst e
  rw [← Option.bind_assoc, z]; rfl
theorem ty_an_int {α : Type} (v : An) (K : Bool → Option α) : ((tyNm (e_an v)).bind fun a => (isLook a "int").bind K) = K (anI v) := ty_an "int" anI isi_an_int v K
theorem ty_an_bool {α : Type} (v : An) (K : Bool → Option α) : ((tyNm (e_an v)).bind fun a => (isLook a "bool").bind K) = K (anB v) := ty_an "bool" anB isi_an_bool v K
theorem dGe_an (v : An) (n : Int) : dGe (e_an v) (.int n) = (anN v).bind fun a => some (.val (.bl (decide (n ≤ a)))) := by cases v <;> rfl
def anT : An → Option Int
 | .i k => some k
 | .b x => some (if x = true then 1 else 0)
 | _ => none
theorem gInt_an2 (v : An) : gInt [e_an v] = (anT v).bind fun k => some (.val (.int k)) := by cases v <;> rfl
theorem map_an_i (xs : List Int) : List.map e_an (List.map (fun y => An.i y) xs) = List.map D.int xs := by rw [List.map_map]; rfl
theorem set_an (X : List (List An)) (n : Nat) (a b : List Int) (o : An) : (List.map (fun x => D.lst (List.map e_an x)) X).set n (D.lst (List.map D.int a ++ [e_an o] ++ List.map D.int b)) = List.map (fun x => D.lst (List.map e_an x)) (X.set n (List.map (fun y => An.i y) a ++ [o] ++ List.map (fun y => An.i y) b)) := by
 rw [List.map_set]
 simp only [List.map_append, List.map_cons, List.map_nil, List.map_map]
 rfl
theorem map_an_i2 (xs : List Int) : List.map e_an (List.map An.i xs) = List.map D.int xs := by rw [List.map_map]; rfl
end Tl
namespace Tl
open PySem Dl
open L2 (ixN atI)
def hit2 (C : Str) (b : Bool) : Str → Option Bool := fun c => if c = C then some b else none
def suC (ks : List Nat) (B : Bool) : Xn → List S → Option Os := fun _ ρ => some (.rt (.val (.bl B)) (kil ks ρ))
section
open L2 PyProof.Rows
variable {X : Cx} {W : WX} {np : Nat} {x C : Str} {pos pos' p p5 p6 : Pos} {body : List Stmt} {fb : MS} {B hb_ : Bool} {ks : List Nat} {j : Nat}
end
section
variable {ρ : List S}
theorem tryQ_ex2 (C : Str) (b : Bool) (su : Xn → List S → Option Os) : tryQ (hit2 C b) su (some (.ex ⟨C, [], []⟩ ρ)) = match b with
  | true => su ⟨C, [], []⟩ ρ
  | false => some (.ex ⟨C, [], []⟩ ρ) := by
 show (match hit2 C b C with
  | some true => su ⟨C, [], []⟩ ρ
  | some false => some (.ex ⟨C, [], []⟩ ρ)
  | none => none) = _
 unfold hit2
 rw [if_pos rfl]
 cases b <;> rfl
theorem suC_eq (ks : List Nat) (B : Bool) (e : Xn) : suC ks B e ρ = some (.rt (.val (.bl B)) (kil ks ρ)) := rfl
end
end Tl
namespace Tl
open PySem Dl
open L2 (ixN atI)
inductive IB where
 | i (n : Int) | b (x : Bool)
def e_ib : IB → D
 | .i n => .int n
 | .b x => .bl x
def ibN : IB → Int
 | .i n => n
 | .b x => if x then 1 else 0
def ibI : IB → Option Int
 | .i n => some n
 | .b _ => none
theorem e_ib_i (n : Int) : e_ib (.i n) = .int n := rfl
theorem e_ib_b (x : Bool) : e_ib (.b x) = .bl x := rfl
theorem any_ib (v : IB) (ns : List Int) : ((ns.map D.int).any fun z => feq z (e_ib v)) = decide (ibN v ∈ ns) := by
 induction ns with
 | nil => rfl
 | cons n ns ih =>
  rw [List.map_cons, List.any_cons, ih]
  have h : feq (.int n) (e_ib v) = decide (ibN v = n) := by
   cases v with
   | i m =>
    show (n == m) = decide (m = n)
    by_cases h : m = n
    · subst h; simp
    · have h2 : ¬ n = m := fun z => h z.symm
      simp [h, h2]
   | b x =>
    show (n == (if x then 1 else 0)) = decide ((if x then (1 : Int) else 0) = n)
    by_cases h : (if x then (1 : Int) else 0) = n
    · rw [h]; simp
    · have h2 : ¬ n = (if x then (1 : Int) else 0) := fun z => h z.symm
      simp [h, h2]
  rw [h]
  by_cases a : ibN v = n <;> by_cases c : ibN v ∈ ns <;> simp [a, c]
theorem flD_ib (v : IB) : flD (e_ib v) = true := by cases v <;> rfl
theorem all_fl (ns : List Int) : (ns.map D.int).all flD = true := by
 rw [List.all_map]
 exact List.all_eq_true.mpr fun _ _ => rfl
theorem dIn_ib (v : IB) (ns : List Int) : dIn (e_ib v) (.tup (ns.map D.int)) = some (.val (.bl (decide (ibN v ∈ ns)))) := by
 unfold dIn dInB
 show Option.map _ (if (flD (e_ib v) && (ns.map D.int).all flD) = true then some ((ns.map D.int).any fun z => feq z (e_ib v)) else none) = _
 rw [flD_ib, all_fl, any_ib]; rfl
theorem dIn2_ib (v : IB) (ns : List Int) : dIn2 (e_ib v) (.tup (ns.map D.int)) = some (.val (.bl (decide (ibN v ∈ ns)))) := by
 unfold dIn2; rw [dIn_ib]; rfl
theorem dGe_ib (v : IB) (n : Int) : dGe (e_ib v) (.int n) = (ibI v).bind fun a => some (.val (.bl (decide (n ≤ a)))) := by cases v <;> rfl
theorem dNe_ib (v : IB) (n : Int) : dNe (e_ib v) (.int n) = some (.val (.bl (!decide (ibN v = n)))) := by
 cases v with
 | i m =>
  show some (Rv.val (D.bl (!(m == n)))) = _
  have : (m == n) = decide (m = n) := by by_cases h : m = n <;> simp [h]
  rw [this]; rfl
 | b x =>
  show some (Rv.val (D.bl (!((if x then (1 : Int) else 0) == n)))) = _
  have : ((if x then (1 : Int) else 0) == n) = decide ((if x then (1 : Int) else 0) = n) := by by_cases h : (if x then (1 : Int) else 0) = n <;> simp [h]
  rw [this]; rfl
theorem dNe_ib_o (v : IB) (o : Option Int) : dNe (e_ib v) (eO D.int o) = some (.val (.bl (!decide (some (ibN v) = o)))) := by
 cases o with
 | none => cases v <;> rfl
 | some n =>
  show dNe (e_ib v) (.int n) = _
  rw [dNe_ib]
  congr 4
  exact decide_eq_decide.mpr ⟨fun h => by rw [h], fun h => Option.some.inj h⟩
section
variable {ρ : List S} {γ : Type} {kx : Xn → List S → Option γ}
theorem sRaiseF_eq (C fld : Str) (ga : M (List Rv)) : sRaiseF C fld ga ρ = cps ga ρ (fun e ρ1 => some (.ex e ρ1)) fun rs ρ1 => raF C fld rs ρ1 := by
 unfold sRaiseF thenS cps
 cases ga ρ with
 | none => rfl
 | some o => cases o <;> rfl
theorem raF_1 (C fld : Str) (d : D) : raF C fld [.val d] ρ = some (.ex ⟨C, [fld], [d]⟩ ρ) := rfl
theorem xfO_1 (a dx : Addr) (f : Str) (v : D) : xfO a dx f (.xob a dx [f] [v]) = some v := if_pos ⟨rfl, rfl, rfl⟩
local macro_rules | `(tactic| simp? only [$as,*] $[$lo]?) => `(tactic| simp only [Tl.ob_some, Tl.ob_none, Tl.ob_assoc, Tl.om_eq, Tl.ob_ite, Tl.gz_small, Tl.gb_true, Tl.tt_true, Tl.ft_false, Tl.ite_T, Tl.ite_F, Tl.ite_fun, Tl.b_not_t, Tl.b_not_f, Tl.b_at, Tl.b_af, Tl.b_ot, Tl.b_of, Tl.b_ta, Tl.b_fa, Tl.g_zero, Tl.g_succ, Tl.s_zero, Tl.s_succ, Tl.gd_zero, Tl.gd_succ, Tl.a_cons, Tl.a_nil, Tl.a_nil2, Tl.m_cons, Tl.m_nil, Tl.m_app, Tl.m_map, Tl.m_idf, Tl.l_cons, Tl.l_nil, Tl.l_map, Tl.l_app, Tl.e_map, Tl.e_cons, Tl.e_nil, Tl.r_zero, Tl.r_succ, Tl.tl_cons, Tl.tl_nil, Tl.any_cons', Tl.any_nil', Tl.all_cons', Tl.all_nil', Tl.mem_one, Tl.eqs_self, Tl.tt_and, Tl.cps_bind, Tl.cps_pure, Tl.cps_fail, Tl.cps_ofO, Tl.cps_ite, Tl.cps_var, Tl.varK_v, Tl.varK_o, Tl.cps_C, Tl.set_v, Tl.set_o, Tl.set_a, Tl.cps_peek_v, Tl.cps_peek_o, Tl.cps_peek_a, Tl.peekK_v, Tl.peekK_o, Tl.cps_toV_v, Tl.cps_toV_o, Tl.cps_toV_a, Tl.toVK_v, Tl.toVK_o, Tl.peeks_n, Tl.peeks_c, Tl.toVs_n, Tl.toVs_c, Tl.toVs_vals, Tl.toVs_vals0, Tl.toVs_mv, Tl.toVs_mv0, Tl.cps_bin, Tl.cps_aNil, Tl.cps_aCons, Tl.it_l, Tl.it_t, Tl.cps_aStar, Tl.cps_eB, Tl.cps_tup, Tl.cps_lst, Tl.ofI_i, Tl.cps_oNo, Tl.cps_oSome, Tl.cps_sl, Tl.cps_neg, Tl.cps_tru, Tl.cps_tVal, Tl.cps_tNot, Tl.cps_tAnd, Tl.cps_tOr, Tl.cps_eNot, Tl.cps_eAnd, Tl.cps_eOr, Tl.cps_eIf, Tl.ofBl_b, Tl.cps_tCmp, Tl.cps_yes, Tl.cps_fld, Tl.cps_frz, Tl.prep_n, Tl.prep_t, Tl.prep_f, Tl.prep_z, Tl.cps_call, Tl.callO_ret, Tl.callO_ex, Tl.na_v, Tl.na_o, Tl.cps_eCall, Tl.ssOfs_n, Tl.ssOfs_c, Tl.ssOf_v, Tl.ssOf_a, Tl.ssK_v, Tl.ssK_o, Tl.dist_n, Tl.dist_v, Tl.dist_a, Tl.isAli_v, Tl.isAli_a, Tl.noAli_n, Tl.noAli_v, Tl.noAli_a, Tl.scaR_o, Tl.scaR_v, Tl.sca_n, Tl.sca_b, Tl.sca_i, Tl.sca_s, Tl.sca_l, Tl.sca_t, Tl.sca_ob, Tl.back_n, Tl.back_v, Tl.back_a, Tl.back1_eq, Tl.b1K_o, Tl.b1K_v, Tl.ownOr_o, Tl.cps_makeM, Tl.makeO_ret, Tl.makeO_ex, Tl.cps_eMake, Tl.cps_ckC, Tl.cps_ckO, Tl.cps_meth, Tl.cps_own2, Tl.cps_ownIn, Tl.ownLst_a, Tl.ownK_o, Tl.cps_append, Tl.ofL_l, Tl.cps_extend, Tl.cps_clear, Tl.cps_iSeq, Tl.cps_rng1, Tl.cps_rng2, Tl.cps_zip, Tl.cps_enu, Tl.rangeD_eq, Tl.dRng1_eq, Tl.dRng2_eq, Tl.dZip_l, Tl.dZip_t, Tl.dEnum_l, Tl.dEnum_t, Tl.sSeq_eq, Tl.sq_none, Tl.sq_nx, Tl.sq_rt, Tl.sq_ct, Tl.sq_bk, Tl.sq_ex, Tl.sq_bind, Tl.sq_ite, Tl.thenS_eq, Tl.sNil_eq, Tl.sPass_eq, Tl.sBreak_eq, Tl.sCont_eq, Tl.sNever_eq, Tl.sRetN_eq, Tl.sExpr_eq, Tl.retV_v, Tl.retV_o, Tl.retV_a, Tl.retK_v, Tl.retK_o, Tl.sRet_eq, Tl.setV_v, Tl.setV_o, Tl.setV_a, Tl.setK_v, Tl.setK_o, Tl.sSet_eq, Tl.sIf_eq, Tl.sFor_eq, Tl.asg_eq, Tl.sAsg_eq, Tl.sSetIx_eq, Tl.ownObj_a, Tl.ownObK_o, Tl.sSetF_eq, Tl.putF2_n, Tl.putF2_c, Tl.lkF_c, Tl.fldO_eq, Tl.nrm_n, Tl.nrm_k, Tl.nrm_f, Tl.frz1_o, Tl.frz1_v, Tl.frz1_n, Tl.kil_n, Tl.kil_c, Tl.sFore_eq, Tl.sAft_eq, Tl.sFz_eq, Tl.aq_bind, Tl.aq_ite, Tl.aq_none, Tl.aq_nx, Tl.aq_ct, Tl.aq_bk, Tl.aq_rt, Tl.aq_ex, Tl.sRtA_eq, Tl.rq_bind, Tl.rq_ite, Tl.rq_none, Tl.rq_rtv, Tl.rq_rto, Tl.rq_ex, Tl.gN_eq, Tl.gT_eq, Tl.gsN_eq, Tl.gsC_eq, Tl.rtn_bind, Tl.rtn_ite, Tl.rtn_none, Tl.rtn_nx, Tl.rtn_rtv, Tl.rtn_rto, Tl.rtn_ex, Tl.post_n, Tl.post_v, Tl.post_o, Tl.sq_lpO, Tl.aq_lpO, Tl.sq_k, Tl.aq_k, Tl.rq_k, Tl.rtn_k, Tl.ob_k, Tl.cfO_nx, Tl.cfO_ct, Tl.cfO_bk, Tl.cfO_rt, Tl.cps_lc, Tl.noOwn_n, Tl.noOwn_c, Tl.isOwn_o, Tl.isOwn_v, Tl.isOwn_n, Tl.wipe_n, Tl.wipe_c, Tl.back_n', Tl.back_c', Tl.add_ii, Tl.add_tt, Tl.add_ll, Tl.sub_ii, Tl.mul_ii, Tl.div_ii, Tl.mod_ii, Tl.pow_ii, Tl.lt_ii, Tl.le_ii, Tl.gt_ii, Tl.ge_ii, Tl.eO_none, Tl.eO_some, Tl.lt_io, Tl.gt_io, Tl.lt_oi, Tl.gt_oi, Tl.is_oi, Tl.isn_oi, Tl.is_ot, Tl.isn_ot, Tl.sca_oi, Tl.sca_ob', Tl.is_bb, Tl.isn_bb, Tl.is_nn, Tl.is_in, Tl.is_ln, Tl.is_tn, Tl.is_on, Tl.isn_nn, Tl.isn_in, Tl.isn_ln, Tl.isn_tn, Tl.isn_on, Tl.it_sq, Tl.eSq_t, Tl.eSq_l, Tl.len_sq, Tl.eq_ii, Tl.ne_ii, Tl.eq_bb, Tl.ne_bb, Tl.eq_li, Tl.ne_li, Tl.eq_ti, Tl.ne_ti, Tl.eq_l0, Tl.ne_l0, Tl.in_il, Tl.in_it, Tl.in_is, Tl.notIn_il, Tl.notIn_it, Tl.notIn_is, Tl.in_rl, Tl.notIn_rl, Tl.tru_n, Tl.tru_b, Tl.tru_i, Tl.tru_l, Tl.tru_t, Tl.ix_lc, Tl.ix_tc, Tl.ix_lm, Tl.ix_tm, Tl.ix_sm, Tl.ix_sc, Tl.atI_map', Tl.at0, Tl.at1, Tl.at2, Tl.at3, Tl.set_map, Tl.sl_l, Tl.sl_t, Tl.len_l, Tl.len_t, Tl.len_s, Tl.int_i, Tl.int_b, Tl.max_ii, Tl.min_ii, Tl.list_l, Tl.list_t, Tl.list_s, Tl.tuple_l, Tl.tuple_t, Tl.tuple_s, Tl.sorted_i, Tl.maxL_i, Tl.minL_i, Tl.sum_i, Tl.all_b, Tl.any_b, Tl.isi_eq, Tl.ty_n, Tl.ty_b, Tl.ty_i, Tl.ty_s, Tl.ty_l, Tl.ty_t, Tl.il_ii, Tl.il_ib, Tl.il_it, Tl.il_il, Tl.il_bb, Tl.il_bi, Tl.il_bl, Tl.il_bt, Tl.il_ll, Tl.il_lt, Tl.il_li, Tl.il_lb, Tl.il_tt, Tl.il_tl, Tl.il_ti, Tl.il_tb, Tl.il_ss, Tl.il_si, Tl.il_sb, Tl.il_ni, Tl.il_nb, Tl.il_nl, Tl.il_nt, Tl.cps_lc2, Tl.augK_v, Tl.sAug_eq, Tl.gadd_ii, Tl.gsub_ii, Tl.gmul_ii, Tl.cps_ownIx, Tl.cps_ownCall, Tl.cps_lrg, Tl.cps_iOwn, Tl.cps_lOwn, Tl.cps_lent, Tl.lentK_eq, Tl.lent_and, Tl.scaRv_i, Tl.scaRv_b, Tl.frzA_n, Tl.frzA_c, Tl.fzS_n, Tl.fzS_v, Tl.fzS_o, Tl.ownL_n, Tl.ownL_no, Tl.ownL_v, Tl.ownL_o, Tl.e_tree_fin, Tl.e_tree_ask, Tl.ix_tree0, Tl.ix_tree1, Tl.ix_tree2, Tl.len_tree, Tl.eq_tag_end, Tl.eq_tag_ask, Tl.ne_tag_end, Tl.ne_tag_ask, Tl.so_t, Tl.so_f, Tl.ite_same, Tl.cps_un, Tl.l1_o, Tl.cps_aTmpR, Tl.cps_aTmp, Tl.cps_aConsT, Tl.tkK_v, Tl.tkK_o, Tl.tk_z, Tl.tk_s, Tl.cps_callT, Tl.cps_eCallT, Tl.cps_eCallK, Tl.cps_dix, Tl.il_ns, Tl.il_bs, Tl.il_is, Tl.il_ls, Tl.il_ts, Tl.il_sl, Tl.il_st, Tl.sMatch_eq, Tl.setD_n, Tl.setD_c, Tl.kNil_eq, Tl.cps_aTmp2R, Tl.cps_aTmp2, Tl.cps_aConsT2, Tl.cps_callT2, Tl.cps_eCallT2, Tl.ofTp_t, Tl.cps_extendT, Tl.any_bm, Tl.all_bm, Tl.is_otree, Tl.isn_otree, Tl.ne_lt0, Tl.eq_ll0, Tl.int_o, Tl.ge_oi, Tl.le_oi, Tl.lpO_E, Tl.keyO_T, Tl.inN_f, Tl.getN_f, Tl.putN_f, Tl.cps_dicN, Tl.cps_getN, Tl.eInN_eq, Tl.ownNdi_a, Tl.ownNK_n, Tl.sSetN_eq, Tl.l1N_o, Tl.cps_aTmpRN, Tl.cps_aTmpN, Tl.cps_aConsTN, Tl.cps_callTN, Tl.cps_eCallTN, Tl.inN_i, Tl.getN_i, Tl.putN_i, Tl.inN_b, Tl.notInN_b, Tl.putN_b, Tl.inN_k, Tl.getN_k, Tl.dicOne_b, Tl.cps_dic1, Tl.eNotInN_eq, Tl.or_tt, Tl.oRv_n, Tl.oRv_s, Tl.oRv_na, Tl.rtn_oo, Tl.oRv_toV, Tl.is_ol, Tl.isn_ol, Tl.eq_rn, Tl.cps_eDcN, Tl.eq_l0t, Tl.ne_l0t, Tl.it_bq, Tl.eBq_t, Tl.eBq_l, Tl.it_b, Tl.len_b, Tl.len_bq, Tl.ix_bq, Tl.list_bq, Tl.tuple_bq, Tl.br_l, Tl.br_t, Tl.br_b, Tl.br_i, Tl.br_bl, Tl.br_s, Tl.br_no, Tl.brL_n, Tl.brL_c, Tl.brL_a, Tl.brL_i, Tl.br_bqi, Tl.brL_bqi, Tl.brL_ti, Tl.brL_li, Tl.cps_brw, Tl.nb_l, Tl.nb_t, Tl.nb_o, Tl.nb_p, Tl.nb_i, Tl.nb_b, Tl.nb_n, Tl.nb_s, Tl.nbL_n, Tl.nbL_c, Tl.nbL_i, Tl.nbL_ti, Tl.nbL_pi, Tl.nbL_li, Tl.nbL_lli, Tl.nbL_lti, Tl.nbS_n, Tl.nbS_no, Tl.nbS_v, Tl.nbS_o, Tl.gEq_self, Tl.lnK_v, Tl.lnK_o, Tl.loanK_o, Tl.cps_loan, Tl.cps_eCallD, Tl.gt_oo, Tl.unO_i, Tl.ty_tree, Tl.glen_tree, Tl.eq_ll0g, Tl.or_f0, Tl.cast_2, Tl.cast_3, Tl.intD_i, Tl.popT_map, Tl.insT_map, Tl.index_i, Tl.isLst_l, Tl.in_ll, Tl.notIn_ll, Tl.cps_popAt, Tl.cps_insK, Tl.cps_insA, Tl.cps_insert, Tl.cps_ckLv, Tl.cps_index, Tl.le_oo, Tl.cps_prop, Tl.nx_eq, Tl.nxO_ret, Tl.cps_eMakeK, Tl.fillR_n, Tl.fillR_d, Tl.fillR_0, Tl.fillR_1, Tl.sAugF_eq, Tl.intOf_i, Tl.le_io, Tl.ge_io, Tl.sRaise_eq, Tl.sTry_eq, Tl.tryQ_bind, Tl.tryQ_ite, Tl.tryQ_none, Tl.tryQ_ex, Tl.suH_eq, Tl.e_an_n, Tl.e_an_b, Tl.e_an_i, Tl.e_an_s, Tl.e_an_t, Tl.e_an_l, Tl.isi_an_int, Tl.isi_an_bool, Tl.ty_an_int, Tl.ty_an_bool, Tl.dGe_an, Tl.gInt_an2, Tl.map_an_i, Tl.set_an, Tl.map_an_i2, Tl.tryQ_ex2, Tl.suC_eq, Tl.e_ib_i, Tl.e_ib_b, Tl.dIn_ib, Tl.dIn2_ib, Tl.dGe_ib, Tl.dNe_ib, Tl.dNe_ib_o, Tl.sRaiseF_eq, Tl.raF_1, Tl.xfO_1, reduceIte, Nat.reduceAdd, Nat.reduceSub, Nat.reduceMul, Nat.reduceLT, Nat.reduceGT, Nat.reduceLeDiff, Nat.reduceEqDiff, Nat.reduceBEq, Nat.reduceBNe, Int.reduceNeg, Int.reduceAdd, Int.reduceSub, Int.reduceMul, Int.reduceLT, Int.reduceLE, Int.reduceGT, Int.reduceGE, Int.reduceEq, Int.reduceNe, Int.reduceBEq, Int.reduceBNe, Int.reducePow, $as,*] $[$lo]?)
theorem cps_xf (a dx : Addr) (fld : Str) (ge : M Rv) (k : Rv → List S → Option γ) : cps (gXf a dx fld ge) ρ kx k = cps ge ρ kx fun r ρ1 => cps (peek r) ρ1 kx fun d ρ2 => (xfO a dx fld d).bind fun v => k (.val v) ρ2 := by
 unfold gXf; simp? only [Tl.ob_some]
def fnB (F : Fn) (d p : D) : Option Bool := match F [.val d, .val p] with
 | some (.ret (.val (.bl b)) _) => some b
 | _ => none
def valO : Option S → Option D
 | some (.val d) => some d
 | _ => none
theorem valO_v (d : D) : valO (some (.val d)) = some d := rfl
def suE (C fld : Str) (F : Fn) (i j : Nat) (ks : List Nat) : Xn → List S → Option Os
 | ⟨c, [f], [d]⟩, ρ => if c = C ∧ f = fld ∧ i < ρ.length ∧ i ≠ j then (valO ρ[j]?).bind fun p => (fnB F d p).bind fun b => some (.rt (.val (.bl b)) (kil ks ρ)) else none
 | _, _ => none
theorem suE_eq (C fld : Str) (F : Fn) (i j : Nat) (ks : List Nat) (d : D) : suE C fld F i j ks ⟨C, [fld], [d]⟩ ρ = if i < ρ.length then if i = j then none else (valO ρ[j]?).bind fun p => (fnB F d p).bind fun b => some (.rt (.val (.bl b)) (kil ks ρ)) else none := by
 show (if C = C ∧ fld = fld ∧ i < ρ.length ∧ i ≠ j then (valO ρ[j]?).bind fun p => (fnB F d p).bind fun b => some (Os.rt (.val (.bl b)) (kil ks ρ)) else none) = _
 by_cases h : i < ρ.length
 · by_cases e : i = j
   · rw [if_neg (fun z => z.2.2.2 e), if_pos h, if_pos e]
   · rw [if_pos ⟨rfl, rfl, h, e⟩, if_pos h, if_neg e]
 · rw [if_neg (fun z => h z.2.2.1), if_neg h]
theorem tryQ_exF (C fld : Str) (d : D) (su : Xn → List S → Option Os) : tryQ (hit1 C) su (some (.ex ⟨C, [fld], [d]⟩ ρ)) = su ⟨C, [fld], [d]⟩ ρ := by
 show (match hit1 C C with
  | some true => su ⟨C, [fld], [d]⟩ ρ
  | some false => some (.ex ⟨C, [fld], [d]⟩ ρ)
  | none => none) = _
 unfold hit1
 rw [if_pos rfl]
end
def DHelpE (P : Program) (w : World) (K : PySem.W.Frag) (mg : Str → Option Value) (base : Heap) (x : Str) (k : Nat) (C fld : Str) (F : Fn) : Prop :=
 ∃ fnA : Addr → Addr → Fn, (∀ a dx d p b, fnB F d p = some b → fnA a dx [.val (.xob a dx [fld] [d]), .val p] = some (.ret (.val (.bl b)) [.val (.xob a dx [fld] [d]), .val p])) ∧ DFE P w K mg base x k 2 C fnA
theorem DHelpE.up {P : Program} {w : World} {K : PySem.W.Frag} {mg : Str → Option Value} {base : Heap} {x C fld : Str} {j k : Nat} {F : Fn} (h1 : DHelpE P w K mg base x j C fld F) (h : j ≤ k) : DHelpE P w K mg base x k C fld F :=
 let ⟨fnA, a, b⟩ := h1; ⟨fnA, a, b.up h⟩
section
open L2 PyProof.Rows
variable {X : Cx} {W : WX} {np i j k : Nat} {x n hp v fld : Str} {pos pos' p p2 p3 p4 p5 p6 : Pos} {body : List Stmt} {fb : MS} {F : Fn} {ks : List Nat}
end
end Tl
namespace Tl
open PySem Dl
open L2 (ixN atI)
def suI (C fld : Str) (F : Fn) (m i j : Nat) (ks : List Nat) : Xn → List S → Option Os := fun e ρ => if ρ.length = m then suE C fld F i j ks e ρ else none
theorem suI_eq (C fld : Str) (F : Fn) (m i j : Nat) (ks : List Nat) (e : Xn) (ρ : List S) : suI C fld F m i j ks e ρ = if ρ.length = m then suE C fld F i j ks e ρ else none := rfl
section
open L2 PyProof.Rows
variable {X : Cx} {W : WX} {np m i j : Nat} {x n fld : Str} {pos pos' p : Pos} {body suite : List Stmt} {b₀ : Stmt} {fb : MS} {F : Fn} {ks : List Nat} {f : Addr → Addr → MS}
end
def cfX {E R : Type} (st : E → List S) (xv : R → Xn) (rs : R → List S) : Cf E R → Os
 | .nx e => .nx (st e)
 | .ct e => .ct (st e)
 | .bk e => .bk (st e)
 | .rt r => .ex (xv r) (rs r)
def lpX {E R : Type} (st : E → List S) (xv : R → Xn) (rs : R → List S) (o : Cf E R) : Os := o.k (fun e => .nx (st e)) (fun r => .ex (xv r) (rs r))
section
variable {α E R : Type} {e : α → D} {st : E → List S} {xv : R → Xn} {rs : R → List S} {tg : D → List S → Option (List S)} {body : MS}
theorem sq_lpX (o : Cf E R) (g : MS) : sq (some (lpX st xv rs o)) g = o.k (fun e => g (st e)) (fun r => some (.ex (xv r) (rs r))) := by cases o <;> rfl
theorem aq_lpX (o : Cf E R) (l : List (Nat × Bool)) : aq l (some (lpX st xv rs o)) = o.k (fun e => some (.nx (nrm l (st e)))) (fun r => some (.ex (xv r) (rs r))) := by cases o <;> rfl
theorem cfX_nx (x : E) : cfX st xv rs (.nx x) = .nx (st x) := rfl
theorem cfX_ct (x : E) : cfX st xv rs (.ct x) = .ct (st x) := rfl
theorem cfX_bk (x : E) : cfX st xv rs (.bk x) = .bk (st x) := rfl
theorem cfX_rt (x : R) : cfX st xv rs (.rt x) = .ex (xv x) (rs x) := rfl
end
def ibB : IB → Bool
 | .i _ => false
 | .b _ => true
theorem isi_ib_bool (v : IB) : gIsi [e_ib v, .ty "bool"] = some (.val (.bl (ibB v))) := by
 cases v with
 | i n => rw [e_ib_i, isi_eq]; rfl
 | b x => rw [e_ib_b, isi_eq]; rfl
theorem ty_ib_bool {α : Type} (v : IB) (K : Bool → Option α) : ((tyNm (e_ib v)).bind fun a => (isLook a "bool").bind K) = K (ibB v) := by
 have h := isi_ib_bool v
 rw [isi_eq] at h
 cases q : (tyNm (e_ib v)).bind fun a => isLook a "bool" with
 | none => rw [q] at h; cases h
 | some b =>
  rw [q] at h
  have e : b = ibB v := by injection h with h; injection h with h; injection h
  subst e
  rw [← Option.bind_assoc, q]; rfl
theorem add_ib (n : Int) (v : IB) : dAdd (.int n) (e_ib v) = (ibI v).bind fun m => dAdd (.int n) (.int m) := by cases v <;> rfl
theorem dIx_ib_t (xs : List D) (v : IB) : dIx (.tup xs) (e_ib v) = (ibI v).bind fun i => dIx (.tup xs) (.int i) := by cases v <;> rfl
theorem dIx_ib_l (xs : List D) (v : IB) : dIx (.lst xs) (e_ib v) = (ibI v).bind fun i => dIx (.lst xs) (.int i) := by cases v <;> rfl
theorem map_ib_i (xs : List Int) : List.map e_ib (List.map (fun y => IB.i y) xs) = List.map D.int xs := by rw [List.map_map]; rfl
theorem map_ib_i2 (xs : List Int) : List.map e_ib (List.map IB.i xs) = List.map D.int xs := by rw [List.map_map]; rfl
end Tl
namespace Tl
open PySem Dl
open L2 (ixN atI)
def suP (C fld : Str) (i : Nat) (ks : List Nat) : Xn → List S → Option Os
 | ⟨c, [f], [d]⟩, ρ => if c = C ∧ f = fld ∧ i < ρ.length then some (.rt (.val d) (kil ks ρ)) else none
 | _, _ => none
section
variable {ρ : List S}
theorem post_on (d : D) (ss : List S) : post (.own d :: ss) (.no :: ρ) = .no :: post ss ρ := rfl
theorem suP_eq (C fld : Str) (i : Nat) (ks : List Nat) (d : D) : suP C fld i ks ⟨C, [fld], [d]⟩ ρ = if i < ρ.length then some (.rt (.val d) (kil ks ρ)) else none := by
 show (if C = C ∧ fld = fld ∧ i < ρ.length then some (Os.rt (.val d) (kil ks ρ)) else none) = _
 by_cases h : i < ρ.length
 · rw [if_pos ⟨rfl, rfl, h⟩, if_pos h]
 · rw [if_neg (fun z => h z.2.2), if_neg h]
end
section
open L2 PyProof.Rows
variable {X : Cx} {W : WX} {np i : Nat} {x n fld : Str} {pos pos' p p3 p4 p5 : Pos} {body : List Stmt} {fb : MS} {ks : List Nat}
end
end Tl
namespace Tl
open PySem Dl
open L2 (ixN atI)
theorem dNotIn2_ib (v : IB) (ns : List Int) : dNotIn2 (e_ib v) (.tup (ns.map D.int)) = some (.val (.bl (!decide (ibN v ∈ ns)))) := by
 have h := dIn_ib v ns
 unfold dIn at h
 unfold dNotIn2 dNotIn
 obtain ⟨b, e1, e2⟩ := Option.map_eq_some_iff.mp h
 cases e2
 rw [e1]; rfl
theorem brL_fi {α : Type} (f : α → Int) (xs : List α) : brL (xs.map fun x => D.int (f x)) = xs.map fun x => D.int (f x) := (brL_map _ xs).trans (List.map_congr_left fun _ _ => rfl)
end Tl
namespace Tl
open PySem Dl
open L2 (ixN atI)
theorem lcN_all {α : Type} {tg : D → List S → Option (List S)} {te : M Rv} {vs : List Nat} {e : α → D} {h : α → List D} {ρ : List S} (hx : ∀ x, ∃ ρ1 ρ3, tg (e x) (wipeS ρ vs) = some ρ1 ∧ te ρ1 = some (.ok (.own (.lst (h x))) ρ3) ∧ backS ρ ρ3 vs = ρ) : ∀ (xs : List α) (acc : List (List D)), lcN tg tYes' te vs (xs.map e) acc ρ = some (.ok (acc ++ xs.map h) ρ)
 | [], acc => by rw [List.map_nil, List.map_nil, List.append_nil]; rfl
 | x :: xs, acc => by
  obtain ⟨ρ1, ρ3, h1, h2, h3⟩ := hx x
  rw [List.map_cons]
  unfold lcN
  rw [h1]
  have hy : tYes' ρ1 = some (.ok true ρ1) := rfl
  dsimp only
  rw [hy]
  dsimp only
  rw [h2]
  dsimp only
  rw [h3, lcN_all hx xs (acc ++ [h x]), List.map_cons, List.append_assoc]
  rfl
theorem mem_nodes {bs : List Addr} {L : List (List D)} {q : Addr × List D} (h : q ∈ bs.zip L) : q ∈ nodesL bs L := List.mem_reverse.mpr h
theorem nodes_keys {bs : List Addr} {L : List (List D)} (h : bs.length = L.length) : keys (nodesL bs L) = bs.reverse := by
 unfold nodesL
 show List.map (·.1) (bs.zip L).reverse = _
 rw [List.map_reverse]
 congr 1
 exact List.map_fst_zip (by omega)
theorem nodes_nodup {bs : List Addr} {L : List (List D)} (h : bs.length = L.length) (nd : bs.Nodup) : (keys (nodesL bs L)).Nodup := by
 rw [nodes_keys h]
 exact List.pairwise_reverse.mpr (nd.imp fun h => Ne.symm h)
theorem unl_nodes {A : Ar} (nd : (keys A).Nodup) (n : Nat) : ∀ (bs : List Addr) (L : List (List D)), bs.length = L.length → (∀ q ∈ bs.zip L, q ∈ A) → (bs.map D.loc).map (Dl.unl A (n + 1)) = L.map fun l => D.lst (l.map (Dl.unl A n))
 | [], [], _, _ => rfl
 | [], _ :: _, h, _ => by cases h
 | _ :: _, [], h, _ => by cases h
 | b :: bs, l :: L, h, hm => by
  rw [List.map_cons, List.map_cons, List.map_cons, unl_loc nd (hm (b, l) (by rw [List.zip_cons_cons]; exact List.mem_cons_self)) n, unl_nodes nd n bs L (by simpa using h) fun q hq => hm q (by rw [List.zip_cons_cons]; exact List.mem_cons_of_mem _ hq)]
theorem unlB_loc {A : Ar} (nd : (keys A).Nodup) {a : Addr} {ds : List D} (h : (a, ds) ∈ A) (n : Nat) : unlB A (n + 1) (.loc a) = .brw (ds.map (unlB A n)) := by
 unfold unlB; rw [lookup_of nd h]
theorem unlB_nodes {A : Ar} (nd : (keys A).Nodup) (n : Nat) : ∀ (bs : List Addr) (L : List (List D)), bs.length = L.length → (∀ q ∈ bs.zip L, q ∈ A) → (bs.map D.loc).map (unlB A (n + 1)) = L.map fun l => D.brw (l.map (unlB A n))
 | [], [], _, _ => rfl
 | [], _ :: _, h, _ => by cases h
 | _ :: _, [], h, _ => by cases h
 | b :: bs, l :: L, h, hm => by
  rw [List.map_cons, List.map_cons, List.map_cons, unlB_loc nd (hm (b, l) (by rw [List.zip_cons_cons]; exact List.mem_cons_self)) n, unlB_nodes nd n bs L (by simpa using h) fun q hq => hm q (by rw [List.zip_cons_cons]; exact List.mem_cons_of_mem _ hq)]
theorem unl0 (A : Ar) (l : List D) : l.map (Dl.unl A 0) = l := by
 have : Dl.unl A 0 = id := rfl
 rw [this, List.map_id]
theorem unlB0 (A : Ar) (l : List D) : l.map (unlB A 0) = l := by
 have : unlB A 0 = id := rfl
 rw [this, List.map_id]
theorem sc_ints : ∀ l : List Int, (l.map D.int).all scD = true
 | [] => rfl
 | x :: l => by rw [List.map_cons, List.all_cons, sc_ints l]; rfl
theorem mem_zip_of {α β : Type} : ∀ {bs : List α} {L : List β} {b : α}, bs.length = L.length → b ∈ bs → ∃ l, (b, l) ∈ bs.zip L ∧ l ∈ L
 | [], [], _, _, h => by cases h
 | [], _ :: _, _, h, _ => by cases h
 | _ :: _, [], _, h, _ => by cases h
 | c :: bs, l :: L, b, h, hb => by
  rw [List.zip_cons_cons]
  rcases List.mem_cons.mp hb with rfl | hb
  · exact ⟨l, List.mem_cons_self, List.mem_cons_self⟩
  · obtain ⟨l', h1, h2⟩ := mem_zip_of (L := L) (by simpa using h) hb
    exact ⟨l', List.mem_cons_of_mem _ h1, List.mem_cons_of_mem _ h2⟩
end Tl
namespace My
open PySem Dl Tl
open L2 (ixN atI)
noncomputable section
def NZcell : List Str := ["_law_script", "_law_k"]
def fZcell : MS :=
 (sSeq (sIf (tCmp (eLt (eVar 1) (eB gLen (aCons (eVar 0) aNil)))) (sRtA [0, 1] (sRet (eIx (eVar 0) (eVar 1)))) sNil)
 (sRtA [0, 1] (sRet (eC (.int 0)))))
def FnZcell : Fn := mkFn 2 2 (fZcell )
def NZsource : List Str := ["_law_cell_here"]
def fZsource : MS :=
 (sSeq (sIf (tCmp (eGe (eVar 0) (ePow (eC (.int 10)) (eC (.int 18))))) (sRtA [0] (sRet (eLst (aCons (eVar 0) (aCons (eC (.int 0)) (aCons (eVar 0) aNil)))))) sNil)
 (sRtA [0] (sRet (eLst (aCons (eC (.int 0)) (aCons (eC (.int 0)) (aCons (eVar 0) aNil)))))))
def FnZsource : Fn := mkFn 1 1 (fZsource )
def NZdraw : List Str := ["_law_source_here", "_law_limit", "_law_mixed", "_law_digit"]
def fZdraw : MS :=
 (sSeq (sSetIx (eAdd (eIx (eVar 0) (eC (.int 1))) (eC (.int 1))) (eVar 0) (eC (.int 1)))
 (sSeq (sIf (tCmp (eGt (eIx (eVar 0) (eC (.int 0))) (eC (.int 0)))) (sSeq (sSet 2 3 (eMod (eB gInt (aCons (eIx (eVar 0) (eC (.int 0))) aNil)) (eVar 1)))
 (sSeq (sSetIx (eDiv (eIx (eVar 0) (eC (.int 0))) (eVar 1)) (eVar 0) (eC (.int 0)))
 (sRtA [1, 2, 3] (sRet (eVar 3))))) sNil)
 (sSeq (sSet 2 2 (eMod (eB gInt (aCons (eAdd (eMul (eIx (eVar 0) (eC (.int 2))) (eC (.int 48271))) (eMul (eIx (eVar 0) (eC (.int 1))) (eC (.int 69621)))) aNil)) (eC (.int 2147483647))))
 (sSeq (sSet 2 2 (eMod (eB gInt (aCons (eAdd (eAdd (eMul (eVar 2) (eVar 2)) (eMul (eIx (eVar 0) (eC (.int 1))) (eC (.int 40692)))) (eC (.int 7))) aNil)) (eC (.int 2147483629))))
 (sRtA [1, 2, 3] (sRet (eMod (eB gInt (aCons (eAdd (eDiv (eVar 2) (eC (.int 8))) (eMul (eVar 2) (eC (.int 10000019)))) aNil)) (eVar 1))))))))
def FnZdraw : Fn := mkFn 2 4 (fZdraw )
def NZdraw_sides : List Str := ["_law_shape", "_law_source_here", "_law_many", "_law_span", "_law_sides", "_law_room", "_law_k", "_law_size", "_law_at"]
def iZdraw_sides_1 : MS := sIf (tCmp (eGt (eVar 7) (eVar 5))) (sSet 4 7 (eC (.int 1))) sNil
def cZdraw_sides_1 (FZdraw : Fn) : M Rv := eLc (iRng1 (aCons (eVar 7) aNil)) (gN 8) tYes' (eCall [true, false] FZdraw (aCons (eVar 1) (aCons (eVar 3) aNil))) [8]
def bZdraw_sides_1 (FZdraw : Fn) : MS := (sAft [(6, true), (7, true)] (sSeq (sSet 4 7 (eCall [true, false] FZdraw (aCons (eVar 0) (aCons (eIx (eLst (aCons (eC (.int 3)) (aCons (eC (.int 4)) (aCons (eC (.int 5)) (aCons (eC (.int 40)) aNil))))) (eCall [true, false] FZdraw (aCons (eVar 0) (aCons (eC (.int 4)) aNil)))) aNil))))
 (sSeq iZdraw_sides_1
 (sSeq (sSet 4 5 (eDiv (eVar 5) (eB gMax2 (aCons (eC (.int 1)) (aCons (eVar 7) aNil)))))
 (sExpr (mAppend (eVar 4) (cZdraw_sides_1 FZdraw)))))))
def lZdraw_sides_1 (FZdraw : Fn) : MS := sFor (iRng1 (aCons (eVar 2) aNil)) (gN 6) (bZdraw_sides_1 FZdraw)
def fZdraw_sides (FZdraw : Fn) : MS :=
 (sSeq (sSet 4 4 (eLst aNil))
 (sSeq (sSet 4 5 (eC (.int 96)))
 (sSeq (lZdraw_sides_1 FZdraw)
 (sRtA [2, 3, 4, 5, 6, 7, 8] (sRet (eVar 4))))))
def FnZdraw_sides : Fn := mkFn 4 9 (fZdraw_sides FnZdraw)
def N_is_integer : List Str := ["value"]
def e_is_integer_1 : M Rv := (eAnd (eB gIsi (aCons (eVar 0) (aCons (eC (.ty "int")) aNil))) (eNot (eB gIsi (aCons (eVar 0) (aCons (eC (.ty "bool")) aNil)))))
def f_is_integer : MS :=
 (sRtA [0] (sRet e_is_integer_1))
def Fn_is_integer : Fn := mkFn 1 1 (f_is_integer )
def N_is_number : List Str := ["value"]
def e_is_number_1 (F_is_integer : Fn) : M Rv := (eAnd (eCall [false] F_is_integer (aCons (eVar 0) aNil)) (eGe (eVar 0) (eC (.int 0))))
def f_is_number (F_is_integer : Fn) : MS :=
 (sRtA [0] (sRet (e_is_number_1 F_is_integer)))
def Fn_is_number : Fn := mkFn 1 1 (f_is_number Fn_is_integer)
def N_ascending : List Str := ["numbers", "kept", "number"]
def c_ascending_1 : M Rv := eLc (iSeq (eVar 0)) (gN 2) tYes' (eB gInt (aCons (eVar 2) aNil)) [2]
def t_ascending_1 : M Bool := (tOr (tNot (tVal (eVar 1))) (tCmp (eNe (eIx (eVar 1) (eNeg (eC (.int 1)))) (eVar 2))))
def i_ascending_1 : MS := sIf t_ascending_1 (sExpr (mAppend (eVar 1) (eVar 2))) sNil
def b_ascending_1 : MS := (sAft [(2, true)] i_ascending_1)
def l_ascending_1 : MS := sFor (iSeq (eB gSorted (aCons c_ascending_1 aNil))) (gN 2) b_ascending_1
def f_ascending : MS :=
 (sSeq (sSet 1 1 (eLst aNil))
 (sSeq l_ascending_1
 (sRtA [0, 1, 2] (sRet (eB gTuple (aCons (eVar 1) aNil))))))
def Fn_ascending : Fn := mkFn 1 3 (f_ascending )
def N_grid : List Str := ["sides", "rows", "side", "row", "standing"]
def c_grid_1 : M Rv := eLc2 (iSeq (eVar 1)) (gN 3) tYes' (iSeq (eVar 2)) (gN 4) tYes' (eTup (aStar (eVar 3) (aCons (eVar 4) aNil))) [3, 4] [4]
def b_grid_1 : MS := (sAft [(2, true)] (sFz 1 (sSet 1 1 c_grid_1)))
def l_grid_1 : MS := sFor (iSeq (eVar 0)) (gN 2) b_grid_1
def f_grid : MS :=
 (sSeq (sFz 1 (sSet 1 1 (eLst (aCons (eTup aNil) aNil))))
 (sSeq l_grid_1
 (sRtA [0, 1, 2, 3, 4] (sRet (eVar 1)))))
def Fn_grid : Fn := mkFn 1 5 (f_grid )
def N_Box_DinitD : List Str := ["self", "sides", "kept", "side", "standing"]
def b_Box_DinitD_1 (F_is_number : Fn) : MS := (sAft [(4, true)] (sIf (tNot (tVal (eCall [false] F_is_number (aCons (eVar 4) aNil)))) sNever sNil))
def l_Box_DinitD_1 (F_is_number : Fn) : MS := sFor (iSeq (eVar 3)) (gN 4) (b_Box_DinitD_1 F_is_number)
def b_Box_DinitD_2 (F_is_number F_ascending : Fn) : MS := (sAft [(3, true), (4, true)] (sSeq (l_Box_DinitD_1 F_is_number)
 (sExpr (mAppend (eVar 2) (eCall [false] F_ascending (aCons (eVar 3) aNil))))))
def l_Box_DinitD_2 (F_is_number F_ascending : Fn) : MS := sFor (iSeq (eVar 1)) (gN 3) (b_Box_DinitD_2 F_is_number F_ascending)
def f_Box_DinitD (F_is_number F_ascending F_grid : Fn) : MS :=
 (sSeq (sIf (tCmp (eEq (eB gLen (aCons (eVar 1) aNil)) (eC (.int 0)))) sNever sNil)
 (sSeq (sSet 2 2 (eLst aNil))
 (sSeq (l_Box_DinitD_2 F_is_number F_ascending)
 (sSeq (sSetF ["Box"] "sides" (eVar 0) (eB gTuple (aCons (eVar 2) aNil)))
 (sSetF ["Box"] "rows" (eVar 0) (eCall [false] F_grid (aCons (eVar 2) aNil)))))))
def Fn_Box_DinitD : Fn := mkFn 2 5 (f_Box_DinitD Fn_is_number Fn_ascending Fn_grid)
def NZclean : List Str := ["_law_side", "_law_kept", "_law_standing", "_law_s"]
def cZclean_1 : M Rv := eLc (iSeq (eVar 0)) (gN 3) tYes' (eB gInt (aCons (eVar 3) aNil)) [3]
def tZclean_1 : M Bool := (tOr (tCmp (eEq (eVar 1) (eLst aNil))) (tCmp (eNe (eIx (eVar 1) (eNeg (eC (.int 1)))) (eVar 2))))
def iZclean_1 : MS := sIf tZclean_1 (sExpr (mAppend (eVar 1) (eVar 2))) sNil
def bZclean_1 : MS := (sAft [(2, true)] iZclean_1)
def lZclean_1 : MS := sFor (iSeq (eB gSorted (aCons cZclean_1 aNil))) (gN 2) bZclean_1
def fZclean : MS :=
 (sSeq (sSet 1 1 (eLst aNil))
 (sSeq lZclean_1
 (sRtA [0, 1, 2, 3] (sRet (eVar 1)))))
def FnZclean : Fn := mkFn 1 4 (fZclean )
def NZis_integer : List Str := ["_law_actual"]
def eZis_integer_1 : M Rv := (eAnd (eB gIsi (aCons (eVar 0) (aCons (eC (.ty "int")) aNil))) (eNot (eB gIsi (aCons (eVar 0) (aCons (eC (.ty "bool")) aNil)))))
def fZis_integer : MS :=
 (sRtA [0] (sRet eZis_integer_1))
def FnZis_integer : Fn := mkFn 1 1 (fZis_integer )
def NZis_numbers : List Str := ["_law_actual", "_law_expected", "_law_k"]
def tZis_numbers_1 : M Bool := (tOr (tNot (tVal (eB gIsi (aCons (eVar 0) (aCons (eC (.ty "tuple")) aNil))))) (tCmp (eNe (eB gLen (aCons (eVar 0) aNil)) (eB gLen (aCons (eVar 1) aNil)))))
def tZis_numbers_2 (FZis_integer : Fn) : M Bool := (tOr (tNot (tVal (eCall [false] FZis_integer (aCons (eIx (eVar 0) (eVar 2)) aNil)))) (tCmp (eNe (eIx (eVar 0) (eVar 2)) (eIx (eVar 1) (eVar 2)))))
def bZis_numbers_1 (FZis_integer : Fn) : MS := (sAft [(2, true)] (sIf (tZis_numbers_2 FZis_integer) (sRtA [0, 1, 2] (sRet (eC (.bl false)))) sNil))
def lZis_numbers_1 (FZis_integer : Fn) : MS := sFor (iRng1 (aCons (eB gLen (aCons (eVar 1) aNil)) aNil)) (gN 2) (bZis_numbers_1 FZis_integer)
def fZis_numbers (FZis_integer : Fn) : MS :=
 (sSeq (sIf tZis_numbers_1 (sRtA [0, 1, 2] (sRet (eC (.bl false)))) sNil)
 (sSeq (lZis_numbers_1 FZis_integer)
 (sRtA [0, 1, 2] (sRet (eC (.bl true))))))
def FnZis_numbers : Fn := mkFn 2 3 (fZis_numbers FnZis_integer)
def N_Box_DcontainsD : List Str := ["self", "combination", "standing", "side"]
def t_Box_DcontainsD_1 (F_is_number : Fn) : M Bool := (tOr (tNot (tVal (eCall [false] F_is_number (aCons (eVar 2) aNil)))) (tCmp (eNotIn (eVar 2) (eVar 3))))
def b_Box_DcontainsD_1 (F_is_number : Fn) : MS := (sAft [(2, true), (3, true)] (sIf (t_Box_DcontainsD_1 F_is_number) (sRtA [0, 1, 2, 3] (sRet (eC (.bl false)))) sNil))
def l_Box_DcontainsD_1 (F_is_number : Fn) : MS := sFor (iZip (aCons (eVar 1) (aCons (eFld ["Box"] "sides" (eVar 0)) aNil))) (gT 2 (gsCons (gN 2) (gsCons (gN 3) gsNil))) (b_Box_DcontainsD_1 F_is_number)
def f_Box_DcontainsD (F_is_number : Fn) : MS :=
 (sSeq (sIf (tCmp (eNe (eB gLen (aCons (eVar 1) aNil)) (eB gLen (aCons (eFld ["Box"] "sides" (eVar 0)) aNil)))) (sRtA [0, 1, 2, 3] (sRet (eC (.bl false)))) sNil)
 (sSeq (l_Box_DcontainsD_1 F_is_number)
 (sRtA [0, 1, 2, 3] (sRet (eC (.bl true))))))
def Fn_Box_DcontainsD : Fn := mkFn 2 4 (f_Box_DcontainsD Fn_is_number)
def NZis_sides : List Str := ["_law_actual", "_law_expected", "_law_k"]
def tZis_sides_1 : M Bool := (tOr (tNot (tVal (eB gIsi (aCons (eVar 0) (aCons (eC (.ty "tuple")) aNil))))) (tCmp (eNe (eB gLen (aCons (eVar 0) aNil)) (eB gLen (aCons (eVar 1) aNil)))))
def bZis_sides_1 (FZis_numbers : Fn) : MS := (sAft [(2, true)] (sIf (tNot (tVal (eCall [false, false] FZis_numbers (aCons (eIx (eVar 0) (eVar 2)) (aCons (eIx (eVar 1) (eVar 2)) aNil))))) (sRtA [0, 1, 2] (sRet (eC (.bl false)))) sNil))
def lZis_sides_1 (FZis_numbers : Fn) : MS := sFor (iRng1 (aCons (eB gLen (aCons (eVar 1) aNil)) aNil)) (gN 2) (bZis_sides_1 FZis_numbers)
def fZis_sides (FZis_numbers : Fn) : MS :=
 (sSeq (sIf tZis_sides_1 (sRtA [0, 1, 2] (sRet (eC (.bl false)))) sNil)
 (sSeq (lZis_sides_1 FZis_numbers)
 (sRtA [0, 1, 2] (sRet (eC (.bl true))))))
def FnZis_sides : Fn := mkFn 2 3 (fZis_sides FnZis_numbers)
def N_Box_DgetitemD : List Str := ["self", "at"]
def f_Box_DgetitemD : MS :=
 (sRtA [0, 1] (sRet (eIx (eFld ["Box"] "sides" (eVar 0)) (eVar 1))))
def Fn_Box_DgetitemD : Fn := mkFn 2 2 (f_Box_DgetitemD )
def NZcombos : List Str := ["_law_sides", "_law_behind", "_law_rows", "_law_standing", "_law_row"]
def bZcombos_1 : MS := (sAft [(4, true)] (sExpr (mAppend (eVar 2) (eAdd (eTup (aCons (eVar 3) aNil)) (eVar 4)))))
def lZcombos_1 : MS := sFor (iSeq (eVar 1)) (gN 4) bZcombos_1
def bZcombos_2 : MS := (sAft [(3, true), (4, true)] lZcombos_1)
def lZcombos_2 : MS := sFor (iSeq (eIx (eVar 0) (eC (.int 0)))) (gN 3) bZcombos_2
def fZcombos (FZcombos : Fn) : MS :=
 (sSeq (sIf (tCmp (eEq (eB gLen (aCons (eVar 0) aNil)) (eC (.int 0)))) (sRtA [0, 1, 2, 3, 4] (sRet (eLst (aCons (eTup aNil) aNil)))) sNil)
 (sSeq (sFz 1 (sSet 1 1 (eCall [false] FZcombos (aCons (eSl (eVar 0) (oSome (eC (.int 1))) oNo) aNil))))
 (sSeq (sSet 1 2 (eLst aNil))
 (sSeq lZcombos_2
 (sRtA [0, 1, 2, 3, 4] (sRet (eVar 2)))))))
def FnZcombos : Nat → Fn
 | 0 => fun _ => none
 | n + 1 => mkFn 1 5 (fZcombos (FnZcombos n))
def NZis_rows : List Str := ["_law_actual", "_law_expected", "_law_k"]
def tZis_rows_1 : M Bool := (tOr (tNot (tVal (eB gIsi (aCons (eVar 0) (aCons (eC (.ty "list")) aNil))))) (tCmp (eNe (eB gLen (aCons (eVar 0) aNil)) (eB gLen (aCons (eVar 1) aNil)))))
def bZis_rows_1 (FZis_numbers : Fn) : MS := (sAft [(2, true)] (sIf (tNot (tVal (eCall [false, false] FZis_numbers (aCons (eIx (eVar 0) (eVar 2)) (aCons (eIx (eVar 1) (eVar 2)) aNil))))) (sRtA [0, 1, 2] (sRet (eC (.bl false)))) sNil))
def lZis_rows_1 (FZis_numbers : Fn) : MS := sFor (iRng1 (aCons (eB gLen (aCons (eVar 1) aNil)) aNil)) (gN 2) (bZis_rows_1 FZis_numbers)
def fZis_rows (FZis_numbers : Fn) : MS :=
 (sSeq (sIf tZis_rows_1 (sRtA [0, 1, 2] (sRet (eC (.bl false)))) sNil)
 (sSeq (lZis_rows_1 FZis_numbers)
 (sRtA [0, 1, 2] (sRet (eC (.bl true))))))
def FnZis_rows : Fn := mkFn 2 3 (fZis_rows FnZis_numbers)
def NZis_box : List Str := ["_law_box", "_law_clean_here", "_law_source_here", "_law_party", "_law_expected", "_law_turn", "_law_combo", "_law_inside", "_law_side", "_law_standing", "_law_row"]
def bZis_box_1 (FZis_numbers F_Box_DgetitemD : Fn) : MS := (sAft [(3, true)] (sIf (tNot (tVal (eCall [false, false] FZis_numbers (aCons (eOwnIx "Box" [false, false] F_Box_DgetitemD (eVar 0) (eVar 3)) (aCons (eIx (eVar 1) (eVar 3)) aNil))))) (sRtA [0, 1, 3, 4, 5, 6, 7, 8, 9, 10] (sRet (eC (.bl false)))) sNil))
def lZis_box_1 (FZis_numbers F_Box_DgetitemD : Fn) : MS := sFor (iRng1 (aCons (eB gLen (aCons (eVar 1) aNil)) aNil)) (gN 3) (bZis_box_1 FZis_numbers F_Box_DgetitemD)
def cZis_box_1 : M Rv := eLc (iOwn "Box" "rows" (eVar 0)) (gN 10) tYes' (eVar 10) [10]
def tZis_box_1 (FZis_rows : Fn) : M Bool := (tOr (tNot (tVal (eCall [false, false] FZis_rows (aCons cZis_box_1 (aCons (eVar 4) aNil))))) (tNot (tVal (eCall [false, false] FZis_rows (aCons (eLOwn "Box" "rows" (eVar 0)) (aCons (eVar 4) aNil))))))
def iZis_box_1 (FZdraw : Fn) : MS := sIf (tCmp (eNe (eVar 8) (eLst aNil))) (sSet 3 9 (eAdd (eIx (eVar 8) (eCall [true, false] FZdraw (aCons (eVar 2) (aCons (eB gLen (aCons (eVar 8) aNil)) aNil)))) (eB gInt (aCons (eEq (eCall [true, false] FZdraw (aCons (eVar 2) (aCons (eC (.int 5)) aNil))) (eC (.int 0))) aNil)))) sNil
def eZis_box_1 : M Rv := (eAnd (eVar 7) (eIn (eVar 9) (eVar 8)))
def bZis_box_2 (FZdraw : Fn) : MS := (sAft [(8, true), (9, true)] (sSeq (sSet 3 9 (eC (.int 0)))
 (sSeq (iZis_box_1 FZdraw)
 (sSeq (sSet 3 7 eZis_box_1)
 (sSet 3 6 (eAdd (eVar 6) (eTup (aCons (eVar 9) aNil))))))))
def lZis_box_2 (FZdraw : Fn) : MS := sFor (iSeq (eVar 1)) (gN 8) (bZis_box_2 FZdraw)
def tZis_box_2 (F_Box_DcontainsD : Fn) : M Bool := (tOr (tCmp (eNe (eOwnIn "Box" [false, false] F_Box_DcontainsD (eVar 6) (eVar 0)) (eVar 7))) (tOr (tCmp (eOwnIn "Box" [false, false] F_Box_DcontainsD (eSl (eVar 6) (oSome (eC (.int 1))) oNo) (eVar 0))) (tCmp (eOwnIn "Box" [false, false] F_Box_DcontainsD (eAdd (eVar 6) (eTup (aCons (eC (.int 0)) aNil))) (eVar 0)))))
def cZis_box_2 : M Rv := eLc (iSeq (eVar 6)) (gN 9) tYes' (eEq (eVar 9) (eC (.int 1))) [9]
def tZis_box_3 (F_Box_DcontainsD : Fn) : M Bool := (tOr (tCmp (eOwnIn "Box" [false, false] F_Box_DcontainsD (eAdd (eVar 6) (eSl (eVar 6) oNo (oSome (eC (.int 1))))) (eVar 0))) (tCmp (eOwnIn "Box" [false, false] F_Box_DcontainsD (eTup aNil) (eVar 0))))
def tZis_box_4 (F_Box_DcontainsD : Fn) : M Bool := (tAnd (tVal (eVar 7)) (tZis_box_3 F_Box_DcontainsD))
def bZis_box_3 (FZdraw F_Box_DcontainsD : Fn) : MS := (sAft [(5, true), (6, true), (7, true), (8, true), (9, true)] (sSeq (sSet 3 6 (eTup aNil))
 (sSeq (sSet 3 7 (eC (.bl true)))
 (sSeq (lZis_box_2 FZdraw)
 (sSeq (sIf (tZis_box_2 F_Box_DcontainsD) (sRtA [0, 1, 3, 4, 5, 6, 7, 8, 9, 10] (sRet (eC (.bl false)))) sNil)
 (sSeq (sIf (tCmp (eOwnIn "Box" [false, false] F_Box_DcontainsD (eB gTuple (aCons cZis_box_2 aNil)) (eVar 0))) (sRtA [0, 1, 3, 4, 5, 6, 7, 8, 9, 10] (sRet (eC (.bl false)))) sNil)
 (sIf (tZis_box_4 F_Box_DcontainsD) (sRtA [0, 1, 3, 4, 5, 6, 7, 8, 9, 10] (sRet (eC (.bl false)))) sNil)))))))
def lZis_box_3 (FZdraw F_Box_DcontainsD : Fn) : MS := sFor (iRng1 (aCons (eC (.int 6)) aNil)) (gN 5) (bZis_box_3 FZdraw F_Box_DcontainsD)
def fZis_box (FZis_sides F_Box_DgetitemD FZis_numbers FZcombos FZis_rows FZdraw F_Box_DcontainsD : Fn) : MS :=
 (sSeq (sIf (tNot (tVal (eCall [false, false] FZis_sides (aCons (eFld ["Box"] "sides" (eVar 0)) (aCons (eVar 1) aNil))))) (sRtA [0, 1, 3, 4, 5, 6, 7, 8, 9, 10] (sRet (eC (.bl false)))) sNil)
 (sSeq (lZis_box_1 FZis_numbers F_Box_DgetitemD)
 (sSeq (sFz 4 (sSet 3 4 (eCall [false] FZcombos (aCons (eVar 1) aNil))))
 (sSeq (sIf (tZis_box_1 FZis_rows) (sRtA [0, 1, 3, 4, 5, 6, 7, 8, 9, 10] (sRet (eC (.bl false)))) sNil)
 (sSeq (lZis_box_3 FZdraw F_Box_DcontainsD)
 (sRtA [0, 1, 3, 4, 5, 6, 7, 8, 9, 10] (sRet (eC (.bl true)))))))))
def FnZis_box : Fn := mkFn 3 11 (fZis_box FnZis_sides Fn_Box_DgetitemD FnZis_numbers (FnZcombos 9) FnZis_rows FnZdraw Fn_Box_DcontainsD)
def N_law : List Str := ["_law_script", "_law_shape", "_law_source_here", "_law_span", "_law_many", "_law_first", "_law_second", "_law_passed", "_law_box", "_law_other", "_law_side", "_law_one", "_law_two", "_law_high", "_law_big", "_law_rows", "_law_last", "_law_k"]
def pc_bx1 (FZsource FZcell FZdraw FZdraw_sides : Fn) : MS := (sSeq (sSet 1 1 (eCall [false] FZsource (aCons (eCall [false, false] FZcell (aCons (eVar 0) (aCons (eC (.int 0)) aNil))) aNil)))
 (sSeq (sSet 1 2 (eCall [false] FZsource (aCons (eCall [false, false] FZcell (aCons (eVar 0) (aCons (eC (.int 1)) aNil))) aNil)))
 (sSeq (sSet 1 3 (eIx (eLst (aCons (eC (.int 3)) (aCons (eC (.int 12)) (aCons (ePow (eC (.int 10)) (eC (.int 9))) aNil)))) (eCall [true, false] FZdraw (aCons (eVar 1) (aCons (eC (.int 3)) aNil)))))
 (sSeq (sSet 1 4 (eAdd (eC (.int 1)) (eCall [true, false] FZdraw (aCons (eVar 1) (aCons (eC (.int 8)) aNil)))))
 (sSeq (sFz 5 (sSet 1 5 (eCall [true, true, false, false] FZdraw_sides (aCons (eVar 1) (aCons (eVar 2) (aCons (eVar 4) (aCons (eVar 3) aNil)))))))
 (sFz 6 (sSet 1 6 (eCall [true, true, false, false] FZdraw_sides (aCons (eVar 1) (aCons (eVar 2) (aCons (eVar 4) (aCons (eVar 3) aNil))))))))))))
def cz_law_2 : M Rv := eLc (iSeq (eVar 6)) (gN 10) tYes' (eB gTuple (aCons (eVar 10) aNil)) [10]
def pc_bx2 (F_Box_DinitD : Fn) : MS := (sFz 9 (sSet 1 9 (eMake "Box" [false] F_Box_DinitD (aCons (eBrw (eB gTuple (aCons cz_law_2 aNil))) aNil))))
def cz_law_3 (FZclean : Fn) : M Rv := eLc (iSeq (eVar 5)) (gN 10) tYes' (eCall [false] FZclean (aCons (eVar 10) aNil)) [10]
def cz_law_4 (FZclean : Fn) : M Rv := eLc (iSeq (eVar 6)) (gN 10) tYes' (eCall [false] FZclean (aCons (eVar 10) aNil)) [10]
def cz_law_5 : M Rv := eLc (iRng1 (aCons (eIx (eVar 13) (eC (.int 1))) aNil)) (gN 17) tYes' (eMul (eC (.int 7)) (eVar 17)) [17]
def tz_law_1 (FZis_numbers F_Box_DcontainsD : Fn) : M Bool := (tOr (tCmp (eNe (eB gLen (aCons (eVar 15) aNil)) (eMul (eIx (eVar 13) (eC (.int 0))) (eIx (eVar 13) (eC (.int 1)))))) (tOr (tNot (tVal (eCall [false, false] FZis_numbers (aCons (eIx (eVar 15) (eNeg (eC (.int 1)))) (aCons (eVar 16) aNil))))) (tNot (tCmp (eOwnIn "Box" [false, false] F_Box_DcontainsD (eVar 16) (eVar 14))))))
def ez_law_1 (FZis_box : Fn) : M Rv := (eAnd (eCall [false, false, true] FZis_box (aCons (eVar 8) (aCons (eVar 11) (aCons (eVar 2) aNil)))) (eAnd (eCall [false, false, true] FZis_box (aCons (eVar 9) (aCons (eVar 12) (aCons (eVar 2) aNil)))) (eCall [false, false, true] FZis_box (aCons (eVar 8) (aCons (eVar 11) (aCons (eVar 2) aNil))))))
def pc_bx5 (FZclean FZdraw F_Box_DinitD FZis_numbers F_Box_DcontainsD FZis_box : Fn) : MS := (sSeq (sFz 11 (sSet 1 11 (cz_law_3 FZclean)))
 (sSeq (sFz 12 (sSet 1 12 (cz_law_4 FZclean)))
 (sSeq (sFz 13 (sSet 1 13 (eLst (aCons (eAdd (eC (.int 1)) (eCall [true, false] FZdraw (aCons (eVar 1) (aCons (eC (.int 30)) aNil)))) (aCons (eAdd (eC (.int 1)) (eCall [true, false] FZdraw (aCons (eVar 1) (aCons (eC (.int 40)) aNil)))) aNil)))))
 (sSeq (sFz 14 (sSet 1 14 (eMake "Box" [false] F_Box_DinitD (aCons (eBrw (eLst (aCons (eBrw (eLRg (eIx (eVar 13) (eC (.int 0))))) (aCons (eBrw cz_law_5) aNil)))) aNil))))
 (sSeq (sFz 15 (sSet 1 15 (eLOwn "Box" "rows" (eVar 14))))
 (sSeq (sSet 1 16 (eTup (aCons (eSub (eIx (eVar 13) (eC (.int 0))) (eC (.int 1))) (aCons (eMul (eC (.int 7)) (eSub (eIx (eVar 13) (eC (.int 1))) (eC (.int 1)))) aNil))))
 (sSeq (sIf (tz_law_1 FZis_numbers F_Box_DcontainsD) (sRtA [0, 1, 2, 3, 4, 5, 6, 7, 8, 9, 10, 11, 12, 13, 14, 15, 16, 17] (sRet (eC (.bl false)))) sNil)
 (sRtA [0, 1, 2, 3, 4, 5, 6, 7, 8, 9, 10, 11, 12, 13, 14, 15, 16, 17] (sRet (ez_law_1 FZis_box))))))))))
def z_law (FZsource : Fn) (FZcell : Fn) (FZdraw : Fn) (FZdraw_sides : Fn) (F_Box_DinitD : Fn) (FZclean : Fn) (FZis_numbers : Fn) (F_Box_DcontainsD : Fn) (FZis_box : Fn) : MA := (zBlk [(sSet 1 1 (eCall [false] FZsource (aCons (eCall [false, false] FZcell (aCons (eVar 0) (aCons (eC (.int 0)) aNil))) aNil))), (sSet 1 2 (eCall [false] FZsource (aCons (eCall [false, false] FZcell (aCons (eVar 0) (aCons (eC (.int 1)) aNil))) aNil))), (sSet 1 3 (eIx (eLst (aCons (eC (.int 3)) (aCons (eC (.int 12)) (aCons (ePow (eC (.int 10)) (eC (.int 9))) aNil)))) (eCall [true, false] FZdraw (aCons (eVar 1) (aCons (eC (.int 3)) aNil))))), (sSet 1 4 (eAdd (eC (.int 1)) (eCall [true, false] FZdraw (aCons (eVar 1) (aCons (eC (.int 8)) aNil))))), (sFz 5 (sSet 1 5 (eCall [true, true, false, false] FZdraw_sides (aCons (eVar 1) (aCons (eVar 2) (aCons (eVar 4) (aCons (eVar 3) aNil))))))), (sFz 6 (sSet 1 6 (eCall [true, true, false, false] FZdraw_sides (aCons (eVar 1) (aCons (eVar 2) (aCons (eVar 4) (aCons (eVar 3) aNil)))))))] (zSeq (zSetO 7 (zLc (iSeq (eVar 5)) (gN 10) tYes' (eB gList (aCons (eVar 10) aNil)) [10])) (zOwn 7 (zSeq (zSetO 8 (zLoan 2 (eMake "Box" [false] F_Box_DinitD (aCons (eVar 7) aNil)))) (zNrm [(8, false)] (zBlk [(sFz 9 (sSet 1 9 (eMake "Box" [false] F_Box_DinitD (aCons (eBrw (eB gTuple (aCons cz_law_2 aNil))) aNil))))] (zSeq (zIfA (zPeekT 2 (tCmp (eNe (eVar 7) (eVar 5)))) (zLift (sRtA [0, 1, 2, 3, 4, 5, 6, 7, 8, 9, 10, 11, 12, 13, 14, 15, 16, 17] (sRet (eC (.bl false))))) zNil) (zSeq (zForN (zE (eVar 7)) (gN 10) (zExpr (zApp (zE (eVar 10)) (eC (.int 5))))) (zSeq (zExpr (zApp (zE (eVar 7)) (eLst (aCons (eC (.int 1)) aNil)))) (zStill 2 (zNrm [(7, true), (10, true)] (zLift (sSeq (sFz 11 (sSet 1 11 (cz_law_3 FZclean))) (sSeq (sFz 12 (sSet 1 12 (cz_law_4 FZclean))) (sSeq (sFz 13 (sSet 1 13 (eLst (aCons (eAdd (eC (.int 1)) (eCall [true, false] FZdraw (aCons (eVar 1) (aCons (eC (.int 30)) aNil)))) (aCons (eAdd (eC (.int 1)) (eCall [true, false] FZdraw (aCons (eVar 1) (aCons (eC (.int 40)) aNil)))) aNil))))) (sSeq (sFz 14 (sSet 1 14 (eMake "Box" [false] F_Box_DinitD (aCons (eBrw (eLst (aCons (eBrw (eLRg (eIx (eVar 13) (eC (.int 0))))) (aCons (eBrw cz_law_5) aNil)))) aNil)))) (sSeq (sFz 15 (sSet 1 15 (eLOwn "Box" "rows" (eVar 14)))) (sSeq (sSet 1 16 (eTup (aCons (eSub (eIx (eVar 13) (eC (.int 0))) (eC (.int 1))) (aCons (eMul (eC (.int 7)) (eSub (eIx (eVar 13) (eC (.int 1))) (eC (.int 1)))) aNil)))) (sSeq (sIf (tz_law_1 FZis_numbers F_Box_DcontainsD) (sRtA [0, 1, 2, 3, 4, 5, 6, 7, 8, 9, 10, 11, 12, 13, 14, 15, 16, 17] (sRet (eC (.bl false)))) sNil) (sRtA [0, 1, 2, 3, 4, 5, 6, 7, 8, 9, 10, 11, 12, 13, 14, 15, 16, 17] (sRet (ez_law_1 FZis_box))))))))))))))))))))))
end
end My
namespace My
open PySem Dl Tl
open L2 (ixN atI)
noncomputable section
abbrev mI (l : List Int) : List D := List.map D.int l
abbrev mL (l : List (List Int)) : List D := List.map (fun x => (D.lst (List.map D.int x))) l
abbrev mT (l : List (List Int)) : List D := List.map (fun x => (D.tup (List.map D.int x))) l
abbrev mP (r : List (List (List Int)) × List Int × List Int × Option QT) : D := .lst [(.lst (List.map (fun x => (D.lst (List.map (fun x => (D.lst (List.map D.int x))) x))) r.1)), (.lst (List.map D.int r.2.1)), (.lst (List.map D.int r.2.2.1)), (eO e_tree r.2.2.2)]
abbrev vL (l : List Int) : S := .val (.lst (List.map D.int l))
abbrev oL (l : List Int) : S := .own (.lst (List.map D.int l))
abbrev vT (l : List Int) : S := .val (.tup (List.map D.int l))
abbrev vM (l : List (List Int)) : S := .val (.lst (List.map (fun x => (D.lst (List.map D.int x))) l))
abbrev vI (i : Int) : S := .val (.int i)
structure T_Box where
 sides : (List (List Int))
 rows : (List (List Int))
def e_Box (b : T_Box) : D := .obj "Box" ["sides", "rows"] [(.tup (List.map (fun x => (D.tup (List.map D.int x))) b.sides)), (.lst (List.map (fun x => (D.tup (List.map D.int x))) b.rows))]
theorem fld_Box_sides (b : T_Box) : fldO ["Box"] "sides" (e_Box b) = some (.tup (mT b.sides)) := by
 unfold e_Box
 show (if (("Box" : Str) ∈ (["Box"] : List Str)) then lkF "sides" _ _ else none) = _
 rw [if_pos (by decide +kernel)]; rfl
theorem fld_Box_rows (b : T_Box) : fldO ["Box"] "rows" (e_Box b) = some (.lst (mT b.rows)) := by
 unfold e_Box
 show (if (("Box" : Str) ∈ (["Box"] : List Str)) then lkF "rows" _ _ else none) = _
 rw [if_pos (by decide +kernel)]; rfl
theorem isObj_Box (b : T_Box) : isObj "Box" (e_Box b) = true := by unfold e_Box isObj; exact decide_eq_true rfl
theorem is_o_Box (o : Option T_Box) : dIsN (eO e_Box o) .non = some (.val (.bl o.isNone)) := by cases o <;> rfl
theorem isn_o_Box (o : Option T_Box) : dNotN (eO e_Box o) .non = some (.val (.bl (!o.isNone))) := by cases o <;> rfl
theorem sca_Box (b : T_Box) : scaD (e_Box b) = false := rfl
local macro_rules | `(tactic| simp? only [$as,*] $[$lo]?) => `(tactic| simp only [Tl.ob_some, Tl.ob_none, Tl.ob_assoc, Tl.om_eq, Tl.ob_ite, Tl.gz_small, Tl.gb_true, Tl.tt_true, Tl.ft_false, Tl.ite_T, Tl.ite_F, Tl.ite_fun, Tl.b_not_t, Tl.b_not_f, Tl.b_at, Tl.b_af, Tl.b_ot, Tl.b_of, Tl.b_ta, Tl.b_fa, Tl.g_zero, Tl.g_succ, Tl.s_zero, Tl.s_succ, Tl.gd_zero, Tl.gd_succ, Tl.a_cons, Tl.a_nil, Tl.a_nil2, Tl.m_cons, Tl.m_nil, Tl.m_app, Tl.m_map, Tl.m_idf, Tl.l_cons, Tl.l_nil, Tl.l_map, Tl.l_app, Tl.e_map, Tl.e_cons, Tl.e_nil, Tl.r_zero, Tl.r_succ, Tl.tl_cons, Tl.tl_nil, Tl.any_cons', Tl.any_nil', Tl.all_cons', Tl.all_nil', Tl.mem_one, Tl.eqs_self, Tl.tt_and, Tl.cps_bind, Tl.cps_pure, Tl.cps_fail, Tl.cps_ofO, Tl.cps_ite, Tl.cps_var, Tl.varK_v, Tl.varK_o, Tl.cps_C, Tl.set_v, Tl.set_o, Tl.set_a, Tl.cps_peek_v, Tl.cps_peek_o, Tl.cps_peek_a, Tl.peekK_v, Tl.peekK_o, Tl.cps_toV_v, Tl.cps_toV_o, Tl.cps_toV_a, Tl.toVK_v, Tl.toVK_o, Tl.peeks_n, Tl.peeks_c, Tl.toVs_n, Tl.toVs_c, Tl.toVs_vals, Tl.toVs_vals0, Tl.toVs_mv, Tl.toVs_mv0, Tl.cps_bin, Tl.cps_aNil, Tl.cps_aCons, Tl.it_l, Tl.it_t, Tl.cps_aStar, Tl.cps_eB, Tl.cps_tup, Tl.cps_lst, Tl.ofI_i, Tl.cps_oNo, Tl.cps_oSome, Tl.cps_sl, Tl.cps_neg, Tl.cps_tru, Tl.cps_tVal, Tl.cps_tNot, Tl.cps_tAnd, Tl.cps_tOr, Tl.cps_eNot, Tl.cps_eAnd, Tl.cps_eOr, Tl.cps_eIf, Tl.ofBl_b, Tl.cps_tCmp, Tl.cps_yes, Tl.cps_fld, Tl.cps_frz, Tl.prep_n, Tl.prep_t, Tl.prep_f, Tl.prep_z, Tl.cps_call, Tl.callO_ret, Tl.callO_ex, Tl.na_v, Tl.na_o, Tl.cps_eCall, Tl.ssOfs_n, Tl.ssOfs_c, Tl.ssOf_v, Tl.ssOf_a, Tl.ssK_v, Tl.ssK_o, Tl.dist_n, Tl.dist_v, Tl.dist_a, Tl.isAli_v, Tl.isAli_a, Tl.noAli_n, Tl.noAli_v, Tl.noAli_a, Tl.scaR_o, Tl.scaR_v, Tl.sca_n, Tl.sca_b, Tl.sca_i, Tl.sca_s, Tl.sca_l, Tl.sca_t, Tl.sca_ob, Tl.back_n, Tl.back_v, Tl.back_a, Tl.back1_eq, Tl.b1K_o, Tl.b1K_v, Tl.ownOr_o, Tl.cps_makeM, Tl.makeO_ret, Tl.makeO_ex, Tl.cps_eMake, Tl.cps_ckC, Tl.cps_ckO, Tl.cps_meth, Tl.cps_own2, Tl.cps_ownIn, Tl.ownLst_a, Tl.ownK_o, Tl.cps_append, Tl.ofL_l, Tl.cps_extend, Tl.cps_clear, Tl.cps_iSeq, Tl.cps_rng1, Tl.cps_rng2, Tl.cps_zip, Tl.cps_enu, Tl.rangeD_eq, Tl.dRng1_eq, Tl.dRng2_eq, Tl.dZip_l, Tl.dZip_t, Tl.dEnum_l, Tl.dEnum_t, Tl.sSeq_eq, Tl.sq_none, Tl.sq_nx, Tl.sq_rt, Tl.sq_ct, Tl.sq_bk, Tl.sq_ex, Tl.sq_bind, Tl.sq_ite, Tl.thenS_eq, Tl.sNil_eq, Tl.sPass_eq, Tl.sBreak_eq, Tl.sCont_eq, Tl.sNever_eq, Tl.sRetN_eq, Tl.sExpr_eq, Tl.retV_v, Tl.retV_o, Tl.retV_a, Tl.retK_v, Tl.retK_o, Tl.sRet_eq, Tl.setV_v, Tl.setV_o, Tl.setV_a, Tl.setK_v, Tl.setK_o, Tl.sSet_eq, Tl.sIf_eq, Tl.sFor_eq, Tl.asg_eq, Tl.sAsg_eq, Tl.sSetIx_eq, Tl.ownObj_a, Tl.ownObK_o, Tl.sSetF_eq, Tl.putF2_n, Tl.putF2_c, Tl.lkF_c, Tl.fldO_eq, Tl.nrm_n, Tl.nrm_k, Tl.nrm_f, Tl.frz1_o, Tl.frz1_v, Tl.frz1_n, Tl.kil_n, Tl.kil_c, Tl.sFore_eq, Tl.sAft_eq, Tl.sFz_eq, Tl.aq_bind, Tl.aq_ite, Tl.aq_none, Tl.aq_nx, Tl.aq_ct, Tl.aq_bk, Tl.aq_rt, Tl.aq_ex, Tl.sRtA_eq, Tl.rq_bind, Tl.rq_ite, Tl.rq_none, Tl.rq_rtv, Tl.rq_rto, Tl.rq_ex, Tl.gN_eq, Tl.gT_eq, Tl.gsN_eq, Tl.gsC_eq, Tl.rtn_bind, Tl.rtn_ite, Tl.rtn_none, Tl.rtn_nx, Tl.rtn_rtv, Tl.rtn_rto, Tl.rtn_ex, Tl.post_n, Tl.post_v, Tl.post_o, Tl.sq_lpO, Tl.aq_lpO, Tl.sq_k, Tl.aq_k, Tl.rq_k, Tl.rtn_k, Tl.ob_k, Tl.cfO_nx, Tl.cfO_ct, Tl.cfO_bk, Tl.cfO_rt, Tl.cps_lc, Tl.noOwn_n, Tl.noOwn_c, Tl.isOwn_o, Tl.isOwn_v, Tl.isOwn_n, Tl.wipe_n, Tl.wipe_c, Tl.back_n', Tl.back_c', Tl.add_ii, Tl.add_tt, Tl.add_ll, Tl.sub_ii, Tl.mul_ii, Tl.div_ii, Tl.mod_ii, Tl.pow_ii, Tl.lt_ii, Tl.le_ii, Tl.gt_ii, Tl.ge_ii, Tl.eO_none, Tl.eO_some, Tl.lt_io, Tl.gt_io, Tl.lt_oi, Tl.gt_oi, Tl.is_oi, Tl.isn_oi, Tl.is_ot, Tl.isn_ot, Tl.sca_oi, Tl.sca_ob', Tl.is_bb, Tl.isn_bb, Tl.is_nn, Tl.is_in, Tl.is_ln, Tl.is_tn, Tl.is_on, Tl.isn_nn, Tl.isn_in, Tl.isn_ln, Tl.isn_tn, Tl.isn_on, Tl.it_sq, Tl.eSq_t, Tl.eSq_l, Tl.len_sq, Tl.eq_ii, Tl.ne_ii, Tl.eq_bb, Tl.ne_bb, Tl.eq_li, Tl.ne_li, Tl.eq_ti, Tl.ne_ti, Tl.eq_l0, Tl.ne_l0, Tl.in_il, Tl.in_it, Tl.in_is, Tl.notIn_il, Tl.notIn_it, Tl.notIn_is, Tl.in_rl, Tl.notIn_rl, Tl.tru_n, Tl.tru_b, Tl.tru_i, Tl.tru_l, Tl.tru_t, Tl.ix_lc, Tl.ix_tc, Tl.ix_lm, Tl.ix_tm, Tl.ix_sm, Tl.ix_sc, Tl.atI_map', Tl.at0, Tl.at1, Tl.at2, Tl.at3, Tl.set_map, Tl.sl_l, Tl.sl_t, Tl.len_l, Tl.len_t, Tl.len_s, Tl.int_i, Tl.int_b, Tl.max_ii, Tl.min_ii, Tl.list_l, Tl.list_t, Tl.list_s, Tl.tuple_l, Tl.tuple_t, Tl.tuple_s, Tl.sorted_i, Tl.maxL_i, Tl.minL_i, Tl.sum_i, Tl.all_b, Tl.any_b, Tl.isi_eq, Tl.ty_n, Tl.ty_b, Tl.ty_i, Tl.ty_s, Tl.ty_l, Tl.ty_t, Tl.il_ii, Tl.il_ib, Tl.il_it, Tl.il_il, Tl.il_bb, Tl.il_bi, Tl.il_bl, Tl.il_bt, Tl.il_ll, Tl.il_lt, Tl.il_li, Tl.il_lb, Tl.il_tt, Tl.il_tl, Tl.il_ti, Tl.il_tb, Tl.il_ss, Tl.il_si, Tl.il_sb, Tl.il_ni, Tl.il_nb, Tl.il_nl, Tl.il_nt, Tl.cps_lc2, Tl.augK_v, Tl.sAug_eq, Tl.gadd_ii, Tl.gsub_ii, Tl.gmul_ii, Tl.cps_ownIx, Tl.cps_ownCall, Tl.cps_lrg, Tl.cps_iOwn, Tl.cps_lOwn, Tl.cps_lent, Tl.lentK_eq, Tl.lent_and, Tl.scaRv_i, Tl.scaRv_b, Tl.frzA_n, Tl.frzA_c, Tl.fzS_n, Tl.fzS_v, Tl.fzS_o, Tl.ownL_n, Tl.ownL_no, Tl.ownL_v, Tl.ownL_o, Tl.e_tree_fin, Tl.e_tree_ask, Tl.ix_tree0, Tl.ix_tree1, Tl.ix_tree2, Tl.len_tree, Tl.eq_tag_end, Tl.eq_tag_ask, Tl.ne_tag_end, Tl.ne_tag_ask, Tl.so_t, Tl.so_f, Tl.ite_same, Tl.cps_un, Tl.l1_o, Tl.cps_aTmpR, Tl.cps_aTmp, Tl.cps_aConsT, Tl.tkK_v, Tl.tkK_o, Tl.tk_z, Tl.tk_s, Tl.cps_callT, Tl.cps_eCallT, Tl.cps_eCallK, Tl.cps_dix, Tl.il_ns, Tl.il_bs, Tl.il_is, Tl.il_ls, Tl.il_ts, Tl.il_sl, Tl.il_st, Tl.sMatch_eq, Tl.setD_n, Tl.setD_c, Tl.kNil_eq, Tl.cps_aTmp2R, Tl.cps_aTmp2, Tl.cps_aConsT2, Tl.cps_callT2, Tl.cps_eCallT2, Tl.ofTp_t, Tl.cps_extendT, Tl.any_bm, Tl.all_bm, Tl.is_otree, Tl.isn_otree, Tl.ne_lt0, Tl.eq_ll0, Tl.int_o, Tl.ge_oi, Tl.le_oi, Tl.lpO_E, Tl.keyO_T, Tl.inN_f, Tl.getN_f, Tl.putN_f, Tl.cps_dicN, Tl.cps_getN, Tl.eInN_eq, Tl.ownNdi_a, Tl.ownNK_n, Tl.sSetN_eq, Tl.l1N_o, Tl.cps_aTmpRN, Tl.cps_aTmpN, Tl.cps_aConsTN, Tl.cps_callTN, Tl.cps_eCallTN, Tl.inN_i, Tl.getN_i, Tl.putN_i, Tl.inN_b, Tl.notInN_b, Tl.putN_b, Tl.inN_k, Tl.getN_k, Tl.dicOne_b, Tl.cps_dic1, Tl.eNotInN_eq, Tl.or_tt, Tl.oRv_n, Tl.oRv_s, Tl.oRv_na, Tl.rtn_oo, Tl.oRv_toV, Tl.is_ol, Tl.isn_ol, Tl.eq_rn, Tl.cps_eDcN, Tl.eq_l0t, Tl.ne_l0t, Tl.it_bq, Tl.eBq_t, Tl.eBq_l, Tl.it_b, Tl.len_b, Tl.len_bq, Tl.ix_bq, Tl.list_bq, Tl.tuple_bq, Tl.br_l, Tl.br_t, Tl.br_b, Tl.br_i, Tl.br_bl, Tl.br_s, Tl.br_no, Tl.brL_n, Tl.brL_c, Tl.brL_a, Tl.brL_i, Tl.br_bqi, Tl.brL_bqi, Tl.brL_ti, Tl.brL_li, Tl.cps_brw, Tl.nb_l, Tl.nb_t, Tl.nb_o, Tl.nb_p, Tl.nb_i, Tl.nb_b, Tl.nb_n, Tl.nb_s, Tl.nbL_n, Tl.nbL_c, Tl.nbL_i, Tl.nbL_ti, Tl.nbL_pi, Tl.nbL_li, Tl.nbL_lli, Tl.nbL_lti, Tl.nbS_n, Tl.nbS_no, Tl.nbS_v, Tl.nbS_o, Tl.gEq_self, Tl.lnK_v, Tl.lnK_o, Tl.loanK_o, Tl.cps_loan, Tl.cps_eCallD, Tl.gt_oo, Tl.unO_i, Tl.ty_tree, Tl.glen_tree, Tl.eq_ll0g, Tl.or_f0, Tl.cast_2, Tl.cast_3, Tl.intD_i, Tl.popT_map, Tl.insT_map, Tl.index_i, Tl.isLst_l, Tl.in_ll, Tl.notIn_ll, Tl.cps_popAt, Tl.cps_insK, Tl.cps_insA, Tl.cps_insert, Tl.cps_ckLv, Tl.cps_index, Tl.le_oo, Tl.cps_prop, Tl.nx_eq, Tl.nxO_ret, Tl.cps_eMakeK, Tl.fillR_n, Tl.fillR_d, Tl.fillR_0, Tl.fillR_1, Tl.sAugF_eq, Tl.intOf_i, Tl.le_io, Tl.ge_io, Tl.sRaise_eq, Tl.sTry_eq, Tl.tryQ_bind, Tl.tryQ_ite, Tl.tryQ_none, Tl.tryQ_ex, Tl.suH_eq, Tl.e_an_n, Tl.e_an_b, Tl.e_an_i, Tl.e_an_s, Tl.e_an_t, Tl.e_an_l, Tl.isi_an_int, Tl.isi_an_bool, Tl.ty_an_int, Tl.ty_an_bool, Tl.dGe_an, Tl.gInt_an2, Tl.map_an_i, Tl.set_an, Tl.map_an_i2, Tl.tryQ_ex2, Tl.suC_eq, Tl.e_ib_i, Tl.e_ib_b, Tl.dIn_ib, Tl.dIn2_ib, Tl.dGe_ib, Tl.dNe_ib, Tl.dNe_ib_o, Tl.sRaiseF_eq, Tl.raF_1, Tl.xfO_1, Tl.cps_xf, Tl.valO_v, Tl.suE_eq, Tl.tryQ_exF, Tl.suI_eq, Tl.sq_lpX, Tl.aq_lpX, Tl.cfX_nx, Tl.cfX_ct, Tl.cfX_bk, Tl.cfX_rt, Tl.isi_ib_bool, Tl.ty_ib_bool, Tl.add_ib, Tl.dIx_ib_t, Tl.dIx_ib_l, Tl.map_ib_i, Tl.map_ib_i2, Tl.post_on, Tl.suP_eq, Tl.dNotIn2_ib, Tl.brL_fi, My.fld_Box_sides, My.fld_Box_rows, My.isObj_Box, My.is_o_Box, My.isn_o_Box, My.sca_Box, reduceIte, Nat.reduceAdd, Nat.reduceSub, Nat.reduceMul, Nat.reduceLT, Nat.reduceGT, Nat.reduceLeDiff, Nat.reduceEqDiff, Nat.reduceBEq, Nat.reduceBNe, Int.reduceNeg, Int.reduceAdd, Int.reduceSub, Int.reduceMul, Int.reduceLT, Int.reduceLE, Int.reduceGT, Int.reduceGE, Int.reduceEq, Int.reduceNe, Int.reduceBEq, Int.reduceBNe, Int.reducePow, $as,*] $[$lo]?)
theorem nb_Box (b : T_Box) : noB (e_Box b) = true := by unfold e_Box; simp? only [Tl.ob_some]
theorem sne_Box_sides_rows : (("sides" : Str) = ("rows" : Str)) = False := eq_false (by decide +kernel)
theorem sne_Box_rows_sides : (("rows" : Str) = ("sides" : Str)) = False := eq_false (by decide +kernel)
theorem itF_Box (b : T_Box) : itFld "Box" "rows" (e_Box b) = some (mT b.rows) := itFld_of (isObj_Box b) (fld_Box_rows b)
local macro_rules | `(tactic| simp? only [$as,*] $[$lo]?) => `(tactic| simp only [Tl.ob_some, Tl.ob_none, Tl.ob_assoc, Tl.om_eq, Tl.ob_ite, Tl.gz_small, Tl.gb_true, Tl.tt_true, Tl.ft_false, Tl.ite_T, Tl.ite_F, Tl.ite_fun, Tl.b_not_t, Tl.b_not_f, Tl.b_at, Tl.b_af, Tl.b_ot, Tl.b_of, Tl.b_ta, Tl.b_fa, Tl.g_zero, Tl.g_succ, Tl.s_zero, Tl.s_succ, Tl.gd_zero, Tl.gd_succ, Tl.a_cons, Tl.a_nil, Tl.a_nil2, Tl.m_cons, Tl.m_nil, Tl.m_app, Tl.m_map, Tl.m_idf, Tl.l_cons, Tl.l_nil, Tl.l_map, Tl.l_app, Tl.e_map, Tl.e_cons, Tl.e_nil, Tl.r_zero, Tl.r_succ, Tl.tl_cons, Tl.tl_nil, Tl.any_cons', Tl.any_nil', Tl.all_cons', Tl.all_nil', Tl.mem_one, Tl.eqs_self, Tl.tt_and, Tl.cps_bind, Tl.cps_pure, Tl.cps_fail, Tl.cps_ofO, Tl.cps_ite, Tl.cps_var, Tl.varK_v, Tl.varK_o, Tl.cps_C, Tl.set_v, Tl.set_o, Tl.set_a, Tl.cps_peek_v, Tl.cps_peek_o, Tl.cps_peek_a, Tl.peekK_v, Tl.peekK_o, Tl.cps_toV_v, Tl.cps_toV_o, Tl.cps_toV_a, Tl.toVK_v, Tl.toVK_o, Tl.peeks_n, Tl.peeks_c, Tl.toVs_n, Tl.toVs_c, Tl.toVs_vals, Tl.toVs_vals0, Tl.toVs_mv, Tl.toVs_mv0, Tl.cps_bin, Tl.cps_aNil, Tl.cps_aCons, Tl.it_l, Tl.it_t, Tl.cps_aStar, Tl.cps_eB, Tl.cps_tup, Tl.cps_lst, Tl.ofI_i, Tl.cps_oNo, Tl.cps_oSome, Tl.cps_sl, Tl.cps_neg, Tl.cps_tru, Tl.cps_tVal, Tl.cps_tNot, Tl.cps_tAnd, Tl.cps_tOr, Tl.cps_eNot, Tl.cps_eAnd, Tl.cps_eOr, Tl.cps_eIf, Tl.ofBl_b, Tl.cps_tCmp, Tl.cps_yes, Tl.cps_fld, Tl.cps_frz, Tl.prep_n, Tl.prep_t, Tl.prep_f, Tl.prep_z, Tl.cps_call, Tl.callO_ret, Tl.callO_ex, Tl.na_v, Tl.na_o, Tl.cps_eCall, Tl.ssOfs_n, Tl.ssOfs_c, Tl.ssOf_v, Tl.ssOf_a, Tl.ssK_v, Tl.ssK_o, Tl.dist_n, Tl.dist_v, Tl.dist_a, Tl.isAli_v, Tl.isAli_a, Tl.noAli_n, Tl.noAli_v, Tl.noAli_a, Tl.scaR_o, Tl.scaR_v, Tl.sca_n, Tl.sca_b, Tl.sca_i, Tl.sca_s, Tl.sca_l, Tl.sca_t, Tl.sca_ob, Tl.back_n, Tl.back_v, Tl.back_a, Tl.back1_eq, Tl.b1K_o, Tl.b1K_v, Tl.ownOr_o, Tl.cps_makeM, Tl.makeO_ret, Tl.makeO_ex, Tl.cps_eMake, Tl.cps_ckC, Tl.cps_ckO, Tl.cps_meth, Tl.cps_own2, Tl.cps_ownIn, Tl.ownLst_a, Tl.ownK_o, Tl.cps_append, Tl.ofL_l, Tl.cps_extend, Tl.cps_clear, Tl.cps_iSeq, Tl.cps_rng1, Tl.cps_rng2, Tl.cps_zip, Tl.cps_enu, Tl.rangeD_eq, Tl.dRng1_eq, Tl.dRng2_eq, Tl.dZip_l, Tl.dZip_t, Tl.dEnum_l, Tl.dEnum_t, Tl.sSeq_eq, Tl.sq_none, Tl.sq_nx, Tl.sq_rt, Tl.sq_ct, Tl.sq_bk, Tl.sq_ex, Tl.sq_bind, Tl.sq_ite, Tl.thenS_eq, Tl.sNil_eq, Tl.sPass_eq, Tl.sBreak_eq, Tl.sCont_eq, Tl.sNever_eq, Tl.sRetN_eq, Tl.sExpr_eq, Tl.retV_v, Tl.retV_o, Tl.retV_a, Tl.retK_v, Tl.retK_o, Tl.sRet_eq, Tl.setV_v, Tl.setV_o, Tl.setV_a, Tl.setK_v, Tl.setK_o, Tl.sSet_eq, Tl.sIf_eq, Tl.sFor_eq, Tl.asg_eq, Tl.sAsg_eq, Tl.sSetIx_eq, Tl.ownObj_a, Tl.ownObK_o, Tl.sSetF_eq, Tl.putF2_n, Tl.putF2_c, Tl.lkF_c, Tl.fldO_eq, Tl.nrm_n, Tl.nrm_k, Tl.nrm_f, Tl.frz1_o, Tl.frz1_v, Tl.frz1_n, Tl.kil_n, Tl.kil_c, Tl.sFore_eq, Tl.sAft_eq, Tl.sFz_eq, Tl.aq_bind, Tl.aq_ite, Tl.aq_none, Tl.aq_nx, Tl.aq_ct, Tl.aq_bk, Tl.aq_rt, Tl.aq_ex, Tl.sRtA_eq, Tl.rq_bind, Tl.rq_ite, Tl.rq_none, Tl.rq_rtv, Tl.rq_rto, Tl.rq_ex, Tl.gN_eq, Tl.gT_eq, Tl.gsN_eq, Tl.gsC_eq, Tl.rtn_bind, Tl.rtn_ite, Tl.rtn_none, Tl.rtn_nx, Tl.rtn_rtv, Tl.rtn_rto, Tl.rtn_ex, Tl.post_n, Tl.post_v, Tl.post_o, Tl.sq_lpO, Tl.aq_lpO, Tl.sq_k, Tl.aq_k, Tl.rq_k, Tl.rtn_k, Tl.ob_k, Tl.cfO_nx, Tl.cfO_ct, Tl.cfO_bk, Tl.cfO_rt, Tl.cps_lc, Tl.noOwn_n, Tl.noOwn_c, Tl.isOwn_o, Tl.isOwn_v, Tl.isOwn_n, Tl.wipe_n, Tl.wipe_c, Tl.back_n', Tl.back_c', Tl.add_ii, Tl.add_tt, Tl.add_ll, Tl.sub_ii, Tl.mul_ii, Tl.div_ii, Tl.mod_ii, Tl.pow_ii, Tl.lt_ii, Tl.le_ii, Tl.gt_ii, Tl.ge_ii, Tl.eO_none, Tl.eO_some, Tl.lt_io, Tl.gt_io, Tl.lt_oi, Tl.gt_oi, Tl.is_oi, Tl.isn_oi, Tl.is_ot, Tl.isn_ot, Tl.sca_oi, Tl.sca_ob', Tl.is_bb, Tl.isn_bb, Tl.is_nn, Tl.is_in, Tl.is_ln, Tl.is_tn, Tl.is_on, Tl.isn_nn, Tl.isn_in, Tl.isn_ln, Tl.isn_tn, Tl.isn_on, Tl.it_sq, Tl.eSq_t, Tl.eSq_l, Tl.len_sq, Tl.eq_ii, Tl.ne_ii, Tl.eq_bb, Tl.ne_bb, Tl.eq_li, Tl.ne_li, Tl.eq_ti, Tl.ne_ti, Tl.eq_l0, Tl.ne_l0, Tl.in_il, Tl.in_it, Tl.in_is, Tl.notIn_il, Tl.notIn_it, Tl.notIn_is, Tl.in_rl, Tl.notIn_rl, Tl.tru_n, Tl.tru_b, Tl.tru_i, Tl.tru_l, Tl.tru_t, Tl.ix_lc, Tl.ix_tc, Tl.ix_lm, Tl.ix_tm, Tl.ix_sm, Tl.ix_sc, Tl.atI_map', Tl.at0, Tl.at1, Tl.at2, Tl.at3, Tl.set_map, Tl.sl_l, Tl.sl_t, Tl.len_l, Tl.len_t, Tl.len_s, Tl.int_i, Tl.int_b, Tl.max_ii, Tl.min_ii, Tl.list_l, Tl.list_t, Tl.list_s, Tl.tuple_l, Tl.tuple_t, Tl.tuple_s, Tl.sorted_i, Tl.maxL_i, Tl.minL_i, Tl.sum_i, Tl.all_b, Tl.any_b, Tl.isi_eq, Tl.ty_n, Tl.ty_b, Tl.ty_i, Tl.ty_s, Tl.ty_l, Tl.ty_t, Tl.il_ii, Tl.il_ib, Tl.il_it, Tl.il_il, Tl.il_bb, Tl.il_bi, Tl.il_bl, Tl.il_bt, Tl.il_ll, Tl.il_lt, Tl.il_li, Tl.il_lb, Tl.il_tt, Tl.il_tl, Tl.il_ti, Tl.il_tb, Tl.il_ss, Tl.il_si, Tl.il_sb, Tl.il_ni, Tl.il_nb, Tl.il_nl, Tl.il_nt, Tl.cps_lc2, Tl.augK_v, Tl.sAug_eq, Tl.gadd_ii, Tl.gsub_ii, Tl.gmul_ii, Tl.cps_ownIx, Tl.cps_ownCall, Tl.cps_lrg, Tl.cps_iOwn, Tl.cps_lOwn, Tl.cps_lent, Tl.lentK_eq, Tl.lent_and, Tl.scaRv_i, Tl.scaRv_b, Tl.frzA_n, Tl.frzA_c, Tl.fzS_n, Tl.fzS_v, Tl.fzS_o, Tl.ownL_n, Tl.ownL_no, Tl.ownL_v, Tl.ownL_o, Tl.e_tree_fin, Tl.e_tree_ask, Tl.ix_tree0, Tl.ix_tree1, Tl.ix_tree2, Tl.len_tree, Tl.eq_tag_end, Tl.eq_tag_ask, Tl.ne_tag_end, Tl.ne_tag_ask, Tl.so_t, Tl.so_f, Tl.ite_same, Tl.cps_un, Tl.l1_o, Tl.cps_aTmpR, Tl.cps_aTmp, Tl.cps_aConsT, Tl.tkK_v, Tl.tkK_o, Tl.tk_z, Tl.tk_s, Tl.cps_callT, Tl.cps_eCallT, Tl.cps_eCallK, Tl.cps_dix, Tl.il_ns, Tl.il_bs, Tl.il_is, Tl.il_ls, Tl.il_ts, Tl.il_sl, Tl.il_st, Tl.sMatch_eq, Tl.setD_n, Tl.setD_c, Tl.kNil_eq, Tl.cps_aTmp2R, Tl.cps_aTmp2, Tl.cps_aConsT2, Tl.cps_callT2, Tl.cps_eCallT2, Tl.ofTp_t, Tl.cps_extendT, Tl.any_bm, Tl.all_bm, Tl.is_otree, Tl.isn_otree, Tl.ne_lt0, Tl.eq_ll0, Tl.int_o, Tl.ge_oi, Tl.le_oi, Tl.lpO_E, Tl.keyO_T, Tl.inN_f, Tl.getN_f, Tl.putN_f, Tl.cps_dicN, Tl.cps_getN, Tl.eInN_eq, Tl.ownNdi_a, Tl.ownNK_n, Tl.sSetN_eq, Tl.l1N_o, Tl.cps_aTmpRN, Tl.cps_aTmpN, Tl.cps_aConsTN, Tl.cps_callTN, Tl.cps_eCallTN, Tl.inN_i, Tl.getN_i, Tl.putN_i, Tl.inN_b, Tl.notInN_b, Tl.putN_b, Tl.inN_k, Tl.getN_k, Tl.dicOne_b, Tl.cps_dic1, Tl.eNotInN_eq, Tl.or_tt, Tl.oRv_n, Tl.oRv_s, Tl.oRv_na, Tl.rtn_oo, Tl.oRv_toV, Tl.is_ol, Tl.isn_ol, Tl.eq_rn, Tl.cps_eDcN, Tl.eq_l0t, Tl.ne_l0t, Tl.it_bq, Tl.eBq_t, Tl.eBq_l, Tl.it_b, Tl.len_b, Tl.len_bq, Tl.ix_bq, Tl.list_bq, Tl.tuple_bq, Tl.br_l, Tl.br_t, Tl.br_b, Tl.br_i, Tl.br_bl, Tl.br_s, Tl.br_no, Tl.brL_n, Tl.brL_c, Tl.brL_a, Tl.brL_i, Tl.br_bqi, Tl.brL_bqi, Tl.brL_ti, Tl.brL_li, Tl.cps_brw, Tl.nb_l, Tl.nb_t, Tl.nb_o, Tl.nb_p, Tl.nb_i, Tl.nb_b, Tl.nb_n, Tl.nb_s, Tl.nbL_n, Tl.nbL_c, Tl.nbL_i, Tl.nbL_ti, Tl.nbL_pi, Tl.nbL_li, Tl.nbL_lli, Tl.nbL_lti, Tl.nbS_n, Tl.nbS_no, Tl.nbS_v, Tl.nbS_o, Tl.gEq_self, Tl.lnK_v, Tl.lnK_o, Tl.loanK_o, Tl.cps_loan, Tl.cps_eCallD, Tl.gt_oo, Tl.unO_i, Tl.ty_tree, Tl.glen_tree, Tl.eq_ll0g, Tl.or_f0, Tl.cast_2, Tl.cast_3, Tl.intD_i, Tl.popT_map, Tl.insT_map, Tl.index_i, Tl.isLst_l, Tl.in_ll, Tl.notIn_ll, Tl.cps_popAt, Tl.cps_insK, Tl.cps_insA, Tl.cps_insert, Tl.cps_ckLv, Tl.cps_index, Tl.le_oo, Tl.cps_prop, Tl.nx_eq, Tl.nxO_ret, Tl.cps_eMakeK, Tl.fillR_n, Tl.fillR_d, Tl.fillR_0, Tl.fillR_1, Tl.sAugF_eq, Tl.intOf_i, Tl.le_io, Tl.ge_io, Tl.sRaise_eq, Tl.sTry_eq, Tl.tryQ_bind, Tl.tryQ_ite, Tl.tryQ_none, Tl.tryQ_ex, Tl.suH_eq, Tl.e_an_n, Tl.e_an_b, Tl.e_an_i, Tl.e_an_s, Tl.e_an_t, Tl.e_an_l, Tl.isi_an_int, Tl.isi_an_bool, Tl.ty_an_int, Tl.ty_an_bool, Tl.dGe_an, Tl.gInt_an2, Tl.map_an_i, Tl.set_an, Tl.map_an_i2, Tl.tryQ_ex2, Tl.suC_eq, Tl.e_ib_i, Tl.e_ib_b, Tl.dIn_ib, Tl.dIn2_ib, Tl.dGe_ib, Tl.dNe_ib, Tl.dNe_ib_o, Tl.sRaiseF_eq, Tl.raF_1, Tl.xfO_1, Tl.cps_xf, Tl.valO_v, Tl.suE_eq, Tl.tryQ_exF, Tl.suI_eq, Tl.sq_lpX, Tl.aq_lpX, Tl.cfX_nx, Tl.cfX_ct, Tl.cfX_bk, Tl.cfX_rt, Tl.isi_ib_bool, Tl.ty_ib_bool, Tl.add_ib, Tl.dIx_ib_t, Tl.dIx_ib_l, Tl.map_ib_i, Tl.map_ib_i2, Tl.post_on, Tl.suP_eq, Tl.dNotIn2_ib, Tl.brL_fi, My.fld_Box_sides, My.fld_Box_rows, My.isObj_Box, My.is_o_Box, My.isn_o_Box, My.sca_Box, My.nb_Box, My.sne_Box_sides_rows, My.sne_Box_rows_sides, reduceIte, Nat.reduceAdd, Nat.reduceSub, Nat.reduceMul, Nat.reduceLT, Nat.reduceGT, Nat.reduceLeDiff, Nat.reduceEqDiff, Nat.reduceBEq, Nat.reduceBNe, Int.reduceNeg, Int.reduceAdd, Int.reduceSub, Int.reduceMul, Int.reduceLT, Int.reduceLE, Int.reduceGT, Int.reduceGE, Int.reduceEq, Int.reduceNe, Int.reduceBEq, Int.reduceBNe, Int.reducePow, $as,*] $[$lo]?)
theorem tstZcell_1 (script : (List Int)) (k_ : Int) {γ : Type} {kx : Xn → List S → Option γ} {k : Bool → List S → Option γ} : cps (tCmp (eLt (eVar 1) (eB gLen (aCons (eVar 0) aNil)))) [.val (.scr script), (vI k_)] kx k = k (decide (k_ < ((List.length script : Nat) : Int))) [.val (.scr script), (vI k_)] := by
 simp? only [Tl.ob_some]
theorem stZcell_1 (script : (List Int)) (k_ : Int) : (sRtA [0, 1] (sRet (eIx (eVar 0) (eVar 1)))) [.val (.scr script), (vI k_)] = (atI script k_).bind fun v1 => some (.rt (.val (.int v1)) [.no, .no]) := by
 simp? only [Tl.ob_some]
theorem stZcell_2 {s0 s1 : S}  : (sRtA [0, 1] (sRet (eC (.int 0)))) [s0, s1] = some (.rt (.val (.int (0 : Int))) [.no, .no]) := by
 simp? only [Tl.ob_some]
def tZcell (script : (List Int)) (k_ : Int) : Option (Int) := if (decide (k_ < ((List.length script : Nat) : Int))) = true then (atI script k_).bind fun v1 => some v1 else some (0 : Int)
local macro_rules | `(tactic| dsimp? only [$as,*]) => `(tactic| simp (maxSteps := 4000000) only [sSeq_eq, sq_none, sq_nx, sq_rt, sq_ct, sq_bk, sq_ex, sq_bind, sq_ite, sq_lpO, sq_k, sIf_eq, sNil_eq, sPass_eq, sBreak_eq, sCont_eq, sNever_eq, sFore_eq, sAft_eq, aq_bind, aq_ite, aq_none, aq_nx, aq_ct, aq_bk, aq_rt, aq_ex, aq_k, aq_lpO, nrm_n, nrm_k, nrm_f, frz1_o, frz1_v, frz1_n, g_zero, g_succ, s_zero, s_succ, ob_some, ob_none, ob_assoc, ob_ite, ob_k, om_eq, ite_T, ite_F, tt_true, ft_false, gN_eq, cfO_nx, cfO_ct, cfO_bk, cfO_rt, rq_none, post_on, sq_lpX, aq_lpX, cfX_nx, cfX_ct, cfX_bk, cfX_rt, $as,*])
theorem eqZcell : ∀ (script : (List Int)) (k_ : Int), FnZcell [.val (.scr script), .val (.int k_)] = (tZcell script k_).bind fun r => some (.ret (.val (.int r)) [.val (.scr script), .val (.int k_)]) := fun script k_ => by
 show mkFn _ _ _ _ = _
 rw [mkFn_eq]
 dsimp? only [fZcell, tZcell, Nat.reduceSub, Nat.reduceAdd, rtn_bind, rtn_ite, rtn_none, rtn_nx, rtn_rtv, rtn_rto, rtn_ex, rtn_k, post_n, post_v, post_o, l_cons, l_nil, r_succ, r_zero, a_cons, a_nil, tstZcell_1, stZcell_1, stZcell_2]
theorem tstZsource_1 (cell : Int) {γ : Type} {kx : Xn → List S → Option γ} {k : Bool → List S → Option γ} : cps (tCmp (eGe (eVar 0) (ePow (eC (.int 10)) (eC (.int 18))))) [(vI cell)] kx k = k (decide ((1000000000000000000 : Int) ≤ cell)) [(vI cell)] := by
 simp? only [(by decide +kernel : powOk 10 18 = true), (by decide +kernel : ((10 : Int) ^ Int.toNat 18) = 1000000000000000000)]
theorem stZsource_1 (cell : Int) : (sRtA [0] (sRet (eLst (aCons (eVar 0) (aCons (eC (.int 0)) (aCons (eVar 0) aNil)))))) [(vI cell)] = some (.rt (.own (.lst (List.map D.int [cell, (0 : Int), cell]))) [.no]) := by
 simp? only [Tl.ob_some]
theorem stZsource_2 (cell : Int) : (sRtA [0] (sRet (eLst (aCons (eC (.int 0)) (aCons (eC (.int 0)) (aCons (eVar 0) aNil)))))) [(vI cell)] = some (.rt (.own (.lst (List.map D.int [(0 : Int), (0 : Int), cell]))) [.no]) := by
 simp? only [Tl.ob_some]
def tZsource (cell : Int) : Option ((List Int)) := if (decide ((1000000000000000000 : Int) ≤ cell)) = true then some [cell, (0 : Int), cell] else some [(0 : Int), (0 : Int), cell]
theorem eqZsource : ∀ (cell : Int), FnZsource [.val (.int cell)] = (tZsource cell).bind fun r => some (.ret (.own (.lst (List.map D.int r))) [.val (.int cell)]) := fun cell => by
 show mkFn _ _ _ _ = _
 rw [mkFn_eq]
 dsimp? only [fZsource, tZsource, Nat.reduceSub, Nat.reduceAdd, rtn_bind, rtn_ite, rtn_none, rtn_nx, rtn_rtv, rtn_rto, rtn_ex, rtn_k, post_n, post_v, post_o, l_cons, l_nil, r_succ, r_zero, a_cons, a_nil, tstZsource_1, stZsource_1, stZsource_2]
theorem stZdraw_1 {s1 s2 s3 : S} (source : (List Int)) : (sSetIx (eAdd (eIx (eVar 0) (eC (.int 1))) (eC (.int 1))) (eVar 0) (eC (.int 1))) [(oL source), s1, s2, s3] = (atI source (1 : Int)).bind fun v1 => (setT source (1 : Int) (v1 + (1 : Int))).bind fun v2 => some (.nx [(oL v2), s1, s2, s3]) := by
 simp? only [setT]
theorem tstZdraw_1 {s1 s2 s3 : S} (source : (List Int)) {γ : Type} {kx : Xn → List S → Option γ} {k : Bool → List S → Option γ} : cps (tCmp (eGt (eIx (eVar 0) (eC (.int 0))) (eC (.int 0)))) [(oL source), s1, s2, s3] kx k = (atI source (0 : Int)).bind fun v3 => k (decide ((0 : Int) < v3)) [(oL source), s1, s2, s3] := by
 simp? only [Tl.ob_some]
theorem stZdraw_2 {s2 : S} (source : (List Int)) (limit : Int) : (sSet 2 3 (eMod (eB gInt (aCons (eIx (eVar 0) (eC (.int 0))) aNil)) (eVar 1))) [(oL source), (vI limit), s2, .no] = (atI source (0 : Int)).bind fun v4 => (gb (modOk v4 limit)).bind fun _ => some (.nx [(oL source), (vI limit), s2, .val (.int (v4 % limit))]) := by
 simp? only [Tl.ob_some]
theorem stZdraw_3 {s2 s3 : S} (source : (List Int)) (limit : Int) : (sSetIx (eDiv (eIx (eVar 0) (eC (.int 0))) (eVar 1)) (eVar 0) (eC (.int 0))) [(oL source), (vI limit), s2, s3] = (atI source (0 : Int)).bind fun v5 => (gb (divOk v5 limit)).bind fun _ => (setT source (0 : Int) (v5 / limit)).bind fun v6 => some (.nx [(oL v6), (vI limit), s2, s3]) := by
 simp? only [setT]
theorem stZdraw_4 {s1 s2 : S} (source : (List Int)) (digit : Int) : (sRtA [1, 2, 3] (sRet (eVar 3))) [(oL source), s1, s2, (vI digit)] = some (.rt (.val (.int digit)) [(oL source), .no, .no, .no]) := by
 simp? only [Tl.ob_some]
theorem stZdraw_5 {s1 s3 : S} (source : (List Int)) : (sSet 2 2 (eMod (eB gInt (aCons (eAdd (eMul (eIx (eVar 0) (eC (.int 2))) (eC (.int 48271))) (eMul (eIx (eVar 0) (eC (.int 1))) (eC (.int 69621)))) aNil)) (eC (.int 2147483647)))) [(oL source), s1, .no, s3] = (atI source (2 : Int)).bind fun v7 => (atI source (1 : Int)).bind fun v8 => some (.nx [(oL source), s1, .val (.int (((v7 * (48271 : Int)) + (v8 * (69621 : Int))) % (2147483647 : Int))), s3]) := by
 simp? only [(fun i => mulOk_r (by decide) : ∀ i, mulOk i 48271 = true), (fun i => mulOk_r (by decide) : ∀ i, mulOk i 69621 = true), (fun i => modOk_l (by decide) : ∀ i, modOk i 2147483647 = true)]
theorem stZdraw_6 {s1 s3 : S} (source : (List Int)) (mixed : Int) : (sSet 2 2 (eMod (eB gInt (aCons (eAdd (eAdd (eMul (eVar 2) (eVar 2)) (eMul (eIx (eVar 0) (eC (.int 1))) (eC (.int 40692)))) (eC (.int 7))) aNil)) (eC (.int 2147483629)))) [(oL source), s1, (vI mixed), s3] = (gb (mulOk mixed mixed)).bind fun _ => (atI source (1 : Int)).bind fun v9 => some (.nx [(oL source), s1, .val (.int ((((mixed * mixed) + (v9 * (40692 : Int))) + (7 : Int)) % (2147483629 : Int))), s3]) := by
 simp? only [(fun i => mulOk_r (by decide) : ∀ i, mulOk i 40692 = true), (fun i => modOk_l (by decide) : ∀ i, modOk i 2147483629 = true)]
theorem stZdraw_7 {s3 : S} (source : (List Int)) (limit : Int) (mixed : Int) : (sRtA [1, 2, 3] (sRet (eMod (eB gInt (aCons (eAdd (eDiv (eVar 2) (eC (.int 8))) (eMul (eVar 2) (eC (.int 10000019)))) aNil)) (eVar 1)))) [(oL source), (vI limit), (vI mixed), s3] = (gb (modOk ((mixed / (8 : Int)) + (mixed * (10000019 : Int))) limit)).bind fun _ => some (.rt (.val (.int (((mixed / (8 : Int)) + (mixed * (10000019 : Int))) % limit))) [(oL source), .no, .no, .no]) := by
 simp? only [(fun i => divOk_l (by decide) : ∀ i, divOk i 8 = true), (fun i => mulOk_r (by decide) : ∀ i, mulOk i 10000019 = true)]
def tZdraw (source : (List Int)) (limit : Int) : Option (Int × (List Int)) := (atI source (1 : Int)).bind fun v1 => (setT source (1 : Int) (v1 + (1 : Int))).bind fun v2 => let source := v2; (atI source (0 : Int)).bind fun v3 => if (decide ((0 : Int) < v3)) = true then (atI source (0 : Int)).bind fun v4 => (gb (modOk v4 limit)).bind fun _ => let digit := (v4 % limit); (atI source (0 : Int)).bind fun v5 => (gb (divOk v5 limit)).bind fun _ => (setT source (0 : Int) (v5 / limit)).bind fun v6 => let source := v6; some (digit, source) else (atI source (2 : Int)).bind fun v7 => (atI source (1 : Int)).bind fun v8 => let mixed := (((v7 * (48271 : Int)) + (v8 * (69621 : Int))) % (2147483647 : Int)); (gb (mulOk mixed mixed)).bind fun _ => (atI source (1 : Int)).bind fun v9 => let mixed := ((((mixed * mixed) + (v9 * (40692 : Int))) + (7 : Int)) % (2147483629 : Int)); (gb (modOk ((mixed / (8 : Int)) + (mixed * (10000019 : Int))) limit)).bind fun _ => some ((((mixed / (8 : Int)) + (mixed * (10000019 : Int))) % limit), source)
theorem eqZdraw : ∀ (source : (List Int)) (limit : Int), FnZdraw [.own (.lst (List.map D.int source)), .val (.int limit)] = (tZdraw source limit).bind fun r => some (.ret (.val (.int r.1)) [.own (.lst (List.map D.int r.2)), .val (.int limit)]) := fun source limit => by
 show mkFn _ _ _ _ = _
 rw [mkFn_eq]
 dsimp? only [fZdraw, tZdraw, Nat.reduceSub, Nat.reduceAdd, rtn_bind, rtn_ite, rtn_none, rtn_nx, rtn_rtv, rtn_rto, rtn_ex, rtn_k, post_n, post_v, post_o, l_cons, l_nil, r_succ, r_zero, a_cons, a_nil, stZdraw_1, tstZdraw_1, stZdraw_2, stZdraw_3, stZdraw_4, stZdraw_5, stZdraw_6, stZdraw_7]
theorem stZdraw_sides_1 {s0 s1 s2 s3 s5 s6 s7 s8 : S}  : (sSet 4 4 (eLst aNil)) [s0, s1, s2, s3, .no, s5, s6, s7, s8] = some (.nx [s0, s1, s2, s3, .own (.lst (List.map (fun x => (D.lst (mI x))) ([] : List (List Int)))), s5, s6, s7, s8]) := by
 simp? only [Tl.ob_some]
theorem stZdraw_sides_2 {s0 s1 s2 s3 s4 s6 s7 s8 : S}  : (sSet 4 5 (eC (.int 96))) [s0, s1, s2, s3, s4, .no, s6, s7, s8] = some (.nx [s0, s1, s2, s3, s4, .val (.int (96 : Int)), s6, s7, s8]) := by
 simp? only [Tl.ob_some]
theorem stZdraw_sides_3 {s1 s2 s3 s4 s5 s6 s8 : S} (shape : (List Int)) : (sSet 4 7 (eCall [true, false] FnZdraw (aCons (eVar 0) (aCons (eIx (eLst (aCons (eC (.int 3)) (aCons (eC (.int 4)) (aCons (eC (.int 5)) (aCons (eC (.int 40)) aNil))))) (eCall [true, false] FnZdraw (aCons (eVar 0) (aCons (eC (.int 4)) aNil)))) aNil)))) [(oL shape), s1, s2, s3, s4, s5, s6, .no, s8] = (tZdraw shape (4 : Int)).bind fun v2 => (atI [(3 : Int), (4 : Int), (5 : Int), (40 : Int)] v2.1).bind fun v3 => (tZdraw v2.2 v3).bind fun v4 => some (.nx [(oL v4.2), s1, s2, s3, s4, s5, s6, (vI v4.1), s8]) := by
 have lf : ∀ (a0 a1 a2 a3 : Int) (i : Int), atI [(D.int a0), (D.int a1), (D.int a2), (D.int a3)] i = (atI [a0, a1, a2, a3] i).bind fun a => some (D.int a) := fun a0 a1 a2 a3 i => atI_map' D.int [a0, a1, a2, a3] i
 simp? only [eqZdraw, lf]
theorem tstZdraw_sides_1 {s0 s1 s2 s3 s4 s6 s8 : S} (room : Int) (size : Int) {γ : Type} {kx : Xn → List S → Option γ} {k : Bool → List S → Option γ} : cps (tCmp (eGt (eVar 7) (eVar 5))) [s0, s1, s2, s3, s4, (vI room), s6, (vI size), s8] kx k = k (decide (room < size)) [s0, s1, s2, s3, s4, (vI room), s6, (vI size), s8] := by
 simp? only [Tl.ob_some]
theorem stZdraw_sides_4 {s0 s1 s2 s3 s4 s5 s6 s8 : S} (size : Int) : (sSet 4 7 (eC (.int 1))) [s0, s1, s2, s3, s4, s5, s6, (vI size), s8] = some (.nx [s0, s1, s2, s3, s4, s5, s6, .val (.int (1 : Int)), s8]) := by
 simp? only [Tl.ob_some]
theorem ilZdraw_sides_1 {s0 s1 s2 s3 s4 s6 s8 : S} (room : Int) (size : Int) : iZdraw_sides_1 [s0, s1, s2, s3, s4, (vI room), s6, (vI size), s8] = (if (decide (room < size)) = true then let size := (1 : Int); some (size) else some (size)).bind fun v5 => some (.nx [s0, s1, s2, s3, s4, (vI room), s6, (vI v5), s8]) := by
 dsimp? only [iZdraw_sides_1, tstZdraw_sides_1, stZdraw_sides_4]
theorem stZdraw_sides_5 {s0 s1 s2 s3 s4 s6 s8 : S} (room : Int) (size : Int) : (sSet 4 5 (eDiv (eVar 5) (eB gMax2 (aCons (eC (.int 1)) (aCons (eVar 7) aNil))))) [s0, s1, s2, s3, s4, (vI room), s6, (vI size), s8] = (gb (divOk room (if size > (1 : Int) then size else (1 : Int)))).bind fun _ => some (.nx [s0, s1, s2, s3, s4, .val (.int (room / (if size > (1 : Int) then size else (1 : Int)))), s6, (vI size), s8]) := by
 simp? only [Tl.ob_some]
def fcZdraw_sides_1 (span : Int) (size : Int) : Int → ((List Int)) → Option (Int × ((List Int))) := fun (v7 : Int) (env : ((List Int))) => let source := env; (tZdraw source span).bind fun v8 => some (v8.1, v8.2)
theorem lcsZdraw_sides_1 {s0 s2 s4 s5 s6 : S} (span : Int) (size : Int) (v7 : Int) (env : ((List Int))) : lcS (gN 8) tYes' (eCall [true, false] FnZdraw (aCons (eVar 1) (aCons (eVar 3) aNil))) [8] (.int v7) [s0, (oL env), s2, (vI span), s4, s5, s6, (vI size), .no] = ((fcZdraw_sides_1 span size) v7 env).bind fun y => some (some (D.int y.1), [s0, (oL y.2), s2, (vI span), s4, s5, s6, (vI size), .no]) := by
 simp? only [lcS, fcZdraw_sides_1, eqZdraw]
theorem lcZdraw_sides_1 {s0 s2 s4 s5 s6 : S} (source : (List Int)) (span : Int) (size : Int) {γ : Type} {kx : Xn → List S → Option γ} {k : Rv → List S → Option γ} : cps (cZdraw_sides_1 FnZdraw) [s0, (oL source), s2, (vI span), s4, s5, s6, (vI size), .no] kx k = (rngT size).bind fun v6 => (mapE (fcZdraw_sides_1 span size) v6 source).bind fun v9 => k (.own (.lst (mI v9.1))) [s0, (oL v9.2), s2, (vI span), s4, s5, s6, (vI size), .no] := by
 have hh := fun {γ : Type} {kx : Xn → List S → Option γ} (span : Int) (size : Int) (xs : List Int) (env : ((List Int))) (h' : List D → List S → Option γ) => cps_lcE (e := D.int) (e' := D.int) (st := fun (env : ((List Int))) => [s0, .own (.lst (List.map D.int env)), s2, .val (.int span), s4, s5, s6, .val (.int size), .no]) (kx := kx) (f := (fcZdraw_sides_1 span size)) xs env (lcsZdraw_sides_1 span size) h'
 have hh := fun {γ : Type} {kx : Xn → List S → Option γ} (span : Int) (size : Int) (source : (List Int)) (xs : List Int) h' => hh (γ := γ) (kx := kx) span size xs source h'
 simp? only [cZdraw_sides_1, hh]
theorem stZdraw_sides_6 {s0 s2 s5 s6 : S} (source : (List Int)) (span : Int) (sides : (List (List Int))) (size : Int) : (sExpr (mAppend (eVar 4) (cZdraw_sides_1 FnZdraw))) [s0, (oL source), s2, (vI span), .own (.lst (mL sides)), s5, s6, (vI size), .no] = (rngT size).bind fun v6 => (mapE (fcZdraw_sides_1 span size) v6 source).bind fun v9 => (gz (List.length sides + 1)).bind fun _ => some (.nx [s0, (oL v9.2), s2, (vI span), .own (.lst (List.map (fun x => (D.lst (mI x))) (sides ++ [v9.1]))), s5, s6, (vI size), .no]) := by
 simp? only [lcZdraw_sides_1]
def tbZdraw_sides_1 (span : Int) (it : Int) (env : ((List Int) × (List Int) × (List (List Int)) × Int)) : Option ((List Int) × (List Int) × (List (List Int)) × Int) := let k_ := it; let shape := env.1; let source := env.2.1; let sides := env.2.2.1; let room := env.2.2.2; (tZdraw shape (4 : Int)).bind fun v2 => (atI [(3 : Int), (4 : Int), (5 : Int), (40 : Int)] v2.1).bind fun v3 => (tZdraw v2.2 v3).bind fun v4 => let shape_n := v4.2; let size_n := v4.1; let shape := shape_n; let size := size_n; (if (decide (room < size)) = true then let size := (1 : Int); some (size) else some (size)).bind fun v5 => let size := v5; (gb (divOk room (if size > (1 : Int) then size else (1 : Int)))).bind fun _ => let room := (room / (if size > (1 : Int) then size else (1 : Int))); (rngT size).bind fun v6 => (mapE (fcZdraw_sides_1 span size) v6 source).bind fun v9 => (gz (List.length sides + 1)).bind fun _ => let source_n := v9.2; let sides_n := (sides ++ [v9.1]); let source := source_n; let sides := sides_n; some (shape, source, sides, room)
theorem blZdraw_sides_1 {s2 : S} (span : Int) (it : Int) (env : ((List Int) × (List Int) × (List (List Int)) × Int)) : ((gN 6) (.int it) [(oL env.1), (oL env.2.1), s2, (vI span), .own (.lst (mL env.2.2.1)), (vI env.2.2.2), .no, .no, .no]).bind (bZdraw_sides_1 FnZdraw) = ((tbZdraw_sides_1 span) it env).bind fun o => some (.nx [(oL o.1), (oL o.2.1), s2, (vI span), .own (.lst (mL o.2.2.1)), (vI o.2.2.2), .no, .no, .no]) := by
 dsimp? only [bZdraw_sides_1, tbZdraw_sides_1, gT_eq, gsN_eq, gsC_eq, l_cons, l_nil, stZdraw_sides_3, ilZdraw_sides_1, stZdraw_sides_5, stZdraw_sides_6]
theorem llZdraw_sides_1 (shape : (List Int)) (source : (List Int)) (many : Int) (span : Int) (sides : (List (List Int))) (room : Int) : (lZdraw_sides_1 FnZdraw) [(oL shape), (oL source), (vI many), (vI span), .own (.lst (mL sides)), (vI room), .no, .no, .no] = (rngT many).bind fun v1 => (foldT (tbZdraw_sides_1 span) v1 (shape, source, sides, room)).bind fun o => some (.nx [(oL o.1), (oL o.2.1), (vI many), (vI span), .own (.lst (mL o.2.2.1)), (vI o.2.2.2), .no, .no, .no]) := by
 have hh := fun (span : Int) (xs : List Int) (env : ((List Int) × (List Int) × (List (List Int)) × Int)) => forL_fold (e := D.int) (st := fun (env : ((List Int) × (List Int) × (List (List Int)) × Int)) => [.own (.lst (List.map D.int env.1)), .own (.lst (List.map D.int env.2.1)), .val (.int many), .val (.int span), .own (.lst (List.map (fun x => (D.lst (List.map D.int x))) env.2.2.1)), .val (.int env.2.2.2), .no, .no, .no]) (tg := (gN 6)) (body := (bZdraw_sides_1 FnZdraw)) (tb := (tbZdraw_sides_1 span)) xs env (fun x _ env => blZdraw_sides_1 span x env)
 have hh := fun (span : Int) (shape : (List Int)) (source : (List Int)) (sides : (List (List Int))) (room : Int) (xs : List Int) => hh span xs (shape, source, sides, room)
 simp? only [lZdraw_sides_1, sFor_eq] at hh ⊢
 simp? only [hh]
theorem stZdraw_sides_7 {s2 s3 s5 s6 s7 s8 : S} (shape : (List Int)) (source : (List Int)) (sides : (List (List Int))) : (sRtA [2, 3, 4, 5, 6, 7, 8] (sRet (eVar 4))) [(oL shape), (oL source), s2, s3, .own (.lst (mL sides)), s5, s6, s7, s8] = some (.rt (.own (.lst (mL sides))) [(oL shape), (oL source), .no, .no, .no, .no, .no, .no, .no]) := by
 simp? only [Tl.ob_some]
def tZdraw_sides (shape : (List Int)) (source : (List Int)) (many : Int) (span : Int) : Option ((List (List Int)) × (List Int) × (List Int)) := let sides := ([] : List (List Int)); let room := (96 : Int); (rngT many).bind fun v1 => (foldT (tbZdraw_sides_1 span) v1 (shape, source, sides, room)).bind fun v10 => let shape := v10.1; let source := v10.2.1; let sides := v10.2.2.1; let room := v10.2.2.2; some (sides, shape, source)
theorem eqZdraw_sides : ∀ (shape : (List Int)) (source : (List Int)) (many : Int) (span : Int), FnZdraw_sides [.own (.lst (List.map D.int shape)), .own (.lst (List.map D.int source)), .val (.int many), .val (.int span)] = (tZdraw_sides shape source many span).bind fun r => some (.ret (.own (.lst (List.map (fun x => (D.lst (List.map D.int x))) r.1))) [.own (.lst (List.map D.int r.2.1)), .own (.lst (List.map D.int r.2.2)), .val (.int many), .val (.int span)]) := fun shape source many span => by
 show mkFn _ _ _ _ = _
 rw [mkFn_eq]
 dsimp? only [fZdraw_sides, tZdraw_sides, Nat.reduceSub, Nat.reduceAdd, rtn_bind, rtn_ite, rtn_none, rtn_nx, rtn_rtv, rtn_rto, rtn_ex, rtn_k, post_n, post_v, post_o, l_cons, l_nil, r_succ, r_zero, a_cons, a_nil, stZdraw_sides_1, stZdraw_sides_2, llZdraw_sides_1, stZdraw_sides_7]
theorem tst_is_integer_1 (value : Int) {γ : Type} {kx : Xn → List S → Option γ} {k : Rv → List S → Option γ} : cps e_is_integer_1 [(vI value)] kx k = k (.val (.bl ((true && (!false))))) [(vI value)] := by
 have ka : ∀ (a b : Bool) (ρ : List S), (if a = true then k (.val (.bl b)) ρ else k (.val (.bl a)) ρ) = k (.val (.bl (a && b))) ρ := fun a b ρ => by cases a <;> rfl
 have ko : ∀ (a b : Bool) (ρ : List S), (if a = true then k (.val (.bl a)) ρ else k (.val (.bl b)) ρ) = k (.val (.bl (a || b))) ρ := fun a b ρ => by cases a <;> rfl
 simp? only [e_is_integer_1, ka, ko]
theorem st_is_integer_1 (value : Int) : (sRtA [0] (sRet e_is_integer_1)) [(vI value)] = some (.rt (.val (.bl (true && (!false)))) [.no]) := by
 simp? only [tst_is_integer_1]
def t_is_integer (value : Int) : Option (Bool) := some (true && (!false))
theorem eq_is_integer : ∀ (value : Int), Fn_is_integer [.val (.int value)] = (t_is_integer value).bind fun r => some (.ret (.val (.bl r)) [.val (.int value)]) := fun value => by
 show mkFn _ _ _ _ = _
 rw [mkFn_eq]
 dsimp? only [f_is_integer, t_is_integer, Nat.reduceSub, Nat.reduceAdd, rtn_bind, rtn_ite, rtn_none, rtn_nx, rtn_rtv, rtn_rto, rtn_ex, rtn_k, post_n, post_v, post_o, l_cons, l_nil, r_succ, r_zero, a_cons, a_nil, st_is_integer_1]
theorem tst_is_number_1 (value : Int) {γ : Type} {kx : Xn → List S → Option γ} {k : Rv → List S → Option γ} : cps (e_is_number_1 Fn_is_integer) [(vI value)] kx k = (t_is_integer value).bind fun v1 => k (.val (.bl ((v1 && (decide ((0 : Int) ≤ value)))))) [(vI value)] := by
 have ka : ∀ (a b : Bool) (ρ : List S), (if a = true then k (.val (.bl b)) ρ else k (.val (.bl a)) ρ) = k (.val (.bl (a && b))) ρ := fun a b ρ => by cases a <;> rfl
 have ko : ∀ (a b : Bool) (ρ : List S), (if a = true then k (.val (.bl a)) ρ else k (.val (.bl b)) ρ) = k (.val (.bl (a || b))) ρ := fun a b ρ => by cases a <;> rfl
 simp? only [e_is_number_1, eq_is_integer, ka, ko]
theorem st_is_number_1 (value : Int) : (sRtA [0] (sRet (e_is_number_1 Fn_is_integer))) [(vI value)] = (t_is_integer value).bind fun v1 => some (.rt (.val (.bl (v1 && (decide ((0 : Int) ≤ value))))) [.no]) := by
 simp? only [tst_is_number_1]
def t_is_number (value : Int) : Option (Bool) := (t_is_integer value).bind fun v1 => some (v1 && (decide ((0 : Int) ≤ value)))
theorem eq_is_number : ∀ (value : Int), Fn_is_number [.val (.int value)] = (t_is_number value).bind fun r => some (.ret (.val (.bl r)) [.val (.int value)]) := fun value => by
 show mkFn _ _ _ _ = _
 rw [mkFn_eq]
 dsimp? only [f_is_number, t_is_number, Nat.reduceSub, Nat.reduceAdd, rtn_bind, rtn_ite, rtn_none, rtn_nx, rtn_rtv, rtn_rto, rtn_ex, rtn_k, post_n, post_v, post_o, l_cons, l_nil, r_succ, r_zero, a_cons, a_nil, st_is_number_1]
theorem st_ascending_1 {s0 s2 : S}  : (sSet 1 1 (eLst aNil)) [s0, .no, s2] = some (.nx [s0, .own (.lst (List.map D.int ([] : List Int))), s2]) := by
 simp? only [Tl.ob_some]
theorem lcs_ascending_1 {s1 : S} (numbers : (Bool × List Int)) (v1 : Int) : lcS (gN 2) tYes' (eB gInt (aCons (eVar 2) aNil)) [2] (.int v1) [.val (eBq D.int numbers), s1, .no] = some (some (D.int v1), [.val (eBq D.int numbers), s1, .no]) := by
 simp? only [lcS]
theorem lc_ascending_1 {s1 : S} (numbers : (Bool × List Int)) {γ : Type} {kx : Xn → List S → Option γ} {k : Rv → List S → Option γ} : cps c_ascending_1 [.val (eBq D.int numbers), s1, .no] kx k = k (.own (.lst (mI numbers.2))) [.val (eBq D.int numbers), s1, .no] := by
 have hh := fun {γ : Type} {kx : Xn → List S → Option γ} (numbers : (Bool × List Int)) (xs : List Int) (h' : List D → List S → Option γ) => cps_lcP (e := D.int) (e' := D.int) (ρ := [.val (eBq D.int numbers), s1, .no]) (kx := kx) (f := fun (v1 : Int) => v1) xs (lcs_ascending_1 numbers) h'
 simp only [m_idf] at hh
 simp? only [c_ascending_1, hh]
theorem tst_ascending_1 {s0 : S} (kept : (List Int)) (number : Int) {γ : Type} {kx : Xn → List S → Option γ} {k : Bool → List S → Option γ} : cps t_ascending_1 [s0, (oL kept), (vI number)] kx k = ((if (!(!(List.isEmpty kept))) = true then some true else (atI kept (-(1 : Int))).bind fun v2 => some (!decide (v2 = number)))).bind fun v3 => k (v3) [s0, (oL kept), (vI number)] := by
 have ka : ∀ (a b : Bool) (ρ : List S), (if a = true then k b ρ else k false ρ) = k (a && b) ρ := fun a b ρ => by cases a <;> rfl
 have ko : ∀ (a b : Bool) (ρ : List S), (if a = true then k true ρ else k b ρ) = k (a || b) ρ := fun a b ρ => by cases a <;> rfl
 simp? only [t_ascending_1]
theorem tst_ascending_2 {s0 : S} (kept : (List Int)) (number : Int) {γ : Type} {kx : Xn → List S → Option γ} {k : Bool → List S → Option γ} : cps t_ascending_1 [s0, (oL kept), (vI number)] kx k = ((if (!(!(List.isEmpty kept))) = true then some true else (atI kept (-(1 : Int))).bind fun v2 => some (!decide (v2 = number)))).bind fun v3 => k v3 [s0, (oL kept), (vI number)] := by
 simp? only [tst_ascending_1]
theorem st_ascending_2 {s0 : S} (kept : (List Int)) (number : Int) : (sExpr (mAppend (eVar 1) (eVar 2))) [s0, (oL kept), (vI number)] = (gz (List.length kept + 1)).bind fun _ => some (.nx [s0, .own (.lst (List.map D.int (kept ++ [number]))), (vI number)]) := by
 simp? only [Tl.ob_some]
theorem il_ascending_1 {s0 : S} (kept : (List Int)) (number : Int) : i_ascending_1 [s0, (oL kept), (vI number)] = (((if (!(!(List.isEmpty kept))) = true then some true else (atI kept (-(1 : Int))).bind fun v2 => some (!decide (v2 = number)))).bind fun v3 => if v3 = true then (gz (List.length kept + 1)).bind fun _ => let kept := (kept ++ [number]); some (kept) else some (kept)).bind fun v4 => some (.nx [s0, (oL v4), (vI number)]) := by
 dsimp? only [i_ascending_1, tst_ascending_2, st_ascending_2]
def tb_ascending_1  (it : Int) (env : ((List Int))) : Option ((List Int)) := let number := it; let kept := env; (((if (!(!(List.isEmpty kept))) = true then some true else (atI kept (-(1 : Int))).bind fun v2 => some (!decide (v2 = number)))).bind fun v3 => if v3 = true then (gz (List.length kept + 1)).bind fun _ => let kept := (kept ++ [number]); some (kept) else some (kept)).bind fun v4 => let kept := v4; some kept
theorem bl_ascending_1 {s0 : S}  (it : Int) (env : ((List Int))) : ((gN 2) (.int it) [s0, (oL env), .no]).bind b_ascending_1 = ((tb_ascending_1 ) it env).bind fun o => some (.nx [s0, (oL o), .no]) := by
 dsimp? only [b_ascending_1, tb_ascending_1, gT_eq, gsN_eq, gsC_eq, l_cons, l_nil, il_ascending_1]
theorem ll_ascending_1 (numbers : (Bool × List Int)) (kept : (List Int)) : l_ascending_1 [.val (eBq D.int numbers), (oL kept), .no] = (foldT (tb_ascending_1 ) (sortI numbers.2) kept).bind fun o => some (.nx [.val (eBq D.int numbers), (oL o), .no]) := by
 have hh := fun  (xs : List Int) (env : ((List Int))) => forL_fold (e := D.int) (st := fun (env : ((List Int))) => [.val (eBq D.int numbers), .own (.lst (List.map D.int env)), .no]) (tg := (gN 2)) (body := b_ascending_1) (tb := (tb_ascending_1 )) xs env (fun x _ env => bl_ascending_1  x env)
 have hh := fun  (kept : (List Int)) (xs : List Int) => hh  xs kept
 simp? only [l_ascending_1, sFor_eq, lc_ascending_1] at hh ⊢
 simp? only [hh]
theorem st_ascending_3 {s0 s2 : S} (kept : (List Int)) : (sRtA [0, 1, 2] (sRet (eB gTuple (aCons (eVar 1) aNil)))) [s0, (oL kept), s2] = some (.rt (.val (.tup (mI kept))) [.no, .no, .no]) := by
 simp? only [Tl.ob_some]
def t_ascending (numbers : (Bool × List Int)) : Option ((List Int)) := let kept := ([] : List Int); (foldT (tb_ascending_1 ) (sortI numbers.2) kept).bind fun v5 => let kept := v5; some kept
theorem eq_ascending : ∀ (numbers : (Bool × List Int)), Fn_ascending [.val (eBq D.int numbers)] = (t_ascending numbers).bind fun r => some (.ret (.val (.tup (List.map D.int r))) [.val (eBq D.int numbers)]) := fun numbers => by
 show mkFn _ _ _ _ = _
 rw [mkFn_eq]
 dsimp? only [f_ascending, t_ascending, Nat.reduceSub, Nat.reduceAdd, rtn_bind, rtn_ite, rtn_none, rtn_nx, rtn_rtv, rtn_rto, rtn_ex, rtn_k, post_n, post_v, post_o, l_cons, l_nil, r_succ, r_zero, a_cons, a_nil, st_ascending_1, ll_ascending_1, st_ascending_3]
theorem st_grid_1 {s0 s2 s3 s4 : S}  : (sFz 1 (sSet 1 1 (eLst (aCons (eTup aNil) aNil)))) [s0, .no, s2, s3, s4] = some (.nx [s0, .val (.lst (List.map (fun x => (D.tup (mI x))) [([] : List Int)])), s2, s3, s4]) := by
 simp? only [Tl.ob_some]
def fc_grid_2 (rows : (List (List Int))) (side : (List Int)) (v1 : (List Int)) : Option (List Int) := some side
def fc_grid_1 (rows : (List (List Int))) (side : (List Int)) (v1 : (List Int)) (v2 : Int) : Option (List Int) := (gz (List.length (v1 ++ ([v2])))).bind fun _ => some (v1 ++ ([v2]))
theorem lcs_grid_1 {s0 : S} (rows : (List (List Int))) (side : (List Int)) (v1 : (List Int)) (v2 : Int) : lcS (gN 4) tYes' (eTup (aStar (eVar 3) (aCons (eVar 4) aNil))) [4] (.int v2) [s0, .val (.lst (mT rows)), (vT side), (vT v1), .no] = ((fc_grid_1 rows side) v1 v2).bind fun y => some (some (D.tup (mI y)), [s0, .val (.lst (mT rows)), (vT side), (vT v1), .no]) := by
 simp? only [lcS, fc_grid_1]
theorem lcs_grid_2 {s0 : S} (rows : (List (List Int))) (side : (List Int)) (v1 : (List Int)) (acc : List (List Int)) : lc2S (gN 3) (iSeq (eVar 2)) (gN 4) (eTup (aStar (eVar 3) (aCons (eVar 4) aNil))) [3, 4] [4] (.tup (mI v1)) (mT acc) [s0, .val (.lst (mT rows)), (vT side), .no, .no] = ((fc_grid_2 rows side) v1).bind fun ys => (lc2I ((fc_grid_1 rows side) v1) ys acc).bind fun zs => some (List.map (fun x => (D.tup (mI x))) zs, [s0, .val (.lst (mT rows)), (vT side), .no, .no]) := by
 have hh := fun {γ : Type} {kx : Xn → List S → Option γ} (ys : List Int) (h' : List D → List S → Option γ) => cps_lcI (eb := D.int) (ed := (fun x => (D.tup (List.map D.int x)))) (ρ := [s0, .val (.lst (List.map (fun x => (D.tup (List.map D.int x))) rows)), .val (.tup (List.map D.int side)), .val (.tup (List.map D.int v1)), .no]) (kx := kx) (g := (fc_grid_1 rows side) v1) ys acc (lcs_grid_1 rows side v1) h'
 simp? only [lc2S, fc_grid_2, hh]
theorem lc_grid_1 {s0 : S} (rows : (List (List Int))) (side : (List Int)) {γ : Type} {kx : Xn → List S → Option γ} {k : Rv → List S → Option γ} : cps c_grid_1 [s0, .val (.lst (mT rows)), (vT side), .no, .no] kx k = (lc2O (fc_grid_2 rows side) (fc_grid_1 rows side) rows []).bind fun v3 => k (.own (.lst (mT v3))) [s0, .val (.lst (mT rows)), (vT side), .no, .no] := by
 have hh := fun {γ : Type} {kx : Xn → List S → Option γ} (rows : (List (List Int))) (side : (List Int)) (xs : List (List Int)) (h' : List D → List S → Option γ) => cps_lcO (ea := (fun x => (D.tup (List.map D.int x)))) (ed := (fun x => (D.tup (List.map D.int x)))) (ρ := [s0, .val (.lst (List.map (fun x => (D.tup (List.map D.int x))) rows)), .val (.tup (List.map D.int side)), .no, .no]) (kx := kx) (it := (fc_grid_2 rows side)) (g := (fc_grid_1 rows side)) xs (lcs_grid_2 rows side) h'
 simp? only [c_grid_1, hh]
theorem st_grid_2 {s0 : S} (rows : (List (List Int))) (side : (List Int)) : (sFz 1 (sSet 1 1 c_grid_1)) [s0, .val (.lst (mT rows)), (vT side), .no, .no] = (lc2O (fc_grid_2 rows side) (fc_grid_1 rows side) rows []).bind fun v3 => some (.nx [s0, .val (.lst (mT v3)), (vT side), .no, .no]) := by
 simp? only [lc_grid_1]
def tb_grid_1  (it : (List Int)) (env : ((List (List Int)))) : Option ((List (List Int))) := let side := it; let rows := env; (lc2O (fc_grid_2 rows side) (fc_grid_1 rows side) rows []).bind fun v3 => let rows := v3; some rows
theorem bl_grid_1 {s0 : S}  (it : (List Int)) (env : ((List (List Int)))) : ((gN 2) (.tup (mI it)) [s0, .val (.lst (mT env)), .no, .no, .no]).bind b_grid_1 = ((tb_grid_1 ) it env).bind fun o => some (.nx [s0, .val (.lst (mT o)), .no, .no, .no]) := by
 dsimp? only [b_grid_1, tb_grid_1, gT_eq, gsN_eq, gsC_eq, l_cons, l_nil, st_grid_2]
theorem ll_grid_1 (sides : (List (List Int))) (rows : (List (List Int))) : l_grid_1 [.val (.lst (mT sides)), .val (.lst (mT rows)), .no, .no, .no] = (foldT (tb_grid_1 ) sides rows).bind fun o => some (.nx [.val (.lst (mT sides)), .val (.lst (mT o)), .no, .no, .no]) := by
 have hh := fun  (xs : List (List Int)) (env : ((List (List Int)))) => forL_fold (e := (fun x => (D.tup (List.map D.int x)))) (st := fun (env : ((List (List Int)))) => [.val (.lst (List.map (fun x => (D.tup (List.map D.int x))) sides)), .val (.lst (List.map (fun x => (D.tup (List.map D.int x))) env)), .no, .no, .no]) (tg := (gN 2)) (body := b_grid_1) (tb := (tb_grid_1 )) xs env (fun x _ env => bl_grid_1  x env)
 have hh := fun  (rows : (List (List Int))) (xs : List (List Int)) => hh  xs rows
 simp? only [l_grid_1, sFor_eq] at hh ⊢
 simp? only [hh]
theorem st_grid_3 {s0 s2 s3 s4 : S} (rows : (List (List Int))) : (sRtA [0, 1, 2, 3, 4] (sRet (eVar 1))) [s0, .val (.lst (mT rows)), s2, s3, s4] = some (.rt (.val (.lst (mT rows))) [.no, .no, .no, .no, .no]) := by
 simp? only [Tl.ob_some]
def t_grid (sides : (List (List Int))) : Option ((List (List Int))) := let rows := [([] : List Int)]; (foldT (tb_grid_1 ) sides rows).bind fun v4 => let rows := v4; some rows
theorem eq_grid : ∀ (sides : (List (List Int))), Fn_grid [.val (.lst (List.map (fun x => (D.tup (List.map D.int x))) sides))] = (t_grid sides).bind fun r => some (.ret (.val (.lst (List.map (fun x => (D.tup (List.map D.int x))) r))) [.val (.lst (List.map (fun x => (D.tup (List.map D.int x))) sides))]) := fun sides => by
 show mkFn _ _ _ _ = _
 rw [mkFn_eq]
 dsimp? only [f_grid, t_grid, Nat.reduceSub, Nat.reduceAdd, rtn_bind, rtn_ite, rtn_none, rtn_nx, rtn_rtv, rtn_rto, rtn_ex, rtn_k, post_n, post_v, post_o, l_cons, l_nil, r_succ, r_zero, a_cons, a_nil, st_grid_1, ll_grid_1, st_grid_3]
theorem tst_Box_DinitD_1 {s0 s2 s3 s4 : S} (sides : (Bool × List (Bool × List Int))) {γ : Type} {kx : Xn → List S → Option γ} {k : Bool → List S → Option γ} : cps (tCmp (eEq (eB gLen (aCons (eVar 1) aNil)) (eC (.int 0)))) [s0, .val (eBq (fun x => (eBq D.int x)) sides), s2, s3, s4] kx k = k (decide (((List.length sides.2 : Nat) : Int) = (0 : Int))) [s0, .val (eBq (fun x => (eBq D.int x)) sides), s2, s3, s4] := by
 simp? only [Tl.ob_some]
theorem st_Box_DinitD_1 {s0 s1 s3 s4 : S}  : (sSet 2 2 (eLst aNil)) [s0, s1, .no, s3, s4] = some (.nx [s0, s1, .own (.lst (List.map (fun x => (D.tup (mI x))) ([] : List (List Int)))), s3, s4]) := by
 simp? only [Tl.ob_some]
theorem tst_Box_DinitD_2 {s0 s1 s2 s3 : S} (standing : Int) {γ : Type} {kx : Xn → List S → Option γ} {k : Bool → List S → Option γ} : cps (tNot (tVal (eCall [false] Fn_is_number (aCons (eVar 4) aNil)))) [s0, s1, s2, s3, (vI standing)] kx k = (t_is_number standing).bind fun v1 => k (!v1) [s0, s1, s2, s3, (vI standing)] := by
 simp? only [eq_is_number]
def tb_Box_DinitD_1  (it : Int) (env : Unit) : Option Unit := let standing := it; (t_is_number standing).bind fun v1 => if (!v1) = true then none else some ()
theorem bl_Box_DinitD_1 {s0 s1 s2 s3 : S}  (it : Int) (env : Unit) : ((gN 4) (.int it) [s0, s1, s2, s3, .no]).bind (b_Box_DinitD_1 Fn_is_number) = ((tb_Box_DinitD_1 ) it env).bind fun o => some (.nx [s0, s1, s2, s3, .no]) := by
 dsimp? only [b_Box_DinitD_1, tb_Box_DinitD_1, gT_eq, gsN_eq, gsC_eq, l_cons, l_nil, tst_Box_DinitD_2]
theorem ll_Box_DinitD_1 {s0 s1 s2 : S} (side : (Bool × List Int)) : (l_Box_DinitD_1 Fn_is_number) [s0, s1, s2, .val (eBq D.int side), .no] = (foldT (tb_Box_DinitD_1 ) side.2 ()).bind fun o => some (.nx [s0, s1, s2, .val (eBq D.int side), .no]) := by
 have hh := fun  (xs : List Int) (env : Unit) => forL_fold (e := D.int) (st := fun (env : Unit) => [s0, s1, s2, .val (eBq D.int side), .no]) (tg := (gN 4)) (body := (b_Box_DinitD_1 Fn_is_number)) (tb := (tb_Box_DinitD_1 )) xs env (fun x _ env => bl_Box_DinitD_1  x env)
 have hh := fun   (xs : List Int) => hh  xs ()
 simp? only [l_Box_DinitD_1, sFor_eq] at hh ⊢
 simp? only [hh]
theorem st_Box_DinitD_2 {s0 s1 s4 : S} (kept : (List (List Int))) (side : (Bool × List Int)) : (sExpr (mAppend (eVar 2) (eCall [false] Fn_ascending (aCons (eVar 3) aNil)))) [s0, s1, .own (.lst (mT kept)), .val (eBq D.int side), s4] = (t_ascending side).bind fun v3 => (gz (List.length kept + 1)).bind fun _ => some (.nx [s0, s1, .own (.lst (List.map (fun x => (D.tup (mI x))) (kept ++ [v3]))), .val (eBq D.int side), s4]) := by
 simp? only [eq_ascending]
def tb_Box_DinitD_2  (it : (Bool × List Int)) (env : ((List (List Int)))) : Option ((List (List Int))) := let side := it; let kept := env; (foldT (tb_Box_DinitD_1 ) side.2 ()).bind fun v2 => (t_ascending side).bind fun v3 => (gz (List.length kept + 1)).bind fun _ => let kept := (kept ++ [v3]); some kept
theorem bl_Box_DinitD_2 {s0 s1 : S}  (it : (Bool × List Int)) (env : ((List (List Int)))) : ((gN 3) (eBq D.int it) [s0, s1, .own (.lst (mT env)), .no, .no]).bind (b_Box_DinitD_2 Fn_is_number Fn_ascending) = ((tb_Box_DinitD_2 ) it env).bind fun o => some (.nx [s0, s1, .own (.lst (mT o)), .no, .no]) := by
 dsimp? only [b_Box_DinitD_2, tb_Box_DinitD_2, gT_eq, gsN_eq, gsC_eq, l_cons, l_nil, ll_Box_DinitD_1, st_Box_DinitD_2]
theorem ll_Box_DinitD_2 {s0 : S} (sides : (Bool × List (Bool × List Int))) (kept : (List (List Int))) : (l_Box_DinitD_2 Fn_is_number Fn_ascending) [s0, .val (eBq (fun x => (eBq D.int x)) sides), .own (.lst (mT kept)), .no, .no] = (foldT (tb_Box_DinitD_2 ) sides.2 kept).bind fun o => some (.nx [s0, .val (eBq (fun x => (eBq D.int x)) sides), .own (.lst (mT o)), .no, .no]) := by
 have hh := fun  (xs : List (Bool × List Int)) (env : ((List (List Int)))) => forL_fold (e := (fun x => (eBq D.int x))) (st := fun (env : ((List (List Int)))) => [s0, .val (eBq (fun x => (eBq D.int x)) sides), .own (.lst (List.map (fun x => (D.tup (List.map D.int x))) env)), .no, .no]) (tg := (gN 3)) (body := (b_Box_DinitD_2 Fn_is_number Fn_ascending)) (tb := (tb_Box_DinitD_2 )) xs env (fun x _ env => bl_Box_DinitD_2  x env)
 have hh := fun  (kept : (List (List Int))) (xs : List (Bool × List Int)) => hh  xs kept
 simp? only [l_Box_DinitD_2, sFor_eq] at hh ⊢
 simp? only [hh]
theorem st_Box_DinitD_3 {s1 s3 s4 : S} (kept : (List (List Int))) : (sSetF ["Box"] "sides" (eVar 0) (eB gTuple (aCons (eVar 2) aNil))) [.own (.obj "Box" [] []), s1, .own (.lst (mT kept)), s3, s4] = some (.nx [.own (.obj "Box" ["sides"] [(.tup (mT kept))]), s1, .own (.lst (mT kept)), s3, s4]) := by
 simp? only [putF2_n, putF2_c]
theorem st_Box_DinitD_4 {s1 s3 s4 : S} (self_sides : (List (List Int))) (kept : (List (List Int))) : (sSetF ["Box"] "rows" (eVar 0) (eCall [false] Fn_grid (aCons (eVar 2) aNil))) [.own (.obj "Box" ["sides"] [(.tup (mT self_sides))]), s1, .own (.lst (mT kept)), s3, s4] = (t_grid kept).bind fun v5 => some (.nx [.own (.obj "Box" ["sides", "rows"] [(.tup (mT self_sides)), (.lst (mT v5))]), s1, .val (.lst (mT kept)), s3, s4]) := by
 simp? only [eq_grid, putF2_n, putF2_c]
def t_Box_DinitD (sides : (Bool × List (Bool × List Int))) : Option (T_Box) := if (decide (((List.length sides.2 : Nat) : Int) = (0 : Int))) = true then none else let kept := ([] : List (List Int)); (foldT (tb_Box_DinitD_2 ) sides.2 kept).bind fun v4 => let kept := v4; let self_sides := kept; (t_grid kept).bind fun v5 => let self_rows := v5; some (⟨self_sides, self_rows⟩ : T_Box)
theorem eq_Box_DinitD : ∀ (sides : (Bool × List (Bool × List Int))), Fn_Box_DinitD [.own (.obj "Box" [] []), .val (eBq (fun x => (eBq D.int x)) sides)] = (t_Box_DinitD sides).bind fun r => some (.ret (.val .non) [.own (e_Box r), .val (eBq (fun x => (eBq D.int x)) sides)]) := fun sides => by
 show mkFn _ _ _ _ = _
 rw [mkFn_eq]
 dsimp? only [f_Box_DinitD, t_Box_DinitD, Nat.reduceSub, Nat.reduceAdd, rtn_bind, rtn_ite, rtn_none, rtn_nx, rtn_rtv, rtn_rto, rtn_ex, rtn_k, post_n, post_v, post_o, l_cons, l_nil, r_succ, r_zero, a_cons, a_nil, tst_Box_DinitD_1, st_Box_DinitD_1, ll_Box_DinitD_2, st_Box_DinitD_3, st_Box_DinitD_4, e_Box]
theorem stZclean_1 {s0 s2 s3 : S}  : (sSet 1 1 (eLst aNil)) [s0, .no, s2, s3] = some (.nx [s0, .own (.lst (List.map D.int ([] : List Int))), s2, s3]) := by
 simp? only [Tl.ob_some]
theorem lcsZclean_1 {s1 s2 : S} (side : (List Int)) (v1 : Int) : lcS (gN 3) tYes' (eB gInt (aCons (eVar 3) aNil)) [3] (.int v1) [(vL side), s1, s2, .no] = some (some (D.int v1), [(vL side), s1, s2, .no]) := by
 simp? only [lcS]
theorem lcZclean_1 {s1 s2 : S} (side : (List Int)) {γ : Type} {kx : Xn → List S → Option γ} {k : Rv → List S → Option γ} : cps cZclean_1 [(vL side), s1, s2, .no] kx k = k (.own (.lst (mI side))) [(vL side), s1, s2, .no] := by
 have hh := fun {γ : Type} {kx : Xn → List S → Option γ} (side : (List Int)) (xs : List Int) (h' : List D → List S → Option γ) => cps_lcP (e := D.int) (e' := D.int) (ρ := [.val (.lst (List.map D.int side)), s1, s2, .no]) (kx := kx) (f := fun (v1 : Int) => v1) xs (lcsZclean_1 side) h'
 simp only [m_idf] at hh
 simp? only [cZclean_1, hh]
theorem tstZclean_1 {s0 s3 : S} (kept : (List Int)) (standing : Int) {γ : Type} {kx : Xn → List S → Option γ} {k : Bool → List S → Option γ} : cps tZclean_1 [s0, (oL kept), (vI standing), s3] kx k = ((if (decide (kept = ([] : List Int))) = true then some true else (atI kept (-(1 : Int))).bind fun v2 => some (!decide (v2 = standing)))).bind fun v3 => k (v3) [s0, (oL kept), (vI standing), s3] := by
 have ka : ∀ (a b : Bool) (ρ : List S), (if a = true then k b ρ else k false ρ) = k (a && b) ρ := fun a b ρ => by cases a <;> rfl
 have ko : ∀ (a b : Bool) (ρ : List S), (if a = true then k true ρ else k b ρ) = k (a || b) ρ := fun a b ρ => by cases a <;> rfl
 simp? only [tZclean_1]
theorem tstZclean_2 {s0 s3 : S} (kept : (List Int)) (standing : Int) {γ : Type} {kx : Xn → List S → Option γ} {k : Bool → List S → Option γ} : cps tZclean_1 [s0, (oL kept), (vI standing), s3] kx k = ((if (decide (kept = ([] : List Int))) = true then some true else (atI kept (-(1 : Int))).bind fun v2 => some (!decide (v2 = standing)))).bind fun v3 => k v3 [s0, (oL kept), (vI standing), s3] := by
 simp? only [tstZclean_1]
theorem stZclean_2 {s0 s3 : S} (kept : (List Int)) (standing : Int) : (sExpr (mAppend (eVar 1) (eVar 2))) [s0, (oL kept), (vI standing), s3] = (gz (List.length kept + 1)).bind fun _ => some (.nx [s0, .own (.lst (List.map D.int (kept ++ [standing]))), (vI standing), s3]) := by
 simp? only [Tl.ob_some]
theorem ilZclean_1 {s0 s3 : S} (kept : (List Int)) (standing : Int) : iZclean_1 [s0, (oL kept), (vI standing), s3] = (((if (decide (kept = ([] : List Int))) = true then some true else (atI kept (-(1 : Int))).bind fun v2 => some (!decide (v2 = standing)))).bind fun v3 => if v3 = true then (gz (List.length kept + 1)).bind fun _ => let kept := (kept ++ [standing]); some (kept) else some (kept)).bind fun v4 => some (.nx [s0, (oL v4), (vI standing), s3]) := by
 dsimp? only [iZclean_1, tstZclean_2, stZclean_2]
def tbZclean_1  (it : Int) (env : ((List Int))) : Option ((List Int)) := let standing := it; let kept := env; (((if (decide (kept = ([] : List Int))) = true then some true else (atI kept (-(1 : Int))).bind fun v2 => some (!decide (v2 = standing)))).bind fun v3 => if v3 = true then (gz (List.length kept + 1)).bind fun _ => let kept := (kept ++ [standing]); some (kept) else some (kept)).bind fun v4 => let kept := v4; some kept
theorem blZclean_1 {s0 s3 : S}  (it : Int) (env : ((List Int))) : ((gN 2) (.int it) [s0, (oL env), .no, s3]).bind bZclean_1 = ((tbZclean_1 ) it env).bind fun o => some (.nx [s0, (oL o), .no, s3]) := by
 dsimp? only [bZclean_1, tbZclean_1, gT_eq, gsN_eq, gsC_eq, l_cons, l_nil, ilZclean_1]
theorem llZclean_1 (side : (List Int)) (kept : (List Int)) : lZclean_1 [(vL side), (oL kept), .no, .no] = (foldT (tbZclean_1 ) (sortI side) kept).bind fun o => some (.nx [(vL side), (oL o), .no, .no]) := by
 have hh := fun  (xs : List Int) (env : ((List Int))) => forL_fold (e := D.int) (st := fun (env : ((List Int))) => [.val (.lst (List.map D.int side)), .own (.lst (List.map D.int env)), .no, .no]) (tg := (gN 2)) (body := bZclean_1) (tb := (tbZclean_1 )) xs env (fun x _ env => blZclean_1  x env)
 have hh := fun  (kept : (List Int)) (xs : List Int) => hh  xs kept
 simp? only [lZclean_1, sFor_eq, lcZclean_1] at hh ⊢
 simp? only [hh]
theorem stZclean_3 {s0 s2 s3 : S} (kept : (List Int)) : (sRtA [0, 1, 2, 3] (sRet (eVar 1))) [s0, (oL kept), s2, s3] = some (.rt (.own (.lst (mI kept))) [.no, .no, .no, .no]) := by
 simp? only [Tl.ob_some]
def tZclean (side : (List Int)) : Option ((List Int)) := let kept := ([] : List Int); (foldT (tbZclean_1 ) (sortI side) kept).bind fun v5 => let kept := v5; some kept
theorem eqZclean : ∀ (side : (List Int)), FnZclean [.val (.lst (List.map D.int side))] = (tZclean side).bind fun r => some (.ret (.own (.lst (List.map D.int r))) [.val (.lst (List.map D.int side))]) := fun side => by
 show mkFn _ _ _ _ = _
 rw [mkFn_eq]
 dsimp? only [fZclean, tZclean, Nat.reduceSub, Nat.reduceAdd, rtn_bind, rtn_ite, rtn_none, rtn_nx, rtn_rtv, rtn_rto, rtn_ex, rtn_k, post_n, post_v, post_o, l_cons, l_nil, r_succ, r_zero, a_cons, a_nil, stZclean_1, llZclean_1, stZclean_3]
theorem tstZis_integer_1 (actual : Int) {γ : Type} {kx : Xn → List S → Option γ} {k : Rv → List S → Option γ} : cps eZis_integer_1 [(vI actual)] kx k = k (.val (.bl ((true && (!false))))) [(vI actual)] := by
 have ka : ∀ (a b : Bool) (ρ : List S), (if a = true then k (.val (.bl b)) ρ else k (.val (.bl a)) ρ) = k (.val (.bl (a && b))) ρ := fun a b ρ => by cases a <;> rfl
 have ko : ∀ (a b : Bool) (ρ : List S), (if a = true then k (.val (.bl a)) ρ else k (.val (.bl b)) ρ) = k (.val (.bl (a || b))) ρ := fun a b ρ => by cases a <;> rfl
 simp? only [eZis_integer_1, ka, ko]
theorem stZis_integer_1 (actual : Int) : (sRtA [0] (sRet eZis_integer_1)) [(vI actual)] = some (.rt (.val (.bl (true && (!false)))) [.no]) := by
 simp? only [tstZis_integer_1]
def tZis_integer (actual : Int) : Option (Bool) := some (true && (!false))
theorem eqZis_integer : ∀ (actual : Int), FnZis_integer [.val (.int actual)] = (tZis_integer actual).bind fun r => some (.ret (.val (.bl r)) [.val (.int actual)]) := fun actual => by
 show mkFn _ _ _ _ = _
 rw [mkFn_eq]
 dsimp? only [fZis_integer, tZis_integer, Nat.reduceSub, Nat.reduceAdd, rtn_bind, rtn_ite, rtn_none, rtn_nx, rtn_rtv, rtn_rto, rtn_ex, rtn_k, post_n, post_v, post_o, l_cons, l_nil, r_succ, r_zero, a_cons, a_nil, stZis_integer_1]
theorem tstZis_numbers_1 {s2 : S} (actual : (List Int)) (expected : (Bool × List Int)) {γ : Type} {kx : Xn → List S → Option γ} {k : Bool → List S → Option γ} : cps tZis_numbers_1 [(vT actual), .val (eSq D.int expected), s2] kx k = k (((!true) || (!decide (((List.length actual : Nat) : Int) = ((List.length expected.2 : Nat) : Int))))) [(vT actual), .val (eSq D.int expected), s2] := by
 have ka : ∀ (a b : Bool) (ρ : List S), (if a = true then k b ρ else k false ρ) = k (a && b) ρ := fun a b ρ => by cases a <;> rfl
 have ko : ∀ (a b : Bool) (ρ : List S), (if a = true then k true ρ else k b ρ) = k (a || b) ρ := fun a b ρ => by cases a <;> rfl
 simp? only [tZis_numbers_1, ka, ko]
theorem tstZis_numbers_2 {s2 : S} (actual : (List Int)) (expected : (Bool × List Int)) {γ : Type} {kx : Xn → List S → Option γ} {k : Bool → List S → Option γ} : cps tZis_numbers_1 [(vT actual), .val (eSq D.int expected), s2] kx k = k ((!true) || (!decide (((List.length actual : Nat) : Int) = ((List.length expected.2 : Nat) : Int)))) [(vT actual), .val (eSq D.int expected), s2] := by
 simp? only [tstZis_numbers_1]
theorem stZis_numbers_1 {s0 s1 s2 : S}  : (sRtA [0, 1, 2] (sRet (eC (.bl false)))) [s0, s1, s2] = some (.rt (.val (.bl false)) [.no, .no, .no]) := by
 simp? only [Tl.ob_some]
theorem tstZis_numbers_3 (actual : (List Int)) (expected : (Bool × List Int)) (k_ : Int) {γ : Type} {kx : Xn → List S → Option γ} {k : Bool → List S → Option γ} : cps (tZis_numbers_2 FnZis_integer) [(vT actual), .val (eSq D.int expected), (vI k_)] kx k = (atI actual k_).bind fun v2 => (tZis_integer v2).bind fun v3 => ((if (!v3) = true then some true else (atI actual k_).bind fun v4 => (atI expected.2 k_).bind fun v5 => some (!decide (v4 = v5)))).bind fun v6 => k (v6) [(vT actual), .val (eSq D.int expected), (vI k_)] := by
 have ka : ∀ (a b : Bool) (ρ : List S), (if a = true then k b ρ else k false ρ) = k (a && b) ρ := fun a b ρ => by cases a <;> rfl
 have ko : ∀ (a b : Bool) (ρ : List S), (if a = true then k true ρ else k b ρ) = k (a || b) ρ := fun a b ρ => by cases a <;> rfl
 simp? only [tZis_numbers_2, eqZis_integer]
theorem tstZis_numbers_4 (actual : (List Int)) (expected : (Bool × List Int)) (k_ : Int) {γ : Type} {kx : Xn → List S → Option γ} {k : Bool → List S → Option γ} : cps (tZis_numbers_2 FnZis_integer) [(vT actual), .val (eSq D.int expected), (vI k_)] kx k = (atI actual k_).bind fun v2 => (tZis_integer v2).bind fun v3 => ((if (!v3) = true then some true else (atI actual k_).bind fun v4 => (atI expected.2 k_).bind fun v5 => some (!decide (v4 = v5)))).bind fun v6 => k v6 [(vT actual), .val (eSq D.int expected), (vI k_)] := by
 simp? only [tstZis_numbers_3]
theorem stZis_numbers_2 {s0 s1 s2 : S}  : (sRtA [0, 1, 2] (sRet (eC (.bl false)))) [s0, s1, s2] = some (.rt (.val (.bl false)) [.no, .no, .no]) := by
 simp? only [Tl.ob_some]
def tbZis_numbers_1 (actual : (List Int)) (expected : (Bool × List Int)) (it : Int) (env : Unit) : Option (Cf Unit (Bool)) := let k_ := it; (atI actual k_).bind fun v2 => (tZis_integer v2).bind fun v3 => ((if (!v3) = true then some true else (atI actual k_).bind fun v4 => (atI expected.2 k_).bind fun v5 => some (!decide (v4 = v5)))).bind fun v6 => if v6 = true then some (.rt false) else some (.nx ())
theorem blZis_numbers_1 (actual : (List Int)) (expected : (Bool × List Int)) (it : Int) (env : Unit) : ((gN 2) (.int it) [(vT actual), .val (eSq D.int expected), .no]).bind (bZis_numbers_1 FnZis_integer) = ((tbZis_numbers_1 actual expected) it env).bind fun o => some (cfO (fun env => [(vT actual), .val (eSq D.int expected), .no]) (fun r => (.val (.bl r))) (fun r => [.no, .no, .no]) o) := by
 dsimp? only [bZis_numbers_1, tbZis_numbers_1, gT_eq, gsN_eq, gsC_eq, l_cons, l_nil, tstZis_numbers_4, stZis_numbers_2]
theorem llZis_numbers_1 (actual : (List Int)) (expected : (Bool × List Int)) : (lZis_numbers_1 FnZis_integer) [(vT actual), .val (eSq D.int expected), .no] = (rngT ((List.length expected.2 : Nat) : Int)).bind fun v1 => (forT (tbZis_numbers_1 actual expected) v1 ()).bind fun o => some (lpO (fun env => [(vT actual), .val (eSq D.int expected), .no]) (fun r => (.val (.bl r))) (fun r => [.no, .no, .no]) o) := by
 have hh := fun (actual : (List Int)) (expected : (Bool × List Int)) (xs : List Int) (env : Unit) => forL_cf (e := D.int) (st := fun (env : Unit) => [.val (.tup (List.map D.int actual)), .val (eSq D.int expected), .no]) (rv := fun r => (.val (.bl r))) (rs := fun r => [.no, .no, .no]) (tg := (gN 2)) (body := (bZis_numbers_1 FnZis_integer)) (tb := (tbZis_numbers_1 actual expected)) xs env (fun x _ env => blZis_numbers_1 actual expected x env)
 have hh := fun (actual : (List Int)) (expected : (Bool × List Int))  (xs : List Int) => hh actual expected xs ()
 simp? only [lZis_numbers_1, sFor_eq] at hh ⊢
 simp? only [hh]
theorem stZis_numbers_3 {s0 s1 s2 : S}  : (sRtA [0, 1, 2] (sRet (eC (.bl true)))) [s0, s1, s2] = some (.rt (.val (.bl true)) [.no, .no, .no]) := by
 simp? only [Tl.ob_some]
def tZis_numbers (actual : (List Int)) (expected : (Bool × List Int)) : Option (Bool) := if ((!true) || (!decide (((List.length actual : Nat) : Int) = ((List.length expected.2 : Nat) : Int)))) = true then some false else (rngT ((List.length expected.2 : Nat) : Int)).bind fun v1 => (forT (tbZis_numbers_1 actual expected) v1 ()).bind fun v8 => v8.k (fun env => some true) (fun r => some r)
theorem eqZis_numbers : ∀ (actual : (List Int)) (expected : (Bool × List Int)), FnZis_numbers [.val (.tup (List.map D.int actual)), .val (eSq D.int expected)] = (tZis_numbers actual expected).bind fun r => some (.ret (.val (.bl r)) [.val (.tup (List.map D.int actual)), .val (eSq D.int expected)]) := fun actual expected => by
 show mkFn _ _ _ _ = _
 rw [mkFn_eq]
 dsimp? only [fZis_numbers, tZis_numbers, Nat.reduceSub, Nat.reduceAdd, rtn_bind, rtn_ite, rtn_none, rtn_nx, rtn_rtv, rtn_rto, rtn_ex, rtn_k, post_n, post_v, post_o, l_cons, l_nil, r_succ, r_zero, a_cons, a_nil, tstZis_numbers_2, stZis_numbers_1, llZis_numbers_1, stZis_numbers_3]
def t_is_integer_b : IB → Option Bool
 | .i _ => some true
 | .b _ => some false
theorem eq_is_integer_b : ∀ v : IB, Fn_is_integer [.val (e_ib v)] = (t_is_integer_b v).bind fun r => some (.ret (.val (.bl r)) [.val (e_ib v)]) := fun v => by
 cases v with
 | i n => exact eq_is_integer n
 | b x =>
  show mkFn _ _ _ _ = _
  rw [mkFn_eq]
  simp? only [f_is_integer, e_is_integer_1, t_is_integer_b, sSeq_eq, sq_none, sq_nx, sq_rt, sq_ct, sq_bk, sq_ex, sq_bind, sq_ite, sq_lpO, sq_k, sIf_eq, sNil_eq, sPass_eq, sBreak_eq, sCont_eq, sNever_eq, sFore_eq, sAft_eq, aq_bind, aq_ite, aq_none, aq_nx, aq_ct, aq_bk, aq_rt, aq_ex, aq_k, aq_lpO, nrm_n, nrm_k, nrm_f, frz1_o, frz1_v, frz1_n, g_zero, g_succ, s_zero, s_succ, ob_some, ob_none, ob_assoc, ob_ite, ob_k, om_eq, ite_T, ite_F, tt_true, ft_false, gN_eq, cfO_nx, cfO_ct, cfO_bk, cfO_rt, rq_none, post_on, sq_lpX, aq_lpX, cfX_nx, cfX_ct, cfX_bk, cfX_rt, Nat.reduceSub, Nat.reduceAdd, rtn_bind, rtn_ite, rtn_none, rtn_nx, rtn_rtv, rtn_rto, rtn_ex, rtn_k, post_n, post_v, post_o, l_cons, l_nil, r_succ, r_zero, a_cons, a_nil]
def t_is_number_b : IB → Option Bool
 | .i n => t_is_number n
 | .b _ => some false
theorem eq_is_number_b : ∀ v : IB, Fn_is_number [.val (e_ib v)] = (t_is_number_b v).bind fun r => some (.ret (.val (.bl r)) [.val (e_ib v)]) := fun v => by
 cases v with
 | i n => exact eq_is_number n
 | b x =>
  have q := eq_is_integer_b (.b x)
  simp only [e_ib_b, t_is_integer_b] at q
  show mkFn _ _ _ _ = _
  rw [mkFn_eq]
  simp? only [f_is_number, e_is_number_1, t_is_number_b, q, sSeq_eq, sq_none, sq_nx, sq_rt, sq_ct, sq_bk, sq_ex, sq_bind, sq_ite, sq_lpO, sq_k, sIf_eq, sNil_eq, sPass_eq, sBreak_eq, sCont_eq, sNever_eq, sFore_eq, sAft_eq, aq_bind, aq_ite, aq_none, aq_nx, aq_ct, aq_bk, aq_rt, aq_ex, aq_k, aq_lpO, nrm_n, nrm_k, nrm_f, frz1_o, frz1_v, frz1_n, g_zero, g_succ, s_zero, s_succ, ob_some, ob_none, ob_assoc, ob_ite, ob_k, om_eq, ite_T, ite_F, tt_true, ft_false, gN_eq, cfO_nx, cfO_ct, cfO_bk, cfO_rt, rq_none, post_on, sq_lpX, aq_lpX, cfX_nx, cfX_ct, cfX_bk, cfX_rt, Nat.reduceSub, Nat.reduceAdd, rtn_bind, rtn_ite, rtn_none, rtn_nx, rtn_rtv, rtn_rto, rtn_ex, rtn_k, post_n, post_v, post_o, l_cons, l_nil, r_succ, r_zero, a_cons, a_nil]
theorem tst_Box_DcontainsD_1 {s2 s3 : S} (self : T_Box) (combination : (List IB)) {γ : Type} {kx : Xn → List S → Option γ} {k : Bool → List S → Option γ} : cps (tCmp (eNe (eB gLen (aCons (eVar 1) aNil)) (eB gLen (aCons (eFld ["Box"] "sides" (eVar 0)) aNil)))) [.val (e_Box self), .val (.tup (List.map e_ib combination)), s2, s3] kx k = k (!decide (((List.length combination : Nat) : Int) = ((List.length self.sides : Nat) : Int))) [.val (e_Box self), .val (.tup (List.map e_ib combination)), s2, s3] := by
 simp? only [Tl.ob_some]
theorem st_Box_DcontainsD_1 {s0 s1 s2 s3 : S}  : (sRtA [0, 1, 2, 3] (sRet (eC (.bl false)))) [s0, s1, s2, s3] = some (.rt (.val (.bl false)) [.no, .no, .no, .no]) := by
 simp? only [Tl.ob_some]
theorem tst_Box_DcontainsD_2 {s0 s1 : S} (standing : IB) (side : (List Int)) {γ : Type} {kx : Xn → List S → Option γ} {k : Bool → List S → Option γ} : cps (t_Box_DcontainsD_1 Fn_is_number) [s0, s1, .val (e_ib standing), (vT side)] kx k = (t_is_number_b standing).bind fun v2 => k (((!v2) || (!decide (ibN standing ∈ side)))) [s0, s1, .val (e_ib standing), (vT side)] := by
 have ka : ∀ (a b : Bool) (ρ : List S), (if a = true then k b ρ else k false ρ) = k (a && b) ρ := fun a b ρ => by cases a <;> rfl
 have ko : ∀ (a b : Bool) (ρ : List S), (if a = true then k true ρ else k b ρ) = k (a || b) ρ := fun a b ρ => by cases a <;> rfl
 simp? only [t_Box_DcontainsD_1, eq_is_number_b, ka, ko]
theorem tst_Box_DcontainsD_3 {s0 s1 : S} (standing : IB) (side : (List Int)) {γ : Type} {kx : Xn → List S → Option γ} {k : Bool → List S → Option γ} : cps (t_Box_DcontainsD_1 Fn_is_number) [s0, s1, .val (e_ib standing), (vT side)] kx k = (t_is_number_b standing).bind fun v2 => k ((!v2) || (!decide (ibN standing ∈ side))) [s0, s1, .val (e_ib standing), (vT side)] := by
 simp? only [tst_Box_DcontainsD_2]
theorem st_Box_DcontainsD_2 {s0 s1 s2 s3 : S}  : (sRtA [0, 1, 2, 3] (sRet (eC (.bl false)))) [s0, s1, s2, s3] = some (.rt (.val (.bl false)) [.no, .no, .no, .no]) := by
 simp? only [Tl.ob_some]
def tb_Box_DcontainsD_1  (it : (IB × (List Int))) (env : Unit) : Option (Cf Unit (Bool)) := let standing := it.1; let side := it.2; (t_is_number_b standing).bind fun v2 => if ((!v2) || (!decide (ibN standing ∈ side))) = true then some (.rt false) else some (.nx ())
theorem bl_Box_DcontainsD_1 {s0 s1 : S}  (it : (IB × (List Int))) (env : Unit) : ((gT 2 (gsCons (gN 2) (gsCons (gN 3) gsNil))) (.tup [(e_ib it.1), (.tup (mI it.2))]) [s0, s1, .no, .no]).bind (b_Box_DcontainsD_1 Fn_is_number) = ((tb_Box_DcontainsD_1 ) it env).bind fun o => some (cfO (fun env => [s0, s1, .no, .no]) (fun r => (.val (.bl r))) (fun r => [.no, .no, .no, .no]) o) := by
 dsimp? only [b_Box_DcontainsD_1, tb_Box_DcontainsD_1, gT_eq, gsN_eq, gsC_eq, l_cons, l_nil, tst_Box_DcontainsD_3, st_Box_DcontainsD_2]
theorem ll_Box_DcontainsD_1 (self : T_Box) (combination : (List IB)) : (l_Box_DcontainsD_1 Fn_is_number) [.val (e_Box self), .val (.tup (List.map e_ib combination)), .no, .no] = (zipT combination self.sides).bind fun v1 => (forT (tb_Box_DcontainsD_1 ) v1 ()).bind fun o => some (lpO (fun env => [.val (e_Box self), .val (.tup (List.map e_ib combination)), .no, .no]) (fun r => (.val (.bl r))) (fun r => [.no, .no, .no, .no]) o) := by
 have hh := fun  (xs : List (IB × (List Int))) (env : Unit) => forL_cf (e := (fun (x : (IB × (List Int))) => (D.tup [(e_ib x.1), (.tup (List.map D.int x.2))]))) (st := fun (env : Unit) => [.val (e_Box self), .val (.tup (List.map e_ib combination)), .no, .no]) (rv := fun r => (.val (.bl r))) (rs := fun r => [.no, .no, .no, .no]) (tg := (gT 2 (gsCons (gN 2) (gsCons (gN 3) gsNil)))) (body := (b_Box_DcontainsD_1 Fn_is_number)) (tb := (tb_Box_DcontainsD_1 )) xs env (fun x _ env => bl_Box_DcontainsD_1  x env)
 have hh := fun   (xs : List (IB × (List Int))) => hh  xs ()
 simp? only [l_Box_DcontainsD_1, sFor_eq] at hh ⊢
 simp? only [hh]
theorem st_Box_DcontainsD_3 {s0 s1 s2 s3 : S}  : (sRtA [0, 1, 2, 3] (sRet (eC (.bl true)))) [s0, s1, s2, s3] = some (.rt (.val (.bl true)) [.no, .no, .no, .no]) := by
 simp? only [Tl.ob_some]
def t_Box_DcontainsD (self : T_Box) (combination : (List IB)) : Option (Bool) := if (!decide (((List.length combination : Nat) : Int) = ((List.length self.sides : Nat) : Int))) = true then some false else (zipT combination self.sides).bind fun v1 => (forT (tb_Box_DcontainsD_1 ) v1 ()).bind fun v4 => v4.k (fun env => some true) (fun r => some r)
theorem eq_Box_DcontainsD : ∀ (self : T_Box) (combination : (List IB)), Fn_Box_DcontainsD [.val (e_Box self), .val (.tup (List.map e_ib combination))] = (t_Box_DcontainsD self combination).bind fun r => some (.ret (.val (.bl r)) [.val (e_Box self), .val (.tup (List.map e_ib combination))]) := fun self combination => by
 show mkFn _ _ _ _ = _
 rw [mkFn_eq]
 dsimp? only [f_Box_DcontainsD, t_Box_DcontainsD, Nat.reduceSub, Nat.reduceAdd, rtn_bind, rtn_ite, rtn_none, rtn_nx, rtn_rtv, rtn_rto, rtn_ex, rtn_k, post_n, post_v, post_o, l_cons, l_nil, r_succ, r_zero, a_cons, a_nil, tst_Box_DcontainsD_1, st_Box_DcontainsD_1, ll_Box_DcontainsD_1, st_Box_DcontainsD_3]
theorem tstZis_sides_1 {s2 : S} (actual : (List (List Int))) (expected : (List (List Int))) {γ : Type} {kx : Xn → List S → Option γ} {k : Bool → List S → Option γ} : cps tZis_sides_1 [.val (.tup (mT actual)), (vM expected), s2] kx k = k (((!true) || (!decide (((List.length actual : Nat) : Int) = ((List.length expected : Nat) : Int))))) [.val (.tup (mT actual)), (vM expected), s2] := by
 have ka : ∀ (a b : Bool) (ρ : List S), (if a = true then k b ρ else k false ρ) = k (a && b) ρ := fun a b ρ => by cases a <;> rfl
 have ko : ∀ (a b : Bool) (ρ : List S), (if a = true then k true ρ else k b ρ) = k (a || b) ρ := fun a b ρ => by cases a <;> rfl
 simp? only [tZis_sides_1, ka, ko]
theorem tstZis_sides_2 {s2 : S} (actual : (List (List Int))) (expected : (List (List Int))) {γ : Type} {kx : Xn → List S → Option γ} {k : Bool → List S → Option γ} : cps tZis_sides_1 [.val (.tup (mT actual)), (vM expected), s2] kx k = k ((!true) || (!decide (((List.length actual : Nat) : Int) = ((List.length expected : Nat) : Int)))) [.val (.tup (mT actual)), (vM expected), s2] := by
 simp? only [tstZis_sides_1]
theorem stZis_sides_1 {s0 s1 s2 : S}  : (sRtA [0, 1, 2] (sRet (eC (.bl false)))) [s0, s1, s2] = some (.rt (.val (.bl false)) [.no, .no, .no]) := by
 simp? only [Tl.ob_some]
theorem tstZis_sides_3 (actual : (List (List Int))) (expected : (List (List Int))) (k_ : Int) {γ : Type} {kx : Xn → List S → Option γ} {k : Bool → List S → Option γ} : cps (tNot (tVal (eCall [false, false] FnZis_numbers (aCons (eIx (eVar 0) (eVar 2)) (aCons (eIx (eVar 1) (eVar 2)) aNil))))) [.val (.tup (mT actual)), (vM expected), (vI k_)] kx k = (atI actual k_).bind fun v2 => (atI expected k_).bind fun v3 => (tZis_numbers v2 (false, v3)).bind fun v4 => k (!v4) [.val (.tup (mT actual)), (vM expected), (vI k_)] := by
 have q0 := fun (v2 : (List Int)) (v3 : (List Int)) => eqZis_numbers v2 (false, v3)
 try simp? only [Tl.ob_some] at q0
 simp? only [q0]
theorem stZis_sides_2 {s0 s1 s2 : S}  : (sRtA [0, 1, 2] (sRet (eC (.bl false)))) [s0, s1, s2] = some (.rt (.val (.bl false)) [.no, .no, .no]) := by
 simp? only [Tl.ob_some]
def tbZis_sides_1 (actual : (List (List Int))) (expected : (List (List Int))) (it : Int) (env : Unit) : Option (Cf Unit (Bool)) := let k_ := it; (atI actual k_).bind fun v2 => (atI expected k_).bind fun v3 => (tZis_numbers v2 (false, v3)).bind fun v4 => if (!v4) = true then some (.rt false) else some (.nx ())
theorem blZis_sides_1 (actual : (List (List Int))) (expected : (List (List Int))) (it : Int) (env : Unit) : ((gN 2) (.int it) [.val (.tup (mT actual)), (vM expected), .no]).bind (bZis_sides_1 FnZis_numbers) = ((tbZis_sides_1 actual expected) it env).bind fun o => some (cfO (fun env => [.val (.tup (mT actual)), (vM expected), .no]) (fun r => (.val (.bl r))) (fun r => [.no, .no, .no]) o) := by
 dsimp? only [bZis_sides_1, tbZis_sides_1, gT_eq, gsN_eq, gsC_eq, l_cons, l_nil, tstZis_sides_3, stZis_sides_2]
theorem llZis_sides_1 (actual : (List (List Int))) (expected : (List (List Int))) : (lZis_sides_1 FnZis_numbers) [.val (.tup (mT actual)), (vM expected), .no] = (rngT ((List.length expected : Nat) : Int)).bind fun v1 => (forT (tbZis_sides_1 actual expected) v1 ()).bind fun o => some (lpO (fun env => [.val (.tup (mT actual)), (vM expected), .no]) (fun r => (.val (.bl r))) (fun r => [.no, .no, .no]) o) := by
 have hh := fun (actual : (List (List Int))) (expected : (List (List Int))) (xs : List Int) (env : Unit) => forL_cf (e := D.int) (st := fun (env : Unit) => [.val (.tup (List.map (fun x => (D.tup (List.map D.int x))) actual)), .val (.lst (List.map (fun x => (D.lst (List.map D.int x))) expected)), .no]) (rv := fun r => (.val (.bl r))) (rs := fun r => [.no, .no, .no]) (tg := (gN 2)) (body := (bZis_sides_1 FnZis_numbers)) (tb := (tbZis_sides_1 actual expected)) xs env (fun x _ env => blZis_sides_1 actual expected x env)
 have hh := fun (actual : (List (List Int))) (expected : (List (List Int)))  (xs : List Int) => hh actual expected xs ()
 simp? only [lZis_sides_1, sFor_eq] at hh ⊢
 simp? only [hh]
theorem stZis_sides_3 {s0 s1 s2 : S}  : (sRtA [0, 1, 2] (sRet (eC (.bl true)))) [s0, s1, s2] = some (.rt (.val (.bl true)) [.no, .no, .no]) := by
 simp? only [Tl.ob_some]
def tZis_sides (actual : (List (List Int))) (expected : (List (List Int))) : Option (Bool) := if ((!true) || (!decide (((List.length actual : Nat) : Int) = ((List.length expected : Nat) : Int)))) = true then some false else (rngT ((List.length expected : Nat) : Int)).bind fun v1 => (forT (tbZis_sides_1 actual expected) v1 ()).bind fun v6 => v6.k (fun env => some true) (fun r => some r)
theorem eqZis_sides : ∀ (actual : (List (List Int))) (expected : (List (List Int))), FnZis_sides [.val (.tup (List.map (fun x => (D.tup (List.map D.int x))) actual)), .val (.lst (List.map (fun x => (D.lst (List.map D.int x))) expected))] = (tZis_sides actual expected).bind fun r => some (.ret (.val (.bl r)) [.val (.tup (List.map (fun x => (D.tup (List.map D.int x))) actual)), .val (.lst (List.map (fun x => (D.lst (List.map D.int x))) expected))]) := fun actual expected => by
 show mkFn _ _ _ _ = _
 rw [mkFn_eq]
 dsimp? only [fZis_sides, tZis_sides, Nat.reduceSub, Nat.reduceAdd, rtn_bind, rtn_ite, rtn_none, rtn_nx, rtn_rtv, rtn_rto, rtn_ex, rtn_k, post_n, post_v, post_o, l_cons, l_nil, r_succ, r_zero, a_cons, a_nil, tstZis_sides_2, stZis_sides_1, llZis_sides_1, stZis_sides_3]
theorem st_Box_DgetitemD_1 (self : T_Box) (at_ : Int) : (sRtA [0, 1] (sRet (eIx (eFld ["Box"] "sides" (eVar 0)) (eVar 1)))) [.val (e_Box self), (vI at_)] = (atI self.sides at_).bind fun v1 => some (.rt (.val (.tup (mI v1))) [.no, .no]) := by
 simp? only [Tl.ob_some]
def t_Box_DgetitemD (self : T_Box) (at_ : Int) : Option ((List Int)) := (atI self.sides at_).bind fun v1 => some v1
theorem eq_Box_DgetitemD : ∀ (self : T_Box) (at_ : Int), Fn_Box_DgetitemD [.val (e_Box self), .val (.int at_)] = (t_Box_DgetitemD self at_).bind fun r => some (.ret (.val (.tup (List.map D.int r))) [.val (e_Box self), .val (.int at_)]) := fun self at_ => by
 show mkFn _ _ _ _ = _
 rw [mkFn_eq]
 dsimp? only [f_Box_DgetitemD, t_Box_DgetitemD, Nat.reduceSub, Nat.reduceAdd, rtn_bind, rtn_ite, rtn_none, rtn_nx, rtn_rtv, rtn_rto, rtn_ex, rtn_k, post_n, post_v, post_o, l_cons, l_nil, r_succ, r_zero, a_cons, a_nil, st_Box_DgetitemD_1]
section
variable {FZcombos : Fn} {tZcombos : (List (List Int)) → Option ((List (List Int)))} (ih : ∀ (sides : (List (List Int))), FZcombos [.val (.lst (List.map (fun x => (D.lst (List.map D.int x))) sides))] = (tZcombos sides).bind fun r => some (.ret (.own (.lst (List.map (fun x => (D.tup (List.map D.int x))) r))) [.val (.lst (List.map (fun x => (D.lst (List.map D.int x))) sides))]))
include ih
theorem tstZcombos_1 {s1 s2 s3 s4 : S} (sides : (List (List Int))) {γ : Type} {kx : Xn → List S → Option γ} {k : Bool → List S → Option γ} : cps (tCmp (eEq (eB gLen (aCons (eVar 0) aNil)) (eC (.int 0)))) [(vM sides), s1, s2, s3, s4] kx k = k (decide (((List.length sides : Nat) : Int) = (0 : Int))) [(vM sides), s1, s2, s3, s4] := by
 simp? only [Tl.ob_some]
theorem stZcombos_1 {s0 s1 s2 s3 s4 : S}  : (sRtA [0, 1, 2, 3, 4] (sRet (eLst (aCons (eTup aNil) aNil)))) [s0, s1, s2, s3, s4] = some (.rt (.own (.lst (List.map (fun x => (D.tup (mI x))) [([] : List Int)]))) [.no, .no, .no, .no, .no]) := by
 simp? only [Tl.ob_some]
theorem stZcombos_2 {s2 s3 s4 : S} (sides : (List (List Int))) : (sFz 1 (sSet 1 1 (eCall [false] FZcombos (aCons (eSl (eVar 0) (oSome (eC (.int 1))) oNo) aNil)))) [(vM sides), .no, s2, s3, s4] = (tZcombos (cutD sides (some (1 : Int)) none)).bind fun v1 => some (.nx [(vM sides), .val (.lst (mT v1)), s2, s3, s4]) := by
 have q0 := ih (cutD sides (some (1 : Int)) none)
 try simp? only [Tl.ob_some] at q0
 simp? only [q0]
theorem stZcombos_3 {s0 s1 s3 s4 : S}  : (sSet 1 2 (eLst aNil)) [s0, s1, .no, s3, s4] = some (.nx [s0, s1, .own (.lst (List.map (fun x => (D.tup (mI x))) ([] : List (List Int)))), s3, s4]) := by
 simp? only [Tl.ob_some]
theorem stZcombos_4 {s0 s1 : S} (rows : (List (List Int))) (standing : Int) (row : (List Int)) : (sExpr (mAppend (eVar 2) (eAdd (eTup (aCons (eVar 3) aNil)) (eVar 4)))) [s0, s1, .own (.lst (mT rows)), (vI standing), (vT row)] = (gz (List.length [standing] + List.length row)).bind fun _ => (gz (List.length rows + 1)).bind fun _ => some (.nx [s0, s1, .own (.lst (List.map (fun x => (D.tup (mI x))) (rows ++ [([standing] ++ row)]))), (vI standing), (vT row)]) := by
 simp? only [Tl.ob_some]
end
def tbZcombos_1 (tZcombos : (List (List Int)) → Option ((List (List Int)))) (standing : Int) (it : (List Int)) (env : ((List (List Int)))) : Option ((List (List Int))) := let row := it; let rows := env; (gz (List.length [standing] + List.length row)).bind fun _ => (gz (List.length rows + 1)).bind fun _ => let rows := (rows ++ [([standing] ++ row)]); some rows
section
variable {FZcombos : Fn} {tZcombos : (List (List Int)) → Option ((List (List Int)))} (ih : ∀ (sides : (List (List Int))), FZcombos [.val (.lst (List.map (fun x => (D.lst (List.map D.int x))) sides))] = (tZcombos sides).bind fun r => some (.ret (.own (.lst (List.map (fun x => (D.tup (List.map D.int x))) r))) [.val (.lst (List.map (fun x => (D.lst (List.map D.int x))) sides))]))
include ih
theorem blZcombos_1 {s0 s1 : S} (standing : Int) (it : (List Int)) (env : ((List (List Int)))) : ((gN 4) (.tup (mI it)) [s0, s1, .own (.lst (mT env)), (vI standing), .no]).bind bZcombos_1 = ((tbZcombos_1 tZcombos standing) it env).bind fun o => some (.nx [s0, s1, .own (.lst (mT o)), (vI standing), .no]) := by
 dsimp? only [bZcombos_1, tbZcombos_1, gT_eq, gsN_eq, gsC_eq, l_cons, l_nil, (stZcombos_4 ih)]
theorem llZcombos_1 {s0 : S} (behind : (List (List Int))) (rows : (List (List Int))) (standing : Int) : lZcombos_1 [s0, .val (.lst (mT behind)), .own (.lst (mT rows)), (vI standing), .no] = (foldT (tbZcombos_1 tZcombos standing) behind rows).bind fun o => some (.nx [s0, .val (.lst (mT behind)), .own (.lst (mT o)), (vI standing), .no]) := by
 have hh := fun (standing : Int) (xs : List (List Int)) (env : ((List (List Int)))) => forL_fold (e := (fun x => (D.tup (List.map D.int x)))) (st := fun (env : ((List (List Int)))) => [s0, .val (.lst (List.map (fun x => (D.tup (List.map D.int x))) behind)), .own (.lst (List.map (fun x => (D.tup (List.map D.int x))) env)), .val (.int standing), .no]) (tg := (gN 4)) (body := bZcombos_1) (tb := (tbZcombos_1 tZcombos standing)) xs env (fun x _ env => (blZcombos_1 ih) standing x env)
 have hh := fun (standing : Int) (rows : (List (List Int))) (xs : List (List Int)) => hh standing xs rows
 simp? only [lZcombos_1, sFor_eq] at hh ⊢
 simp? only [hh]
end
def tbZcombos_2 (tZcombos : (List (List Int)) → Option ((List (List Int)))) (behind : (List (List Int))) (it : Int) (env : ((List (List Int)))) : Option ((List (List Int))) := let standing := it; let rows := env; (foldT (tbZcombos_1 tZcombos standing) behind rows).bind fun v3 => let rows := v3; some rows
section
variable {FZcombos : Fn} {tZcombos : (List (List Int)) → Option ((List (List Int)))} (ih : ∀ (sides : (List (List Int))), FZcombos [.val (.lst (List.map (fun x => (D.lst (List.map D.int x))) sides))] = (tZcombos sides).bind fun r => some (.ret (.own (.lst (List.map (fun x => (D.tup (List.map D.int x))) r))) [.val (.lst (List.map (fun x => (D.lst (List.map D.int x))) sides))]))
include ih
theorem blZcombos_2 {s0 : S} (behind : (List (List Int))) (it : Int) (env : ((List (List Int)))) : ((gN 3) (.int it) [s0, .val (.lst (mT behind)), .own (.lst (mT env)), .no, .no]).bind bZcombos_2 = ((tbZcombos_2 tZcombos behind) it env).bind fun o => some (.nx [s0, .val (.lst (mT behind)), .own (.lst (mT o)), .no, .no]) := by
 dsimp? only [bZcombos_2, tbZcombos_2, gT_eq, gsN_eq, gsC_eq, l_cons, l_nil, (llZcombos_1 ih)]
theorem llZcombos_2 (sides : (List (List Int))) (behind : (List (List Int))) (rows : (List (List Int))) : lZcombos_2 [(vM sides), .val (.lst (mT behind)), .own (.lst (mT rows)), .no, .no] = (atI sides (0 : Int)).bind fun v2 => (foldT (tbZcombos_2 tZcombos behind) v2 rows).bind fun o => some (.nx [(vM sides), .val (.lst (mT behind)), .own (.lst (mT o)), .no, .no]) := by
 have hh := fun (behind : (List (List Int))) (xs : List Int) (env : ((List (List Int)))) => forL_fold (e := D.int) (st := fun (env : ((List (List Int)))) => [.val (.lst (List.map (fun x => (D.lst (List.map D.int x))) sides)), .val (.lst (List.map (fun x => (D.tup (List.map D.int x))) behind)), .own (.lst (List.map (fun x => (D.tup (List.map D.int x))) env)), .no, .no]) (tg := (gN 3)) (body := bZcombos_2) (tb := (tbZcombos_2 tZcombos behind)) xs env (fun x _ env => (blZcombos_2 ih) behind x env)
 have hh := fun (behind : (List (List Int))) (rows : (List (List Int))) (xs : List Int) => hh behind xs rows
 simp? only [lZcombos_2, sFor_eq] at hh ⊢
 simp? only [hh]
theorem stZcombos_5 {s0 s1 s3 s4 : S} (rows : (List (List Int))) : (sRtA [0, 1, 2, 3, 4] (sRet (eVar 2))) [s0, s1, .own (.lst (mT rows)), s3, s4] = some (.rt (.own (.lst (mT rows))) [.no, .no, .no, .no, .no]) := by
 simp? only [Tl.ob_some]
end
def tsZcombos (tZcombos : (List (List Int)) → Option ((List (List Int)))) (sides : (List (List Int))) : Option ((List (List Int))) := if (decide (((List.length sides : Nat) : Int) = (0 : Int))) = true then some [([] : List Int)] else (tZcombos (cutD sides (some (1 : Int)) none)).bind fun v1 => let behind := v1; let rows := ([] : List (List Int)); (atI sides (0 : Int)).bind fun v2 => (foldT (tbZcombos_2 tZcombos behind) v2 rows).bind fun v4 => let rows := v4; some rows
def tZcombos : Nat → (List (List Int)) → Option ((List (List Int)))
 | 0 => fun _ => none
 | n + 1 => tsZcombos (tZcombos n)
theorem eqZcombos : ∀ n, ∀ (sides : (List (List Int))), FnZcombos n [.val (.lst (List.map (fun x => (D.lst (List.map D.int x))) sides))] = (tZcombos n sides).bind fun r => some (.ret (.own (.lst (List.map (fun x => (D.tup (List.map D.int x))) r))) [.val (.lst (List.map (fun x => (D.lst (List.map D.int x))) sides))])
 | 0 => fun _ => rfl
 | n + 1 => fun sides => by
  have ih := eqZcombos n
  show mkFn _ _ _ _ = (tsZcombos (tZcombos n) sides).bind _
  rw [mkFn_eq]
  dsimp? only [fZcombos, tsZcombos, Nat.reduceSub, Nat.reduceAdd, rtn_bind, rtn_ite, rtn_none, rtn_nx, rtn_rtv, rtn_rto, rtn_ex, rtn_k, post_n, post_v, post_o, l_cons, l_nil, r_succ, r_zero, a_cons, a_nil, (tstZcombos_1 ih), (stZcombos_1 ih), (stZcombos_2 ih), (stZcombos_3 ih), (llZcombos_2 ih), (stZcombos_5 ih)]
theorem tstZis_rows_1 {s2 : S} (actual : (List (List Int))) (expected : (List (List Int))) {γ : Type} {kx : Xn → List S → Option γ} {k : Bool → List S → Option γ} : cps tZis_rows_1 [.val (.lst (mT actual)), .val (.lst (mT expected)), s2] kx k = k (((!true) || (!decide (((List.length actual : Nat) : Int) = ((List.length expected : Nat) : Int))))) [.val (.lst (mT actual)), .val (.lst (mT expected)), s2] := by
 have ka : ∀ (a b : Bool) (ρ : List S), (if a = true then k b ρ else k false ρ) = k (a && b) ρ := fun a b ρ => by cases a <;> rfl
 have ko : ∀ (a b : Bool) (ρ : List S), (if a = true then k true ρ else k b ρ) = k (a || b) ρ := fun a b ρ => by cases a <;> rfl
 simp? only [tZis_rows_1, ka, ko]
theorem tstZis_rows_2 {s2 : S} (actual : (List (List Int))) (expected : (List (List Int))) {γ : Type} {kx : Xn → List S → Option γ} {k : Bool → List S → Option γ} : cps tZis_rows_1 [.val (.lst (mT actual)), .val (.lst (mT expected)), s2] kx k = k ((!true) || (!decide (((List.length actual : Nat) : Int) = ((List.length expected : Nat) : Int)))) [.val (.lst (mT actual)), .val (.lst (mT expected)), s2] := by
 simp? only [tstZis_rows_1]
theorem stZis_rows_1 {s0 s1 s2 : S}  : (sRtA [0, 1, 2] (sRet (eC (.bl false)))) [s0, s1, s2] = some (.rt (.val (.bl false)) [.no, .no, .no]) := by
 simp? only [Tl.ob_some]
theorem tstZis_rows_3 (actual : (List (List Int))) (expected : (List (List Int))) (k_ : Int) {γ : Type} {kx : Xn → List S → Option γ} {k : Bool → List S → Option γ} : cps (tNot (tVal (eCall [false, false] FnZis_numbers (aCons (eIx (eVar 0) (eVar 2)) (aCons (eIx (eVar 1) (eVar 2)) aNil))))) [.val (.lst (mT actual)), .val (.lst (mT expected)), (vI k_)] kx k = (atI actual k_).bind fun v2 => (atI expected k_).bind fun v3 => (tZis_numbers v2 (true, v3)).bind fun v4 => k (!v4) [.val (.lst (mT actual)), .val (.lst (mT expected)), (vI k_)] := by
 have q0 := fun (v2 : (List Int)) (v3 : (List Int)) => eqZis_numbers v2 (true, v3)
 try simp? only [Tl.ob_some] at q0
 simp? only [q0]
theorem stZis_rows_2 {s0 s1 s2 : S}  : (sRtA [0, 1, 2] (sRet (eC (.bl false)))) [s0, s1, s2] = some (.rt (.val (.bl false)) [.no, .no, .no]) := by
 simp? only [Tl.ob_some]
def tbZis_rows_1 (actual : (List (List Int))) (expected : (List (List Int))) (it : Int) (env : Unit) : Option (Cf Unit (Bool)) := let k_ := it; (atI actual k_).bind fun v2 => (atI expected k_).bind fun v3 => (tZis_numbers v2 (true, v3)).bind fun v4 => if (!v4) = true then some (.rt false) else some (.nx ())
theorem blZis_rows_1 (actual : (List (List Int))) (expected : (List (List Int))) (it : Int) (env : Unit) : ((gN 2) (.int it) [.val (.lst (mT actual)), .val (.lst (mT expected)), .no]).bind (bZis_rows_1 FnZis_numbers) = ((tbZis_rows_1 actual expected) it env).bind fun o => some (cfO (fun env => [.val (.lst (mT actual)), .val (.lst (mT expected)), .no]) (fun r => (.val (.bl r))) (fun r => [.no, .no, .no]) o) := by
 dsimp? only [bZis_rows_1, tbZis_rows_1, gT_eq, gsN_eq, gsC_eq, l_cons, l_nil, tstZis_rows_3, stZis_rows_2]
theorem llZis_rows_1 (actual : (List (List Int))) (expected : (List (List Int))) : (lZis_rows_1 FnZis_numbers) [.val (.lst (mT actual)), .val (.lst (mT expected)), .no] = (rngT ((List.length expected : Nat) : Int)).bind fun v1 => (forT (tbZis_rows_1 actual expected) v1 ()).bind fun o => some (lpO (fun env => [.val (.lst (mT actual)), .val (.lst (mT expected)), .no]) (fun r => (.val (.bl r))) (fun r => [.no, .no, .no]) o) := by
 have hh := fun (actual : (List (List Int))) (expected : (List (List Int))) (xs : List Int) (env : Unit) => forL_cf (e := D.int) (st := fun (env : Unit) => [.val (.lst (List.map (fun x => (D.tup (List.map D.int x))) actual)), .val (.lst (List.map (fun x => (D.tup (List.map D.int x))) expected)), .no]) (rv := fun r => (.val (.bl r))) (rs := fun r => [.no, .no, .no]) (tg := (gN 2)) (body := (bZis_rows_1 FnZis_numbers)) (tb := (tbZis_rows_1 actual expected)) xs env (fun x _ env => blZis_rows_1 actual expected x env)
 have hh := fun (actual : (List (List Int))) (expected : (List (List Int)))  (xs : List Int) => hh actual expected xs ()
 simp? only [lZis_rows_1, sFor_eq] at hh ⊢
 simp? only [hh]
theorem stZis_rows_3 {s0 s1 s2 : S}  : (sRtA [0, 1, 2] (sRet (eC (.bl true)))) [s0, s1, s2] = some (.rt (.val (.bl true)) [.no, .no, .no]) := by
 simp? only [Tl.ob_some]
def tZis_rows (actual : (List (List Int))) (expected : (List (List Int))) : Option (Bool) := if ((!true) || (!decide (((List.length actual : Nat) : Int) = ((List.length expected : Nat) : Int)))) = true then some false else (rngT ((List.length expected : Nat) : Int)).bind fun v1 => (forT (tbZis_rows_1 actual expected) v1 ()).bind fun v6 => v6.k (fun env => some true) (fun r => some r)
theorem eqZis_rows : ∀ (actual : (List (List Int))) (expected : (List (List Int))), FnZis_rows [.val (.lst (List.map (fun x => (D.tup (List.map D.int x))) actual)), .val (.lst (List.map (fun x => (D.tup (List.map D.int x))) expected))] = (tZis_rows actual expected).bind fun r => some (.ret (.val (.bl r)) [.val (.lst (List.map (fun x => (D.tup (List.map D.int x))) actual)), .val (.lst (List.map (fun x => (D.tup (List.map D.int x))) expected))]) := fun actual expected => by
 show mkFn _ _ _ _ = _
 rw [mkFn_eq]
 dsimp? only [fZis_rows, tZis_rows, Nat.reduceSub, Nat.reduceAdd, rtn_bind, rtn_ite, rtn_none, rtn_nx, rtn_rtv, rtn_rto, rtn_ex, rtn_k, post_n, post_v, post_o, l_cons, l_nil, r_succ, r_zero, a_cons, a_nil, tstZis_rows_2, stZis_rows_1, llZis_rows_1, stZis_rows_3]
theorem tstZis_box_1 {s2 s3 s4 s5 s6 s7 s8 s9 s10 : S} (box : T_Box) (clean : (List (List Int))) {γ : Type} {kx : Xn → List S → Option γ} {k : Bool → List S → Option γ} : cps (tNot (tVal (eCall [false, false] FnZis_sides (aCons (eFld ["Box"] "sides" (eVar 0)) (aCons (eVar 1) aNil))))) [.val (e_Box box), (vM clean), s2, s3, s4, s5, s6, s7, s8, s9, s10] kx k = (tZis_sides box.sides clean).bind fun v1 => k (!v1) [.val (e_Box box), (vM clean), s2, s3, s4, s5, s6, s7, s8, s9, s10] := by
 simp? only [eqZis_sides]
theorem stZis_box_1 {s0 s1 s3 s4 s5 s6 s7 s8 s9 s10 : S} (source : (List Int)) : (sRtA [0, 1, 3, 4, 5, 6, 7, 8, 9, 10] (sRet (eC (.bl false)))) [s0, s1, (oL source), s3, s4, s5, s6, s7, s8, s9, s10] = some (.rt (.val (.bl false)) [.no, .no, (oL source), .no, .no, .no, .no, .no, .no, .no, .no]) := by
 simp? only [Tl.ob_some]
theorem tstZis_box_2 {s2 s4 s5 s6 s7 s8 s9 s10 : S} (box : T_Box) (clean : (List (List Int))) (party : Int) {γ : Type} {kx : Xn → List S → Option γ} {k : Bool → List S → Option γ} : cps (tNot (tVal (eCall [false, false] FnZis_numbers (aCons (eOwnIx "Box" [false, false] Fn_Box_DgetitemD (eVar 0) (eVar 3)) (aCons (eIx (eVar 1) (eVar 3)) aNil))))) [.val (e_Box box), (vM clean), s2, (vI party), s4, s5, s6, s7, s8, s9, s10] kx k = (t_Box_DgetitemD box party).bind fun v3 => (atI clean party).bind fun v4 => (tZis_numbers v3 (false, v4)).bind fun v5 => k (!v5) [.val (e_Box box), (vM clean), s2, (vI party), s4, s5, s6, s7, s8, s9, s10] := by
 have q0 := fun (v3 : ((List Int))) (v4 : (List Int)) => eqZis_numbers v3 (false, v4)
 try simp? only [Tl.ob_some] at q0
 simp? only [eq_Box_DgetitemD, q0]
theorem stZis_box_2 {s0 s1 s3 s4 s5 s6 s7 s8 s9 s10 : S} (source : (List Int)) : (sRtA [0, 1, 3, 4, 5, 6, 7, 8, 9, 10] (sRet (eC (.bl false)))) [s0, s1, (oL source), s3, s4, s5, s6, s7, s8, s9, s10] = some (.rt (.val (.bl false)) [.no, .no, (oL source), .no, .no, .no, .no, .no, .no, .no, .no]) := by
 simp? only [Tl.ob_some]
def tbZis_box_1 (box : T_Box) (clean : (List (List Int))) (source : (List Int)) (it : Int) (env : Unit) : Option (Cf Unit (Bool × (List Int))) := let party := it; (t_Box_DgetitemD box party).bind fun v3 => (atI clean party).bind fun v4 => (tZis_numbers v3 (false, v4)).bind fun v5 => if (!v5) = true then some (.rt (false, source)) else some (.nx ())
theorem blZis_box_1 {s4 s5 s6 s7 s8 s9 s10 : S} (box : T_Box) (clean : (List (List Int))) (source : (List Int)) (it : Int) (env : Unit) : ((gN 3) (.int it) [.val (e_Box box), (vM clean), (oL source), .no, s4, s5, s6, s7, s8, s9, s10]).bind (bZis_box_1 FnZis_numbers Fn_Box_DgetitemD) = ((tbZis_box_1 box clean source) it env).bind fun o => some (cfO (fun env => [.val (e_Box box), (vM clean), (oL source), .no, s4, s5, s6, s7, s8, s9, s10]) (fun r => (.val (.bl r.1))) (fun r => [.no, .no, (oL r.2), .no, .no, .no, .no, .no, .no, .no, .no]) o) := by
 dsimp? only [bZis_box_1, tbZis_box_1, gT_eq, gsN_eq, gsC_eq, l_cons, l_nil, tstZis_box_2, stZis_box_2]
theorem llZis_box_1 {s4 s5 s6 s7 s8 s9 s10 : S} (box : T_Box) (clean : (List (List Int))) (source : (List Int)) : (lZis_box_1 FnZis_numbers Fn_Box_DgetitemD) [.val (e_Box box), (vM clean), (oL source), .no, s4, s5, s6, s7, s8, s9, s10] = (rngT ((List.length clean : Nat) : Int)).bind fun v2 => (forT (tbZis_box_1 box clean source) v2 ()).bind fun o => some (lpO (fun env => [.val (e_Box box), (vM clean), (oL source), .no, s4, s5, s6, s7, s8, s9, s10]) (fun r => (.val (.bl r.1))) (fun r => [.no, .no, (oL r.2), .no, .no, .no, .no, .no, .no, .no, .no]) o) := by
 have hh := fun (box : T_Box) (clean : (List (List Int))) (source : (List Int)) (xs : List Int) (env : Unit) => forL_cf (e := D.int) (st := fun (env : Unit) => [.val (e_Box box), .val (.lst (List.map (fun x => (D.lst (List.map D.int x))) clean)), .own (.lst (List.map D.int source)), .no, s4, s5, s6, s7, s8, s9, s10]) (rv := fun r => (.val (.bl r.1))) (rs := fun r => [.no, .no, .own (.lst (List.map D.int r.2)), .no, .no, .no, .no, .no, .no, .no, .no]) (tg := (gN 3)) (body := (bZis_box_1 FnZis_numbers Fn_Box_DgetitemD)) (tb := (tbZis_box_1 box clean source)) xs env (fun x _ env => blZis_box_1 box clean source x env)
 have hh := fun (box : T_Box) (clean : (List (List Int))) (source : (List Int))  (xs : List Int) => hh box clean source xs ()
 simp? only [lZis_box_1, sFor_eq] at hh ⊢
 simp? only [hh]
theorem stZis_box_3 {s0 s2 s3 s5 s6 s7 s8 s9 s10 : S} (clean : (List (List Int))) : (sFz 4 (sSet 3 4 (eCall [false] (FnZcombos 9) (aCons (eVar 1) aNil)))) [s0, (vM clean), s2, s3, .no, s5, s6, s7, s8, s9, s10] = ((tZcombos 9) clean).bind fun v8 => some (.nx [s0, (vM clean), s2, s3, .val (.lst (mT v8)), s5, s6, s7, s8, s9, s10]) := by
 simp? only [(eqZcombos 9)]
theorem lcsZis_box_1 {s1 s2 s3 s4 s5 s6 s7 s8 s9 : S} (box : T_Box) (v9 : (List Int)) : lcS (gN 10) tYes' (eVar 10) [10] (.tup (mI v9)) [.val (e_Box box), s1, s2, s3, s4, s5, s6, s7, s8, s9, .no] = some (some (D.tup (mI v9)), [.val (e_Box box), s1, s2, s3, s4, s5, s6, s7, s8, s9, .no]) := by
 simp? only [lcS]
theorem lcZis_box_1 {s1 s2 s3 s4 s5 s6 s7 s8 s9 : S} (box : T_Box) {γ : Type} {kx : Xn → List S → Option γ} {k : Rv → List S → Option γ} : cps cZis_box_1 [.val (e_Box box), s1, s2, s3, s4, s5, s6, s7, s8, s9, .no] kx k = k (.own (.lst (mT box.rows))) [.val (e_Box box), s1, s2, s3, s4, s5, s6, s7, s8, s9, .no] := by
 have hh := fun {γ : Type} {kx : Xn → List S → Option γ} (box : T_Box) (xs : List (List Int)) (h' : List D → List S → Option γ) => cps_lcP (e := (fun x => (D.tup (List.map D.int x)))) (e' := (fun x => (D.tup (List.map D.int x)))) (ρ := [.val (e_Box box), s1, s2, s3, s4, s5, s6, s7, s8, s9, .no]) (kx := kx) (f := fun (v9 : (List Int)) => v9) xs (lcsZis_box_1 box) h'
 simp only [m_idf] at hh
 simp? only [cZis_box_1, hh, itF_Box]
theorem tstZis_box_3 {s1 s2 s3 s5 s6 s7 s8 s9 : S} (box : T_Box) (expected : (List (List Int))) {γ : Type} {kx : Xn → List S → Option γ} {k : Bool → List S → Option γ} : cps (tZis_box_1 FnZis_rows) [.val (e_Box box), s1, s2, s3, .val (.lst (mT expected)), s5, s6, s7, s8, s9, .no] kx k = (tZis_rows box.rows expected).bind fun v10 => ((if (!v10) = true then some true else (tZis_rows box.rows expected).bind fun v11 => some (!v11))).bind fun v12 => k (v12) [.val (e_Box box), s1, s2, s3, .val (.lst (mT expected)), s5, s6, s7, s8, s9, .no] := by
 have ka : ∀ (a b : Bool) (ρ : List S), (if a = true then k b ρ else k false ρ) = k (a && b) ρ := fun a b ρ => by cases a <;> rfl
 have ko : ∀ (a b : Bool) (ρ : List S), (if a = true then k true ρ else k b ρ) = k (a || b) ρ := fun a b ρ => by cases a <;> rfl
 simp? only [tZis_box_1, lcZis_box_1, eqZis_rows, itF_Box]
theorem tstZis_box_4 {s1 s2 s3 s5 s6 s7 s8 s9 : S} (box : T_Box) (expected : (List (List Int))) {γ : Type} {kx : Xn → List S → Option γ} {k : Bool → List S → Option γ} : cps (tZis_box_1 FnZis_rows) [.val (e_Box box), s1, s2, s3, .val (.lst (mT expected)), s5, s6, s7, s8, s9, .no] kx k = (tZis_rows box.rows expected).bind fun v10 => ((if (!v10) = true then some true else (tZis_rows box.rows expected).bind fun v11 => some (!v11))).bind fun v12 => k v12 [.val (e_Box box), s1, s2, s3, .val (.lst (mT expected)), s5, s6, s7, s8, s9, .no] := by
 simp? only [tstZis_box_3]
theorem stZis_box_4 {s0 s1 s3 s4 s5 s6 s7 s8 s9 s10 : S} (source : (List Int)) : (sRtA [0, 1, 3, 4, 5, 6, 7, 8, 9, 10] (sRet (eC (.bl false)))) [s0, s1, (oL source), s3, s4, s5, s6, s7, s8, s9, s10] = some (.rt (.val (.bl false)) [.no, .no, (oL source), .no, .no, .no, .no, .no, .no, .no, .no]) := by
 simp? only [Tl.ob_some]
theorem stZis_box_5 {s0 s1 s2 s3 s4 s5 s7 s8 s9 s10 : S}  : (sSet 3 6 (eTup aNil)) [s0, s1, s2, s3, s4, s5, .no, s7, s8, s9, s10] = some (.nx [s0, s1, s2, s3, s4, s5, .val (.tup (List.map D.int ([] : List Int))), s7, s8, s9, s10]) := by
 simp? only [Tl.ob_some]
theorem stZis_box_6 {s0 s1 s2 s3 s4 s5 s6 s8 s9 s10 : S}  : (sSet 3 7 (eC (.bl true))) [s0, s1, s2, s3, s4, s5, s6, .no, s8, s9, s10] = some (.nx [s0, s1, s2, s3, s4, s5, s6, .val (.bl true), s8, s9, s10]) := by
 simp? only [Tl.ob_some]
theorem stZis_box_7 {s0 s1 s2 s3 s4 s5 s6 s7 s8 s10 : S}  : (sSet 3 9 (eC (.int 0))) [s0, s1, s2, s3, s4, s5, s6, s7, s8, .no, s10] = some (.nx [s0, s1, s2, s3, s4, s5, s6, s7, s8, .val (.int (0 : Int)), s10]) := by
 simp? only [Tl.ob_some]
theorem tstZis_box_5 {s0 s1 s2 s3 s4 s5 s6 s7 s9 s10 : S} (side : (List Int)) {γ : Type} {kx : Xn → List S → Option γ} {k : Bool → List S → Option γ} : cps (tCmp (eNe (eVar 8) (eLst aNil))) [s0, s1, s2, s3, s4, s5, s6, s7, (vL side), s9, s10] kx k = k (!decide (side = ([] : List Int))) [s0, s1, s2, s3, s4, s5, s6, s7, (vL side), s9, s10] := by
 simp? only [Tl.ob_some]
theorem stZis_box_8 {s0 s1 s3 s4 s5 s6 s7 s10 : S} (source : (List Int)) (side : (List Int)) (standing : Int) : (sSet 3 9 (eAdd (eIx (eVar 8) (eCall [true, false] FnZdraw (aCons (eVar 2) (aCons (eB gLen (aCons (eVar 8) aNil)) aNil)))) (eB gInt (aCons (eEq (eCall [true, false] FnZdraw (aCons (eVar 2) (aCons (eC (.int 5)) aNil))) (eC (.int 0))) aNil)))) [s0, s1, (oL source), s3, s4, s5, s6, s7, (vL side), (vI standing), s10] = (tZdraw source ((List.length side : Nat) : Int)).bind fun v14 => (atI side v14.1).bind fun v15 => (tZdraw v14.2 (5 : Int)).bind fun v16 => some (.nx [s0, s1, (oL v16.2), s3, s4, s5, s6, s7, (vL side), .val (.int (v15 + (if (decide (v16.1 = (0 : Int))) = true then (1 : Int) else 0))), s10]) := by
 simp? only [eqZdraw]
theorem ilZis_box_1 {s0 s1 s3 s4 s5 s6 s7 s10 : S} (source : (List Int)) (side : (List Int)) (standing : Int) : (iZis_box_1 FnZdraw) [s0, s1, (oL source), s3, s4, s5, s6, s7, (vL side), (vI standing), s10] = (if (!decide (side = ([] : List Int))) = true then (tZdraw source ((List.length side : Nat) : Int)).bind fun v14 => (atI side v14.1).bind fun v15 => (tZdraw v14.2 (5 : Int)).bind fun v16 => let source_n := v16.2; let standing_n := (v15 + (if (decide (v16.1 = (0 : Int))) = true then (1 : Int) else 0)); let source := source_n; let standing := standing_n; some (source, standing) else some (source, standing)).bind fun v17 => some (.nx [s0, s1, (oL v17.1), s3, s4, s5, s6, s7, (vL side), (vI v17.2), s10]) := by
 dsimp? only [iZis_box_1, tstZis_box_5, stZis_box_8]
theorem tstZis_box_6 {s0 s1 s2 s3 s4 s5 s6 s10 : S} (inside : Bool) (side : (List Int)) (standing : Int) {γ : Type} {kx : Xn → List S → Option γ} {k : Rv → List S → Option γ} : cps eZis_box_1 [s0, s1, s2, s3, s4, s5, s6, .val (.bl inside), (vL side), (vI standing), s10] kx k = k (.val (.bl ((inside && (decide (standing ∈ side)))))) [s0, s1, s2, s3, s4, s5, s6, .val (.bl inside), (vL side), (vI standing), s10] := by
 have ka : ∀ (a b : Bool) (ρ : List S), (if a = true then k (.val (.bl b)) ρ else k (.val (.bl a)) ρ) = k (.val (.bl (a && b))) ρ := fun a b ρ => by cases a <;> rfl
 have ko : ∀ (a b : Bool) (ρ : List S), (if a = true then k (.val (.bl a)) ρ else k (.val (.bl b)) ρ) = k (.val (.bl (a || b))) ρ := fun a b ρ => by cases a <;> rfl
 simp? only [eZis_box_1, ka, ko]
theorem stZis_box_9 {s0 s1 s2 s3 s4 s5 s6 s10 : S} (inside : Bool) (side : (List Int)) (standing : Int) : (sSet 3 7 eZis_box_1) [s0, s1, s2, s3, s4, s5, s6, .val (.bl inside), (vL side), (vI standing), s10] = some (.nx [s0, s1, s2, s3, s4, s5, s6, .val (.bl (inside && (decide (standing ∈ side)))), (vL side), (vI standing), s10]) := by
 simp? only [tstZis_box_6]
theorem stZis_box_10 {s0 s1 s2 s3 s4 s5 s7 s8 s10 : S} (combo : (List Int)) (standing : Int) : (sSet 3 6 (eAdd (eVar 6) (eTup (aCons (eVar 9) aNil)))) [s0, s1, s2, s3, s4, s5, (vT combo), s7, s8, (vI standing), s10] = (gz (List.length combo + List.length [standing])).bind fun _ => some (.nx [s0, s1, s2, s3, s4, s5, .val (.tup (List.map D.int (combo ++ [standing]))), s7, s8, (vI standing), s10]) := by
 simp? only [Tl.ob_some]
def tbZis_box_2  (it : (List Int)) (env : ((List Int) × (List Int) × Bool)) : Option ((List Int) × (List Int) × Bool) := let side := it; let source := env.1; let combo := env.2.1; let inside := env.2.2; let standing := (0 : Int); (if (!decide (side = ([] : List Int))) = true then (tZdraw source ((List.length side : Nat) : Int)).bind fun v14 => (atI side v14.1).bind fun v15 => (tZdraw v14.2 (5 : Int)).bind fun v16 => let source_n := v16.2; let standing_n := (v15 + (if (decide (v16.1 = (0 : Int))) = true then (1 : Int) else 0)); let source := source_n; let standing := standing_n; some (source, standing) else some (source, standing)).bind fun v17 => let source := v17.1; let standing := v17.2; let inside := (inside && (decide (standing ∈ side))); (gz (List.length combo + List.length [standing])).bind fun _ => let combo := (combo ++ [standing]); some (source, combo, inside)
theorem blZis_box_2 {s0 s1 s3 s4 s5 s10 : S}  (it : (List Int)) (env : ((List Int) × (List Int) × Bool)) : ((gN 8) (.lst (mI it)) [s0, s1, (oL env.1), s3, s4, s5, (vT env.2.1), .val (.bl env.2.2), .no, .no, s10]).bind (bZis_box_2 FnZdraw) = ((tbZis_box_2 ) it env).bind fun o => some (.nx [s0, s1, (oL o.1), s3, s4, s5, (vT o.2.1), .val (.bl o.2.2), .no, .no, s10]) := by
 dsimp? only [bZis_box_2, tbZis_box_2, gT_eq, gsN_eq, gsC_eq, l_cons, l_nil, stZis_box_7, ilZis_box_1, stZis_box_9, stZis_box_10]
theorem llZis_box_2 {s0 s3 s4 s5 s10 : S} (clean : (List (List Int))) (source : (List Int)) (combo : (List Int)) (inside : Bool) : (lZis_box_2 FnZdraw) [s0, (vM clean), (oL source), s3, s4, s5, (vT combo), .val (.bl inside), .no, .no, s10] = (foldT (tbZis_box_2 ) clean (source, combo, inside)).bind fun o => some (.nx [s0, (vM clean), (oL o.1), s3, s4, s5, (vT o.2.1), .val (.bl o.2.2), .no, .no, s10]) := by
 have hh := fun  (xs : List (List Int)) (env : ((List Int) × (List Int) × Bool)) => forL_fold (e := (fun x => (D.lst (List.map D.int x)))) (st := fun (env : ((List Int) × (List Int) × Bool)) => [s0, .val (.lst (List.map (fun x => (D.lst (List.map D.int x))) clean)), .own (.lst (List.map D.int env.1)), s3, s4, s5, .val (.tup (List.map D.int env.2.1)), .val (.bl env.2.2), .no, .no, s10]) (tg := (gN 8)) (body := (bZis_box_2 FnZdraw)) (tb := (tbZis_box_2 )) xs env (fun x _ env => blZis_box_2  x env)
 have hh := fun  (source : (List Int)) (combo : (List Int)) (inside : Bool) (xs : List (List Int)) => hh  xs (source, combo, inside)
 simp? only [lZis_box_2, sFor_eq] at hh ⊢
 simp? only [hh]
theorem tstZis_box_7 {s1 s2 s3 s4 s5 s8 s9 s10 : S} (box : T_Box) (combo : (List Int)) (inside : Bool) {γ : Type} {kx : Xn → List S → Option γ} {k : Bool → List S → Option γ} : cps (tZis_box_2 Fn_Box_DcontainsD) [.val (e_Box box), s1, s2, s3, s4, s5, (vT combo), .val (.bl inside), s8, s9, s10] kx k = (t_Box_DcontainsD box (List.map (fun y => (IB.i y)) combo)).bind fun v19 => ((if (!decide (v19 = inside)) = true then some true else (t_Box_DcontainsD box (List.map (fun y => (IB.i y)) (cutD combo (some (1 : Int)) none))).bind fun v20 => (if v20 = true then some true else (gz (List.length combo + List.length [(0 : Int)])).bind fun _ => (t_Box_DcontainsD box (List.map (fun y => (IB.i y)) (combo ++ [(0 : Int)]))).bind fun v21 => some v21))).bind fun v22 => k (v22) [.val (e_Box box), s1, s2, s3, s4, s5, (vT combo), .val (.bl inside), s8, s9, s10] := by
 have ka : ∀ (a b : Bool) (ρ : List S), (if a = true then k b ρ else k false ρ) = k (a && b) ρ := fun a b ρ => by cases a <;> rfl
 have ko : ∀ (a b : Bool) (ρ : List S), (if a = true then k true ρ else k b ρ) = k (a || b) ρ := fun a b ρ => by cases a <;> rfl
 have q0 := eq_Box_DcontainsD box (List.map (fun y => (IB.i y)) combo)
 try simp? only [Tl.ob_some] at q0
 have q1 := eq_Box_DcontainsD box (List.map (fun y => (IB.i y)) (cutD combo (some (1 : Int)) none))
 try simp? only [Tl.ob_some] at q1
 have q2 := eq_Box_DcontainsD box (List.map (fun y => (IB.i y)) (combo ++ [(0 : Int)]))
 try simp? only [Tl.ob_some] at q2
 simp? only [tZis_box_2, q0, isObj_Box, q1, q2]
theorem tstZis_box_8 {s1 s2 s3 s4 s5 s8 s9 s10 : S} (box : T_Box) (combo : (List Int)) (inside : Bool) {γ : Type} {kx : Xn → List S → Option γ} {k : Bool → List S → Option γ} : cps (tZis_box_2 Fn_Box_DcontainsD) [.val (e_Box box), s1, s2, s3, s4, s5, (vT combo), .val (.bl inside), s8, s9, s10] kx k = (t_Box_DcontainsD box (List.map (fun y => (IB.i y)) combo)).bind fun v19 => ((if (!decide (v19 = inside)) = true then some true else (t_Box_DcontainsD box (List.map (fun y => (IB.i y)) (cutD combo (some (1 : Int)) none))).bind fun v20 => (if v20 = true then some true else (gz (List.length combo + List.length [(0 : Int)])).bind fun _ => (t_Box_DcontainsD box (List.map (fun y => (IB.i y)) (combo ++ [(0 : Int)]))).bind fun v21 => some v21))).bind fun v22 => k v22 [.val (e_Box box), s1, s2, s3, s4, s5, (vT combo), .val (.bl inside), s8, s9, s10] := by
 simp? only [tstZis_box_7]
theorem stZis_box_11 {s0 s1 s3 s4 s5 s6 s7 s8 s9 s10 : S} (source : (List Int)) : (sRtA [0, 1, 3, 4, 5, 6, 7, 8, 9, 10] (sRet (eC (.bl false)))) [s0, s1, (oL source), s3, s4, s5, s6, s7, s8, s9, s10] = some (.rt (.val (.bl false)) [.no, .no, (oL source), .no, .no, .no, .no, .no, .no, .no, .no]) := by
 simp? only [Tl.ob_some]
theorem lcsZis_box_2 {s0 s1 s2 s3 s4 s5 s7 s8 s10 : S} (combo : (List Int)) (v23 : Int) : lcS (gN 9) tYes' (eEq (eVar 9) (eC (.int 1))) [9] (.int v23) [s0, s1, s2, s3, s4, s5, (vT combo), s7, s8, .no, s10] = some (some (D.bl (decide (v23 = (1 : Int)))), [s0, s1, s2, s3, s4, s5, (vT combo), s7, s8, .no, s10]) := by
 simp? only [lcS]
theorem lcZis_box_2 {s0 s1 s2 s3 s4 s5 s7 s8 s10 : S} (combo : (List Int)) {γ : Type} {kx : Xn → List S → Option γ} {k : Rv → List S → Option γ} : cps cZis_box_2 [s0, s1, s2, s3, s4, s5, (vT combo), s7, s8, .no, s10] kx k = k (.own (.lst (List.map D.bl (List.map (fun (v23 : Int) => (decide (v23 = (1 : Int)))) combo)))) [s0, s1, s2, s3, s4, s5, (vT combo), s7, s8, .no, s10] := by
 have hh := fun {γ : Type} {kx : Xn → List S → Option γ} (combo : (List Int)) (xs : List Int) (h' : List D → List S → Option γ) => cps_lcP (e := D.int) (e' := D.bl) (ρ := [s0, s1, s2, s3, s4, s5, .val (.tup (List.map D.int combo)), s7, s8, .no, s10]) (kx := kx) (f := fun (v23 : Int) => (decide (v23 = (1 : Int)))) xs (lcsZis_box_2 combo) h'
 simp? only [cZis_box_2, hh]
theorem tstZis_box_9 {s1 s2 s3 s4 s5 s7 s8 s10 : S} (box : T_Box) (combo : (List Int)) {γ : Type} {kx : Xn → List S → Option γ} {k : Bool → List S → Option γ} : cps (tCmp (eOwnIn "Box" [false, false] Fn_Box_DcontainsD (eB gTuple (aCons cZis_box_2 aNil)) (eVar 0))) [.val (e_Box box), s1, s2, s3, s4, s5, (vT combo), s7, s8, .no, s10] kx k = (t_Box_DcontainsD box (List.map (fun y => (IB.b y)) (List.map (fun (v23 : Int) => (decide (v23 = (1 : Int)))) combo))).bind fun v24 => k v24 [.val (e_Box box), s1, s2, s3, s4, s5, (vT combo), s7, s8, .no, s10] := by
 have q0 := eq_Box_DcontainsD box (List.map (fun y => (IB.b y)) (List.map (fun (v23 : Int) => (decide (v23 = (1 : Int)))) combo))
 try simp? only [Tl.ob_some] at q0
 simp? only [lcZis_box_2, q0, isObj_Box]
theorem stZis_box_12 {s0 s1 s3 s4 s5 s6 s7 s8 s9 s10 : S} (source : (List Int)) : (sRtA [0, 1, 3, 4, 5, 6, 7, 8, 9, 10] (sRet (eC (.bl false)))) [s0, s1, (oL source), s3, s4, s5, s6, s7, s8, s9, s10] = some (.rt (.val (.bl false)) [.no, .no, (oL source), .no, .no, .no, .no, .no, .no, .no, .no]) := by
 simp? only [Tl.ob_some]
theorem tstZis_box_10 {s1 s2 s3 s4 s5 s7 s8 s9 s10 : S} (box : T_Box) (combo : (List Int)) {γ : Type} {kx : Xn → List S → Option γ} {k : Bool → List S → Option γ} : cps (tZis_box_3 Fn_Box_DcontainsD) [.val (e_Box box), s1, s2, s3, s4, s5, (vT combo), s7, s8, s9, s10] kx k = (gz (List.length combo + List.length (cutD combo none (some (1 : Int))))).bind fun _ => (t_Box_DcontainsD box (List.map (fun y => (IB.i y)) (combo ++ (cutD combo none (some (1 : Int)))))).bind fun v25 => ((if v25 = true then some true else (t_Box_DcontainsD box (List.map (fun y => (IB.i y)) ([] : List Int))).bind fun v26 => some v26)).bind fun v27 => k (v27) [.val (e_Box box), s1, s2, s3, s4, s5, (vT combo), s7, s8, s9, s10] := by
 have ka : ∀ (a b : Bool) (ρ : List S), (if a = true then k b ρ else k false ρ) = k (a && b) ρ := fun a b ρ => by cases a <;> rfl
 have ko : ∀ (a b : Bool) (ρ : List S), (if a = true then k true ρ else k b ρ) = k (a || b) ρ := fun a b ρ => by cases a <;> rfl
 have q0 := eq_Box_DcontainsD box (List.map (fun y => (IB.i y)) (combo ++ (cutD combo none (some (1 : Int)))))
 try simp? only [Tl.ob_some] at q0
 have q1 := eq_Box_DcontainsD box (List.map (fun y => (IB.i y)) ([] : List Int))
 try simp? only [Tl.ob_some] at q1
 simp? only [tZis_box_3, q0, isObj_Box, q1]
theorem tstZis_box_11 {s1 s2 s3 s4 s5 s8 s9 s10 : S} (box : T_Box) (combo : (List Int)) (inside : Bool) {γ : Type} {kx : Xn → List S → Option γ} {k : Bool → List S → Option γ} : cps (tZis_box_4 Fn_Box_DcontainsD) [.val (e_Box box), s1, s2, s3, s4, s5, (vT combo), .val (.bl inside), s8, s9, s10] kx k = ((if inside = true then (gz (List.length combo + List.length (cutD combo none (some (1 : Int))))).bind fun _ => (t_Box_DcontainsD box (List.map (fun y => (IB.i y)) (combo ++ (cutD combo none (some (1 : Int)))))).bind fun v25 => ((if v25 = true then some true else (t_Box_DcontainsD box (List.map (fun y => (IB.i y)) ([] : List Int))).bind fun v26 => some v26)).bind fun v27 => some v27 else some false)).bind fun v28 => k (v28) [.val (e_Box box), s1, s2, s3, s4, s5, (vT combo), .val (.bl inside), s8, s9, s10] := by
 have ka : ∀ (a b : Bool) (ρ : List S), (if a = true then k b ρ else k false ρ) = k (a && b) ρ := fun a b ρ => by cases a <;> rfl
 have ko : ∀ (a b : Bool) (ρ : List S), (if a = true then k true ρ else k b ρ) = k (a || b) ρ := fun a b ρ => by cases a <;> rfl
 simp? only [tZis_box_4, tstZis_box_10]
theorem tstZis_box_12 {s1 s2 s3 s4 s5 s8 s9 s10 : S} (box : T_Box) (combo : (List Int)) (inside : Bool) {γ : Type} {kx : Xn → List S → Option γ} {k : Bool → List S → Option γ} : cps (tZis_box_4 Fn_Box_DcontainsD) [.val (e_Box box), s1, s2, s3, s4, s5, (vT combo), .val (.bl inside), s8, s9, s10] kx k = ((if inside = true then (gz (List.length combo + List.length (cutD combo none (some (1 : Int))))).bind fun _ => (t_Box_DcontainsD box (List.map (fun y => (IB.i y)) (combo ++ (cutD combo none (some (1 : Int)))))).bind fun v25 => ((if v25 = true then some true else (t_Box_DcontainsD box (List.map (fun y => (IB.i y)) ([] : List Int))).bind fun v26 => some v26)).bind fun v27 => some v27 else some false)).bind fun v28 => k v28 [.val (e_Box box), s1, s2, s3, s4, s5, (vT combo), .val (.bl inside), s8, s9, s10] := by
 simp? only [tstZis_box_11]
theorem stZis_box_13 {s0 s1 s3 s4 s5 s6 s7 s8 s9 s10 : S} (source : (List Int)) : (sRtA [0, 1, 3, 4, 5, 6, 7, 8, 9, 10] (sRet (eC (.bl false)))) [s0, s1, (oL source), s3, s4, s5, s6, s7, s8, s9, s10] = some (.rt (.val (.bl false)) [.no, .no, (oL source), .no, .no, .no, .no, .no, .no, .no, .no]) := by
 simp? only [Tl.ob_some]
def tbZis_box_3 (box : T_Box) (clean : (List (List Int))) (it : Int) (env : ((List Int))) : Option (Cf ((List Int)) (Bool × (List Int))) := let turn := it; let source := env; let combo := ([] : List Int); let inside := true; (foldT (tbZis_box_2 ) clean (source, combo, inside)).bind fun v18 => let source := v18.1; let combo := v18.2.1; let inside := v18.2.2; (t_Box_DcontainsD box (List.map (fun y => (IB.i y)) combo)).bind fun v19 => ((if (!decide (v19 = inside)) = true then some true else (t_Box_DcontainsD box (List.map (fun y => (IB.i y)) (cutD combo (some (1 : Int)) none))).bind fun v20 => (if v20 = true then some true else (gz (List.length combo + List.length [(0 : Int)])).bind fun _ => (t_Box_DcontainsD box (List.map (fun y => (IB.i y)) (combo ++ [(0 : Int)]))).bind fun v21 => some v21))).bind fun v22 => if v22 = true then some (.rt (false, source)) else (t_Box_DcontainsD box (List.map (fun y => (IB.b y)) (List.map (fun (v23 : Int) => (decide (v23 = (1 : Int)))) combo))).bind fun v24 => if v24 = true then some (.rt (false, source)) else ((if inside = true then (gz (List.length combo + List.length (cutD combo none (some (1 : Int))))).bind fun _ => (t_Box_DcontainsD box (List.map (fun y => (IB.i y)) (combo ++ (cutD combo none (some (1 : Int)))))).bind fun v25 => ((if v25 = true then some true else (t_Box_DcontainsD box (List.map (fun y => (IB.i y)) ([] : List Int))).bind fun v26 => some v26)).bind fun v27 => some v27 else some false)).bind fun v28 => if v28 = true then some (.rt (false, source)) else some (.nx source)
theorem blZis_box_3 {s3 s4 s10 : S} (box : T_Box) (clean : (List (List Int))) (it : Int) (env : ((List Int))) : ((gN 5) (.int it) [.val (e_Box box), (vM clean), (oL env), s3, s4, .no, .no, .no, .no, .no, s10]).bind (bZis_box_3 FnZdraw Fn_Box_DcontainsD) = ((tbZis_box_3 box clean) it env).bind fun o => some (cfO (fun env => [.val (e_Box box), (vM clean), (oL env), s3, s4, .no, .no, .no, .no, .no, s10]) (fun r => (.val (.bl r.1))) (fun r => [.no, .no, (oL r.2), .no, .no, .no, .no, .no, .no, .no, .no]) o) := by
 dsimp? only [bZis_box_3, tbZis_box_3, gT_eq, gsN_eq, gsC_eq, l_cons, l_nil, stZis_box_5, stZis_box_6, llZis_box_2, tstZis_box_8, stZis_box_11, tstZis_box_9, stZis_box_12, tstZis_box_12, stZis_box_13]
theorem llZis_box_3 {s3 s4 s10 : S} (box : T_Box) (clean : (List (List Int))) (source : (List Int)) : (lZis_box_3 FnZdraw Fn_Box_DcontainsD) [.val (e_Box box), (vM clean), (oL source), s3, s4, .no, .no, .no, .no, .no, s10] = (rngT (6 : Int)).bind fun v13 => (forT (tbZis_box_3 box clean) v13 source).bind fun o => some (lpO (fun env => [.val (e_Box box), (vM clean), (oL env), s3, s4, .no, .no, .no, .no, .no, s10]) (fun r => (.val (.bl r.1))) (fun r => [.no, .no, (oL r.2), .no, .no, .no, .no, .no, .no, .no, .no]) o) := by
 have hh := fun (box : T_Box) (clean : (List (List Int))) (xs : List Int) (env : ((List Int))) => forL_cf (e := D.int) (st := fun (env : ((List Int))) => [.val (e_Box box), .val (.lst (List.map (fun x => (D.lst (List.map D.int x))) clean)), .own (.lst (List.map D.int env)), s3, s4, .no, .no, .no, .no, .no, s10]) (rv := fun r => (.val (.bl r.1))) (rs := fun r => [.no, .no, .own (.lst (List.map D.int r.2)), .no, .no, .no, .no, .no, .no, .no, .no]) (tg := (gN 5)) (body := (bZis_box_3 FnZdraw Fn_Box_DcontainsD)) (tb := (tbZis_box_3 box clean)) xs env (fun x _ env => blZis_box_3 box clean x env)
 have hh := fun (box : T_Box) (clean : (List (List Int))) (source : (List Int)) (xs : List Int) => hh box clean xs source
 simp? only [lZis_box_3, sFor_eq] at hh ⊢
 simp? only [hh]
theorem stZis_box_14 {s0 s1 s3 s4 s5 s6 s7 s8 s9 s10 : S} (source : (List Int)) : (sRtA [0, 1, 3, 4, 5, 6, 7, 8, 9, 10] (sRet (eC (.bl true)))) [s0, s1, (oL source), s3, s4, s5, s6, s7, s8, s9, s10] = some (.rt (.val (.bl true)) [.no, .no, (oL source), .no, .no, .no, .no, .no, .no, .no, .no]) := by
 simp? only [Tl.ob_some]
def tZis_box (box : T_Box) (clean : (List (List Int))) (source : (List Int)) : Option (Bool × (List Int)) := (tZis_sides box.sides clean).bind fun v1 => if (!v1) = true then some (false, source) else (rngT ((List.length clean : Nat) : Int)).bind fun v2 => (forT (tbZis_box_1 box clean source) v2 ()).bind fun v7 => v7.k (fun env => ((tZcombos 9) clean).bind fun v8 => let expected := v8; (tZis_rows box.rows expected).bind fun v10 => ((if (!v10) = true then some true else (tZis_rows box.rows expected).bind fun v11 => some (!v11))).bind fun v12 => if v12 = true then some (false, source) else (rngT (6 : Int)).bind fun v13 => (forT (tbZis_box_3 box clean) v13 source).bind fun v30 => v30.k (fun env => let source := env; some (true, source)) (fun r => some r)) (fun r => some r)
theorem eqZis_box : ∀ (box : T_Box) (clean : (List (List Int))) (source : (List Int)), FnZis_box [.val (e_Box box), .val (.lst (List.map (fun x => (D.lst (List.map D.int x))) clean)), .own (.lst (List.map D.int source))] = (tZis_box box clean source).bind fun r => some (.ret (.val (.bl r.1)) [.val (e_Box box), .val (.lst (List.map (fun x => (D.lst (List.map D.int x))) clean)), .own (.lst (List.map D.int r.2))]) := fun box clean source => by
 show mkFn _ _ _ _ = _
 rw [mkFn_eq]
 dsimp? only [fZis_box, tZis_box, Nat.reduceSub, Nat.reduceAdd, rtn_bind, rtn_ite, rtn_none, rtn_nx, rtn_rtv, rtn_rto, rtn_ex, rtn_k, post_n, post_v, post_o, l_cons, l_nil, r_succ, r_zero, a_cons, a_nil, tstZis_box_1, stZis_box_1, llZis_box_1, stZis_box_3, tstZis_box_4, stZis_box_4, llZis_box_3, stZis_box_14]
theorem stz_law_1 {s2 s3 s4 s5 s6 s7 s8 s9 s10 s11 s12 s13 s14 s15 s16 s17 : S} (script : (List Int)) : (sSet 1 1 (eCall [false] FnZsource (aCons (eCall [false, false] FnZcell (aCons (eVar 0) (aCons (eC (.int 0)) aNil))) aNil))) [.val (.scr script), .no, s2, s3, s4, s5, s6, s7, s8, s9, s10, s11, s12, s13, s14, s15, s16, s17] = (tZcell script (0 : Int)).bind fun v1 => (tZsource v1).bind fun v2 => some (.nx [.val (.scr script), (oL v2), s2, s3, s4, s5, s6, s7, s8, s9, s10, s11, s12, s13, s14, s15, s16, s17]) := by
 simp? only [eqZcell, eqZsource]
theorem stz_law_2 {s1 s3 s4 s5 s6 s7 s8 s9 s10 s11 s12 s13 s14 s15 s16 s17 : S} (script : (List Int)) : (sSet 1 2 (eCall [false] FnZsource (aCons (eCall [false, false] FnZcell (aCons (eVar 0) (aCons (eC (.int 1)) aNil))) aNil))) [.val (.scr script), s1, .no, s3, s4, s5, s6, s7, s8, s9, s10, s11, s12, s13, s14, s15, s16, s17] = (tZcell script (1 : Int)).bind fun v3 => (tZsource v3).bind fun v4 => some (.nx [.val (.scr script), s1, (oL v4), s3, s4, s5, s6, s7, s8, s9, s10, s11, s12, s13, s14, s15, s16, s17]) := by
 simp? only [eqZcell, eqZsource]
theorem stz_law_3 {s0 s2 s4 s5 s6 s7 s8 s9 s10 s11 s12 s13 s14 s15 s16 s17 : S} (shape : (List Int)) : (sSet 1 3 (eIx (eLst (aCons (eC (.int 3)) (aCons (eC (.int 12)) (aCons (ePow (eC (.int 10)) (eC (.int 9))) aNil)))) (eCall [true, false] FnZdraw (aCons (eVar 1) (aCons (eC (.int 3)) aNil))))) [s0, (oL shape), s2, .no, s4, s5, s6, s7, s8, s9, s10, s11, s12, s13, s14, s15, s16, s17] = (tZdraw shape (3 : Int)).bind fun v5 => (atI [(3 : Int), (12 : Int), (1000000000 : Int)] v5.1).bind fun v6 => some (.nx [s0, (oL v5.2), s2, (vI v6), s4, s5, s6, s7, s8, s9, s10, s11, s12, s13, s14, s15, s16, s17]) := by
 have lf : ∀ (a0 a1 a2 : Int) (i : Int), atI [(D.int a0), (D.int a1), (D.int a2)] i = (atI [a0, a1, a2] i).bind fun a => some (D.int a) := fun a0 a1 a2 i => atI_map' D.int [a0, a1, a2] i
 simp? only [(by decide +kernel : powOk 10 9 = true), (by decide +kernel : ((10 : Int) ^ Int.toNat 9) = 1000000000), eqZdraw, lf]
theorem stz_law_4 {s0 s2 s3 s5 s6 s7 s8 s9 s10 s11 s12 s13 s14 s15 s16 s17 : S} (shape : (List Int)) : (sSet 1 4 (eAdd (eC (.int 1)) (eCall [true, false] FnZdraw (aCons (eVar 1) (aCons (eC (.int 8)) aNil))))) [s0, (oL shape), s2, s3, .no, s5, s6, s7, s8, s9, s10, s11, s12, s13, s14, s15, s16, s17] = (tZdraw shape (8 : Int)).bind fun v7 => some (.nx [s0, (oL v7.2), s2, s3, .val (.int ((1 : Int) + v7.1)), s5, s6, s7, s8, s9, s10, s11, s12, s13, s14, s15, s16, s17]) := by
 simp? only [eqZdraw]
theorem stz_law_5 {s0 s6 s7 s8 s9 s10 s11 s12 s13 s14 s15 s16 s17 : S} (shape : (List Int)) (source : (List Int)) (span : Int) (many : Int) : (sFz 5 (sSet 1 5 (eCall [true, true, false, false] FnZdraw_sides (aCons (eVar 1) (aCons (eVar 2) (aCons (eVar 4) (aCons (eVar 3) aNil))))))) [s0, (oL shape), (oL source), (vI span), (vI many), .no, s6, s7, s8, s9, s10, s11, s12, s13, s14, s15, s16, s17] = (tZdraw_sides shape source many span).bind fun v8 => some (.nx [s0, (oL v8.2.1), (oL v8.2.2), (vI span), (vI many), (vM v8.1), s6, s7, s8, s9, s10, s11, s12, s13, s14, s15, s16, s17]) := by
 simp? only [eqZdraw_sides]
theorem stz_law_6 {s0 s5 s7 s8 s9 s10 s11 s12 s13 s14 s15 s16 s17 : S} (shape : (List Int)) (source : (List Int)) (span : Int) (many : Int) : (sFz 6 (sSet 1 6 (eCall [true, true, false, false] FnZdraw_sides (aCons (eVar 1) (aCons (eVar 2) (aCons (eVar 4) (aCons (eVar 3) aNil))))))) [s0, (oL shape), (oL source), (vI span), (vI many), s5, .no, s7, s8, s9, s10, s11, s12, s13, s14, s15, s16, s17] = (tZdraw_sides shape source many span).bind fun v9 => some (.nx [s0, (oL v9.2.1), (oL v9.2.2), (vI span), (vI many), s5, (vM v9.1), s7, s8, s9, s10, s11, s12, s13, s14, s15, s16, s17]) := by
 simp? only [eqZdraw_sides]
def tp_bx1 (script : (List Int)) : Option ((List Int) × (List Int) × Int × Int × (List (List Int)) × (List (List Int))) := (tZcell script (0 : Int)).bind fun v1 => (tZsource v1).bind fun v2 => let shape := v2; (tZcell script (1 : Int)).bind fun v3 => (tZsource v3).bind fun v4 => let source := v4; (tZdraw shape (3 : Int)).bind fun v5 => (atI [(3 : Int), (12 : Int), (1000000000 : Int)] v5.1).bind fun v6 => let shape_n := v5.2; let span_n := v6; let shape := shape_n; let span := span_n; (tZdraw shape (8 : Int)).bind fun v7 => let shape_n := v7.2; let many_n := ((1 : Int) + v7.1); let shape := shape_n; let many := many_n; (tZdraw_sides shape source many span).bind fun v8 => let shape_n := v8.2.1; let source_n := v8.2.2; let first_n := v8.1; let shape := shape_n; let source := source_n; let first := first_n; (tZdraw_sides shape source many span).bind fun v9 => let shape_n := v9.2.1; let source_n := v9.2.2; let second_n := v9.1; let shape := shape_n; let source := source_n; let second := second_n; some (shape, source, span, many, first, second)
theorem pl_bx1 {s7 s8 s9 s10 s11 s12 s13 s14 s15 s16 s17 : S} (script : (List Int)) : (pc_bx1 FnZsource FnZcell FnZdraw FnZdraw_sides) [.val (.scr script), .no, .no, .no, .no, .no, .no, s7, s8, s9, s10, s11, s12, s13, s14, s15, s16, s17] = (tp_bx1 script).bind fun o => some (.nx [.val (.scr script), (oL o.1), (oL o.2.1), (vI o.2.2.1), (vI o.2.2.2.1), (vM o.2.2.2.2.1), (vM o.2.2.2.2.2), s7, s8, s9, s10, s11, s12, s13, s14, s15, s16, s17]) := by
 dsimp? only [pc_bx1, tp_bx1, gT_eq, gsN_eq, gsC_eq, l_cons, l_nil, stz_law_1, stz_law_2, stz_law_3, stz_law_4, stz_law_5, stz_law_6]
theorem lcsz_law_2 {s0 s1 s2 s3 s4 s5 s7 s8 s9 s11 s12 s13 s14 s15 s16 s17 : S} (second : (List (List Int))) (v12 : (List Int)) : lcS (gN 10) tYes' (eB gTuple (aCons (eVar 10) aNil)) [10] (.lst (mI v12)) [s0, s1, s2, s3, s4, s5, (vM second), s7, s8, s9, .no, s11, s12, s13, s14, s15, s16, s17] = some (some (D.tup (mI v12)), [s0, s1, s2, s3, s4, s5, (vM second), s7, s8, s9, .no, s11, s12, s13, s14, s15, s16, s17]) := by
 simp? only [lcS]
theorem lcz_law_2 {s0 s1 s2 s3 s4 s5 s7 s8 s9 s11 s12 s13 s14 s15 s16 s17 : S} (second : (List (List Int))) {γ : Type} {kx : Xn → List S → Option γ} {k : Rv → List S → Option γ} : cps cz_law_2 [s0, s1, s2, s3, s4, s5, (vM second), s7, s8, s9, .no, s11, s12, s13, s14, s15, s16, s17] kx k = k (.own (.lst (mT second))) [s0, s1, s2, s3, s4, s5, (vM second), s7, s8, s9, .no, s11, s12, s13, s14, s15, s16, s17] := by
 have hh := fun {γ : Type} {kx : Xn → List S → Option γ} (second : (List (List Int))) (xs : List (List Int)) (h' : List D → List S → Option γ) => cps_lcP (e := (fun x => (D.lst (List.map D.int x)))) (e' := (fun x => (D.tup (List.map D.int x)))) (ρ := [s0, s1, s2, s3, s4, s5, .val (.lst (List.map (fun x => (D.lst (List.map D.int x))) second)), s7, s8, s9, .no, s11, s12, s13, s14, s15, s16, s17]) (kx := kx) (f := fun (v12 : (List Int)) => v12) xs (lcsz_law_2 second) h'
 simp only [m_idf] at hh
 simp? only [cz_law_2, hh]
theorem stz_law_7 {s0 s1 s2 s3 s4 s5 s7 s8 s11 s12 s13 s14 s15 s16 s17 : S} (second : (List (List Int))) : (sFz 9 (sSet 1 9 (eMake "Box" [false] Fn_Box_DinitD (aCons (eBrw (eB gTuple (aCons cz_law_2 aNil))) aNil)))) [s0, s1, s2, s3, s4, s5, (vM second), s7, s8, .no, .no, s11, s12, s13, s14, s15, s16, s17] = (t_Box_DinitD (true, (List.map (fun y => (true, y)) second))).bind fun v13 => some (.nx [s0, s1, s2, s3, s4, s5, (vM second), s7, s8, .val (e_Box v13), .no, s11, s12, s13, s14, s15, s16, s17]) := by
 have q0 := eq_Box_DinitD (true, (List.map (fun y => (true, y)) second))
 try simp? only [Tl.ob_some] at q0
 simp? only [lcz_law_2, q0]
def tp_bx2 (second : (List (List Int))) : Option (T_Box) := (t_Box_DinitD (true, (List.map (fun y => (true, y)) second))).bind fun v13 => let other := v13; some other
theorem pl_bx2 {s0 s1 s2 s3 s4 s5 s7 s8 s11 s12 s13 s14 s15 s16 s17 : S} (second : (List (List Int))) : (pc_bx2 Fn_Box_DinitD) [s0, s1, s2, s3, s4, s5, (vM second), s7, s8, .no, .no, s11, s12, s13, s14, s15, s16, s17] = (tp_bx2 second).bind fun o => some (.nx [s0, s1, s2, s3, s4, s5, (vM second), s7, s8, .val (e_Box o), .no, s11, s12, s13, s14, s15, s16, s17]) := by
 dsimp? only [pc_bx2, tp_bx2, gT_eq, gsN_eq, gsC_eq, l_cons, l_nil, stz_law_7]
def fcz_law_1 (first : (List (List Int))) (v14 : (List Int)) : Option (List Int) := (tZclean v14).bind fun v15 => some v15
theorem lcsz_law_3 {s0 s1 s2 s3 s4 s6 s7 s8 s9 s11 s12 s13 s14 s15 s16 s17 : S} (first : (List (List Int))) (v14 : (List Int)) : lcS (gN 10) tYes' (eCall [false] FnZclean (aCons (eVar 10) aNil)) [10] (.lst (mI v14)) [s0, s1, s2, s3, s4, (vM first), s6, s7, s8, s9, .no, s11, s12, s13, s14, s15, s16, s17] = ((fcz_law_1 first) v14).bind fun y => some (some (D.lst (mI y)), [s0, s1, s2, s3, s4, (vM first), s6, s7, s8, s9, .no, s11, s12, s13, s14, s15, s16, s17]) := by
 simp? only [lcS, fcz_law_1, eqZclean]
theorem lcz_law_3 {s0 s1 s2 s3 s4 s6 s7 s8 s9 s11 s12 s13 s14 s15 s16 s17 : S} (first : (List (List Int))) {γ : Type} {kx : Xn → List S → Option γ} {k : Rv → List S → Option γ} : cps (cz_law_3 FnZclean) [s0, s1, s2, s3, s4, (vM first), s6, s7, s8, s9, .no, s11, s12, s13, s14, s15, s16, s17] kx k = (mapT (fcz_law_1 first) first).bind fun v16 => k (.own (.lst (mL v16))) [s0, s1, s2, s3, s4, (vM first), s6, s7, s8, s9, .no, s11, s12, s13, s14, s15, s16, s17] := by
 have hh := fun {γ : Type} {kx : Xn → List S → Option γ} (first : (List (List Int))) (xs : List (List Int)) (h' : List D → List S → Option γ) => cps_lcT (e := (fun x => (D.lst (List.map D.int x)))) (e' := (fun x => (D.lst (List.map D.int x)))) (ρ := [s0, s1, s2, s3, s4, .val (.lst (List.map (fun x => (D.lst (List.map D.int x))) first)), s6, s7, s8, s9, .no, s11, s12, s13, s14, s15, s16, s17]) (kx := kx) (f := (fcz_law_1 first)) xs (lcsz_law_3 first) h'
 simp? only [cz_law_3, hh]
theorem stz_law_9 {s0 s1 s2 s3 s4 s6 s7 s8 s9 s12 s13 s14 s15 s16 s17 : S} (first : (List (List Int))) : (sFz 11 (sSet 1 11 (cz_law_3 FnZclean))) [s0, s1, s2, s3, s4, (vM first), s6, s7, s8, s9, .no, .no, s12, s13, s14, s15, s16, s17] = (mapT (fcz_law_1 first) first).bind fun v16 => some (.nx [s0, s1, s2, s3, s4, (vM first), s6, s7, s8, s9, .no, (vM v16), s12, s13, s14, s15, s16, s17]) := by
 simp? only [lcz_law_3]
def fcz_law_2 (second : (List (List Int))) (v17 : (List Int)) : Option (List Int) := (tZclean v17).bind fun v18 => some v18
theorem lcsz_law_4 {s0 s1 s2 s3 s4 s5 s7 s8 s9 s11 s12 s13 s14 s15 s16 s17 : S} (second : (List (List Int))) (v17 : (List Int)) : lcS (gN 10) tYes' (eCall [false] FnZclean (aCons (eVar 10) aNil)) [10] (.lst (mI v17)) [s0, s1, s2, s3, s4, s5, (vM second), s7, s8, s9, .no, s11, s12, s13, s14, s15, s16, s17] = ((fcz_law_2 second) v17).bind fun y => some (some (D.lst (mI y)), [s0, s1, s2, s3, s4, s5, (vM second), s7, s8, s9, .no, s11, s12, s13, s14, s15, s16, s17]) := by
 simp? only [lcS, fcz_law_2, eqZclean]
theorem lcz_law_4 {s0 s1 s2 s3 s4 s5 s7 s8 s9 s11 s12 s13 s14 s15 s16 s17 : S} (second : (List (List Int))) {γ : Type} {kx : Xn → List S → Option γ} {k : Rv → List S → Option γ} : cps (cz_law_4 FnZclean) [s0, s1, s2, s3, s4, s5, (vM second), s7, s8, s9, .no, s11, s12, s13, s14, s15, s16, s17] kx k = (mapT (fcz_law_2 second) second).bind fun v19 => k (.own (.lst (mL v19))) [s0, s1, s2, s3, s4, s5, (vM second), s7, s8, s9, .no, s11, s12, s13, s14, s15, s16, s17] := by
 have hh := fun {γ : Type} {kx : Xn → List S → Option γ} (second : (List (List Int))) (xs : List (List Int)) (h' : List D → List S → Option γ) => cps_lcT (e := (fun x => (D.lst (List.map D.int x)))) (e' := (fun x => (D.lst (List.map D.int x)))) (ρ := [s0, s1, s2, s3, s4, s5, .val (.lst (List.map (fun x => (D.lst (List.map D.int x))) second)), s7, s8, s9, .no, s11, s12, s13, s14, s15, s16, s17]) (kx := kx) (f := (fcz_law_2 second)) xs (lcsz_law_4 second) h'
 simp? only [cz_law_4, hh]
theorem stz_law_10 {s0 s1 s2 s3 s4 s5 s7 s8 s9 s11 s13 s14 s15 s16 s17 : S} (second : (List (List Int))) : (sFz 12 (sSet 1 12 (cz_law_4 FnZclean))) [s0, s1, s2, s3, s4, s5, (vM second), s7, s8, s9, .no, s11, .no, s13, s14, s15, s16, s17] = (mapT (fcz_law_2 second) second).bind fun v19 => some (.nx [s0, s1, s2, s3, s4, s5, (vM second), s7, s8, s9, .no, s11, (vM v19), s13, s14, s15, s16, s17]) := by
 simp? only [lcz_law_4]
theorem stz_law_11 {s0 s2 s3 s4 s5 s6 s7 s8 s9 s10 s11 s12 s14 s15 s16 s17 : S} (shape : (List Int)) : (sFz 13 (sSet 1 13 (eLst (aCons (eAdd (eC (.int 1)) (eCall [true, false] FnZdraw (aCons (eVar 1) (aCons (eC (.int 30)) aNil)))) (aCons (eAdd (eC (.int 1)) (eCall [true, false] FnZdraw (aCons (eVar 1) (aCons (eC (.int 40)) aNil)))) aNil))))) [s0, (oL shape), s2, s3, s4, s5, s6, s7, s8, s9, s10, s11, s12, .no, s14, s15, s16, s17] = (tZdraw shape (30 : Int)).bind fun v20 => (tZdraw v20.2 (40 : Int)).bind fun v21 => some (.nx [s0, (oL v21.2), s2, s3, s4, s5, s6, s7, s8, s9, s10, s11, s12, .val (.lst (List.map D.int [((1 : Int) + v20.1), ((1 : Int) + v21.1)])), s14, s15, s16, s17]) := by
 simp? only [eqZdraw]
theorem lcsz_law_5 {s0 s1 s2 s3 s4 s5 s6 s7 s8 s9 s10 s11 s12 s14 s15 s16 : S} (high : (List Int)) (v26 : Int) : lcS (gN 17) tYes' (eMul (eC (.int 7)) (eVar 17)) [17] (.int v26) [s0, s1, s2, s3, s4, s5, s6, s7, s8, s9, s10, s11, s12, (vL high), s14, s15, s16, .no] = some (some (D.int ((7 : Int) * v26)), [s0, s1, s2, s3, s4, s5, s6, s7, s8, s9, s10, s11, s12, (vL high), s14, s15, s16, .no]) := by
 simp? only [lcS, (fun i => mulOk_l (by decide) : ∀ i, mulOk 7 i = true)]
theorem lcz_law_5 {s0 s1 s2 s3 s4 s5 s6 s7 s8 s9 s10 s11 s12 s14 s15 s16 : S} (high : (List Int)) {γ : Type} {kx : Xn → List S → Option γ} {k : Rv → List S → Option γ} : cps cz_law_5 [s0, s1, s2, s3, s4, s5, s6, s7, s8, s9, s10, s11, s12, (vL high), s14, s15, s16, .no] kx k = (atI high (1 : Int)).bind fun v24 => (rngT v24).bind fun v25 => k (.own (.lst (List.map D.int (List.map (fun (v26 : Int) => ((7 : Int) * v26)) v25)))) [s0, s1, s2, s3, s4, s5, s6, s7, s8, s9, s10, s11, s12, (vL high), s14, s15, s16, .no] := by
 have hh := fun {γ : Type} {kx : Xn → List S → Option γ} (high : (List Int)) (xs : List Int) (h' : List D → List S → Option γ) => cps_lcP (e := D.int) (e' := D.int) (ρ := [s0, s1, s2, s3, s4, s5, s6, s7, s8, s9, s10, s11, s12, .val (.lst (List.map D.int high)), s14, s15, s16, .no]) (kx := kx) (f := fun (v26 : Int) => ((7 : Int) * v26)) xs (lcsz_law_5 high) h'
 simp? only [cz_law_5, hh]
theorem stz_law_12 {s0 s1 s2 s3 s4 s5 s6 s7 s8 s9 s10 s11 s12 s15 s16 : S} (high : (List Int)) : (sFz 14 (sSet 1 14 (eMake "Box" [false] Fn_Box_DinitD (aCons (eBrw (eLst (aCons (eBrw (eLRg (eIx (eVar 13) (eC (.int 0))))) (aCons (eBrw cz_law_5) aNil)))) aNil)))) [s0, s1, s2, s3, s4, s5, s6, s7, s8, s9, s10, s11, s12, (vL high), .no, s15, s16, .no] = (atI high (0 : Int)).bind fun v22 => (rngT v22).bind fun v23 => (atI high (1 : Int)).bind fun v24 => (rngT v24).bind fun v25 => (t_Box_DinitD (false, [(false, v23), (false, (List.map (fun (v26 : Int) => ((7 : Int) * v26)) v25))])).bind fun v27 => some (.nx [s0, s1, s2, s3, s4, s5, s6, s7, s8, s9, s10, s11, s12, (vL high), .val (e_Box v27), s15, s16, .no]) := by
 have q0 := fun v23 v25 => eq_Box_DinitD (false, [(false, v23), (false, (List.map (fun (v26 : Int) => ((7 : Int) * v26)) v25))])
 try simp? only [Tl.ob_some] at q0
 simp? only [lcz_law_5, q0]
theorem stz_law_13 {s0 s1 s2 s3 s4 s5 s6 s7 s8 s9 s10 s11 s12 s13 s16 s17 : S} (big : T_Box) : (sFz 15 (sSet 1 15 (eLOwn "Box" "rows" (eVar 14)))) [s0, s1, s2, s3, s4, s5, s6, s7, s8, s9, s10, s11, s12, s13, .val (e_Box big), .no, s16, s17] = some (.nx [s0, s1, s2, s3, s4, s5, s6, s7, s8, s9, s10, s11, s12, s13, .val (e_Box big), .val (.lst (mT big.rows)), s16, s17]) := by
 simp? only [itF_Box]
theorem stz_law_14 {s0 s1 s2 s3 s4 s5 s6 s7 s8 s9 s10 s11 s12 s14 s15 s17 : S} (high : (List Int)) : (sSet 1 16 (eTup (aCons (eSub (eIx (eVar 13) (eC (.int 0))) (eC (.int 1))) (aCons (eMul (eC (.int 7)) (eSub (eIx (eVar 13) (eC (.int 1))) (eC (.int 1)))) aNil)))) [s0, s1, s2, s3, s4, s5, s6, s7, s8, s9, s10, s11, s12, (vL high), s14, s15, .no, s17] = (atI high (0 : Int)).bind fun v28 => (atI high (1 : Int)).bind fun v29 => some (.nx [s0, s1, s2, s3, s4, s5, s6, s7, s8, s9, s10, s11, s12, (vL high), s14, s15, .val (.tup (List.map D.int [(v28 - (1 : Int)), ((7 : Int) * (v29 - (1 : Int)))])), s17]) := by
 simp? only [(fun i => mulOk_l (by decide) : ∀ i, mulOk 7 i = true)]
theorem tstz_law_1 {s0 s1 s2 s3 s4 s5 s6 s7 s8 s9 s10 s11 s12 s17 : S} (high : (List Int)) (big : T_Box) (rows : (List (List Int))) (last : (List Int)) {γ : Type} {kx : Xn → List S → Option γ} {k : Bool → List S → Option γ} : cps (tz_law_1 FnZis_numbers Fn_Box_DcontainsD) [s0, s1, s2, s3, s4, s5, s6, s7, s8, s9, s10, s11, s12, (vL high), .val (e_Box big), .val (.lst (mT rows)), (vT last), s17] kx k = (atI high (0 : Int)).bind fun v30 => (atI high (1 : Int)).bind fun v31 => (gb (mulOk v30 v31)).bind fun _ => ((if (!decide (((List.length rows : Nat) : Int) = (v30 * v31))) = true then some true else (atI rows (-(1 : Int))).bind fun v32 => (tZis_numbers v32 (true, last)).bind fun v33 => (if (!v33) = true then some true else (t_Box_DcontainsD big (List.map (fun y => (IB.i y)) last)).bind fun v34 => some (!v34)))).bind fun v35 => k (v35) [s0, s1, s2, s3, s4, s5, s6, s7, s8, s9, s10, s11, s12, (vL high), .val (e_Box big), .val (.lst (mT rows)), (vT last), s17] := by
 have ka : ∀ (a b : Bool) (ρ : List S), (if a = true then k b ρ else k false ρ) = k (a && b) ρ := fun a b ρ => by cases a <;> rfl
 have ko : ∀ (a b : Bool) (ρ : List S), (if a = true then k true ρ else k b ρ) = k (a || b) ρ := fun a b ρ => by cases a <;> rfl
 have q0 := fun (v32 : (List Int)) => eqZis_numbers v32 (true, last)
 try simp? only [Tl.ob_some] at q0
 have q1 := eq_Box_DcontainsD big (List.map (fun y => (IB.i y)) last)
 try simp? only [Tl.ob_some] at q1
 simp? only [tz_law_1, q0, q1, isObj_Box]
theorem tstz_law_2 {s0 s1 s2 s3 s4 s5 s6 s7 s8 s9 s10 s11 s12 s17 : S} (high : (List Int)) (big : T_Box) (rows : (List (List Int))) (last : (List Int)) {γ : Type} {kx : Xn → List S → Option γ} {k : Bool → List S → Option γ} : cps (tz_law_1 FnZis_numbers Fn_Box_DcontainsD) [s0, s1, s2, s3, s4, s5, s6, s7, s8, s9, s10, s11, s12, (vL high), .val (e_Box big), .val (.lst (mT rows)), (vT last), s17] kx k = (atI high (0 : Int)).bind fun v30 => (atI high (1 : Int)).bind fun v31 => (gb (mulOk v30 v31)).bind fun _ => ((if (!decide (((List.length rows : Nat) : Int) = (v30 * v31))) = true then some true else (atI rows (-(1 : Int))).bind fun v32 => (tZis_numbers v32 (true, last)).bind fun v33 => (if (!v33) = true then some true else (t_Box_DcontainsD big (List.map (fun y => (IB.i y)) last)).bind fun v34 => some (!v34)))).bind fun v35 => k v35 [s0, s1, s2, s3, s4, s5, s6, s7, s8, s9, s10, s11, s12, (vL high), .val (e_Box big), .val (.lst (mT rows)), (vT last), s17] := by
 simp? only [tstz_law_1]
theorem stz_law_15 {s0 s1 s2 s3 s4 s5 s6 s7 s8 s9 s10 s11 s12 s13 s14 s15 s16 s17 : S}  : (sRtA [0, 1, 2, 3, 4, 5, 6, 7, 8, 9, 10, 11, 12, 13, 14, 15, 16, 17] (sRet (eC (.bl false)))) [s0, s1, s2, s3, s4, s5, s6, s7, s8, s9, s10, s11, s12, s13, s14, s15, s16, s17] = some (.rt (.val (.bl false)) [.no, .no, .no, .no, .no, .no, .no, .no, .no, .no, .no, .no, .no, .no, .no, .no, .no, .no]) := by
 simp? only [Tl.ob_some]
theorem tstz_law_3 {s0 s1 s3 s4 s5 s6 s7 s10 s13 s14 s15 s16 s17 : S} (source : (List Int)) (box : T_Box) (other : T_Box) (one : (List (List Int))) (two : (List (List Int))) {γ : Type} {kx : Xn → List S → Option γ} {k : Rv → List S → Option γ} : cps (ez_law_1 FnZis_box) [s0, s1, (oL source), s3, s4, s5, s6, s7, .val (e_Box box), .val (e_Box other), s10, (vM one), (vM two), s13, s14, s15, s16, s17] kx k = (tZis_box box one source).bind fun v36 => ((if v36.1 = true then (tZis_box other two v36.2).bind fun v37 => (if v37.1 = true then (tZis_box box one v37.2).bind fun v38 => some (v38.1, v38.2) else some (v37.1, v37.2)) else some (v36.1, v36.2))).bind fun v39 => k (.val (.bl (v39.1))) [s0, s1, (oL v39.2), s3, s4, s5, s6, s7, .val (e_Box box), .val (e_Box other), s10, (vM one), (vM two), s13, s14, s15, s16, s17] := by
 have ka : ∀ (a b : Bool) (ρ : List S), (if a = true then k (.val (.bl b)) ρ else k (.val (.bl a)) ρ) = k (.val (.bl (a && b))) ρ := fun a b ρ => by cases a <;> rfl
 have ko : ∀ (a b : Bool) (ρ : List S), (if a = true then k (.val (.bl a)) ρ else k (.val (.bl b)) ρ) = k (.val (.bl (a || b))) ρ := fun a b ρ => by cases a <;> rfl
 simp? only [ez_law_1, eqZis_box]
theorem stz_law_16 {s0 s1 s3 s4 s5 s6 s7 s10 s13 s14 s15 s16 s17 : S} (source : (List Int)) (box : T_Box) (other : T_Box) (one : (List (List Int))) (two : (List (List Int))) : (sRtA [0, 1, 2, 3, 4, 5, 6, 7, 8, 9, 10, 11, 12, 13, 14, 15, 16, 17] (sRet (ez_law_1 FnZis_box))) [s0, s1, (oL source), s3, s4, s5, s6, s7, .val (e_Box box), .val (e_Box other), s10, (vM one), (vM two), s13, s14, s15, s16, s17] = (tZis_box box one source).bind fun v36 => ((if v36.1 = true then (tZis_box other two v36.2).bind fun v37 => (if v37.1 = true then (tZis_box box one v37.2).bind fun v38 => some (v38.1, v38.2) else some (v37.1, v37.2)) else some (v36.1, v36.2))).bind fun v39 => some (.rt (.val (.bl v39.1)) [.no, .no, .no, .no, .no, .no, .no, .no, .no, .no, .no, .no, .no, .no, .no, .no, .no, .no]) := by
 simp? only [tstz_law_3]
def tp_bx5 (script : (List Int)) (shape : (List Int)) (source : (List Int)) (span : Int) (many : Int) (first : (List (List Int))) (second : (List (List Int))) (box : T_Box) (other : T_Box) : Option (Cf Unit (Bool)) := (mapT (fcz_law_1 first) first).bind fun v16 => let one := v16; (mapT (fcz_law_2 second) second).bind fun v19 => let two := v19; (tZdraw shape (30 : Int)).bind fun v20 => (tZdraw v20.2 (40 : Int)).bind fun v21 => let shape_n := v21.2; let high_n := [((1 : Int) + v20.1), ((1 : Int) + v21.1)]; let shape := shape_n; let high := high_n; (atI high (0 : Int)).bind fun v22 => (rngT v22).bind fun v23 => (atI high (1 : Int)).bind fun v24 => (rngT v24).bind fun v25 => (t_Box_DinitD (false, [(false, v23), (false, (List.map (fun (v26 : Int) => ((7 : Int) * v26)) v25))])).bind fun v27 => let big := v27; let rows := big.rows; (atI high (0 : Int)).bind fun v28 => (atI high (1 : Int)).bind fun v29 => let last := [(v28 - (1 : Int)), ((7 : Int) * (v29 - (1 : Int)))]; (atI high (0 : Int)).bind fun v30 => (atI high (1 : Int)).bind fun v31 => (gb (mulOk v30 v31)).bind fun _ => ((if (!decide (((List.length rows : Nat) : Int) = (v30 * v31))) = true then some true else (atI rows (-(1 : Int))).bind fun v32 => (tZis_numbers v32 (true, last)).bind fun v33 => (if (!v33) = true then some true else (t_Box_DcontainsD big (List.map (fun y => (IB.i y)) last)).bind fun v34 => some (!v34)))).bind fun v35 => if v35 = true then some (.rt false) else (tZis_box box one source).bind fun v36 => ((if v36.1 = true then (tZis_box other two v36.2).bind fun v37 => (if v37.1 = true then (tZis_box box one v37.2).bind fun v38 => some (v38.1, v38.2) else some (v37.1, v37.2)) else some (v36.1, v36.2))).bind fun v39 => some (.rt v39.1)
theorem pl_bx5 (script : (List Int)) (shape : (List Int)) (source : (List Int)) (span : Int) (many : Int) (first : (List (List Int))) (second : (List (List Int))) (box : T_Box) (other : T_Box) : (pc_bx5 FnZclean FnZdraw Fn_Box_DinitD FnZis_numbers Fn_Box_DcontainsD FnZis_box) [.val (.scr script), (oL shape), (oL source), (vI span), (vI many), (vM first), (vM second), .no, .val (e_Box box), .val (e_Box other), .no, .no, .no, .no, .no, .no, .no, .no] = (tp_bx5 script shape source span many first second box other).bind fun o => some (cfO (fun env => [.val (.scr script), .no, .no, (vI span), (vI many), (vM first), (vM second), .no, .val (e_Box box), .val (e_Box other), .no, .no, .no, .no, .no, .no, .no, .no]) (fun r => (.val (.bl r))) (fun r => [.no, .no, .no, .no, .no, .no, .no, .no, .no, .no, .no, .no, .no, .no, .no, .no, .no, .no]) o) := by
 dsimp? only [pc_bx5, tp_bx5, gT_eq, gsN_eq, gsC_eq, l_cons, l_nil, stz_law_9, stz_law_10, stz_law_11, stz_law_12, stz_law_13, stz_law_14, tstz_law_2, stz_law_15, stz_law_16]
section zlaw
def okL (xs : List (List Int)) : Bool := decide (xs.length < sizeLine) && xs.all fun r => decide (r.length < sizeLine)
def t_law (script : List Int) : Option Bool := (tp_bx1 script).bind fun o => (gb (okL o.2.2.2.2.1)).bind fun _ => (t_Box_DinitD (false, List.map (fun y => (false, y)) o.2.2.2.2.1)).bind fun box => (tp_bx2 o.2.2.2.2.2).bind fun other => (tp_bx5 script o.1 o.2.1 o.2.2.1 o.2.2.2.1 o.2.2.2.2.1 o.2.2.2.2.2 box other).bind fun r => match r with
 | .rt b => some b
 | _ => none
def Fn_law : Fn
 | [.val (.scr ns)] => (t_law ns).bind fun r => some (.ret (.val (.bl r)) [.val (.scr ns)])
 | _ => none
theorem eq_law : ∀ (script : List Int), Fn_law [.val (.scr script)] = (t_law script).bind fun r => some (.ret (.val (.bl r)) [.val (.scr script)]) := fun _ => rfl
def nv : S → Bool
 | .own _ => false
 | _ => true
theorem walk02 {s0 s1 s2 s3 s4 s5 s6 s7 s8 s9 s11 s12 s13 s14 s15 s16 s17 : S} {p : Addr} {all : List D} : ∀ (bs : List Addr) (s : S) (A : Ar) (Φ : OA → Prop), nv s = true → (p, all) ∈ A → bs.Nodup → (∀ b ∈ bs, b ≠ p ∧ ∃ ds, (b, ds) ∈ A ∧ ds.length < sizeLine) →
  (∀ s' A', nv s' = true → (p, all) ∈ A' → Φ (.nx [s0, s1, s2, s3, s4, s5, s6, s7, s8, s9, s', s11, s12, s13, s14, s15, s16, s17] A')) → zForNL p all (gN 10) (zExpr (zApp (zE (eVar 10)) (eC (.int 5)))) (bs.map D.loc) [s0, s1, s2, s3, s4, s5, s6, s7, s8, s9, s, s11, s12, s13, s14, s15, s16, s17] A Φ
 | [], s, A, Φ, hs, hp, _, _, k => ⟨hp, k s A hs hp⟩
 | b :: bs, s, A, Φ, hs, hp, nd, h, k => by
  obtain ⟨n1, n2⟩ := List.nodup_cons.mp nd
  obtain ⟨hb, ds, h1, h2⟩ := h b List.mem_cons_self
  refine ⟨hp, [s0, s1, s2, s3, s4, s5, s6, s7, s8, s9, .val (.loc b), s11, s12, s13, s14, s15, s16, s17], ?_, .val (.loc b), _, rfl, b, rfl, .int 5, _, rfl, ds, h1, h2, ?_⟩
  · cases s with
    | own d => cases hs
    | _ => rfl
  · refine walk02 bs (.val (.loc b)) _ Φ rfl (put_ne hp (Ne.symm hb)) n2 (fun b' hb' => ?_) k
    obtain ⟨q1, ds', q2, q3⟩ := h b' (List.mem_cons_of_mem _ hb')
    exact ⟨q1, ds', put_ne q2 fun z => n1 (z ▸ hb'), q3⟩
theorem law_z02 (ns : List Int) (r : Bool) (ht : t_law ns = some r) : z_law FnZsource FnZcell FnZdraw FnZdraw_sides Fn_Box_DinitD FnZclean FnZis_numbers Fn_Box_DcontainsD FnZis_box ([.val (.scr ns)] ++ List.replicate 17 .no) [] fun o' => ∃ q ρ', o' = .rt q ρ' [] ∧ (∀ i, q ≠ .ali i) ∧ Of.ret (.val (.bl r)) [.val (.scr ns)] = .ret q (post [.val (.scr ns)] ρ') := by
 unfold t_law at ht
 obtain ⟨o, e1, ht⟩ := Option.bind_eq_some_iff.mp ht
 obtain ⟨_, eg, ht⟩ := Option.bind_eq_some_iff.mp ht
 obtain ⟨box, e2, ht⟩ := Option.bind_eq_some_iff.mp ht
 obtain ⟨other, e3, ht⟩ := Option.bind_eq_some_iff.mp ht
 obtain ⟨w, e5, ht⟩ := Option.bind_eq_some_iff.mp ht
 have hok : okL o.2.2.2.2.1 = true := by
  cases q : okL o.2.2.2.2.1 with
  | true => rfl
  | false => rw [q] at eg; cases eg
 obtain ⟨k1, k2⟩ := Bool.and_eq_true_iff.mp (show (decide (List.length o.2.2.2.2.1 < sizeLine) && List.all o.2.2.2.2.1 fun r => decide (r.length < sizeLine)) = true from hok)
 have k1 := of_decide_eq_true k1
 have h1 := pl_bx1 (s7 := .no) (s8 := .no) (s9 := .no) (s10 := .no) (s11 := .no) (s12 := .no) (s13 := .no) (s14 := .no) (s15 := .no) (s16 := .no) (s17 := .no) ns
 rw [e1] at h1
 refine zBlk_nx (fs := [_, _, _, _, _, _]) h1 ?_
 refine ⟨(List.map (fun x => (D.lst (List.map D.int x))) o.2.2.2.2.1), [.val (.scr ns), .own (.lst (List.map D.int o.1)), .own (.lst (List.map D.int o.2.1)), .val (.int o.2.2.1), .val (.int o.2.2.2.1), .val (.lst (List.map (fun x => (D.lst (List.map D.int x))) o.2.2.2.2.1)), .val (.lst (List.map (fun x => (D.lst (List.map D.int x))) o.2.2.2.2.2)), .no, .no, .no, .no, .no, .no, .no, .no, .no, .no, .no], List.map (fun x => List.map D.int x) o.2.2.2.2.1, [.val (.scr ns), .own (.lst (List.map D.int o.1)), .own (.lst (List.map D.int o.2.1)), .val (.int o.2.2.1), .val (.int o.2.2.2.1), .val (.lst (List.map (fun x => (D.lst (List.map D.int x))) o.2.2.2.2.1)), .val (.lst (List.map (fun x => (D.lst (List.map D.int x))) o.2.2.2.2.2)), .no, .no, .no, .no, .no, .no, .no, .no, .no, .no, .no], ?_, ?_, ?_, fun bs bl bn bk => ⟨_, rfl, _, rfl, fun p hp => ?_⟩⟩
 · refine eq_cps (fun γ kx k' => ?_)
   simp? only [Tl.ob_some]
   try rfl
 · rfl
 · exact lcN_all (e := fun x : List Int => D.lst (List.map D.int x)) (h := fun x : List Int => List.map D.int x) (fun x => ⟨[.val (.scr ns), .own (.lst (List.map D.int o.1)), .own (.lst (List.map D.int o.2.1)), .val (.int o.2.2.1), .val (.int o.2.2.2.1), .val (.lst (List.map (fun x => (D.lst (List.map D.int x))) o.2.2.2.2.1)), .val (.lst (List.map (fun x => (D.lst (List.map D.int x))) o.2.2.2.2.2)), .no, .no, .no, .val (.lst (List.map D.int x)), .no, .no, .no, .no, .no, .no, .no], _, rfl, rfl, rfl⟩) o.2.2.2.2.1 []
 have bl : bs.length = (List.map (fun x => List.map D.int x) o.2.2.2.2.1).length := bl
 obtain ⟨A, hA⟩ : ∃ A : Ar, (p, List.map D.loc bs) :: (nodesL bs (List.map (fun x => List.map D.int x) o.2.2.2.2.1) ++ []) = A := ⟨_, rfl⟩
 have nk : keys (nodesL bs (List.map (fun x => List.map D.int x) o.2.2.2.2.1) ++ []) = bs.reverse := by rw [List.append_nil]; exact nodes_keys bl
 have hpb : p ∉ bs := fun z => hp (by rw [nk]; exact List.mem_reverse.mpr z)
 have nd : (keys A).Nodup := by
  rw [← hA]
  refine List.nodup_cons.mpr ⟨hp, ?_⟩
  rw [List.append_nil]
  exact nodes_nodup bl bn
 have hm : (p, List.map D.loc bs) ∈ A := by rw [← hA]; exact List.mem_cons_self
 have hn : ∀ q ∈ bs.zip (List.map (fun x => List.map D.int x) o.2.2.2.2.1), q ∈ A := fun q hq => by
  rw [← hA]
  refine List.mem_cons_of_mem _ ?_
  rw [List.append_nil]
  exact mem_nodes hq
 have uB : unlB A 2 (.loc p) = .brw (List.map (fun x => D.brw (List.map D.int x)) o.2.2.2.2.1) := by
  rw [unlB_loc nd hm 1, unlB_nodes nd 0 bs _ bl hn, List.map_map]
  congr 1
  exact List.map_congr_left fun x _ => congrArg D.brw (unlB0 A _)
 have uL : Dl.unl A 2 (.loc p) = .lst (List.map (fun x => (D.lst (List.map D.int x))) o.2.2.2.2.1) := by
  rw [unl_loc nd hm 1, unl_nodes nd 0 bs _ bl hn, List.map_map]
  congr 1
  exact List.map_congr_left fun x _ => congrArg D.lst (unl0 A _)
 rw [hA]
 refine ⟨.own (e_Box box), ?_, ?_, nb_Box box, _, rfl, ?_⟩
 · show (eMake "Box" [false] Fn_Box_DinitD (aCons (eVar 7) aNil)) [.val (.scr ns), .own (.lst (List.map D.int o.1)), .own (.lst (List.map D.int o.2.1)), .val (.int o.2.2.1), .val (.int o.2.2.2.1), .val (.lst (List.map (fun x => (D.lst (List.map D.int x))) o.2.2.2.2.1)), .val (.lst (List.map (fun x => (D.lst (List.map D.int x))) o.2.2.2.2.2)), .val (unlB A 2 (.loc p)), .no, .no, .no, .no, .no, .no, .no, .no, .no, .no] = some (.ok (.own (e_Box box)) [.val (.scr ns), .own (.lst (List.map D.int o.1)), .own (.lst (List.map D.int o.2.1)), .val (.int o.2.2.1), .val (.int o.2.2.2.1), .val (.lst (List.map (fun x => (D.lst (List.map D.int x))) o.2.2.2.2.1)), .val (.lst (List.map (fun x => (D.lst (List.map D.int x))) o.2.2.2.2.2)), .val (unlB A 2 (.loc p)), .no, .no, .no, .no, .no, .no, .no, .no, .no, .no])
   rw [uB]
   have q0 := eq_Box_DinitD (false, List.map (fun y => (false, y)) o.2.2.2.2.1)
   rw [e2] at q0
   have q0 : Fn_Box_DinitD [.own (.obj "Box" [] []), .val (.brw (List.map (fun x => D.brw (List.map D.int x)) o.2.2.2.2.1))] = some (.ret (.val .non) [.own (e_Box box), .val (.brw (List.map (fun x => D.brw (List.map D.int x)) o.2.2.2.2.1))]) := by
    have ee : eBq (fun x => (eBq D.int x)) (false, List.map (fun y => (false, y)) o.2.2.2.2.1) = .brw (List.map (fun x => D.brw (List.map D.int x)) o.2.2.2.2.1) := by
     rw [eBq_l, List.map_map]; rfl
    rw [ee] at q0
    exact q0
   refine eq_cps (fun γ kx k' => ?_)
   simp? only [q0]
   try rfl
 · show noBS [.val (.scr ns), .own (.lst (List.map D.int o.1)), .own (.lst (List.map D.int o.2.1)), .val (.int o.2.2.1), .val (.int o.2.2.2.1), .val (.lst (List.map (fun x => (D.lst (List.map D.int x))) o.2.2.2.2.1)), .val (.lst (List.map (fun x => (D.lst (List.map D.int x))) o.2.2.2.2.2)), .val (.loc p), .no, .no, .no, .no, .no, .no, .no, .no, .no, .no] = true
   simp? only [Bool.and_self]
 have h3 := pl_bx2 (s0 := .val (.scr ns)) (s1 := .own (.lst (List.map D.int o.1))) (s2 := .own (.lst (List.map D.int o.2.1))) (s3 := .val (.int o.2.2.1)) (s4 := .val (.int o.2.2.2.1)) (s5 := .val (.lst (List.map (fun x => (D.lst (List.map D.int x))) o.2.2.2.2.1))) (s7 := .val (.loc p)) (s8 := .val (e_Box box)) (s11 := .no) (s12 := .no) (s13 := .no) (s14 := .no) (s15 := .no) (s16 := .no) (s17 := .no) o.2.2.2.2.2
 rw [e3] at h3
 refine zBlk_nx (fs := [_]) (ρ := [.val (.scr ns), .own (.lst (List.map D.int o.1)), .own (.lst (List.map D.int o.2.1)), .val (.int o.2.2.1), .val (.int o.2.2.2.1), .val (.lst (List.map (fun x => (D.lst (List.map D.int x))) o.2.2.2.2.1)), .val (.lst (List.map (fun x => (D.lst (List.map D.int x))) o.2.2.2.2.2)), .val (.loc p), .val (e_Box box), .no, .no, .no, .no, .no, .no, .no, .no, .no]) h3 ?_
 refine ⟨false, ?_, ?_, ?_⟩
 · show (tCmp (eNe (eVar 7) (eVar 5))) [.val (.scr ns), .own (.lst (List.map D.int o.1)), .own (.lst (List.map D.int o.2.1)), .val (.int o.2.2.1), .val (.int o.2.2.2.1), .val (.lst (List.map (fun x => (D.lst (List.map D.int x))) o.2.2.2.2.1)), .val (.lst (List.map (fun x => (D.lst (List.map D.int x))) o.2.2.2.2.2)), .val (Dl.unl A 2 (.loc p)), .val (e_Box box), .val (e_Box other), .no, .no, .no, .no, .no, .no, .no, .no] = some (.ok false [.val (.scr ns), .own (.lst (List.map D.int o.1)), .own (.lst (List.map D.int o.2.1)), .val (.int o.2.2.1), .val (.int o.2.2.2.1), .val (.lst (List.map (fun x => (D.lst (List.map D.int x))) o.2.2.2.2.1)), .val (.lst (List.map (fun x => (D.lst (List.map D.int x))) o.2.2.2.2.2)), .val (Dl.unl A 2 (.loc p)), .val (e_Box box), .val (e_Box other), .no, .no, .no, .no, .no, .no, .no, .no])
   rw [uL]
   refine eq_cps (fun γ kx k' => ?_)
   simp? only [(((pd_int).lst).lst.ne (by decide)), decide_true]
   try rfl
 · simp only [List.all_cons, List.all_nil, scS, sc_ints, Bool.and_true]
 refine ⟨.val (.loc p), _, rfl, p, List.map D.loc bs, rfl, hm, walk02 bs .no A _ rfl hm bn (fun b hb => ?_) fun s' A' hs' hm' => ?_⟩
 · obtain ⟨l, q1, q2⟩ := mem_zip_of bl hb
   refine ⟨fun z => hpb (z ▸ hb), l, hn _ q1, ?_⟩
   obtain ⟨x, hx, rfl⟩ := List.mem_map.mp q2
   rw [List.length_map]
   exact of_decide_eq_true (List.all_eq_true.mp k2 x hx)
 refine ⟨.val (.loc p), _, rfl, p, rfl, .lst [.int 1], [.val (.scr ns), .own (.lst (List.map D.int o.1)), .own (.lst (List.map D.int o.2.1)), .val (.int o.2.2.1), .val (.int o.2.2.2.1), .val (.lst (List.map (fun x => (D.lst (List.map D.int x))) o.2.2.2.2.1)), .val (.lst (List.map (fun x => (D.lst (List.map D.int x))) o.2.2.2.2.2)), .val (.loc p), .val (e_Box box), .val (e_Box other), s', .no, .no, .no, .no, .no, .no, .no], rfl, List.map D.loc bs, hm', by rw [List.length_map, bl, List.length_map]; exact k1, ?_⟩
 obtain ⟨B, hB⟩ : ∃ B : Ar, Ar.put A' p (List.map D.loc bs ++ [.lst [.int 1]]) = B := ⟨_, rfl⟩
 rw [hB]
 have h5 := pl_bx5 ns o.1 o.2.1 o.2.2.1 o.2.2.2.1 o.2.2.2.2.1 o.2.2.2.2.2 box other
 rw [e5] at h5
 have est : nrm [(7, true), (10, true)] (([.val (.scr ns), .own (.lst (List.map D.int o.1)), .own (.lst (List.map D.int o.2.1)), .val (.int o.2.2.1), .val (.int o.2.2.2.1), .val (.lst (List.map (fun x => (D.lst (List.map D.int x))) o.2.2.2.2.1)), .val (.lst (List.map (fun x => (D.lst (List.map D.int x))) o.2.2.2.2.2)), .val (.loc p), .val (e_Box box), .val (e_Box other), s', .no, .no, .no, .no, .no, .no, .no] : List S).map (unlS B 2)) = [.val (.scr ns), .own (.lst (List.map D.int o.1)), .own (.lst (List.map D.int o.2.1)), .val (.int o.2.2.1), .val (.int o.2.2.2.1), .val (.lst (List.map (fun x => (D.lst (List.map D.int x))) o.2.2.2.2.1)), .val (.lst (List.map (fun x => (D.lst (List.map D.int x))) o.2.2.2.2.2)), .no, .val (e_Box box), .val (e_Box other), .no, .no, .no, .no, .no, .no, .no, .no] := by
  cases s' with
  | own d => cases hs'
  | _ => rfl
 cases w with
 | rt x =>
  cases ht
  refine ⟨.rt (.val (.bl r)) [.no, .no, .no, .no, .no, .no, .no, .no, .no, .no, .no, .no, .no, .no, .no, .no, .no, .no], ?_, ?_⟩
  · exact (congrArg (pc_bx5 FnZclean FnZdraw Fn_Box_DinitD FnZis_numbers Fn_Box_DcontainsD FnZis_box) est).trans h5
  · exact ⟨_, _, rfl, fun i z => (nomatch z), rfl⟩
 | _ => cases ht
theorem still_law : StillFn 1 18 (z_law FnZsource FnZcell FnZdraw FnZdraw_sides Fn_Box_DinitD FnZclean FnZis_numbers Fn_Box_DcontainsD FnZis_box) Fn_law := fun ss o h => by
 unfold Fn_law at h
 split at h
 · rename_i a
   obtain ⟨r, e, h⟩ := Option.bind_eq_some_iff.mp h
   cases h
   exact ⟨rfl, law_z02 a r e⟩
 · cases h
end zlaw
end
end My
namespace My
open PySem Dl Tl
open L2 (ixN atI)
structure Src where
 a : Int
 b : Int
 c : Int
def Src.l (s : Src) : List Int := [s.a, s.b, s.c]
def mix1 (b c : Int) : Int := (c * 48271 + b * 69621) % 2147483647
def mix2 (b c : Int) : Int := (mix1 b c * mix1 b c + b * 40692 + 7) % 2147483629
def Src.get (s : Src) (n : Int) : Int := if 0 < s.a then s.a % n else (mix2 (s.b + 1) s.c / 8 + mix2 (s.b + 1) s.c * 10000019) % n
def Src.next (s : Src) (n : Int) : Src := ⟨if 0 < s.a then s.a / n else s.a, s.b + 1, s.c⟩
theorem Src.get_nonneg (s : Src) {n : Int} (h : 0 < n) : 0 ≤ s.get n := by
 unfold Src.get
 split <;> exact Int.emod_nonneg _ (by omega)
theorem Src.get_lt (s : Src) {n : Int} (h : 0 < n) : s.get n < n := by
 unfold Src.get
 split <;> exact Int.emod_lt_of_pos _ h
def cellV (ns : List Int) (k : Int) : Int := ns.getD k.toNat 0
theorem cell_eq (ns : List Int) (k : Nat) : tZcell ns k = some (cellV ns k) := by
 unfold tZcell
 by_cases hl : k < ns.length
 · have h1 : decide ((k : Int) < ((List.length ns : Nat) : Int)) = true := decide_eq_true (by omega)
   rw [if_pos h1, atI_nat]
   simp [cellV, List.getElem?_eq_getElem hl]
 · have h1 : decide ((k : Int) < ((List.length ns : Nat) : Int)) = false := decide_eq_false (by omega)
   rw [if_neg (by rw [h1]; exact Bool.false_ne_true)]
   simp [cellV, List.getElem?_eq_none (by omega : ns.length ≤ k)]
def srcV (n : Int) : Src := if 10 ^ 18 ≤ n then ⟨n, 0, n⟩ else ⟨0, 0, n⟩
theorem source_eq (n : Int) : tZsource n = some (srcV n).l := by
 unfold tZsource srcV
 by_cases h : (10 : Int) ^ 18 ≤ n
 · rw [if_pos (decide_eq_true (by omega)), if_pos h]; rfl
 · rw [if_neg (by rw [decide_eq_false (by omega)]; exact Bool.false_ne_true), if_neg h]; rfl
theorem set3_0 (a b c v : Int) : setT [a, b, c] 0 v = some [v, b, c] := rfl
theorem set3_1 (a b c v : Int) : setT [a, b, c] 1 v = some [a, v, c] := rfl
theorem draw_eq (s : Src) {n : Int} (h : 0 < n ∧ n < 2 ^ 64) : tZdraw s.l n = some (s.get n, (s.next n).l) := by
 obtain ⟨a, b, c⟩ := s
 have m1 : ∀ i, modOk i n = true := fun i => decide_eq_true h.1
 have d1 : ∀ i, divOk i n = true := fun i => decide_eq_true h
 have g1 := fun i => gb_ok (m1 i)
 have g2 := fun i => gb_ok (d1 i)
 unfold tZdraw Src.get Src.next Src.l
 by_cases ha : 0 < a
 · simp only [at0, at1, at2, set3_0, set3_1, Option.bind_some, decide_eq_true ha, g1, g2, if_true, ha, decide_true]
 · have q1 := Int.emod_nonneg (c * 48271 + (b + 1) * 69621) (b := 2147483647) (by omega)
   have q2 := Int.emod_lt_of_pos (c * 48271 + (b + 1) * 69621) (b := 2147483647) (by omega)
   have g3 : gb (mulOk (mix1 (b + 1) c) (mix1 (b + 1) c)) = some () := gb_ok (mulOk_r (decide_eq_true (by unfold mix1; omega)))
   have e1 : (c * 48271 + (b + 1) * 69621) % 2147483647 = mix1 (b + 1) c := rfl
   have e2 : (mix1 (b + 1) c * mix1 (b + 1) c + (b + 1) * 40692 + 7) % 2147483629 = mix2 (b + 1) c := rfl
   simp only [at0, at1, at2, set3_0, set3_1, Option.bind_some, decide_eq_false ha, g1, e1, g3, e2, if_false, ha, decide_false, Bool.false_eq_true]
theorem draw_ex (s : Src) {n : Int} (h : 0 < n ∧ n < 2 ^ 64) : ∃ x s', tZdraw s.l n = some (x, Src.l s') ∧ 0 ≤ x ∧ x < n := ⟨_, _, draw_eq s h, s.get_nonneg h.1, s.get_lt h.1⟩
theorem mapE_draw {f : Int → List Int → Option (Int × List Int)} {span : Int} (hf : ∀ x (s : Src), ∃ v s', f x s.l = some (v, Src.l s') ∧ 0 ≤ v ∧ v < span) : ∀ (xs : List Int) (s : Src), ∃ ys s', mapE f xs s.l = some (ys, Src.l s') ∧ ys.length = xs.length ∧ ∀ y ∈ ys, 0 ≤ y ∧ y < span
 | [], s => ⟨[], s, rfl, rfl, fun y hy => nomatch hy⟩
 | x :: xs, s => by
  obtain ⟨v, s1, h1, h2, h3⟩ := hf x s
  obtain ⟨ys, s2, h4, h5, h6⟩ := mapE_draw hf xs s1
  refine ⟨v :: ys, s2, ?_, by rw [List.length_cons, List.length_cons, h5], fun y hy => ?_⟩
  · unfold mapE; rw [h1]; dsimp only [Option.bind]; rw [h4]
  · rcases List.mem_cons.mp hy with e | e
    · rw [e]; exact ⟨h2, h3⟩
    · exact h6 y e
theorem asc_tb {x : Int} {acc : List Int} (hz : acc.length < 2 ^ 20) : tb_ascending_1 x acc = some (ascS acc x) := by
 have hg : gz (acc.length + 1) = some () := gz_ok (by omega)
 rcases List.eq_nil_or_concat acc with rfl | ⟨l, y, rfl⟩
 · rfl
 · rw [List.concat_eq_append] at hg ⊢
   have e1 : (l ++ [y]).isEmpty = false := by simp
   have e3 : atI (l ++ [y]) (-1) = some y := atI_last
   rw [ascS_snoc]
   unfold tb_ascending_1
   by_cases h : y = x
   · rw [if_pos h]
     simp only [e1, e3, decide_eq_true h, Option.bind_some, Bool.not_true, Bool.not_false, if_false, Bool.false_eq_true]
   · rw [if_neg h]
     simp only [e1, e3, decide_eq_false h, Option.bind_some, Bool.not_true, Bool.not_false, if_false, if_true, Bool.false_eq_true, hg]
theorem sortI_len (ns : List Int) : (sortI ns).length = ns.length := (sortI_perm ns).length_eq
theorem ascending_eq {ns : Bool × List Int} (h : ns.2.length ≤ 2 ^ 20) : t_ascending ns = some (asc ns.2) := by
 unfold t_ascending
 have := foldT_foldl (body := tb_ascending_1) (f := ascS) List.length (2 ^ 20) (fun x e he => asc_tb he) (fun x e => ascS_len e x) (sortI ns.2) [] (by rw [sortI_len]; simp; omega)
 simp only [this, Option.bind_some]; rfl
theorem lc2I_map {β δ : Type} {g : β → Option δ} {f : β → δ} : ∀ (ys : List β) (acc : List δ), (∀ y ∈ ys, g y = some (f y)) → acc.length + ys.length ≤ 2 ^ 20 → lc2I g ys acc = some (acc ++ ys.map f)
 | [], acc, _, _ => by simp [lc2I]
 | y :: ys, acc, h, hz => by
  rw [List.length_cons] at hz
  unfold lc2I
  rw [h y List.mem_cons_self]
  simp only [Option.bind_some, gz_ok (show acc.length + 1 ≤ 2 ^ 20 by omega)]
  rw [lc2I_map ys _ (fun z hz => h z (List.mem_cons_of_mem _ hz)) (by rw [List.length_append, List.length_singleton]; omega)]
  simp
theorem lc2O_flatMap {α β δ : Type} {it : α → Option (List β)} {g : α → β → Option δ} {ys : α → List β} {f : α → β → δ} : ∀ (xs : List α) (acc : List δ), (∀ x ∈ xs, it x = some (ys x) ∧ ∀ y ∈ ys x, g x y = some (f x y)) → acc.length + (xs.flatMap fun x => (ys x).map (f x)).length ≤ 2 ^ 20 →
  lc2O it g xs acc = some (acc ++ xs.flatMap fun x => (ys x).map (f x))
 | [], acc, _, _ => by simp [lc2O]
 | x :: xs, acc, h, hz => by
  rw [List.flatMap_cons, List.length_append, List.length_map] at hz
  unfold lc2O
  obtain ⟨h1, h2⟩ := h x List.mem_cons_self
  rw [h1]
  simp only [Option.bind_some, lc2I_map (ys x) acc h2 (by omega)]
  rw [lc2O_flatMap xs _ (fun z hz => h z (List.mem_cons_of_mem _ hz)) (by rw [List.length_append, List.length_map]; omega)]
  simp
theorem grid_tb {rows : List (List Int)} {side : List Int} (hz : (gridS rows side).length ≤ 2 ^ 20) (hr : ∀ r ∈ rows, r.length < 2 ^ 20) : tb_grid_1 side rows = some (gridS rows side) := by
 unfold tb_grid_1
 have := lc2O_flatMap (it := fc_grid_2 rows side) (g := fc_grid_1 rows side) (ys := fun _ => side) (f := fun r x => r ++ [x]) rows [] (fun r hr' => ⟨rfl, fun x _ => by
  unfold fc_grid_1
  rw [gz_ok (by have := hr r hr'; rw [List.length_append, List.length_singleton]; omega)]; rfl⟩) (by simpa [gridS] using hz)
 simp only [this, Option.bind_some, List.nil_append]; rfl
theorem grid_fold : ∀ (sides rows : List (List Int)) (k : Nat), rows.length * vol sides ≤ 2 ^ 20 → (∀ r ∈ rows, r.length = k) → k + sides.length ≤ 2 ^ 20 → foldT tb_grid_1 sides rows = some (sides.foldl gridS rows)
 | [], rows, _, _, _, _ => rfl
 | s :: ss, rows, k, hv, hr, hk => by
  rw [List.length_cons] at hk
  have e1 : (gridS rows s).length = rows.length * s.length := gridS_len rows s
  have hp := vol_pos ss
  have hv' : rows.length * (max 1 s.length * vol ss) ≤ 2 ^ 20 := hv
  have h1 : rows.length * s.length * vol ss ≤ 2 ^ 20 := by
   rw [Nat.mul_assoc]
   exact Nat.le_trans (Nat.mul_le_mul_left _ (Nat.mul_le_mul_right _ (by omega))) hv'
  have h2 : rows.length * s.length ≤ 2 ^ 20 := Nat.le_trans (Nat.le_mul_of_pos_right _ hp) h1
  unfold foldT
  rw [grid_tb (by rw [e1]; exact h2) (fun r hr' => by rw [hr r hr']; omega)]
  exact grid_fold ss (gridS rows s) (k + 1) (by rw [e1]; exact h1) (gridS_row hr) (by omega)
theorem grid_t {sides : List (List Int)} (hv : vol sides ≤ 2 ^ 20) (hl : sides.length < 2 ^ 20) : t_grid sides = some (combos sides) := by
 unfold t_grid
 have := grid_fold sides [[]] 0 (by simpa using hv) (fun r hr => by rw [List.mem_singleton.mp hr]; rfl) (by omega)
 simp only [this, Option.bind_some]
 exact congrArg some (grid_combos sides)
def boxOf (sides : List (List Int)) : T_Box := ⟨sides, combos sides⟩
theorem is_number_eq (n : Int) : t_is_number n = some (decide (0 ≤ n)) := by
 unfold t_is_number t_is_integer
 simp only [Option.bind_some, Bool.not_false, Bool.and_self, Bool.true_and]
theorem init_tb1 : ∀ (xs : List Int), (∀ x ∈ xs, 0 ≤ x) → foldT tb_Box_DinitD_1 xs () = some ()
 | [], _ => rfl
 | x :: xs, h => by
  unfold foldT
  have h1 := h x List.mem_cons_self
  have : tb_Box_DinitD_1 x () = some () := by
   unfold tb_Box_DinitD_1
   simp only [is_number_eq, Option.bind_some, decide_eq_true h1, Bool.not_true, Bool.false_eq_true, if_false]
  rw [this]
  exact init_tb1 xs fun y hy => h y (List.mem_cons_of_mem _ hy)
theorem init_fold : ∀ (ss : List (Bool × List Int)) (kept : List (List Int)), (∀ s ∈ ss, (∀ x ∈ s.2, 0 ≤ x) ∧ s.2.length ≤ 2 ^ 20) → kept.length + ss.length ≤ 2 ^ 20 → foldT tb_Box_DinitD_2 ss kept = some (kept ++ ss.map fun s => asc s.2)
 | [], kept, _, _ => by simp [foldT]
 | s :: ss, kept, h, hz => by
  rw [List.length_cons] at hz
  unfold foldT
  obtain ⟨h1, h2⟩ := h s List.mem_cons_self
  have : tb_Box_DinitD_2 s kept = some (kept ++ [asc s.2]) := by
   unfold tb_Box_DinitD_2
   simp only [init_tb1 s.2 h1, ascending_eq h2, gz_ok (show kept.length + 1 ≤ 2 ^ 20 by omega), Option.bind_some]
  rw [this]
  show foldT tb_Box_DinitD_2 ss (kept ++ [asc s.2]) = _
  rw [init_fold ss _ (fun t ht => h t (List.mem_cons_of_mem _ ht)) (by rw [List.length_append, List.length_singleton]; omega)]
  simp
theorem box_eq {ss : Bool × List (Bool × List Int)} (hn : ss.2 ≠ []) (h : ∀ s ∈ ss.2, (∀ x ∈ s.2, 0 ≤ x) ∧ s.2.length ≤ 2 ^ 20) (hv : vol (ss.2.map fun s => s.2) ≤ 2 ^ 20) (hl : ss.2.length < 2 ^ 20) : t_Box_DinitD ss = some (boxOf (ss.2.map fun s => asc s.2)) := by
 have e1 : decide (((List.length ss.2 : Nat) : Int) = 0) = false := decide_eq_false (by
  have := List.length_pos_iff.mpr hn
  omega)
 have e2 : vol (ss.2.map fun s => asc s.2) ≤ 2 ^ 20 := by
  have := vol_asc (ss.2.map fun s => s.2)
  rw [List.map_map] at this
  exact Nat.le_trans this hv
 unfold t_Box_DinitD
 simp only [e1, Bool.false_eq_true, if_false, init_fold ss.2 [] h (by simp; omega), Option.bind_some, List.nil_append, grid_t e2 (by rw [List.length_map]; exact hl)]
 rfl
theorem box_l {xs : List (List Int)} (hn : xs ≠ []) (h : ∀ s ∈ xs, (∀ x ∈ s, 0 ≤ x) ∧ s.length ≤ 2 ^ 20) (hv : vol xs ≤ 2 ^ 20) (hl : xs.length < 2 ^ 20) : t_Box_DinitD (false, List.map (fun y => (false, y)) xs) = some (boxOf (xs.map asc)) := by
 have := box_eq (ss := (false, List.map (fun y => (false, y)) xs)) (by simpa using hn) (fun s hs => by
  obtain ⟨y, hy, rfl⟩ := List.mem_map.mp hs
  exact h y hy) (by
   show vol (List.map (fun s : Bool × List Int => s.2) (List.map (fun y => (false, y)) xs)) ≤ 2 ^ 20
   rw [List.map_map, show (Prod.snd ∘ fun y : List Int => (false, y)) = id from rfl, List.map_id]; exact hv) (by simpa using hl)
 rw [this]
 show some (boxOf (List.map (fun s : Bool × List Int => asc s.2) (List.map (fun y => (false, y)) xs))) = _
 rw [List.map_map]; rfl
theorem cmb1 {self : List (List Int) → Option (List (List Int))} {x : Int} : ∀ (rs acc : List (List Int)), acc.length + rs.length ≤ 2 ^ 20 → (∀ r ∈ rs, r.length < 2 ^ 20) → foldT (tbZcombos_1 self x) rs acc = some (acc ++ rs.map fun r => x :: r)
 | [], acc, _, _ => by simp [foldT]
 | r :: rs, acc, hz, h => by
  rw [List.length_cons] at hz
  have hr := h r List.mem_cons_self
  unfold foldT
  have : tbZcombos_1 self x r acc = some (acc ++ [x :: r]) := by
   unfold tbZcombos_1
   simp only [gz_ok (show [x].length + r.length ≤ 2 ^ 20 by rw [List.length_singleton]; omega), gz_ok (show acc.length + 1 ≤ 2 ^ 20 by omega), Option.bind_some]; rfl
  rw [this]
  show foldT _ rs (acc ++ [x :: r]) = _
  rw [cmb1 rs _ (by rw [List.length_append, List.length_singleton]; omega) fun q hq => h q (List.mem_cons_of_mem _ hq)]
  simp
theorem cmb2 {self : List (List Int) → Option (List (List Int))} {rs : List (List Int)} (h : ∀ r ∈ rs, r.length < 2 ^ 20) : ∀ (xs : List Int) (acc : List (List Int)), acc.length + xs.length * rs.length ≤ 2 ^ 20 → foldT (tbZcombos_2 self rs) xs acc = some (acc ++ xs.flatMap fun x => rs.map fun r => x :: r)
 | [], acc, _ => by simp [foldT]
 | x :: xs, acc, hz => by
  rw [List.length_cons, Nat.succ_mul] at hz
  unfold foldT
  have : tbZcombos_2 self rs x acc = some (acc ++ rs.map fun r => x :: r) := by
   unfold tbZcombos_2
   simp only [cmb1 rs acc (by omega) h, Option.bind_some]
  rw [this]
  show foldT _ xs (acc ++ rs.map fun r => x :: r) = _
  rw [cmb2 h xs _ (by rw [List.length_append, List.length_map]; omega)]
  simp
theorem combos_t : ∀ (n : Nat) (ss : List (List Int)), ss.length < n → vol ss ≤ 2 ^ 20 → n ≤ 2 ^ 20 → tZcombos n ss = some (combos ss)
 | 0, ss, h, _, _ => by omega
 | n + 1, [], _, _, _ => rfl
 | n + 1, s :: ss, h, hv, hn => by
  rw [List.length_cons] at h
  have hv' : max 1 s.length * vol ss ≤ 2 ^ 20 := hv
  have h1 : vol ss ≤ 2 ^ 20 := Nat.le_trans (Nat.le_mul_of_pos_left _ (by omega)) hv'
  have h2 : s.length * (combos ss).length ≤ 2 ^ 20 := Nat.le_trans (Nat.mul_le_mul (by omega) (combos_len ss)) hv'
  have ih := combos_t n ss (by omega) h1 (by omega)
  have e0 : decide (((List.length (s :: ss) : Nat) : Int) = 0) = false := decide_eq_false (by rw [List.length_cons]; omega)
  have hr : ∀ r ∈ combos ss, r.length < 2 ^ 20 := fun r hr => by
   have := inC_len (mem_combos.mp hr)
   omega
  show tsZcombos (tZcombos n) (s :: ss) = _
  unfold tsZcombos
  simp only [e0, Bool.false_eq_true, if_false, cut1, ih, Option.bind_some, at0, cmb2 hr s [] (by simpa using h2), List.nil_append]
  rfl
theorem draw_ok (s : Src) {n : Int} (h : 0 < n ∧ n < 2 ^ 64) : OkP (tZdraw s.l n) fun r => ∃ s' : Src, r.2 = s'.l ∧ 0 ≤ r.1 ∧ r.1 < n := ⟨_, draw_eq s h, s.next n, rfl, s.get_nonneg h.1, s.get_lt h.1⟩
end My
namespace My
open PySem Dl Tl
open L2 (ixN atI)
mutual
theorem QT.ind' {P : QT → Prop} (h1 : ∀ n, P (.fin n)) (h2 : ∀ p bs, (∀ b ∈ bs.l, P b.2) → P (.ask p bs)) : ∀ t : QT, P t
 | .fin n => h1 n
 | .ask p bs => h2 p bs (QTs.ind' h1 h2 bs)
theorem QTs.ind' {P : QT → Prop} (h1 : ∀ n, P (.fin n)) (h2 : ∀ p bs, (∀ b ∈ bs.l, P b.2) → P (.ask p bs)) : ∀ bs : QTs, ∀ b ∈ bs.l, P b.2
 | .nil => fun b hb => nomatch hb
 | .cons c t r => fun b hb => by
  have hb : b ∈ (c, t) :: r.l := hb
  rcases List.mem_cons.mp hb with rfl | hb
  · exact QT.ind' h1 h2 t
  · exact QTs.ind' h1 h2 r b hb
end
mutual
def depth : QT → Nat
 | .fin _ => 0
 | .ask _ bs => 1 + depths bs
def depths : QTs → Nat
 | .nil => 0
 | .cons _ t r => max (depth t) (depths r)
end
mutual
def leaves : QT → List Int
 | .fin n => [n]
 | .ask _ bs => leavess bs
def leavess : QTs → List Int
 | .nil => []
 | .cons _ t r => leaves t ++ leavess r
end
mutual
def hon : QT → List Int → Int
 | .fin n, _ => n
 | .ask p bs, c => honS (c.getD p.toNat 0) bs c
def honS (x : Int) : QTs → List Int → Int
 | .nil, _ => 0
 | .cons cell t r, c => if x ∈ cell then hon t c else honS x r c
end
mutual
def fewT (k : Int) : QT → QT
 | .fin n => .fin (n % k)
 | .ask p bs => .ask p (fewTs k bs)
def fewTs (k : Int) : QTs → QTs
 | .nil => .nil
 | .cons c t r => .cons c (fewT k t) (fewTs k r)
end
inductive FitsT : QT → List (List Int) → Prop where
 | fin (n : Int) (sides : List (List Int)) : FitsT (.fin n) sides
 | ask (p : Nat) (bs : QTs) (sides : List (List Int)) (side : List Int) (hp : sides[p]? = some side) (h2 : 2 ≤ bs.l.length) (hq : (bs.l.flatMap fun b => b.1).Perm side) (hn : ∀ b ∈ bs.l, b.1 ≠ []) (hs : ∀ b ∈ bs.l, b.1.Sublist side) (hr : ∀ b ∈ bs.l, FitsT b.2 (sides.set p b.1)) : FitsT (.ask (p : Int) bs) sides
mutual
theorem few_depth (k : Int) : ∀ t : QT, depth (fewT k t) = depth t
 | .fin n => by unfold fewT depth; rfl
 | .ask p bs => by unfold fewT depth; rw [few_depths k bs]
theorem few_depths (k : Int) : ∀ bs : QTs, depths (fewTs k bs) = depths bs
 | .nil => by unfold fewTs; rfl
 | .cons c t r => by unfold fewTs depths; rw [few_depth k t, few_depths k r]
end
end My
namespace My
open PySem Dl Tl
open L2 (ixN atI)
theorem rngI_succ (k : Nat) : rngI 0 (k + 1) = rngI 0 k ++ [(k : Int)] := by
 unfold rngI
 rw [List.range_succ, List.map_append]
 simp
theorem clean_tb {x : Int} {acc : List Int} (hz : acc.length < 2 ^ 20) : tbZclean_1 x acc = some (ascS acc x) := by
 have hg : gz (acc.length + 1) = some () := gz_ok (by omega)
 rcases List.eq_nil_or_concat acc with rfl | ⟨l, y, rfl⟩
 · unfold tbZclean_1
   dsimp only
   rw [if_pos (by decide), Option.bind_some, if_pos rfl, hg]; rfl
 · rw [List.concat_eq_append] at hg ⊢
   have e3 : atI (l ++ [y]) (-1) = some y := atI_last
   rw [ascS_snoc]
   unfold tbZclean_1
   dsimp only
   rw [if_neg (by simp), e3, Option.bind_some, Option.bind_some]
   by_cases h : y = x
   · rw [if_pos h, decide_eq_true h]; rfl
   · rw [if_neg h, decide_eq_false h, Bool.not_false, if_pos rfl, hg]; rfl
theorem clean_eq {s : List Int} (h : s.length ≤ 2 ^ 20) : tZclean s = some (asc s) := by
 unfold tZclean
 have := foldT_foldl (body := tbZclean_1) (f := ascS) List.length (2 ^ 20) (fun x e he => clean_tb he) (fun x e => ascS_len e x) (sortI s) [] (by rw [sortI_len]; simp; omega)
 simp only [this, Option.bind_some]; rfl
theorem nums_t {b : Bool} {l : List Int} (h : l.length ≤ 2 ^ 20) : tZis_numbers l (b, l) = some true := by
 unfold tZis_numbers
 rw [if_neg (by simp), rngT_ok (show l.length ≤ _ by omega), Option.bind_some, forT_all _ fun k hk => ?_]
 · rfl
 · obtain ⟨k0, k1⟩ := mem_rngI.mp hk
   obtain ⟨x, g1, _⟩ := atI_i (xs := l) k0 k1
   unfold tbZis_numbers_1
   dsimp only
   rw [g1]
   simp [tZis_integer]
theorem sides_self {a : List (List Int)} (hz : a.length ≤ 2 ^ 20) (h : ∀ s ∈ a, s.length ≤ 2 ^ 20) : tZis_sides a a = some true := by
 unfold tZis_sides
 rw [if_neg (by simp), rngT_ok hz, Option.bind_some, forT_all _ fun k hk => ?_]
 · rfl
 · obtain ⟨k0, k1⟩ := mem_rngI.mp hk
   obtain ⟨x, g1, g2⟩ := atI_i (xs := a) k0 k1
   unfold tbZis_sides_1
   dsimp only
   rw [g1, Option.bind_some, Option.bind_some, nums_t (h x (List.mem_of_getElem? g2))]
   rfl
theorem rows_self {a : List (List Int)} (hz : a.length ≤ 2 ^ 20) (h : ∀ s ∈ a, s.length ≤ 2 ^ 20) : tZis_rows a a = some true := by
 unfold tZis_rows
 rw [if_neg (by simp), rngT_ok hz, Option.bind_some, forT_all _ fun k hk => ?_]
 · rfl
 · obtain ⟨k0, k1⟩ := mem_rngI.mp hk
   obtain ⟨x, g1, g2⟩ := atI_i (xs := a) k0 k1
   unfold tbZis_rows_1
   dsimp only
   rw [g1, Option.bind_some, Option.bind_some, nums_t (h x (List.mem_of_getElem? g2))]
   rfl
structure Drw (k : Nat) (e : List Int × List Int × List (List Int) × Int) : Prop where
 sh : ∃ s : Src, e.1 = s.l
 so : ∃ s : Src, e.2.1 = s.l
 len : e.2.2.1.length = k
 room : 1 ≤ e.2.2.2
 vol : (vol e.2.2.1 : Int) * e.2.2.2 ≤ 96
 pos : ∀ s ∈ e.2.2.1, (∀ x ∈ s, 0 ≤ x) ∧ s.length ≤ 40
theorem drw_step {span : Int} (hs : 0 < span ∧ span < 2 ^ 64) {k : Nat} (hk : k < 9) {x : Int} {e : List Int × List Int × List (List Int) × Int} (h : Drw k e) : OkP (tbZdraw_sides_1 span x e) (Drw (k + 1)) := by
 obtain ⟨⟨s, h1⟩, ⟨t, h2⟩, h3, h4, h5, h6⟩ := h
 unfold tbZdraw_sides_1
 dsimp only
 rw [h1, h2]
 refine OkP.bind (draw_ok s (n := 4) (by decide)) fun a ⟨s1, a1, a2, a3⟩ => ?_
 obtain ⟨lim, l1, l2⟩ : ∃ lim, atI [(3 : Int), 4, 5, 40] a.1 = some lim ∧ 0 < lim ∧ lim ≤ 40 := by
  obtain ⟨v, g1, g2⟩ := atI_i (xs := [(3 : Int), 4, 5, 40]) a2 (by simpa using a3)
  refine ⟨v, g1, ?_⟩
  have := List.mem_of_getElem? g2
  simp at this
  omega
 refine OkP.bindEq l1 ?_
 rw [a1]
 refine OkP.bind (draw_ok s1 (n := lim) (by omega)) fun b ⟨s2, b1, b2, b3⟩ => ?_
 obtain ⟨sz, z1, z2, z3, z4⟩ : ∃ sz, (if (decide (e.2.2.2 < b.1)) = true then some (1 : Int) else some b.1) = some sz ∧ 0 ≤ sz ∧ sz ≤ e.2.2.2 ∧ sz ≤ 40 := by
  by_cases q : e.2.2.2 < b.1
  · exact ⟨1, by rw [if_pos (decide_eq_true q)], by omega, h4, by omega⟩
  · exact ⟨b.1, by rw [if_neg (by rw [decide_eq_false q]; exact Bool.false_ne_true)], b2, by omega, by omega⟩
 refine OkP.bindEq z1 ?_
 have hm : (if sz > (1 : Int) then sz else (1 : Int)) = max 1 sz := by
  by_cases q : sz > 1
  · rw [if_pos q]; omega
  · rw [if_neg q]; omega
 rw [hm]
 refine OkP.gb (decide_eq_true ⟨by omega, by omega⟩) ?_
 rw [rngT_ok' z2 (by omega), Option.bind_some]
 obtain ⟨ys, t1, m1, m2, m3⟩ := mapE_draw (f := fcZdraw_sides_1 span sz) (span := span) (fun x s => by
  obtain ⟨v, s', d1, d2, d3⟩ := draw_ex s hs
  refine ⟨v, s', ?_, d2, d3⟩
  unfold fcZdraw_sides_1
  dsimp only
  rw [d1]; rfl) (rngI 0 sz.toNat) t
 refine OkP.bindEq m1 ?_
 have hlen : ys.length = sz.toNat := by rw [m2]; exact rngI_len _
 refine OkP.gz (by omega) ?_
 refine OkP.ret ⟨⟨s2, b1⟩, ⟨t1, rfl⟩, by rw [List.length_append, h3]; rfl, ?_, ?_, fun s hs' => ?_⟩
 · show 1 ≤ e.2.2.2 / max 1 sz
   exact (Int.le_ediv_iff_mul_le (by omega)).mpr (by omega)
 · show ((My.vol (e.2.2.1 ++ [ys]) : Nat) : Int) * (e.2.2.2 / max 1 sz) ≤ 96
   rw [vol_app, hlen]
   have hq : (((max 1 sz.toNat : Nat) : Nat) : Int) = max 1 sz := by omega
   have h6 : max 1 sz * (e.2.2.2 / max 1 sz) ≤ e.2.2.2 := Int.mul_ediv_self_le (by omega)
   rw [Int.natCast_mul, hq, Int.mul_assoc]
   exact Int.le_trans (Int.mul_le_mul_of_nonneg_left h6 (by omega)) h5
 · rcases List.mem_append.mp hs' with hs' | hs'
   · exact h6 s hs'
   · have e' : s = ys := List.mem_singleton.mp hs'
     subst e'
     exact ⟨fun x hx => (m3 x hx).1, by omega⟩
structure DrS (m : Int) (S : List (List Int)) : Prop where
 len : (S.length : Int) = m
 vol : vol S ≤ 96
 pos : ∀ s ∈ S, (∀ x ∈ s, 0 ≤ x) ∧ s.length ≤ 40
theorem drs_ok (sh so : Src) {m span : Int} (hm : 0 ≤ m ∧ m < 9) (hs : 0 < span ∧ span < 2 ^ 64) : OkP (tZdraw_sides sh.l so.l m span) fun r => DrS m r.1 ∧ (∃ s : Src, r.2.1 = s.l) ∧ ∃ s : Src, r.2.2 = s.l := by
 unfold tZdraw_sides
 dsimp only
 rw [rngT_ok' hm.1 (by omega), Option.bind_some]
 refine OkP.bind (OkP.fold (body := tbZdraw_sides_1 span) (fun pre e => Drw pre.length e) [] (rngI 0 m.toNat) (sh.l, so.l, [], 96) ⟨⟨sh, rfl⟩, ⟨so, rfl⟩, rfl, show (1 : Int) ≤ 96 by decide, show ((My.vol [] : Nat) : Int) * 96 ≤ 96 by decide, fun s hs => absurd hs List.not_mem_nil⟩ fun p x q e eq h => ?_) fun e h => ?_
 · have hl := congrArg List.length eq
   rw [List.nil_append, rngI_len, List.length_append, List.length_cons] at hl
   have := drw_step hs (k := p.length) (by omega) (x := x) h
   rw [List.length_append]
   exact this
 · rw [List.nil_append, rngI_len] at h
   obtain ⟨h1, h2, h3, h4, h5, h6⟩ := h
   have h7 : (My.vol e.2.2.1 : Int) * 1 ≤ My.vol e.2.2.1 * e.2.2.2 := Int.mul_le_mul_of_nonneg_left h4 (by omega)
   exact OkP.ret ⟨⟨by show ((e.2.2.1.length : Nat) : Int) = m; omega, by show My.vol e.2.2.1 ≤ 96; omega, h6⟩, h1, h2⟩
structure Sde (s : List Int) : Prop where
 asc : Asc s
 pos : ∀ x ∈ s, 0 ≤ x
 len : s.length ≤ 2 ^ 10
theorem sde_asc {s : List Int} (h : ∀ x ∈ s, 0 ≤ x) (hl : s.length ≤ 2 ^ 10) : Sde (asc s) := ⟨asc_asc s, fun x hx => h x (mem_asc hx), Nat.le_trans (asc_len s) hl⟩
end My
namespace My
open PySem Dl Tl
open L2 (ixN atI)
theorem zip_t {α β : Type} {as : List α} {bs : List β} (h : as.length ≤ 2 ^ 20) : zipT as bs = some (List.zip as bs) := if_pos (by rw [List.length_zip]; omega)
def nbI : IB → Bool
 | .i n => decide (0 ≤ n)
 | .b _ => false
theorem nb_eq (v : IB) : t_is_number_b v = some (nbI v) := by
 cases v with
 | i n => exact is_number_eq n
 | b x => rfl
def inB (A : List (List Int)) (c : List IB) : Bool := (List.zip c A).all fun q => nbI q.1 && decide (ibN q.1 ∈ q.2)
theorem run_in : ∀ l : List (IB × List Int), forT tb_Box_DcontainsD_1 l () = some (if (l.all fun q => nbI q.1 && decide (ibN q.1 ∈ q.2)) = true then .nx () else .rt false)
 | [] => rfl
 | q :: l => by
  unfold forT
  have e : tb_Box_DcontainsD_1 q () = some (if (nbI q.1 && decide (ibN q.1 ∈ q.2)) = true then .nx () else .rt false) := by
   unfold tb_Box_DcontainsD_1
   dsimp only
   rw [nb_eq, Option.bind_some]
   cases nbI q.1 <;> cases decide (ibN q.1 ∈ q.2) <;> rfl
  rw [e, List.all_cons]
  cases (nbI q.1 && decide (ibN q.1 ∈ q.2)) with
  | true =>
   rw [if_pos rfl, Bool.true_and]
   exact run_in l
  | false => rfl
theorem con_len {A : List (List Int)} {c : List IB} (h : c.length ≠ A.length) : t_Box_DcontainsD (boxOf A) c = some false := by
 unfold t_Box_DcontainsD
 rw [if_pos (by
  have : decide (((List.length c : Nat) : Int) = ((List.length (boxOf A).sides : Nat) : Int)) = false := decide_eq_false fun z => h (by have z : ((c.length : Nat) : Int) = ((A.length : Nat) : Int) := z; omega)
  rw [this]; rfl)]
theorem con_eq {A : List (List Int)} {c : List IB} (h : c.length = A.length) (hl : A.length ≤ 2 ^ 10) : t_Box_DcontainsD (boxOf A) c = some (inB A c) := by
 unfold t_Box_DcontainsD
 rw [if_neg (by
  have : decide (((List.length c : Nat) : Int) = ((List.length (boxOf A).sides : Nat) : Int)) = true := decide_eq_true (by show ((c.length : Nat) : Int) = ((A.length : Nat) : Int); omega)
  rw [this]; decide)]
 show ((zipT c A).bind _) = _
 rw [zip_t (by omega), Option.bind_some, run_in, Option.bind_some]
 unfold inB
 cases (List.zip c A).all fun q => nbI q.1 && decide (ibN q.1 ∈ q.2) <;> rfl
def insI (A : List (List Int)) (c : List Int) : Bool := (List.zip c A).all fun q => decide (q.1 ∈ q.2)
theorem inB_i : ∀ {A : List (List Int)} {c : List Int}, (∀ x ∈ c, 0 ≤ x) → inB A (c.map IB.i) = insI A c
 | [], c, _ => by unfold inB insI; rw [List.zip_nil_right, List.zip_nil_right]; rfl
 | s :: A, [], _ => rfl
 | s :: A, x :: c, h => by
  have h0 := h x List.mem_cons_self
  have ih := inB_i (A := A) (c := c) fun y hy => h y (List.mem_cons_of_mem _ hy)
  unfold inB insI at ih ⊢
  rw [List.map_cons, List.zip_cons_cons, List.zip_cons_cons, List.all_cons, List.all_cons, ih]
  show ((decide (0 ≤ x) && decide (x ∈ s)) && _) = _
  rw [decide_eq_true h0, Bool.true_and]
theorem ins_snoc {A : List (List Int)} {c : List Int} {s : List Int} {x : Int} (h : c.length = A.length) : insI (A ++ [s]) (c ++ [x]) = (insI A c && decide (x ∈ s)) := by
 unfold insI
 rw [List.zip_append h, List.all_append]
 show (_ && (decide (x ∈ s) && true)) = _
 rw [Bool.and_true]
structure Trn (A : List (List Int)) (pre : List (List Int)) (e : List Int × List Int × Bool) : Prop where
 so : ∃ s : Src, e.1 = s.l
 len : e.2.1.length = pre.length
 pos : ∀ x ∈ e.2.1, 0 ≤ x
 ins : e.2.2 = insI pre e.2.1
theorem turn_fold {A : List (List Int)} (hA : ∀ s ∈ A, Sde s) (hl : A.length ≤ 2 ^ 10) (so : Src) : OkP (foldT tbZis_box_2 A (so.l, [], true)) fun e => Trn A A e := by
 refine OkP.fold (body := tbZis_box_2) (fun pre e => Trn A pre e) [] A (so.l, [], true) ⟨⟨so, rfl⟩, rfl, fun x hx => absurd hx List.not_mem_nil, rfl⟩ fun p s q e eq ⟨⟨s0, h1⟩, h2, h3, h4⟩ => ?_
 have eq : A = p ++ s :: q := eq
 have hs := hA s (by rw [eq]; simp)
 have hpl : p.length ≤ 2 ^ 10 := by rw [eq, List.length_append] at hl; omega
 unfold tbZis_box_2
 dsimp only
 rw [h1]
 refine OkP.bind (Q := fun r : List Int × Int => (∃ s : Src, r.1 = s.l) ∧ 0 ≤ r.2) ?_ fun r ⟨⟨s2, r1⟩, r2⟩ => ?_
 · by_cases q0 : s = []
   · rw [if_neg (by rw [decide_eq_true q0]; decide)]
     exact OkP.ret ⟨⟨s0, rfl⟩, Int.le_refl 0⟩
   · rw [if_pos (by rw [decide_eq_false q0]; rfl)]
     have hsl := hs.len
     have hs0 : 0 < s.length := List.length_pos_iff.mpr q0
     refine OkP.bind (draw_ok s0 (n := ((s.length : Nat) : Int)) (by omega)) fun a ⟨s1, a1, a2, a3⟩ => ?_
     obtain ⟨x, g1, g2⟩ := atI_i (xs := s) a2 a3
     refine OkP.bindEq g1 ?_
     rw [a1]
     refine OkP.bind (draw_ok s1 (n := 5) (by decide)) fun b ⟨s2, b1, b2, b3⟩ => ?_
     have hx := hs.pos x (List.mem_of_getElem? g2)
     refine OkP.ret ⟨⟨s2, b1⟩, ?_⟩
     dsimp only
     split <;> omega
 · refine OkP.gz (by rw [h2]; show p.length + 1 ≤ _; omega) (OkP.ret ⟨⟨s2, r1⟩, by rw [List.length_append, List.length_append, h2]; rfl, fun x hx => ?_, ?_⟩)
   · rcases List.mem_append.mp hx with hx | hx
     · exact h3 x hx
     · rw [List.mem_singleton.mp hx]; exact r2
   · dsimp only
     rw [ins_snoc h2, h4]
theorem bools_in {A : List (List Int)} (h1 : 1 ≤ A.length) {bs : List Bool} (hl : bs.length = A.length) : inB A (bs.map IB.b) = false := by
 cases bs with
 | nil => simp at hl; omega
 | cons x bs =>
  cases A with
  | nil => simp at h1
  | cons s A => rfl
theorem turn_t {A : List (List Int)} (hA : ∀ s ∈ A, Sde s) (h1 : 1 ≤ A.length) (h8 : A.length ≤ 8) (so : Src) (x : Int) : OkP (tbZis_box_3 (boxOf A) A x so.l) fun o => ∃ e, o = .nx e ∧ ∃ s : Src, e = s.l := by
 unfold tbZis_box_3
 dsimp only
 refine OkP.bind (turn_fold hA (by omega) so) fun e ⟨⟨s2, e1⟩, e2, e3, e4⟩ => ?_
 have c1 : t_Box_DcontainsD (boxOf A) (List.map (fun y => (IB.i y)) e.2.1) = some e.2.2 := by
  rw [con_eq (by rw [List.length_map]; exact e2) (by omega), e4]
  exact congrArg some (inB_i e3)
 have c2 : t_Box_DcontainsD (boxOf A) (List.map (fun y => (IB.i y)) (cutD e.2.1 (some (1 : Int)) none)) = some false := con_len (by
  cases q : e.2.1 with
  | nil => rw [q] at e2; simp at e2; omega
  | cons y c =>
   rw [q, List.length_cons] at e2
   rw [cut1, List.length_map]; omega)
 have c3 : t_Box_DcontainsD (boxOf A) (List.map (fun y => (IB.i y)) (e.2.1 ++ [(0 : Int)])) = some false := con_len (by rw [List.length_map, List.length_append, List.length_singleton]; omega)
 have c4 : t_Box_DcontainsD (boxOf A) (List.map (fun y => (IB.b y)) (List.map (fun (v23 : Int) => (decide (v23 = (1 : Int)))) e.2.1)) = some false := by
  rw [con_eq (by rw [List.length_map, List.length_map]; exact e2) (by omega)]
  exact congrArg some (bools_in h1 (by rw [List.length_map]; exact e2))
 have hct : (cutD e.2.1 none (some (1 : Int))).length = 1 := by
  rw [show (1 : Int) = ((1 : Nat) : Int) from rfl, cutT _ (by omega), List.length_take]; omega
 have c5 : t_Box_DcontainsD (boxOf A) (List.map (fun y => (IB.i y)) (e.2.1 ++ (cutD e.2.1 none (some (1 : Int))))) = some false := con_len (by rw [List.length_map, List.length_append, hct]; omega)
 have c6 : t_Box_DcontainsD (boxOf A) (List.map (fun y => (IB.i y)) ([] : List Int)) = some false := con_len (by show 0 ≠ A.length; omega)
 rw [c1, Option.bind_some, if_neg (by simp), c2, Option.bind_some, if_neg (by decide), gz_ok (by rw [List.length_singleton]; omega), Option.bind_some, c3, Option.bind_some, Option.bind_some, if_neg (by decide), c4, Option.bind_some, if_neg (by decide)]
 have fin : (if e.2.2 = true then (gz (List.length e.2.1 + List.length (cutD e.2.1 none (some (1 : Int))))).bind fun _ => (t_Box_DcontainsD (boxOf A) (List.map (fun y => (IB.i y)) (e.2.1 ++ (cutD e.2.1 none (some (1 : Int)))))).bind fun v25 => ((if v25 = true then some true else (t_Box_DcontainsD (boxOf A) (List.map (fun y => (IB.i y)) ([] : List Int))).bind fun v26 => some v26)).bind fun v27 => some v27 else some false) = some false := by
  rw [gz_ok (by rw [hct]; omega), c5, c6]
  split <;> rfl
 rw [fin, Option.bind_some, if_neg (by decide)]
 exact OkP.ret ⟨_, rfl, s2, e1⟩
theorem is_box_t {A : List (List Int)} (hA : ∀ s ∈ A, Sde s) (h1 : 1 ≤ A.length) (h8 : A.length ≤ 8) (hv : vol A ≤ 2 ^ 10) (so : Src) : OkP (tZis_box (boxOf A) A so.l) fun r => r.1 = true ∧ ∃ s : Src, r.2 = s.l := by
 unfold tZis_box
 have hlen : ∀ s ∈ A, s.length ≤ 2 ^ 20 := fun s hs => by have := (hA s hs).len; omega
 have hcl := combos_len A
 have rs : tZis_rows (combos A) (combos A) = some true := rows_self (by omega) fun s hs => by
  rw [inC_len (mem_combos.mp hs)]; omega
 rw [show (boxOf A).sides = A from rfl, show (boxOf A).rows = combos A from rfl, sides_self (by omega) hlen, Option.bind_some, if_neg (by decide), rngT_ok (by omega), Option.bind_some, forT_all (rngI 0 A.length) fun k hk => ?_]
 · show OkP (((tZcombos 9) A).bind _) _
   rw [combos_t 9 A (by omega) (by omega) (by decide), Option.bind_some]
   dsimp only
   rw [rs, Option.bind_some, if_neg (by decide), Option.bind_some, Option.bind_some, if_neg (by decide), show rngT (6 : Int) = some (rngI 0 6) from rngT_ok (n := 6) (by decide), Option.bind_some]
   exact OkP.kNx (OkP.forI (fun e => ∃ s : Src, e = s.l) (rngI 0 6) so.l ⟨so, rfl⟩ fun x _ e ⟨s, he⟩ => by
    subst he
    exact turn_t hA h1 h8 s x) fun e he => OkP.ret ⟨rfl, he⟩
 · obtain ⟨k0, k1⟩ := mem_rngI.mp hk
   obtain ⟨s, g1, g2⟩ := atI_i (xs := A) k0 k1
   unfold tbZis_box_1 t_Box_DgetitemD
   dsimp only
   rw [show (boxOf A).sides = A from rfl, g1, Option.bind_some, Option.bind_some, Option.bind_some, nums_t (hlen s (List.mem_of_getElem? g2))]
   rfl
theorem combos2_last (X Y : List Int) (x y : Int) : ∃ L, combos [X ++ [x], Y ++ [y]] = L ++ [[x, y]] := by
 have e1 : ∀ Z : List Int, combos [Z] = Z.map fun z => [z] := fun Z => by
  show (Z.flatMap fun x => [[x]]) = _
  induction Z with
  | nil => rfl
  | cons z Z ih => rw [List.flatMap_cons, ih]; rfl
 refine ⟨(X.flatMap fun a => (combos [Y ++ [y]]).map fun r => a :: r) ++ (Y.map fun z => [x, z]), ?_⟩
 show ((X ++ [x]).flatMap fun a => (combos [Y ++ [y]]).map fun r => a :: r) = _
 rw [List.flatMap_append, List.append_assoc]
 congr 1
 show ((combos [Y ++ [y]]).map fun r => x :: r) ++ [] = _
 rw [List.append_nil, e1, List.map_map, List.map_append]
 rfl
theorem combos2_len {X Y : List Int} : (combos [X, Y]).length = X.length * Y.length := by
 show (X.flatMap fun a => (combos [Y]).map fun r => a :: r).length = _
 have e1 : (combos [Y]).length = Y.length := by
  show (Y.flatMap fun x => [[x]]).length = _
  rw [flatMap_len _ 1 Y fun _ _ => rfl, Nat.mul_one]
 rw [flatMap_len _ Y.length X fun a _ => (List.length_map _).trans e1]
theorem asc_map7 (n : Nat) : Asc ((rngI 0 n).map fun k => 7 * k) := by
 unfold rngI Asc
 rw [List.map_map, List.pairwise_map]
 exact List.pairwise_lt_range.imp fun h => by
  show 7 * ((0 : Int) + _) < 7 * ((0 : Int) + _)
  omega
theorem asc_rng0 (n : Nat) : Asc (rngI 0 n) := by
 unfold rngI Asc
 rw [List.pairwise_map]
 exact List.pairwise_lt_range.imp fun h => by omega
theorem law_true (ns : List Int) : t_law ns = some true := by
 unfold t_law tp_bx1
 have c0 := cell_eq ns 0
 have c1 := cell_eq ns 1
 rw [show tZcell ns (0 : Int) = _ from c0, Option.bind_some, source_eq, Option.bind_some]
 dsimp only
 rw [show tZcell ns (1 : Int) = _ from c1, Option.bind_some, source_eq, Option.bind_some]
 refine OkP.eq (P := fun b => b = true) ?_ fun b hb => hb
 refine OkP.bind (Q := fun o : List Int × List Int × Int × Int × List (List Int) × List (List Int) => (∃ s : Src, o.1 = s.l) ∧ (∃ s : Src, o.2.1 = s.l) ∧ ∃ m : Int, 1 ≤ m ∧ m ≤ 8 ∧ DrS m o.2.2.2.2.1 ∧ DrS m o.2.2.2.2.2) ?_ fun o ⟨⟨sh, o1⟩, ⟨so, o2⟩, m, m1, m8, d1, d2⟩ => ?_
 · refine OkP.bind (draw_ok (srcV (cellV ns ((0 : Nat) : Int))) (n := 3) (by decide)) fun a ⟨s1, a1, a2, a3⟩ => ?_
   obtain ⟨span, l1, l2⟩ : ∃ v, atI [(3 : Int), (12 : Int), (1000000000 : Int)] a.1 = some v ∧ 0 < v ∧ v < 2 ^ 64 := by
    obtain ⟨v, g1, g2⟩ := atI_i (xs := [(3 : Int), (12 : Int), (1000000000 : Int)]) a2 (by simpa using a3)
    refine ⟨v, g1, ?_⟩
    have := List.mem_of_getElem? g2
    simp at this
    omega
   refine OkP.bindEq l1 ?_
   rw [a1]
   refine OkP.bind (draw_ok s1 (n := 8) (by decide)) fun b ⟨s2, b1, b2, b3⟩ => ?_
   rw [b1]
   refine OkP.bind (drs_ok s2 (srcV (cellV ns ((1 : Nat) : Int))) (m := 1 + b.1) (span := span) (by omega) l2) fun d ⟨hD, ⟨s3, d1⟩, ⟨s4, d2⟩⟩ => ?_
   rw [d1, d2]
   refine OkP.bind (drs_ok s3 s4 (m := 1 + b.1) (span := span) (by omega) l2) fun d' ⟨hD', ⟨s5, d1'⟩, ⟨s6, d2'⟩⟩ => ?_
   exact OkP.ret ⟨⟨s5, d1'⟩, ⟨s6, d2'⟩, 1 + b.1, by omega, by omega, hD, hD'⟩
 obtain ⟨F, hF⟩ : ∃ F, o.2.2.2.2.1 = F := ⟨_, rfl⟩
 obtain ⟨S, hS⟩ : ∃ S, o.2.2.2.2.2 = S := ⟨_, rfl⟩
 rw [hF] at d1 ⊢
 rw [hS] at d2 ⊢
 obtain ⟨f1, f2, f3⟩ := d1
 obtain ⟨g1, g2, g3⟩ := d2
 have sz := sz20
 have hok : okL F = true := by
  unfold okL
  rw [decide_eq_true (by omega), Bool.true_and]
  exact List.all_eq_true.mpr fun r hr => decide_eq_true (by have := (f3 r hr).2; omega)
 rw [gb_ok hok, Option.bind_some]
 have hAF : ∀ s ∈ F.map asc, Sde s := fun s hs => by
  obtain ⟨y, hy, rfl⟩ := List.mem_map.mp hs
  exact sde_asc (f3 y hy).1 (by have := (f3 y hy).2; omega)
 have hAS : ∀ s ∈ S.map asc, Sde s := fun s hs => by
  obtain ⟨y, hy, rfl⟩ := List.mem_map.mp hs
  exact sde_asc (g3 y hy).1 (by have := (g3 y hy).2; omega)
 have vF := vol_asc F
 have vS := vol_asc S
 rw [box_l (xs := F) (by intro z; rw [z] at f1; simp at f1; omega) (fun s hs => ⟨(f3 s hs).1, by have := (f3 s hs).2; omega⟩) (by omega) (by omega), Option.bind_some]
 have id2 : (S.map fun y => (true, y)).map (fun s : Bool × List Int => s.2) = S := by rw [List.map_map]; exact List.map_id' _
 have bS : t_Box_DinitD (true, (List.map (fun y => (true, y)) S)) = some (boxOf (S.map asc)) := by
  rw [box_eq (ss := (true, (List.map (fun y => (true, y)) S))) (by intro z; have := congrArg List.length z; rw [List.length_map] at this; simp at this; rw [this] at g1; simp at g1; omega) (fun s hs => by
   obtain ⟨y, hy, rfl⟩ := List.mem_map.mp hs
   exact ⟨(g3 y hy).1, by have := (g3 y hy).2; show y.length ≤ _; omega⟩) (by
    show vol ((S.map fun y => (true, y)).map (fun s : Bool × List Int => s.2)) ≤ _
    rw [id2]; omega) (by show (List.map _ S).length < _; rw [List.length_map]; omega)]
  show some (boxOf ((S.map fun y => (true, y)).map (fun s : Bool × List Int => asc s.2))) = _
  rw [List.map_map]; rfl
 unfold tp_bx2
 rw [bS, Option.bind_some, Option.bind_some]
 unfold tp_bx5
 have em1 : mapT (fcz_law_1 F) F = some (F.map asc) := mapT_map (g := asc) F fun x hx => by
  unfold fcz_law_1
  rw [clean_eq (by have := (f3 x hx).2; omega)]; rfl
 have em2 : mapT (fcz_law_2 S) S = some (S.map asc) := mapT_map (g := asc) S fun x hx => by
  unfold fcz_law_2
  rw [clean_eq (by have := (g3 x hx).2; omega)]; rfl
 dsimp only
 rw [em1, Option.bind_some, em2, Option.bind_some, o1, o2]
 refine OkP.bind (Q := fun r : Cf Unit Bool => r = .rt true) ?_ fun r hr => by rw [hr]; exact OkP.ret rfl
 refine OkP.bind (draw_ok sh (n := 30) (by decide)) fun a ⟨s1, a1, a2, a3⟩ => ?_
 rw [a1]
 refine OkP.bind (draw_ok s1 (n := 40) (by decide)) fun b ⟨s2, b1, b2, b3⟩ => ?_
 obtain ⟨h0, e0⟩ : ∃ n : Nat, a.1 = (n : Int) := ⟨a.1.toNat, by omega⟩
 obtain ⟨h1, e1⟩ : ∃ n : Nat, b.1 = (n : Int) := ⟨b.1.toNat, by omega⟩
 rw [e0, e1]
 have i0 : (1 : Int) + (h0 : Int) = ((h0 + 1 : Nat) : Int) := by omega
 have i1 : (1 : Int) + (h1 : Int) = ((h1 + 1 : Nat) : Int) := by omega
 rw [i0, i1]
 have t0 : atI [((h0 + 1 : Nat) : Int), ((h1 + 1 : Nat) : Int)] 0 = some ((h0 + 1 : Nat) : Int) := rfl
 have t1 : atI [((h0 + 1 : Nat) : Int), ((h1 + 1 : Nat) : Int)] 1 = some ((h1 + 1 : Nat) : Int) := rfl
 rw [t0, Option.bind_some, rngT_ok (by omega), Option.bind_some, t1, Option.bind_some, rngT_ok (by omega), Option.bind_some]
 have l0 : (rngI 0 (h0 + 1)).length = h0 + 1 := rngI_len _
 have l1 : ((rngI 0 (h1 + 1)).map fun k => 7 * k).length = h1 + 1 := (List.length_map _).trans (rngI_len _)
 have bb : t_Box_DinitD (false, [(false, rngI 0 (h0 + 1)), (false, List.map (fun (v26 : Int) => ((7 : Int) * v26)) (rngI 0 (h1 + 1)))]) = some (boxOf [rngI 0 (h0 + 1), (rngI 0 (h1 + 1)).map fun k => 7 * k]) := by
  have := box_l (xs := [rngI 0 (h0 + 1), (rngI 0 (h1 + 1)).map fun k => 7 * k]) (List.cons_ne_nil _ _) (fun s hs => by
   rcases List.mem_cons.mp hs with rfl | hs
   · exact ⟨fun x hx => (mem_rngI.mp hx).1, by omega⟩
   · rw [List.mem_singleton.mp hs]
     refine ⟨fun x hx => ?_, by omega⟩
     obtain ⟨k, hk, rfl⟩ := List.mem_map.mp hx
     have := (mem_rngI.mp hk).1
     omega) (by
     show max 1 (rngI 0 (h0 + 1)).length * (max 1 ((rngI 0 (h1 + 1)).map fun k => 7 * k).length * 1) ≤ _
     rw [l0, l1, Nat.mul_one, Nat.max_eq_right (by omega), Nat.max_eq_right (by omega)]
     exact Nat.le_trans (Nat.mul_le_mul (show h0 + 1 ≤ 30 by omega) (show h1 + 1 ≤ 40 by omega)) (by decide)) (show 2 < 2 ^ 20 by decide)
  rw [show [(false, rngI 0 (h0 + 1)), (false, List.map (fun (v26 : Int) => ((7 : Int) * v26)) (rngI 0 (h1 + 1)))] = List.map (fun y => (false, y)) [rngI 0 (h0 + 1), (rngI 0 (h1 + 1)).map fun k => 7 * k] from rfl, this]
  show some (boxOf [asc _, asc _]) = _
  rw [asc_self (asc_rng0 _), asc_self (asc_map7 _)]
 rw [bb, Option.bind_some, Option.bind_some, Option.bind_some, Option.bind_some, Option.bind_some, gb_ok (mulOk_r (decide_eq_true (by omega))), Option.bind_some]
 have i2 : ((h0 + 1 : Nat) : Int) - 1 = (h0 : Int) := by omega
 have i3 : ((h1 + 1 : Nat) : Int) - 1 = (h1 : Int) := by omega
 rw [i2, i3]
 obtain ⟨L, hL⟩ := combos2_last (rngI 0 h0) ((rngI 0 h1).map fun k => 7 * k) h0 (7 * (h1 : Int))
 have hL2 : combos [rngI 0 (h0 + 1), (rngI 0 (h1 + 1)).map fun k => 7 * k] = L ++ [[(h0 : Int), 7 * (h1 : Int)]] := by
  rw [rngI_succ h0, rngI_succ h1, List.map_append]
  exact hL
 have hcl : (combos [rngI 0 (h0 + 1), (rngI 0 (h1 + 1)).map fun k => 7 * k]).length = (h0 + 1) * (h1 + 1) := by rw [combos2_len, l0, l1]
 have big : t_Box_DcontainsD (boxOf [rngI 0 (h0 + 1), (rngI 0 (h1 + 1)).map fun k => 7 * k]) (List.map (fun y => (IB.i y)) [(h0 : Int), 7 * (h1 : Int)]) = some true := by
  rw [con_eq (A := [rngI 0 (h0 + 1), (rngI 0 (h1 + 1)).map fun k => 7 * k]) (c := List.map (fun y => (IB.i y)) [(h0 : Int), 7 * (h1 : Int)]) rfl (show 2 ≤ 2 ^ 10 by decide)]
  have : inB [rngI 0 (h0 + 1), (rngI 0 (h1 + 1)).map fun k => 7 * k] ([(h0 : Int), 7 * (h1 : Int)].map IB.i) = _ := inB_i fun x hx => by
   rcases List.mem_cons.mp hx with rfl | hx
   · omega
   · rw [List.mem_singleton.mp hx]; omega
  refine congrArg some (this.trans ?_)
  show (decide ((h0 : Int) ∈ rngI 0 (h0 + 1)) && (decide (7 * (h1 : Int) ∈ (rngI 0 (h1 + 1)).map fun k => 7 * k) && true)) = true
  rw [decide_eq_true (mem_rngI.mpr ⟨by omega, by omega⟩), decide_eq_true (List.mem_map.mpr ⟨(h1 : Int), mem_rngI.mpr ⟨by omega, by omega⟩, rfl⟩)]; rfl
 rw [show (boxOf [rngI 0 (h0 + 1), (rngI 0 (h1 + 1)).map fun k => 7 * k]).rows = combos [rngI 0 (h0 + 1), (rngI 0 (h1 + 1)).map fun k => 7 * k] from rfl, hcl]
 have hm : (((h0 + 1) * (h1 + 1) : Nat) : Int) = ((h0 + 1 : Nat) : Int) * ((h1 + 1 : Nat) : Int) := Int.natCast_mul _ _
 rw [hm, decide_eq_true rfl, if_neg (by decide), hL2, atI_last, Option.bind_some, nums_t (by show 2 ≤ _; decide), Option.bind_some, if_neg (by decide), big, Option.bind_some, Option.bind_some, if_neg (by decide)]
 have lF : (F.map asc).length = F.length := List.length_map _
 have lS : (S.map asc).length = S.length := List.length_map _
 refine OkP.bind (is_box_t hAF (by omega) (by omega) (by omega) so) fun r ⟨r1, s3, r2⟩ => ?_
 rw [if_pos r1, r2]
 refine OkP.bind (Q := fun v : Bool × List Int => v.1 = true) ?_ fun v hv => by rw [hv]; exact OkP.ret rfl
 refine OkP.bind (is_box_t hAS (by omega) (by omega) (by omega) s3) fun r ⟨r1, s4, r2⟩ => ?_
 rw [if_pos r1, r2]
 refine OkP.bind (is_box_t hAF (by omega) (by omega) (by omega) s4) fun r ⟨r1, s5, r2⟩ => ?_
 exact OkP.ret r1
end My
namespace My
open PySem L2 Dl
section
variable {P : Program} {w : World} {K : PySem.W.Frag} {mg : Str → Option Value} {base : Heap} {f : Addr} {k : Nat}
theorem scZcell : FnScope NZcell ["_law_script", "_law_k"] (defScope sZcell) := ⟨rfl, rfl, rfl, by decide +kernel, rfl, by decide +kernel, by decide +kernel⟩
theorem bZcell (h_len : mg "len" = none) : Body P w K mg base NZcell "_law_cell" (defScope sZcell) f (defBody sZcell) 2 (k + 1) (fZcell) := fun cdv A outer s H E hr => by
 have go : Go (cxOf (L2N.CX P w) P w K mg base NZcell "_law_cell" (defScope sZcell) f cdv A outer s H E) (WB E) := go_def (CX := L2N.CX P w) scZcell.nd hr
 have hu := go.rm
 exact (dl_cons (ds_if (dt_lt (de_v 1) (de_len h_len (da_cons (de_v 0) da_nil))) (dl_one (ds_rtA [0, 1] (ds_ret (de_ix (de_v 0) (de_v 1))))) dl_nil)
 (dl_one (ds_rtA [0, 1] (ds_ret de_int))))
theorem scZsource : FnScope NZsource ["_law_cell_here"] (defScope sZsource) := ⟨rfl, rfl, rfl, by decide +kernel, rfl, by decide +kernel, by decide +kernel⟩
theorem bZsource  : Body P w K mg base NZsource "_law_source" (defScope sZsource) f (defBody sZsource) 1 (k + 1) (fZsource) := fun cdv A outer s H E hr => by
 have go : Go (cxOf (L2N.CX P w) P w K mg base NZsource "_law_source" (defScope sZsource) f cdv A outer s H E) (WB E) := go_def (CX := L2N.CX P w) scZsource.nd hr
 have hu := go.rm
 exact (dl_cons (ds_if (dt_ge (de_v 0) (de_pow de_int de_int)) (dl_one (ds_rtA [0] (ds_ret (de_lst (da_cons (de_v 0) (da_cons de_int (da_cons (de_v 0) da_nil))))))) dl_nil)
 (dl_one (ds_rtA [0] (ds_ret (de_lst (da_cons de_int (da_cons de_int (da_cons (de_v 0) da_nil))))))))
theorem scZdraw : FnScope NZdraw ["_law_source_here", "_law_limit"] (defScope sZdraw) := ⟨rfl, rfl, rfl, by decide +kernel, rfl, by decide +kernel, by decide +kernel⟩
theorem bZdraw (h_int : mg "int" = none) : Body P w K mg base NZdraw "_law_draw" (defScope sZdraw) f (defBody sZdraw) 2 (k + 1) (fZdraw) := fun cdv A outer s H E hr => by
 have go : Go (cxOf (L2N.CX P w) P w K mg base NZdraw "_law_draw" (defScope sZdraw) f cdv A outer s H E) (WB E) := go_def (CX := L2N.CX P w) scZdraw.nd hr
 have hu := go.rm
 exact (dl_cons (ds_setIx (de_add (de_ix (de_v 0) de_int) de_int) (de_v 0) de_int)
 (dl_cons (ds_if (dt_gt (de_ix (de_v 0) de_int) de_int) (dl_cons (ds_set 3 go.nd (de_mod (de_int1 h_int (da_cons (de_ix (de_v 0) de_int) da_nil)) (de_v 1)))
 (dl_cons (ds_setIx (de_div (de_ix (de_v 0) de_int) (de_v 1)) (de_v 0) de_int)
 (dl_one (ds_rtA [1, 2, 3] (ds_ret (de_v 3)))))) dl_nil)
 (dl_cons (ds_set 2 go.nd (de_mod (de_int1 h_int (da_cons (de_add (de_mul (de_ix (de_v 0) de_int) de_int) (de_mul (de_ix (de_v 0) de_int) de_int)) da_nil)) de_int))
 (dl_cons (ds_set 2 go.nd (de_mod (de_int1 h_int (da_cons (de_add (de_add (de_mul (de_v 2) (de_v 2)) (de_mul (de_ix (de_v 0) de_int) de_int)) de_int) da_nil)) de_int))
 (dl_one (ds_rtA [1, 2, 3] (ds_ret (de_mod (de_int1 h_int (da_cons (de_add (de_div (de_v 2) de_int) (de_mul (de_v 2) de_int)) da_nil)) (de_v 1)))))))))
theorem scZdraw_sides : FnScope NZdraw_sides ["_law_shape", "_law_source_here", "_law_many", "_law_span"] (defScope sZdraw_sides) := ⟨rfl, rfl, rfl, by decide +kernel, rfl, by decide +kernel, by decide +kernel⟩
theorem bZdraw_sides {FZdraw : Fn} (h_range : mg "range" = none) (hZdraw : DF P w K mg base "_law_draw" k 2 FZdraw) (h_max : mg "max" = none) : Body P w K mg base NZdraw_sides "_law_draw_sides" (defScope sZdraw_sides) f (defBody sZdraw_sides) 4 (k + 1) (fZdraw_sides FZdraw) := fun cdv A outer s H E hr => by
 have go : Go (cxOf (L2N.CX P w) P w K mg base NZdraw_sides "_law_draw_sides" (defScope sZdraw_sides) f cdv A outer s H E) (WB E) := go_def (CX := L2N.CX P w) scZdraw_sides.nd hr
 have hu := go.rm
 exact (dl_cons (ds_set 4 go.nd (de_lst da_nil))
 (dl_cons (ds_set 5 go.nd de_int)
 (dl_cons (ds_for go (di_rng1 rfl h_range (da_cons (de_v 2) da_nil)) (dg_name 6 go.nd) (dl_aft [(6, true), (7, true)] (dl_cons (ds_set 7 go.nd (de_call [true, false] go hZdraw (hr.mono (by omega)) rfl (da_cons (de_v 0) (da_cons (de_ix (de_lst (da_cons de_int (da_cons de_int (da_cons de_int (da_cons de_int da_nil))))) (de_call [true, false] go hZdraw (hr.mono (by omega)) rfl (da_cons (de_v 0) (da_cons de_int da_nil)))) da_nil))))
 (dl_cons (ds_if (dt_gt (de_v 7) (de_v 5)) (dl_one (ds_set 7 go.nd de_int)) dl_nil)
 (dl_cons (ds_set 5 go.nd (de_div (de_v 5) (de_max2 go h_max (da_cons de_int (da_cons (de_v 7) da_nil)))))
 (dl_one (ds_expr (de_append (de_v 4) (de_lc (g := (gN 8)) (tt := tYes') (te := (eCall [true, false] FZdraw (aCons (eVar 1) (aCons (eVar 3) aNil)))) [("_law_at", 8)] go (di_rng1 rfl h_range (da_cons (de_v 7) da_nil)) (show BlkOk NZdraw_sides (defScope sZdraw_sides) _ _ from ⟨rfl, by decide +kernel, by decide +kernel, by decide +kernel, by decide +kernel⟩) (fun _ _ _ _ _ => (dg_name 8 go.blk.nd)) (fun _ _ _ _ _ => dts_nil) (fun _ _ _ _ _ => (de_call [true, false] go.blk hZdraw (hr.mono (by omega)) rfl (da_cons (de_v 1) (da_cons (de_v 3) da_nil)))))))))))))
 (dl_one (ds_rtA [2, 3, 4, 5, 6, 7, 8] (ds_ret (de_v 4)))))))
theorem sc_is_integer : FnScope N_is_integer ["value"] (defScope s_is_integer) := ⟨rfl, rfl, rfl, by decide +kernel, rfl, by decide +kernel, by decide +kernel⟩
theorem b_is_integer (h_int : mg "int" = none) (h_isinstance : mg "isinstance" = none) (h_bool : mg "bool" = none) : Body P w K mg base N_is_integer "is_integer" (defScope s_is_integer) f (defBody s_is_integer) 1 (k + 1) (f_is_integer) := fun cdv A outer s H E hr => by
 have go : Go (cxOf (L2N.CX P w) P w K mg base N_is_integer "is_integer" (defScope s_is_integer) f cdv A outer s H E) (WB E) := go_def (CX := L2N.CX P w) sc_is_integer.nd hr
 have hu := go.rm
 exact (dl_one (ds_rtA [0] (ds_ret (de_and (de_isi h_isinstance (da_cons (de_v 0) (da_cons (de_tyN h_int PyProof.Rows.boot_int) da_nil))) (de_one (de_not (de_isi h_isinstance (da_cons (de_v 0) (da_cons (de_tyN h_bool PyProof.Rows.boot_bool) da_nil)))))))))
theorem sc_is_number : FnScope N_is_number ["value"] (defScope s_is_number) := ⟨rfl, rfl, rfl, by decide +kernel, rfl, by decide +kernel, by decide +kernel⟩
theorem b_is_number {F_is_integer : Fn} (h_is_integer : DF P w K mg base "is_integer" k 1 F_is_integer) : Body P w K mg base N_is_number "is_number" (defScope s_is_number) f (defBody s_is_number) 1 (k + 1) (f_is_number F_is_integer) := fun cdv A outer s H E hr => by
 have go : Go (cxOf (L2N.CX P w) P w K mg base N_is_number "is_number" (defScope s_is_number) f cdv A outer s H E) (WB E) := go_def (CX := L2N.CX P w) sc_is_number.nd hr
 have hu := go.rm
 exact (dl_one (ds_rtA [0] (ds_ret (de_and (de_call [false] go h_is_integer (hr.mono (by omega)) rfl (da_cons (de_v 0) da_nil)) (de_one (de_ge (de_v 0) de_int))))))
theorem sc_ascending : FnScope N_ascending ["numbers"] (defScope s_ascending) := ⟨rfl, rfl, rfl, by decide +kernel, rfl, by decide +kernel, by decide +kernel⟩
theorem b_ascending (h_int : mg "int" = none) (h_sorted : mg "sorted" = none) (h_tuple : mg "tuple" = none) : Body P w K mg base N_ascending "ascending" (defScope s_ascending) f (defBody s_ascending) 1 (k + 1) (f_ascending) := fun cdv A outer s H E hr => by
 have go : Go (cxOf (L2N.CX P w) P w K mg base N_ascending "ascending" (defScope s_ascending) f cdv A outer s H E) (WB E) := go_def (CX := L2N.CX P w) sc_ascending.nd hr
 have hu := go.rm
 exact (dl_cons (ds_set 1 go.nd (de_lst da_nil))
 (dl_cons (ds_for go (di_seq (de_sorted h_sorted (da_cons (de_lc (g := (gN 2)) (tt := tYes') (te := (eB gInt (aCons (eVar 2) aNil))) [("number", 2)] go (di_seq (de_v 0)) (show BlkOk N_ascending (defScope s_ascending) _ _ from ⟨rfl, by decide +kernel, by decide +kernel, by decide +kernel, by decide +kernel⟩) (fun _ _ _ _ _ => (dg_name 2 go.blk.nd)) (fun _ _ _ _ _ => dts_nil) (fun _ _ _ _ _ => (de_int1 h_int (da_cons (de_v 2) da_nil)))) da_nil))) (dg_name 2 go.nd) (dl_aft [(2, true)] (dl_one (ds_if ((dw_or (dt_not (dt_val (de_v 1))) (dw_or1 (dt_ne hu (de_ix (de_v 1) (de_neg de_int)) (de_v 2))))).t (dl_one (ds_expr (de_append (de_v 1) (de_v 2)))) dl_nil))))
 (dl_one (ds_rtA [0, 1, 2] (ds_ret (de_tuple h_tuple (da_cons (de_v 1) da_nil)))))))
theorem sc_grid : FnScope N_grid ["sides"] (defScope s_grid) := ⟨rfl, rfl, rfl, by decide +kernel, rfl, by decide +kernel, by decide +kernel⟩
theorem b_grid  : Body P w K mg base N_grid "grid" (defScope s_grid) f (defBody s_grid) 1 (k + 1) (f_grid) := fun cdv A outer s H E hr => by
 have go : Go (cxOf (L2N.CX P w) P w K mg base N_grid "grid" (defScope s_grid) f cdv A outer s H E) (WB E) := go_def (CX := L2N.CX P w) sc_grid.nd hr
 have hu := go.rm
 exact (dl_cons (ds_fz 1 (ds_set 1 go.nd (de_lst (da_cons (de_tup da_nil) da_nil))))
 (dl_cons (ds_for go (di_seq (de_v 0)) (dg_name 2 go.nd) (dl_aft [(2, true)] (dl_one (ds_fz 1 (ds_setLc2 (g := (gN 3)) (tt := tYes') (it1 := (iSeq (eVar 2))) (g1 := (gN 4)) (tt1 := tYes') (te := (eTup (aStar (eVar 3) (aCons (eVar 4) aNil)))) 1 [("row", 3), ("standing", 4)] [4] rfl rfl rfl rfl rfl go (di_seq (de_v 1)) (show BlkOk N_grid (defScope s_grid) _ _ from ⟨rfl, by decide +kernel, by decide +kernel, by decide +kernel, by decide +kernel⟩) (fun _ _ _ _ _ => (dg_name 3 go.blk.nd)) (fun _ _ _ _ _ => dts_nil) (fun _ _ _ _ _ => (di_seq (de_v 2))) (fun _ _ _ _ _ => (dg_name 4 go.blk.nd)) (fun _ _ _ _ _ => dts_nil) (fun _ _ _ _ _ => (de_tup (da_star (de_v 3) (da_cons (de_v 4) da_nil)))))))))
 (dl_one (ds_rtA [0, 1, 2, 3, 4] (ds_ret (de_v 1))))))
theorem sc_Box_DinitD : FnScope N_Box_DinitD ["self", "sides"] (defScope s_Box_DinitD) := ⟨rfl, rfl, rfl, by decide +kernel, rfl, by decide +kernel, by decide +kernel⟩
theorem b_Box_DinitD {F_is_number F_ascending F_grid : Fn} (h_len : mg "len" = none) (h_is_number : DF P w K mg base "is_number" k 1 F_is_number) (h_ascending : DF P w K mg base "ascending" k 1 F_ascending) (h_tuple : mg "tuple" = none) (hf_sides : FldOk K ["Box"] "sides") (h_grid : DF P w K mg base "grid" k 1 F_grid) (hf_rows : FldOk K ["Box"] "rows") : Body P w K mg base N_Box_DinitD "Box.__init__" (defScope s_Box_DinitD) f (defBody s_Box_DinitD) 2 (k + 1) (f_Box_DinitD F_is_number F_ascending F_grid) := fun cdv A outer s H E hr => by
 have go : Go (cxOf (L2N.CX P w) P w K mg base N_Box_DinitD "Box.__init__" (defScope s_Box_DinitD) f cdv A outer s H E) (WB E) := go_def (CX := L2N.CX P w) sc_Box_DinitD.nd hr
 have hu := go.rm
 exact (dl_cons (ds_if (dt_eq hu (de_len h_len (da_cons (de_v 1) da_nil)) de_int) dl_never dl_nil)
 (dl_cons (ds_set 2 go.nd (de_lst da_nil))
 (dl_cons (ds_for go (di_seq (de_v 1)) (dg_name 3 go.nd) (dl_aft [(3, true), (4, true)] (dl_cons (ds_for go (di_seq (de_v 3)) (dg_name 4 go.nd) (dl_aft [(4, true)] (dl_one (ds_if (dt_not (dt_val (de_call [false] go h_is_number (hr.mono (by omega)) rfl (da_cons (de_v 4) da_nil)))) dl_never dl_nil))))
 (dl_one (ds_expr (de_append (de_v 2) (de_call [false] go h_ascending (hr.mono (by omega)) rfl (da_cons (de_v 3) da_nil))))))))
 (dl_cons (ds_setF hf_sides (de_v 0) (de_tuple h_tuple (da_cons (de_v 2) da_nil)))
 (dl_one (ds_setF hf_rows (de_v 0) (de_call [false] go h_grid (hr.mono (by omega)) rfl (da_cons (de_v 2) da_nil))))))))
theorem scZclean : FnScope NZclean ["_law_side"] (defScope sZclean) := ⟨rfl, rfl, rfl, by decide +kernel, rfl, by decide +kernel, by decide +kernel⟩
theorem bZclean (h_int : mg "int" = none) (h_sorted : mg "sorted" = none) : Body P w K mg base NZclean "_law_clean" (defScope sZclean) f (defBody sZclean) 1 (k + 1) (fZclean) := fun cdv A outer s H E hr => by
 have go : Go (cxOf (L2N.CX P w) P w K mg base NZclean "_law_clean" (defScope sZclean) f cdv A outer s H E) (WB E) := go_def (CX := L2N.CX P w) scZclean.nd hr
 have hu := go.rm
 exact (dl_cons (ds_set 1 go.nd (de_lst da_nil))
 (dl_cons (ds_for go (di_seq (de_sorted h_sorted (da_cons (de_lc (g := (gN 3)) (tt := tYes') (te := (eB gInt (aCons (eVar 3) aNil))) [("_law_s", 3)] go (di_seq (de_v 0)) (show BlkOk NZclean (defScope sZclean) _ _ from ⟨rfl, by decide +kernel, by decide +kernel, by decide +kernel, by decide +kernel⟩) (fun _ _ _ _ _ => (dg_name 3 go.blk.nd)) (fun _ _ _ _ _ => dts_nil) (fun _ _ _ _ _ => (de_int1 h_int (da_cons (de_v 3) da_nil)))) da_nil))) (dg_name 2 go.nd) (dl_aft [(2, true)] (dl_one (ds_if ((dw_or (dt_eq hu (de_v 1) (de_lst da_nil)) (dw_or1 (dt_ne hu (de_ix (de_v 1) (de_neg de_int)) (de_v 2))))).t (dl_one (ds_expr (de_append (de_v 1) (de_v 2)))) dl_nil))))
 (dl_one (ds_rtA [0, 1, 2, 3] (ds_ret (de_v 1))))))
theorem sc_Box_DiterD : FnScope ["self"] ["self"] (defScope s_Box_DiterD) := ⟨rfl, rfl, rfl, by decide +kernel, rfl, by decide +kernel, by decide +kernel⟩
theorem b_Box_DiterD (h_iter : mg "iter" = none) (cdv : Value) (A : Around) (outer : List Env) (s : Shared) (H : Hp) (E : XK) : PSs (cxOf (L2N.CX P w) P w K mg base ["self"] "Box.__iter__" (defScope s_Box_DiterD) f cdv A outer s H E) (defBody s_Box_DiterD) (tIter K s.heap.objs.size "rows") :=
 pss_one (ps_ret (pe_callB ItX.call_iterN rfl h_iter PyProof.Rows.boot_iter (pa_cons (pe_fld (pe_var rfl (Or.inl rfl)) rfl) pa_nil rfl)))
theorem scZis_integer : FnScope NZis_integer ["_law_actual"] (defScope sZis_integer) := ⟨rfl, rfl, rfl, by decide +kernel, rfl, by decide +kernel, by decide +kernel⟩
theorem bZis_integer (h_int : mg "int" = none) (h_isinstance : mg "isinstance" = none) (h_bool : mg "bool" = none) : Body P w K mg base NZis_integer "_law_is_integer" (defScope sZis_integer) f (defBody sZis_integer) 1 (k + 1) (fZis_integer) := fun cdv A outer s H E hr => by
 have go : Go (cxOf (L2N.CX P w) P w K mg base NZis_integer "_law_is_integer" (defScope sZis_integer) f cdv A outer s H E) (WB E) := go_def (CX := L2N.CX P w) scZis_integer.nd hr
 have hu := go.rm
 exact (dl_one (ds_rtA [0] (ds_ret (de_and (de_isi h_isinstance (da_cons (de_v 0) (da_cons (de_tyN h_int PyProof.Rows.boot_int) da_nil))) (de_one (de_not (de_isi h_isinstance (da_cons (de_v 0) (da_cons (de_tyN h_bool PyProof.Rows.boot_bool) da_nil)))))))))
theorem scZis_numbers : FnScope NZis_numbers ["_law_actual", "_law_expected"] (defScope sZis_numbers) := ⟨rfl, rfl, rfl, by decide +kernel, rfl, by decide +kernel, by decide +kernel⟩
theorem bZis_numbers {FZis_integer : Fn} (h_tuple : mg "tuple" = none) (h_isinstance : mg "isinstance" = none) (h_len : mg "len" = none) (h_range : mg "range" = none) (hZis_integer : DF P w K mg base "_law_is_integer" k 1 FZis_integer) : Body P w K mg base NZis_numbers "_law_is_numbers" (defScope sZis_numbers) f (defBody sZis_numbers) 2 (k + 1) (fZis_numbers FZis_integer) := fun cdv A outer s H E hr => by
 have go : Go (cxOf (L2N.CX P w) P w K mg base NZis_numbers "_law_is_numbers" (defScope sZis_numbers) f cdv A outer s H E) (WB E) := go_def (CX := L2N.CX P w) scZis_numbers.nd hr
 have hu := go.rm
 exact (dl_cons (ds_if ((dw_or (dt_not (dt_val (de_isi h_isinstance (da_cons (de_v 0) (da_cons (de_tyN h_tuple PyProof.Rows.boot_tuple) da_nil))))) (dw_or1 (dt_ne hu (de_len h_len (da_cons (de_v 0) da_nil)) (de_len h_len (da_cons (de_v 1) da_nil)))))).t (dl_one (ds_rtA [0, 1, 2] (ds_ret de_bl))) dl_nil)
 (dl_cons (ds_for go (di_rng1 rfl h_range (da_cons (de_len h_len (da_cons (de_v 1) da_nil)) da_nil)) (dg_name 2 go.nd) (dl_aft [(2, true)] (dl_one (ds_if ((dw_or (dt_not (dt_val (de_call [false] go hZis_integer (hr.mono (by omega)) rfl (da_cons (de_ix (de_v 0) (de_v 2)) da_nil)))) (dw_or1 (dt_ne hu (de_ix (de_v 0) (de_v 2)) (de_ix (de_v 1) (de_v 2)))))).t (dl_one (ds_rtA [0, 1, 2] (ds_ret de_bl))) dl_nil))))
 (dl_one (ds_rtA [0, 1, 2] (ds_ret de_bl)))))
theorem sc_Box_DcontainsD : FnScope N_Box_DcontainsD ["self", "combination"] (defScope s_Box_DcontainsD) := ⟨rfl, rfl, rfl, by decide +kernel, rfl, by decide +kernel, by decide +kernel⟩
theorem b_Box_DcontainsD {F_is_number : Fn} (h_len : mg "len" = none) (hf_sides : FldOk K ["Box"] "sides") (h_zip : mg "zip" = none) (h_is_number : DF P w K mg base "is_number" k 1 F_is_number) : Body P w K mg base N_Box_DcontainsD "Box.__contains__" (defScope s_Box_DcontainsD) f (defBody s_Box_DcontainsD) 2 (k + 1) (f_Box_DcontainsD F_is_number) := fun cdv A outer s H E hr => by
 have go : Go (cxOf (L2N.CX P w) P w K mg base N_Box_DcontainsD "Box.__contains__" (defScope s_Box_DcontainsD) f cdv A outer s H E) (WB E) := go_def (CX := L2N.CX P w) sc_Box_DcontainsD.nd hr
 have hu := go.rm
 exact (dl_cons (ds_if (dt_ne hu (de_len h_len (da_cons (de_v 1) da_nil)) (de_len h_len (da_cons (de_fld hf_sides (de_v 0)) da_nil))) (dl_one (ds_rtA [0, 1, 2, 3] (ds_ret de_bl))) dl_nil)
 (dl_cons (ds_for go (di_zip rfl h_zip (da_cons (de_v 1) (da_cons (de_fld hf_sides (de_v 0)) da_nil))) (dg_tup go.calm (dgs_cons (dg_name 2 go.nd) (dgs_cons (dg_name 3 go.nd) dgs_nil))) (dl_aft [(2, true), (3, true)] (dl_one (ds_if ((dw_or (dt_not (dt_val (de_call [false] go h_is_number (hr.mono (by omega)) rfl (da_cons (de_v 2) da_nil)))) (dw_or1 (dt_notIn hu (de_v 2) (de_v 3))))).t (dl_one (ds_rtA [0, 1, 2, 3] (ds_ret de_bl))) dl_nil))))
 (dl_one (ds_rtA [0, 1, 2, 3] (ds_ret de_bl)))))
theorem scZis_sides : FnScope NZis_sides ["_law_actual", "_law_expected"] (defScope sZis_sides) := ⟨rfl, rfl, rfl, by decide +kernel, rfl, by decide +kernel, by decide +kernel⟩
theorem bZis_sides {FZis_numbers : Fn} (h_tuple : mg "tuple" = none) (h_isinstance : mg "isinstance" = none) (h_len : mg "len" = none) (h_range : mg "range" = none) (hZis_numbers : DF P w K mg base "_law_is_numbers" k 2 FZis_numbers) : Body P w K mg base NZis_sides "_law_is_sides" (defScope sZis_sides) f (defBody sZis_sides) 2 (k + 1) (fZis_sides FZis_numbers) := fun cdv A outer s H E hr => by
 have go : Go (cxOf (L2N.CX P w) P w K mg base NZis_sides "_law_is_sides" (defScope sZis_sides) f cdv A outer s H E) (WB E) := go_def (CX := L2N.CX P w) scZis_sides.nd hr
 have hu := go.rm
 exact (dl_cons (ds_if ((dw_or (dt_not (dt_val (de_isi h_isinstance (da_cons (de_v 0) (da_cons (de_tyN h_tuple PyProof.Rows.boot_tuple) da_nil))))) (dw_or1 (dt_ne hu (de_len h_len (da_cons (de_v 0) da_nil)) (de_len h_len (da_cons (de_v 1) da_nil)))))).t (dl_one (ds_rtA [0, 1, 2] (ds_ret de_bl))) dl_nil)
 (dl_cons (ds_for go (di_rng1 rfl h_range (da_cons (de_len h_len (da_cons (de_v 1) da_nil)) da_nil)) (dg_name 2 go.nd) (dl_aft [(2, true)] (dl_one (ds_if (dt_not (dt_val (de_call [false, false] go hZis_numbers (hr.mono (by omega)) rfl (da_cons (de_ix (de_v 0) (de_v 2)) (da_cons (de_ix (de_v 1) (de_v 2)) da_nil))))) (dl_one (ds_rtA [0, 1, 2] (ds_ret de_bl))) dl_nil))))
 (dl_one (ds_rtA [0, 1, 2] (ds_ret de_bl)))))
theorem sc_Box_DgetitemD : FnScope N_Box_DgetitemD ["self", "at"] (defScope s_Box_DgetitemD) := ⟨rfl, rfl, rfl, by decide +kernel, rfl, by decide +kernel, by decide +kernel⟩
theorem b_Box_DgetitemD (hf_sides : FldOk K ["Box"] "sides") : Body P w K mg base N_Box_DgetitemD "Box.__getitem__" (defScope s_Box_DgetitemD) f (defBody s_Box_DgetitemD) 2 (k + 1) (f_Box_DgetitemD) := fun cdv A outer s H E hr => by
 have go : Go (cxOf (L2N.CX P w) P w K mg base N_Box_DgetitemD "Box.__getitem__" (defScope s_Box_DgetitemD) f cdv A outer s H E) (WB E) := go_def (CX := L2N.CX P w) sc_Box_DgetitemD.nd hr
 have hu := go.rm
 exact (dl_one (ds_rtA [0, 1] (ds_ret (de_ix (de_fld hf_sides (de_v 0)) (de_v 1)))))
theorem scZcombos : FnScope NZcombos ["_law_sides"] (defScope sZcombos) := ⟨rfl, rfl, rfl, by decide +kernel, rfl, by decide +kernel, by decide +kernel⟩
theorem bZcombos {FZcombos : Fn} (h_len : mg "len" = none) (hZcombos : DF P w K mg base "_law_combos" k 1 FZcombos) : Body P w K mg base NZcombos "_law_combos" (defScope sZcombos) f (defBody sZcombos) 1 (k + 1) (fZcombos FZcombos) := fun cdv A outer s H E hr => by
 have go : Go (cxOf (L2N.CX P w) P w K mg base NZcombos "_law_combos" (defScope sZcombos) f cdv A outer s H E) (WB E) := go_def (CX := L2N.CX P w) scZcombos.nd hr
 have hu := go.rm
 exact (dl_cons (ds_if (dt_eq hu (de_len h_len (da_cons (de_v 0) da_nil)) de_int) (dl_one (ds_rtA [0, 1, 2, 3, 4] (ds_ret (de_lst (da_cons (de_tup da_nil) da_nil))))) dl_nil)
 (dl_cons (ds_fz 1 (ds_set 1 go.nd (de_call [false] go hZcombos (hr.mono (by omega)) rfl (da_cons (de_sl (de_v 0) (do_some de_int) do_no) da_nil))))
 (dl_cons (ds_set 2 go.nd (de_lst da_nil))
 (dl_cons (ds_for go (di_seq (de_ix (de_v 0) de_int)) (dg_name 3 go.nd) (dl_aft [(3, true), (4, true)] (dl_one (ds_for go (di_seq (de_v 1)) (dg_name 4 go.nd) (dl_aft [(4, true)] (dl_one (ds_expr (de_append (de_v 2) (de_add (de_tup (da_cons (de_v 3) da_nil)) (de_v 4))))))))))
 (dl_one (ds_rtA [0, 1, 2, 3, 4] (ds_ret (de_v 2))))))))
theorem scZis_rows : FnScope NZis_rows ["_law_actual", "_law_expected"] (defScope sZis_rows) := ⟨rfl, rfl, rfl, by decide +kernel, rfl, by decide +kernel, by decide +kernel⟩
theorem bZis_rows {FZis_numbers : Fn} (h_list : mg "list" = none) (h_isinstance : mg "isinstance" = none) (h_len : mg "len" = none) (h_range : mg "range" = none) (hZis_numbers : DF P w K mg base "_law_is_numbers" k 2 FZis_numbers) : Body P w K mg base NZis_rows "_law_is_rows" (defScope sZis_rows) f (defBody sZis_rows) 2 (k + 1) (fZis_rows FZis_numbers) := fun cdv A outer s H E hr => by
 have go : Go (cxOf (L2N.CX P w) P w K mg base NZis_rows "_law_is_rows" (defScope sZis_rows) f cdv A outer s H E) (WB E) := go_def (CX := L2N.CX P w) scZis_rows.nd hr
 have hu := go.rm
 exact (dl_cons (ds_if ((dw_or (dt_not (dt_val (de_isi h_isinstance (da_cons (de_v 0) (da_cons (de_tyN h_list PyProof.Rows.boot_list) da_nil))))) (dw_or1 (dt_ne hu (de_len h_len (da_cons (de_v 0) da_nil)) (de_len h_len (da_cons (de_v 1) da_nil)))))).t (dl_one (ds_rtA [0, 1, 2] (ds_ret de_bl))) dl_nil)
 (dl_cons (ds_for go (di_rng1 rfl h_range (da_cons (de_len h_len (da_cons (de_v 1) da_nil)) da_nil)) (dg_name 2 go.nd) (dl_aft [(2, true)] (dl_one (ds_if (dt_not (dt_val (de_call [false, false] go hZis_numbers (hr.mono (by omega)) rfl (da_cons (de_ix (de_v 0) (de_v 2)) (da_cons (de_ix (de_v 1) (de_v 2)) da_nil))))) (dl_one (ds_rtA [0, 1, 2] (ds_ret de_bl))) dl_nil))))
 (dl_one (ds_rtA [0, 1, 2] (ds_ret de_bl)))))
theorem scZis_box : FnScope NZis_box ["_law_box", "_law_clean_here", "_law_source_here"] (defScope sZis_box) := ⟨rfl, rfl, rfl, by decide +kernel, rfl, by decide +kernel, by decide +kernel⟩
theorem bZis_box {FZis_sides F_Box_DgetitemD FZis_numbers FZcombos FZis_rows FZdraw F_Box_DcontainsD : Fn} (hf_sides : FldOk K ["Box"] "sides") (hZis_sides : DF P w K mg base "_law_is_sides" k 2 FZis_sides) (h_len : mg "len" = none) (h_range : mg "range" = none) (h_Box_DgetitemD : DDun P w K mg base "Box" "__getitem__" k 2 F_Box_DgetitemD) (hZis_numbers : DF P w K mg base "_law_is_numbers" k 2 FZis_numbers) (hZcombos : DF P w K mg base "_law_combos" k 1 FZcombos) (hi_Box : DIter P w K mg base "Box" "rows" 1) (hZis_rows : DF P w K mg base "_law_is_rows" k 2 FZis_rows) (ho_Box : OwnC K "Box") (hk2 : 2 ≤ k) (h_list : mg "list" = none) (hZdraw : DF P w K mg base "_law_draw" k 2 FZdraw) (h_int : mg "int" = none) (h_Box_DcontainsD : DMeth P w K mg base "Box" "__contains__" k 2 F_Box_DcontainsD) (h_tuple : mg "tuple" = none) : Body P w K mg base NZis_box "_law_is_box" (defScope sZis_box) f (defBody sZis_box) 3 (k + 1) (fZis_box FZis_sides F_Box_DgetitemD FZis_numbers FZcombos FZis_rows FZdraw F_Box_DcontainsD) := fun cdv A outer s H E hr => by
 have go : Go (cxOf (L2N.CX P w) P w K mg base NZis_box "_law_is_box" (defScope sZis_box) f cdv A outer s H E) (WB E) := go_def (CX := L2N.CX P w) scZis_box.nd hr
 have hu := go.rm
 exact (dl_cons (ds_if (dt_not (dt_val (de_call [false, false] go hZis_sides (hr.mono (by omega)) rfl (da_cons (de_fld hf_sides (de_v 0)) (da_cons (de_v 1) da_nil))))) (dl_one (ds_rtA [0, 1, 3, 4, 5, 6, 7, 8, 9, 10] (ds_ret de_bl))) dl_nil)
 (dl_cons (ds_for go (di_rng1 rfl h_range (da_cons (de_len h_len (da_cons (de_v 1) da_nil)) da_nil)) (dg_name 3 go.nd) (dl_aft [(3, true)] (dl_one (ds_if (dt_not (dt_val (de_call [false, false] go hZis_numbers (hr.mono (by omega)) rfl (da_cons (de_own_ix [false, false] go h_Box_DgetitemD hr (de_v 0) (de_v 3)) (da_cons (de_ix (de_v 1) (de_v 3)) da_nil))))) (dl_one (ds_rtA [0, 1, 3, 4, 5, 6, 7, 8, 9, 10] (ds_ret de_bl))) dl_nil))))
 (dl_cons (ds_fz 4 (ds_set 4 go.nd (de_call [false] go hZcombos (hr.mono (by omega)) rfl (da_cons (de_v 1) da_nil))))
 (dl_cons (ds_if ((dw_or (dt_not (dt_val (de_call [false, false] go hZis_rows (hr.mono (by omega)) rfl (da_cons (de_lc (g := (gN 10)) (tt := tYes') (te := (eVar 10)) [("_law_row", 10)] go (di_own go hi_Box (hr.mono (by omega)) (de_v 0)) (show BlkOk NZis_box (defScope sZis_box) _ _ from ⟨rfl, by decide +kernel, by decide +kernel, by decide +kernel, by decide +kernel⟩) (fun _ _ _ _ _ => (dg_name 10 go.blk.nd)) (fun _ _ _ _ _ => dts_nil) (fun _ _ _ _ _ => (de_v 10))) (da_cons (de_v 4) da_nil))))) (dw_or1 (dt_not (dt_val (de_call [false, false] go hZis_rows (hr.mono (by omega)) rfl (da_cons (de_listOwn go hi_Box ho_Box (hr.mono (by omega)) h_list (de_v 0)) (da_cons (de_v 4) da_nil)))))))).t (dl_one (ds_rtA [0, 1, 3, 4, 5, 6, 7, 8, 9, 10] (ds_ret de_bl))) dl_nil)
 (dl_cons (ds_for go (di_rng1 rfl h_range (da_cons de_int da_nil)) (dg_name 5 go.nd) (dl_aft [(5, true), (6, true), (7, true), (8, true), (9, true)] (dl_cons (ds_set 6 go.nd (de_tup da_nil))
 (dl_cons (ds_set 7 go.nd de_bl)
 (dl_cons (ds_for go (di_seq (de_v 1)) (dg_name 8 go.nd) (dl_aft [(8, true), (9, true)] (dl_cons (ds_set 9 go.nd de_int)
 (dl_cons (ds_if (dt_ne hu (de_v 8) (de_lst da_nil)) (dl_one (ds_set 9 go.nd (de_add (de_ix (de_v 8) (de_call [true, false] go hZdraw (hr.mono (by omega)) rfl (da_cons (de_v 2) (da_cons (de_len h_len (da_cons (de_v 8) da_nil)) da_nil)))) (de_int1 h_int (da_cons (de_eq hu (de_call [true, false] go hZdraw (hr.mono (by omega)) rfl (da_cons (de_v 2) (da_cons de_int da_nil))) de_int) da_nil))))) dl_nil)
 (dl_cons (ds_set 7 go.nd (de_and (de_v 7) (de_one (de_in hu (de_v 9) (de_v 8)))))
 (dl_one (ds_set 6 go.nd (de_add (de_v 6) (de_tup (da_cons (de_v 9) da_nil))))))))))
 (dl_cons (ds_if ((dw_or (dt_ne hu (de_own_in [false, false] go h_Box_DcontainsD (hr.mono (by omega)) (de_v 6) (de_v 0)) (de_v 7)) (dw_or (dt_own_in [false, false] go h_Box_DcontainsD (hr.mono (by omega)) (de_sl (de_v 6) (do_some de_int) do_no) (de_v 0)) (dw_or1 (dt_own_in [false, false] go h_Box_DcontainsD (hr.mono (by omega)) (de_add (de_v 6) (de_tup (da_cons de_int da_nil))) (de_v 0)))))).t (dl_one (ds_rtA [0, 1, 3, 4, 5, 6, 7, 8, 9, 10] (ds_ret de_bl))) dl_nil)
 (dl_cons (ds_if (dt_own_in [false, false] go h_Box_DcontainsD (hr.mono (by omega)) (de_tuple h_tuple (da_cons (de_lc (g := (gN 9)) (tt := tYes') (te := (eEq (eVar 9) (eC (.int 1)))) [("_law_standing", 9)] go (di_seq (de_v 6)) (show BlkOk NZis_box (defScope sZis_box) _ _ from ⟨rfl, by decide +kernel, by decide +kernel, by decide +kernel, by decide +kernel⟩) (fun _ _ _ _ _ => (dg_name 9 go.blk.nd)) (fun _ _ _ _ _ => dts_nil) (fun _ _ _ _ _ => (de_eq hu (de_v 9) de_int))) da_nil)) (de_v 0)) (dl_one (ds_rtA [0, 1, 3, 4, 5, 6, 7, 8, 9, 10] (ds_ret de_bl))) dl_nil)
 (dl_one (ds_if ((dw_and (dt_val (de_v 7)) (dw_and1 ((dw_or (dt_own_in [false, false] go h_Box_DcontainsD (hr.mono (by omega)) (de_add (de_v 6) (de_sl (de_v 6) do_no (do_some de_int))) (de_v 0)) (dw_or1 (dt_own_in [false, false] go h_Box_DcontainsD (hr.mono (by omega)) (de_tup da_nil) (de_v 0))))).t))).t (dl_one (ds_rtA [0, 1, 3, 4, 5, 6, 7, 8, 9, 10] (ds_ret de_bl))) dl_nil)))))))))
 (dl_one (ds_rtA [0, 1, 3, 4, 5, 6, 7, 8, 9, 10] (ds_ret de_bl))))))))
theorem sc_law : FnScope N_law ["_law_script"] (defScope s_law) := ⟨rfl, rfl, rfl, by decide +kernel, rfl, by decide +kernel, by decide +kernel⟩
theorem b_law {FZsource : Fn} {FZcell : Fn} {FZdraw : Fn} {FZdraw_sides : Fn} {F_Box_DinitD : Fn} {FZclean : Fn} {FZis_numbers : Fn} {F_Box_DcontainsD : Fn} {FZis_box : Fn} (hZcell : DF P w K mg base "_law_cell" k 2 FZcell) (hZsource : DF P w K mg base "_law_source" k 1 FZsource) (hZdraw : DF P w K mg base "_law_draw" k 2 FZdraw) (hZdraw_sides : DF P w K mg base "_law_draw_sides" k 4 FZdraw_sides) (h_list : mg "list" = none) (h_Box_DinitD : DM P w K mg base "Box" k 2 F_Box_DinitD) (h_tuple : mg "tuple" = none) (hZclean : DF P w K mg base "_law_clean" k 1 FZclean) (h_range : mg "range" = none) (hi_Box : DIter P w K mg base "Box" "rows" 1) (ho_Box : OwnC K "Box") (hk2 : 2 ≤ k) (h_len : mg "len" = none) (hZis_numbers : DF P w K mg base "_law_is_numbers" k 2 FZis_numbers) (h_Box_DcontainsD : DMeth P w K mg base "Box" "__contains__" k 2 F_Box_DcontainsD) (hZis_box : DF P w K mg base "_law_is_box" k 3 FZis_box) : BodyA P w K mg base N_law "law" (defScope s_law) f (defBody s_law) 1 (k + 1) (z_law FZsource FZcell FZdraw FZdraw_sides F_Box_DinitD FZclean FZis_numbers F_Box_DcontainsD FZis_box) := fun cdv A outer s H E hr => by
 have go : Go (cxOf (L2N.CX P w) P w K mg base N_law "law" (defScope s_law) f cdv A outer s H E) (WB E) := go_def (CX := L2N.CX P w) sc_law.nd hr
 have hu := go.rm
 exact (dla_cons (dsa_lift (ds_set 1 go.nd (de_call [false] go hZsource (hr.mono (by omega)) rfl (da_cons (de_call [false, false] go hZcell (hr.mono (by omega)) rfl (da_cons (de_v 0) (da_cons de_int da_nil))) da_nil)))) (dla_cons (dsa_lift (ds_set 2 go.nd (de_call [false] go hZsource (hr.mono (by omega)) rfl (da_cons (de_call [false, false] go hZcell (hr.mono (by omega)) rfl (da_cons (de_v 0) (da_cons de_int da_nil))) da_nil)))) (dla_cons (dsa_lift (ds_set 3 go.nd (de_ix (de_lst (da_cons de_int (da_cons de_int (da_cons (de_pow de_int de_int) da_nil)))) (de_call [true, false] go hZdraw (hr.mono (by omega)) rfl (da_cons (de_v 1) (da_cons de_int da_nil)))))) (dla_cons (dsa_lift (ds_set 4 go.nd (de_add de_int (de_call [true, false] go hZdraw (hr.mono (by omega)) rfl (da_cons (de_v 1) (da_cons de_int da_nil)))))) (dla_cons (dsa_lift (ds_fz 5 (ds_set 5 go.nd (de_call [true, true, false, false] go hZdraw_sides (hr.mono (by omega)) rfl (da_cons (de_v 1) (da_cons (de_v 2) (da_cons (de_v 4) (da_cons (de_v 3) da_nil)))))))) (dla_cons (dsa_lift (ds_fz 6 (ds_set 6 go.nd (de_call [true, true, false, false] go hZdraw_sides (hr.mono (by omega)) rfl (da_cons (de_v 1) (da_cons (de_v 2) (da_cons (de_v 4) (da_cons (de_v 3) da_nil)))))))) (dla_cons (dsa_setLcN (g := (gN 10)) (tt := tYes') (te := (eB gList (aCons (eVar 10) aNil))) 7 [("_law_side", 10)] rfl rfl rfl rfl rfl go (di_seq (de_v 5)) (show BlkOk N_law (defScope s_law) _ _ from ⟨rfl, by decide +kernel, by decide +kernel, by decide +kernel, by decide +kernel⟩) (fun _ _ _ _ _ => (dg_name 10 go.blk.nd)) (fun _ _ _ _ _ => dts_nil) (fun _ _ _ _ _ => (de_list h_list (da_cons (de_v 10) da_nil)))) (dla_own 7 (dla_cons (dsa_setO 8 go.nd (dea_loan 2 (de_make [false] go h_Box_DinitD hr rfl (da_cons (de_v 7) da_nil)))) (Tl.dla_nrm [(8, false)] (dla_cons (dsa_lift (ds_fz 9 (ds_set 9 go.nd (de_make [false] go h_Box_DinitD hr rfl (da_cons (de_brw (de_tuple h_tuple (da_cons (de_lc (g := (gN 10)) (tt := tYes') (te := (eB gTuple (aCons (eVar 10) aNil))) [("_law_side", 10)] go (di_seq (de_v 6)) (show BlkOk N_law (defScope s_law) _ _ from ⟨rfl, by decide +kernel, by decide +kernel, by decide +kernel, by decide +kernel⟩) (fun _ _ _ _ _ => (dg_name 10 go.blk.nd)) (fun _ _ _ _ _ => dts_nil) (fun _ _ _ _ _ => (de_tuple h_tuple (da_cons (de_v 10) da_nil)))) da_nil))) da_nil))))) (dla_cons (dsa_ifA (dta_peek (W := WX0) 2 (dt_ne hu (de_v 7) (de_v 5))) (dla_one (dsa_lift (ds_rtA [0, 1, 2, 3, 4, 5, 6, 7, 8, 9, 10, 11, 12, 13, 14, 15, 16, 17] (ds_ret de_bl)))) dla_nil) (dla_cons (dsa_forN go (dea_lift (W := WX0) (de_v 7)) (dg_name 10 go.nd) (dla_one (dsa_expr (dea_append (W := WX0) (dea_lift (W := WX0) (de_v 10)) de_int)))) (dla_cons (dsa_expr (dea_append (W := WX0) (dea_lift (W := WX0) (de_v 7)) (de_lst (da_cons de_int da_nil)))) (dla_still 2 (Tl.dla_nrm [(7, true), (10, true)] (dla_lift (dl_cons (ds_fz 11 (ds_setLc (g := (gN 10)) (tt := tYes') (te := (eCall [false] FZclean (aCons (eVar 10) aNil))) 11 [("_law_side", 10)] rfl rfl rfl rfl rfl go (di_seq (de_v 5)) (show BlkOk N_law (defScope s_law) _ _ from ⟨rfl, by decide +kernel, by decide +kernel, by decide +kernel, by decide +kernel⟩) (fun _ _ _ _ _ => (dg_name 10 go.blk.nd)) (fun _ _ _ _ _ => dts_nil) (fun _ _ _ _ _ => (de_call [false] go.blk hZclean (hr.mono (by omega)) rfl (da_cons (de_v 10) da_nil))))) (dl_cons (ds_fz 12 (ds_setLc (g := (gN 10)) (tt := tYes') (te := (eCall [false] FZclean (aCons (eVar 10) aNil))) 12 [("_law_side", 10)] rfl rfl rfl rfl rfl go (di_seq (de_v 6)) (show BlkOk N_law (defScope s_law) _ _ from ⟨rfl, by decide +kernel, by decide +kernel, by decide +kernel, by decide +kernel⟩) (fun _ _ _ _ _ => (dg_name 10 go.blk.nd)) (fun _ _ _ _ _ => dts_nil) (fun _ _ _ _ _ => (de_call [false] go.blk hZclean (hr.mono (by omega)) rfl (da_cons (de_v 10) da_nil))))) (dl_cons (ds_fz 13 (ds_set 13 go.nd (de_lst (da_cons (de_add de_int (de_call [true, false] go hZdraw (hr.mono (by omega)) rfl (da_cons (de_v 1) (da_cons de_int da_nil)))) (da_cons (de_add de_int (de_call [true, false] go hZdraw (hr.mono (by omega)) rfl (da_cons (de_v 1) (da_cons de_int da_nil)))) da_nil))))) (dl_cons (ds_fz 14 (ds_set 14 go.nd (de_make [false] go h_Box_DinitD hr rfl (da_cons (de_brw (de_lst (da_cons (de_brw (de_lrg go (hm := h_list) (hm2 := h_range) (ha := (de_ix (de_v 13) de_int)))) (da_cons (de_brw (de_lc (g := (gN 17)) (tt := tYes') (te := (eMul (eC (.int 7)) (eVar 17))) [("_law_k", 17)] go (di_rng1 rfl h_range (da_cons (de_ix (de_v 13) de_int) da_nil)) (show BlkOk N_law (defScope s_law) _ _ from ⟨rfl, by decide +kernel, by decide +kernel, by decide +kernel, by decide +kernel⟩) (fun _ _ _ _ _ => (dg_name 17 go.blk.nd)) (fun _ _ _ _ _ => dts_nil) (fun _ _ _ _ _ => (de_mul de_int (de_v 17))))) da_nil)))) da_nil)))) (dl_cons (ds_fz 15 (ds_set 15 go.nd (de_listOwn go hi_Box ho_Box (hr.mono (by omega)) h_list (de_v 14)))) (dl_cons (ds_set 16 go.nd (de_tup (da_cons (de_sub (de_ix (de_v 13) de_int) de_int) (da_cons (de_mul de_int (de_sub (de_ix (de_v 13) de_int) de_int)) da_nil)))) (dl_cons (ds_if ((dw_or (dt_ne hu (de_len h_len (da_cons (de_v 15) da_nil)) (de_mul (de_ix (de_v 13) de_int) (de_ix (de_v 13) de_int))) (dw_or (dt_not (dt_val (de_call [false, false] go hZis_numbers (hr.mono (by omega)) rfl (da_cons (de_ix (de_v 15) (de_neg de_int)) (da_cons (de_v 16) da_nil))))) (dw_or1 (dt_own_notIn [false, false] go h_Box_DcontainsD (hr.mono (by omega)) (de_v 16) (de_v 14)))))).t (dl_one (ds_rtA [0, 1, 2, 3, 4, 5, 6, 7, 8, 9, 10, 11, 12, 13, 14, 15, 16, 17] (ds_ret de_bl))) dl_nil) (dl_one (ds_rtA [0, 1, 2, 3, 4, 5, 6, 7, 8, 9, 10, 11, 12, 13, 14, 15, 16, 17] (ds_ret (de_and (de_call [false, false, true] go hZis_box (hr.mono (by omega)) rfl (da_cons (de_v 8) (da_cons (de_v 11) (da_cons (de_v 2) da_nil)))) (de_and (de_call [false, false, true] go hZis_box (hr.mono (by omega)) rfl (da_cons (de_v 9) (da_cons (de_v 12) (da_cons (de_v 2) da_nil)))) (de_one (de_call [false, false, true] go hZis_box (hr.mono (by omega)) rfl (da_cons (de_v 8) (da_cons (de_v 11) (da_cons (de_v 2) da_nil))))))))))))))))))))))))))))))))))
end
end My
namespace My
open PySem PySem.Spec PyProof.Rows L2 Dl
def fn_law : Fn
 | [.val (.scr ns)] => some (.ret (.val (.bl true)) [.val (.scr ns)])
 | _ => none
theorem le_law : Fn.le fn_law Fn_law := by
 intro ss o h
 unfold fn_law at h
 split at h
 · rename_i ns
   cases h
   rw [eq_law, law_true]; rfl
 · cases h
theorem all {P : Program} {w : World} {K : PySem.W.Frag} {h base : Heap} {mg : Str → Option Value} {f : Addr} {fd : FuncData} (X : K.In h) (G : h.Ns mainGlobals mg) (ce : SaysE ocs fa fn K) (F : FunD K "law" "law" (defArgs s_law) (defBody s_law) (defScope s_law) [] [] f fd) : FnOk P w K mg base (L2N.CX P w) 22 f fd ["_law_script"] (spD K 1 fn_law) := by
 have c := ce.d
 have h_len : mg "len" = none := He.free_ok X G (c.fact 41 (f := .free "len") rfl)
 have h_int : mg "int" = none := He.free_ok X G (c.fact 38 (f := .free "int") rfl)
 have h_range : mg "range" = none := He.free_ok X G (c.fact 44 (f := .free "range") rfl)
 have h_max : mg "max" = none := He.free_ok X G (c.fact 43 (f := .free "max") rfl)
 have h_isinstance : mg "isinstance" = none := He.free_ok X G (c.fact 39 (f := .free "isinstance") rfl)
 have h_bool : mg "bool" = none := He.free_ok X G (c.fact 36 (f := .free "bool") rfl)
 have h_sorted : mg "sorted" = none := He.free_ok X G (c.fact 45 (f := .free "sorted") rfl)
 have h_tuple : mg "tuple" = none := He.free_ok X G (c.fact 46 (f := .free "tuple") rfl)
 have hf_sides : FldOk K ["Box"] "sides" := ⟨fun n hn => by rw [List.mem_singleton.mp hn]; exact ⟨He.cls_ok (c.fact 23 (f := .cls "Box") rfl), He.noat_ok (c.fact 34 (f := .noat "Box" "sides") rfl)⟩⟩
 have hf_rows : FldOk K ["Box"] "rows" := ⟨fun n hn => by rw [List.mem_singleton.mp hn]; exact ⟨He.cls_ok (c.fact 23 (f := .cls "Box") rfl), He.noat_ok (c.fact 33 (f := .noat "Box" "rows") rfl)⟩⟩
 have h_zip : mg "zip" = none := He.free_ok X G (c.fact 47 (f := .free "zip") rfl)
 have h_list : mg "list" = none := He.free_ok X G (c.fact 42 (f := .free "list") rfl)
 have h_iter : mg "iter" = none := He.free_ok X G (c.fact 40 (f := .free "iter") rfl)
 have ho_Box : OwnC K "Box" := ownB_ok (He.cls_ok (c.fact 23 (f := .cls "Box") rfl)) (ce.own (n := "Box") (by decide))
 obtain ⟨fdZcell, FZcell⟩ := c.def_ 6 (d := dZcell) rfl
 obtain ⟨fdZsource, FZsource⟩ := c.def_ 7 (d := dZsource) rfl
 obtain ⟨fdZdraw, FZdraw⟩ := c.def_ 8 (d := dZdraw) rfl
 obtain ⟨fdZdraw_sides, FZdraw_sides⟩ := c.def_ 12 (d := dZdraw_sides) rfl
 obtain ⟨fd_is_integer, F_is_integer⟩ := c.def_ 1 (d := d_is_integer) rfl
 obtain ⟨fd_is_number, F_is_number⟩ := c.def_ 2 (d := d_is_number) rfl
 obtain ⟨fd_ascending, F_ascending⟩ := c.def_ 3 (d := d_ascending) rfl
 obtain ⟨fd_grid, F_grid⟩ := c.def_ 4 (d := d_grid) rfl
 obtain ⟨fd_Box_DinitD, F_Box_DinitD⟩ := c.def_ 18 (d := d_Box_DinitD) rfl
 obtain ⟨fdZclean, FZclean⟩ := c.def_ 13 (d := dZclean) rfl
 obtain ⟨fd_Box_DiterD, F_Box_DiterD⟩ := c.def_ 19 (d := d_Box_DiterD) rfl
 obtain ⟨fdZis_integer, FZis_integer⟩ := c.def_ 9 (d := dZis_integer) rfl
 obtain ⟨fdZis_numbers, FZis_numbers⟩ := c.def_ 10 (d := dZis_numbers) rfl
 obtain ⟨fd_Box_DcontainsD, F_Box_DcontainsD⟩ := c.def_ 21 (d := d_Box_DcontainsD) rfl
 obtain ⟨fdZis_sides, FZis_sides⟩ := c.def_ 14 (d := dZis_sides) rfl
 obtain ⟨fd_Box_DgetitemD, F_Box_DgetitemD⟩ := c.def_ 20 (d := d_Box_DgetitemD) rfl
 obtain ⟨fdZcombos, FZcombos⟩ := c.def_ 11 (d := dZcombos) rfl
 obtain ⟨fdZis_rows, FZis_rows⟩ := c.def_ 15 (d := dZis_rows) rfl
 obtain ⟨fdZis_box, FZis_box⟩ := c.def_ 16 (d := dZis_box) rfl
 have hi_Box : DIter P w K mg base "Box" "rows" 1 := diter_of (N := []) F_Box_DiterD sc_Box_DiterD (He.cls_ok (c.fact 23 (f := .cls "Box") rfl)) (He.noat_ok (c.fact 33 (f := .noat "Box" "rows") rfl)) (He.meth_ok (c.fact 26 (f := .meth "Box" "__iter__") rfl)) (FunD.bindsN (ps := ["self"]) F_Box_DiterD fun _ _ _ _ _ _ us hl => match us, hl with | [_], _ => rfl) (b_Box_DiterD h_iter)
 have qZcell : DF P w K mg base "_law_cell" 2 2 FnZcell := df_of FZcell scZcell (He.glo_ok X G (c.fact 6 (f := .glo "_law_cell") rfl)) (FunD.bindsN (ps := ["_law_script", "_law_k"]) FZcell fun _ _ _ _ _ _ us hl => match us, hl with | [_, _], _ => rfl) (bZcell (k := 0) h_len)
 have qZsource : DF P w K mg base "_law_source" 2 1 FnZsource := df_of FZsource scZsource (He.glo_ok X G (c.fact 7 (f := .glo "_law_source") rfl)) (FunD.bindsN (ps := ["_law_cell_here"]) FZsource fun _ _ _ _ _ _ us hl => match us, hl with | [_], _ => rfl) (bZsource (k := 0) )
 have qZdraw : DF P w K mg base "_law_draw" 2 2 FnZdraw := df_of FZdraw scZdraw (He.glo_ok X G (c.fact 8 (f := .glo "_law_draw") rfl)) (FunD.bindsN (ps := ["_law_source_here", "_law_limit"]) FZdraw fun _ _ _ _ _ _ us hl => match us, hl with | [_, _], _ => rfl) (bZdraw (k := 0) h_int)
 have qZdraw_sides : DF P w K mg base "_law_draw_sides" 4 4 FnZdraw_sides := df_of FZdraw_sides scZdraw_sides (He.glo_ok X G (c.fact 12 (f := .glo "_law_draw_sides") rfl)) (FunD.bindsN (ps := ["_law_shape", "_law_source_here", "_law_many", "_law_span"]) FZdraw_sides fun _ _ _ _ _ _ us hl => match us, hl with | [_, _, _, _], _ => rfl) (bZdraw_sides (k := 2) h_range (qZdraw.up (by decide)) h_max)
 have q_is_integer : DF P w K mg base "is_integer" 2 1 Fn_is_integer := df_of F_is_integer sc_is_integer (He.glo_ok X G (c.fact 1 (f := .glo "is_integer") rfl)) (FunD.bindsN (ps := ["value"]) F_is_integer fun _ _ _ _ _ _ us hl => match us, hl with | [_], _ => rfl) (b_is_integer (k := 0) h_int h_isinstance h_bool)
 have q_is_number : DF P w K mg base "is_number" 4 1 Fn_is_number := df_of F_is_number sc_is_number (He.glo_ok X G (c.fact 2 (f := .glo "is_number") rfl)) (FunD.bindsN (ps := ["value"]) F_is_number fun _ _ _ _ _ _ us hl => match us, hl with | [_], _ => rfl) (b_is_number (k := 2) (q_is_integer.up (by decide)))
 have q_ascending : DF P w K mg base "ascending" 2 1 Fn_ascending := df_of F_ascending sc_ascending (He.glo_ok X G (c.fact 3 (f := .glo "ascending") rfl)) (FunD.bindsN (ps := ["numbers"]) F_ascending fun _ _ _ _ _ _ us hl => match us, hl with | [_], _ => rfl) (b_ascending (k := 0) h_int h_sorted h_tuple)
 have q_grid : DF P w K mg base "grid" 2 1 Fn_grid := df_of F_grid sc_grid (He.glo_ok X G (c.fact 4 (f := .glo "grid") rfl)) (FunD.bindsN (ps := ["sides"]) F_grid fun _ _ _ _ _ _ us hl => match us, hl with | [_], _ => rfl) (b_grid (k := 0) )
 have qc_Box_DinitD : DM P w K mg base "Box" 6 2 Fn_Box_DinitD := dm_of (x := "Box") F_Box_DinitD sc_Box_DinitD (He.glo_ok X G (c.fact 22 (f := .glo "Box") rfl)) (He.mkr_ok (c.fact 25 (f := .mkr "Box") rfl)) (FunD.bindsN (ps := ["self", "sides"]) F_Box_DinitD fun _ _ _ _ _ _ us hl => match us, hl with | [_, _], _ => rfl) (b_Box_DinitD (k := 4) h_len (q_is_number.up (by decide)) (q_ascending.up (by decide)) h_tuple hf_sides (q_grid.up (by decide)) hf_rows)
 have qZclean : DF P w K mg base "_law_clean" 2 1 FnZclean := df_of FZclean scZclean (He.glo_ok X G (c.fact 13 (f := .glo "_law_clean") rfl)) (FunD.bindsN (ps := ["_law_side"]) FZclean fun _ _ _ _ _ _ us hl => match us, hl with | [_], _ => rfl) (bZclean (k := 0) h_int h_sorted)
 have qZis_integer : DF P w K mg base "_law_is_integer" 2 1 FnZis_integer := df_of FZis_integer scZis_integer (He.glo_ok X G (c.fact 9 (f := .glo "_law_is_integer") rfl)) (FunD.bindsN (ps := ["_law_actual"]) FZis_integer fun _ _ _ _ _ _ us hl => match us, hl with | [_], _ => rfl) (bZis_integer (k := 0) h_int h_isinstance h_bool)
 have qZis_numbers : DF P w K mg base "_law_is_numbers" 4 2 FnZis_numbers := df_of FZis_numbers scZis_numbers (He.glo_ok X G (c.fact 10 (f := .glo "_law_is_numbers") rfl)) (FunD.bindsN (ps := ["_law_actual", "_law_expected"]) FZis_numbers fun _ _ _ _ _ _ us hl => match us, hl with | [_, _], _ => rfl) (bZis_numbers (k := 2) h_tuple h_isinstance h_len h_range (qZis_integer.up (by decide)))
 have qm_Box_DcontainsD : DMeth P w K mg base "Box" "__contains__" 6 2 Fn_Box_DcontainsD := dmeth_of (x := "Box") (m := "__contains__") F_Box_DcontainsD sc_Box_DcontainsD (He.cls_ok (c.fact 23 (f := .cls "Box") rfl)) (He.meth_ok (c.fact 28 (f := .meth "Box" "__contains__") rfl)) (FunD.bindsN (ps := ["self", "combination"]) F_Box_DcontainsD fun _ _ _ _ _ _ us hl => match us, hl with | [_, _], _ => rfl) (b_Box_DcontainsD (k := 4) h_len hf_sides h_zip (q_is_number.up (by decide)))
 have qZis_sides : DF P w K mg base "_law_is_sides" 6 2 FnZis_sides := df_of FZis_sides scZis_sides (He.glo_ok X G (c.fact 14 (f := .glo "_law_is_sides") rfl)) (FunD.bindsN (ps := ["_law_actual", "_law_expected"]) FZis_sides fun _ _ _ _ _ _ us hl => match us, hl with | [_, _], _ => rfl) (bZis_sides (k := 4) h_tuple h_isinstance h_len h_range (qZis_numbers.up (by decide)))
 have qd_Box_DgetitemD : DDun P w K mg base "Box" "__getitem__" 2 2 Fn_Box_DgetitemD := ddun_of (x := "Box") (m := "__getitem__") F_Box_DgetitemD sc_Box_DgetitemD (He.cls_ok (c.fact 23 (f := .cls "Box") rfl)) (He.meth_ok (c.fact 27 (f := .meth "Box" "__getitem__") rfl)) (FunD.bindsN (ps := ["self", "at"]) F_Box_DgetitemD fun _ _ _ _ _ _ us hl => match us, hl with | [_, _], _ => rfl) (b_Box_DgetitemD (k := 0) hf_sides)
 have n16_ := FunD.bindsN (ps := ["_law_sides"]) FZcombos fun _ _ _ _ _ _ us hl => match us, hl with | [_], _ => rfl
 have qZcombos_0 : DF P w K mg base "_law_combos" 0 1 (FnZcombos 0) := ⟨fun _ _ z => (nomatch z), _, _, _, He.glo_ok X G (c.fact 11 (f := .glo "_law_combos") rfl), FZcombos.kp, n16_, ⟨fun vs H Q E ⟨_, _, _, _, _, _, _, z, _⟩ => (nomatch z), fun A outer s H args us vs Q E _ _ _ _ ⟨_, _, _, _, _, _, _, z, _⟩ => (nomatch z)⟩⟩
 have u13_ := He.glo_ok X G (c.fact 11 (f := .glo "_law_combos") rfl)
 have qZcombos_1 : DF P w K mg base "_law_combos" 2 1 (FnZcombos 1) := df_of FZcombos scZcombos u13_ n16_ (bZcombos (k := 0) h_len (qZcombos_0.up (by decide)))
 have qZcombos_2 : DF P w K mg base "_law_combos" 4 1 (FnZcombos 2) := df_of FZcombos scZcombos u13_ n16_ (bZcombos (k := 2) h_len (qZcombos_1.up (by decide)))
 have qZcombos_3 : DF P w K mg base "_law_combos" 6 1 (FnZcombos 3) := df_of FZcombos scZcombos u13_ n16_ (bZcombos (k := 4) h_len (qZcombos_2.up (by decide)))
 have qZcombos_4 : DF P w K mg base "_law_combos" 8 1 (FnZcombos 4) := df_of FZcombos scZcombos u13_ n16_ (bZcombos (k := 6) h_len (qZcombos_3.up (by decide)))
 have qZcombos_5 : DF P w K mg base "_law_combos" 10 1 (FnZcombos 5) := df_of FZcombos scZcombos u13_ n16_ (bZcombos (k := 8) h_len (qZcombos_4.up (by decide)))
 have qZcombos_6 : DF P w K mg base "_law_combos" 12 1 (FnZcombos 6) := df_of FZcombos scZcombos u13_ n16_ (bZcombos (k := 10) h_len (qZcombos_5.up (by decide)))
 have qZcombos_7 : DF P w K mg base "_law_combos" 14 1 (FnZcombos 7) := df_of FZcombos scZcombos u13_ n16_ (bZcombos (k := 12) h_len (qZcombos_6.up (by decide)))
 have qZcombos_8 : DF P w K mg base "_law_combos" 16 1 (FnZcombos 8) := df_of FZcombos scZcombos u13_ n16_ (bZcombos (k := 14) h_len (qZcombos_7.up (by decide)))
 have qZcombos_9 : DF P w K mg base "_law_combos" 18 1 (FnZcombos 9) := df_of FZcombos scZcombos u13_ n16_ (bZcombos (k := 16) h_len (qZcombos_8.up (by decide)))
 have qZis_rows : DF P w K mg base "_law_is_rows" 6 2 FnZis_rows := df_of FZis_rows scZis_rows (He.glo_ok X G (c.fact 15 (f := .glo "_law_is_rows") rfl)) (FunD.bindsN (ps := ["_law_actual", "_law_expected"]) FZis_rows fun _ _ _ _ _ _ us hl => match us, hl with | [_, _], _ => rfl) (bZis_rows (k := 4) h_list h_isinstance h_len h_range (qZis_numbers.up (by decide)))
 have qZis_box : DF P w K mg base "_law_is_box" 20 3 FnZis_box := df_of FZis_box scZis_box (He.glo_ok X G (c.fact 16 (f := .glo "_law_is_box") rfl)) (FunD.bindsN (ps := ["_law_box", "_law_clean_here", "_law_source_here"]) FZis_box fun _ _ _ _ _ _ us hl => match us, hl with | [_, _, _], _ => rfl) (bZis_box (k := 18) hf_sides (qZis_sides.up (by decide)) h_len h_range (qd_Box_DgetitemD.up (by decide)) (qZis_numbers.up (by decide)) (qZcombos_9.up (by decide)) hi_Box (qZis_rows.up (by decide)) ho_Box (by decide) h_list (qZdraw.up (by decide)) h_int (qm_Box_DcontainsD.up (by decide)) h_tuple)
 have body : FnOk P w K mg base (L2N.CX P w) 22 f fd ["_law_script"] (spD K 1 Fn_law) := fn_dataZ (ps := ["_law_script"]) (N := N_law) still_law F sc_law (b_law (k := 20) (qZcell.up (by decide)) (qZsource.up (by decide)) (qZdraw.up (by decide)) (qZdraw_sides.up (by decide)) h_list (qc_Box_DinitD.up (by decide)) h_tuple (qZclean.up (by decide)) h_range hi_Box ho_Box (by decide) h_len (qZis_numbers.up (by decide)) (qm_Box_DcontainsD.up (by decide)) (qZis_box.up (by decide)))
 exact body.imp fun vs H Q E q => spD_imp le_law q
theorem never {P : Program} {w : World} {K : PySem.W.Frag} {mg : Str → Option Value} {base : Heap} {k : Nat} {f : Addr} {fd : FuncData} {ps : List Str} {sp : Sp} (F : FnOk P w K mg base (L2N.CX P w) k f fd ps sp) : FnOk P w K mg base L2.CX0 k f fd ps (fun vs H Q _ => sp vs H Q fun _ _ _ => False) :=
 ⟨fun vs H Q E q => F.len _ _ _ _ q, fun A outer s H args us vs Q E hr he hb hv hs => codeAny_mono (F.run A outer s H args us vs Q _ hr he hb hv hs) fun r s' z => by
  cases r with
  | ok v => cases v <;> exact z
  | error e =>
   obtain ⟨_, _, _, _, _, _, _, _, _, _, _, _, z⟩ := z
   exact z.elim⟩
theorem sp_law {K : PySem.W.Frag} (H : Hp) (a : Addr) (ns : List Int) (h : SqL K H a (ns.map V.int)) : spD K 1 fn_law [.ref a] H (fun v _ => v = .bl true) fun _ _ _ => False := by
 refine ⟨⟨fun _ => none, [some (.ref a)]⟩, H, [.val (.scr ns)], _, rfl, rfl, ⟨fun _ _ z => (nomatch z), Same.refl H, fun _ _ z => (nomatch z), rfl, fun i d z => ?_, fun i d z => ?_, fun i j d e b z => ?_, fun i d z => ?_⟩, rfl, fun v G' H' _ _ k => k⟩
 · cases i with
   | zero => cases z; exact ⟨.ref a, rfl, a, rfl, h⟩
   | succ i => cases z
 · cases i <;> cases z
 · cases i <;> cases z
 · cases i <;> cases z
theorem facts {P : Program} {w : World} {K : PySem.W.Frag} {h : Heap} {mg : Str → Option Value} {f : Addr} (X : K.In h) (G : h.Ns mainGlobals mg) (hfa : mg ("law" : Str) = some (.ref f)) (ce : SaysE ocs fa fn K) :
  ∃ fd : FuncData, (∀ (s : Shared) (v : Value), BindsTo s fd ⟨[v], []⟩ [("_law_script", v)]) ∧ ∀ base : Heap, K.In base → base.Ns mainGlobals mg → FnOk P w K mg base L2.CX0 22 f fd ["_law_script"] (fun vs H Q _ => spD K 1 fn_law vs H Q fun _ _ _ => False) := by
 have c := ce.d
 obtain ⟨fd, F⟩ := c.def_ 17 (d := d_law) rfl
 have e := hfa.symm.trans (He.glo_ok X G (c.fact 17 (f := .glo "law") rfl))
 cases e
 have b := FunD.bindsA (ps := ["_law_script"]) F fun _ _ _ _ _ _ us hl => match us, hl with | [_], _ => rfl
 exact ⟨fd, fun s v => b s [v] rfl, fun base X2 G2 => never (all X2 G2 ce F)⟩
end My
open PySem PySem.W PySem.Calls PyProof.Rows
theorem PySem.Challenge.cw_plainask_k02_box_holds : PySem.Challenge.rw_plainask_k02_box.Holds := by
 w_on; o_law
 refine HandSHeadRun.head_any (r := OpenLaw.row PySem.Challenge.rw_plainask_k02_box) (q := view (OpenLaw.row PySem.Challenge.rw_plainask_k02_box).prog [25]) (H := My.hk) (ob := My.ob) (M := 8000) (loose := My.loose) (d := HandSHeadRun.topDef (OpenLaw.row PySem.Challenge.rw_plainask_k02_box).prog 25) (kwd := []) My.ob_eq
  (by kernel_rfl) (fun s => by kernel_rfl) My.run (by kernel_rfl) (by kernel_rfl) (by kernel_rfl) (by rfl) (by first | assumption | decide +kernel) (by decide +kernel) ⟨rfl, rfl, rfl, rfl, rfl, by decide +kernel⟩ ?hw ?hc
 case hw => w_witness2
 case hc =>
  refine L2.walk_ofE (l := PySem.Challenge.rw_plainask_k02_box) (n := 63) (k := 22) (x := "_law_script") (CX := L2.CX0) rfl (by decide) (by kernel_rfl) ⟨rfl, by decide, by decide⟩ ?F (fun _ _ _ _ z => z)
  intro w mg fa h Y G hmg0
  obtain ⟨K, KX, c⟩ := Y
  have hmg : mg ("law" : PySem.Str) = some (.ref fa) := by
   have e : (HandSHeadRun.topDef (OpenLaw.row PySem.Challenge.rw_plainask_k02_box).prog 25).name = ("law" : PySem.Str) := by kernel_rfl
   rw [← e]
   exact hmg0
  obtain ⟨fd, hb, hF⟩ := My.facts (P := (PySem.Challenge.rw_plainask_k02_box).prog) (w := w) KX G hmg c
  exact ⟨K, fd, (fun vs H Q _ => Dl.spD K 1 My.fn_law vs H Q fun _ _ _ => False), KX, hb, fun H a ns hl _ hS => My.sp_law H a ns hS, hF⟩
